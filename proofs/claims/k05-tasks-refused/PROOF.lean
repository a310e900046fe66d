import PyProof.Rows.All
import Wide.All
import OpenK.AllK
import Wide.FinOn
import HandS.ForMost
import HandS.SetTxt0
import HandS.Set
import HandS.SetFor
import HandS.Strs
import HandS.More
import PyProof.ReprRoads
import PyProof.CallFns
import KE.KStateDown
import HandS.Defaults
import HandS.Head0
import HandS.Head1
import HandS.Head2
import HandS.HeadEnd
import HandS.HeadHook1
import HandS.HeadHook2
import HandS.Conv
import HandS.TupAny
import HandS.Wide
import HandS.Flow
import HandS.NoneIn
import HandS.IsInst
import HandS.Text
import HandS.Property
import HandS.OwnEq
import HandS.MakeKwOnly
import HandS.MakeKw
import KE.KExcSuper
import KE.RegKSuper
import HandS.Exc
import HandS.ExcInit
import HandS.ExcField
import HandS.ExcIs
import HandS.ExcSuper
import KE.KIsAll
import KE.KTryMore
import HandS.WordsExc
import HandS.RaiseMore
import HandS.ExcOwn
import PySem.Challenge.RW_fewhands_k05_tasks_refused
set_option Elab.async false
set_option linter.all false
set_option maxRecDepth 100000
set_option maxHeartbeats 4000000
/-! sets of texts: made of a list or a tuple, counted, sorted -/
namespace Ys
open PySem PySem.Spec PyProof.Rows L2

/-- what stands at a: a set of the texts l, each of them once -/
def TxSet (P : Program) (w : World) (h : Heap) (a : Addr) (l : List Str) : Prop :=
  ∃ D : Froz.SD, h.get? a = some (Froz.sObj "set" D) ∧ Froz.TxOk P w D l ∧ l.Nodup ∧ Ris D.2.2.place.toList ∧ (w.params.followText "set-order" = true ∨ D.2.2.led = true)

section
variable {P : Program} {w : World} {A : Around} {E : Value → Shared → Prop} {s : Shared}

theorem TxSet.same {h h' : Heap} {a : Addr} {l : List Str} (R : TxSet P w h a l) (k : ∀ o, h.get? a = some o → h'.get? a = some o) : TxSet P w h' a l :=
  let ⟨D, e, r⟩ := R
  ⟨D, k _ e, r⟩

theorem tail_tab (ep : Nat) (es : Array (Int × Value)) (t : SetTable) (b : Bool) (r : Ris t.place.toList) : Ris (Froz.tailTx ep es t b).2.2.place.toList ∧ (Froz.tailTx ep es t b).2.2.led = t.led := by
  unfold Froz.tailTx
  by_cases c : (!b && t.tooFull) = true
  · rw [if_pos c]
    exact ⟨relayAll_ris _ _ _, relayAll_led _ _ _⟩
  · rw [if_neg c]
    exact ⟨r, rfl⟩
theorem add_tab (hs : Int) (v : Value) (D : Froz.SD) (r : Ris D.2.2.place.toList) : Ris (Froz.addTx hs v D).2.2.place.toList ∧ (Froz.addTx hs v D).2.2.led = D.2.2.led := by
  have r1 := layNew_ris D.2.2 D.1 hs v r
  have l1 := layNew_led D.2.2 D.1 hs v
  unfold Froz.addTx
  have core : ∀ t : SetTable, Ris t.place.toList → t.led = D.2.2.led → ∀ ep es b, Ris (Froz.tailTx ep es t b).2.2.place.toList ∧ (Froz.tailTx ep es t b).2.2.led = D.2.2.led := fun t h1 h2 ep es b =>
    ⟨(tail_tab ep es t b h1).1, (tail_tab ep es t b h1).2.trans h2⟩
  refine core _ ?_ ?_ _ _ _
  · split
    · exact r1
    · exact r1
  · split
    · exact l1
    · exact l1

/-- a text that is there already -/
theorem add_there {a : Addr} {D : Froz.SD} {l : List Str} {k : Str} {u : Tok} {Q : Bool → Shared → Prop} (ho : s.heap.get? a = some (Froz.sObj "set" D)) (F : Froz.TxOk P w D l) (hk : k ∈ l) (hb : l.length < scanBound)
    (h : Q false s) : wpAny (model P w) A (setAddHashed a (.str k u) (hashStr w k)) Q E s := by
  obtain ⟨es, ep, t⟩ := D
  have e1 : (Froz.sObj "set" (es, ep, t)).data = .set es ep t := rfl
  have e2 : t.fits es.size = true := F.fit
  have e3 : ElemsOf (PySem.strKind P w) es.toList := F.el
  have e4 : es.size < scanBound := by
    have z : es.size = l.length := F.sz
    rw [z]
    exact hb
  have e5 : (PySem.strKind P w).is k (.str k u) = true := Froz.is_str k u
  unfold setAddHashed setAddHashedIn
  refine wpAny_holding (wpAny_bind (wpAny_setState_of ho e1 e2 ?_))
  dsimp only
  rw [byScan_of rfl e4 e3]
  simp only [↓reduceIte]
  unfold setAddByScan
  refine wpAny_bind (wpAny_bind (wpAny_rule (wpAny_bind (wpAny_setScan_of (knd := PySem.strKind P w) (k := k) e5 ho e1 e2 e3 ?_))))
  cases q : List.findIdx? (fun e => (PySem.strKind P w).is k e.2) es.toList with
  | some j =>
    dsimp only
    exact wpAny_pure (wpAny_pure h)
  | none =>
    obtain ⟨e, he, z⟩ := (F.mem k).mp hk
    have y := List.findIdx?_eq_none_iff.mp q e he
    rw [z] at y
    cases y
/-- one more text -/
theorem add_txt {a : Addr} {l : List Str} {k : Str} {u : Tok} {Q : Bool → Shared → Prop} (R : TxSet P w s.heap a l) (hb : l.length + 1 < scanBound)
    (h : ∀ (b : Bool) (h' : Heap) (l' : List Str), Heap.SameBut a s.heap h' → TxSet P w h' a l' → (∀ x, x ∈ l' ↔ x ∈ l ∨ x = k) → l'.length ≤ l.length + 1 → Q b { s with heap := h' }) :
    wpAny (model P w) A (setAddHashed a (.str k u) (hashStr w k)) Q E s := by
  obtain ⟨D, ho, F, nd, r, ld⟩ := R
  by_cases hk : k ∈ l
  · refine add_there ho F hk (by omega) ?_
    refine h false s.heap l (Heap.SameBut.refl a s.heap) ⟨D, ho, F, nd, r, ld⟩ (fun x => ⟨.inl, fun z => z.elim id fun e => e ▸ hk⟩) (Nat.le_succ _)
  · refine Froz.add_x ho F hk hb ?_
    have ex : (s.heap.update a (fun _ => Froz.sObj "set" (Froz.addTx (hashStr w k) (.str k u) D))).get? a = some (Froz.sObj "set" (Froz.addTx (hashStr w k) (.str k u) D)) := Froz.get_upd _ ho rfl
    obtain ⟨t1, t2⟩ := add_tab (hashStr w k) (.str k u) D r
    refine h true _ (k :: l) (Heap.SameBut.update s.heap a _) ⟨_, ex, Froz.add_ok u F, List.nodup_cons.mpr ⟨hk, nd⟩, t1, ?_⟩ (fun x => ?_) (Nat.le_refl _)
    · rw [t2]
      exact ld
    · rw [List.mem_cons]
      exact Or.comm

/-- the loop that fills the set -/
theorem fill_txt {I : Addr} {fp wr : List Addr} {G : Array GenState → Array GenState → Prop} {n : Nat} {Pv : Nat → Value → Prop} {St : Nat → Shared → Prop} {R : Result → Shared → Prop}
    (W : WalksS P w A.in1 I fp wr G n Pv St) (S : Addr) (hS : S ∉ fp) (xs : List Str) (hn : xs.length = n) (hfew : n + 1 < scanBound) (hval : ∀ i v, Pv i v → ∃ t, v = .str (xs.getD i Str.empty) t) :
    ∀ (k i : Nat) (s : Shared), n - i = k → i ≤ n → St i s → (∃ l, TxSet P w s.heap S l ∧ (∀ x, x ∈ l ↔ x ∈ xs.take i) ∧ l.length ≤ i) →
      (∀ s' l, Moved (S :: wr) G s s' → TxSet P w s'.heap S l → (∀ x, x ∈ l ↔ x ∈ xs) → l.length ≤ n → R (.ok (.ret .none)) s') →
      codeAny (model P w) A (.builtin "set.update.loop" ⟨[.ref S, .ref I], []⟩) R s := by
  have nw : S ∉ wr := fun z => hS (W.sub _ z)
  have sub : ∀ b ∈ wr, b ∈ S :: wr := fun b hb => List.mem_cons_of_mem _ hb
  intro k
  induction k with
  | zero =>
    intro i s hk hi st ⟨l, T, m, len⟩ hR
    obtain rfl : i = n := by omega
    refine codeAny_builtin PyProof.Rows.F.entry_set_update_loop ?_
    rw [Around.under_plainId PyProof.Rows.F.plain_set_update_loop _]
    refine wpAny_bind (W.done s _ _ st fun s' mv => ?_)
    refine wpAny_pure (hR s' l (mv.mono sub) (T.same fun o e => mv.heap S o nw e) (fun x => ?_) len)
    rw [m x, ← hn, List.take_length]
  | succ k ih =>
    intro i s hk hi st ⟨l, T, m, len⟩ hR
    have hlt : i < n := by omega
    refine codeAny_builtin PyProof.Rows.F.entry_set_update_loop ?_
    rw [Around.under_plainId PyProof.Rows.F.plain_set_update_loop _]
    refine wpAny_bind (W.item i s _ _ hlt st fun v s' hv st' mv => ?_)
    obtain ⟨t, rfl⟩ := hval i v hv
    have T' : TxSet P w s'.heap S l := T.same fun o e => mv.heap S o nw e
    refine wpAny_bind (wpAny_holding ?_)
    unfold setAdd
    refine wpAny_holding (wpAny_bind ((PySem.strKind P w).pyHash (k := xs.getD i Str.empty) (strKind_is _ _ _ _) ?_))
    refine add_txt (s := { s' with toks := s'.toks + 1 }) T' (by omega) fun b h' l' hsb T2 m2 len2 => ?_
    have hg : xs[i]? = some (xs.getD i Str.empty) := by
      have : i < xs.length := by omega
      rw [List.getD_eq_getElem?_getD, List.getElem?_eq_getElem this]
      rfl
    refine wpAny_pure ⟨plainId_quiet PyProof.Rows.F.plain_set_update_loop _, ih (i + 1) _ (by omega) hlt (W.frame _ s' _ _ st' (Nat.le_succ _) fun b hb o e => ?_) ⟨l', T2, fun x => ?_, by omega⟩ fun s'' l2 mv'' T'' m'' len'' => ?_⟩
    · rw [hsb.2 b (fun z : b = S => hS (by rw [← z]; exact hb))]
      exact e
    · rw [m2 x, m x, List.take_succ, hg, List.mem_append]
      simp
    · refine hR s'' l2 (Moved.trans W.gtrans ((mv.mono sub).then_heap (Nat.le_succ _) fun b o hb e => ?_) mv'') T'' m'' len''
      rw [hsb.2 b (fun z : b = S => hb (by rw [z]; exact List.mem_cons_self))]
      exact e
end
end Ys
namespace Ys
open PySem PySem.Spec PyProof.Rows L2
section
variable {P : Program} {w : World} {A : Around} {E : Value → Shared → Prop} {s : Shared}
abbrev bare (w : World) : Obj := { cls := .type "set", dict := none, data := .set #[] 0 (.fresh 0 0 (!w.params.followText "set-order")) }
theorem none_from {h : Heap} {b : Addr} (z : h.objs.size ≤ b) : h.get? b = none := by
  cases q : h.get? b with
  | none => rfl
  | some o => exact absurd (Nat.lt_of_lt_of_le (Heap.lt_size q) z) (Nat.lt_irrefl _)
theorem bare_txt {h : Heap} {a : Addr} (e : h.get? a = some (bare w)) : TxSet P w h a [] := by
  refine ⟨(#[], 0, .fresh 0 0 (!w.params.followText "set-order")), e, Froz.TxOk.nil rfl, List.nodup_nil, List.Pairwise.nil, ?_⟩
  show _ ∨ (!w.params.followText "set-order") = true
  cases w.params.followText "set-order"
  · exact .inr rfl
  · exact .inl rfl
/-- what a source of texts is: its class, and how it is walked -/
structure TxSrc (P : Program) (w : World) (T : String) (l : Addr) (xs : List Str) (h : Heap) : Prop where
  type : ∀ s' : Shared, (∀ b o, h.get? b = some o → s'.heap.get? b = some o) → s'.TypeIs (.ref l) T
  set : isSubtype (.type T) (.type "set") = pure false
  froz : isSubtype (.type T) (.type "frozenset") = pure false
  nd : (Value.type T == Value.type "dict") = false
  lt : l < h.objs.size
  iter : ∀ (A : Around) (s' : Shared) (E : Value → Shared → Prop) (Q : Value → Shared → Prop), (∀ b o, h.get? b = some o → s'.heap.get? b = some o) →
    (∀ it : Obj, (∀ A' : Around, A'.handled = none → l ≠ s'.heap.objs.size → ∃ (Pv : Nat → Value → Prop) (St : Nat → Heap → Prop),
        Walks P w A' s'.heap.objs.size [s'.heap.objs.size, l] [s'.heap.objs.size] xs.length Pv St ∧ (∀ i v, Pv i v → ∃ t, v = .str (xs.getD i Str.empty) t) ∧ St 0 (s'.heap.push it)) →
      Q (.ref s'.heap.objs.size) { s' with heap := s'.heap.push it }) →
    wpAny (model P w) A (pyIter (.ref l)) Q E s'
theorem src_list {l : Addr} {items : Array Value} {xs : List Str} {h : Heap} (hl : h.IsList l items) (hi : StrsAre items.toList xs) : TxSrc P w "list" l xs h where
  type := fun s' k => by
    obtain ⟨o, e, c, _⟩ := hl
    exact ⟨o, k _ _ e, c⟩
  set := F.sub_list_set
  froz := F.sub_list_frozenset
  nd := by decide
  lt := by
    obtain ⟨o, e, _⟩ := hl
    exact Heap.lt_size e
  iter := fun A s' E Q k hQ => by
    have hl' : s'.heap.IsList l items := by
      obtain ⟨o, e, r⟩ := hl
      exact ⟨o, k _ _ e, r⟩
    refine wpAny_pyIter_list hl' (hQ _ fun A' hA ne => ⟨fun i v => items[i]? = some v, fun i z => z.IsListIter s'.heap.objs.size l i ∧ z.IsList l items, ?_, fun i v hv => SS.strs_at hi i v (by rw [Array.getElem?_toList]; exact hv), ⟨⟨_, Heap.get?_push_size _ rfl, rfl, rfl⟩, hl'.push _⟩⟩)
    have e : xs.length = items.size := by rw [← StrsAre.len_eq hi, Array.length_toList]
    rw [e]
    exact Walks.list hA _ l ne items
theorem src_tuple {l : Addr} {items : Array Value} {xs : List Str} {h : Heap} (hl : h.IsTuple l items) (hi : StrsAre items.toList xs) : TxSrc P w "tuple" l xs h where
  type := fun s' k => by
    obtain ⟨o, e, c, _⟩ := hl
    exact ⟨o, k _ _ e, c⟩
  set := F.sub_tuple_set
  froz := F.sub_tuple_frozenset
  nd := by decide
  lt := by
    obtain ⟨o, e, _⟩ := hl
    exact Heap.lt_size e
  iter := fun A s' E Q k hQ => by
    have hl' : s'.heap.IsTuple l items := by
      obtain ⟨o, e, r⟩ := hl
      exact ⟨o, k _ _ e, r⟩
    refine wpAny_pyIter_tuple hl' (hQ _ fun A' hA ne => ⟨fun i v => items[i]? = some v, fun i z => z.IsTupleIter s'.heap.objs.size l i ∧ z.IsTuple l items, ?_, fun i v hv => SS.strs_at hi i v (by rw [Array.getElem?_toList]; exact hv), ⟨⟨_, Heap.get?_push_size _ rfl, rfl, rfl⟩, hl'.push _⟩⟩)
    have e : xs.length = items.size := by rw [← StrsAre.len_eq hi, Array.length_toList]
    rw [e]
    exact Walks.tuple hA _ l ne items

/-- set(texts) -/
theorem make_txt {T : String} {l : Addr} {xs : List Str} {Q : Value → Shared → Prop} (hh : A.handled = none) (S : TxSrc P w T l xs s.heap) (few : xs.length + 1 < scanBound)
    (h : ∀ (h' : Heap) (tk : Nat) (l' : List Str), TxSet P w h' s.heap.objs.size l' → (∀ x, x ∈ l' ↔ x ∈ xs) → l'.length ≤ xs.length → (∀ b o, s.heap.get? b = some o → h'.get? b = some o) →
      Q (.ref s.heap.objs.size) { s with heap := h', toks := tk }) : wpAny (model P w) A (call (.type "set") [.ref l]) Q E s := by
  have a1 := F.called_set.made
  have a2 := F.called_set.sub
  have a3 := F.called_set.notType
  have a4 := F.called_set.canCreate
  have a5 := F.typeCall_set_1 (.ref l)
  obtain ⟨c, tl, a6⟩ := F.called_set.mro
  refine wpAny_call (codeAny_of_tree ?_)
  show wpAny _ _ (callAny (.type "set") _) _ _ _
  refine wpAny_pure ⟨Code.quiet_builtin _ (by decide +kernel), codeAny_builtin F.entry_type_call ?_⟩
  rw [Around.under_plain (weight_type_call_type "set" [.ref l] []) rfl]
  repeat (any_goals (first | assumption | wp_step))
  refine codeAny_mono (L2.code_set_led1 (.ref l) (E := E) (Q₁ := fun v z => v = .ref s.heap.objs.size ∧ z = { s with heap := s.heap.push (bare w) }) ⟨rfl, rfl⟩) fun r s1 hr => ?_
  cases r with
  | error e => exact hr
  | ok fl =>
    cases fl with
    | next => exact hr.elim
    | brk => exact hr.elim
    | cont => exact hr.elim
    | ret v =>
      obtain ⟨rfl, rfl⟩ := hr
      have b0 : (s.heap.push (bare w)).get? s.heap.objs.size = some (bare w) := Heap.get?_push_size _ rfl
      have b1 : Shared.TypeIs { s with heap := s.heap.push (bare w) } (.ref s.heap.objs.size) "set" := ⟨_, b0, rfl⟩
      have b2 := F.called_set.init.lookup
      have b3 := F.called_set.init.bind (.ref s.heap.objs.size)
      repeat (any_goals (first | assumption | wp_step))
      refine codeAny_mono (codeAny_call_builtin (R := wants (fun r z => r = .none ∧ ∃ h' tk l', z = { s with heap := h', toks := tk } ∧ TxSet P w h' s.heap.objs.size l' ∧ (∀ x, x ∈ l' ↔ x ∈ xs) ∧ l'.length ≤ xs.length ∧
          (∀ b o, s.heap.get? b = some o → h'.get? b = some o)) E) F.called_set.init.plain F.entry_set_init (check_set_init_1 b1 ?_)) fun r2 s2 hr2 => ?_
      · have k1 : ∀ b o, s.heap.get? b = some o → (s.heap.push (bare w)).get? b = some o := fun b o e => Heap.get?_push_of_some _ e
        have c1 : Shared.TypeIs { s with heap := s.heap.push (bare w) } (.ref l) T := S.type _ k1
        have c2 := S.set
        have c3 := S.froz
        have c4 := S.nd
        unfold Builtin.«set.__init__» noKeywords Builtin.Frozenset.updateFrom
        generalize hPI : pyIter = PI
        wp_walk
        subst hPI
        have hsz : (s.heap.push (bare w)).objs.size = s.heap.objs.size + 1 := Heap.size_push ..
        have lt := S.lt
        refine S.iter _ _ _ _ k1 fun it hit => ?_
        refine wpAny_bind (wpAny_runValue ?_)
        obtain ⟨Pv, St, W, hv, st⟩ := hit A.in1.in1.in1 (by simp [hh]) (by show l ≠ (s.heap.push (bare w)).objs.size; rw [hsz]; exact Nat.ne_of_lt (Nat.lt_succ_of_lt lt))
        have ns : s.heap.objs.size ∉ [(s.heap.push (bare w)).objs.size, l] := by
          rw [hsz]
          simp only [List.mem_cons, List.not_mem_nil, or_false, not_or]
          exact ⟨Nat.ne_of_lt (Nat.lt_succ_self _), Nat.ne_of_gt lt⟩
        refine fill_txt W.toS s.heap.objs.size ns xs rfl few hv (xs.length - 0) 0 _ (by omega) (Nat.zero_le _) st ⟨[], ?_, (fun x => by simp), Nat.zero_le _⟩ fun s' l' mv T' m len => ?_
        · exact bare_txt (Heap.get?_push_of_some _ b0)
        · obtain ⟨h', g', d', tk', os'⟩ := s'
          obtain rfl : g' = s.gens := mv.gens
          obtain rfl : d' = s.drawn := mv.drawn
          obtain rfl : os' = s.os := mv.os
          refine wpAny_pure (wpAny_pure ⟨rfl, h', tk', l', rfl, T', m, len, fun b o e => ?_⟩)
          have hb : b < s.heap.objs.size := Heap.lt_size e
          refine mv.heap b o ?_ (Heap.get?_push_of_some _ (Heap.get?_push_of_some _ e))
          simp only [List.mem_cons, List.not_mem_nil, or_false, not_or]
          refine ⟨Nat.ne_of_lt hb, ?_⟩
          show b ≠ (s.heap.push (bare w)).objs.size
          rw [hsz]
          exact Nat.ne_of_lt (Nat.lt_succ_of_lt hb)
      · cases r2 with
        | error e => exact hr2
        | ok f2 =>
          cases f2 with
          | next => exact hr2.elim
          | brk => exact hr2.elim
          | cont => exact hr2.elim
          | ret r =>
            obtain ⟨rfl, h', tk, l', rfl, T', m, len, k⟩ := hr2
            repeat (any_goals (first | assumption | wp_step))
            exact h _ _ _ T' m len k
end
end Ys
namespace Ys
open PySem PySem.Spec PyProof.Rows L2
section
variable {P : Program} {w : World} {A : Around} {E : Value → Shared → Prop} {s : Shared}
theorem txt_vals {es : List (Int × Value)} (h : ElemsOf (PySem.strKind P w) es) : ∀ e ∈ es, ∃ (x : Str) (t : Tok), e.2 = .str x t := fun e he => by
  obtain ⟨⟨k, hk, _⟩, _⟩ := h e he
  obtain ⟨t, q⟩ := Value.isStrOf_shape (x := k) (v := e.2) hk
  exact ⟨k, t, q⟩
def txtOf : Value → Str
  | .str x _ => x
  | _ => Str.empty
theorem strsAre_txt : ∀ {us : List Value}, (∀ u ∈ us, ∃ (x : Str) (t : Tok), u = .str x t) → StrsAre us (us.map txtOf)
  | [], _ => .nil
  | u :: us, h => by
    obtain ⟨x, t, rfl⟩ := h u List.mem_cons_self
    exact .cons x t (strsAre_txt fun v hv => h v (List.mem_cons_of_mem _ hv))
theorem perm_len : ∀ (l m : List Str), l.Nodup → (∀ x ∈ l, x ∈ m) → m.length ≤ l.length → m.Perm l
  | [], m, _, _, h => by
    have e : m = [] := List.length_eq_zero_iff.mp (Nat.le_zero.mp h)
    rw [e]
  | x :: l, m, nd, h, hl => by
    obtain ⟨n1, n2⟩ := List.nodup_cons.mp nd
    have hx : x ∈ m := h x List.mem_cons_self
    have p := List.perm_cons_erase hx
    have e : m.length = (m.erase x).length + 1 := by rw [p.length_eq, List.length_cons]
    refine p.trans (.cons x (perm_len l (m.erase x) n2 (fun y hy => ?_) (by rw [List.length_cons] at hl; omega)))
    have ne : y ≠ x := fun z => n1 (z ▸ hy)
    exact (List.mem_erase_of_ne ne).mpr (h y (List.mem_cons_of_mem _ hy))
/-- sorted(a set of texts) -/
theorem sort_txt {a : Addr} {l : List Str} {Q : Value → Shared → Prop} (hh : A.handled = none) (T : TxSet P w s.heap a l) (few : l.length < 64)
    (hQ : ∀ s' p (out : List Value) (c : Nat) (ys : List Str), (∀ b o, s.heap.get? b = some o → s'.heap.get? b = some o) → s'.gens = s.gens → s'.os = s.os → s.heap.objs.size ≤ p →
      s'.heap.get? p = some { cls := .type "list", data := .seq out.toArray c } → StrsAre out ys → ys.Perm l → sortedS ys = true → Q (.ref p) s') :
    wpAny (model P w) A (call (.builtin "sorted") [.ref a]) Q E s := by
  obtain ⟨⟨es, ep, t⟩, ho, F, nd, r, ld⟩ := T
  have fit : t.fits es.size = true := F.fit
  have sz : es.size = l.length := F.sz
  have el : ElemsOf (PySem.strKind P w) es.toList := F.el
  have vals := txt_vals el
  refine Calls.call_function_entry kind_sorted plain_sorted entry_sorted (args_sorted1 _) ?_
  unfold Builtin.«sorted»
  refine wpAny_bind (m := checkCount "sorted" 1 1 _) (wpAny_pure ?_)
  refine wpAny_bind (collect_set (A := A.in1) hh ⟨_, ho, rfl, rfl⟩ fit (by rw [sz]; unfold scanBound; omega) r ld fun s1 vs k1 hz g1 o1 pm => ?_)
  have hv : ∀ v ∈ vs, ∃ (x : Str) (t : Tok), v = .str x t := fun v hv => by
    obtain ⟨e, he, q⟩ := List.mem_map.mp (pm.mem_iff.mp hv)
    obtain ⟨x, t, z⟩ := vals e he
    exact ⟨x, t, by rw [← q, z]⟩
  have hS := strsAre_txt hv
  have hlen : vs.length = l.length := by rw [pm.length_eq, List.length_map, Array.length_toList, sz]
  -- the texts of the set's entries are l, in some order
  have pl : (vs.map txtOf).Perm l := by
    have p1 : (vs.map txtOf).Perm ((es.toList.map (·.2)).map txtOf) := pm.map txtOf
    have mem : ∀ x, x ∈ (es.toList.map (·.2)).map txtOf ↔ x ∈ l := fun x => by
      rw [F.mem x, List.map_map, List.mem_map]
      constructor
      · rintro ⟨e, he, q⟩
        obtain ⟨y, t, z⟩ := vals e he
        refine ⟨e, he, ?_⟩
        have : y = x := by
          have q' : txtOf e.2 = x := q
          rw [z] at q'
          exact q'
        rw [z, this]
        exact Froz.is_str x t
      · rintro ⟨e, he, q⟩
        obtain ⟨t, z⟩ := Value.isStrOf_shape (x := x) (v := e.2) q
        exact ⟨e, he, by show txtOf e.2 = x; rw [z]; rfl⟩
    have len : ((es.toList.map (·.2)).map txtOf).length = l.length := by rw [List.length_map, List.length_map, Array.length_toList, sz]
    refine p1.trans ?_
    exact perm_len l _ nd (fun x hx => (mem x).mpr hx) (Nat.le_of_eq len)
  refine wpAny_bind (wpAny_newList ?_ (by rw [hlen, sizeLine_eq]; omega))
  have hoL : (s1.heap.push (seqObj "list" vs.toArray 0)).get? s1.heap.objs.size = some (seqObj "list" vs.toArray 0) := Heap.get?_push_size _ rfl
  show wpAny _ _ _ _ _ { s1 with heap := s1.heap.push (seqObj "list" vs.toArray 0) }
  refine wpAny_bind (wpAny_holding (wpAny_call_entry slot_list_sort ⟨_, hoL, rfl⟩ entry_list_sort
    (list_sort_treeK strKind_oneLt (s := { s1 with heap := s1.heap.push (seqObj "list" vs.toArray 0) }) hoL hS.keysOf (fun v1 v2 rest e => keyKind_strs (by rw [← e]; exact hS)) (by rw [hlen]; exact few) fun st' hp hs => ⟨_, rfl, ?_⟩)
    (args_list_sort _)))
  obtain ⟨ys, b1, b2, b3⟩ := sorted_out_str hS hp hs
  obtain ⟨c, hc⟩ := sortedHeap_at (vs := vs) (out := (arrOf st').map (·.2)) hoL
  refine wpAny_pure ⟨_, rfl, hQ _ s1.heap.objs.size ((arrOf st').map (·.2)).toList c ys (fun b u e => ?_) g1 o1 hz (by rw [Array.toArray_toList]; exact hc) b1 (b2.trans pl) b3⟩
  have q := k1 b u e
  have hlt := Heap.lt_size q
  show (sortedHeap (s1.heap.push (seqObj "list" vs.toArray 0)) s1.heap.objs.size vs ((arrOf st').map (·.2))).get? b = some u
  rw [sortedHeap_old (Nat.ne_of_lt hlt) (by rw [size_push']; exact Nat.lt_succ_of_lt hlt)]
  exact Heap.get?_push_of_some _ q
end

/-! ### over the abstract heap -/
def TxO (P : Program) (w : World) (a : Addr) (l : List Str) : HO := .ext fun h => TxSet P w h a l
section
variable {X : Cx}
theorem txO_ok {P : Program} {w : World} {H : Hp} {h : Heap} {a : Addr} {l : List Str} (T : TxSet P w h a l) : ObjOk P w H h a (TxO P w a l) := by
  have ⟨D, e, _⟩ := T
  exact ⟨T, ⟨_, e⟩, fun h1 h2 p k => TxSet.same p k⟩
def rSetTx (K : PySem.W.Frag) (P : Program) (w : World) : List V → Hp → VK → Prop := fun vs H Q => ∃ (p : Addr) (xs : List Str), vs = [V.ref p] ∧ (SqL K H p (xs.map V.str) ∨ SqT K H p (xs.map V.str)) ∧ xs.length < 1000 ∧
  ∀ a l, (∀ x, x ∈ l ↔ x ∈ xs) → l.Nodup → l.length ≤ xs.length → H a = none → Q (.ref a) (upd H a (TxO P w a l))
theorem cr_setTx (hc : X.calm = true) : CallR X (.type "set") (rSetTx X.K X.prog X.w) := by
  intro pins s σ H vs us Q I r h
  obtain ⟨p, xs, rfl, hq, few, q⟩ := h
  rw [Vals.ref1 r]
  have fin : ∀ T, TxSrc X.prog X.w T p xs s.heap → wpAny (model X.prog X.w) X.A (call (.type "set") [.ref p]) (EP X pins σ Q) X.xe s := fun T S => by
    refine make_txt (I.ok.hd hc) S (by unfold scanBound; omega) fun h' tk l' T' m len k => ?_
    have nd : l'.Nodup := let ⟨_, _, _, nd, _⟩ := T'; nd
    exact ⟨.ref s.heap.objs.size, upd H s.heap.objs.size (TxO X.prog X.w s.heap.objs.size l'), I.laid (t' := tk) k (Nat.le_refl _) (txO_ok T'), rfl, q _ l' m nd len (I.hok.fresh (Nat.le_refl _))⟩
  rcases hq with hq | hq
  · obtain ⟨its, rv, pl, hz⟩ := I.list hq
    exact fin "list" (src_list pl.isList (by simpa using rv.strs))
  · obtain ⟨its, rv, pl, hz⟩ := I.tuple hq
    exact fin "tuple" (src_tuple pl (by simpa using rv.strs))
def rSortTx (P : Program) (w : World) : List V → Hp → VK → Prop := fun vs H Q => ∃ (a : Addr) (l : List Str), vs = [V.ref a] ∧ H a = some (TxO P w a l) ∧ l.length < 64 ∧
  ∀ (ys : List Str) (p : Addr), ys.Perm l → sortedS ys = true → H p = none → Q (.ref p) (upd H p (.lst (ys.map V.str)))
theorem cr_sortTx (hc : X.calm = true) : CallR X (.builtin "sorted") (rSortTx X.prog X.w) := by
  intro pins s σ H vs us Q I r h
  obtain ⟨a, l, rfl, ha, few, q⟩ := h
  rw [Vals.ref1 r]
  have T : TxSet X.prog X.w s.heap a l := (I.hok a _ ha).1
  refine sort_txt (I.ok.hd hc) T few fun s' p out c ys k g o hp hg hS pm so => ?_
  have hn : H p = none := I.hok.fresh hp
  have hlen : (ys.map V.str).length ≤ sizeLine := by rw [List.length_map, pm.length_eq, sizeLine_eq]; omega
  obtain ⟨h', g', d', tk', os'⟩ := s'
  obtain rfl : os' = s.os := o
  refine ⟨.ref p, upd H p (.lst (ys.map V.str)), I.call (h' := h') (g' := g') (d' := d') (t' := tk') (ch := []) (Un.laid k hp hn) (I.hok.laid k hp ⟨hlen, out, c, vals_of_strs hS, hg⟩) ?_ (fun _ z => nomatch z), rfl, q ys p pm so hn⟩
  obtain rfl : g' = s.gens := g
  exact I.bare
def rLenTx (P : Program) (w : World) : List V → Hp → VK → Prop := fun vs H Q => ∃ (a : Addr) (l : List Str), vs = [V.ref a] ∧ H a = some (TxO P w a l) ∧ l.length < 1000 ∧ Q (.int l.length) H
theorem cr_lenTx : CallR X (.builtin "len") (rLenTx X.prog X.w) := by
  intro pins s σ H vs us Q I r h
  obtain ⟨a, l, rfl, ha, few, q⟩ := h
  rw [Vals.ref1 r]
  have T : TxSet X.prog X.w s.heap a l := (I.hok a _ ha).1
  obtain ⟨⟨es, ep, t⟩, ho, F, nd, rs, ld⟩ := T
  have sz : es.size = l.length := F.sz
  refine call_len_set ho ⟨rfl, rfl, rfl⟩ rfl F.fit (by rw [sz]; omega) ⟨.int l.length, H, I.tok _, ⟨_, by rw [sz]⟩, q⟩
end

end Ys
namespace Ys
open PySem PySem.Spec PyProof.Rows L2
/-! ### data, dicts too -/
def kD : Key → PyData
  | .inl i => .int i
  | .inr x => .str x
mutual
inductive Dt (K : PySem.W.Frag) (H : Hp) : V → PyData → Prop
  | non : Dt K H .non .none
  | bl (b : Bool) : Dt K H (.bl b) (.bool b)
  | int (i : Int) : Dt K H (.int i) (.int i)
  | str (x : Str) : Dt K H (.str x) (.str x)
  | lst {a : Addr} {xs : List V} {ds : List PyData} : SqL K H a xs → Dts K H xs ds → Dt K H (.ref a) (.list ds)
  | tup {a : Addr} {xs : List V} {ds : List PyData} : SqT K H a xs → Dts K H xs ds → Dt K H (.ref a) (.tuple ds)
  | dct {a : Addr} {kvs : List (Key × V)} {ds : List (PyData × PyData)} : Rd H a (.dK kvs) → ds.map (·.1) = kvs.map (fun p => kD p.1) → Dts K H (kvs.map (·.2)) (ds.map (·.2)) → Dt K H (.ref a) (.dict ds)
inductive Dts (K : PySem.W.Frag) (H : Hp) : List V → List PyData → Prop
  | nil : Dts K H [] []
  | cons {v : V} {vs : List V} {d : PyData} {ds : List PyData} : Dt K H v d → Dts K H vs ds → Dts K H (v :: vs) (d :: ds)
end
section
variable {X : Cx} {pins : List (Addr × Obj)} {σ : L2.St} {H : Hp} {s : Shared}
/-- the module's table of modules stands in the written part: so no list, no other dict stands there -/
def SysIn (K : PySem.W.Frag) : Prop := ∃ o, K.lookup sysModules = some o ∧ o.cls = .type "dict"
theorem sys_ne (I : Inv X pins σ H s) (S : SysIn X.K) {a : Addr} {u : HO} (h : Rd H a u) : a ≠ sysModules := by
  rintro rfl
  obtain ⟨o, e, _⟩ := S
  have n := (I.bs _ _ (I.mod.kin _ _ e)).2
  rcases h with h | ⟨_, h⟩
  · rw [n] at h; cases h
  · rw [n] at h; cases h
theorem sys_neL (I : Inv X pins σ H s) (S : SysIn X.K) {a : Addr} {xs : List V} (h : SqL X.K H a xs) : a ≠ sysModules := by
  rcases h with h | ⟨o, its, n, hk, hc, _⟩
  · exact sys_ne I S h
  · rintro rfl
    obtain ⟨o', e, c⟩ := S
    rw [hk] at e
    cases e
    rw [hc] at c
    exact absurd c (by decide)
theorem kD_reads {h : Heap} {k : Key} {v : Value} (e : keyIs k v = true) : Reads h v (kD k) [] := by
  rcases keyIs_shape e with ⟨i, t, rfl, rfl⟩ | ⟨x, t, rfl, rfl⟩
  · exact .int i t
  · exact .str x t
theorem keys_reads {h : Heap} : ∀ {es : List DictEntry} {kvs : List (Key × Value)} {ks : List PyData}, Pairs (mixKind X.prog X.w) es kvs → ks = kvs.map (fun p => kD p.1) → ReadsAll h (es.map (·.key)) ks []
  | _, _, _, .nil, e => by subst e; exact .nil
  | _, _, _, .cons a b r, e => by
    subst e
    exact .cons (kD_reads a) (keys_reads r rfl)
theorem pairs_vals : ∀ {es : List DictEntry} {kvs : List (Key × Value)}, Pairs (mixKind X.prog X.w) es kvs → es.map (·.val) = kvs.map (·.2)
  | _, _, .nil => rfl
  | _, _, .cons a b r => by rw [List.map_cons, List.map_cons, b, pairs_vals r]
theorem kv_vals : ∀ {kvs : List (Key × V)} {vs : List (Key × Value)}, KV kvs vs → Vals (kvs.map (·.2)) (vs.map (·.2))
  | _, _, .nil => .nil
  | _, _, .cons r t => .cons r.2 (kv_vals t)
theorem kv_keys : ∀ {kvs : List (Key × V)} {vs : List (Key × Value)}, KV kvs vs → kvs.map (fun p => kD p.1) = vs.map (fun p => kD p.1)
  | _, _, .nil => rfl
  | _, _, .cons r t => by rw [List.map_cons, List.map_cons, r.1, kv_keys t]
theorem size_snd : ∀ ds : List (PyData × PyData), sizeOf (ds.map (·.2)) ≤ sizeOf ds
  | [] => Nat.le_refl _
  | (k, v) :: ds => by
    have ih := size_snd ds
    simp only [List.map_cons, List.cons.sizeOf_spec, Prod.mk.sizeOf_spec]
    omega
mutual
theorem Dt.reads (I : Inv X pins σ H s) (S : SysIn X.K) : ∀ (d : PyData) (v : V) (u : Value), Dt X.K H v d → RelV v u → ∃ as, Reads s.heap u d as ∧ sysModules ∉ as
  | .none, _, _, h, r => by
    cases h
    cases r
    exact ⟨_, .none, by simp⟩
  | .bool b, _, _, h, r => by
    cases h
    cases r
    exact ⟨_, .bool b, by simp⟩
  | .int i, _, _, h, r => by
    cases h
    obtain ⟨t, rfl⟩ := r
    exact ⟨_, .int i t, by simp⟩
  | .str x, _, _, h, r => by
    cases h
    obtain ⟨t, rfl⟩ := r
    exact ⟨_, .str x t, by simp⟩
  | .list ds, _, _, h, r => by
    cases h with
    | lst hs ha =>
      cases r
      have ne := sys_neL I S hs
      obtain ⟨its, rv, ⟨o, n, ho, hc, _, hd⟩, _⟩ := I.list hs
      obtain ⟨as, hr, na⟩ := Dts.reads I S ds _ its ha rv
      exact ⟨_, .list ho hc hd hr, fun z => (List.mem_cons.mp z).elim (fun e => ne e.symm) na⟩
  | .tuple ds, _, _, h, r => by
    cases h with
    | tup hs ha =>
      cases r
      obtain ⟨its, rv, ⟨o, ho, hc, n, hd⟩, _⟩ := I.tuple hs
      obtain ⟨as, hr, na⟩ := Dts.reads I S ds _ its ha rv
      exact ⟨_, .tuple ho hc hd hr, na⟩
  | .dict ds, _, _, h, r => by
    cases h with
    | dct hs hk ha =>
      cases r
      have ne := sys_ne I S hs
      obtain ⟨_, _, vs, rel, o, es, ep, ho, hx, hd, _, hp, _⟩ := dk_rd I.hok hs
      obtain ⟨as, hr, na⟩ := Dts.reads I S (ds.map (·.2)) _ (vs.map (·.2)) ha (kv_vals rel)
      refine ⟨_, .dict ho hx.1 hd (keys_reads hp (hk.trans (kv_keys rel))) (by rw [pairs_vals hp]; exact hr), fun z => ?_⟩
      exact (List.mem_append.mp z).elim (fun e => ne (List.mem_singleton.mp e).symm) na
termination_by d => sizeOf d
decreasing_by
  · simp only [PyData.list.sizeOf_spec]; omega
  · simp only [PyData.tuple.sizeOf_spec]; omega
  · have := size_snd ds
    simp only [PyData.dict.sizeOf_spec]; omega
theorem Dts.reads (I : Inv X pins σ H s) (S : SysIn X.K) : ∀ (ds : List PyData) (vs : List V) (us : List Value), Dts X.K H vs ds → Vals vs us → ∃ as, ReadsAll s.heap us ds as ∧ sysModules ∉ as
  | [], _, _, h, r => by
    cases h
    cases r
    exact ⟨_, .nil, by simp⟩
  | d :: ds, _, _, h, r => by
    cases h with
    | cons h1 h2 =>
      cases r with
      | cons r1 r2 =>
        obtain ⟨as, q1, n1⟩ := Dt.reads I S d _ _ h1 r1
        obtain ⟨bs, q2, n2⟩ := Dts.reads I S ds _ _ h2 r2
        exact ⟨_, .cons q1 q2, fun z => (List.mem_append.mp z).elim n1 n2⟩
termination_by ds => sizeOf ds
decreasing_by
  · simp only [List.cons.sizeOf_spec]; omega
  · simp only [List.cons.sizeOf_spec]; omega
end
/-! data without dicts -/
mutual
theorem Dt.dp {K : PySem.W.Frag} : ∀ (d : PyData) (v : V), d.canLay0 = true → Dt K H v d → Dp K H v d
  | .none, _, _, h => by cases h; exact .non
  | .bool b, _, _, h => by cases h; exact .bl b
  | .int i, _, _, h => by cases h; exact .int i
  | .str x, _, _, h => by cases h; exact .str x
  | .list ds, _, c, h => by
    cases h with
    | lst hs ha => exact .lst hs (Dts.dp ds _ (by simpa only [PyData.canLay0] using c) ha)
  | .tuple ds, _, c, h => by
    cases h with
    | tup hs ha => exact .tup hs (Dts.dp ds _ (by simpa only [PyData.canLay0] using c) ha)
  | .dict _, _, c, _ => by simp [PyData.canLay0] at c
theorem Dts.dp {K : PySem.W.Frag} : ∀ (ds : List PyData) (vs : List V), PyData.canLayAll0 ds = true → Dts K H vs ds → DpAll K H vs ds
  | [], _, _, h => by cases h; exact .nil
  | d :: ds, _, c, h => by
    cases h with
    | cons h1 h2 =>
      have c' : (d.canLay0 && PyData.canLayAll0 ds) = true := by simpa only [PyData.canLayAll0] using c
      obtain ⟨c1, c2⟩ := Bool.and_eq_true_iff.mp c'
      exact .cons (Dt.dp d _ c1 h1) (Dts.dp ds _ c2 h2)
end
end

/-! ### repr -/
section
variable {X : Cx}
def rRepr (K : PySem.W.Frag) : List V → Hp → VK → Prop := fun vs H Q => ∃ (x : V) (d : PyData), vs = [x] ∧ Dt K H x d ∧ d.showable = true ∧ d.depth ≤ 60 ∧ d.shown.length ≤ sizeLine ∧ Q (.str d.shown) H
theorem cr_repr (hg : X.A.guards = some []) (S : SysIn X.K) (hu : X.A.units + 64 < cLine) : CallR X (.builtin "repr") (rRepr X.K) := by
  intro pins s σ H vs us Q I r h
  obtain ⟨x, d, rfl, hd, sh, dp, sz, q⟩ := h
  obtain ⟨u, rfl, rx⟩ := vals1 r
  obtain ⟨as, hr, na⟩ := Dt.reads I S d x u hd rx
  cases x with
  | non =>
    cases rx; cases hd
    simp only [PyData.shown] at q
    exact PySem.P.repr_of_none ⟨.str _, H, I.tok _, ⟨_, rfl⟩, q⟩
  | bl b =>
    cases rx; cases hd
    simp only [PyData.shown] at q
    exact PySem.P.repr_of_bool ⟨.str _, H, I.tok _, ⟨_, rfl⟩, q⟩
  | int i =>
    obtain ⟨t, rfl⟩ := rx; cases hd
    simp only [PyData.shown] at q
    have hz : i.natAbs.log2 < 1920 := by simpa [PyData.showable] using sh
    exact PySem.P.repr_of_int hz ⟨.str _, H, I.tok _, ⟨_, rfl⟩, q⟩
  | str z =>
    obtain ⟨t, rfl⟩ := rx; cases hd
    simp only [PyData.shown] at q sz
    exact PySem.P.repr_of_str ⟨.str _, H, I.tok _, ⟨_, rfl⟩, q⟩ sz
  | byt _ => cases hd
  | flt _ => cases hd
  | ty _ => cases hd
  | ref a =>
    cases rx
    refine repr_of_reads' hr sh (fun _ => na) hg (by omega) (fun _ _ e => e) (fun h' u tk k => ?_) sz
    exact ⟨.str _, H, I.kept (t' := tk) k, ⟨_, rfl⟩, q⟩
end

/-! ### a def that is told that nothing is being shown -/
structure FnG (P : Program) (w : World) (K : PySem.W.Frag) (mg : Str → Option Value) (base : Heap) (CX : CXT) (k : Nat) (f : Addr) (fd : FuncData) (ps : List Str) (sp : Sp) : Prop where
  len : ∀ vs H Q E, sp vs H Q E → vs.length = ps.length
  run : ∀ (A : Around) (outer : List Env) (s : Shared) (H : Hp) (args : Args) (us : List Value) (vs : List V) (Q : VK) (E : XK), A.guards = some [] → Room k A → Env0 P w K mg base A outer s H → BindsTo s fd args (ps.zip us) → Vals vs us → sp vs H Q E →
    codeAny (model P w) A (.call (.ref f) args) (CR CX outer P w H s Q E) s
theorem FnOk.g {P : Program} {w : World} {K : PySem.W.Frag} {mg : Str → Option Value} {base : Heap} {CX : CXT} {k : Nat} {f : Addr} {fd : FuncData} {ps : List Str} {sp : Sp} (F : FnOk P w K mg base CX k f fd ps sp) : FnG P w K mg base CX k f fd ps sp :=
  ⟨F.len, fun A outer s H args us vs Q E _ => F.run A outer s H args us vs Q E⟩
end Ys
namespace Ys
open PySem PySem.Spec PyProof.Rows L2
section
variable {P : Program} {w : World} {K : PySem.W.Frag} {mg : Str → Option Value} {base : Heap} {x qual : Str} {params : Arguments} {body : List Stmt} {scope : Scope} {dvs : List V} {kws : List (Str × V)} {f : Addr} {fd : FuncData}
/-- a def's body, where nothing is being shown -/
theorem okG {CX : CXT} {N ps : List Str} {k : Nat} {sp : Sp} (F : FunD K x qual params body scope dvs kws f fd) (S : FnScope N ps scope) (len : ∀ vs H Q E, sp vs H Q E → vs.length = ps.length)
    (hb : ∀ (cdv : Value) (A : Around) (outer : List Env) (s : Shared) (H : Hp) (vs : List V) (Q : VK) (E : XK), A.guards = some [] → Room k (A.deeper (envOfC qual scope s.heap.objs.size f cdv)) → sp vs H Q E →
      ∃ t, PSs (cxOf CX P w K mg base N qual scope f cdv A outer s H E) body t ∧ t { nx := fun _ H' => Q .non H', rt := Q } (start N vs) H) : FnG P w K mg base CX (k + 1) f fd ps sp := by
  obtain ⟨oc, od, dV, kV, doc, pm, an, cdv, ct, osl, rfl, lk, hcd, _, _⟩ := F.ex
  refine ⟨len, fun A outer s H args us vs Q E hg hr e0 hbd r hsp => ?_⟩
  have KX : K.In s.heap := e0.mod.kin.keeps fun b o e => (e0.bs b o e).1
  have lim : s.heap.NoLimit := e0.mod.nolimit.keeps fun b o e => (e0.bs b o e).1
  refine codeAny_call_function hr.depth (KX _ _ lk) rfl S.co S.gen rfl (PySem.W.codeRec_of KX hcd) (hbd _ _ _ _ (wpAny_newFunctionEnv_cells S.kind (fun y hy => ?_) fun env he s1 z => ?_))
  · rcases S.par y.1 (List.of_mem_zip (show (y.1, y.2) ∈ ps.zip us from hy)).1 with q | q
    · exact .inl q
    · exact .inr ⟨q, PySem.W.cellsFrom_some _ _ _ (.inl q)⟩
  · subst he
    refine ⟨lim.keeps z.toInCall.keep, codeAny_func ?_⟩
    obtain ⟨t, ht, hq⟩ := hb cdv A outer s H vs Q E hg (hr.deeper _) hsp
    have I : Inv (cxOf CX P w K mg base N qual scope f cdv A outer s H E) [] (start N vs) H s1 := inv_start S hr.hd e0 (len _ _ _ _ hsp) r z
    refine wpAny_mono (ht.run [] s1 (start N vs) H _ I hq) (fun fl s' hs => ?_) fun e s' hs => hs
    cases fl with
    | ret u => exact let ⟨v, σ', H', J, rv, q⟩ := hs; ⟨v, H', J.os, J.bare, J.base, J.hok, rv, q⟩
    | next => exact let ⟨σ', H', J, q⟩ := hs; ⟨.non, H', J.os, J.bare, J.base, J.hok, rfl, q⟩
    | brk => exact let ⟨_, _, _, q⟩ := hs; q.elim
    | cont => exact let ⟨_, _, _, q⟩ := hs; q.elim
end

/-- a law's call, from the law's promise -/
theorem law_callG {P : Program} {w : World} {K : PySem.W.Frag} {mg mb : Str → Option Value} {CX : CXT} {k : Nat} {fa a : Addr} {fd : FuncData} {x : Str} {sp : Sp} {s1 : Shared} {vs : List Value} {ns : List Int}
    (KX : K.In s1.heap) (hns : s1.heap.Ns mainGlobals mg) (hb : s1.heap.Ns builtinsNs mb) (hbb : ∀ x : Str, x ≠ "__name__" → mb x = bootBuiltins x) (hlim : s1.heap.NoLimit) (hg : s1.gens = #[])
    (ha : s1.heap.get? a = some { cls := .type "list", data := .seq vs.toArray }) (hi : IntsAre vs ns) (hl : ns.length ≤ sizeLine) (hr : Room k callerA)
    (F : ∀ base : Heap, K.In base → base.Ns mainGlobals mg → FnG P w K mg base CX k fa fd [x] sp) (hbind : ∀ (s : Shared) (u : Value), BindsTo s fd ⟨[u], []⟩ [(x, u)])
    (hsp : ∀ H : Hp, Only H → SqL K H a (ns.map V.int) → sp [.ref a] H (fun v _ => v = .bl true) fun _ _ _ => False) (hCX : ∀ H e s', CX [] H s1 (fun _ _ _ => False) e s' → False) :
    codeAny (model P w) callerA (.call (.ref fa) ⟨[.ref a], []⟩) (fun r s' => r = .ok (.ret (.bool true)) ∧ OldK s1.heap s'.heap ∧ s'.os = s1.os ∧ AllBare s'.gens) s1 := by
  have rv := vals_ints hi
  have len := hi.length
  -- what is tracked: the script, where the written part does not hold it
  obtain ⟨H, hO, hS, hok, hA, hK⟩ : ∃ H : Hp, Only H ∧ SqL K H a (ns.map V.int) ∧ HOk P w H s1.heap ∧ (∀ b u, H b = some u → b = a) ∧ (∀ u, H a = some u → K.lookup a = none) := by
    cases hk : K.lookup a with
    | some o =>
      have e := KX a o hk
      rw [ha] at e
      cases e
      exact ⟨fun _ => none, fun _ => .inl rfl, .inr ⟨_, vs.toArray, _, hk, rfl, rfl, rfl, by rw [List.size_toArray, len]; exact hl, by simpa using rv⟩, (fun b u (z : (none : Option HO) = some u) => by cases z), (fun b u (z : (none : Option HO) = some u) => by cases z), (fun u (z : (none : Option HO) = some u) => by cases z)⟩
    | none =>
      have at_ : ∀ b u, (if b = a then some (HO.frz { cls := .type "list", data := .seq vs.toArray } (.lst (ns.map V.int))) else none) = some u → b = a ∧ u = .frz { cls := .type "list", data := .seq vs.toArray } (.lst (ns.map V.int)) := fun b u z => by
        by_cases c : b = a
        · rw [if_pos c] at z
          exact ⟨c, (Option.some.inj z).symm⟩
        · rw [if_neg c] at z
          cases z
      refine ⟨fun b => if b = a then some (.frz { cls := .type "list", data := .seq vs.toArray } (.lst (ns.map V.int))) else none, fun b => ?_, .inl (.inr ⟨_, if_pos rfl⟩), fun b u z => ?_, fun b u z => (at_ b u z).1, fun _ _ => rfl⟩
      · by_cases c : b = a
        · exact .inr ⟨_, _, if_pos c⟩
        · exact .inl (if_neg c)
      · obtain ⟨rfl, rfl⟩ := at_ b u z
        exact ⟨ha, by rw [List.length_map]; exact hl, vs, _, rv, ha⟩
  have free : ∀ {b : Addr} {o : Obj} {es : Array DictEntry} {ep : Nat}, s1.heap.get? b = some o → o.data = .dict es ep → H b = none := fun {b o es ep} e d => by
    cases q : H b with
    | none => rfl
    | some u =>
      obtain rfl := hA b u q
      rw [ha] at e
      cases e
      exact nomatch (show Data.seq vs.toArray _ = Data.dict es ep from d)
  have ns_ : ∀ {b : Addr} {m : Str → Option Value}, s1.heap.Ns b m → (hidT s1.heap H).Ns b m := fun {b m} ⟨o, es, ep, e, d, r⟩ => ⟨o, es, ep, hidT_get e (free e d), d, r⟩
  have kb : K.In (hidT s1.heap H) := fun b o e => hidT_get (KX b o e) (by
    cases q : H b with
    | none => rfl
    | some u =>
      obtain rfl := hA b u q
      rw [hK u q] at e
      cases e)
  have md : Mod K mg (hidT s1.heap H) := ⟨kb, ns_ hns, ⟨mb, ns_ hb, hbb⟩, let ⟨mc, h1, h2⟩ := hlim; ⟨mc, ns_ h1, h2⟩⟩
  have e0 : Env0 P w K mg (hidT s1.heap H) callerA [] s1 H := ⟨rfl, md, fun b o e => of_hidT e, Nat.le_of_eq (hidT_size _ _), trivial, fun b hb => absurd (show b ∈ ([] : List Addr) from hb) (by simp), hok, .of_eq hg⟩
  refine codeAny_mono ((F _ kb (ns_ hns)).run callerA [] s1 H ⟨[.ref a], []⟩ [.ref a] [.ref a] _ _ rfl hr e0 (hbind s1 (.ref a)) (.cons rfl .nil) (hsp H hO hS)) fun r s' h => ?_
  cases r with
  | error e => exact (hCX H e s' h).elim
  | ok fl =>
    cases fl with
    | next => exact False.elim h
    | brk => exact False.elim h
    | cont => exact False.elim h
    | ret u =>
      obtain ⟨v, H', os, bare, un, hok', r', q⟩ := h
      obtain rfl : v = .bl true := q
      obtain rfl : u = Value.bool true := r'
      refine ⟨rfl, OldK.of_keep fun b o e => ?_, os, bare⟩
      cases q : H b with
      | none => exact un.keep b o e q (fun z => absurd (show b ∈ ([] : List Addr) from z) (by simp)) (by simp)
      | some u =>
        rcases hO b with z | ⟨ob, xs, z⟩
        · rw [q] at z; cases z
        · obtain ⟨e1, _⟩ := hok b _ z
          obtain ⟨e2, _⟩ := hok' b _ (un.frzs b ob _ z)
          rw [e] at e1
          cases e1
          exact e2

/-- the end of a law -/
theorem walk_ofG {l : PySem.W.OpenLaw} {n k : Nat} {q : Program} {loose : List Str} {XP : (Str → Option Value) → Heap → Prop} {YP : World → Heap → Prop} {d : DefRec} {CX : World → CXT} {x : Str}
    (hn : l.most = some n) (hn2 : n ≤ sizeLine) (hdf : d.params.defaults = []) (hr : Room k callerA)
    (F : ∀ (w : World) (mg : Str → Option Value) (fa : Addr) (h : Heap), YP w h → h.Ns mainGlobals mg → mg d.name = some (.ref fa) →
      ∃ (K : PySem.W.Frag) (fd : FuncData) (sp : Sp), K.In h ∧ (∀ (s : Shared) (u : Value), BindsTo s fd ⟨[u], []⟩ [(x, u)]) ∧
        (∀ (H : Hp) (a : Addr) (ns : List Int), ns.length ≤ n → Only H → SqL K H a (ns.map V.int) → sp [.ref a] H (fun v _ => v = .bl true) fun _ _ _ => False) ∧
        ∀ base : Heap, K.In base → base.Ns mainGlobals mg → FnG l.prog w K mg base (CX w) k fa fd [x] sp)
    (hCX : ∀ (w : World) (H : Hp) (s : Shared) (e : Value) (s' : Shared), CX w [] H s (fun _ _ _ => False) e s' → False) :
    PySem.W.WalkO q loose XP YP l.row.toRowW d [] (fun f vs => PySem.call f vs) := by
  refine Att.attach_call hn hdf fun w s0 s1 mg mb fa o pm cd doc a vs ns G Y ho hd hcd hmg hobj hints hlen hg => ?_
  obtain ⟨K, fd, sp, KX, hb, hsp, hF⟩ := F w mg fa _ Y G.T.g hmg
  exact law_callG KX G.T.g G.T.b G.T.builtins G.T.nolimit hg hobj hints (Nat.le_trans hlen hn2) hr hF hb (fun H hO hS => hsp H a ns hlen hO hS) fun H e s' => hCX w H s1 e s'

/-! ### the Hook: any look at the written part, which holds the table of modules too -/
def obsY (fb : PySem.W.Frag → Bool) (fn : List He.DefD) (K : PySem.W.Frag) : He.AlD := (fb K && fn.all fun d => d.ok K, fn.map fun d => He.fnW K d.at_)
def SaysY (fb : PySem.W.Frag → Bool) (fn : List He.DefD) (K : PySem.W.Frag) : Prop := obsY fb fn K = He.valD fn
def frY (n : Nat) (g : Addr → Option Obj) : PySem.W.Frag := He.frG g (sysModules :: He.asD g n)
def hookY (n : Nat) (fb : PySem.W.Frag → Bool) (fn : List He.DefD) : PySem.W.Hook where
  α := He.AlD
  obs := fun s => obsY fb fn (frY n s.heap.get?)
  val := fun _ => He.valD fn
  says := fun _ h => ∃ K : PySem.W.Frag, K.In h ∧ SaysY fb fn K
  of := fun _ _ e => ⟨_, He.frG_in, e⟩
  keeps := fun _ _ _ ⟨K, hK, c⟩ k => ⟨K, PySem.W.Frag.In.keeps hK k, c⟩
def obY (n : Nat) (fb : PySem.W.Frag → Bool) (fn : List He.DefD) (s : PySem.W.SharedT) : He.AlD := obsY fb fn (frY n (HandSHeadRun.getT s))
theorem obY_eq {n : Nat} {fb : PySem.W.Frag → Bool} {fn : List He.DefD} (s : PySem.W.SharedT) : obY n fb fn s = (hookY n fb fn).obs s.abs := by
  have e : HandSHeadRun.getT s = s.abs.heap.get? := funext (HandSHeadRun.getT_eq s)
  unfold obY
  rw [e]
  rfl
section
variable {fb : PySem.W.Frag → Bool} {fn : List He.DefD} {K : PySem.W.Frag}
theorem SaysY.look (c : SaysY fb fn K) : fb K = true := (He.ba (show (fb K && fn.all fun d => d.ok K) = true from congrArg (fun z : He.AlD => z.1) c)).1
theorem SaysY.def_ (c : SaysY fb fn K) (i : Nat) {d : He.DefD} (h : fn[i]? = some d := by rfl) : ∃ fd, FunD K d.name d.qual d.params d.body d.scope (d.dvs K) (d.kws K) (He.fAd K d.at_) fd := by
  have c2 := (He.ba (show (fb K && fn.all fun d => d.ok K) = true from congrArg (fun z : He.AlD => z.1) c)).2
  have e : (fn.map fun d => He.fnW K d.at_)[i]? = (fn.map He.DefD.val)[i]? := by rw [show fn.map (fun d => He.fnW K d.at_) = fn.map He.DefD.val from congrArg (fun z : He.AlD => z.2) c]
  rw [List.getElem?_map, List.getElem?_map, h] at e
  exact He.DefD.funD (Option.some.inj e) (List.all_eq_true.mp c2 d (List.mem_of_getElem? h))
/-- the module's table of modules -/
def sysB (K : PySem.W.Frag) : Bool := match K.lookup sysModules with
  | some o => o.cls == .type "dict"
  | none => false
theorem sysB_ok (h : sysB K = true) : SysIn K := by
  unfold sysB at h
  cases q : K.lookup sysModules with
  | none => rw [q] at h; cases h
  | some o =>
    rw [q] at h
    exact ⟨o, q, eq_of_beq h⟩
end
end Ys
namespace Ys
open PySem PySem.Spec PyProof.Rows L2
/-! ### the state: G is known and stays, M may change -/
structure Zp (G : Hp) (M : List (Addr × HO)) (H : Hp) : Prop where
  sub : ∀ a o, G a = some o → H a = some o
  own : ∀ (i : Nat) p o, M[i]? = some (p, o) → H p = some o ∧ G p = none
  nd : (M.map (·.1)).Nodup
section
variable {G G0 G1 H H1 : Hp} {M M1 : List (Addr × HO)} {p a : Addr} {o o1 : HO} {K : PySem.W.Frag} {v : V} {d : PyData} {xs vs : List V} {ds : List PyData}
theorem Zp.free (z : Zp G M H) (h : H p = none) : G p = none := by
  cases q : G p with
  | none => rfl
  | some o => rw [z.sub p o q] at h; cases h
theorem Zp.ne (z : Zp G M H) (h : H p = none) {i : Nat} {q : Addr} (e : M[i]? = some (q, o)) : q ≠ p := by
  rintro rfl
  rw [(z.own i q o e).1] at h
  cases h
theorem Same.new (h : G p = none) : Same G (upd G p o) := fun b u e => by
  rw [upd_ne (ne_of_none e h)]
  exact e
/-- a new object that stays -/
theorem Zp.new (z : Zp G M H) (h : H p = none) (o : HO) : Zp (upd G p o) M (upd H p o) where
  sub := fun a u e => by
    by_cases c : a = p
    · subst c
      rw [upd_same] at e ⊢
      exact e
    · rw [upd_ne c] at e ⊢
      exact z.sub a u e
  own := fun i q u e => by
    have ne := z.ne h e
    rw [upd_ne ne, upd_ne ne]
    exact z.own i q u e
  nd := z.nd
/-- a new object that may change -/
theorem Zp.add (z : Zp G M H) (h : H p = none) (o : HO) : Zp G (M ++ [(p, o)]) (upd H p o) where
  sub := fun a u e => by
    rw [upd_ne (ne_of_none (z.sub a u e) h)]
    exact z.sub a u e
  own := fun i q u e => by
    by_cases c : i < M.length
    · rw [List.getElem?_append_left c] at e
      rw [upd_ne (z.ne h e)]
      exact z.own i q u e
    · rw [List.getElem?_append_right (by omega)] at e
      have e0 : i - M.length = 0 := by
        cases n : i - M.length with
        | zero => rfl
        | succ k => rw [n] at e; simp at e
      rw [e0] at e
      obtain ⟨rfl, rfl⟩ : p = q ∧ o = u := by simpa using e
      exact ⟨upd_same, z.free h⟩
  nd := by
    rw [List.map_append, List.nodup_append]
    refine ⟨z.nd, by simp, fun x hx y hy => ?_⟩
    obtain ⟨⟨q, u⟩, hq, rfl⟩ := List.mem_map.mp hx
    obtain rfl : y = p := by simpa using hy
    obtain ⟨i, hi⟩ := List.getElem?_of_mem hq
    exact z.ne h hi
theorem Zp.at_ (z : Zp G M H) (i : Nat) (e : M[i]? = some (p, o)) : H p = some o := (z.own i p o e).1
/-- one of those that may change, changes -/
theorem Zp.put (z : Zp G M H) (i : Nat) (e : M[i]? = some (p, o)) (o1 : HO) : Zp G (M.set i (p, o1)) (upd H p o1) where
  sub := fun a u q => by
    have n := (z.own i p o e).2
    rw [upd_ne (ne_of_none q n)]
    exact z.sub a u q
  own := fun j q u ej => by
    by_cases c : j = i
    · subst c
      rw [List.getElem?_set_self (List.getElem?_eq_some_iff.mp e).1] at ej
      obtain ⟨rfl, rfl⟩ : p = q ∧ o1 = u := by simpa using ej
      exact ⟨upd_same, (z.own j p o e).2⟩
    · rw [List.getElem?_set_ne (fun h => c h.symm)] at ej
      have ne : q ≠ p := by
        rintro rfl
        have hi := (List.getElem?_eq_some_iff.mp e).1
        have hj := (List.getElem?_eq_some_iff.mp ej).1
        have e1 : (M.map (·.1))[i]? = some q := by rw [List.getElem?_map, e]; rfl
        have e2 : (M.map (·.1))[j]? = some q := by rw [List.getElem?_map, ej]; rfl
        exact c ((List.getElem?_inj (by simpa using hj) z.nd).mp (e2.trans e1.symm))
      rw [upd_ne ne]
      exact z.own j q u ej
  nd := by
    have e1 : ((M.set i (p, o1)).map (·.1)) = M.map (·.1) := by
      rw [List.map_set]
      apply List.ext_getElem?
      intro j
      by_cases c : j = i
      · subst c
        have hi := (List.getElem?_eq_some_iff.mp e).1
        rw [List.getElem?_set_self (by simpa using hi), List.getElem?_map, e]
        rfl
      · rw [List.getElem?_set_ne (fun h => c h.symm)]
    rw [e1]
    exact z.nd
/-- the last of them changes no more -/
theorem Zp.fix (z : Zp G (M ++ [(p, o)]) H) : Zp (upd G p o) M H := by
  have e : (M ++ [(p, o)])[M.length]? = some (p, o) := by simp
  obtain ⟨h1, h2⟩ := z.own _ p o e
  have nd := z.nd
  rw [List.map_append, List.nodup_append] at nd
  refine ⟨fun a u q => ?_, fun i q u ei => ?_, nd.1⟩
  · by_cases c : a = p
    · subst c
      rw [upd_same] at q
      rw [h1]
      exact q
    · rw [upd_ne c] at q
      exact z.sub a u q
  · have hi := (List.getElem?_eq_some_iff.mp ei).1
    have ne : q ≠ p := by
      have := nd.2.2 q (List.mem_map.mpr ⟨(q, u), List.mem_of_getElem? ei, rfl⟩) p (by simp)
      exact this
    rw [upd_ne ne]
    exact z.own i q u (by rw [List.getElem?_append_left hi]; exact ei)
theorem Zp.cut (z : Zp G (M ++ M1) H) : Zp G M H where
  sub := z.sub
  own := fun i q u e => z.own i q u (by rw [List.getElem?_append_left (List.getElem?_eq_some_iff.mp e).1]; exact e)
  nd := by
    have nd := z.nd
    rw [List.map_append, List.nodup_append] at nd
    exact nd.1
theorem Zp.seqL (z : Zp G M H) (h : SqL K G a xs) : SqL K H a xs := by
  rcases h with (h | ⟨o, h⟩) | h
  · exact .inl (.inl (z.sub _ _ h))
  · exact .inl (.inr ⟨o, z.sub _ _ h⟩)
  · exact .inr h
theorem Zp.seqT (z : Zp G M H) (h : SqT K G a xs) : SqT K H a xs := by
  rcases h with (h | ⟨o, h⟩) | h
  · exact .inl (.inl (z.sub _ _ h))
  · exact .inl (.inr ⟨o, z.sub _ _ h⟩)
  · exact .inr h
theorem upL (s : Same G G1) (h : SqL K G a xs) : SqL K G1 a xs := s.seq h
theorem upT (s : Same G G1) (h : SqT K G a xs) : SqT K G1 a xs := by
  rcases h with (h | ⟨o, h⟩) | h
  · exact .inl (.inl (s _ _ h))
  · exact .inl (.inr ⟨o, s _ _ h⟩)
  · exact .inr h
theorem upR (s : Same G G1) (h : Rd G a o) : Rd G1 a o := by
  rcases h with h | ⟨o, h⟩
  · exact .inl (s _ _ h)
  · exact .inr ⟨o, s _ _ h⟩
end
mutual
theorem Dt.up {K : PySem.W.Frag} {G G1 : Hp} (s : Same G G1) : ∀ {v : V} {d : PyData}, Dt K G v d → Dt K G1 v d
  | _, _, .non => .non
  | _, _, .bl b => .bl b
  | _, _, .int i => .int i
  | _, _, .str x => .str x
  | _, _, .lst h a => .lst (upL s h) (Dts.up s a)
  | _, _, .tup h a => .tup (upT s h) (Dts.up s a)
  | _, _, .dct h k a => .dct (upR s h) k (Dts.up s a)
theorem Dts.up {K : PySem.W.Frag} {G G1 : Hp} (s : Same G G1) : ∀ {v : List V} {d : List PyData}, Dts K G v d → Dts K G1 v d
  | _, _, .nil => .nil
  | _, _, .cons h a => .cons (Dt.up s h) (Dts.up s a)
end
theorem Zp.dt {K : PySem.W.Frag} {G H : Hp} {M : List (Addr × HO)} {v : V} {d : PyData} (z : Zp G M H) (h : Dt K G v d) : Dt K H v d := h.up z.sub
end Ys
namespace Ys
open PySem PySem.Spec PyProof.Rows L2
/-! ### operators over any values -/
section
variable {X : Cx}
/-- list + list, read -/
def rCatL (K : PySem.W.Frag) : R2 := fun x y H Q => ∃ l b xs zs, x = .ref l ∧ y = .ref b ∧ H l = some (.lst xs) ∧ H b = some (.lst zs) ∧ xs.length + zs.length ≤ sizeLine ∧ ∀ p, H p = none → Q (.ref p) (upd H p (.lst (xs ++ zs)))
def rStr2 : R2 := fun x y H Q => ∃ i j, x = .str i ∧ y = .str j ∧ i.length + j.length ≤ sizeLine ∧ Q (.str (i ++ j)) H
def rAddG (K : PySem.W.Frag) : R2 := fun x y H Q => rI0 (fun i j => .int (i + j)) x y H Q ∨ rStr2 x y H Q ∨ rCat x y H Q ∨ rCatA K x y H Q
theorem op_addG : OpR X (binaryOp .Add) (rAddG X.K) := op_add.or ((show OpR X (binaryOp .Add) rStr2 from op_add_str).or (op_cat.or op_catA))
/-- two lists of different lengths -/
def rEqLen (K : PySem.W.Frag) (r : Bool) : R2 := fun x y H Q => ∃ a b xs ys, x = V.ref a ∧ y = V.ref b ∧ SqL K H a xs ∧ SqL K H b ys ∧ xs.length ≠ ys.length ∧ Q (.bl r) H
theorem isl {X : Cx} {pins : List (Addr × Obj)} {σ : L2.St} {H : Hp} {s : Shared} {a : Addr} {xs : List V} (I : Inv X pins σ H s) (h : SqL X.K H a xs) : ∃ its : List Value, its.length = xs.length ∧ s.heap.IsList a its.toArray := by
  obtain ⟨its, rv, ⟨o, n, ho, hc, hx, hd⟩, _⟩ := I.list h
  exact ⟨its, rv.length.symm, o, ho, hc, n, hd⟩
theorem op_eqLen (hu : X.A.units + 64 < cLine) : OpR X (compareOp .Eq) (rEqLen X.K false) := by
  intro pins s σ H x y v u Q I rx ry ⟨a, b, xs, ys, e1, e2, h1, h2, hne, q⟩
  subst e1 e2
  cases rx
  cases ry
  obtain ⟨i1, l1, j1⟩ := isl I h1
  obtain ⟨i2, l2, j2⟩ := isl I h2
  exact PySem.SeqAt.RcAt.lists_lengths j1 j2 (by rw [List.size_toArray, List.size_toArray, l1, l2]; exact bne_iff_ne.mpr hne) (by omega) X.prog X.w X.xe _ ⟨.bl false, H, I, rfl, q⟩
theorem op_neLen (hu : X.A.units + 64 < cLine) : OpR X (compareOp .NotEq) (rEqLen X.K true) := by
  intro pins s σ H x y v u Q I rx ry ⟨a, b, xs, ys, e1, e2, h1, h2, hne, q⟩
  subst e1 e2
  cases rx
  cases ry
  obtain ⟨i1, l1, j1⟩ := isl I h1
  obtain ⟨i2, l2, j2⟩ := isl I h2
  exact PySem.SeqAt.RcNeAt.lists_lengths j1 j2 (by rw [List.size_toArray, List.size_toArray, l1, l2]; exact bne_iff_ne.mpr hne) (by omega) X.prog X.w X.xe _ ⟨.bl true, H, I, rfl, q⟩
def rEqG (K : PySem.W.Frag) : R2 := fun x y H Q => rEq x y H Q ∨ rEqD K x y H Q ∨ rEqLen K false x y H Q
def rNeG (K : PySem.W.Frag) : R2 := fun x y H Q => rNe x y H Q ∨ rNeD K x y H Q ∨ rEqLen K true x y H Q
theorem op_eqG (hu : X.A.units + 64 < cLine) : OpR X (compareOp .Eq) (rEqG X.K) := op_eq.or ((op_eqD hu).or (op_eqLen hu))
theorem op_neG (hu : X.A.units + 64 < cLine) : OpR X (compareOp .NotEq) (rNeG X.K) := op_ne.or ((op_neD hu).or (op_neLen hu))
def rSlG (K : PySem.W.Frag) : V → Option Int → Option Int → Hp → VK → Prop := fun x lo hi H Q => rSlL K x lo hi H Q ∨ rSlA K x lo hi H Q ∨ rSlS x lo hi H Q
theorem sl_any : SlR X (rSlG X.K) := sl_list.or (sl_tupA.or sl_str)
abbrev rMulG : R2 := rI CMulW fun i j => .int (i * j)
abbrev rDivG : R2 := rI CDivW fun i j => .int (i / j)
abbrev rModG : R2 := rI (fun _ j => 0 < j) fun i j => .int (i % j)
abbrev rPowG : R2 := rI CPow fun i j => .int (i ^ j.toNat)
abbrev rSubG : R2 := rI0 fun i j => .int (i - j)
abbrev rLtG : R2 := rI0 fun i j => .bl (decide (i < j))
abbrev rLeG : R2 := rI0 fun i j => .bl (decide (i ≤ j))
abbrev rGtG : R2 := rI0 fun i j => .bl (decide (j < i))
abbrev rGeG : R2 := rI0 fun i j => .bl (decide (j ≤ i))
theorem o_sub : OpR X (binaryOp .Sub) rSubG := op_sub
theorem o_mul : OpR X (binaryOp .Mult) rMulG := op_mulW
theorem o_div : OpR X (binaryOp .FloorDiv) rDivG := op_fdivW
theorem o_mod : OpR X (binaryOp .Mod) rModG := op_mod
theorem o_pow : OpR X (binaryOp .Pow) rPowG := op_pow
theorem o_lt : OpR X (compareOp .Lt) rLtG := op_lt
theorem o_le : OpR X (compareOp .LtE) rLeG := op_le
theorem o_gt : OpR X (compareOp .Gt) rGtG := op_gt
theorem o_ge : OpR X (compareOp .GtE) rGeG := op_ge
abbrev rIsNon : R2 := fun x y H Q => y = .non ∧ Q (.bl (decide (x = .non))) H
abbrev rNotNon : R2 := fun x y H Q => y = .non ∧ Q (.bl (!decide (x = .non))) H
theorem o_isN : OpR X (compareOp .Is) rIsNon := op_isN
theorem o_notN : OpR X (compareOp .IsNot) rNotNon := op_notN
def rInG (K : PySem.W.Frag) (neg : Bool) : R2 := fun x y H Q => (∃ c z, x = V.str ⟨#[c]⟩ ∧ y = V.str z ∧ Q (.bl (if neg then !decide (c ∈ z.cps.toList) else decide (c ∈ z.cps.toList))) H) ∨ rIn K neg x y H Q
theorem o_in : OpR X (compareOp .In) (rInG X.K false) := by
  refine OpR.or ?_ op_in_seq
  intro pins s σ H x y v u Q I rx ry ⟨c, z, e1, e2, q⟩
  exact op_in_sign pins s σ H x y v u Q I rx ry ⟨c, z, e1, e2, by simpa using q⟩
theorem o_notIn : OpR X (compareOp .NotIn) (rInG X.K true) := by
  refine OpR.or ?_ op_notIn_seq
  intro pins s σ H x y v u Q I rx ry ⟨c, z, e1, e2, q⟩
  exact op_notIn_sign pins s σ H x y v u Q I rx ry ⟨c, z, e1, e2, by simpa using q⟩
def rIntG : List V → Hp → VK → Prop := fun xs H Q => (∃ i, xs = [.int i] ∧ Q (.int i) H) ∨ ∃ k, xs = [.bl k] ∧ Q (.int (if k then 1 else 0)) H
theorem c_int : CallR X (.type "int") rIntG := call_int1
def rLenG (K : PySem.W.Frag) (P : Program) (w : World) : List V → Hp → VK → Prop := fun xs H Q => (∃ x n, xs = [x] ∧ LenV K x H n ∧ Q (.int n) H) ∨ rLenTx P w xs H Q
theorem c_len : CallR X (.builtin "len") (rLenG X.K X.prog X.w) := CallR.or call_len cr_lenTx
def rListG (K : PySem.W.Frag) : List V → Hp → VK → Prop := fun xs H Q => ∃ p ys, xs = [V.ref p] ∧ (SqL K H p ys ∨ SqT K H p ys) ∧ ∀ l, H l = none → Q (.ref l) (upd H l (.lst ys))
theorem c_list : CallR X (.type "list") (rListG X.K) := call_list_of
def rTupG (K : PySem.W.Frag) : List V → Hp → VK → Prop := fun xs H Q => ∃ p ys, xs = [V.ref p] ∧ ((SqL K H p ys ∧ ∀ l, H l = none → Q (.ref l) (upd H l (.tup ys))) ∨ (SqT K H p ys ∧ Q (.ref p) H))
theorem c_tuple : CallR X (.type "tuple") (rTupG X.K) := call_tuple_of
def rMin2 : List V → Hp → VK → Prop := fun xs H Q => ∃ i j, xs = [V.int i, V.int j] ∧ Q (.int (if j < i then j else i)) H
theorem c_min2 (hc : X.calm = true) : CallR X (.builtin "min") rMin2 := call_min2 hc
def rAllG (K : PySem.W.Frag) : List V → Hp → VK → Prop := fun vs H Q => ∃ (a : Addr) (bs : List Bool), vs = [V.ref a] ∧ SqL K H a (bs.map V.bl) ∧ Q (.bl (bs.all id)) H
theorem c_all (hc : X.calm = true) : CallR X (.builtin "all") (rAllG X.K) := cr_all hc
def rSortG (K : PySem.W.Frag) (P : Program) (w : World) : List V → Hp → VK → Prop := fun vs H Q => rSortTx P w vs H Q ∨ rSortedS K vs H Q
theorem c_sorted (hc : X.calm = true) : CallR X (.builtin "sorted") (rSortG X.K X.prog X.w) := CallR.or (cr_sortTx hc) cr_sortedS
end

/-! ### the steps of a reading -/
def Bif (c : Bool) (A B : Prop) : Prop := if c = true then A else B
def IsB (x : V) (H : Hp) (Q : Bool → Hp → Prop) : Prop := ∃ k, x = .bl k ∧ Q k H
def IsP (x : V) (H : Hp) (Q : Option Int → Hp → Prop) : Prop := ∃ i, x = .int i ∧ Q (some i) H
def NewT (xs : List V) (H : Hp) (Q : VK) : Prop := xs.length ≤ sizeLine ∧ ∀ p, H p = none → Q (.ref p) (upd H p (.tup xs))
def NewL (xs : List V) (H : Hp) (Q : VK) : Prop := xs.length ≤ sizeLine ∧ ∀ p, H p = none → Q (.ref p) (upd H p (.lst xs))
section
variable {K : PySem.W.Frag} {G H : Hp} {M : List (Addr × HO)} {σ : L2.St} {Q : VK} {QB : Bool → Hp → Prop} {QO : Option Int → Hp → Prop} {QA : List V → Hp → Prop} {D : Ends} {ta tb te : TE} {tt uu : TT} {tr t : TA} {t1 t2 : TS} {r : R2} {A B : Prop} {c : Bool} {v x y : V} {i j : Int} {k : Nat} {p a b : Addr} {xs ys vs : List V} {sp : Sp} {E : XK} {g : TG}
theorem z_var (h : σ[k]? = some (some v)) (q : Q v H) : tVar k σ H Q := ⟨v, h, q⟩
theorem z_c (q : Q v H) : tC v σ H Q := q
theorem z_op (h : ta σ H fun x H1 => tb σ H1 fun y H2 => r x y H2 Q) : tOp r ta tb σ H Q := h
theorem z_un {r : V → Hp → VK → Prop} (h : ta σ H fun x H1 => r x H1 Q) : tUn r ta σ H Q := h
theorem z_test (h : te σ H fun x H1 => IsB x H1 QB) : tTest te σ H QB := h
theorem z_tB (h : te σ H fun x H1 => IsB x H1 QB) : tB te σ H QB := h
theorem z_isB (q : QB c H) : IsB (.bl c) H QB := ⟨c, rfl, q⟩
theorem z_bT (h : A) : Bif true A B := by unfold Bif; rw [if_pos rfl]; exact h
theorem z_bF (h : B) : Bif false A B := by unfold Bif; rw [if_neg Bool.false_ne_true]; exact h
theorem z_b2 (h1 : c = true → A) (h2 : c = false → B) : Bif c A B := by
  cases c with
  | true => exact z_bT (h1 rfl)
  | false => exact z_bF (h2 rfl)
theorem z_bN (h : Bif c B A) : Bif (!c) A B := by cases c with | true => exact h | false => exact h
theorem z_bD {p : Prop} [Decidable p] (h1 : p → A) (h2 : ¬ p → B) : Bif (decide p) A B := z_b2 (fun h => h1 (of_decide_eq_true h)) fun h => h2 (of_decide_eq_false h)
theorem z_and (h : tt σ H fun c H1 => Bif c (uu σ H1 QB) (QB false H1)) : tAnd tt uu σ H QB := h
theorem z_or (h : tt σ H fun c H1 => Bif c (QB true H1) (uu σ H1 QB)) : tOr tt uu σ H QB := h
theorem z_not (h : tt σ H fun c H1 => QB (!c) H1) : tNot tt σ H QB := h
theorem z_andV (h : ta σ H fun x H1 => IsB x H1 fun c H1 => Bif c (tb σ H1 Q) (Q (.bl false) H1)) : tAndV ta tb σ H Q := h
theorem z_orV (h : ta σ H fun x H1 => IsB x H1 fun c H1 => Bif c (Q (.bl true) H1) (tb σ H1 Q)) : tOrV ta tb σ H Q := h
theorem z_notV (h : ta σ H fun x H1 => IsB x H1 fun c H1 => Q (.bl (!c)) H1) : tNotV ta σ H Q := h
theorem z_if (h : tt σ H fun c H1 => Bif c (ta σ H1 Q) (tb σ H1 Q)) : tIf tt ta tb σ H Q := h
theorem z_nil (q : QA [] H) : tNil σ H QA := q
theorem z_cons (h : ta σ H fun x H1 => tr σ H1 fun xs H2 => QA (x :: xs) H2) : tCons ta tr σ H QA := h
theorem z_tup (h : t σ H fun xs H1 => NewT xs H1 Q) : tTup t σ H Q := h
theorem z_lst (h : t σ H fun xs H1 => NewL xs H1 Q) : tLst t σ H Q := h
theorem z_cb {r : List V → Hp → VK → Prop} (h : t σ H fun vs H1 => r vs H1 Q) : tCB r t σ H Q := h
theorem z_call {dvs : List V} (h : t σ H fun vs H1 => sp (vs ++ dvs) H1 Q E) : tCall sp dvs E t σ H Q := h
theorem z_sl {r : V → Option Int → Option Int → Hp → VK → Prop} {tl th : TO} (h : te σ H fun x H1 => tl σ H1 fun l H2 => th σ H2 fun u H3 => r x l u H3 Q) : tSl r te tl th σ H Q := h
theorem z_np (q : QO none H) : tNoPart σ H QO := q
theorem z_part (h : te σ H fun x H1 => IsP x H1 QO) : tPart te σ H QO := h
theorem z_isP (q : QO (some i) H) : IsP (.int i) H QO := ⟨i, rfl, q⟩
theorem z_seq (h : t1 ⟨t2 D, D.rt, D.bk, D.ct⟩ σ H) : tSeq t1 t2 D σ H := h
theorem z_asg (h : te σ H fun x H1 => g x σ H1 D.nx) : tAsg te g D σ H := h
theorem z_name {R : L2.St → Hp → Prop} (q : R (σ.set k (some v)) H) : gName k v σ H R := q
theorem z_ifS (h : tt σ H fun b H1 => Bif b (t1 D σ H1) (t2 D σ H1)) : tIfS tt t1 t2 D σ H := h
theorem z_ret (h : te σ H D.rt) : tRet te D σ H := h
theorem z_retN (q : D.rt .non H) : tRetN D σ H := q
theorem z_drop (h : te σ H fun _ H1 => D.nx σ H1) : tDrop te D σ H := h
theorem z_next (q : D.nx σ H) : tNext D σ H := q
theorem z_par {k l : Nat} {w : V} (h : t σ H fun vs H1 => ∃ v w, vs = [v, w] ∧ D.nx ((σ.set k (some v)).set l (some w)) H1) : tPar k l t D σ H := h
theorem z_dget (h : ta σ H fun x H1 => tb σ H1 fun y H2 => ∃ a v, x = .ref a ∧ DGet H2 a y (some v) ∧ Q v H2) : tDGet ta tb σ H Q := h

/-! new objects -/
theorem z_newT (z : Zp G M H) (hl : xs.length ≤ 100000) (q : ∀ p G1 H1, Zp G1 M H1 → Same G G1 → G1 p = some (.tup xs) → Q (.ref p) H1) : NewT xs H Q :=
  ⟨Nat.le_trans hl (by decide), fun p hp => q p _ _ (z.new hp _) (Same.new (z.free hp)) upd_same⟩
theorem z_newL (z : Zp G M H) (hl : xs.length ≤ 100000) (q : ∀ p G1 H1, Zp G1 M H1 → Same G G1 → G1 p = some (.lst xs) → Q (.ref p) H1) : NewL xs H Q :=
  ⟨Nat.le_trans hl (by decide), fun p hp => q p _ _ (z.new hp _) (Same.new (z.free hp)) upd_same⟩
/-- a list that is to change -/
theorem z_ownL (z : Zp G M H) (hl : xs.length ≤ 100000) (q : ∀ p H1, Zp G (M ++ [(p, .lst xs)]) H1 → Q (.ref p) H1) : NewL xs H Q :=
  ⟨Nat.le_trans hl (by decide), fun p hp => q p _ (z.add hp _)⟩

/-! operators -/
theorem z_addI (q : Q (.int (i + j)) H) : rAddG K (.int i) (.int j) H Q := .inl ⟨i, j, rfl, rfl, q⟩
theorem z_addS {x y : Str} (hl : x.length + y.length ≤ 100000) (q : Q (.str (x ++ y)) H) : rAddG K (.str x) (.str y) H Q := .inr (.inl ⟨x, y, rfl, rfl, Nat.le_trans hl (by decide), q⟩)
theorem z_addL (z : Zp G M H) (h1 : G a = some (.lst xs)) (h2 : G b = some (.lst ys)) (hl : xs.length + ys.length ≤ 100000) (q : ∀ p G1 H1, Zp G1 M H1 → Same G G1 → G1 p = some (.lst (xs ++ ys)) → Q (.ref p) H1) : rAddG K (.ref a) (.ref b) H Q :=
  .inr (.inr (.inl ⟨a, b, xs, ys, rfl, rfl, z.sub _ _ h1, z.sub _ _ h2, Nat.le_trans hl (by decide), fun p hp => q p _ _ (z.new hp _) (Same.new (z.free hp)) upd_same⟩))
theorem z_addT (z : Zp G M H) (h1 : SqT K G a xs) (h2 : SqT K G b ys) (hl : xs.length + ys.length ≤ 100000) (q : ∀ p G1 H1, Zp G1 M H1 → Same G G1 → SqT K G1 p (xs ++ ys) → Q (.ref p) H1) : rAddG K (.ref a) (.ref b) H Q := by
  refine .inr (.inr (.inr ⟨a, b, xs, ys, rfl, rfl, z.seqT h1, z.seqT h2, Nat.le_trans hl (by decide), fun e => ?_, fun _ e => ?_, fun _ _ p hp => ?_⟩))
  · subst e
    exact q b G H z (Same.refl G) h2
  · subst e
    exact q a G H z (Same.refl G) (by rw [List.append_nil]; exact h1)
  · exact q p _ _ (z.new hp _) (Same.new (z.free hp)) (SqT.of upd_same)
theorem z_I0 {f : Int → Int → V} (q : Q (f i j) H) : rI0 f (.int i) (.int j) H Q := ⟨i, j, rfl, rfl, q⟩
theorem z_I {C : Int → Int → Prop} {f : Int → Int → V} (h : C i j) (q : Q (f i j) H) : rI C f (.int i) (.int j) H Q := ⟨i, j, rfl, rfl, h, q⟩
theorem z_eqS (h : scal x y = true) (q : Q (.bl (decide (x = y))) H) : rEqG K x y H Q := .inl ⟨h, q⟩
theorem z_neS (h : scal x y = true) (q : Q (.bl (!decide (x = y))) H) : rNeG K x y H Q := .inl ⟨h, q⟩
theorem z_eqD {d e : PyData} (z : Zp G M H) (h1 : Dt K G x d) (h2 : Dt K G y e) (c1 : SeqAt.shaped d = true) (c2 : SeqAt.shaped e = true) (q : Q (.bl (PyData.eqv d e)) H) : rEqG K x y H Q :=
  .inr (.inl ⟨d, e, Dt.dp d x (SeqAt.canLay_of_shaped c1) (z.dt h1), Dt.dp e y (SeqAt.canLay_of_shaped c2) (z.dt h2), c1, c2, q⟩)
theorem z_neD {d e : PyData} (z : Zp G M H) (h1 : Dt K G x d) (h2 : Dt K G y e) (c1 : SeqAt.shaped d = true) (c2 : SeqAt.shaped e = true) (q : Q (.bl (!PyData.eqv d e)) H) : rNeG K x y H Q :=
  .inr (.inl ⟨d, e, Dt.dp d x (SeqAt.canLay_of_shaped c1) (z.dt h1), Dt.dp e y (SeqAt.canLay_of_shaped c2) (z.dt h2), c1, c2, q⟩)
theorem z_ixL (z : Zp G M H) (h : SqL K G a xs) (e : atI xs i = some v) (q : Q v H) : rIx K (.ref a) (.int i) H Q := .inl ⟨a, xs, i, v, rfl, rfl, z.seqL h, e, q⟩
theorem z_ixT (z : Zp G M H) (h : SqT K G a xs) (e : atI xs i = some v) (q : Q v H) : rIx K (.ref a) (.int i) H Q := .inr (.inl ⟨a, xs, i, v, rfl, rfl, z.seqT h, e, q⟩)
theorem z_ixS {s : Str} {ch : Nat} (hl : s.length ≤ 100000) (e : atI s.cps.toList i = some ch) (q : Q (.str ⟨#[ch]⟩) H) : rIx K (.str s) (.int i) H Q := .inr (.inr ⟨s, i, ch, rfl, rfl, Nat.le_trans hl (by decide), e, q⟩)
theorem z_slL {lo hi : Option Int} (z : Zp G M H) (h : SqL K G a xs) (q : ∀ p G1 H1, Zp G1 M H1 → Same G G1 → G1 p = some (.lst (cutV xs lo hi)) → Q (.ref p) H1) : rSlG K (.ref a) lo hi H Q :=
  .inl ⟨a, xs, rfl, z.seqL h, fun p hp => q p _ _ (z.new hp _) (Same.new (z.free hp)) upd_same⟩
theorem sIx_all {lo hi : Option Int} (h : HT.sIx xs.length 0 lo = 0 ∧ HT.sIx xs.length xs.length hi = xs.length) : cutV xs lo hi = xs := by
  unfold cutV
  rw [h.1, h.2]
  simp
theorem z_slT {lo hi : Option Int} (z : Zp G M H) (h : SqT K G a xs) (q : ∀ p G1 H1, Zp G1 M H1 → Same G G1 → SqT K G1 p (cutV xs lo hi) → Q (.ref p) H1) : rSlG K (.ref a) lo hi H Q :=
  .inr (.inl ⟨a, xs, rfl, z.seqT h, fun e => q a G H z (Same.refl G) (by rw [sIx_all e]; exact h), fun _ p hp => q p _ _ (z.new hp _) (Same.new (z.free hp)) (SqT.of upd_same)⟩)
theorem z_slS {s : Str} {lo hi : Option Int} (hl : s.length ≤ 100000) (q : Q (.str (cutS s lo hi)) H) : rSlG K (.str s) lo hi H Q := .inr (.inr ⟨s, rfl, Nat.le_trans hl (by decide), q⟩)
/-! calls of what is built in -/
theorem z_int (q : Q (.int i) H) : rIntG [.int i] H Q := .inl ⟨i, rfl, q⟩
theorem z_lenL {P : Program} {w : World} (z : Zp G M H) (h : SqL K G a xs) (q : Q (.int xs.length) H) : rLenG K P w [.ref a] H Q := .inl ⟨_, _, rfl, .inl ⟨xs, z.seqL h, rfl⟩, q⟩
end
end Ys
namespace Ys
open PySem PySem.Spec PyProof.Rows L2
/-! ### sorted, different texts: one list alone -/
theorem ltCps_irr : ∀ xs : List Nat, ltCps xs xs = false := fun xs => by rw [ltCps_eq]; exact decide_eq_false (fun h => List.lt_irrefl xs h)
def leS (a b : Str) : Bool := !decide (b.cps.toList < a.cps.toList)
theorem leS_total (a b : Str) : (leS a b || leS b a) = true := by
  unfold leS
  by_cases h : b.cps.toList < a.cps.toList
  · have : ¬ a.cps.toList < b.cps.toList := fun h2 => List.lt_asymm h h2
    simp [h, this]
  · simp [h]
theorem leS_trans (a b c : Str) (h1 : leS a b = true) (h2 : leS b c = true) : leS a c = true := by
  unfold leS at *
  simp only [Bool.not_eq_true', decide_eq_false_iff_not, List.not_lt] at *
  exact List.le_trans h1 h2
theorem leS_anti {a b : Str} (h1 : leS a b = true) (h2 : leS b a = true) : a = b := by
  unfold leS at *
  simp only [Bool.not_eq_true', decide_eq_false_iff_not, List.not_lt] at *
  have e := List.le_antisymm h1 h2
  obtain ⟨⟨x⟩⟩ := a
  obtain ⟨⟨y⟩⟩ := b
  simp only at e
  rw [e]
theorem sortedS_pw : ∀ l : List Str, sortedS l = true → l.Pairwise (fun a b => leS a b = true)
  | [], _ => List.Pairwise.nil
  | x :: r, h => by
    have go : ∀ (r : List Str) (x : Str), risingS x r = true → (x :: r).Pairwise (fun a b => leS a b = true) := by
      intro r
      induction r with
      | nil => intro x _; exact List.pairwise_singleton _ _
      | cons y r ih =>
        intro x h
        obtain ⟨h1, h2⟩ := Bool.and_eq_true_iff.mp (show (!ltCps y.cps.toList x.cps.toList && risingS y r) = true from h)
        have hxy : leS x y = true := by
          unfold leS
          rw [← ltCps_eq]
          exact h1
        have p := ih y h2
        refine List.pairwise_cons.mpr ⟨fun z hz => ?_, p⟩
        rcases List.mem_cons.mp hz with rfl | hz
        · exact hxy
        · exact leS_trans _ _ _ hxy (List.rel_of_pairwise_cons p hz)
    exact go r x h
theorem perm_one {l m : List Str} (p : l.Perm m) (h1 : l.Pairwise (fun a b => leS a b = true)) (h2 : m.Pairwise (fun a b => leS a b = true)) : l = m :=
  List.Perm.eq_of_pairwise (le := fun a b => leS a b = true) (fun a b _ _ x y => leS_anti x y) h1 h2 p
def dd : List Str → List Str
  | [] => []
  | x :: r => if x ∈ r then dd r else x :: dd r
theorem mem_dd {x : Str} : ∀ {xs : List Str}, x ∈ dd xs ↔ x ∈ xs
  | [] => by simp [dd]
  | y :: r => by
    have ih := mem_dd (x := x) (xs := r)
    unfold dd
    by_cases h : y ∈ r
    · rw [if_pos h, ih, List.mem_cons]
      exact ⟨.inr, fun z => z.elim (fun e => e ▸ h) id⟩
    · rw [if_neg h, List.mem_cons, List.mem_cons, ih]
theorem dd_nodup : ∀ xs : List Str, (dd xs).Nodup
  | [] => List.nodup_nil
  | y :: r => by
    unfold dd
    by_cases h : y ∈ r
    · rw [if_pos h]
      exact dd_nodup r
    · rw [if_neg h]
      exact List.nodup_cons.mpr ⟨fun z => h (mem_dd.mp z), dd_nodup r⟩
/-- the different texts of a list, ascending -/
def asc (xs : List Str) : List Str := (dd xs).mergeSort leS
theorem asc_mem {x : Str} {xs : List Str} : x ∈ asc xs ↔ x ∈ xs := by
  unfold asc
  rw [(List.mergeSort_perm _ _).mem_iff]
  exact mem_dd
theorem asc_nodup (xs : List Str) : (asc xs).Nodup := (List.mergeSort_perm _ _).nodup_iff.mpr (dd_nodup xs)
theorem asc_pw (xs : List Str) : (asc xs).Pairwise (fun a b => leS a b = true) := List.pairwise_mergeSort leS_trans leS_total _
theorem asc_is {xs ys l : List Str} (h1 : ys.Perm l) (h2 : sortedS ys = true) (nd : l.Nodup) (m : ∀ x, x ∈ l ↔ x ∈ xs) : ys = asc xs := by
  refine perm_one ?_ (sortedS_pw ys h2) (asc_pw xs)
  refine (List.perm_ext_iff_of_nodup (h1.nodup_iff.mpr nd) (asc_nodup xs)).mpr fun x => ?_
  rw [h1.mem_iff, m x, asc_mem]
theorem asc_congr {xs ys : List Str} (m : ∀ x, x ∈ xs ↔ x ∈ ys) : asc xs = asc ys := by
  refine perm_one ?_ (asc_pw _) (asc_pw _)
  exact (List.perm_ext_iff_of_nodup (asc_nodup xs) (asc_nodup ys)).mpr fun x => by rw [asc_mem, asc_mem, m x]
end Ys
namespace Ys
open PySem PySem.Spec PyProof.Rows L2
section
variable {K : PySem.W.Frag} {P : Program} {w : World} {G H : Hp} {M : List (Addr × HO)} {σ : L2.St} {Q : VK} {QB : Bool → Hp → Prop} {QA : List V → Hp → Prop} {D : Ends} {ta tb te : TE} {tt : TT} {t : TA} {ts : TS} {A : Prop} {v x y : V} {i j : Int} {k : Nat} {a b : Addr} {xs ys vs : List V} {g : TG}
/-! ### calls of what is built in -/
theorem z_lenT (z : Zp G M H) (h : SqT K G a xs) (q : Q (.int xs.length) H) : rLenG K P w [.ref a] H Q := .inl ⟨_, _, rfl, .inr ⟨xs, z.seqT h, rfl⟩, q⟩
theorem z_lenO (z : Zp G M H) (k : Nat) (e : M[k]? = some (a, .lst xs)) (q : Q (.int xs.length) H) : rLenG K P w [.ref a] H Q := .inl ⟨_, _, rfl, .inl ⟨xs, SqL.of (z.at_ k e), rfl⟩, q⟩
theorem z_lenS {s : Str} (hl : s.length ≤ 100000) (q : Q (.int s.length) H) : rLenG K P w [.str s] H Q := .inl ⟨_, _, rfl, ⟨Nat.le_trans hl (by decide), rfl⟩, q⟩
theorem z_lenX {l : List Str} (z : Zp G M H) (h : G a = some (TxO P w a l)) (hl : l.length < 1000) (q : Q (.int l.length) H) : rLenG K P w [.ref a] H Q := .inr ⟨a, l, rfl, z.sub _ _ h, hl, q⟩
theorem z_listG (z : Zp G M H) (h : SqL K G a xs ∨ SqT K G a xs) (q : ∀ p G1 H1, Zp G1 M H1 → Same G G1 → G1 p = some (.lst xs) → Q (.ref p) H1) : rListG K [.ref a] H Q :=
  ⟨a, xs, rfl, h.imp z.seqL z.seqT, fun p hp => q p _ _ (z.new hp _) (Same.new (z.free hp)) upd_same⟩
theorem z_listO (z : Zp G M H) (h : SqL K G a xs ∨ SqT K G a xs) (q : ∀ p H1, Zp G (M ++ [(p, .lst xs)]) H1 → Q (.ref p) H1) : rListG K [.ref a] H Q :=
  ⟨a, xs, rfl, h.imp z.seqL z.seqT, fun p hp => q p _ (z.add hp _)⟩
theorem z_tupL (z : Zp G M H) (h : SqL K G a xs) (q : ∀ p G1 H1, Zp G1 M H1 → Same G G1 → SqT K G1 p xs → Q (.ref p) H1) : rTupG K [.ref a] H Q :=
  ⟨a, xs, rfl, .inl ⟨z.seqL h, fun p hp => q p _ _ (z.new hp _) (Same.new (z.free hp)) (SqT.of upd_same)⟩⟩
theorem z_tupO (z : Zp G M H) (k : Nat) (e : M[k]? = some (a, .lst xs)) (q : ∀ p G1 H1, Zp G1 M H1 → Same G G1 → SqT K G1 p xs → Q (.ref p) H1) : rTupG K [.ref a] H Q :=
  ⟨a, xs, rfl, .inl ⟨SqL.of (z.at_ k e), fun p hp => q p _ _ (z.new hp _) (Same.new (z.free hp)) (SqT.of upd_same)⟩⟩
theorem z_tupT (z : Zp G M H) (h : SqT K G a xs) (q : Q (.ref a) H) : rTupG K [.ref a] H Q := ⟨a, xs, rfl, .inr ⟨z.seqT h, q⟩⟩
theorem z_set {ss : List Str} (z : Zp G M H) (h : SqL K G a (ss.map V.str) ∨ SqT K G a (ss.map V.str)) (hl : ss.length < 1000)
    (q : ∀ p l G1 H1, Zp G1 M H1 → Same G G1 → G1 p = some (TxO P w p l) → (∀ x, x ∈ l ↔ x ∈ ss) → l.Nodup → l.length ≤ ss.length → Q (.ref p) H1) : rSetTx K P w [.ref a] H Q :=
  ⟨a, ss, rfl, h.imp z.seqL z.seqT, hl, fun p l m nd len hp => q p l _ _ (z.new hp _) (Same.new (z.free hp)) upd_same m nd len⟩
theorem z_sortX {l ss : List Str} (z : Zp G M H) (h : G a = some (TxO P w a l)) (m : ∀ x, x ∈ l ↔ x ∈ ss) (nd : l.Nodup) (hl : l.length < 64) (q : ∀ p G1 H1, Zp G1 M H1 → Same G G1 → G1 p = some (.lst ((asc ss).map V.str)) → Q (.ref p) H1) :
    rSortG K P w [.ref a] H Q := .inl ⟨a, l, rfl, z.sub _ _ h, hl, fun ys p pm so hp => by
  rw [asc_is pm so nd m]
  exact q p _ _ (z.new hp _) (Same.new (z.free hp)) upd_same⟩
theorem z_all {bs : List Bool} (z : Zp G M H) (h : SqL K G a (bs.map V.bl)) (q : Q (.bl (bs.all id)) H) : rAllG K [.ref a] H Q := ⟨a, bs, rfl, z.seqL h, q⟩
theorem z_min2 (q : Q (.int (if j < i then j else i)) H) : rMin2 [.int i, .int j] H Q := ⟨i, j, rfl, q⟩
theorem z_repr {d : PyData} (z : Zp G M H) (h : Dt K G x d) (s1 : d.showable = true) (s2 : d.depth ≤ 60) (s3 : d.shown.length ≤ 100000) (q : Q (.str d.shown) H) : rRepr K [x] H Q := ⟨x, d, rfl, z.dt h, s1, s2, Nat.le_trans s3 (by decide), q⟩
/-! methods -/
def TyV (K : PySem.W.Frag) (T : String) (x : V) (H : Hp) (A : Prop) : Prop := tyV K T x H ∧ A
theorem z_bm {T : String} {r : V → List V → Hp → VK → Prop} (h : te σ H fun x H1 => TyV K T x H1 (t σ H1 fun xs H2 => r x xs H2 Q)) : tBM K T r te t σ H Q := h
theorem z_bm0 {T : String} {r : V → List V → Hp → VK → Prop} (h : te σ H fun x H1 => TyV K T x H1 (r x [] H1 Q)) : tBM0 K T r te σ H Q := h
theorem z_tyO (z : Zp G M H) (k : Nat) (e : M[k]? = some (a, .lst xs)) (q : A) : TyV K "list" (.ref a) H A := ⟨.inl ⟨rfl, _, SqL.of (z.at_ k e)⟩, q⟩
theorem z_tyL (z : Zp G M H) (e : SqL K G a xs) (q : A) : TyV K "list" (.ref a) H A := ⟨.inl ⟨rfl, _, z.seqL e⟩, q⟩
theorem z_append (z : Zp G M H) (k : Nat) (e : M[k]? = some (a, .lst xs)) (hl : xs.length ≤ 100000) (q : ∀ H1, Zp G (M.set k (a, .lst (xs ++ [v]))) H1 → Q .non H1) : rAppend (.ref a) [v] H Q :=
  ⟨a, xs, v, rfl, rfl, z.at_ k e, Nat.lt_of_le_of_lt hl (by decide), q _ (z.put k e _)⟩
theorem seqIx {n : Nat} {i : Int} (h0 : 0 ≤ i) (h1 : i < n) : seqIndex? i n = some i.toNat := by
  obtain ⟨k, rfl⟩ := Int.eq_ofNat_of_zero_le h0
  have := atI_get (atI_nat (xs := List.replicate n ()) (j := k) (v := ()) (by
    have : k < n := by omega
    simp [this]))
  obtain ⟨j, e1, e2, e3, _⟩ := this
  rw [List.length_replicate] at e1
  have hk : (ixN n (k : Int)) = some k := by
    unfold ixN
    rw [if_pos (by omega), if_pos h1]
    rfl
  have := (ixN_seq hk).1
  rw [this]
  rfl
theorem z_popAt (z : Zp G M H) (k : Nat) (e : M[k]? = some (a, .lst xs)) (h0 : 0 ≤ i) (h1 : i < xs.length) (hl : xs.length ≤ 100000) (ev : xs[i.toNat]? = some v) (q : ∀ H1, Zp G (M.set k (a, .lst (xs.eraseIdx i.toNat))) H1 → Q v H1) :
    rPopAt (.ref a) [.int i] H Q := ⟨a, xs, i, i.toNat, v, rfl, rfl, z.at_ k e, by omega, by omega, seqIx h0 h1, ev, q _ (z.put k e _)⟩
theorem z_extend {b : Addr} (z : Zp G M H) (k : Nat) (e : M[k]? = some (a, .lst xs)) (h : G b = some (.lst ys)) (hl : xs.length + ys.length ≤ 100000) (q : ∀ H1, Zp G (M.set k (a, .lst (xs ++ ys))) H1 → Q .non H1) : rExtend (.ref a) [.ref b] H Q :=
  ⟨a, b, xs, ys, rfl, rfl, z.at_ k e, z.sub _ _ h, Nat.le_trans hl (by decide), q _ (z.put k e _)⟩
def IsS (x : V) (A : Prop) : Prop := (∃ a, x = .str a) ∧ A
theorem z_m1 {r : V → List V → Hp → VK → Prop} (h : ta σ H fun x H1 => IsS x (te σ H1 fun y H2 => r x [y] H2 Q)) : tM1 r ta te σ H Q := h
theorem z_isS {s : Str} (q : A) : IsS (.str s) A := ⟨⟨s, rfl⟩, q⟩
def rJoin (K : PySem.W.Frag) : V → List V → Hp → VK → Prop := fun x xs H Q => ∃ a p, ∃ ys : List Str, x = .str a ∧ xs = [.ref p] ∧ (SqL K H p (ys.map V.str) ∨ SqT K H p (ys.map V.str)) ∧ (ys.map (·.length)).sum + ys.length * a.length ≤ 16777216 ∧ Q (.str (Txt.join a ys)) H
theorem z_join {s : Str} {ss : List Str} (z : Zp G M H) (h : SqL K G a (ss.map V.str)) (hl : (ss.map (·.length)).sum + ss.length * s.length ≤ 100000) (q : Q (.str (Txt.join s ss)) H) : rJoin K (.str s) [.ref a] H Q :=
  ⟨s, a, ss, rfl, rfl, .inl (z.seqL h), Nat.le_trans hl (by decide), q⟩
/-! ### targets of several names -/
def UnpT (K : PySem.W.Frag) (n : Nat) (t : TGs) (v : V) (σ : L2.St) (H : Hp) (R : L2.St → Hp → Prop) : Prop := gTup K n t v σ H R
theorem z_gtup {n : Nat} {u : TGs} {R : L2.St → Hp → Prop} (z : Zp G M H) (h : SqT K G a xs) (hl : xs.length = n) (q : u xs σ H R) : gTup K n u (.ref a) σ H R := ⟨a, xs, rfl, z.seqT h, hl, q⟩
theorem z_gunl {n : Nat} {u : TGs} {R : L2.St → Hp → Prop} (z : Zp G M H) (h : SqL K G a xs) (hl : xs.length = n) (q : u xs σ H R) : gUnl K n u (.ref a) σ H R := ⟨a, xs, rfl, z.seqL h, hl, q⟩
theorem z_gnil {R : L2.St → Hp → Prop} (q : R σ H) : gNil [] σ H R := ⟨rfl, q⟩
theorem z_gcons {u : TGs} {R : L2.St → Hp → Prop} (q : g v σ H fun σ' H' => u xs σ' H' R) : gCons g u (v :: xs) σ H R := ⟨v, xs, rfl, q⟩
/-! ### what is walked -/
structure Src (J : It) (xs : List V) (OK : Hp → Prop) : Prop where
  go : ∀ i H, OK H → i < xs.length → J.go i H
  stop : ∀ i H, OK H → xs.length ≤ i → J.stop i H
  yld : ∀ i H x H', OK H → i < xs.length → J.yld i H x H' → H' = H ∧ xs[i]? = some x
theorem src_L {xs : List V} : Src (Itl K a) xs (fun H => SqL K H a xs) where
  go := fun i H h hi => ⟨xs, xs[i], h, by simp [hi]⟩
  stop := fun i H h hi => ⟨xs, h, hi⟩
  yld := fun i H x H' h _ y => ⟨y.1, y.2 xs h⟩
theorem src_T {xs : List V} : Src (Itt K a) xs (fun H => SqT K H a xs) where
  go := fun i H h hi => ⟨xs, xs[i], h, by simp [hi]⟩
  stop := fun i H h hi => ⟨xs, h, hi⟩
  yld := fun i H x H' h _ y => ⟨y.1, y.2 xs h⟩
def rngV (lo : Int) (n : Nat) : List V := (List.range n).map fun (i : Nat) => V.int (lo + (i : Int))
theorem rngV_len (lo : Int) (n : Nat) : (rngV lo n).length = n := by simp [rngV]
theorem src_R {lo : Int} {n : Nat} : Src (Itr lo n) (rngV lo n) (fun _ => True) where
  go := fun i H _ hi => by rw [rngV_len] at hi; exact hi
  stop := fun i H _ hi => by rw [rngV_len] at hi; exact hi
  yld := fun i H x H' _ hi y => ⟨y.1, by
    rw [rngV_len] at hi
    rw [y.2]
    simp [rngV, hi]⟩
def chrV (s : Str) : List V := s.cps.toList.map fun c => V.str ⟨#[c]⟩
theorem chrV_len (s : Str) : (chrV s).length = s.length := by simp [chrV]; rfl
theorem src_S {s : Str} : Src (Its s) (chrV s) (fun _ => True) where
  go := fun i H _ hi => by rw [chrV_len] at hi; exact hi
  stop := fun i H _ hi => by rw [chrV_len] at hi; exact hi
  yld := fun i H x H' _ _ y => by
    obtain ⟨e, c, h1, h2⟩ := y
    refine ⟨e, ?_⟩
    unfold chrV
    rw [List.getElem?_map, Array.getElem?_toList, h1, h2]
    rfl
/-! ### for -/
def ForW (J : It) (g : TG) (tb : TS) (D : Ends) (σ : L2.St) (H : Hp) : Prop := ∃ W : Nat → Nat → L2.St → Hp → Prop, (∃ m, W 0 m σ H) ∧ ∀ i m σ H, W i m σ H →
  (J.stop i H ∧ D.nx σ H) ∨ (J.go i H ∧ ∃ N : L2.St → Hp → Prop, (∀ σ' H', N σ' H' → ∃ m', m' < m ∧ W (i + 1) m' σ' H') ∧ ∀ x H', J.yld i H x H' → g x σ H' fun σ2 H2 => tb { D with nx := N, ct := N, bk := D.nx } σ2 H2)
theorem z_for {wi : TI} {tb : TS} (h : wi σ H fun J H1 => ForW J g tb D σ H1) : tFor wi g tb D σ H := h
/-- by what holds between two turns -/
theorem for_src {J : It} {tb : TS} {OK : Hp → Prop} (S : Src J xs OK) (I : Nat → L2.St → Hp → List (Addr × HO) → Prop) (z : Zp G M H) (h0 : I 0 σ G M) (ok : ∀ i σ G M H, I i σ G M → Zp G M H → OK H)
    (turn : ∀ i x σ G M H, xs[i]? = some x → I i σ G M → Zp G M H → g x σ H fun σ2 H2 => tb ⟨fun σ' H' => ∃ G' M', Zp G' M' H' ∧ I (i + 1) σ' G' M', D.rt, D.nx, fun σ' H' => ∃ G' M', Zp G' M' H' ∧ I (i + 1) σ' G' M'⟩ σ2 H2)
    (done : ∀ σ G M H, I xs.length σ G M → Zp G M H → D.nx σ H) : ForW J g tb D σ H := by
  refine ⟨fun i m σ H => m = xs.length - i ∧ i ≤ xs.length ∧ ∃ G M, Zp G M H ∧ I i σ G M, ⟨xs.length, by simp, Nat.zero_le _, G, M, z, h0⟩, ?_⟩
  rintro i m σ H ⟨rfl, hi, G, M, z, h⟩
  have o := ok i σ G M H h z
  by_cases c : i < xs.length
  · refine .inr ⟨S.go i H o c, fun σ' H' => ∃ G' M', Zp G' M' H' ∧ I (i + 1) σ' G' M', fun σ' H' q => ⟨xs.length - (i + 1), by omega, rfl, c, q⟩, fun x H' y => ?_⟩
    obtain ⟨rfl, e⟩ := S.yld i H x H' o c y
    exact turn i x σ G M H' e h z
  · obtain rfl : i = xs.length := by omega
    exact .inl ⟨S.stop _ H o (Nat.le_refl _), done σ G M H h z⟩
/-! ### comprehensions -/
def LcW (J : It) (g : TG) (tt : TT) (te : TE) (ws : List Nat) (σ : L2.St) (H1 : Hp) (Q : VK) : Prop := ∀ D, H1 D = none → ∃ W : Nat → Nat → Hp → Prop, (∃ m, W 0 m (upd H1 D (.lst []))) ∧ ∀ i m H, W i m H →
  (J.stop i H ∧ Q (.ref D) H) ∨ (J.go i H ∧ ∃ Nx : Hp → Prop, (∀ H', Nx H' → ∃ m', m' < m ∧ W (i + 1) m' H') ∧ ∀ x H', J.yld i H x H' → g x (wipe σ ws) H' fun σ2 H2 => wipe σ2 ws = wipe σ ws ∧ tt σ2 H2 fun b H3 =>
    if b = true then te σ2 H3 fun y H4 => ∃ acc, H4 D = some (.lst acc) ∧ acc.length < sizeLine ∧ Nx (upd H4 D (.lst (acc ++ [y]))) else Nx H3)
theorem z_lc {wi : TI} {ws : List Nat} (h : wi σ H fun J H1 => LcW J g tt te ws σ H1 Q) : tLc wi g tt te ws σ H Q := h
/-- what a turn is to reach: the item y is laid behind those so far, or nothing is -/
def Kept (I : Hp → List (Addr × HO) → List V → Prop) (D : Addr) (H : Hp) : Prop := ∃ G M acc, Zp G (M ++ [(D, .lst acc)]) H ∧ I G M acc
def Laid (I : Hp → List (Addr × HO) → List V → Prop) (D : Addr) (y : V) (H : Hp) : Prop := ∃ acc, H D = some (.lst acc) ∧ acc.length < sizeLine ∧ Kept I D (upd H D (.lst (acc ++ [y])))
theorem last_at {M : List (Addr × HO)} {p : Addr × HO} : (M ++ [p])[M.length]? = some p := by simp
theorem z_laid {I : Hp → List (Addr × HO) → List V → Prop} {Dl : Addr} {acc : List V} (z : Zp G (M ++ [(Dl, .lst acc)]) H) (hl : acc.length ≤ 100000) (q : I G M (acc ++ [y])) : Laid I Dl y H := by
  refine ⟨acc, z.at_ M.length last_at, Nat.lt_of_le_of_lt hl (by decide), G, M, acc ++ [y], ?_, q⟩
  have := z.put M.length last_at (.lst (acc ++ [y]))
  rw [List.set_append_right _ _ (Nat.le_refl _), Nat.sub_self] at this
  exact this
theorem z_left {I : Hp → List (Addr × HO) → List V → Prop} {Dl : Addr} {acc : List V} (z : Zp G (M ++ [(Dl, .lst acc)]) H) (q : I G M acc) : Kept I Dl H := ⟨G, M, acc, z, q⟩
theorem lc_src {J : It} {ws : List Nat} {OK : Hp → Prop} (S : Src J xs OK) (I : Nat → Hp → List (Addr × HO) → List V → Prop) (z : Zp G M H) (h0 : I 0 G M []) (ok : ∀ i G M M1 acc H, I i G M acc → Zp G (M ++ M1) H → OK H)
    (turn : ∀ i x G M acc Dl H, xs[i]? = some x → I i G M acc → Zp G (M ++ [(Dl, .lst acc)]) H → g x (wipe σ ws) H fun σ2 H2 => wipe σ2 ws = wipe σ ws ∧ tt σ2 H2 fun b H3 =>
      Bif b (te σ2 H3 fun y H4 => Laid (I (i + 1)) Dl y H4) (Kept (I (i + 1)) Dl H3))
    (done : ∀ p G M acc G1 H1, I xs.length G M acc → Same G G1 → Zp G1 M H1 → G1 p = some (.lst acc) → Q (.ref p) H1) : LcW J g tt te ws σ H Q := by
  intro Dl hD
  refine ⟨fun i m H => m = xs.length - i ∧ i ≤ xs.length ∧ Kept (I i) Dl H, ⟨xs.length, by simp, Nat.zero_le _, G, M, [], z.add hD _, h0⟩, ?_⟩
  rintro i m H ⟨rfl, hi, G, M, acc, z, h⟩
  have o := ok i G M _ acc H h z
  by_cases c : i < xs.length
  · refine .inr ⟨S.go i H o c, Kept (I (i + 1)) Dl, fun H' q => ⟨xs.length - (i + 1), by omega, rfl, c, q⟩, fun x H' y => ?_⟩
    obtain ⟨rfl, e⟩ := S.yld i H x H' o c y
    exact turn i x G M acc Dl H' e h z
  · obtain rfl : i = xs.length := by omega
    refine .inl ⟨S.stop _ H o (Nat.le_refl _), done Dl G M acc _ H h (Same.new ?_) z.fix upd_same⟩
    exact (z.own M.length _ _ last_at).2
theorem z_yes (q : QB true H) : tYes σ H QB := q
/-! what a for or a comprehension begins with -/
def ItL (K : PySem.W.Frag) (x : V) (H : Hp) (R : It → Hp → Prop) : Prop := ∃ a, x = .ref a ∧ (∃ xs, SqL K H a xs) ∧ R (Itl K a) H
def ItT (K : PySem.W.Frag) (x : V) (H : Hp) (R : It → Hp → Prop) : Prop := ∃ a, x = .ref a ∧ (∃ xs, SqT K H a xs) ∧ R (Itt K a) H
def ItS (x : V) (H : Hp) (R : It → Hp → Prop) : Prop := ∃ s, x = .str s ∧ R (Its s) H
def ItR (vs : List V) (H : Hp) (R : It → Hp → Prop) : Prop := ∃ j : Int, vs = [.int j] ∧ -(2 ^ 62) ≤ j ∧ j < 2 ^ 62 ∧ R (Itr 0 j.toNat) H
variable {R : It → Hp → Prop}
theorem z_iL (h : te σ H fun x H1 => ItL K x H1 R) : iList K te σ H R := h
theorem z_iT (h : te σ H fun x H1 => ItT K x H1 R) : iTup K te σ H R := h
theorem z_iS (h : te σ H fun x H1 => ItS x H1 R) : iStr te σ H R := h
theorem z_iR (h : t σ H fun vs H1 => ItR vs H1 R) : iRng1 t σ H R := h
theorem z_itL (z : Zp G M H) (h : SqL K G a xs) (q : R (Itl K a) H) : ItL K (.ref a) H R := ⟨a, rfl, ⟨xs, z.seqL h⟩, q⟩
theorem z_itT (z : Zp G M H) (h : SqT K G a xs) (q : R (Itt K a) H) : ItT K (.ref a) H R := ⟨a, rfl, ⟨xs, z.seqT h⟩, q⟩
theorem z_itS {s : Str} (q : R (Its s) H) : ItS (.str s) H R := ⟨s, rfl, q⟩
theorem z_itR {j : Int} (h0 : -(2 ^ 62) ≤ j) (h1 : j < 2 ^ 62) (q : R (Itr 0 j.toNat) H) : ItR [.int j] H R := ⟨j, rfl, h0, h1, q⟩
/-! ### a call of a def of the module -/
structure Own (P : Program) (w : World) (K : PySem.W.Frag) (mg : Str → Option Value) (base : Heap) (CX : CXT) (k : Nat) (x : Str) (ps : List Str) (sp : Sp) : Prop where
  ex : ∃ f fd, FnOk P w K mg base CX k f fd ps sp ∧ mg x = some (.ref f) ∧ PySem.W.keepIn K (.ref f) = true ∧ Binds K fd ps []
theorem pe_own {X : Cx} {CX : CXT} {k : Nat} {x : Str} {ps : List Str} {sp : Sp} {E : XK} {p pos : Pos} {e : Expr} {es : List Expr} {t : TA} (C : Own X.prog X.w X.K X.mg X.base CX k x ps sp) (hr : Room k X.A) (hg : Gl X x) (hx : Passes CX X E) (ha : PA X (e :: es) t)
    (hdb : (x == ("__debug__" : Str)) = false := by decide) (he : starEach (e :: es) X.env = (false, eval e X.env) :: starEach es X.env := by rfl) (hpl : (backTo pos (starEach es X.env)).any (·.1) = false := by rfl) :
    PE X (.Call (.Name x p) (e :: es) [] pos) (tCall sp [] E t) := by
  refine ⟨fun pins s σ H Q I h => ?_⟩
  obtain ⟨f, fd, F, hm, hk, hb⟩ := C.ex
  exact (pe_call F hr hg hm hk hb .nil hx ha hdb he hpl).run pins s σ H Q I h
end
end Ys
namespace Ys
open PySem PySem.Spec PyProof.Rows L2
section
variable {K : PySem.W.Frag} {P : Program} {w : World} {G G1 H : Hp} {M M1 : List (Addr × HO)} {σ : L2.St} {Q : VK} {QB : Bool → Hp → Prop} {D : Ends} {tc : TT} {tb t1 t2 : TS} {A B : Prop} {v x y : V} {i j : Int} {a b p : Addr} {xs ys vs : List V} {o : HO} {u : Addr × HO}
theorem Zp.perm (z : Zp G M H) (h : M.Perm M1) : Zp G M1 H where
  sub := z.sub
  own := fun i q o e => by
    obtain ⟨j, hj⟩ := List.getElem?_of_mem (h.mem_iff.mpr (List.mem_of_getElem? e))
    exact z.own j q o hj
  nd := (h.map _).nodup_iff.mp z.nd
theorem Zp.keep (z : Zp G M H) (h : M1.Sublist M) : Zp G M1 H where
  sub := z.sub
  own := fun i q o e => by
    obtain ⟨j, hj⟩ := List.getElem?_of_mem (h.subset (List.mem_of_getElem? e))
    exact z.own j q o hj
  nd := (h.map _).nodup z.nd
/-- a new object right behind the first -/
theorem Zp.addP (z : Zp G (u :: M) H) (h : H p = none) (o : HO) : Zp G (u :: (p, o) :: M) (upd H p o) :=
  (z.add h o).perm (by
    rw [List.cons_append]
    exact List.Perm.cons _ (List.perm_append_comm (l₁ := M) (l₂ := [(p, o)])))
theorem Zp.drop2 (z : Zp G (u :: (p, o) :: M) H) : Zp G (u :: M) H :=
  Zp.cut (M := u :: M) (M1 := [(p, o)]) (z.perm (by
    rw [List.cons_append]
    exact List.Perm.cons _ (List.perm_append_comm (l₁ := [(p, o)]) (l₂ := M))))
theorem Zp.fix2 (z : Zp G (u :: (p, o) :: M) H) : Zp (upd G p o) (u :: M) H ∧ G p = none :=
  have z2 : Zp G ((u :: M) ++ [(p, o)]) H := z.perm (by
    rw [List.cons_append]
    exact List.Perm.cons _ (List.perm_append_comm (l₁ := [(p, o)]) (l₂ := M)))
  ⟨z2.fix, (z2.own (u :: M).length p o (by simp)).2⟩
theorem z_listP (z : Zp G (u :: M) H) (h : SqL K G a xs ∨ SqT K G a xs) (q : ∀ p H1, Zp G (u :: (p, .lst xs) :: M) H1 → Q (.ref p) H1) : rListG K [.ref a] H Q :=
  ⟨a, xs, rfl, h.imp z.seqL z.seqT, fun p hp => q p _ (z.addP hp _)⟩
theorem z_ownP (z : Zp G (u :: M) H) (hl : xs.length ≤ 100000) (q : ∀ p H1, Zp G (u :: (p, .lst xs) :: M) H1 → Q (.ref p) H1) : NewL xs H Q :=
  ⟨Nat.le_trans hl (by decide), fun p hp => q p _ (z.addP hp _)⟩
theorem z_bd {p : Prop} {i : Decidable p} (h1 : p → A) (h2 : ¬ p → B) : Bif (@decide p i) A B := z_bD h1 h2
theorem z_cut (I : L2.St → Hp → Prop) (h1 : ∀ nx, (∀ σ H, I σ H → nx σ H) → t1 ⟨nx, D.rt, D.bk, D.ct⟩ σ H) (h2 : ∀ σ H, I σ H → t2 D σ H) : tSeq t1 t2 D σ H := h1 (t2 D) h2
theorem mw (h1 : -18446744073709551616 < i) (h2 : i < 18446744073709551616) (h3 : -18446744073709551616 < j) (h4 : j < 18446744073709551616) : CMulW i j := wide_mul (a := 64) (b := 64) (by omega) (by omega) (by decide) (by decide) (by decide)
theorem dw (h1 : 0 < j) (h2 : j ≤ 1000000000) : CDivW i j := wide_div (b := 30) h1 (by omega) (by decide) (by decide)
/-- two names at once -/
def Par2 (k l : Nat) (D : Ends) (σ : L2.St) (vs : List V) (H1 : Hp) : Prop := ∃ v w, vs = [v, w] ∧ D.nx ((σ.set k (some v)).set l (some w)) H1
theorem z_pr {k l : Nat} {t : TA} (h : t σ H (Par2 k l D σ)) : tPar k l t D σ H := h
theorem z_pr2 {k l : Nat} (q : D.nx ((σ.set k (some x)).set l (some y)) H) : Par2 k l D σ [x, y] H := ⟨x, y, rfl, q⟩
theorem rng_at {lo : Int} {n k : Nat} {x : V} (h : (rngV lo n)[k]? = some x) : k < n ∧ x = .int (lo + (k : Int)) := by
  have hi := (List.getElem?_eq_some_iff.mp h).1
  rw [rngV_len] at hi
  refine ⟨hi, ?_⟩
  unfold rngV at h
  rw [List.getElem?_map, List.getElem?_range hi] at h
  exact (Option.some.inj h).symm
/-! ### while -/
def WhB (I : Nat → L2.St → Hp → List (Addr × HO) → Prop) (n : Nat) (tb : TS) (D : Ends) (σ : L2.St) (b : Bool) (H1 : Hp) : Prop :=
  if b = true then ∃ N : L2.St → Hp → Prop, (∀ σ' H', N σ' H' → ∃ m', m' < n ∧ ∃ G M, Zp G M H' ∧ I m' σ' G M) ∧ tb { D with nx := N, ct := N, bk := D.nx } σ H1 else D.nx σ H1
theorem z_while (I : Nat → L2.St → Hp → List (Addr × HO) → Prop) (n : Nat) (z : Zp G M H) (h0 : I n σ G M) (turn : ∀ n σ G M H, I n σ G M → Zp G M H → tc σ H (WhB I n tb D σ)) : tWhile tc tb D σ H :=
  ⟨fun m σ H => ∃ G M, Zp G M H ∧ I m σ G M, ⟨n, G, M, z, h0⟩, fun m σ H ⟨G, M, z, h⟩ => turn m σ G M H h z⟩
theorem z_whT {I : Nat → L2.St → Hp → List (Addr × HO) → Prop} {n : Nat} (h : tb ⟨fun σ' H' => ∃ m', m' < n ∧ ∃ G M, Zp G M H' ∧ I m' σ' G M, D.rt, D.nx, fun σ' H' => ∃ m', m' < n ∧ ∃ G M, Zp G M H' ∧ I m' σ' G M⟩ σ H) : WhB I n tb D σ true H := by
  unfold WhB
  rw [if_pos rfl]
  exact ⟨_, fun _ _ h => h, h⟩
theorem z_whF {I : Nat → L2.St → Hp → List (Addr × HO) → Prop} {n : Nat} (h : D.nx σ H) : WhB I n tb D σ false H := by
  unfold WhB
  rw [if_neg Bool.false_ne_true]
  exact h
/-! ### data -/
theorem dts_int : ∀ cells : List Int, Dts K G (cells.map V.int) (cells.map PyData.int)
  | [] => .nil
  | c :: cs => .cons (.int c) (dts_int cs)
theorem dts_str : ∀ ss : List Str, Dts K G (ss.map V.str) (ss.map PyData.str)
  | [] => .nil
  | c :: cs => .cons (.str c) (dts_str cs)
/-- a value that == can be asked of -/
def El (K : PySem.W.Frag) (G : Hp) (v : V) : Prop := ∃ d, Dt K G v d ∧ d.canLay0 = true ∧ d.depth ≤ 60
theorem El.up (s : Same G G1) : El K G v → El K G1 v := fun ⟨d, h, c⟩ => ⟨d, h.up s, c⟩
theorem El.str {s : Str} (h : PyData.strOk s = true) : El K G (.str s) := ⟨.str s, .str s, h, Nat.zero_le _⟩
theorem El.int (i : Int) : El K G (.int i) := ⟨.int i, .int i, rfl, Nat.zero_le _⟩
theorem El.non : El K G .non := ⟨.none, .non, rfl, Nat.zero_le _⟩
theorem El.all : ∀ {xs : List V}, (∀ v ∈ xs, El K G v) → ∃ ds, Dts K G xs ds ∧ PyData.canLayAll0 ds = true ∧ PyData.depthAll ds ≤ 60 ∧ (ds = [] ↔ xs = [])
  | [], _ => ⟨[], .nil, rfl, by decide, by simp⟩
  | x :: xs, h => by
    obtain ⟨d, h1, h2, h3⟩ := h x (List.mem_cons_self ..)
    obtain ⟨ds, g1, g2, g3, _⟩ := El.all (xs := xs) fun v hv => h v (List.mem_cons_of_mem _ hv)
    refine ⟨d :: ds, .cons h1 g1, ?_, ?_, by simp⟩
    · show (d.canLay0 && PyData.canLayAll0 ds) = true
      rw [h2, g2]
      rfl
    · show max d.depth (PyData.depthAll ds) ≤ 60
      omega
theorem shp {ds : List PyData} (c : PyData.canLayAll0 ds = true) (d : PyData.depthAll ds ≤ 60) : SeqAt.shaped (.list ds) = true := by
  unfold SeqAt.shaped
  have e : PyData.canLay0 (.list ds) = true := c
  have e2 : PyData.depth (.list ds) = PyData.depthAll ds + 1 := rfl
  rw [e, e2]
  simp
  omega
theorem shpT {ds : List PyData} (c : PyData.canLayAll0 ds = true) (d : PyData.depthAll ds ≤ 60) : SeqAt.shaped (.tuple ds) = true := by
  unfold SeqAt.shaped
  have e : PyData.canLay0 (.tuple ds) = true := c
  have e2 : PyData.depth (.tuple ds) = PyData.depthAll ds + 1 := rfl
  rw [e, e2]
  simp
  omega
/-- is that list empty? -/
theorem z_neNil (hl : SqL K H a xs) (h2 : H b = some (.lst [])) (q : Q (.bl (decide (xs ≠ []))) H) : rNeG K (.ref a) (.ref b) H Q := by
  cases xs with
  | nil => exact .inr (.inl ⟨.list [], .list [], Dt.dp _ _ rfl (.lst hl .nil), Dt.dp _ _ rfl (.lst (SqL.of h2) .nil), rfl, rfl, q⟩)
  | cons x xs => exact .inr (.inr ⟨a, b, _, [], rfl, rfl, hl, SqL.of h2, by simp, q⟩)
theorem z_eqNil (hl : SqL K H a xs) (h2 : H b = some (.lst [])) (q : Q (.bl (decide (xs = []))) H) : rEqG K (.ref a) (.ref b) H Q := by
  cases xs with
  | nil => exact .inr (.inl ⟨.list [], .list [], Dt.dp _ _ rfl (.lst hl .nil), Dt.dp _ _ rfl (.lst (SqL.of h2) .nil), rfl, rfl, q⟩)
  | cons x xs => exact .inr (.inr ⟨a, b, _, [], rfl, rfl, hl, SqL.of h2, by simp, q⟩)
/-! ### a dict that is written down -/
variable {ps : List (V × V)} {tk tv : TE} {trs : List (TE × TE)} {QP : List (V × V) → Hp → Prop}
def DispE (p : Addr) (ps : List (V × V)) (H : Hp) (Q : VK) : Prop := H p = some (.dK []) ∧ ∃ kvs : List (Key × V), ps = kvs.map (fun kv => (kV kv.1, kv.2)) ∧ kvs.length ≤ 15 ∧ Q (.ref p) (upd H p (.dK (mergeK [] kvs)))
theorem z_disp (z : Zp G M H) (h : ∀ p H1, Zp G (M ++ [(p, .dK [])]) H1 → tPairs trs σ H1 fun ps H2 => DispE p ps H2 Q) : tDisp trs σ H Q := fun p hp => h p _ (z.add hp _)
theorem z_pn (q : QP [] H) : tPairs [] σ H QP := q
theorem z_pc (h : tk σ H fun x H1 => tv σ H1 fun y H2 => tPairs trs σ H2 fun ps H3 => QP ((x, y) :: ps) H3) : tPairs ((tk, tv) :: trs) σ H QP := h
theorem z_dispE (z : Zp G (M ++ [(p, .dK [])]) H) (kvs : List (Key × V)) (e : ps = kvs.map (fun kv => (kV kv.1, kv.2))) (hl : kvs.length ≤ 15) (q : ∀ H3, Zp G (M ++ [(p, .dK (mergeK [] kvs))]) H3 → Q (.ref p) H3) : DispE p ps H Q := by
  refine ⟨z.at_ M.length last_at, kvs, e, hl, q _ ?_⟩
  have := z.put M.length last_at (.dK (mergeK [] kvs))
  rw [List.set_append_right _ _ (Nat.le_refl _), Nat.sub_self] at this
  exact this
/-! ### looks into lists -/
theorem at_in {α : Type} {xs : List α} {i : Int} (h0 : 0 ≤ i) (h1 : i < xs.length) : ∃ v, v ∈ xs ∧ atI xs i = some v := by
  obtain ⟨k, rfl⟩ := Int.eq_ofNat_of_zero_le h0
  have hk : k < xs.length := by omega
  exact ⟨xs[k], List.getElem_mem hk, atI_nat (by simp [hk])⟩
theorem cut_map {α : Type} (f : α → V) (xs : List α) (lo hi : Option Int) : cutV (xs.map f) lo hi = ((xs.drop (HT.sIx xs.length 0 lo)).take (HT.sIx xs.length xs.length hi - HT.sIx xs.length 0 lo)).map f := by
  unfold cutV
  rw [List.length_map, List.map_take, List.map_drop]
end
end Ys
namespace Ys
open PySem PySem.Spec PyProof.Rows L2 TL
theorem erase_perm {α : Type} : ∀ {zs : List α} {k : Nat} (h : k < zs.length), (zs[k] :: zs.eraseIdx k).Perm zs
  | x :: xs, 0, _ => List.Perm.refl _
  | x :: xs, k + 1, h => by
    show (xs[k]'(by simpa using h) :: x :: xs.eraseIdx k).Perm (x :: xs)
    exact (List.Perm.swap _ _ _).trans (List.Perm.cons _ (erase_perm (by simpa using h)))
/-! ### words -/
/-- the letters -/
def Lt (s : Str) : Prop := ∀ c ∈ s.cps.toList, 97 ≤ c ∧ c ≤ 122
def Wd (s : Str) : Prop := 1 ≤ s.length ∧ s.length ≤ 8 ∧ Lt s
theorem Lt.app {x y : Str} (hx : Lt x) (hy : Lt y) : Lt (x ++ y) := fun c hc => by
  have e : (x ++ y).cps.toList = x.cps.toList ++ y.cps.toList := by
    show (x.cps ++ y.cps).toList = _
    rw [Array.toList_append]
  rw [e] at hc
  rcases List.mem_append.mp hc with h | h
  · exact hx c h
  · exact hy c h
theorem Lt.cut {x : Str} (hx : Lt x) (lo hi : Option Int) : Lt (cutS x lo hi) := fun c hc => hx c (List.mem_of_mem_drop (List.mem_of_mem_take (by simpa [cutS] using hc)))
theorem len_app (x y : Str) : (x ++ y).length = x.length + y.length := PySem.Str.length_append x y
theorem Lt.one {c : Nat} (h : 97 ≤ c ∧ c ≤ 122) : Lt ⟨#[c]⟩ := fun d hd => by
  obtain rfl : d = c := by simpa using hd
  exact h
theorem Lt.ok {s : Str} (h : Lt s) : PyData.strOk s = true := by
  unfold PyData.strOk
  rw [Array.all_eq_true_iff_forall_mem]
  intro c hc
  have := (h c (by simpa using hc)).2
  exact decide_eq_true (by omega)
theorem abc_mem {c : Nat} (h : c ∈ (("abcdefghijklmnopqrstuvwxyz" : Str)).cps.toList) : 97 ≤ c ∧ c ≤ 122 := by
  have e : (("abcdefghijklmnopqrstuvwxyz" : Str)).cps.toList = (List.range 26).map (· + 97) := by decide +kernel
  rw [e] at h
  obtain ⟨k, hk, rfl⟩ := List.mem_map.mp h
  have := List.mem_range.mp hk
  omega
theorem abc_len : (("abcdefghijklmnopqrstuvwxyz" : Str)).length = 26 := by decide +kernel
theorem joinL0 : ∀ {ps : List (List Nat)} {c : Nat}, c ∈ joinL [] ps → ∃ p ∈ ps, c ∈ p
  | [], _, h => by simp [joinL] at h
  | [p], _, h => ⟨p, by simp, by simpa [joinL] using h⟩
  | p :: q :: r, c, h => by
    have h' : c ∈ p ++ ([] ++ joinL [] (q :: r)) := by simpa [joinL] using h
    rcases List.mem_append.mp h' with h | h
    · exact ⟨p, by simp, h⟩
    · obtain ⟨x, hx, hc⟩ := joinL0 (ps := q :: r) (by simpa using h)
      exact ⟨x, List.mem_cons_of_mem _ hx, hc⟩
theorem Lt.join {ss : List Str} (h : ∀ s ∈ ss, Lt s) : Lt (Txt.join "" ss) := fun c hc => by
  have e : (Txt.join "" ss).cps.toList = joinL (tl ("" : Str)) (ss.map tl) := by
    rw [join_eq]
    exact tl_join "" ss
  have e0 : tl ("" : Str) = [] := by decide +kernel
  rw [e, e0] at hc
  obtain ⟨p, hp, hc⟩ := joinL0 hc
  obtain ⟨s, hs, rfl⟩ := List.mem_map.mp hp
  exact h s hs c hc
theorem cutS_len (x : Str) (lo hi : Option Int) : (cutS x lo hi).length = HT.sIx x.length x.length hi - HT.sIx x.length 0 lo := by
  have h2 := HT.sIx_le x.length x.length (Nat.le_refl _) hi
  show ((((x.cps.toList.drop (HT.sIx x.length 0 lo)).take (HT.sIx x.length x.length hi - HT.sIx x.length 0 lo)).toArray).size) = _
  rw [List.size_toArray, List.length_take, List.length_drop, Array.length_toList]
  show min _ (x.length - _) = _
  omega
section
variable {X : Cx} {o e : Expr} {to te : TE}
theorem pe_joinG {apos pos : Pos} (ho : PE X o to) (he : PE X e te) (hs : starEach [e] X.env = [(false, eval e X.env)] := by rfl) (hbase : attributeBase o "join" X.env (eval o X.env) = eval o X.env := by rfl) (hline : (apos.endLine == pos.line) = true := by rfl) :
    PE X (.Call (.Attribute o "join" apos) [e] [] pos) (tM1 (rJoin X.K) to te) := pe_join ho he hs hbase hline
end
end Ys
namespace Ys
open PySem PySem.Spec PyProof.Rows L2
section
variable {M : Model} {prog : Program} {w : World} {A : Around} {E : Value → Shared → Prop} {s : Shared} {K : PySem.W.Frag} {x C f : Addr} {ox : Obj} {od : Option Obj} {b tb : Value}
theorem ifBound_objNe {args : List Value} {Q : Option Value → Shared → Prop} (X : K.In s.heap) (I : PySem.W.InstAt s.heap x ox C od) (hs : PySem.W.findIn K (.ref C) "__ne__" = some (some (.builtin "object.__ne__")))
    (h : wpAny M A (call (.builtin "object.__ne__") (.ref x :: args)) (fun v => Q (some v)) E s) : wpAny M A (callSpecialIfBound? (.ref x) "__ne__" args) Q E s := by
  simp only [callSpecialIfBound?, bindSpecialIfBound?]
  refine wpAny_holding (wpAny_bind (wpAny_bind (wpAny_bind (I.type.here ((PySem.W.looks_findIn X hs).here ?_)))))
  refine wpAny_bind (wpAny_askSetting (wpAny_ite ?_))
  have fin : wpAny M A (call (.builtin "object.__ne__") ([.ref x] ++ args) >>= fun v => pure (some v)) Q E s := wpAny_bind (wpAny_mono h (fun v s' h' => wpAny_pure h') fun _ _ h' => h')
  split
  · exact wpAny_bind (wpAny_of_eq (F.cmp_object.ne.bind _) (wpAny_pure (by exact fin)))
  · exact wpAny_tryCatch (wpAny_bind (wpAny_of_eq (F.cmp_object.ne.bind _) (wpAny_pure (by exact fin))))
def BackB (Q : Bool → Shared → Prop) (v : Value) (s' : Shared) : Prop := ∃ r, v = .bool r ∧ Q r s'
theorem ne_K {Q : Value → Shared → Prop} (hu : A.units + 1 < cLine) (X : K.In s.heap) (I : PySem.W.InstAt s.heap x ox C od) (hb : PySem.W.Looks (model prog w) s.heap (typeOf b) tb) (hn : PySem.W.notFirst K C tb = true)
    (hm : PySem.W.mroIn K C (.type "object") = some true) (hs : PySem.W.findIn K (.ref C) "__ne__" = some (some (.builtin "object.__ne__"))) (he : PySem.W.findIn K (.ref C) "__eq__" = some (some (.ref f))) (hf : PySem.W.isFn K (.ref f) = true)
    (h : wpAny (model prog w) A.in1 (call (.ref f) [.ref x, b]) (BackB fun r s' => Q (.bool (!r)) s') E s) : wpAny (model prog w) A (richCompare .NotEq (.ref x) b) Q E s := by
  have ent : wpAny (model prog w) A.in1 (Builtin.«object.__ne__» ⟨[.ref x, b], []⟩) (fun r s' => ∃ v, r = .done (.ret (.bool v)) ∧ Q (.bool v) s') E s := by
    unfold Builtin.«object.__ne__»
    repeat (first
      | with_reducible refine wpAny_cRoomFor hu ?_
      | (refine wpAny_bind (m := callSpecialIfBound? (.ref x) (Str.ofString "__eq__") [b])
          (PySem.W.ifBound_K X I he hf (wpAny_mono h (fun r s' hr => by
            obtain ⟨b, rfl, hq⟩ := hr
            repeat (first | exact ⟨_, rfl, hq⟩ | exact wpAny_pure ⟨_, rfl, hq⟩ | (refine wpAny_bind (m := truthy (.bool _)) (wpAny_truthy_bool ?_)) | wp_step)) fun _ _ e => e)))
      | wp_step)
  have one : wpAny (model prog w) A (tryCompare (.ref x) "__ne__" b) (fun r s' => ∃ v, r = some v ∧ Q v s') E s := by
    unfold tryCompare
    refine wpAny_bind (ifBound_objNe X I hs ?_)
    refine wpAny_call (codeAny_call_builtin F.cmp_object.ne.plain F.cmpEntry_ne (PySem.W.check_slot F.cmpKind_ne F.cmpSplit_ne (I.type.andThen (PySem.W.looks_mroIn X hm)) (F.cmpArgs_ne _ _) ?_))
    refine wpAny_mono ent (fun r s' hq => ?_) fun _ _ e => e
    obtain ⟨v, rfl, hq⟩ := hq
    first
      | exact wpAny_pure ⟨_, rfl, hq⟩
      | exact ⟨_, rfl, wpAny_pure ⟨_, rfl, hq⟩⟩
  unfold richCompare
  simp only [oneThing_ref]
  refine wpAny_holding (wpAny_bind (wpAny_cRoomFor (Nat.lt_of_succ_lt hu) ?_))
  refine wpAny_bind (I.type.here (wpAny_bind (hb.here ?_)))
  split
  · rename_i q
    have e : PySem.W.subIn K tb (.ref C) = some false := by
      rcases Bool.or_eq_true_iff.mp hn with e | e
      · rw [beq_iff_eq.mp e] at q; simp at q
      · exact beq_iff_eq.mp e
    refine wpAny_bind ((PySem.W.looks_subIn X e).here ?_)
    simp only [Bool.false_eq_true, if_false]
    refine wpAny_bind (wpAny_mono one (fun r s' z => ?_) fun _ _ e => e)
    obtain ⟨v, rfl, hq⟩ := z
    exact wpAny_pure hq
  · refine wpAny_bind (wpAny_pure ?_)
    simp only [Bool.false_eq_true, if_false]
    refine wpAny_bind (wpAny_mono one (fun r s' z => ?_) fun _ _ e => e)
    obtain ⟨v, rfl, hq⟩ := z
    exact wpAny_pure hq
end
section
variable {X : Cx} {CX : CXT} {n : Nat} {C f : Addr} {fd : FuncData} {ps : List Str} {sp : Sp} {E : XK}
/-- x is an instance of the class at C; what its own == promises of y -/
def rEqI (K : PySem.W.Frag) (C : Addr) (sp : Sp) (E : XK) : R2 := fun x y H Q => ∃ a dx fs t, x = .ref a ∧ H a = some (.ins C dx fs) ∧ TyX K H y t ∧ PySem.W.notFirst K C t = true ∧ sp [x, y] H (fun v H' => ∃ b, v = .bl b ∧ Q (.bl b) H') E
def rNeI (K : PySem.W.Frag) (C : Addr) (sp : Sp) (E : XK) : R2 := fun x y H Q => ∃ a dx fs t, x = .ref a ∧ H a = some (.ins C dx fs) ∧ TyX K H y t ∧ PySem.W.notFirst K C t = true ∧ sp [x, y] H (fun v H' => ∃ b, v = .bl b ∧ Q (.bl (!b)) H') E
theorem op_eqI (F : FnOk X.prog X.w X.K X.mg X.base CX n f fd ps sp) (hs : PySem.W.findIn X.K (.ref C) "__eq__" = some (some (.ref f))) (hf : PySem.W.isFn X.K (.ref f) = true) (hb : Binds X.K fd ps []) (hx : Passes CX X E) (hr : Room n X.A) :
    OpR X (compareOp .Eq) (rEqI X.K C sp E) := by
  intro pins s σ H x y v u Q I rx ry ⟨a, dx, fs, t, e1, ha, ty, nf, q⟩
  subst e1
  cases rx
  obtain ⟨mA, J, _⟩ := ins_get I.hok ha
  obtain ⟨od, J, _⟩ := J.look
  obtain ⟨P, Z, p, _⟩ := kit_of I ry ty
  obtain ⟨m, hF⟩ := I.fr
  show wpAny (model X.prog X.w) X.A (richCompare .Eq (.ref a) u) (EP X pins σ Q) X.xe s
  refine PySem.W.cmp_K (op := .Eq) (tb := t) hr.units0 hF I.ok.mod.kin J (Z.ty _ _ I.kIn p) nf hs hf ?_
  have hl := F.len _ _ _ _ q
  refine wpAny_call (codeAny_mono (F.run X.A X.stack s H ⟨[.ref a, u], []⟩ [.ref a, u] [.ref a, y] _ E hr I.env0 (by
    have := hb s [.ref a, u] I.kIn (by simpa using hl)
    simpa using this) (.cons rfl (.cons ry .nil)) q) fun r s' hq => ?_)
  cases r with
  | error e => exact hx pins σ H s e s' I hq
  | ok fl =>
    cases fl with
    | ret w =>
      obtain ⟨z, H', I', rz, b, rfl, q2⟩ := I.after hq
      cases rz
      exact ⟨.bl b, H', I', rfl, q2⟩
    | next => exact False.elim hq
    | brk => exact False.elim hq
    | cont => exact False.elim hq
theorem op_neI (F : FnOk X.prog X.w X.K X.mg X.base CX n f fd ps sp) (he : PySem.W.findIn X.K (.ref C) "__eq__" = some (some (.ref f))) (hs : PySem.W.findIn X.K (.ref C) "__ne__" = some (some (.builtin "object.__ne__"))) (hm : PySem.W.mroIn X.K C (.type "object") = some true)
    (hf : PySem.W.isFn X.K (.ref f) = true) (hb : Binds X.K fd ps []) (hx : Passes CX X E) (hr : Room (n + 1) X.A) : OpR X (compareOp .NotEq) (rNeI X.K C sp E) := by
  intro pins s σ H x y v u Q I rx ry ⟨a, dx, fs, t, e1, ha, ty, nf, q⟩
  subst e1
  cases rx
  obtain ⟨mA, J, _⟩ := ins_get I.hok ha
  obtain ⟨od, J, _⟩ := J.look
  obtain ⟨P, Z, p, _⟩ := kit_of I ry ty
  show wpAny (model X.prog X.w) X.A (richCompare .NotEq (.ref a) u) (EP X pins σ Q) X.xe s
  refine ne_K (by have := hr.units; omega) I.kIn J (Z.ty _ _ I.kIn p) nf hm hs he hf ?_
  have hl := F.len _ _ _ _ q
  refine wpAny_call (codeAny_mono (F.run X.A.in1 X.stack s H ⟨[.ref a, u], []⟩ [.ref a, u] [.ref a, y] _ E hr.in1 I.env0.in1 (by
    have := hb s [.ref a, u] I.kIn (by simpa using hl)
    simpa using this) (.cons rfl (.cons ry .nil)) q) fun r s' hq => ?_)
  cases r with
  | error e => exact hx pins σ H s e s' I hq
  | ok fl =>
    cases fl with
    | ret w =>
      obtain ⟨z, H', I', rz, b, rfl, q2⟩ := I.after hq
      cases rz
      exact ⟨b, rfl, .bl (!b), H', I', rfl, q2⟩
    | next => exact False.elim hq
    | brk => exact False.elim hq
    | cont => exact False.elim hq
end
end Ys
namespace Ys
open PySem PySem.Spec PyProof.Rows L2
section
variable {X : Cx} {K : PySem.W.Frag} {P : Program} {w : World} {G G1 H : Hp} {M M1 : List (Addr × HO)} {σ : L2.St} {Q : VK} {QB : Bool → Hp → Prop} {D : Ends} {tc : TT} {ta te tb : TE} {t : TA} {A B : Prop} {v x y : V} {i j : Int} {a b p : Addr} {xs ys vs : List V} {o : HO} {d : PyData} {R : It → Hp → Prop}
/-! ### what is walked: a list, a tuple or a text -/
def iOr (i1 i2 : TI) : TI := fun σ H R => i1 σ H R ∨ i2 σ H R
theorem pi_or {tg e : Expr} {i1 i2 : TI} (h1 : PI X tg e i1) (h2 : PI X tg e i2) : PI X tg e (iOr i1 i2) := ⟨fun pins s σ H R I h => h.elim (h1.run pins s σ H R I) (h2.run pins s σ H R I)⟩
def iAny (K : PySem.W.Frag) (te : TE) : TI := iOr (iList K te) (iOr (iTup K te) (iStr te))
theorem pi_any {tg e : Expr} (h : PE X e te) : PI X tg e (iAny X.K te) := pi_or (pi_list h) (pi_or (pi_tup h) (pi_str h))
theorem z_anyL (h : te σ H fun x H1 => ItL K x H1 R) : iAny K te σ H R := .inl h
theorem z_anyT (h : te σ H fun x H1 => ItT K x H1 R) : iAny K te σ H R := .inr (.inl h)
theorem z_anyS (h : te σ H fun x H1 => ItS x H1 R) : iAny K te σ H R := .inr (.inr h)
/-! ### isinstance -/
def rIsiG (K : PySem.W.Frag) : List V → Hp → VK → Prop := fun xs H Q => rIsi K xs H Q ∨ rIsiT K xs H Q
theorem c_isi : CallR X (.builtin "isinstance") (rIsiG X.K) := CallR.or call_isi call_isiT
theorem z_isi {t u : Value} {r : Bool} {c : V} (k : ClsV c u) (ty : TyX K H x t) (e : PySem.W.kitOne K t u = some r) (q : Q (.bl r) H) : rIsiG K [x, c] H Q := .inl ⟨x, c, t, u, r, rfl, k, ty, e, q⟩
theorem z_isi2 {cs : List V} {t : Value} {us : List Value} {r : Bool} (z : Zp G M H) (h : G a = some (.tup cs)) (k : Paired ClsV cs us) (ty : TyX K H x t) (e : PySem.W.kitAny K t us = some r) (q : Q (.bl r) H) : rIsiG K [x, .ref a] H Q :=
  .inr ⟨x, a, cs, t, us, r, rfl, z.sub _ _ h, k, ty, e, q⟩
/-- the type's name -/
def tyD : PyData → String
  | .none => "NoneType"
  | .bool _ => "bool"
  | .int _ => "int"
  | .str _ => "str"
  | .list _ => "list"
  | .tuple _ => "tuple"
  | .dict _ => "dict"
theorem tyL (h : SqL K H a xs) : TyX K H (.ref a) (.type "list") := by
  rcases h with (h | ⟨o, h⟩) | ⟨o, its, n, hk, hc, _⟩
  · exact .base (.lst h)
  · exact .base (.frz h)
  · exact .kList hk hc
theorem tyT (h : SqT K H a xs) : TyX K H (.ref a) (.type "tuple") := by
  rcases h with (h | ⟨o, h⟩) | ⟨o, its, n, hk, hc, _⟩
  · exact .base (.tup h)
  · exact .fTuple h
  · exact .kTuple hk hc
theorem Dt.ty (h : Dt K H v d) : TyX K H v (.type (tyD d)) := by
  cases h with
  | non => exact .base .non
  | bl b => exact .base (.bl b)
  | int i => exact .base (.int i)
  | str x => exact .base (.str x)
  | lst h _ => exact tyL h
  | tup h _ => exact tyT h
  | dct h _ _ =>
    rcases h with h | ⟨o, h⟩
    · exact .base (.dK h)
    · exact .fDict h
/-- an argument: data that stays, or a list that may change -/
def Ar (K : PySem.W.Frag) (G : Hp) (M : List (Addr × HO)) (v : V) (d : PyData) : Prop := Dt K G v d ∨ ∃ a xs ds, v = .ref a ∧ (a, .lst xs) ∈ M ∧ Dts K G xs ds ∧ d = .list ds
theorem Ar.up (s : Same G G1) (h : Ar K G M v d) : Ar K G1 M v d := h.imp (fun h => h.up s) fun ⟨a, xs, ds, e, m, h, e2⟩ => ⟨a, xs, ds, e, m, h.up s, e2⟩
theorem Ar.sub (s : ∀ u ∈ M, u ∈ M1) (h : Ar K G M v d) : Ar K G M1 v d := h.imp id fun ⟨a, xs, ds, e, m, h, e2⟩ => ⟨a, xs, ds, e, s _ m, h, e2⟩
theorem Zp.mem (z : Zp G M H) (h : (a, o) ∈ M) : H a = some o := by
  obtain ⟨i, hi⟩ := List.getElem?_of_mem h
  exact (z.own i a o hi).1
theorem Ar.dt (z : Zp G M H) (h : Ar K G M v d) : Dt K H v d := by
  rcases h with h | ⟨a, xs, ds, rfl, m, h, rfl⟩
  · exact z.dt h
  · exact .lst (SqL.of (z.mem m)) (h.up z.sub)
theorem Ar.ty (z : Zp G M H) (h : Ar K G M v d) : TyX K H v (.type (tyD d)) := (h.dt z).ty
/-- what is in a list or a tuple -/
theorem Ar.list {ds : List PyData} (z : Zp G M H) (h : Ar K G M v (.list ds)) : ∃ a xs, v = .ref a ∧ SqL K H a xs ∧ Dts K G xs ds ∧ ∀ G1 H1, Zp G1 M H1 → Same G G1 → SqL K H1 a xs := by
  rcases h with h | ⟨a, xs, ds', rfl, m, h, e⟩
  · cases h with
    | lst h1 h2 => exact ⟨_, _, rfl, z.seqL h1, h2, fun G1 H1 z1 s1 => z1.seqL (upL s1 h1)⟩
  · cases e
    exact ⟨a, xs, rfl, SqL.of (z.mem m), h, fun G1 H1 z1 s1 => SqL.of (z1.mem m)⟩
theorem Ar.tup {ds : List PyData} (h : Ar K G M v (.tuple ds)) : ∃ a xs, v = .ref a ∧ SqT K G a xs ∧ Dts K G xs ds := by
  rcases h with h | ⟨a, xs, ds', rfl, m, h, e⟩
  · cases h with
    | tup h1 h2 => exact ⟨_, _, rfl, h1, h2⟩
  · cases e
theorem Ar.str {s : Str} (h : Ar K G M v (.str s)) : v = .str s := by
  rcases h with h | ⟨a, xs, ds', rfl, m, h, e⟩
  · cases h; rfl
  · cases e
theorem Dts.len {ds : List PyData} : ∀ {xs : List V} {ds : List PyData}, Dts K G xs ds → xs.length = ds.length
  | _, _, .nil => rfl
  | _, _, .cons _ h => congrArg Nat.succ (Dts.len (ds := ds) h)
theorem Dts.at_ : ∀ {xs : List V} {ds : List PyData} {k : Nat} {x : V}, Dts K G xs ds → xs[k]? = some x → ∃ d, ds[k]? = some d ∧ Dt K G x d
  | _, _, 0, x, .cons h _, e => by
    simp at e
    exact ⟨_, rfl, e ▸ h⟩
  | _, _, k + 1, x, .cons _ h, e => by
    have := Dts.at_ (k := k) h (by simpa using e)
    simpa using this
/-! ### constants of the module -/
def GC (mg : Str → Option Value) (x : Str) (v : V) : Prop := ∃ u, mg x = some u ∧ RelV v u
theorem pe_gC {x : Str} {pos : Pos} (h : GC X.mg x v) (hg : Gl X x) (hd : (x == ("__debug__" : Str)) = false := by decide) : PE X (.Name x pos) (tC v) := by
  obtain ⟨u, hm, r⟩ := h
  exact ⟨fun pins s σ H Q I h => (pe_glob (v := v) hg hm r hd).run pins s σ H Q I h⟩
/-! ### calls with defaults, properties, methods, making -/
/-- a def that is called with n values, dvs behind them -/
structure OwnA (P : Program) (w : World) (K : PySem.W.Frag) (mg : Str → Option Value) (base : Heap) (CX : CXT) (k : Nat) (x : Str) (ps : List Str) (dvs : List V) (sp : Sp) : Prop where
  ex : ∃ f fd ds, FnOk P w K mg base CX k f fd ps sp ∧ mg x = some (.ref f) ∧ PySem.W.keepIn K (.ref f) = true ∧ Binds K fd ps ds ∧ Vals dvs ds
theorem pe_ownA {CX : CXT} {k : Nat} {x : Str} {ps : List Str} {dvs : List V} {sp : Sp} {E : XK} {p pos : Pos} {e : Expr} {es : List Expr} {t : TA} (C : OwnA X.prog X.w X.K X.mg X.base CX k x ps dvs sp) (hr : Room k X.A) (hg : Gl X x) (hx : Passes CX X E) (ha : PA X (e :: es) t)
    (hdb : (x == ("__debug__" : Str)) = false := by decide) (he : starEach (e :: es) X.env = (false, eval e X.env) :: starEach es X.env := by rfl) (hpl : (backTo pos (starEach es X.env)).any (·.1) = false := by rfl) :
    PE X (.Call (.Name x p) (e :: es) [] pos) (tCall sp dvs E t) := by
  obtain ⟨f, fd, ds, F, hm, hk, hb, hv⟩ := C.ex
  exact ⟨fun pins s σ H Q I h => (pe_call F hr hg hm hk hb hv hx ha hdb he hpl).run pins s σ H Q I h⟩
/-- a property -/
structure Prp (P : Program) (w : World) (K : PySem.W.Frag) (mg : Str → Option Value) (base : Heap) (CX : CXT) (k : Nat) (C : Addr) (x : Str) (sp : Sp) : Prop where
  ex : ∃ p g fd, PropOf K C x p g ∧ FnOk P w K mg base CX k g fd ["self"] sp ∧ Binds K fd ["self"] []
  cl : Cls K C
theorem pe_pr {CX : CXT} {k : Nat} {C : Addr} {x : Str} {sp : Sp} {E : XK} {e : Expr} {pos : Pos} (R : Prp X.prog X.w X.K X.mg X.base CX k C x sp) (hr : Room (k + 1) X.A) (hx : Passes CX X.nox E) (he : PE X e ta) (hb : attributeBase e x X.env (eval e X.env) = eval e X.env := by rfl) :
    PE X (.Attribute e x pos) (tProp C sp [] E ta) := by
  obtain ⟨p, g, fd, hp, F, hd⟩ := R.ex
  exact ⟨fun pins s σ H Q I h => (pe_prop he R.cl hp F hr hd .nil hx hb).run pins s σ H Q I h⟩
def InsW (C : Addr) (x : V) (H : Hp) (A : Prop) : Prop := ∃ a dx fs, x = .ref a ∧ H a = some (.ins C dx fs) ∧ A
end
end Ys
namespace Ys
open PySem PySem.Spec PyProof.Rows L2
section
variable {X : Cx} {K : PySem.W.Frag} {P : Program} {w : World} {G G1 H : Hp} {M M1 : List (Addr × HO)} {σ : L2.St} {Q : VK} {QB : Bool → Hp → Prop} {QA : List V → Hp → Prop} {D : Ends} {ta te tb tv : TE} {t tk : TA} {A B : Prop} {v x y : V} {i j : Int} {a b p : Addr} {xs ys vs zs : List V} {o : HO} {d : PyData}
variable {CX : CXT} {k n m : Nat} {C dx : Addr} {nm f : Str} {ps ks : List Str} {dvs : List V} {sp : Sp} {E : XK} {fs : List (Str × V)} {gV : List V → List V → List V}
/-- a method -/
structure Mth (P : Program) (w : World) (K : PySem.W.Frag) (mg : Str → Option Value) (base : Heap) (CX : CXT) (k : Nat) (C : Addr) (m : Str) (ps : List Str) (dvs : List V) (sp : Sp) : Prop where
  ex : ∃ f fd ds, Meth K C m f ∧ FnOk P w K mg base CX k f fd ps sp ∧ Binds K fd ps ds ∧ Vals dvs ds
  cl : Cls K C
theorem pe_mt0 {m : Str} {e : Expr} {pos apos : Pos} {pl : Sem Bool} (R : Mth X.prog X.w X.K X.mg X.base CX k C m ps dvs sp) (hr : Room k X.A) (hx : Passes CX X E) (he : PE X e ta)
    (ht : eval (.Call (.Attribute e m apos) [] [] pos) X.env = (do
      let ov ← eval e X.env
      standAt apos.atName
      let (f, first) ← holding [ov] (getMethod ov m pl)
      callWith pos f first (backTo pos (starEach [] X.env)) (backToKw pos (keywordEach [] X.env))) := by rfl) : PE X (.Call (.Attribute e m apos) [] [] pos) (tMeth C m sp dvs E ta tNil) := by
  obtain ⟨f, fd, ds, hm, F, hb, hv⟩ := R.ex
  exact ⟨fun pins s σ H Q I h => (pe_meth0 he R.cl hm F hr hb hv hx ht).run pins s σ H Q I h⟩
theorem pe_mt {m : Str} {e e1 : Expr} {es : List Expr} {pos apos : Pos} {pl : Sem Bool} (R : Mth X.prog X.w X.K X.mg X.base CX k C m ps dvs sp) (hr : Room k X.A) (hx : Passes CX X E) (he : PE X e ta) (ha : PA X (e1 :: es) t)
    (hst : starEach (e1 :: es) X.env = (false, eval e1 X.env) :: starEach es X.env := by rfl) (hpl : (backTo pos (starEach es X.env)).any (·.1) = false := by rfl)
    (ht : eval (.Call (.Attribute e m apos) (e1 :: es) [] pos) X.env = (do
      let ov ← eval e X.env
      standAt apos.atName
      let (f, first) ← holding [ov] (getMethod ov m pl)
      callWith pos f first (backTo pos (starEach (e1 :: es) X.env)) (backToKw pos (keywordEach [] X.env))) := by rfl) : PE X (.Call (.Attribute e m apos) (e1 :: es) [] pos) (tMeth C m sp dvs E ta t) := by
  obtain ⟨f, fd, ds, hm, F, hb, hv⟩ := R.ex
  exact ⟨fun pins s σ H Q I h => (pe_meth he R.cl hm F hr hb hv hx ha hst hpl ht).run pins s σ H Q I h⟩
/-- how a class is made with n values and these keywords -/
structure MkS (P : Program) (w : World) (K : PySem.W.Frag) (mg : Str → Option Value) (base : Heap) (CX : CXT) (k : Nat) (C : Addr) (x : Str) (n : Nat) (ks : List Str) (gV : List V → List V → List V) (sp : Sp) : Prop where
  ex : ∃ f fd ps g, Mk K C f ∧ FnOk P w K mg base CX k f fd ps sp ∧ mg x = some (.ref C) ∧ KBn K fd ps (n + 1) ks g gV
theorem pe_mk0 {x : Str} {p pos : Pos} {kws : List Keyword} (R : MkS X.prog X.w X.K X.mg X.base CX k C x 0 ks gV sp) (hr : Room (k + 1) X.A) (hg : Gl X x) (hx : Passes CX X E) (hkw : PK X kws tk)
    (hall : (backToKw pos (keywordEach kws X.env)).all (·.1.isSome) = true := by rfl) (hks : (backToKw pos (keywordEach kws X.env)).filterMap (·.1) = ks := by rfl) (hdb : (x == ("__debug__" : Str)) = false := by decide)
    (hpl : ((backTo pos (starEach [] X.env)).any (·.1) || (backToKw pos (keywordEach kws X.env)).any (·.1.isNone)) = false := by rfl) :
    PE X (.Call (.Name x p) [] kws pos) (tMakeK C 0 ks.length sp gV E tNil tk) := by
  obtain ⟨f, fd, ps, g, hm, F, hmg, hb⟩ := R.ex
  exact ⟨fun pins s σ H Q I h => (pe_makeK0 hm F hr hg hmg hb hx hkw hall hks hdb hpl).run pins s σ H Q I h⟩
theorem pe_mk {x : Str} {p pos : Pos} {kws : List Keyword} {e : Expr} {es : List Expr} (R : MkS X.prog X.w X.K X.mg X.base CX k C x n ks gV sp) (hr : Room (k + 1) X.A) (hg : Gl X x) (hx : Passes CX X E) (ha : PA X (e :: es) t) (hkw : PK X kws tk)
    (hall : (backToKw pos (keywordEach kws X.env)).all (·.1.isSome) = true := by rfl) (hks : (backToKw pos (keywordEach kws X.env)).filterMap (·.1) = ks := by rfl) (hdb : (x == ("__debug__" : Str)) = false := by decide)
    (he : starEach (e :: es) X.env = (false, eval e X.env) :: starEach es X.env := by rfl) (hpl : ((backTo pos (starEach (e :: es) X.env)).any (·.1) || (backToKw pos (keywordEach kws X.env)).any (·.1.isNone)) = false := by rfl) :
    PE X (.Call (.Name x p) (e :: es) kws pos) (tMakeK C n ks.length sp gV E t tk) := by
  obtain ⟨f, fd, ps, g, hm, F, hmg, hb⟩ := R.ex
  exact ⟨fun pins s σ H Q I h => (pe_makeK hm F hr hg hmg hb hx ha hkw hall hks hdb he hpl).run pins s σ H Q I h⟩
/-! the steps -/
def PrW (C : Addr) (sp : Sp) (dvs : List V) (E : XK) (x : V) (H : Hp) (Q : VK) : Prop := ∃ a dx fs, x = .ref a ∧ H a = some (.ins C dx fs) ∧ sp (.ref a :: dvs) H Q E
theorem z_prop (h : ta σ H fun x H1 => PrW C sp dvs E x H1 Q) : tProp C sp dvs E ta σ H Q := h
theorem z_prI (z : Zp G M H) (h : G a = some (.ins C dx fs)) (q : sp (.ref a :: dvs) H Q E) : PrW C sp dvs E (.ref a) H Q := ⟨a, dx, fs, rfl, z.sub _ _ h, q⟩
def MtW (C : Addr) (f : Str) (x : V) (H : Hp) (A : Prop) : Prop := ∃ a dx fs, x = .ref a ∧ H a = some (.ins C dx fs) ∧ fs.lookup f = none ∧ A
theorem z_mt (h : ta σ H fun x H1 => MtW C f x H1 (t σ H1 fun vs H2 => sp (x :: (vs ++ dvs)) H2 Q E)) : tMeth C f sp dvs E ta t σ H Q := h
theorem z_mtI (z : Zp G M H) (h : G a = some (.ins C dx fs)) (l : fs.lookup f = none) (q : A) : MtW C f (.ref a) H A := ⟨a, dx, fs, rfl, z.sub _ _ h, l, q⟩
def MkW (C : Addr) (n m : Nat) (sp : Sp) (gV : List V → List V → List V) (E : XK) (vs zs : List V) (H2 : Hp) (Q : VK) : Prop := vs.length = n ∧ zs.length = m ∧ ∀ x dx, H2 x = none → H2 dx = none → dx ≠ x →
  sp (gV (.ref x :: vs) zs) (upd (upd H2 dx (.own x)) x (.ins C dx [])) (fun v H3 => v = .non ∧ Q (.ref x) H3) E
theorem z_mk (h : t σ H fun vs H1 => tk σ H1 fun zs H2 => MkW C n m sp gV E vs zs H2 Q) : tMakeK C n m sp gV E t tk σ H Q := h
theorem z_mkI (z : Zp G M H) (l1 : vs.length = n) (l2 : zs.length = m) (q : ∀ x dx H1, Zp (upd G dx (.own x)) (M ++ [(x, .ins C dx [])]) H1 → Same G (upd G dx (.own x)) → sp (gV (.ref x :: vs) zs) H1 (fun v H3 => v = .non ∧ Q (.ref x) H3) E) : MkW C n m sp gV E vs zs H Q :=
  ⟨l1, l2, fun x dx hx hd ne => q x dx _ ((z.new hd _).add (by rw [upd_ne (Ne.symm ne)]; exact hx) _) (Same.new (z.free hd))⟩
def FlW (K : PySem.W.Frag) (f : Str) (x : V) (H : Hp) (Q : VK) : Prop := ∃ a C dx fs v, x = .ref a ∧ H a = some (.ins C dx fs) ∧ Cls K C ∧ NoAttr K C f ∧ fs.lookup f = some v ∧ Q v H
theorem z_fl (h : ta σ H fun x H1 => FlW K f x H1 Q) : tFld K ta f σ H Q := h
theorem z_flI (z : Zp G M H) (h : G a = some (.ins C dx fs)) (c : Cls K C) (n : NoAttr K C f) (l : fs.lookup f = some v) (q : Q v H) : FlW K f (.ref a) H Q := ⟨a, C, dx, fs, v, rfl, z.sub _ _ h, c, n, l, q⟩
def FsW (K : PySem.W.Frag) (f : Str) (x y : V) (H2 : Hp) (R : Hp → Prop) : Prop := ∃ a C dx fs, x = .ref a ∧ H2 a = some (.ins C dx fs) ∧ Cls K C ∧ NoAttr K C f ∧ fs.length < 1000 ∧ R (upd H2 a (.ins C dx (putF f y fs)))
theorem z_fs (h : tv σ H fun y H1 => ta σ H1 fun x H2 => FsW K f x y H2 (D.nx σ)) : sFld K ta tv f D σ H := h
theorem z_fsI {R : Hp → Prop} (z : Zp G M H) (i : Nat) (e : M[i]? = some (a, .ins C dx fs)) (c : Cls K C) (n : NoAttr K C f) (l : fs.length < 1000) (q : ∀ H1, Zp G (M.set i (a, .ins C dx (putF f y fs))) H1 → R H1) : FsW K f (.ref a) y H R :=
  ⟨a, C, dx, fs, rfl, z.at_ i e, c, n, l, q _ (z.put i e _)⟩
theorem z_nN (q : Q (.bl (!decide (x = .non))) H) : rNotNon x .non H Q := ⟨rfl, q⟩
theorem z_iN (q : Q (.bl (decide (x = .non))) H) : rIsNon x .non H Q := ⟨rfl, q⟩
theorem z_itLH {R : It → Hp → Prop} (h : SqL K H a xs) (q : R (Itl K a) H) : ItL K (.ref a) H R := ⟨a, rfl, ⟨xs, h⟩, q⟩
theorem z_itTH {R : It → Hp → Prop} (h : SqT K H a xs) (q : R (Itt K a) H) : ItT K (.ref a) H R := ⟨a, rfl, ⟨xs, h⟩, q⟩
theorem z_lenH (h : SqL K H a xs ∨ SqT K H a xs) (q : Q (.int xs.length) H) : rLenG K P w [.ref a] H Q := h.elim (fun h => .inl ⟨_, _, rfl, .inl ⟨xs, h, rfl⟩, q⟩) fun h => .inl ⟨_, _, rfl, .inr ⟨xs, h, rfl⟩, q⟩
theorem z_setH {ss : List Str} (z : Zp G M H) (h : SqL K H a (ss.map V.str) ∨ SqT K H a (ss.map V.str)) (hl : ss.length < 1000)
    (q : ∀ p l G1 H1, Zp G1 M H1 → Same G G1 → G1 p = some (TxO P w p l) → (∀ x, x ∈ l ↔ x ∈ ss) → l.Nodup → l.length ≤ ss.length → Q (.ref p) H1) : rSetTx K P w [.ref a] H Q :=
  ⟨a, ss, rfl, h, hl, fun p l m nd len hp => q p l _ _ (z.new hp _) (Same.new (z.free hp)) upd_same m nd len⟩
theorem z_tI {R : It → Hp → Prop} (h : te σ H fun x H1 => ItT K x H1 R) : iTup K te σ H R := h
theorem z_fsL {R : Hp → Prop} (z : Zp G (M ++ [(a, .ins C dx fs)]) H) (c : Cls K C) (n : NoAttr K C f) (l : fs.length < 1000) (q : ∀ H1, Zp G (M ++ [(a, .ins C dx (putF f y fs))]) H1 → R H1) : FsW K f (.ref a) y H R := by
  refine z_fsI z M.length last_at c n l fun H1 z1 => q H1 ?_
  rw [List.set_append_right _ _ (Nat.le_refl _), Nat.sub_self] at z1
  exact z1
theorem putF_lt {n : Nat} : ∀ {fs : List (Str × V)}, fs.length < n → (putF f y fs).length < n + 1
  | [], h => by show 1 < n + 1; have : 0 < n := h; omega
  | (g, v) :: r, h => by
    unfold putF
    split
    · exact Nat.lt_succ_of_lt h
    · have h' : r.length + 1 < n := h
      cases n with
      | zero => omega
      | succ n =>
        have := putF_lt (n := n) (fs := r) (by omega)
        show (putF f y r).length + 1 < n + 1 + 1
        omega
def ItR2 (vs : List V) (H : Hp) (R : It → Hp → Prop) : Prop := ∃ i j : Int, vs = [.int i, .int j] ∧ (-(2 ^ 62) ≤ i ∧ i < 2 ^ 62 ∧ -(2 ^ 62) ≤ j ∧ j < 2 ^ 62) ∧ R (Itr i (j - i).toNat) H
theorem z_iR2 {R : It → Hp → Prop} (h : t σ H fun vs H1 => ItR2 vs H1 R) : iRng2 t σ H R := h
theorem z_itR2 {R : It → Hp → Prop} (h : -(2 ^ 62) ≤ i ∧ i < 2 ^ 62 ∧ -(2 ^ 62) ≤ j ∧ j < 2 ^ 62) (q : R (Itr i (j - i).toNat) H) : ItR2 [.int i, .int j] H R := ⟨i, j, rfl, h, q⟩
theorem z_gsub {ti : TE} {ts : TSet} {R : L2.St → Hp → Prop} (h : ta σ H fun o H1 => ti σ H1 fun i H2 => ts o i v H2 fun H3 => R σ H3) : gSub ta ti ts v σ H R := h
theorem z_slO {lo hi : Option Int} (z : Zp G M H) (k : Nat) (e : M[k]? = some (a, .lst xs)) (q : ∀ p G1 H1, Zp G1 M H1 → Same G G1 → G1 p = some (.lst (cutV xs lo hi)) → Q (.ref p) H1) : rSlG K (.ref a) lo hi H Q :=
  .inl ⟨a, xs, rfl, SqL.of (z.at_ k e), fun p hp => q p _ _ (z.new hp _) (Same.new (z.free hp)) upd_same⟩
theorem z_setO {R : Hp → Prop} {j : Nat} (z : Zp G M H) (k : Nat) (e : M[k]? = some (a, .lst xs)) (hj : ixN xs.length i = some j) (q : ∀ H1, Zp G (M.set k (a, .lst (xs.set j v))) H1 → R H1) : rSetL (.ref a) (.int i) v H R :=
  ⟨a, xs, i, j, rfl, rfl, z.at_ k e, hj, q _ (z.put k e _)⟩
theorem Dts.snoc : ∀ {xs : List V} {ds : List PyData} {x : V} {d : PyData}, Dts K G xs ds → Dt K G x d → Dts K G (xs ++ [x]) (ds ++ [d])
  | _, _, _, _, .nil, h => .cons h .nil
  | _, _, _, _, .cons a b, h => .cons a (Dts.snoc b h)
theorem Dts.set : ∀ {xs : List V} {ds : List PyData} {x : V} {d : PyData} (j : Nat), Dts K G xs ds → Dt K G x d → Dts K G (xs.set j x) (ds.set j d)
  | _, _, _, _, _, .nil, _ => .nil
  | _, _, _, _, 0, .cons a b, h => .cons h b
  | _, _, _, _, j + 1, .cons a b, h => .cons a (Dts.set j b h)
theorem perm_strs {ys : List V} {ss : List Str} (h : ys.Perm (ss.map V.str)) : ∃ ts : List Str, ys = ts.map V.str ∧ ts.Perm ss := by
  let un : V → Str := fun v => match v with | .str s => s | _ => ""
  have e : (ss.map V.str).map un = ss := by rw [List.map_map]; exact List.map_id'' (fun _ => rfl) ss
  refine ⟨ys.map un, ?_, ?_⟩
  · rw [List.map_map]
    have : ∀ v ∈ ys, (V.str ∘ un) v = v := fun v hv => by
      obtain ⟨s, _, rfl⟩ := List.mem_map.mp (h.mem_iff.mp hv)
      rfl
    rw [List.map_congr_left this]
    exact (List.map_id ys).symm
  · have := h.map un
    rw [e] at this
    exact this
/-! chains -/
theorem z_chain {r r' : R2} {tc : TE} (h : ta σ H fun x H1 => tb σ H1 fun y H2 => r x y H2 fun z H3 => IsB z H3 fun k H3 => Bif k (tc σ H3 fun w' H4 => r' y w' H4 Q) (Q (.bl false) H3)) : tChain r r' ta tb tc σ H Q := h
theorem z_inS {c : Nat} {z : Str} (q : Q (.bl (decide (c ∈ z.cps.toList))) H) : rInG K false (.str ⟨#[c]⟩) (.str z) H Q := .inl ⟨c, z, rfl, rfl, by simpa using q⟩
theorem z_eqI {sp : Sp} {t : Value} (z : Zp G M H) (h : G a = some (.ins C dx fs)) (ty : TyX K H y t) (nf : PySem.W.notFirst K C t = true) (q : sp [.ref a, y] H (fun v H' => ∃ b, v = .bl b ∧ Q (.bl b) H') E) : rEqI K C sp E (.ref a) y H Q :=
  ⟨a, dx, fs, t, rfl, z.sub _ _ h, ty, nf, q⟩
theorem z_neI {sp : Sp} {t : Value} (z : Zp G M H) (h : G a = some (.ins C dx fs)) (ty : TyX K H y t) (nf : PySem.W.notFirst K C t = true) (q : sp [.ref a, y] H (fun v H' => ∃ b, v = .bl b ∧ Q (.bl (!b)) H') E) : rNeI K C sp E (.ref a) y H Q :=
  ⟨a, dx, fs, t, rfl, z.sub _ _ h, ty, nf, q⟩
end
end Ys
namespace Ys
open PySem PySem.Spec PyProof.Rows L2
/-! the rules with the written part told -/
section
variable {X : Cx} {K : PySem.W.Frag} {P : Program} {w : World}
theorem k_add (e : X.K = K := by rfl) : OpR X (binaryOp .Add) (rAddG K) := e ▸ op_addG
theorem k_eq (hu : X.A.units + 64 < cLine) (e : X.K = K := by rfl) : OpR X (compareOp .Eq) (rEqG K) := e ▸ op_eqG hu
theorem k_ne (hu : X.A.units + 64 < cLine) (e : X.K = K := by rfl) : OpR X (compareOp .NotEq) (rNeG K) := e ▸ op_neG hu
theorem k_in (e : X.K = K := by rfl) : OpR X (compareOp .In) (rInG K false) := e ▸ o_in
theorem k_notIn (e : X.K = K := by rfl) : OpR X (compareOp .NotIn) (rInG K true) := e ▸ o_notIn
theorem k_sl (e : X.K = K := by rfl) : SlR X (rSlG K) := e ▸ sl_any
theorem kc_len (e : X.K = K := by rfl) (e1 : X.prog = P := by rfl) (e2 : X.w = w := by rfl) : CallR X (.builtin "len") (rLenG K P w) := by subst e; subst e1; subst e2; exact c_len
theorem kc_list (e : X.K = K := by rfl) : CallR X (.type "list") (rListG K) := e ▸ c_list
theorem kc_tuple (e : X.K = K := by rfl) : CallR X (.type "tuple") (rTupG K) := e ▸ c_tuple
theorem kc_all (hc : X.calm = true) (e : X.K = K := by rfl) : CallR X (.builtin "all") (rAllG K) := e ▸ c_all hc
theorem kc_sorted (hc : X.calm = true) (e : X.K = K := by rfl) (e1 : X.prog = P := by rfl) (e2 : X.w = w := by rfl) : CallR X (.builtin "sorted") (rSortG K P w) := by subst e; subst e1; subst e2; exact c_sorted hc
theorem kc_set (hc : X.calm = true) (e : X.K = K := by rfl) (e1 : X.prog = P := by rfl) (e2 : X.w = w := by rfl) : CallR X (.type "set") (rSetTx K P w) := by subst e; subst e1; subst e2; exact cr_setTx hc
theorem kc_repr (hg : X.A.guards = some []) (S : SysIn X.K) (hu : X.A.units + 64 < cLine) (e : X.K = K := by rfl) : CallR X (.builtin "repr") (rRepr K) := e ▸ cr_repr hg S hu
theorem kc_isi (e : X.K = K := by rfl) : CallR X (.builtin "isinstance") (rIsiG K) := e ▸ c_isi
theorem k_any {tg e : Expr} {te : TE} (h : PE X e te) (q : X.K = K := by rfl) : PI X tg e (iAny K te) := q ▸ pi_any h
theorem k_ix (e : X.K = K := by rfl) : IxR X (rIx K) := e ▸ ix_seq
theorem k_fld {o : Expr} {f : Str} {pos : Pos} {ta : TE} (h : PE X o ta) (hb : attributeBase o f X.env (eval o X.env) = eval o X.env) (e : X.K = K := by rfl) : PE X (.Attribute o f pos) (tFld K ta f) := e ▸ pe_fld h hb
theorem kg_tup {es : List Expr} {k : Nat} {t : TGs} {n : Nat} {pos : Pos} (hc : X.calm = true) (h : PGs X es t) (e : X.K = K := by rfl)
    (hn : (assignEach es X.env).length = n := by rfl) (hst : (assignEach es X.env).findIdx? (·.1) = none := by rfl) : PG X (.Tuple es k pos) (gTup K n t) := e ▸ pg_tup hc h hn hst
theorem kg_unl {es : List Expr} {k : Nat} {t : TGs} {n : Nat} {pos : Pos} (hc : X.calm = true) (h : PGs X es t) (e : X.K = K := by rfl)
    (hn : (assignEach es X.env).length = n := by rfl) (hst : (assignEach es X.env).findIdx? (·.1) = none := by rfl) : PG X (.Tuple es k pos) (gUnl K n t) := e ▸ pg_unl hc h hn hst
theorem k_tup {tg e : Expr} {te : TE} (h : PE X e te) (q : X.K = K := by rfl) : PI X tg e (iTup K te) := q ▸ pi_tup h
end
end Ys
namespace Ys
open PySem PySem.Spec PyProof.Rows L2
/-! ### defs that stand anywhere -/
structure DefY where
  ad : PySem.W.Frag → Addr
  name : Str
  qual : Str
  params : Arguments
  body : List Stmt
  scope : Scope
  dfl : List He.Dv := []
  kwd : List (Str × He.Dv) := []
def fnY (K : PySem.W.Frag) (a : Addr) : He.FnW := (K.lookup a).bind fun o => match o.data with
  | .func fd => some (fd.name, fd.qualname, fd.params, fd.body, fd.scope, fd.globals, fd.closure, fd.builtins)
  | _ => none
def DefY.val (d : DefY) : He.FnW := some (d.name, d.qual, d.params, .stmts d.body, d.scope, mainGlobals, [], builtinsNs)
def DefY.dvs (K : PySem.W.Frag) (d : DefY) : List V := d.dfl.map (He.Dv.v K)
def DefY.kws (K : PySem.W.Frag) (d : DefY) : List (Str × V) := d.kwd.map fun q => (q.1, q.2.v K)
def DefY.ok (K : PySem.W.Frag) (d : DefY) : Bool := PySem.W.keepIn K (.ref (d.ad K)) && ((K.lookup (d.ad K)).elim false fun o => match o.data with
  | .func fd => PySem.W.codeIn K fd.code d.qual && (He.dflB K fd.defaults (d.dvs K) && He.kwdB K fd.kwdefaults (d.kws K))
  | _ => false)
theorem DefY.funD {K : PySem.W.Frag} {d : DefY} (e : fnY K (d.ad K) = d.val) (c : d.ok K = true) : ∃ fd, FunD K d.name d.qual d.params d.body d.scope (d.dvs K) (d.kws K) (d.ad K) fd := by
  obtain ⟨kp, c2⟩ := Bool.and_eq_true_iff.mp c
  cases hq : K.lookup (d.ad K) with
  | none => rw [hq] at c2; exact absurd c2 (by simp)
  | some ob =>
    rw [hq] at c2
    unfold fnY at e
    rw [hq] at e
    obtain ⟨o1, o2, o3, o4⟩ := ob
    cases o3 with
    | func g =>
      obtain ⟨g1, g2, g3, g4, g5, g6, g7, g8, g9, g10, g11, g12, g13, g14, g15⟩ := g
      obtain ⟨i1, i2, i3, i4, i5, i6, i7, i8⟩ : g1 = d.name ∧ g2 = d.qual ∧ g3 = d.params ∧ g4 = .stmts d.body ∧ g5 = d.scope ∧ g6 = mainGlobals ∧ g7 = [] ∧ g15 = builtinsNs := by
        have e' : (some (g1, g2, g3, g4, g5, g6, g7, g15) : He.FnW) = some (d.name, d.qual, d.params, .stmts d.body, d.scope, mainGlobals, [], builtinsNs) := e
        simpa only [Option.some.injEq, Prod.mk.injEq] using e'
      subst i1 i2 i3 i4 i5 i6 i7 i8
      obtain ⟨j1, j2⟩ := Bool.and_eq_true_iff.mp (show (PySem.W.codeIn K g13 d.qual && (He.dflB K g8 (d.dvs K) && He.kwdB K g9 (d.kws K))) = true from c2)
      obtain ⟨j3, j4⟩ := Bool.and_eq_true_iff.mp j2
      exact ⟨_, ⟨o1, o2, g8, g9, g10, g11, g12, g13, g14, o4, rfl, hq, j1, He.dflB_ok j3, He.kwdB_ok j4⟩, kp⟩
    | _ => exact absurd c2 (by simp)
/-! ### the Hook over facts of any kind -/
def obsZ (fb : List (PySem.W.Frag → Bool)) (fn : List DefY) (K : PySem.W.Frag) : He.AlD := ((fb.all fun f => f K) && fn.all fun d => d.ok K, fn.map fun d => fnY K (d.ad K))
def valZ (fn : List DefY) : He.AlD := (true, fn.map DefY.val)
def SaysZ (fb : List (PySem.W.Frag → Bool)) (fn : List DefY) (K : PySem.W.Frag) : Prop := obsZ fb fn K = valZ fn
def frZ (n : Nat) (g : Addr → Option Obj) : PySem.W.Frag := He.frG g (sysModules :: He.asD g n)
def hookZ (n : Nat) (fb : List (PySem.W.Frag → Bool)) (fn : List DefY) : PySem.W.Hook where
  α := He.AlD
  obs := fun s => obsZ fb fn (frZ n s.heap.get?)
  val := fun _ => valZ fn
  says := fun _ h => ∃ K : PySem.W.Frag, K.In h ∧ SaysZ fb fn K
  of := fun _ _ e => ⟨_, He.frG_in, e⟩
  keeps := fun _ _ _ ⟨K, hK, c⟩ k => ⟨K, PySem.W.Frag.In.keeps hK k, c⟩
def obZ (n : Nat) (fb : List (PySem.W.Frag → Bool)) (fn : List DefY) (s : PySem.W.SharedT) : He.AlD := obsZ fb fn (frZ n (HandSHeadRun.getT s))
theorem obZ_eq {n : Nat} {fb : List (PySem.W.Frag → Bool)} {fn : List DefY} (s : PySem.W.SharedT) : obZ n fb fn s = (hookZ n fb fn).obs s.abs := by
  unfold obZ
  rw [show HandSHeadRun.getT s = s.abs.heap.get? from funext (HandSHeadRun.getT_eq s)]
  rfl
section
variable {fb : List (PySem.W.Frag → Bool)} {fn : List DefY} {K : PySem.W.Frag}
theorem SaysZ.at_ (c : SaysZ fb fn K) (i : Nat) {f : PySem.W.Frag → Bool} (h : fb[i]? = some f := by rfl) : f K = true := by
  have h1 : ((fb.all fun f => f K) && fn.all fun d => d.ok K) = true := congrArg Prod.fst c
  exact List.all_eq_true.mp (Bool.and_eq_true_iff.mp h1).1 f (List.mem_of_getElem? h)
theorem SaysZ.def_ (c : SaysZ fb fn K) (i : Nat) {d : DefY} (h : fn[i]? = some d := by rfl) : ∃ fd, FunD K d.name d.qual d.params d.body d.scope (d.dvs K) (d.kws K) (d.ad K) fd := by
  have h1 : ((fb.all fun f => f K) && fn.all fun d => d.ok K) = true := congrArg Prod.fst c
  have h2 : (fn.map fun d => fnY K (d.ad K)) = fn.map DefY.val := congrArg Prod.snd c
  refine DefY.funD ?_ (List.all_eq_true.mp (Bool.and_eq_true_iff.mp h1).2 d (List.mem_of_getElem? h))
  have h3 := congrArg (fun l : List He.FnW => l[i]?) h2
  simp only [List.getElem?_map, h, Option.map_some] at h3
  exact Option.some.inj h3
end
/-! ### facts -/
def gA (x : Str) (K : PySem.W.Frag) : Addr := He.ga K x
/-- what the class x has by the name m -/
def cA (x m : Str) (K : PySem.W.Frag) : Addr := He.ma K (He.ga K x) m
/-- the getter of the property m of the class x -/
def pA (x m : Str) (K : PySem.W.Frag) : Addr := match PySem.W.recIn K (cA x m K) "property" with
  | some (.ref g :: _) => g
  | _ => 0
/-- the value of the keyword-only parameter m of the method f of the class x -/
def kA (x f m : Str) (K : PySem.W.Frag) : Addr := match K.lookup (cA x f K) with
  | some ⟨_, _, .func fd, _⟩ => (match fd.kwdefaults with
    | .ref D => (match PySem.W.nsIn K D m with
      | some (some (.ref a)) => a
      | _ => 0)
    | _ => 0)
  | _ => 0
def fProp (x m : Str) (K : PySem.W.Frag) : Bool := decide (PySem.W.findIn K (.ref (He.ga K x)) m = some (some (.ref (cA x m K)))) && (decide (PySem.W.specialIn K (.ref (cA x m K)) "__get__" = some (some (.builtin "property.__get__"))) &&
  (decide (PySem.W.takesIn K (.ref (cA x m K)) = some true) && (match PySem.W.recIn K (cA x m K) "property" with
    | some (.ref g :: _) => decide (g = pA x m K)
    | _ => false)))
theorem fProp_ok {x m : Str} {K : PySem.W.Frag} (h : fProp x m K = true) : PropOf K (He.ga K x) m (cA x m K) (pA x m K) := by
  obtain ⟨h1, h⟩ := Bool.and_eq_true_iff.mp h
  obtain ⟨h2, h⟩ := Bool.and_eq_true_iff.mp h
  obtain ⟨h3, h4⟩ := Bool.and_eq_true_iff.mp h
  refine ⟨of_decide_eq_true h1, of_decide_eq_true h2, of_decide_eq_true h3, ?_⟩
  cases q : PySem.W.recIn K (cA x m K) "property" with
  | none => rw [q] at h4; cases h4
  | some l =>
    rw [q] at h4
    cases l with
    | nil => cases h4
    | cons v r =>
      cases v with
      | ref g => exact ⟨r, by rw [of_decide_eq_true h4]⟩
      | _ => cases h4
/-- the class x is a plain class whose instances tell their type -/
def fTy (x : Str) (K : PySem.W.Frag) : Bool := decide (PySem.W.findIn K (.ref (He.ga K x)) "__class__" = some (some (.builtin "object.__class__"))) && (decide (PySem.W.specialIn K (.builtin "object.__class__") "__get__" = some (some (.builtin "getset_descriptor.__get__"))) &&
  (decide (PySem.W.takesIn K (.builtin "object.__class__") = some true) && (decide (PySem.W.mroIn K (He.ga K x) (.type "object") = some true) && ((PySem.W.clsIn K (He.ga K x)).isSome && PySem.W.typeIn K (.ref (He.ga K x)) == some (.type "type")))))
def fNe (x : Str) (K : PySem.W.Frag) : Bool := decide (PySem.W.findIn K (.ref (He.ga K x)) "__ne__" = some (some (.builtin "object.__ne__")))
/-- an empty tuple stands at a -/
def fNil (a : PySem.W.Frag → Addr) (K : PySem.W.Frag) : Bool := match K.lookup (a K) with
  | some ⟨.type c, _, .seq its _, _⟩ => decide (c = "tuple") && decide (its.size = 0)
  | _ => false
theorem fNil_ok {a : PySem.W.Frag → Addr} {K : PySem.W.Frag} (h : fNil a K = true) (G : Hp) : SqT K G (a K) [] := by
  unfold fNil at h
  cases q : K.lookup (a K) with
  | none => rw [q] at h; cases h
  | some ob =>
    rw [q] at h
    obtain ⟨o1, o2, o3, o4⟩ := ob
    cases o1 with
    | type c =>
      cases o3 with
      | seq its n =>
        obtain ⟨h1, h2⟩ := Bool.and_eq_true_iff.mp (show (decide (c = "tuple") && decide (its.size = 0)) = true from h)
        have hz := of_decide_eq_true h2
        have he : its.toList = [] := by
          apply List.eq_nil_of_length_eq_zero
          rw [Array.length_toList]
          exact hz
        exact .inr ⟨_, its, n, q, congrArg Value.type (of_decide_eq_true h1), rfl, by rw [hz]; exact Nat.zero_le _, by rw [he]; exact .nil⟩
      | _ => cases h
    | _ => cases o3 <;> cases h
end Ys
namespace Ys
open PySem PySem.Spec PyProof.Rows L2
/-! ### an own exception's __init__ that says super().__init__(x), self.f = x -/
structure SupF (P : Program) (K : PySem.W.Frag) (C fI : Addr) (fld qual : Str) (params : Arguments) (body : List Stmt) (scope : Scope) (fd : FuncData) : Prop where
  ex : ∃ oc od osl dV kV doc pm an cda ct cc, fd = PySem.W.ksFn "__init__" qual params body scope dV kV doc pm an (.ref cda) ct cc ∧ K.lookup fI = some ⟨oc, od, .func fd, osl⟩ ∧ PySem.W.codeIn K (.ref cda) qual = true ∧
    (∃ ccl cdd vs ccs file tf, K.lookup cda = some ⟨ccl, cdd, .fields vs, ccs⟩ ∧ vs[2]? = some (.str file tf) ∧ ((P.main.file : Str) == file) = true) ∧ ∃ cl cld csl, K.lookup cc = some ⟨cl, cld, .cell (some (.ref C)), csl⟩
  sup : PySem.W.ks_superIn K C C "__init__" = some (some (.builtin "ValueError.__init__"))
  subV : PySem.W.subIn K (.ref C) (.type "ValueError") = some true
  opq : PySem.W.nsIn K cStatics "thirdparty.any" = some none
  gs : PySem.W.nsIn K mainGlobals "super" = some none
  no : PySem.W.findIn K (.ref C) fld = some none
  mro : PySem.W.mroIn K C (.ref C) = some true
/-- its scope and parameters -/
structure SupS (x : Str) (params : Arguments) (scope : Scope) : Prop where
  nc : ∀ y ∈ scope.names, y.2 ≠ .cell
  ns : scope.names.lookup ("super" : Str) = some .globalImplicit
  nk : scope.names.lookup ("__class__" : Str) = some .free
  n1 : scope.names.lookup ("self" : Str) = some .local
  n2 : scope.names.lookup x = some .local
  co : scope.isCoroutine = false
  ge : scope.isGenerator = false
  ki : scope.kind = .function
  hd : ∃ ar, (params.posonlyargs ++ params.args).head? = some ar ∧ ar.arg = "self"
  ne : ("self" : Str) ≠ x
  nd : (x == ("__debug__" : Str)) = false
section
variable {P : Program} {w : World} {K : PySem.W.Frag} {C fI a t0 : Addr} {x fld qual : Str} {params : Arguments} {scope : Scope} {p0 p1 p2 p3 p4 p5 p6 p7 p8 p9 : Pos} {A : Around} {mg mb : Str → Option Value} {v : Value} {R : Result → Shared → Prop} {fd : FuncData} {hp : Heap} {g : Array GenState} {d : Drawn} {t : Nat} {os : OsState}
theorem call_mwV {mw : Addr} {us : List Value} {nm q : Str} {N : Addr} {bs bm : List Value} {hd : Bool} {sn : List Str} {sub : List Value} {ab : Bool} {col : Option Bool} {dd : Option Addr} {k0 k1 k2 k3 k5 : Option Value} {Q : Value → Shared → Prop} {E : Value → Shared → Prop}
    (hC : hp.get? C = some (excClassObj nm q C N bs bm hd sn sub ab col dd k0 k1 k2 k3 k5 "ValueError.__new__")) (_hT : ∀ Y : String, bm.contains (.type Y) = PySem.HandSPX.veTail.contains (.type Y)) (hx : hp.get? a = some (PySem.HandSPX.excO C t0)) (hu : hp.get? mw = some (PySem.W.kxs_mw "ValueError.__init__" a)) (hz : us.length ≤ sizeLine)
    (hq : ∀ h' t1, (∀ b o, b ≠ a → hp.get? b = some o → h'.get? b = some o) → h'.get? a = some (PySem.HandSPX.excO C t1) → Q .none ⟨h', g, d, t, os⟩) : wpAny (model P w) A (call (.ref mw) us) Q E ⟨hp, g, d, t, os⟩ := by
  refine wpAny_call (codeAny_of_tree ?_)
  show wpAny _ A.in1 (callAny (.ref mw) ⟨us, []⟩) _ _ _; simp only [callAny]
  refine wpAny_bind (wpAny_load hu ?_)
  have q1 : (Value.type "method-wrapper" == Value.type "method" || Value.type "method-wrapper" == Value.type "builtin_function_or_method" || Value.type "method-wrapper" == Value.type "method-wrapper") = true := by decide
  simp only [PySem.W.kxs_mw, q1, if_true]
  refine PySem.W.KFB.if_so (by decide) (wpAny_bind (PySem.W.check_bound_init F.excBase_ValueError.toExcCallFacts hC hx rfl ?_))
  refine wpAny_bind (wpAny_pure (wpAny_pure ⟨plainId_quiet F.excBase_ValueError.init.plain _, codeAny_builtin F.excBase_ValueError.initEntry ?_⟩))
  exact PySem.W.exc_init_tree (cls := .ref C) (t0 := t0) (dv := none) (c2 := .none) (c3 := .none) (b4 := .bool false) hx hz fun h' k e _ => hq h' _ k e
def supBody (x fld : Str) (p0 p1 p2 p3 p4 p5 p6 p7 p8 p9 : Pos) : List Stmt := [.Expr (.Call (.Attribute (.Call (.Name "super" p0) [] [] p1) "__init__" p2) [.Name x p3] [] p4) p5, .Assign [.Attribute (.Name "self" p6) fld p7] (.Name x p8) p9]
theorem run_sup (S : SupF P K C fI fld qual params (supBody x fld p0 p1 p2 p3 p4 p5 p6 p7 p8 p9) scope fd) (Z : SupS x params scope) (T : OexC K C) (X : K.In hp) (hg : hp.Ns mainGlobals mg) (hb : hp.Ns builtinsNs mb) (hbb : ∀ y : Str, y ≠ "__name__" → mb y = bootBuiltins y) (hlim : hp.NoLimit) (hroom : A.depth < recursionLimit) (hun : A.units + 64 < cLine)
    (hev : ∀ env : Env, env.scope = scope → ∃ pl : Sem Bool, eval (.Call (.Attribute (.Call (.Name "super" p0) [] [] p1) "__init__" p2) [.Name x p3] [] p4) env = (do
      let ov ← attributeBase (.Call (.Name "super" p0) [] [] p1) "__init__" env (eval (.Call (.Name "super" p0) [] [] p1) env)
      standAt p2.atName
      let (f, first) ← holding [ov] (getMethod ov "__init__" pl)
      callWith p4 f first (backTo p4 (starEach [.Name x p3] env)) []))
    (hint : ∀ env : Env, env.scope = scope → interactive env = false) (hsw1 : ∀ env : Env, env.scope = scope → swapsWith (.Call (.Attribute (.Call (.Name "super" p0) [] [] p1) "__init__" p2) [.Name x p3] [] p4) none p5.line env = pure false)
    (hsw2 : ∀ env : Env, env.scope = scope → swapsWith (.Name x p8) (some (.Attribute (.Name "self" p6) fld p7)) p9.line env = pure false)
    (htop : (P.main.scope.names.lookup ("super" : Str)).isSome = false)
    (haK : K.lookup a = none) (hx : hp.get? a = some (PySem.HandSPX.excO C t0)) (args : Args) (hbind : BindsTo ⟨hp, g, d, t, os⟩ fd args [("self", .ref a), (x, v)])
    (hR : ∀ h' tk dx t1, (∀ b o, b ≠ a → hp.get? b = some o → h'.get? b = some o) → hp.objs.size ≤ dx → dx ≠ a → h'.get? a = some ({ cls := .ref C, dict := some dx, data := .fields #[.ref t1, .none, .none, .none, .bool false, .none] } : Obj) →
      h'.Ns1 dx (fun y => if y = fld then some v else none) → R (.ok (.ret .none)) ⟨h', g, d, tk, os⟩) :
    codeAny (model P w) A (.call (.ref fI) args) R ⟨hp, g, d, t, os⟩ := by
  obtain ⟨oc, od, osl, dV, kV, doc, pm, an, cda, ct, cc, rfl, lk, hcd, ⟨ccl, cdd, vs, ccs, file, tf, lcd, hvs, hfile⟩, cl, cld, csl, lcc⟩ := S.ex
  obtain ⟨ar, har, hars⟩ := Z.hd
  obtain ⟨nm, q, N, bs, bm, sn, sub, ab, col, dd, k0, k1, k2, k3, k5, hC, hbm⟩ := T.cls
  have hcl : PySem.W.clsIn K C = some { name := nm, bases := bs, mro := .ref C :: bm, ns := N, qualname := q, hasDict := true, slotNames := sn, subclasses := sub, abstract := ab, collection := col, hasDel := false } := by unfold PySem.W.clsIn; rw [hC] <;> rfl
  refine ks_codeAny_call_defAt (body := supBody x fld p0 p1 p2 p3 p4 p5 p6 p7 p8 p9) (binds := [("self", .ref a), (x, v)]) hroom (X _ _ lk) rfl hlim (PySem.W.codeRec_of X hcd) rfl hbind Z.nc (fun y hy => ?_) (fun h0 hns hk => ?_) Z.co Z.ge Z.ki
  · rcases List.mem_cons.mp hy with rfl | hy
    · exact Z.n1
    · obtain rfl : y = (x, v) := by simpa using hy
      exact Z.n2
  have X0 : K.In h0 := X.keeps hk
  have ns_ : ∀ {L : Addr} {m : Str → Option Value}, hp.Ns L m → h0.Ns L m := fun ⟨o, es, ep, e, d, r⟩ => ⟨o, es, ep, hk _ _ e, d, r⟩
  have hn2 : h0.Ns hp.objs.size (fun y => [(("self" : Str), Value.ref a), (x, v)].reverse.lookup y) := hns
  have lself : ([(("self" : Str), Value.ref a), (x, v)].reverse.lookup ("self" : Str)) = some (.ref a) := by
    show List.lookup ("self" : Str) [(x, v), (("self" : Str), Value.ref a)] = _
    rw [List.lookup_cons, show (("self" : Str) == x) = false from by simpa using Z.ne]
    simp [List.lookup]
  have lx : ([(("self" : Str), Value.ref a), (x, v)].reverse.lookup x) = some v := by
    show List.lookup x [(x, v), (("self" : Str), Value.ref a)] = _
    rw [List.lookup_cons]
    simp
  obtain ⟨pl, hev⟩ := hev (callEnv (PySem.W.ksFn "__init__" qual params (supBody x fld p0 p1 p2 p3 p4 p5 p6 p7 p8 p9) scope dV kV doc pm an (.ref cda) ct cc) hp.objs.size fI) rfl
  refine ks_wpAt_execs_cons (ks_wpAt_Expr_any (ks_wpAt_MethodCall (pl := pl) ?_ hev) (hint _ rfl) (hsw1 _ rfl))
  refine ks_wpAt_super_base Z.ns Z.nk (by decide +kernel) rfl (X0 _ _ lk) rfl har rfl (X0 _ _ lcd) rfl hvs hfile htop ?_
  refine PySem.W.ks_loadName_global Z.ki Z.ns (PySem.Calls.loadGlobal_builtin (ns_ hg) (PySem.W.mg_none_of X hg S.gs) (ns_ hb) ((hbb _ (by decide +kernel)).trans (by first | rfl | kernel_rfl)) ⟨rfl, ?_⟩)
  refine wpAny_loadName_free Z.ki Z.nk rfl ⟨_, X0 _ _ lcc, rfl⟩ ?_
  rw [hars]
  refine wpAny_loadName_local Z.ki Z.n1 hn2 lself ?_
  refine ks_wpAny_isType_cls (X0 _ _ hC) rfl ⟨rfl, ?_⟩
  have hxa := hk _ _ hx
  refine ks_wpAny_call_super (X0 _ _ hC) rfl hxa rfl (fun c e => by cases e) (PySem.W.looks_mroIn X0 S.mro) (fun h1 e1 k1 => ?_)
  have X1 : K.In h1 := X0.keeps k1
  have I1 : PySem.W.InstAt h1 a (PySem.HandSPX.excO C t0) C none := ⟨k1 _ _ hxa, rfl, rfl, trivial⟩
  have hsup : PySem.W.alongIn K "__init__" ((((Value.ref C :: bm).dropWhile (· != .ref C)).drop 1)) = some (some (.builtin "ValueError.__init__")) := by
    have := S.sup
    unfold PySem.W.ks_superIn at this
    rw [hcl] at this
    exact this
  refine PySem.W.kxs_getMethod PySem.W.kxs_ValueError e1 (PySem.W.looks_opaque X1 S.opq) (l₀ := .ref C :: bm) (fun A Q E s k q => wpAny_bind ((PySem.W.looks_clsIn X1 hcl) A _ E s k (wpAny_pure q))) rfl X1 hsup (I1.type.andThen (PySem.W.looks_subIn X1 S.subV)) (PySem.W.ks_ne X1 I1 hcl) (by decide +kernel) ?_
  refine PySem.W.kxs_callWith (i := "ValueError.__init__") (x := a) (u := h1.objs.size) rfl (PySem.Calls.evalArgs_plain (PySem.Calls.spliced_cons ?_))
  show wpAny _ _ (eval (.Name x p3) _) _ _ _
  have hk1 : ∀ b o, hp.get? b = some o → h1.get? b = some o := fun b o e => k1 _ _ (hk _ _ e)
  have hn3 : h1.Ns hp.objs.size (fun y => [(("self" : Str), Value.ref a), (x, v)].reverse.lookup y) := let ⟨o, es, ep, e, d, r⟩ := hn2; ⟨o, es, ep, k1 _ _ e, d, r⟩
  refine PySem.ESX.ldL (m := fun y => [(("self" : Str), Value.ref a), (x, v)].reverse.lookup y) ?_ lx ?_ Z.ki Z.n2 Z.nd
  · let ⟨o, es, ep, e, d, r⟩ := hn3
    exact ⟨o, es, ep, Heap.get?_push_of_some _ e, d, r⟩
  refine wpAny_pure ⟨Heap.get?_push_at rfl rfl, ?_⟩
  show wpAny _ _ (call (.ref h1.objs.size) [v]) _ _ _
  have kp : ∀ b o, h1.get? b = some o → (h1.push (PySem.W.kxs_mw "ValueError.__init__" a)).get? b = some o := fun b o e => Heap.get?_push_of_some _ e
  refine call_mwV (kp _ _ (X1 _ _ hC)) (fun Y => PySem.HandSPX.refsVE_contains Y bm hbm) (kp _ _ (hk1 _ _ hx)) (Heap.get?_push_at rfl rfl) (by show 1 ≤ sizeLine; decide) (fun h2 t1 k2 hx2 => ?_)
  have k02 : ∀ b o, b ≠ a → hp.get? b = some o → h2.get? b = some o := fun b o nb e => k2 b o nb (kp _ _ (hk1 _ _ e))
  have nC : C ≠ a := fun z => by have := X _ _ hC; rw [z, hx] at this; cases this
  have X2 : K.In h2 := fun b o e => k02 b o (fun z => by rw [z, haK] at e; cases e) (X _ _ e)
  have hL : hp.objs.size ≠ a := Nat.ne_of_gt (Heap.lt_size hx)
  have hn4 : h2.Ns hp.objs.size (fun y => [(("self" : Str), Value.ref a), (x, v)].reverse.lookup y) := by
    obtain ⟨o, es, ep, e, d, r⟩ := hn3
    exact ⟨o, es, ep, k2 _ _ hL (kp _ _ e), d, r⟩
  refine ks_wpAt_execs_cons (ks_wpAt_Assign_Attr (wpAt_of_wpAny (PySem.ESX.ldL hn4 lx (PySem.ESX.ldL hn4 lself ?_ Z.ki Z.n1 (by decide)) Z.ki Z.n2 Z.nd)) (hsw2 _ rfl))
  refine PySem.W.set_plain X2 (ox := PySem.HandSPX.excO C t1) (od := none) ⟨hx2, rfl, rfl, trivial⟩ T.sa ?_
  refine PySem.HandSPX.exc_osa X2 hx2 hcl (show PySem.HandSPX.refsVE (.ref C :: bm) = true from hbm) rfl S.no (fun h3 tk3 dx k3 hd3 ne3 hx3 hn5 => ?_)
  refine wpAt_of_wpAny (wpAny_pure ?_)
  have hsz : hp.objs.size < h2.objs.size := let ⟨o, es, ep, e, d, r⟩ := hn4; Heap.lt_size e
  exact hR h3 tk3 dx t1 (fun b o nb e => k3 b o nb (k02 b o nb e)) (Nat.le_trans (Nat.le_of_lt hsz) hd3) ne3 hx3 hn5
/-- what that __init__ promises -/
def spSup (K : PySem.W.Frag) (C : Addr) (fld : Str) : Sp := fun vs H Q _ => ∃ a y, vs = [.ref a, y] ∧ H a = some (exo a C none) ∧ ∀ dx, H dx = none → dx ≠ a → Q .non (upd (upd H dx (exd dx [(fld, y)])) a (exo a C (some dx)))
theorem ok_sup {base : Heap} {CX : CXT} (S : SupF P K C fI fld qual params (supBody x fld p0 p1 p2 p3 p4 p5 p6 p7 p8 p9) scope fd) (Z : SupS x params scope) (T : OexC K C)
    (hev : ∀ env : Env, env.scope = scope → ∃ pl : Sem Bool, eval (.Call (.Attribute (.Call (.Name "super" p0) [] [] p1) "__init__" p2) [.Name x p3] [] p4) env = (do
      let ov ← attributeBase (.Call (.Name "super" p0) [] [] p1) "__init__" env (eval (.Call (.Name "super" p0) [] [] p1) env)
      standAt p2.atName
      let (f, first) ← holding [ov] (getMethod ov "__init__" pl)
      callWith p4 f first (backTo p4 (starEach [.Name x p3] env)) []))
    (hint : ∀ env : Env, env.scope = scope → interactive env = false) (hsw1 : ∀ env : Env, env.scope = scope → swapsWith (.Call (.Attribute (.Call (.Name "super" p0) [] [] p1) "__init__" p2) [.Name x p3] [] p4) none p5.line env = pure false)
    (hsw2 : ∀ env : Env, env.scope = scope → swapsWith (.Name x p8) (some (.Attribute (.Name "self" p6) fld p7)) p9.line env = pure false)
    (htop : (P.main.scope.names.lookup ("super" : Str)).isSome = false) : FnOk P w K mg base CX 1 fI fd ["self", x] (spSup K C fld) := by
  refine ⟨fun vs H Q E h => ?_, fun A outer s H args us vs Q E hr e0 hbd r hsp => ?_⟩
  · obtain ⟨a, y, rfl, _⟩ := h
    rfl
  obtain ⟨a, y, rfl, ha, q⟩ := hsp
  obtain ⟨u1, u2, rfl, r1, r2⟩ := vals2 r
  obtain rfl : u1 = Value.ref a := r1
  obtain ⟨t0, hx⟩ := exo_at e0.hok ha
  have KX : K.In s.heap := e0.mod.kin.keeps fun b o e => (e0.bs b o e).1
  have haK : K.lookup a = none := by
    cases z : K.lookup a with
    | none => rfl
    | some o =>
      have := (e0.bs _ _ (e0.mod.kin _ _ z)).2
      rw [ha] at this
      cases this
  obtain ⟨mb, hmb, hbb⟩ := e0.mod.blt
  have ns_ : ∀ {L : Addr} {m : Str → Option Value}, base.Ns L m → s.heap.Ns L m := fun ⟨o, es, ep, e, d, r⟩ => ⟨o, es, ep, (e0.bs _ _ e).1, d, r⟩
  have lim : s.heap.NoLimit := e0.mod.nolimit.keeps fun b o e => (e0.bs b o e).1
  obtain ⟨hp, g, d, t, os⟩ := s
  refine run_sup S Z T KX (ns_ e0.mod.glob) (ns_ hmb) hbb lim hr.depth hr.units hev hint hsw1 hsw2 htop haK hx args hbd (fun h' tk dx t1 k hd ne hx' hn => ?_)
  have nH : H dx = none := e0.hok.fresh hd
  have old : ∀ {b : Addr} {o : Obj}, hp.get? b = some o → b ≠ dx := fun e z => absurd (Heap.lt_size (z ▸ e)) (Nat.not_lt.mpr hd)
  have sep : ∀ {b : Addr}, H b = none → b ≠ a := fun n z => by rw [z, ha] at n; cases n
  refine ⟨.non, upd (upd H dx (exd dx [(fld, y)])) a (exo a C (some dx)), rfl, e0.bare, ⟨fun b o e n _ _ => k b o (sep n) e, fun b o e n _ _ => ⟨o.slots, k b o (sep n) e⟩, fun b o e n _ => ?_, fun b o e _ => ?_, fun b xs e => ?_, fun b o u e => ?_, fun b ps e => ?_⟩, fun b o e => ?_, rfl, q dx nH ne⟩
  · rw [upd_ne (sep n), upd_ne (old e)]
    exact n
  · by_cases c : b = a
    · exact ⟨_, by rw [c]; exact hx'⟩
    · exact ⟨o, k b o c e⟩
  · rw [upd_ne (at_ne ha e exo_tup), upd_ne (ne_of_none e nH)]
    exact e
  · rw [upd_ne (at_ne ha e exo_frz), upd_ne (ne_of_none e nH)]
    exact e
  · exact ⟨#[], by rw [upd_ne (at_ne ha e exo_tbl), upd_ne (ne_of_none e nH), e]; simp⟩
  · by_cases c : b = a
    · subst c
      rw [upd_same] at e
      cases e
      exact exo_ok hx'
    rw [upd_ne c] at e
    by_cases c2 : b = dx
    · subst c2
      rw [upd_same] at e
      cases e
      exact exd_ok hn (relO_put (fs := []) r2 fun _ => True.intro)
    rw [upd_ne c2] at e
    refine (e0.hok b o e).stay (fun c' v' hc z => k c' v' ?_ z) (fun c' hc => ?_) (fun c' xs hc => ?_)
    · rcases hc with hc | hc
      · rw [hc]; exact c
      · exact at_ne ha hc exo_own
    · rw [upd_ne (at_ne ha hc exo_own), upd_ne (ne_of_none hc nH)]
      exact hc
    · rw [upd_ne (at_ne ha hc exo_tup), upd_ne (ne_of_none hc nH)]
      exact hc
end
end Ys
namespace Ys
open PySem PySem.Spec PyProof.Rows L2 PySem.W PySem.Calls
section
variable {prog : Program} {w : World} {A : Around} {E : Value → Shared → Prop} {s : Shared} {K : Frag} {x D : Addr} {ox : Obj} {od : Option Obj}
/-- an exception tells its class, with a dict or without -/
theorem exc_class {Q : Option Value → Shared → Prop} (C : ExcC K D) (X : K.In s.heap) (I : InstAt s.heap x ox D od) (h : Q (some (.ref D)) { s with toks := s.toks + 1 }) : wpAny (model prog w) A (getAttr? (.ref x) "__class__") Q E s := by
  obtain ⟨hga, hgt, hsub, hdct, ha, hn, htk, hm⟩ := C
  have hc1 : (clsIn K D).isSome = true := by obtain ⟨cd, hc, _⟩ := any_some hdct; rw [hc]; rfl
  have hf : findObj K D od "__class__" = some (.bind (.builtin "getset_descriptor.__get__") (.builtin "object.__class__")) := by
    cases od with
    | none => exact findObj_dataN hc1 ha hn htk
    | some od => exact findObj_data hc1 ha hn htk
  obtain ⟨hp, g, d, t, os⟩ := s
  have M0 := I.type (M := model prog w); have M1 := looks_findIn (M := model prog w) X hga; have M2 := looks_findIn (M := model prog w) X hgt; have M3 := looks_find (M := model prog w) X I hf
  have isB : Looks (model prog w) hp (isInstance (.ref x) (.type "BaseException")) true := M0.andThen (looks_subIn X hsub)
  have n2 : (Value.builtin "BaseException.__getattribute__" == Value.builtin "object.__getattribute__") = false := by decide +kernel
  have n1 : (onTheHeap (Value.ref D) && Value.builtin "BaseException.__getattribute__" == Value.builtin "object.__getattribute__") = false := by rw [n2]; rfl
  unfold getAttr? getAttrBy? getAttrBy; refine wpAny_bind (wpAny_mkText (wpAny_bind (wpAny_attempt (wpAny_holding (wpAny_bind (M0.at (wpAny_bind (M1.at ?_))))))))
  refine (show wpAny _ _ (if (onTheHeap (Value.ref D) && Value.builtin "BaseException.__getattribute__" == Value.builtin "object.__getattribute__") = true then _ else _) _ _ _ from ?_)
  rw [n1, if_neg Bool.false_ne_true]; unfold getAttrByItsOwn hookBefore; refine wpAny_bind ?_
  rw [if_pos (show onTheHeap (Value.ref D) = true from rfl)]; refine M2.at (wpAny_bind (wpAny_attempt (wpAny_holding ?_)))
  unfold callGetattribute; rw [show (false && onTheHeap (Value.builtin "BaseException.__getattribute__")) = false from rfl, if_neg Bool.false_ne_true]
  unfold boundAndCalled; rw [PySem.F.excAttr_ValueError.ga.bind (.ref x)]; refine wpAny_bind (wpAny_pure ?_)
  refine (show wpAny _ _ (call (.builtin "BaseException.__getattribute__") [.ref x, .str "__class__" t]) _ _ _ from wpAny_call (codeAny_call_builtin PySem.F.excAttr_ValueError.ga.plain PySem.F.entry_bexc_ga ?_))
  refine @check_slot (model prog w) _ _ ⟨hp, g, d, t + 1, os⟩ "BaseException.__getattribute__" "BaseException" "__getattribute__" (.ref x) [.str "__class__" t] [] _ (by decide +kernel) (by decide +kernel) isB (PySem.F.args_bexc_ga (.ref x) (.str "__class__" t)) ?_
  unfold Builtin.«object.__getattribute__»; refine wpAny_bind (wpAny_of_eq (a := ((Value.ref x : Value), [Value.str "__class__" t])) (by first | rfl | (simp only [slotArgs]; rfl)) (wpAny_bind (wpAny_pure (wpAny_bind (M0.at (wpAny_bind (M3.at ?_)))))))
  refine (show wpAny _ _ (holding [Value.builtin "object.__class__"] (call (.builtin "getset_descriptor.__get__") [.builtin "object.__class__", .ref x, .ref D]) >>= ret) _ _ _ from wpAny_bind (wpAny_holding (wpAny_call (class_get (s := ⟨hp, g, d, t + 1, os⟩) (ox := ox) (od := od) X I hm (wpAny_pure ?_)))))
  refine (show wpAny _ _ (handedOut (.ref D)) _ _ _ from ?_)
  rw [handedOut_of (v := .ref D) rfl]
  first | exact wpAny_pure (wpAny_pure h) | exact wpAny_pure h | exact wpAny_pure (wpAny_bind (wpAny_pure (wpAny_pure h)))
theorem kitx_exc (C : ExcC K D) : KitX K (.ref x) (.ref D) (fun h => InstAt h x ox D od) :=
  ⟨fun _ _ _ I => I.type, (fun M h X _ A' Q' E' s' k q => by obtain ⟨cdD, hcD, _⟩ := any_some C.hd; unfold clsIn at hcD; split at hcD; (· rename_i ho; unfold isType loadHead; exact wpAny_bind (wpAny_loadPart (k _ _ (X _ _ ho)) (wpAny_pure q))); (· cases hcD)), (fun h tp dd its n sl X htp => by
    obtain ⟨cdD, hcD, _⟩ := any_some C.hd
    refine Bool.eq_false_iff.mpr fun q => ?_
    obtain rfl : D = tp := Value.ref.inj (beq_iff_eq.mp q)
    unfold clsIn at hcD
    split at hcD
    · rename_i ho
      have z := (X _ _ ho).symm.trans htp
      cases z
    · cases hcD), fun X I k => exc_class C X I k⟩
end
section
/-- isinstance(e, c), e the exception that the suite holds, with its dict -/
def rIsX (K : Frag) (D a : Addr) (cls : Value) (d : Option Addr) : List V → Hp → VK → Prop := fun xs H Q => ∃ (c : V) (cv : Value) (b : Bool) (dd : Addr) (fs : List (Str × V)), xs = [.ref a, c] ∧ cls = .ref D ∧ ClsV c cv ∧ kitOne K (.ref D) cv = some b ∧ d = some dd ∧ H dd = some (.xd fs) ∧ Q (.bl b) H
theorem call_isX {X : Cx} {a D : Addr} {cls : Value} {d : Option Addr} {oe : Obj} {pn : List (Addr × Obj)} (C : ExcC X.K D) (hz : Zc cls d oe) (hf : ∃ vs, oe.data = .fields vs) : CallR (X.suite a ((a, oe) :: pn)) (.builtin "isinstance") (rIsX X.K D a cls d) := by
  intro pins s σ H xs us Q I r ⟨c, cv, b, dd, fs, e1, e0, hc, e2, e3, hd, q⟩
  subst e1 e0
  obtain ⟨u1, u2, rfl, r1, r2⟩ := vals2 r
  obtain rfl : u1 = Value.ref a := r1
  obtain rfl := hc.eq r2
  subst e3
  obtain ⟨hget, _⟩ := I.pin (a, oe) (List.mem_append_left _ List.mem_cons_self)
  obtain ⟨mA, hns, _⟩ := (show ObjOk X.prog X.w H s.heap dd (.xd fs) from I.hok dd _ hd)
  obtain ⟨od, ho, _⟩ := lookIn_ns hns
  obtain ⟨vs, hv⟩ := hf
  have J : InstAt s.heap a oe D (some od) := ⟨hget, hz.1, (by unfold notCls; rw [hv]), by rw [hz.2]; exact ho⟩
  exact kia_one (kitx_exc (ox := oe) (od := some od) C) I.kIn J e2 (fun z => nomatch z) fun tk => ⟨.bl b, H, I.kept (t' := tk) fun _ _ z => z, rfl, q⟩
end
end Ys
namespace Ys
open PySem PySem.Spec PyProof.Rows L2
/-! ### raise C(e), C an own class with super().__init__(x), self.fld = x -/
structure ExcS (P : Program) (w : World) (K : PySem.W.Frag) (mg : Str → Option Value) (base : Heap) (C : Addr) (x fld : Str) : Prop where
  T : OexC K C
  ex : ∃ fI fd pn, PySem.W.findIn K (.ref C) "__init__" = some (some (.ref fI)) ∧ PySem.W.typeIn K (.ref fI) = some (.type "function") ∧ FnOk P w K mg base CX0 1 fI fd ["self", pn] (spSup K C fld) ∧ Binds K fd ["self", pn] []
  gC : mg x = some (.ref C)
section
variable {X : Cx} {K : PySem.W.Frag} {P : Program} {w : World} {G G1 H : Hp} {M : List (Addr × HO)} {σ : L2.St} {D : Ends} {te : TE} {C : Addr} {x fld : Str} {W : WX} {y : V} {e : Expr} {p pos pos' : Pos} {q : XK}
def RsW (K : PySem.W.Frag) (C : Addr) (fld : Str) (y : V) (H1 : Hp) (q : XK) : Prop := [y].length ≤ 1000 ∧ ∀ a, H1 a = none → spSup K C fld (.ref a :: ([y] ++ [])) (upd H1 a (exo a C none))
  (fun v H2 => v = .non ∧ ∃ (d : Addr) (fs : List (Str × V)), H2 a = some (exo a C (some d)) ∧ H2 d = some (exd d fs) ∧ H1 d = none ∧ q (.ref C) (some d) (upd (del H2 a) d (.xd fs))) (fun _ _ _ => False)
def sRs (K : PySem.W.Frag) (C : Addr) (fld : Str) (te : TE) (W : WX) : TS := fun _ σ H => te σ H fun y H1 => RsW K C fld y H1 fun cls d H' => W cls d σ H'
theorem ps_rs (S : ExcS X.prog X.w X.K X.mg X.base C x fld) (hc : X.calm = true) (tk : Takes X W) (hr : Room 2 X.A) (hg : Gl X x) (he : PE X e te)
    (hdb : (x == ("__debug__" : Str)) = false := by decide) (hst : starEach [e] X.env = (false, eval e X.env) :: starEach [] X.env := by rfl) (hpl : (backTo pos (starEach [] X.env)).any (·.1) = false := by rfl) :
    PS X (.Raise (some (.Call (.Name x p) [e] [] pos)) none pos') (sRs X.K C fld te W) := by
  obtain ⟨fI, fd, pn, iC, tI, F, hb⟩ := S.ex
  exact ps_raise hc tk (pmk_oex (ta := tCons te tNil) S.T iC tI F hr hb .nil pass0 hg S.gC (pa_cons he pa_nil hst) hdb hst hpl)
theorem z_rs (h : te σ H fun y H1 => RsW K C fld y H1 fun cls d H' => W cls d σ H') : sRs K C fld te W D σ H := h
theorem z_rsI (h : ∀ dx, H dx = none → q (.ref C) (some dx) (upd H dx (.xd [(fld, y)]))) : RsW K C fld y H q := by
  refine ⟨by show 1 ≤ 1000; decide, fun a ha => ⟨a, y, rfl, upd_same, fun dx hdx ne => ⟨rfl, dx, [(fld, y)], upd_same, ?_, ?_, ?_⟩⟩⟩
  · rw [upd_ne ne, upd_same]
  · rw [upd_ne ne] at hdx
    exact hdx
  · rw [upd_ne ne] at hdx
    have e1 : upd (del (upd (upd (upd H a (exo a C none)) dx (exd dx [(fld, y)])) a (exo a C (some dx))) a) dx (.xd [(fld, y)]) = upd H dx (.xd [(fld, y)]) := by
      funext b
      by_cases c : b = dx
      · rw [c, upd_same, upd_same]
      · rw [upd_ne c, upd_ne c]
        by_cases c2 : b = a
        · rw [c2, del_same, ha]
        · rw [del_ne c2, upd_ne c2, upd_ne c, upd_ne c2]
    rw [e1]
    exact h dx hdx
end
end Ys
namespace Ys
open PySem PySem.Spec PyProof.Rows L2
section
variable {X : Cx} {K : PySem.W.Frag} {G G1 H : Hp} {M : List (Addr × HO)} {σ : L2.St} {Q : VK} {te : TE} {t : TA} {d : PyData} {ds : List PyData} {v : V} {xs : List V} {a : Addr} {i : Int}
def rStr1 : List V → Hp → VK → Prop := fun xs H Q => ∃ s, xs = [.str s] ∧ Q (.str s) H
theorem c_str : CallR X (.type "str") rStr1 := SkE.call_str_str
theorem z_str1 {s : Str} (q : Q (.str s) H) : rStr1 [.str s] H Q := ⟨s, rfl, q⟩
theorem z_rep {n : Int} (z : Zp G M H) (h : G a = some (.lst xs)) (h0 : 0 ≤ n) (h1 : n ≤ 1000) (hl : xs.length * n.toNat ≤ 100000) (q : ∀ p G1 H1, Zp G1 M H1 → Same G G1 → G1 p = some (.lst (List.replicate n.toNat xs).flatten) → Q (.ref p) H1) : rRep (.ref a) (.int n) H Q :=
  ⟨a, n, xs, rfl, rfl, z.sub _ _ h, by omega, by omega, Nat.le_trans hl (by decide), fun p hp => q p _ _ (z.new hp _) (Same.new (z.free hp)) upd_same⟩
theorem z_neg (q : Q (.int (-i)) H) : rU (fun i => V.int (-i)) (.int i) H Q := ⟨i, rfl, q⟩
/-! ### literals, as data -/
def LitW (K : PySem.W.Frag) (te : TE) (d : PyData) : Prop := ∀ σ G M H Q, Zp G M H → (∀ v G1 H1, Zp G1 M H1 → Same G G1 → Dt K G1 v d → Q v H1) → te σ H Q
def LitA (K : PySem.W.Frag) (t : TA) (ds : List PyData) : Prop := ∀ σ G M H Q, Zp G M H → (∀ vs G1 H1, Zp G1 M H1 → Same G G1 → Dts K G1 vs ds → Q vs H1) → t σ H Q
theorem lit_c (h : ∀ G, Dt K G v d) : LitW K (tC v) d := fun _ G _ H _ z q => q v G H z (Same.refl G) (h G)
theorem lit_int (i : Int) : LitW K (tC (.int i)) (.int i) := lit_c fun _ => .int i
theorem lit_str (s : Str) : LitW K (tC (.str s)) (.str s) := lit_c fun _ => .str s
theorem lit_bl (b : Bool) : LitW K (tC (.bl b)) (.bool b) := lit_c fun _ => .bl b
theorem lit_non : LitW K (tC .non) .none := lit_c fun _ => .non
theorem lit_nil : LitA K tNil [] := fun _ G _ H _ z q => q [] G H z (Same.refl G) .nil
theorem lit_cons (h1 : LitW K te d) (h2 : LitA K t ds) : LitA K (tCons te t) (d :: ds) := fun σ G M H Q z q =>
  h1 σ G M H _ z fun v G1 H1 z1 s1 d1 => h2 σ G1 M H1 _ z1 fun vs G2 H2 z2 s2 d2 => q (v :: vs) G2 H2 z2 (s1.trans s2) (.cons (d1.up s2) d2)
theorem lit_tup (h : LitA K t ds) (hl : ds.length ≤ 1000) : LitW K (tTup t) (.tuple ds) := fun σ G M H Q z q =>
  h σ G M H _ z fun vs G1 H1 z1 s1 d1 => z_newT z1 (by rw [d1.len (ds := [])]; omega) fun p G2 H2 z2 s2 e2 => q _ G2 H2 z2 (s1.trans s2) (.tup (SqT.of e2) (d1.up s2))
theorem lit_lst (h : LitA K t ds) (hl : ds.length ≤ 1000) : LitW K (tLst t) (.list ds) := fun σ G M H Q z q =>
  h σ G M H _ z fun vs G1 H1 z1 s1 d1 => z_newL z1 (by rw [d1.len (ds := [])]; omega) fun p G2 H2 z2 s2 e2 => q _ G2 H2 z2 (s1.trans s2) (.lst (SqL.of e2) (d1.up s2))
theorem lit_neg (h : LitW K te (.int i)) : LitW K (tUn (rU fun i => V.int (-i)) te) (.int (-i)) := fun σ G M H Q z q =>
  h σ G M H _ z fun v G1 H1 z1 s1 d1 => by cases d1; exact z_neg (q _ G1 H1 z1 s1 (.int _))
theorem lit_pow (i j : Int) (h : CPow i j) : LitW K (tOp rPowG (tC (.int i)) (tC (.int j))) (.int (i ^ j.toNat)) := fun σ G M H Q z q => z_op (z_c (z_c (z_I h (q _ G H z (Same.refl G) (.int _)))))
theorem lit_dict0 : LitW K tDNewK (.dict []) := fun σ G M H Q z q p hp => q _ _ _ (z.new hp _) (Same.new (z.free hp)) (.dct (.inl upd_same) rfl .nil)
theorem lit_dict1 {k : Str} (h : LitW K te d) : LitW K (tDisp [(tC (.str k), te)]) (.dict [(.str k, d)]) := fun σ G M H Q z q =>
  z_disp z fun p H1 z1 => z_pc (z_c (h σ G _ H1 _ z1 fun v G2 H2 z2 s2 d2 => z_pn (z_dispE z2 [(.inr k, v)] rfl (by show 1 ≤ 15; decide) fun H3 z3 => by
    have fr : G2 p = none := (z3.own M.length p _ last_at).2
    exact q _ _ H3 z3.fix (s2.trans (Same.new fr)) (.dct (.inl upd_same) rfl (.cons (d2.up (Same.new fr)) .nil)))))
/-- a list's display, with its list -/
theorem lit_list (h : LitA K t ds) (hl : ds.length ≤ 1000) (z : Zp G M H) (q : ∀ p xs G1 H1, Zp G1 M H1 → Same G G1 → G1 p = some (.lst xs) → Dts K G1 xs ds → Q (.ref p) H1) : tLst t σ H Q :=
  h σ G M H _ z fun vs G1 H1 z1 s1 d1 => z_newL z1 (by rw [d1.len (ds := [])]; omega) fun p G2 H2 z2 s2 e2 => q p _ G2 H2 z2 (s1.trans s2) e2 (d1.up s2)
theorem Dts.app : ∀ {xs ys : List V} {ds es : List PyData}, Dts K G xs ds → Dts K G ys es → Dts K G (xs ++ ys) (ds ++ es)
  | _, _, _, _, .nil, h => h
  | _, _, _, _, .cons a b, h => .cons a (Dts.app b h)
theorem Dts.mem : ∀ {xs : List V} {ds : List PyData} {v : V}, Dts K G xs ds → v ∈ xs → ∃ d, d ∈ ds ∧ Dt K G v d
  | _, _, _, .nil, h => by cases h
  | _, _, _, .cons a b, h => by
    rcases List.mem_cons.mp h with rfl | h
    · exact ⟨_, List.mem_cons_self .., a⟩
    · obtain ⟨d, h1, h2⟩ := Dts.mem b h
      exact ⟨d, List.mem_cons_of_mem _ h1, h2⟩
end
end Ys
namespace Ys
open PySem PySem.Spec PyProof.Rows L2
/-! ### a class made, which may raise -/
section
variable {X : Cx} {k n m : Nat} {C dx : Addr} {x : Str} {ks : List Str} {gV : List V → List V → List V} {sp : Sp} {W : WX} {t tk : TA} {p pos : Pos} {e : Expr} {es : List Expr} {kws : List Keyword} {G H : Hp} {M : List (Addr × HO)} {σ : L2.St} {Q : VK} {vs zs : List V}
def MkWS (C : Addr) (n m : Nat) (sp : Sp) (gV : List V → List V → List V) (E : XK) (vs zs : List V) (H2 : Hp) (Q : VK) : Prop := vs.length = n ∧ zs.length = m ∧ ∀ x dx, H2 x = none → H2 dx = none → dx ≠ x →
  sp (gV (.ref x :: vs) zs) (upd (upd H2 dx (.own x)) x (.ins C dx [])) (fun v H3 => v = .non ∧ Q (.ref x) H3) E
def tMkS (C : Addr) (n m : Nat) (sp : Sp) (gV : List V → List V → List V) (W : WX) (t tk : TA) : TE := fun σ H Q => t σ H fun vs H1 => tk σ H1 fun zs H2 => MkWS C n m sp gV (WE W σ) vs zs H2 Q
theorem pe_mkX (R : MkS X.prog X.w X.K X.mg X.base (L2.CX X.prog X.w) k C x n ks gV sp) (hr : Room (k + 1) X.A) (hg : Gl X x) (tx : Takes X W) (ha : PA X (e :: es) t) (hkw : PK X kws tk)
    (hall : (backToKw pos (keywordEach kws X.env)).all (·.1.isSome) = true := by rfl) (hks : (backToKw pos (keywordEach kws X.env)).filterMap (·.1) = ks := by rfl) (hdb : (x == ("__debug__" : Str)) = false := by decide)
    (he : starEach (e :: es) X.env = (false, eval e X.env) :: starEach es X.env := by rfl) (hpl : ((backTo pos (starEach (e :: es) X.env)).any (·.1) || (backToKw pos (keywordEach kws X.env)).any (·.1.isNone)) = false := by rfl) :
    PE X (.Call (.Name x p) (e :: es) kws pos) (tMkS C n ks.length sp gV W t tk) := by
  obtain ⟨f, fd, ps, g, mk, F, hm, hb⟩ := R.ex
  refine ⟨fun pins s σ H Q I h => wpAny_Call_Name_kw (ld_glob I hg hm ?_ hdb)⟩
  refine PySem.W.callWith_KW (h₀ := X.base) I.ok.mod.kin mk.kp hall (thn (ha.run pos pins s σ H _ I h) fun us s1 ⟨vs, H1, I1, r, q⟩ => ?_) hpl he
  refine thn (hkw.run pos pins s1 σ H1 _ I1 q) fun ws s2 ⟨zs, H2, I2, rz, l1, l2, q2⟩ => ⟨I2.kIn, ?_⟩
  rw [hks]
  -- the object, its dict, then __init__
  have fx := I2.hok.fresh (Nat.le_succ s2.heap.objs.size); have fd := I2.hok.fresh (Nat.le_refl s2.heap.objs.size)
  have hq := q2 (s2.heap.objs.size + 1) s2.heap.objs.size fx fd (Nat.ne_of_lt (Nat.lt_succ_self _))
  have J := Inv.made (C := C) I2
  have ra : Vals (V.ref (s2.heap.objs.size + 1) :: vs) (Value.ref (s2.heap.objs.size + 1) :: us) := .cons rfl r
  have na : (Value.ref (s2.heap.objs.size + 1) :: us).length = n + 1 := by rw [List.length_cons, ← r.length, l1]
  refine wpAny_call (make_map (f := f) I2.kIn mk.makes mk.init (beq_iff_eq.mp mk.fn) (codeAny_mono (F.run _ X.stack _ _ ⟨Value.ref (s2.heap.objs.size + 1) :: us, ks.zip ws⟩ (g (Value.ref (s2.heap.objs.size + 1) :: us) ws) _ _ (WE W σ) (hr.make C us (ks.zip ws))
    (J.env0.make C us (ks.zip ws)) (hb.to _ _ ws J.kIn na (rz.length.symm.trans l2)) (hb.rel ra rz) hq) fun rr s' hz => ?_))
  match rr, hz with
  | .error er, hz => exact passAt tx σ pins _ _ er s' J hz
  | .ok (.ret u), hz =>
    obtain ⟨v, H', I3, rv, ev, q3⟩ := J.after hz
    subst ev
    exact ⟨rv, ⟨V.ref (s2.heap.objs.size + 1), H', I3, rfl, q3⟩⟩
  | .ok .next, hz => exact hz.elim
  | .ok .brk, hz => exact hz.elim
  | .ok .cont, hz => exact hz.elim
theorem z_mkS (h : t σ H fun vs H1 => tk σ H1 fun zs H2 => MkWS C n m sp gV (WE W σ) vs zs H2 Q) : tMkS C n m sp gV W t tk σ H Q := h
theorem z_mkSI {E : XK} (z : Zp G M H) (l1 : vs.length = n) (l2 : zs.length = m) (q : ∀ x dx H1, Zp (upd G dx (.own x)) (M ++ [(x, .ins C dx [])]) H1 → Same G (upd G dx (.own x)) → sp (gV (.ref x :: vs) zs) H1 (fun v H3 => v = .non ∧ Q (.ref x) H3) E) : MkWS C n m sp gV E vs zs H Q :=
  ⟨l1, l2, fun x dx hx hd ne => q x dx _ ((z.new hd _).add (by rw [upd_ne (Ne.symm ne)]; exact hx) _) (Same.new (z.free hd))⟩
end
end Ys
namespace Ys
open PySem PySem.Spec PyProof.Rows L2
/-! ### the Hook, with methods that say super() -/
def fnC (K : PySem.W.Frag) (a : Addr) : He.FnW := (K.lookup a).bind fun o => match o.data with
  | .func g => some (g.name, g.qualname, g.params, g.body, g.scope, g.globals, [], g.builtins)
  | _ => none
def obsC (fb : List (PySem.W.Frag → Bool)) (fn fc : List DefY) (K : PySem.W.Frag) : He.AlD := ((fb.all fun f => f K) && fn.all fun d => d.ok K, (fn.map fun d => fnY K (d.ad K)) ++ fc.map fun d => fnC K (d.ad K))
def valC (fn fc : List DefY) : He.AlD := (true, fn.map DefY.val ++ fc.map DefY.val)
def SaysC (fb : List (PySem.W.Frag → Bool)) (fn fc : List DefY) (K : PySem.W.Frag) : Prop := obsC fb fn fc K = valC fn fc
def frC (n : Nat) (g : Addr → Option Obj) : PySem.W.Frag := He.frG g (cStatics :: sysModules :: He.asD g n)
def hookC (n : Nat) (fb : List (PySem.W.Frag → Bool)) (fn fc : List DefY) : PySem.W.Hook where
  α := He.AlD
  val := fun _ => valC fn fc
  obs := fun t => obsC fb fn fc (frC n t.heap.get?)
  says := fun _ h => ∃ K : PySem.W.Frag, K.In h ∧ SaysC fb fn fc K
  keeps := fun _ _ _ ⟨K, i, c⟩ k => ⟨K, i.keeps k, c⟩
  of := fun _ _ e => ⟨_, He.frG_in, e⟩
def obC (n : Nat) (fb : List (PySem.W.Frag → Bool)) (fn fc : List DefY) (s : PySem.W.SharedT) : He.AlD := obsC fb fn fc (frC n (HandSHeadRun.getT s))
theorem obC_eq {n : Nat} {fb : List (PySem.W.Frag → Bool)} {fn fc : List DefY} (s : PySem.W.SharedT) : obC n fb fn fc s = (hookC n fb fn fc).obs s.abs := by
  have e : HandSHeadRun.getT s = s.abs.heap.get? := funext (HandSHeadRun.getT_eq s)
  unfold obC
  rw [e]
  rfl
section
variable {fb : List (PySem.W.Frag → Bool)} {fn fc : List DefY} {K : PySem.W.Frag}
theorem SaysC.both (c : SaysC fb fn fc K) : SaysZ fb fn K ∧ (fc.map fun d => fnC K (d.ad K)) = fc.map DefY.val := by
  have h2 : (fn.map fun d => fnY K (d.ad K)) ++ (fc.map fun d => fnC K (d.ad K)) = fn.map DefY.val ++ fc.map DefY.val := congrArg Prod.snd c
  obtain ⟨h3, h4⟩ := List.append_inj h2 (by rw [List.length_map, List.length_map])
  have h1 : ((fb.all fun f => f K) && fn.all fun d => d.ok K) = true := congrArg Prod.fst c
  exact ⟨Prod.ext h1 h3, h4⟩
theorem SaysC.sup (c : SaysC fb fn fc K) (i : Nat) {d : DefY} (h : fc[i]? = some d := by rfl) : fnC K (d.ad K) = d.val := by
  have := congrArg (fun l : List He.FnW => l[i]?) c.both.2
  simp only [List.getElem?_map, h, Option.map_some] at this
  exact Option.some.inj this
end
/-! ### an own error's class -/
def oexB (K : PySem.W.Frag) (C : Addr) : Bool := match K.lookup C with
  | some ⟨.type t, _, .cls c, sl⟩ => (match c.mro, sl.toList with
    | .ref D :: bm, [_, _, _, _, some (.builtin m), _] => (decide (t = "type") && (decide (D = C) && decide (m = "ValueError.__new__"))) && (PySem.HandSPX.refsVE bm && (c.hasDict && !c.hasDel))
    | _, _ => false)
  | _ => false
theorem oexB_ok {K : PySem.W.Frag} {C : Addr} (h : oexB K C = true) : ∃ nm q N bs bm sn sub ab col dd k0 k1 k2 k3 k5, K.lookup C = some (excClassObj nm q C N bs bm true sn sub ab col dd k0 k1 k2 k3 k5 "ValueError.__new__") ∧ PySem.HandSPX.refsVE bm = true := by
  unfold oexB at h
  split at h
  · rename_i t dd c sl look
    split at h
    · rename_i D bm k0 k1 k2 k3 m k5 hm hl
      obtain ⟨j, i⟩ := Bool.and_eq_true_iff.mp h
      obtain ⟨j1, j⟩ := Bool.and_eq_true_iff.mp j
      obtain ⟨j2, j3⟩ := Bool.and_eq_true_iff.mp j
      obtain ⟨i1, i⟩ := Bool.and_eq_true_iff.mp i
      obtain ⟨i2, i3⟩ := Bool.and_eq_true_iff.mp i
      have e1 := of_decide_eq_true j1
      have e2 := of_decide_eq_true j2
      have e3 := of_decide_eq_true j3
      obtain ⟨y1, y2, y3, y4, y5, y6, y7, y8, y9, y10, y11⟩ := c
      dsimp only at hm i2 i3
      have z3 : y11 = false := by cases y11 <;> simp_all
      have es : sl = #[k0, k1, k2, k3, some (.builtin m), k5] := Array.toList_inj.mp (by rw [hl])
      subst e1 e2 e3 hm es i2 z3
      exact ⟨y1, y5, y4, y2, bm, y7, y8, y9, y10, dd, k0, k1, k2, k3, k5, look, i1⟩
    · cases h
  · cases h
def oexA (x : Str) (K : PySem.W.Frag) : Bool := oexB K (He.ga K x) && (decide (PySem.W.findIn K (.ref (He.ga K x)) "__setattr__" = some (some (.builtin "object.__setattr__"))) && (decide (PySem.W.subIn K (.ref (He.ga K x)) (.type "BaseException") = some true) &&
  (decide (PySem.W.typeIn K (.ref (He.ga K x)) = some (.type "type")) && PySem.W.keepIn K (.ref (He.ga K x)))))
theorem oexA_ok {x : Str} {K : PySem.W.Frag} (h : oexA x K = true) : OexC K (He.ga K x) := by
  obtain ⟨h1, h⟩ := Bool.and_eq_true_iff.mp h
  obtain ⟨h2, h⟩ := Bool.and_eq_true_iff.mp h
  obtain ⟨h3, h⟩ := Bool.and_eq_true_iff.mp h
  obtain ⟨h4, h5⟩ := Bool.and_eq_true_iff.mp h
  exact { cls := oexB_ok h1, sa := of_decide_eq_true h2, exC := of_decide_eq_true h3, tyC := of_decide_eq_true h4, kC := h5 }
/-- what try needs of it: its field, isinstance -/
def excA (x fld : Str) (K : PySem.W.Frag) : Bool := xfB K (He.ga K x) && (decide (PySem.W.findIn K (.ref (He.ga K x)) "__class__" = some (some (.builtin "object.__class__"))) && (decide (PySem.W.specialIn K (.builtin "object.__class__") "__get__" = some (some (.builtin "getset_descriptor.__get__"))) &&
  (decide (PySem.W.takesIn K (.builtin "object.__class__") = some true) && (decide (PySem.W.mroIn K (He.ga K x) (.type "object") = some true) && (decide (PySem.W.findIn K (.ref (He.ga K x)) fld = some none) &&
  (decide (PySem.W.exmOne K (.ref (He.ga K x)) (.ref (He.ga K x)) = some true) && decide (PySem.W.kitOne K (.ref (He.ga K x)) (.type "ValueError") = some true)))))))
structure ExcA (K : PySem.W.Frag) (C : Addr) (fld : Str) : Prop where
  xf : XfC K C
  xc : ExcC K C
  no : PySem.W.findIn K (.ref C) fld = some none
  ex : PySem.W.exmOne K (.ref C) (.ref C) = some true
  kt : PySem.W.kitOne K (.ref C) (.type "ValueError") = some true
theorem excA_ok {x fld : Str} {K : PySem.W.Frag} (h : excA x fld K = true) : ExcA K (He.ga K x) fld := by
  obtain ⟨h1, h⟩ := Bool.and_eq_true_iff.mp h
  obtain ⟨h2, h⟩ := Bool.and_eq_true_iff.mp h
  obtain ⟨h3, h⟩ := Bool.and_eq_true_iff.mp h
  obtain ⟨h4, h⟩ := Bool.and_eq_true_iff.mp h
  obtain ⟨h5, h⟩ := Bool.and_eq_true_iff.mp h
  obtain ⟨h6, h⟩ := Bool.and_eq_true_iff.mp h
  obtain ⟨h7, h8⟩ := Bool.and_eq_true_iff.mp h
  have X := xfB_ok h1
  exact ⟨X, ⟨X.ga, X.gg, X.exC, X.hdC, of_decide_eq_true h2, of_decide_eq_true h3, of_decide_eq_true h4, of_decide_eq_true h5⟩, of_decide_eq_true h6, of_decide_eq_true h7, of_decide_eq_true h8⟩
/-! ### its __init__ -/
def fileB (K : PySem.W.Frag) (cd : Value) (file : Str) : Bool := match cd with
  | .ref a => (match K.lookup a with
    | some ⟨_, _, .fields vs, _⟩ => (match (vs[2]? : Option Value) with
      | some (.str z _) => file == z
      | _ => false)
    | _ => false)
  | _ => false
theorem fileB_ok {K : PySem.W.Frag} {cd : Value} {file : Str} (h : fileB K cd file = true) : ∃ a, cd = .ref a ∧ ∃ ccl cdd vs ccs z tf, K.lookup a = some ⟨ccl, cdd, .fields vs, ccs⟩ ∧ vs[2]? = some (.str z tf) ∧ (file == z) = true := by
  unfold fileB at h
  split at h
  · rename_i a
    split at h
    · rename_i c1 c2 vs c3 lk
      split at h
      · rename_i z tf hv
        exact ⟨a, rfl, c1, c2, vs, c3, z, tf, lk, hv, h⟩
      · cases h
    · cases h
  · cases h
def cloB (K : PySem.W.Frag) (clo : List (Str × Addr)) (C : Addr) : Bool := match clo with
  | [(n, c)] => decide (n = "__class__") && (match K.lookup c with
    | some ⟨_, _, .cell (some (.ref D)), _⟩ => decide (D = C)
    | _ => false)
  | _ => false
theorem cloB_ok {K : PySem.W.Frag} {clo : List (Str × Addr)} {C : Addr} (h : cloB K clo C = true) : ∃ c, clo = [(("__class__" : Str), c)] ∧ ∃ cl cld csl, K.lookup c = some ⟨cl, cld, .cell (some (.ref C)), csl⟩ := by
  unfold cloB at h
  split at h
  · rename_i n c
    obtain ⟨h1, h2⟩ := Bool.and_eq_true_iff.mp h
    split at h2
    · rename_i c1 c2 D c3 lk
      have e1 := of_decide_eq_true h1
      have e2 := of_decide_eq_true h2
      subst e1 e2
      exact ⟨c, rfl, _, _, _, lk⟩
    · cases h2
  · cases h
def supA (x qual fld file : Str) (K : PySem.W.Frag) : Bool := (match K.lookup (cA x "__init__" K) with
    | some ⟨_, _, .func g, _⟩ => PySem.W.codeIn K g.code qual && (fileB K g.code file && (cloB K g.closure (gA x K) && decide (g.defaults = .none)))
    | _ => false) &&
  (decide (PySem.W.ks_superIn K (gA x K) (gA x K) "__init__" = some (some (.builtin "ValueError.__init__"))) && (decide (PySem.W.subIn K (.ref (gA x K)) (.type "ValueError") = some true) && (decide (PySem.W.nsIn K cStatics "thirdparty.any" = some none) &&
  (decide (PySem.W.nsIn K mainGlobals "super" = some none) && (decide (PySem.W.findIn K (.ref (gA x K)) fld = some none) && (decide (PySem.W.mroIn K (gA x K) (.ref (gA x K)) = some true) &&
  (decide (PySem.W.findIn K (.ref (gA x K)) "__init__" = some (some (.ref (cA x "__init__" K)))) && decide (PySem.W.typeIn K (.ref (cA x "__init__" K)) = some (.type "function")))))))))
theorem supA_ok {P : Program} {x fld : Str} {K : PySem.W.Frag} {d : DefY} (hf : d.ad K = cA x "__init__" K) (hn : d.name = "__init__") (e : fnC K (d.ad K) = d.val) (h : supA x d.qual fld P.main.file K = true) :
    ∃ fd, SupF P K (gA x K) (cA x "__init__" K) fld d.qual d.params d.body d.scope fd ∧ (∃ kV doc pm an cdv ct cc, fd = PySem.W.ksFn "__init__" d.qual d.params d.body d.scope .none kV doc pm an cdv ct cc) ∧
      PySem.W.findIn K (.ref (gA x K)) "__init__" = some (some (.ref (cA x "__init__" K))) ∧ PySem.W.typeIn K (.ref (cA x "__init__" K)) = some (.type "function") := by
  obtain ⟨h0, h⟩ := Bool.and_eq_true_iff.mp h
  obtain ⟨h1, h⟩ := Bool.and_eq_true_iff.mp h
  obtain ⟨h2, h⟩ := Bool.and_eq_true_iff.mp h
  obtain ⟨h3, h⟩ := Bool.and_eq_true_iff.mp h
  obtain ⟨h4, h⟩ := Bool.and_eq_true_iff.mp h
  obtain ⟨h5, h⟩ := Bool.and_eq_true_iff.mp h
  obtain ⟨h6, h⟩ := Bool.and_eq_true_iff.mp h
  obtain ⟨h7, h8⟩ := Bool.and_eq_true_iff.mp h
  rw [hf] at e
  split at h0
  · rename_i oc od g osl lk
    obtain ⟨j1, j⟩ := Bool.and_eq_true_iff.mp h0
    obtain ⟨j2, j⟩ := Bool.and_eq_true_iff.mp j
    obtain ⟨j3, j4⟩ := Bool.and_eq_true_iff.mp j
    obtain ⟨a, ha, jf⟩ := fileB_ok j2
    obtain ⟨c, hc, jc⟩ := cloB_ok j3
    have j4 := of_decide_eq_true j4
    unfold fnC at e
    rw [lk] at e
    obtain ⟨g1, g2, g3, g4, g5, g6, g7, g8, g9, g10, g11, g12, g13, g14, g15⟩ := g
    obtain ⟨i1, i2, i3, i4, i5, i6, i7⟩ : g1 = d.name ∧ g2 = d.qual ∧ g3 = d.params ∧ g4 = .stmts d.body ∧ g5 = d.scope ∧ g6 = mainGlobals ∧ g15 = builtinsNs := by
      have e' : (some (g1, g2, g3, g4, g5, g6, [], g15) : He.FnW) = some (d.name, d.qual, d.params, .stmts d.body, d.scope, mainGlobals, [], builtinsNs) := e
      simpa only [Option.some.injEq, Prod.mk.injEq, true_and] using e'
    have hc : g7 = [(("__class__" : Str), c)] := hc
    have ha : g13 = .ref a := ha
    have j4 : g8 = .none := j4
    rw [hn] at i1
    subst i1 i2 i3 i4 i5 i6 i7 hc ha j4
    exact ⟨_, ⟨⟨oc, od, osl, .none, g9, g10, g11, g12, a, g14, c, rfl, lk, j1, jf, jc⟩, of_decide_eq_true h1, of_decide_eq_true h2, of_decide_eq_true h3, of_decide_eq_true h4, of_decide_eq_true h5, of_decide_eq_true h6⟩, ⟨_, _, _, _, _, _, _, rfl⟩, of_decide_eq_true h7, of_decide_eq_true h8⟩
  · cases h0
end Ys
namespace LW
open PySem PySem.Spec PyProof.Rows L2 Ys
abbrev P0 : Program := PySem.Challenge.pw_fewhands_k05_tasks_refused
def top (i : Nat) : Stmt := P0.main.body.getD i (.Pass ⟨0, 0, 0, 0⟩)
/-! ### names -/
structure Nm (K : PySem.W.Frag) (mg : Str → Option Value) : Prop where
  sys : SysIn K
  b_len : mg "len" = none
  b_int : mg "int" = none
  b_list : mg "list" = none
  b_tuple : mg "tuple" = none
  b_set : mg "set" = none
  b_dict : mg "dict" = none
  b_str : mg "str" = none
  b_bool : mg "bool" = none
  b_sorted : mg "sorted" = none
  b_min : mg "min" = none
  b_max : mg "max" = none
  b_sum : mg "sum" = none
  b_all : mg "all" = none
  b_any : mg "any" = none
  b_repr : mg "repr" = none
  b_range : mg "range" = none
  b_isinstance : mg "isinstance" = none
  g_LETTERS : GC mg "LETTERS" (.str "abcdefghijklmnopqrstuvwxyz")
  g_LONGEST_WORD : GC mg "LONGEST_WORD" (.int 8)
  g_MANY : GC mg "MANY" (.int 3)
abbrev FnP (K : PySem.W.Frag) (x : Str) (st : Stmt) (f : Addr) (fd : FuncData) : Prop := FunD K x x (defArgs st) (defBody st) (defScope st) [] [] f fd
def inner : Stmt → Nat → Stmt
  | .ClassDef _ _ _ body _ _ _ _ _ _ _, j => (body.filter fun y => match y with | .FunctionDef .. => true | _ => false).getD j (.Pass ⟨0, 0, 0, 0⟩)
  | s, _ => s
/-! ### the defs -/
abbrev s_is_word : Stmt := top 6
abbrev N_is_word : List Str := ["value", "letter"]
theorem sc_is_word : FnScope N_is_word ["value"] (defScope s_is_word) := ⟨rfl, rfl, rfl, by decide +kernel, rfl, by decide +kernel, by decide +kernel⟩
abbrev s_is_integer : Stmt := top 7
abbrev N_is_integer : List Str := ["value"]
theorem sc_is_integer : FnScope N_is_integer ["value"] (defScope s_is_integer) := ⟨rfl, rfl, rfl, by decide +kernel, rfl, by decide +kernel, by decide +kernel⟩
abbrev s_is_within : Stmt := top 8
abbrev N_is_within : List Str := ["value", "least", "most"]
theorem sc_is_within : FnScope N_is_within ["value", "least", "most"] (defScope s_is_within) := ⟨rfl, rfl, rfl, by decide +kernel, rfl, by decide +kernel, by decide +kernel⟩
abbrev s_is_list : Stmt := top 9
abbrev N_is_list : List Str := ["value"]
theorem sc_is_list : FnScope N_is_list ["value"] (defScope s_is_list) := ⟨rfl, rfl, rfl, by decide +kernel, rfl, by decide +kernel, by decide +kernel⟩
abbrev s_are_words : Stmt := top 10
abbrev N_are_words : List Str := ["value", "most", "word"]
theorem sc_are_words : FnScope N_are_words ["value", "most"] (defScope s_are_words) := ⟨rfl, rfl, rfl, by decide +kernel, rfl, by decide +kernel, by decide +kernel⟩
abbrev s_are_different_words : Stmt := top 11
abbrev N_are_different_words : List Str := ["value", "most"]
theorem sc_are_different_words : FnScope N_are_different_words ["value", "most"] (defScope s_are_different_words) := ⟨rfl, rfl, rfl, by decide +kernel, rfl, by decide +kernel, by decide +kernel⟩
abbrev s_ascending : Stmt := top 12
abbrev N_ascending : List Str := ["words"]
theorem sc_ascending : FnScope N_ascending ["words"] (defScope s_ascending) := ⟨rfl, rfl, rfl, by decide +kernel, rfl, by decide +kernel, by decide +kernel⟩
abbrev s_Task_init : Stmt := (inner (top 14) 0)
abbrev N_Task_init : List Str := ["self", "role", "many", "other", "same", "takes", "forgets", "field", "names"]
theorem sc_Task_init : FnScope N_Task_init ["self", "role", "many", "other", "same", "takes", "forgets"] (defScope s_Task_init) := ⟨rfl, rfl, rfl, by decide +kernel, rfl, by decide +kernel, by decide +kernel⟩
abbrev s_Task_role : Stmt := (inner (top 14) 1)
abbrev N_Task_role : List Str := ["self"]
theorem sc_Task_role : FnScope N_Task_role ["self"] (defScope s_Task_role) := ⟨rfl, rfl, rfl, by decide +kernel, rfl, by decide +kernel, by decide +kernel⟩
abbrev s_Task_many : Stmt := (inner (top 14) 2)
abbrev N_Task_many : List Str := ["self"]
theorem sc_Task_many : FnScope N_Task_many ["self"] (defScope s_Task_many) := ⟨rfl, rfl, rfl, by decide +kernel, rfl, by decide +kernel, by decide +kernel⟩
abbrev s_Task_other : Stmt := (inner (top 14) 3)
abbrev N_Task_other : List Str := ["self"]
theorem sc_Task_other : FnScope N_Task_other ["self"] (defScope s_Task_other) := ⟨rfl, rfl, rfl, by decide +kernel, rfl, by decide +kernel, by decide +kernel⟩
abbrev s_Task_same : Stmt := (inner (top 14) 4)
abbrev N_Task_same : List Str := ["self"]
theorem sc_Task_same : FnScope N_Task_same ["self"] (defScope s_Task_same) := ⟨rfl, rfl, rfl, by decide +kernel, rfl, by decide +kernel, by decide +kernel⟩
abbrev s_Task_takes : Stmt := (inner (top 14) 5)
abbrev N_Task_takes : List Str := ["self"]
theorem sc_Task_takes : FnScope N_Task_takes ["self"] (defScope s_Task_takes) := ⟨rfl, rfl, rfl, by decide +kernel, rfl, by decide +kernel, by decide +kernel⟩
abbrev s_Task_forgets : Stmt := (inner (top 14) 6)
abbrev N_Task_forgets : List Str := ["self"]
theorem sc_Task_forgets : FnScope N_Task_forgets ["self"] (defScope s_Task_forgets) := ⟨rfl, rfl, rfl, by decide +kernel, rfl, by decide +kernel, by decide +kernel⟩
abbrev s_Task_likeness : Stmt := (inner (top 14) 7)
abbrev N_Task_likeness : List Str := ["self", "lists"]
theorem sc_Task_likeness : FnScope N_Task_likeness ["self"] (defScope s_Task_likeness) := ⟨rfl, rfl, rfl, by decide +kernel, rfl, by decide +kernel, by decide +kernel⟩
abbrev s_Task_eq : Stmt := (inner (top 14) 8)
abbrev N_Task_eq : List Str := ["self", "other"]
theorem sc_Task_eq : FnScope N_Task_eq ["self", "other"] (defScope s_Task_eq) := ⟨rfl, rfl, rfl, by decide +kernel, rfl, by decide +kernel, by decide +kernel⟩
abbrev s_law_pen : Stmt := top 16
abbrev N_law_pen : List Str := ["_law_script"]
theorem sc_law_pen : FnScope N_law_pen ["_law_script"] (defScope s_law_pen) := ⟨rfl, rfl, rfl, by decide +kernel, rfl, by decide +kernel, by decide +kernel⟩
abbrev s_law_draw : Stmt := top 17
abbrev N_law_draw : List Str := ["_law_pen_here", "_law_size", "_law_spot", "_law_cell", "_law_mixed", "_law_digit"]
theorem sc_law_draw : FnScope N_law_draw ["_law_pen_here", "_law_size"] (defScope s_law_draw) := ⟨rfl, rfl, rfl, by decide +kernel, rfl, by decide +kernel, by decide +kernel⟩
abbrev s_law_pick : Stmt := top 18
abbrev N_law_pick : List Str := ["_law_pen_here", "_law_items"]
theorem sc_law_pick : FnScope N_law_pick ["_law_pen_here", "_law_items"] (defScope s_law_pick) := ⟨rfl, rfl, rfl, by decide +kernel, rfl, by decide +kernel, by decide +kernel⟩
abbrev s_law_words : Stmt := top 19
abbrev N_law_words : List Str := ["_law_pen_here", "_law_count", "_law_letters", "_law_stem", "_law_found", "_law_k", "_law_at", "_law_front", "_law_step", "_law_tail", "_law_word"]
theorem sc_law_words : FnScope N_law_words ["_law_pen_here", "_law_count"] (defScope s_law_words) := ⟨rfl, rfl, rfl, by decide +kernel, rfl, by decide +kernel, by decide +kernel⟩
abbrev s_law_any_value : Stmt := top 20
abbrev N_law_any_value : List Str := ["_law_pen_here", "_law_some"]
theorem sc_law_any_value : FnScope N_law_any_value ["_law_pen_here"] (defScope s_law_any_value) := ⟨rfl, rfl, rfl, by decide +kernel, rfl, by decide +kernel, by decide +kernel⟩
abbrev s_law_is_word : Stmt := top 21
abbrev N_law_is_word : List Str := ["_law_value", "_law_letters", "_law_sign"]
theorem sc_law_is_word : FnScope N_law_is_word ["_law_value"] (defScope s_law_is_word) := ⟨rfl, rfl, rfl, by decide +kernel, rfl, by decide +kernel, by decide +kernel⟩
abbrev s_law_is_integer : Stmt := top 22
abbrev N_law_is_integer : List Str := ["_law_value"]
theorem sc_law_is_integer : FnScope N_law_is_integer ["_law_value"] (defScope s_law_is_integer) := ⟨rfl, rfl, rfl, by decide +kernel, rfl, by decide +kernel, by decide +kernel⟩
abbrev s_law_are_names : Stmt := top 23
abbrev N_law_are_names : List Str := ["_law_value", "_law_one"]
theorem sc_law_are_names : FnScope N_law_are_names ["_law_value"] (defScope s_law_are_names) := ⟨rfl, rfl, rfl, by decide +kernel, rfl, by decide +kernel, by decide +kernel⟩
abbrev s_law_due : Stmt := top 24
abbrev N_law_due : List Str := ["_law_duty", "_law_size", "_law_lists", "_law_wrong", "_law_k"]
theorem sc_law_due : FnScope N_law_due ["_law_duty", "_law_size", "_law_lists"] (defScope s_law_due) := ⟨rfl, rfl, rfl, by decide +kernel, rfl, by decide +kernel, by decide +kernel⟩
abbrev s_law_told : Stmt := top 25
abbrev N_law_told : List Str := ["_law_duty", "_law_size", "_law_lists", "e"]
theorem sc_law_told : FnScope N_law_told ["_law_duty", "_law_size", "_law_lists"] (defScope s_law_told) := ⟨rfl, rfl, rfl, by decide +kernel, rfl, by decide +kernel, by decide +kernel⟩
abbrev s_law_list : Stmt := top 26
abbrev N_law_list : List Str := ["_law_pen_here", "_law_titles", "_law_some", "_law_way"]
theorem sc_law_list : FnScope N_law_list ["_law_pen_here", "_law_titles"] (defScope s_law_list) := ⟨rfl, rfl, rfl, by decide +kernel, rfl, by decide +kernel, by decide +kernel⟩
abbrev s_law : Stmt := top 27
abbrev N_law : List Str := ["_law_script", "_law_pen_here", "_law_lap", "_law_titles", "_law_duty", "_law_size", "_law_lists", "_law_k"]
theorem sc_law : FnScope N_law ["_law_script"] (defScope s_law) := ⟨rfl, rfl, rfl, by decide +kernel, rfl, by decide +kernel, by decide +kernel⟩
/-! ### the pen -/
def penO (L : Addr) (spot rest : Int) : HO := .dK [(.inr ("cells" : Str), .ref L), (.inr ("spot" : Str), .int spot), (.inr ("rest" : Str), .int rest)]
/-- spot is at most b -/
def Pen (K : PySem.W.Frag) (G : Hp) (b : Nat) (o : HO) : Prop := ∃ (L : Addr) (spot rest : Int) (cells : List Int), o = penO L spot rest ∧ SqL K G L (cells.map V.int) ∧ cells.length ≤ 63 ∧ 0 ≤ spot ∧ spot ≤ b ∧ 0 ≤ rest
theorem Pen.up {K : PySem.W.Frag} {G G1 : Hp} {b : Nat} {o : HO} (s : Same G G1) (p : Pen K G b o) : Pen K G1 b o := by
  obtain ⟨L, sp, r, cs, e, h, x⟩ := p
  exact ⟨L, sp, r, cs, e, upL s h, x⟩
theorem Pen.mono {K : PySem.W.Frag} {G : Hp} {b c : Nat} {o : HO} (h : b ≤ c) (p : Pen K G b o) : Pen K G c o := by
  obtain ⟨L, sp, r, cs, e, h1, h2, h3, h4, h5⟩ := p
  exact ⟨L, sp, r, cs, e, h1, h2, h3, by omega, h5⟩
theorem k_cr : ¬ (Sum.inr ("cells" : Str) : Key) = Sum.inr ("rest" : Str) := by decide +kernel
theorem k_sr : ¬ (Sum.inr ("spot" : Str) : Key) = Sum.inr ("rest" : Str) := by decide +kernel
theorem k_cs : ¬ (Sum.inr ("cells" : Str) : Key) = Sum.inr ("spot" : Str) := by decide +kernel
theorem k_sc : ¬ (Sum.inr ("spot" : Str) : Key) = Sum.inr ("cells" : Str) := by decide +kernel
theorem k_rs : ¬ (Sum.inr ("rest" : Str) : Key) = Sum.inr ("spot" : Str) := by decide +kernel
theorem k_rc : ¬ (Sum.inr ("rest" : Str) : Key) = Sum.inr ("cells" : Str) := by decide +kernel
section
variable {L : Addr} {spot rest x : Int} {H : Hp} {P : Addr} {Q : VK} {G : Hp} {M : List (Addr × HO)} {R : Hp → Prop}
abbrev pk (L : Addr) (spot rest : Int) : List (Key × V) := [(.inr ("cells" : Str), .ref L), (.inr ("spot" : Str), .int spot), (.inr ("rest" : Str), .int rest)]
theorem v_cells : valV (pk L spot rest) (.inr ("cells" : Str)) = some (.ref L) := valV_pos rfl
theorem v_spot : valV (pk L spot rest) (.inr ("spot" : Str)) = some (.int spot) := by rw [valV_neg k_cs]; exact valV_pos rfl
theorem v_rest : valV (pk L spot rest) (.inr ("rest" : Str)) = some (.int rest) := by rw [valV_neg k_cr, valV_neg k_sr]; exact valV_pos rfl
theorem p_spot : putK (pk L spot rest) (.inr ("spot" : Str)) (.int x) = pk L x rest := by
  have e1 : ¬ Str.ofString "cells" = Str.ofString "spot" := by decide +kernel
  have e2 : ¬ Str.ofString "rest" = Str.ofString "spot" := by decide +kernel
  simp [putK, e1, e2]
theorem p_rest : putK (pk L spot rest) (.inr ("rest" : Str)) (.int x) = pk L spot x := by
  have e1 : ¬ Str.ofString "cells" = Str.ofString "rest" := by decide +kernel
  have e2 : ¬ Str.ofString "spot" = Str.ofString "rest" := by decide +kernel
  simp [putK, e1, e2]
def DgW (x y : V) (H : Hp) (Q : VK) : Prop := ∃ a v, x = V.ref a ∧ DGet H a y (some v) ∧ Q v H
def DpW (x y v : V) (H : Hp) (R : Hp → Prop) : Prop := ∃ a H4, x = V.ref a ∧ DPut H a y v H4 ∧ R H4
theorem z_dg {ta tb : TE} {σ : L2.St} (h : ta σ H fun x H1 => tb σ H1 fun y H2 => DgW x y H2 Q) : tDGet ta tb σ H Q := h
theorem g_cells (z : Zp G ((P, penO L spot rest) :: M) H) (q : Q (.ref L) H) : DgW (.ref P) (.str ("cells" : Str)) H Q :=
  ⟨P, _, rfl, by have := DGet.k (k := .inr ("cells" : Str)) (z.at_ 0 rfl); rw [v_cells] at this; exact this, q⟩
theorem g_spot (z : Zp G ((P, penO L spot rest) :: M) H) (q : Q (.int spot) H) : DgW (.ref P) (.str ("spot" : Str)) H Q :=
  ⟨P, _, rfl, by have := DGet.k (k := .inr ("spot" : Str)) (z.at_ 0 rfl); rw [v_spot] at this; exact this, q⟩
theorem g_rest (z : Zp G ((P, penO L spot rest) :: M) H) (q : Q (.int rest) H) : DgW (.ref P) (.str ("rest" : Str)) H Q :=
  ⟨P, _, rfl, by have := DGet.k (k := .inr ("rest" : Str)) (z.at_ 0 rfl); rw [v_rest] at this; exact this, q⟩
theorem s_spot (z : Zp G ((P, penO L spot rest) :: M) H) (q : ∀ H1, Zp G ((P, penO L x rest) :: M) H1 → R H1) : DpW (.ref P) (.str ("spot" : Str)) (.int x) H R :=
  ⟨P, _, rfl, DPut.k (k := .inr ("spot" : Str)) (z.at_ 0 rfl) (by show 3 < sizeLine; decide), by rw [p_spot]; exact q _ (z.put 0 rfl _)⟩
theorem s_rest (z : Zp G ((P, penO L spot rest) :: M) H) (q : ∀ H1, Zp G ((P, penO L spot x) :: M) H1 → R H1) : DpW (.ref P) (.str ("rest" : Str)) (.int x) H R :=
  ⟨P, _, rfl, DPut.k (k := .inr ("rest" : Str)) (z.at_ 0 rfl) (by show 3 < sizeLine; decide), by rw [p_rest]; exact q _ (z.put 0 rfl _)⟩
theorem m_penput {D : Ends} {td ty tv : TE} {σ : L2.St} (h : tv σ H fun v H1 => td σ H1 fun x H2 => ty σ H2 fun y H3 => DpW x y v H3 (D.nx σ)) : sDPut td ty tv D σ H := h
end
end LW
open PySem PySem.Spec PyProof.Rows L2 Ys LW
local macro_rules | `(tactic| walk_at "z") => `(tactic| first
  | with_reducible refine z_seq ?_
  | with_reducible refine z_asg ?_
  | with_reducible refine z_name ?_
  | ((with_reducible apply z_var); (focus rfl))
  | with_reducible refine z_c ?_
  | with_reducible refine z_op ?_
  | with_reducible refine z_cons ?_
  | with_reducible refine z_nil ?_
  | with_reducible refine z_cb ?_
  | with_reducible refine z_call ?_
  | with_reducible refine z_ifS ?_
  | with_reducible refine z_ret ?_
  | with_reducible refine z_test ?_
  | with_reducible refine z_isB ?_
  | with_reducible refine z_tup ?_
  | with_reducible refine z_lst ?_
  | with_reducible refine z_I0 ?_
  | with_reducible refine z_addI ?_
  | with_reducible refine z_int ?_
  | with_reducible refine z_bT ?_
  | with_reducible refine z_bF ?_
  | with_reducible refine z_bN ?_
  | with_reducible refine z_and ?_
  | with_reducible refine z_or ?_
  | with_reducible refine z_not ?_
  | with_reducible refine z_if ?_
  | with_reducible refine z_andV ?_
  | with_reducible refine z_orV ?_
  | with_reducible refine z_notV ?_
  | with_reducible refine z_sl ?_
  | with_reducible refine z_np ?_
  | with_reducible refine z_part ?_
  | with_reducible refine z_isP ?_
  | with_reducible refine z_drop ?_
  | with_reducible refine z_next ?_
  | with_reducible refine z_retN ?_
  | with_reducible refine z_tB ?_
  | with_reducible refine z_bm ?_
  | with_reducible refine z_bm0 ?_
  | with_reducible refine z_m1 ?_
  | with_reducible refine z_isS ?_
  | with_reducible refine z_for ?_
  | with_reducible refine z_lc ?_
  | with_reducible refine z_yes ?_
  | with_reducible refine z_iL ?_
  | with_reducible refine z_iT ?_
  | with_reducible refine z_iS ?_
  | with_reducible refine z_iR ?_
  | with_reducible refine z_gcons ?_
  | with_reducible refine z_gnil ?_
  | with_reducible refine z_pr ?_
  | with_reducible refine z_pr2 ?_
  | with_reducible refine z_un ?_
  | with_reducible refine z_prop ?_
  | with_reducible refine z_mt ?_
  | with_reducible refine z_mk ?_
  | with_reducible refine z_fl ?_
  | with_reducible refine z_fs ?_
  | with_reducible refine z_chain ?_
  | with_reducible refine z_rs ?_
  | with_reducible refine z_mkS ?_
  | with_reducible refine z_gsub ?_
  | with_reducible refine z_iR2 ?_
  | with_reducible refine z_pc ?_
  | with_reducible refine z_pn ?_
  | with_reducible refine z_dg ?_
  | with_reducible refine m_penput ?_
  | with_reducible refine g_rest (by assumption) ?_
  | with_reducible refine g_spot (by assumption) ?_
  | with_reducible refine g_cells (by assumption) ?_
  | with_reducible refine s_spot (by assumption) ?_
  | with_reducible refine s_rest (by assumption) ?_)
local macro_rules | `(tactic| walk_at "y") => `(tactic| first
  | with_reducible refine z_asg ?_
  | with_reducible refine z_name ?_
  | ((with_reducible apply z_var); (focus rfl))
  | with_reducible refine z_c ?_
  | with_reducible refine z_op ?_
  | with_reducible refine z_cons ?_
  | with_reducible refine z_nil ?_
  | with_reducible refine z_cb ?_
  | with_reducible refine z_call ?_
  | with_reducible refine z_ifS ?_
  | with_reducible refine z_ret ?_
  | with_reducible refine z_test ?_
  | with_reducible refine z_isB ?_
  | with_reducible refine z_tup ?_
  | with_reducible refine z_lst ?_
  | with_reducible refine z_I0 ?_
  | with_reducible refine z_addI ?_
  | with_reducible refine z_int ?_
  | with_reducible refine z_bT ?_
  | with_reducible refine z_bF ?_
  | with_reducible refine z_bN ?_
  | with_reducible refine z_and ?_
  | with_reducible refine z_or ?_
  | with_reducible refine z_not ?_
  | with_reducible refine z_if ?_
  | with_reducible refine z_andV ?_
  | with_reducible refine z_orV ?_
  | with_reducible refine z_notV ?_
  | with_reducible refine z_sl ?_
  | with_reducible refine z_np ?_
  | with_reducible refine z_part ?_
  | with_reducible refine z_isP ?_
  | with_reducible refine z_drop ?_
  | with_reducible refine z_next ?_
  | with_reducible refine z_retN ?_
  | with_reducible refine z_tB ?_
  | with_reducible refine z_bm ?_
  | with_reducible refine z_bm0 ?_
  | with_reducible refine z_m1 ?_
  | with_reducible refine z_isS ?_
  | with_reducible refine z_for ?_
  | with_reducible refine z_lc ?_
  | with_reducible refine z_yes ?_
  | with_reducible refine z_iL ?_
  | with_reducible refine z_iT ?_
  | with_reducible refine z_iS ?_
  | with_reducible refine z_iR ?_
  | with_reducible refine z_gcons ?_
  | with_reducible refine z_gnil ?_
  | with_reducible refine z_pr ?_
  | with_reducible refine z_pr2 ?_
  | with_reducible refine z_un ?_
  | with_reducible refine z_prop ?_
  | with_reducible refine z_mt ?_
  | with_reducible refine z_mk ?_
  | with_reducible refine z_fl ?_
  | with_reducible refine z_fs ?_
  | with_reducible refine z_chain ?_
  | with_reducible refine z_rs ?_
  | with_reducible refine z_mkS ?_
  | with_reducible refine z_gsub ?_
  | with_reducible refine z_iR2 ?_
  | with_reducible refine z_pc ?_
  | with_reducible refine z_pn ?_
  | with_reducible refine z_dg ?_
  | with_reducible refine m_penput ?_
  | with_reducible refine g_rest (by assumption) ?_
  | with_reducible refine g_spot (by assumption) ?_
  | with_reducible refine g_cells (by assumption) ?_
  | with_reducible refine s_spot (by assumption) ?_
  | with_reducible refine s_rest (by assumption) ?_)
namespace LW
open PySem PySem.Spec PyProof.Rows L2 Ys

theorem can_ints : ∀ cells : List Int, PyData.canLayAll0 (cells.map PyData.int) = true
  | [] => rfl
  | c :: cs => by
    show (PyData.canLay0 (.int c) && PyData.canLayAll0 (cs.map PyData.int)) = true
    rw [can_ints cs]
    rfl
theorem dep_ints : ∀ cells : List Int, PyData.depthAll (cells.map PyData.int) ≤ 1
  | [] => by decide
  | c :: cs => by
    show max (PyData.depth (.int c)) (PyData.depthAll (cs.map PyData.int)) ≤ 1
    have := dep_ints cs
    have e : PyData.depth (.int c) = 0 := rfl
    omega
theorem sh_ints (cells : List Int) : SeqAt.shaped (.list (cells.map PyData.int)) = true := by
  unfold SeqAt.shaped
  have e : PyData.canLay0 (.list (cells.map PyData.int)) = true := can_ints cells
  have d : PyData.depth (.list (cells.map PyData.int)) = PyData.depthAll (cells.map PyData.int) + 1 := rfl
  rw [e, d]
  have := dep_ints cells
  simp
  omega
theorem cells_eq (cells : List Int) : PyData.eqv (.list (cells.map PyData.int)) (.list []) = decide (cells = []) := by
  cases cells with
  | nil => rfl
  | cons c cs => rfl
section
variable {P : Program} {w : World} {K : PySem.W.Frag} {mg : Str → Option Value} {base : Heap} {f : Addr} {fd : FuncData}
def spDraw (K : PySem.W.Frag) : Sp := fun vs H Q _ => ∃ p o G M b n, vs = [.ref p, .int n] ∧ Zp G ((p, o) :: M) H ∧ Pen K G b o ∧ b ≤ 1000000000000 ∧ 0 < n ∧ n ≤ 1000000000 ∧
  ∀ r G1 H1 o1, Zp G1 ((p, o1) :: M) H1 → Same G G1 → Pen K G1 (b + 1) o1 → 0 ≤ r → r < n → Q (.int r) H1
theorem ok_draw (T : Nm K mg) (F : FnP K "_law_draw" s_law_draw f fd) : FnOk P w K mg base CX0 1 f fd ["_law_pen_here", "_law_size"] (spDraw K) := by
  have nd : N_law_draw.Nodup := sc_law_draw.nd
  refine F.ok sc_law_draw (fun vs H Q E h => ?_) (fun cdv A outer s H vs Q E hr h => ?_)
  · obtain ⟨p, o, G, M, b, n, rfl, _⟩ := h
    rfl
  have hu := hr.units
  refine ⟨_, PSs.nox   (pss_cons (ps_if (pt_cmpR o_ge (pe_dget (hu_of hr) (pv 0) pe_str (fun _ _ => rfl)) (pv 1) (nomark _)) (pss_cons (ps_asg (pe_op o_mod (pe_callTy c_int (by rfl) T.b_int boot_int (pa_cons (pe_dget (hu_of hr) (pv 0) pe_str (fun _ _ => rfl)) pa_nil)) (pv 1)) (pg_name (i := 5) nd rfl (by first | exact .inl rfl | exact .inr rfl)))
    (pss_cons (ps_dput (hu_of hr) (pv 0) pe_str (pe_op o_div (pe_dget (hu_of hr) (pv 0) pe_str (fun _ _ => rfl)) (pv 1)) rfl)
    (pss_one (ps_ret (pv 5))))) pss_nil)
    (pss_cons (ps_asg (pe_dget (hu_of hr) (pv 0) pe_str (fun _ _ => rfl)) (pg_name (i := 2) nd rfl (by first | exact .inl rfl | exact .inr rfl)))
    (pss_cons (ps_dput (hu_of hr) (pv 0) pe_str (pe_op op_addG (pv 2) pe_int) rfl)
    (pss_cons (ps_asg (pe_op op_addG (pe_op o_mul pe_int (pv 2)) pe_int) (pg_name (i := 3) nd rfl (by first | exact .inl rfl | exact .inr rfl)))
    (pss_cons (ps_if (pt_cmpR (op_neG hu) (pe_dget (hu_of hr) (pv 0) pe_str (fun _ _ => rfl)) (pe_lst pa_nil) (nomark _)) (pss_one (ps_asg (pe_ix ix_seq (pe_dget (hu_of hr) (pv 0) pe_str (fun _ _ => rfl)) (pe_op o_mod (pe_callTy c_int (by rfl) T.b_int boot_int (pa_cons (pv 2) pa_nil)) (pe_callB c_len (by rfl) T.b_len PySem.boot_len (pa_cons (pe_dget (hu_of hr) (pv 0) pe_str (fun _ _ => rfl)) pa_nil))) (fun _ _ => rfl)) (pg_name (i := 3) nd rfl (by first | exact .inl rfl | exact .inr rfl)))) pss_nil)
    (pss_cons (ps_if (PW.pt (pw_and (pt_cmpR o_lt (pv 2) (pe_callB c_len (by rfl) T.b_len PySem.boot_len (pa_cons (pe_dget (hu_of hr) (pv 0) pe_str (fun _ _ => rfl)) pa_nil)) (nomark _)) (pw_and1 (pt_cmpR o_ge (pv 3) (pe_op o_pow pe_int pe_int) (nomark _))))) (pss_cons (ps_dput (hu_of hr) (pv 0) pe_str (pe_op o_div (pe_op o_sub (pv 3) (pe_op o_pow pe_int pe_int)) (pv 1)) rfl)
    (pss_one (ps_ret (pe_op o_mod (pe_callTy c_int (by rfl) T.b_int boot_int (pa_cons (pe_op o_sub (pv 3) (pe_op o_pow pe_int pe_int)) pa_nil)) (pv 1))))) pss_nil)
    (pss_cons (ps_asg (pe_op o_mul (pe_op o_mod (pe_callTy c_int (by rfl) T.b_int boot_int (pa_cons (pv 3) pa_nil)) pe_int) pe_int) (pg_name (i := 4) nd rfl (by first | exact .inl rfl | exact .inr rfl)))
    (pss_cons (ps_asg (pe_op o_mod (pe_callTy c_int (by rfl) T.b_int boot_int (pa_cons (pe_op op_addG (pe_op op_addG (pe_op op_addG (pv 4) (pe_op o_mul (pe_op o_mul pe_int (pv 2)) (pv 2))) (pe_op o_mul pe_int (pv 2))) pe_int) pa_nil)) pe_int) (pg_name (i := 4) nd rfl (by first | exact .inl rfl | exact .inr rfl)))
    (pss_cons (ps_asg (pe_op o_mod (pe_callTy c_int (by rfl) T.b_int boot_int (pa_cons (pe_op o_mul (pv 4) (pe_op op_addG (pv 4) pe_int)) pa_nil)) pe_int) (pg_name (i := 4) nd rfl (by first | exact .inl rfl | exact .inr rfl)))
    (pss_one (ps_ret (pe_op o_mod (pe_callTy c_int (by rfl) T.b_int boot_int (pa_cons (pe_op o_div (pe_op o_mod (pe_callTy c_int (by rfl) T.b_int boot_int (pa_cons (pe_op op_addG (pe_op o_mul (pv 4) (pv 4)) (pe_op o_mul pe_int (pv 4))) pa_nil)) pe_int) pe_int) pa_nil)) (pv 1))))))))))))), ?_⟩
  obtain ⟨p, o, G, M, b, n, rfl, z, ⟨L, spot, rest, cells, rfl, hL, hc, h0, hb, hr0⟩, hb2, n0, n1, q⟩ := h
  repeat (walk_at "z")
  refine z_bd (fun hrn => ?_) (fun hrn => ?_)
  · repeat (walk_at "z")
    refine z_I n0 ?_
    repeat (walk_at "z")
    refine z_I (dw n0 n1) ?_
    repeat (walk_at "z")
    intro H1 z1
    repeat (walk_at "z")
    refine q _ G H1 _ z1 (Same.refl G) ⟨L, spot, rest / n, cells, rfl, hL, hc, h0, by omega, Int.ediv_nonneg hr0 (by omega)⟩ (Int.emod_nonneg _ (by omega)) (Int.emod_lt_of_pos _ n0)
  · repeat (walk_at "z")
    intro H1 z1
    repeat (walk_at "z")
    refine z_I (mw (by omega) (by omega) (by omega) (by omega)) ?_
    repeat (walk_at "y")
    with_reducible refine z_cut (fun σ H => ∃ cell G3, Zp G3 ((p, penO L (spot + 1) rest) :: M) H ∧ Same G G3 ∧ σ = [some (.ref p), some (.int n), some (.int spot), some (.int cell), none, none]) (fun nx hnx => ?_) (fun σ H2 h2 => ?_)
    · repeat (walk_at "z")
      refine z_newL z1 (by decide) fun p2 G2 H2 z2 s2 e2 => ?_
      have hL2 := upL s2 hL
      refine z_neD (d := .list (cells.map PyData.int)) (e := .list []) z2 (.lst hL2 (dts_int cells)) (.lst (SqL.of e2) .nil) (sh_ints _) rfl ?_
      repeat (walk_at "z")
      rw [cells_eq]
      refine z_bd (fun c => ?_) (fun c => ?_)
      · refine z_next (hnx _ _ ⟨_, _, z2, s2, rfl⟩)
      · have c0 : 0 < cells.length := by cases cells with | nil => exact absurd rfl c | cons _ _ => exact Nat.succ_pos _
        repeat (walk_at "z")
        refine z_lenL z2 hL2 ?_
        rw [List.length_map]
        refine z_I (by omega) ?_
        have hm := Int.emod_lt_of_pos spot (show (0 : Int) < cells.length by omega)
        have hm0 := Int.emod_nonneg spot (show (cells.length : Int) ≠ 0 by omega)
        obtain ⟨k, hk⟩ := Int.eq_ofNat_of_zero_le hm0
        refine z_ixL z2 hL2 (v := .int (cells.getD k 0)) ?_ ?_
        · rw [hk]
          refine atI_nat ?_
          have : k < cells.length := by omega
          simp [List.getD, this]
        repeat (walk_at "z")
        exact hnx _ _ ⟨_, _, z2, s2, rfl⟩
    obtain ⟨cell, G3, z3, s3, rfl⟩ := h2
    have hL3 := upL s3 hL
    have e18 : (10 : Int) ^ (18 : Int).toNat = 1000000000000000000 := by decide +kernel
    with_reducible refine z_cut (fun σ H => H = H2 ∧ σ = [some (.ref p), some (.int n), some (.int spot), some (.int cell), none, none]) (fun nx hnx => ?_) (fun σ H3 h3 => ?_)
    · repeat (walk_at "z")
      refine z_lenL z3 hL3 ?_
      repeat (walk_at "z")
      refine z_b2 (fun c1 => ?_) (fun c1 => ?_)
      · repeat (walk_at "z")
        refine z_I ⟨by decide, by decide, by decide⟩ ?_
        repeat (walk_at "z")
        rw [e18]
        refine z_bd (fun c2 => ?_) (fun c2 => ?_)
        · repeat (walk_at "z")
          refine z_I ⟨by decide, by decide, by decide⟩ ?_
          repeat (walk_at "z")
          rw [e18]
          refine z_I (dw n0 n1) ?_
          repeat (walk_at "z")
          intro H4 z4
          repeat (walk_at "z")
          refine z_I ⟨by decide, by decide, by decide⟩ ?_
          repeat (walk_at "z")
          refine z_I n0 ?_
          exact q _ G3 H4 _ z4 s3 ⟨L, spot + 1, _, cells, rfl, hL3, hc, by omega, by omega, Int.ediv_nonneg (by omega) (by omega)⟩ (Int.emod_nonneg _ (by omega)) (Int.emod_lt_of_pos _ n0)
        · exact hnx _ _ ⟨rfl, rfl⟩
      · repeat (walk_at "z")
        exact hnx _ _ ⟨rfl, rfl⟩
    obtain ⟨rfl, rfl⟩ := h3
    repeat (walk_at "z")
    refine z_I (by decide) ?_
    repeat (walk_at "z")
    refine z_I (mw (by omega) (by omega) (by omega) (by omega)) ?_
    repeat (walk_at "z")
    have h1 := Int.emod_nonneg cell (show (2147483353 : Int) ≠ 0 by decide)
    have h2 := Int.emod_lt_of_pos cell (show (0 : Int) < 2147483353 by decide)
    refine z_I (mw (by omega) (by omega) (by omega) (by omega)) ?_
    repeat (walk_at "z")
    refine z_I (wide_mul (a := 64) (b := 64) (by omega) (by omega) (by decide) (by decide) (by decide)) ?_
    repeat (walk_at "z")
    refine z_I (mw (by omega) (by omega) (by omega) (by omega)) ?_
    repeat (walk_at "z")
    refine z_I (by decide) ?_
    repeat (walk_at "z")
    generalize hm1 : (cell % 2147483353 * 40127 + 52433 * spot * spot + 101 * spot + 31) % 2147483399 = m1
    have a1 : 0 ≤ m1 := by rw [← hm1]; exact Int.emod_nonneg _ (by decide)
    have a2 : m1 < 2147483399 := by rw [← hm1]; exact Int.emod_lt_of_pos _ (by decide)
    refine z_I (mw (by omega) (by omega) (by omega) (by omega)) ?_
    repeat (walk_at "z")
    refine z_I (by decide) ?_
    repeat (walk_at "z")
    generalize hm2 : m1 * (m1 + 70009) % 2147483423 = m2
    have b1 : 0 ≤ m2 := by rw [← hm2]; exact Int.emod_nonneg _ (by decide)
    have b2 : m2 < 2147483423 := by rw [← hm2]; exact Int.emod_lt_of_pos _ (by decide)
    refine z_I (mw (by omega) (by omega) (by omega) (by omega)) ?_
    repeat (walk_at "z")
    refine z_I (mw (by omega) (by omega) (by omega) (by omega)) ?_
    repeat (walk_at "z")
    refine z_I (by decide) ?_
    repeat (walk_at "z")
    refine z_I (dw (by decide) (by decide)) ?_
    repeat (walk_at "z")
    refine z_I n0 ?_
    exact q _ G3 _ _ z3 s3 ⟨L, spot + 1, _, cells, rfl, hL3, hc, by omega, by omega, hr0⟩ (Int.emod_nonneg _ (by omega)) (Int.emod_lt_of_pos _ n0)
end
end LW
namespace LW
open PySem PySem.Spec PyProof.Rows L2 Ys

section
variable {P : Program} {w : World} {K : PySem.W.Frag} {mg : Str → Option Value} {base : Heap} {f : Addr} {fd : FuncData}
def spPen (K : PySem.W.Frag) : Sp := fun vs H Q _ => ∃ (a : Addr) (G : Hp) (ns : List Int), vs = [.ref a] ∧ Zp G [] H ∧ SqL K G a (ns.map V.int) ∧
  ∀ p G1 H1 o1, Zp G1 [(p, o1)] H1 → Same G G1 → Pen K G1 0 o1 → Q (.ref p) H1
theorem ok_pen (T : Nm K mg) (F : FnP K "_law_pen" s_law_pen f fd) : FnOk P w K mg base CX0 1 f fd ["_law_script"] (spPen K) := by
  have nd : N_law_pen.Nodup := sc_law_pen.nd
  refine F.ok sc_law_pen (fun vs H Q E h => ?_) (fun cdv A outer s H vs Q E hr h => ?_)
  · obtain ⟨a, G, ns, rfl, _⟩ := h
    rfl
  have hu := hr.units
  refine ⟨_, PSs.nox   (pss_one (ps_ret (pe_disp (pps_cons pe_str (pe_callTy (kc_list (K := K)) (by rfl) T.b_list boot_list (pa_cons (pe_slice (k_sl (K := K)) (pv 0) po_none (po_some pe_int)) pa_nil)) (pps_cons pe_str pe_int (pps_cons pe_str pe_int pps_nil))) (by rfl) (by rfl) (fun z => by cases z) (by decide)))), ?_⟩
  obtain ⟨a, G, ns, rfl, z, hS, q⟩ := h
  repeat (walk_at "z")
  refine z_disp z fun p H1 z1 => ?_
  repeat (walk_at "z")
  refine z_slL z1 hS fun a2 G2 H2 z2 s2 e2 => ?_
  rw [cut_map] at e2
  repeat (walk_at "z")
  refine z_listG z2 (.inl (SqL.of e2)) fun a3 G3 H3 z3 s3 e3 => ?_
  repeat (walk_at "z")
  refine z_dispE (M := []) z3 [(.inr ("cells" : Str), .ref a3), (.inr ("spot" : Str), .int 0), (.inr ("rest" : Str), .int 0)] rfl (by show 3 ≤ 15; decide) fun H4 z4 => ?_
  refine q p G3 H4 _ z4 (s2.trans s3) ⟨a3, 0, 0, _, ?_, SqL.of e3, ?_, by decide, by decide, by decide⟩
  · have e1 : ¬ Str.ofString "cells" = Str.ofString "rest" := by decide +kernel
    have e2 : ¬ Str.ofString "spot" = Str.ofString "rest" := by decide +kernel
    have e3 : ¬ Str.ofString "cells" = Str.ofString "spot" := by decide +kernel
    simp [mergeK, putK, e1, e2, e3, penO]
  · rw [List.length_take]
    have : HT.sIx ns.length ns.length (some 63) = min 63 ns.length := HT.sIx_nat ns.length ns.length 63
    rw [this]
    omega
def spPick (K : PySem.W.Frag) : Sp := fun vs H Q _ => ∃ p o G M b x, vs = [.ref p, x] ∧ Zp G ((p, o) :: M) H ∧ Pen K G b o ∧ b ≤ 1000000000000 ∧
  ((∃ a xs, x = .ref a ∧ (SqL K G a xs ∨ SqT K G a xs) ∧ xs ≠ [] ∧ xs.length ≤ 100000 ∧ ∀ v G1 H1 o1, v ∈ xs → Zp G1 ((p, o1) :: M) H1 → Same G G1 → Pen K G1 (b + 1) o1 → Q v H1) ∨
   (∃ s : Str, x = .str s ∧ 0 < s.length ∧ s.length ≤ 100000 ∧ ∀ ch G1 H1 o1, ch ∈ s.cps.toList → Zp G1 ((p, o1) :: M) H1 → Same G G1 → Pen K G1 (b + 1) o1 → Q (.str ⟨#[ch]⟩) H1))
theorem ok_pick (T : Nm K mg) (C_law_draw : Own P w K mg base CX0 1 "_law_draw" ["_law_pen_here", "_law_size"] (spDraw K)) (F : FnP K "_law_pick" s_law_pick f fd) : FnOk P w K mg base CX0 2 f fd ["_law_pen_here", "_law_items"] (spPick K) := by
  have nd : N_law_pick.Nodup := sc_law_pick.nd
  refine F.ok sc_law_pick (fun vs H Q E h => ?_) (fun cdv A outer s H vs Q E hr h => ?_)
  · obtain ⟨p, o, G, M, b, x, rfl, _⟩ := h
    rfl
  have hu := hr.units
  refine ⟨_, PSs.nox   (pss_one (ps_ret (pe_ix (k_ix (K := K)) (pv 1) (pe_own C_law_draw (hr.mono (by decide)) (by rfl) pass0 (pa_cons (pv 0) (pa_cons (pe_callB (kc_len (K := K) (P := P) (w := w)) (by rfl) T.b_len PySem.boot_len (pa_cons (pv 1) pa_nil)) pa_nil))) (fun _ _ => rfl)))), ?_⟩
  obtain ⟨p, o, G, M, b, x, rfl, z, hp, hb, h⟩ := h
  repeat (walk_at "z")
  rcases h with ⟨a, xs, rfl, hS, h0, h1, q⟩ | ⟨t, rfl, h0, h1, q⟩
  · have h00 : 0 < xs.length := by cases xs with | nil => exact absurd rfl h0 | cons _ _ => exact Nat.succ_pos _
    rcases hS with hS | hS
    · refine z_lenL z hS ?_
      repeat (walk_at "z")
      refine ⟨p, o, G, M, b, _, rfl, z, hp, hb, by omega, by omega, fun r G1 H1 o1 z1 s1 hp1 r0 r1 => ?_⟩
      obtain ⟨v, hv, e⟩ := at_in r0 r1
      exact z_ixL z1 (upL s1 hS) e (q v G1 H1 o1 hv z1 s1 hp1)
    · refine z_lenT z hS ?_
      repeat (walk_at "z")
      refine ⟨p, o, G, M, b, _, rfl, z, hp, hb, by omega, by omega, fun r G1 H1 o1 z1 s1 hp1 r0 r1 => ?_⟩
      obtain ⟨v, hv, e⟩ := at_in r0 r1
      exact z_ixT z1 (upT s1 hS) e (q v G1 H1 o1 hv z1 s1 hp1)
  · refine z_lenS h1 ?_
    repeat (walk_at "z")
    refine ⟨p, o, G, M, b, _, rfl, z, hp, hb, by omega, by omega, fun r G1 H1 o1 z1 s1 hp1 r0 r1 => ?_⟩
    obtain ⟨v, hv, e⟩ := at_in (xs := t.cps.toList) r0 (by rw [Array.length_toList]; exact r1)
    exact z_ixS h1 e (q v G1 H1 o1 hv z1 s1 hp1)
end
end LW
namespace LW
open PySem PySem.Spec PyProof.Rows L2 Ys

section
variable {P : Program} {w : World} {K : PySem.W.Frag} {mg : Str → Option Value} {base : Heap} {f : Addr} {fd : FuncData}
abbrev OwnD (P : Program) (w : World) (K : PySem.W.Frag) (mg : Str → Option Value) (base : Heap) : Prop := Own P w K mg base CX0 1 "_law_draw" ["_law_pen_here", "_law_size"] (spDraw K)
abbrev OwnP (P : Program) (w : World) (K : PySem.W.Frag) (mg : Str → Option Value) (base : Heap) : Prop := Own P w K mg base CX0 2 "_law_pick" ["_law_pen_here", "_law_items"] (spPick K)
def spWords (K : PySem.W.Frag) : Sp := fun vs H Q _ => ∃ p o G M b, ∃ n : Nat, vs = [.ref p, .int n] ∧ Zp G ((p, o) :: M) H ∧ Pen K G b o ∧ b ≤ 100000000000 ∧ n ≤ 20 ∧
  ∀ l G1 H1 o1, ∀ ss : List Str, Zp G1 ((p, o1) :: M) H1 → Same G G1 → Pen K G1 (b + 10) o1 → G1 l = some (.lst (ss.map V.str)) → ss.length = n → (∀ s ∈ ss, Wd s) → Q (.ref l) H1
theorem ok_words (T : Nm K mg) (C_law_draw : OwnD P w K mg base) (C_law_pick : OwnP P w K mg base) (F : FnP K "_law_words" s_law_words f fd) : FnOk P w K mg base CX0 3 f fd ["_law_pen_here", "_law_count"] (spWords K) := by
  have nd : N_law_words.Nodup := sc_law_words.nd
  refine F.ok sc_law_words (fun vs H Q E h => ?_) (fun cdv A outer s H vs Q E hr h => ?_)
  · obtain ⟨p, o, G, M, b, n, rfl, _⟩ := h
    rfl
  have hu := hr.units
  refine ⟨_, PSs.nox   (pss_cons (ps_asg pe_str (pg_name (i := 2) nd rfl (by first | exact .inl rfl | exact .inr rfl)))
    (pss_cons (ps_asg (pe_joinG pe_str (pe_lc (own := [("_law_k", 5)]) (tt := tYes) rfl nd (pi_range1 (by rfl) (T.b_range) (pa_cons (pe_own C_law_draw (hr.mono (by decide)) (by rfl) pass0 (pa_cons (pv 0) (pa_cons pe_int pa_nil))) pa_nil)) (blkOk_by (N := N_law_words) (sc := defScope s_law_words) (by decide +kernel)) (fun _ _ _ _ _ => (pg_name (i := 5) nd rfl (by first | exact .inl rfl | exact .inr rfl))) (fun _ _ _ _ _ => pts_nil) (fun _ _ _ _ _ => (pe_own C_law_pick (hr.mono (by decide)) (by rfl) pass0 (pa_cons (pv 0) (pa_cons (pv 2) pa_nil)))))) (pg_name (i := 3) nd rfl (by first | exact .inl rfl | exact .inr rfl)))
    (pss_cons (ps_par (i := 6) (j := 7) (by rfl) nd rfl rfl (by decide) rfl rfl (pa_cons (pe_own C_law_draw (hr.mono (by decide)) (by rfl) pass0 (pa_cons (pv 0) (pa_cons (pe_op (k_add (K := K)) (pe_callB (kc_len (K := K) (P := P) (w := w)) (by rfl) T.b_len PySem.boot_len (pa_cons (pv 3) pa_nil)) pe_int) pa_nil))) (pa_cons (pe_own C_law_draw (hr.mono (by decide)) (by rfl) pass0 (pa_cons (pv 0) (pa_cons pe_int pa_nil))) pa_nil)) (by rfl))
    (pss_cons (ps_par (i := 8) (j := 9) (by rfl) nd rfl rfl (by decide) rfl rfl (pa_cons (pe_own C_law_pick (hr.mono (by decide)) (by rfl) pass0 (pa_cons (pv 0) (pa_cons (pe_lst (pa_cons pe_int (pa_cons pe_int (pa_cons pe_int (pa_cons pe_int (pa_cons pe_int (pa_cons pe_int (pa_cons pe_int (pa_cons pe_int pa_nil))))))))) pa_nil))) (pa_cons (pe_own C_law_pick (hr.mono (by decide)) (by rfl) pass0 (pa_cons (pv 0) (pa_cons (pe_lst (pa_cons pe_str (pa_cons pe_str (pa_cons pe_str (pa_cons pe_str pa_nil))))) pa_nil))) pa_nil)) (by rfl))
    (pss_cons (ps_asg (pe_lst pa_nil) (pg_name (i := 4) nd rfl (by first | exact .inl rfl | exact .inr rfl)))
    (pss_cons (ps_for PassesOwn.never rfl (pi_range1 (by rfl) (T.b_range) (pa_cons (pv 1) pa_nil)) (pg_name (i := 5) nd rfl (by first | exact .inl rfl | exact .inr rfl)) (pss_cons (ps_asg (pe_op (k_add (K := K)) (pe_op (k_add (K := K)) (pe_slice (k_sl (K := K)) (pv 3) po_none (po_some (pv 6))) (pe_ix (k_ix (K := K)) (pv 2) (pe_op o_mod (pe_callTy c_int (by rfl) T.b_int boot_int (pa_cons (pe_op (k_add (K := K)) (pv 7) (pe_op o_mul (pv 8) (pv 5))) pa_nil)) pe_int) (fun _ _ => rfl))) (pe_slice (k_sl (K := K)) (pv 3) (po_some (pv 6)) po_none)) (pg_name (i := 10) nd rfl (by first | exact .inl rfl | exact .inr rfl)))
    (pss_one (ps_expr (pe_bm PySem.F.plainAttrs_list PySem.F.slot_list_append PySem.F.type_list_append mt_append (pv 4) (pa_cons (pe_ifExp (pt_cmpR (k_eq (K := K) hu) (pe_op o_mod (pe_callTy c_int (by rfl) T.b_int boot_int (pa_cons (pv 5) pa_nil)) pe_int) pe_int (nomark _)) (pe_op (k_add (K := K)) (pv 10) (pv 9)) (pv 10)) pa_nil))))))
    (pss_one (ps_ret (pv 4))))))))), ?_⟩
  obtain ⟨p, o, G, M, b, n, rfl, z, hp, hb, hn, q⟩ := h
  repeat (walk_at "z")
  refine ⟨p, o, G, M, b, _, rfl, z, hp, by omega, by decide, by decide, fun c1 G1 H1 o1 z1 s1 hp1 c0 c6 => ?_⟩
  repeat (walk_at "z")
  refine z_itR (by omega) (by omega) ?_
  refine lc_src src_R (fun i G' M' acc => ∃ o', ∃ ss : List Str, M' = (p, o') :: M ∧ Same G G' ∧ Pen K G' (b + 1 + i) o' ∧ acc = ss.map V.str ∧ ss.length = i ∧ ∀ t ∈ ss, Lt t ∧ t.length = 1) z1 ⟨o1, [], rfl, s1, hp1, rfl, rfl, by simp⟩ (fun _ _ _ _ _ _ _ _ => trivial) ?_ ?_
  · rintro i x G2 M2 acc Dl H2 hx ⟨o2, ss, rfl, s2, hp2, rfl, rfl, hss⟩ z2
    have hi : ss.length < 6 := by
      have := (List.getElem?_eq_some_iff.mp hx).1
      rw [rngV_len] at this
      omega
    repeat (walk_at "z")
    refine ⟨by rfl, ?_⟩
    repeat (walk_at "z")
    refine ⟨p, o2, G2, _, _, _, rfl, z2, hp2, by omega, .inr ⟨_, rfl, by rw [abc_len]; decide, by rw [abc_len]; decide, fun ch G3 H3 o3 hch z3 s3 hp3 => ?_⟩⟩
    refine z_laid (M := (p, o3) :: M) z3 (by rw [List.length_map]; omega) ⟨o3, ss ++ [⟨#[ch]⟩], rfl, s2.trans s3, hp3, by simp, by simp, fun t ht => ?_⟩
    rcases List.mem_append.mp ht with ht | ht
    · exact hss t ht
    · obtain rfl : t = ⟨#[ch]⟩ := by simpa using ht
      exact ⟨Lt.one (abc_mem hch), rfl⟩
  · rintro p2 G2 M2 acc G3 H3 ⟨o2, ss, rfl, s2, hp2, rfl, hlen, hss⟩ s3 z3 e3
    rw [rngV_len] at hlen hp2
    have hl6 : ss.length ≤ 5 := by omega
    have hsum : (Txt.join "" ss).length = ss.length := PySem.W.KT.join_ones ss fun t ht => (hss t ht).2
    have hsm : ∀ l : List Str, (∀ t ∈ l, t.length = 1) → (l.map (·.length)).sum = l.length := by
      intro l
      induction l with
      | nil => intro _; rfl
      | cons a r ih =>
        intro h
        rw [List.map_cons, List.sum_cons, ih fun t ht => h t (List.mem_cons_of_mem _ ht), h a (List.mem_cons_self ..), List.length_cons]
        omega
    refine z_join z3 (SqL.of e3) ?_ ?_
    · rw [hsm ss fun t ht => (hss t ht).2]
      have : ("" : Str).length = 0 := by decide
      rw [this]
      omega
    have hstem : Lt (Txt.join "" ss) := Lt.join fun t ht => (hss t ht).1
    generalize Txt.join "" ss = stem at hstem hsum ⊢
    have hp2 := hp2.mono (c := b + 6) (by omega)
    rw [← hsum] at hlen hl6
    repeat (walk_at "z")
    refine z_lenS (by omega) ?_
    repeat (walk_at "z")
    refine ⟨p, o2, G3, _, _, _, rfl, z3, hp2.up s3, by omega, by omega, by omega, fun at_ G4 H4 o4 z4 s4 hp4 a0 a1 => ?_⟩
    repeat (walk_at "z")
    refine ⟨p, o4, G4, _, _, _, rfl, z4, hp4, by omega, by omega, by omega, fun fr G5 H5 o5 z5 s5 hp5 f0 f1 => ?_⟩
    repeat (walk_at "z")
    refine z_newL z5 (by simp) fun q6 G6 H6 z6 s6 e6 => ?_
    repeat (walk_at "z")
    refine ⟨p, o5, G6, _, _, _, rfl, z6, hp5.up s6, by omega, .inl ⟨q6, _, rfl, .inl (SqL.of e6), by simp, by simp, fun v G7 H7 o7 hv z7 s7 hp7 => ?_⟩⟩
    obtain ⟨st, rfl, st0, st1⟩ : ∃ i, v = V.int i ∧ 0 < i ∧ i < 20 := by
      simp at hv
      rcases hv with rfl | rfl | rfl | rfl | rfl | rfl | rfl | rfl <;> exact ⟨_, rfl, by decide, by decide⟩
    repeat (walk_at "z")
    refine z_newL z7 (by simp) fun q8 G8 H8 z8 s8 e8 => ?_
    repeat (walk_at "z")
    refine ⟨p, o7, G8, _, _, _, rfl, z8, hp7.up s8, by omega, .inl ⟨q8, _, rfl, .inl (SqL.of e8), by simp, by simp, fun v G9 H9 o9 hv z9 s9 hp9 => ?_⟩⟩
    obtain ⟨tail, rfl, tl0, tl1⟩ : ∃ t : Str, v = V.str t ∧ t.length ≤ 2 ∧ Lt t := by
      have k0 : ("" : Str).length ≤ 2 ∧ ∀ c ∈ ("" : Str).cps.toList, 97 ≤ c ∧ c ≤ 122 := by decide +kernel
      have k1 : ("w" : Str).length ≤ 2 ∧ ∀ c ∈ ("w" : Str).cps.toList, 97 ≤ c ∧ c ≤ 122 := by decide +kernel
      have k2 : ("ww" : Str).length ≤ 2 ∧ ∀ c ∈ ("ww" : Str).cps.toList, 97 ≤ c ∧ c ≤ 122 := by decide +kernel
      rcases List.mem_cons.mp hv with rfl | hv
      · exact ⟨_, rfl, k0⟩
      rcases List.mem_cons.mp hv with rfl | hv
      · exact ⟨_, rfl, k0⟩
      rcases List.mem_cons.mp hv with rfl | hv
      · exact ⟨_, rfl, k1⟩
      rcases List.mem_cons.mp hv with rfl | hv
      · exact ⟨_, rfl, k2⟩
      · cases hv
    have hpz := hp9.mono (c := b + 10) (by omega)
    have sz : Same G G9 := (s2.trans s3).trans ((s4.trans s5).trans ((s6.trans s7).trans (s8.trans s9)))
    clear hp9 hp7 hp5 hp4 hp2 hp1 hp z8 z7 z6 z5 z4 z3 z1 z e3 e6 e8 s9 s8 s7 s6 s5 s4 s3 s2 s1
    repeat (walk_at "z")
    refine z_ownP z9 (by simp) fun fa H10 z10 => ?_
    repeat (walk_at "z")
    refine z_itR (by omega) (by omega) ?_
    refine for_src src_R (fun i σ G' M' => ∃ fs : List Str, ∃ k5 k10 : Option V, M' = (p, o9) :: (fa, .lst (fs.map V.str)) :: M ∧ G' = G9 ∧ fs.length = i ∧ (∀ t ∈ fs, Wd t) ∧
      σ = [some (.ref p), some (.int n), some (.str ("abcdefghijklmnopqrstuvwxyz" : Str)), some (.str stem), some (.ref fa), k5, some (.int at_), some (.int fr), some (.int st), some (.str tail), k10])
      z10 ⟨[], _, _, rfl, rfl, rfl, by simp, rfl⟩ (fun _ _ _ _ _ _ _ => trivial) ?_ ?_
    · rintro i x σ G' M' H' hx ⟨fs, k5, k10, rfl, rfl, rfl, hfs, rfl⟩ z'
      obtain ⟨hi, rfl⟩ := rng_at hx
      generalize hk : (0 : Int) + (fs.length : Int) = k
      repeat (walk_at "z")
      refine z_slS (by omega) ?_
      repeat (walk_at "z")
      refine z_I (mw (by omega) (by omega) (by omega) (by omega)) ?_
      repeat (walk_at "z")
      refine z_I (by decide) ?_
      repeat (walk_at "z")
      obtain ⟨ch, hch, ech⟩ := at_in (xs := ("abcdefghijklmnopqrstuvwxyz" : Str).cps.toList) (i := (fr + st * k) % 26) (Int.emod_nonneg _ (by decide)) (by rw [Array.length_toList]; exact Int.emod_lt_of_pos _ (by decide))
      refine z_ixS (by rw [abc_len]; decide) ech ?_
      have l1 : (cutS stem none (some at_)).length ≤ stem.length := by rw [cutS_len]; have := HT.sIx_le stem.length stem.length (Nat.le_refl _) (some at_); omega
      have hch1 := Lt.one (abc_mem hch)
      have hc1 : (⟨#[ch]⟩ : Str).length = 1 := rfl
      refine z_addS (by omega) ?_
      repeat (walk_at "z")
      refine z_slS (by omega) ?_
      have e1 : (cutS stem none (some at_)).length = at_.toNat := by
        rw [cutS_len]
        show (if at_ < 0 then (at_ + (stem.length : Int)).toNat else min at_.toNat stem.length) - 0 = at_.toNat
        rw [if_neg (by omega)]
        omega
      have e2 : (cutS stem (some at_) none).length = stem.length - at_.toNat := by
        rw [cutS_len]
        show stem.length - (if at_ < 0 then (at_ + (stem.length : Int)).toNat else min at_.toNat stem.length) = stem.length - at_.toNat
        rw [if_neg (by omega)]
        omega
      have e3 : (cutS stem none (some at_) ++ ⟨#[ch]⟩).length = at_.toNat + 1 := by rw [len_app, e1]; rfl
      refine z_addS (by omega) ?_
      have e4 : (cutS stem none (some at_) ++ ⟨#[ch]⟩ ++ cutS stem (some at_) none).length = stem.length + 1 := by rw [len_app, e3, e2]; omega
      have e5 : Lt (cutS stem none (some at_) ++ ⟨#[ch]⟩ ++ cutS stem (some at_) none) := ((hstem.cut _ _).app hch1).app (hstem.cut _ _)
      generalize cutS stem none (some at_) ++ ⟨#[ch]⟩ ++ cutS stem (some at_) none = word at e4 e5
      repeat (walk_at "z")
      refine z_tyO z' 1 rfl ?_
      repeat (walk_at "z")
      refine z_I (by decide) ?_
      repeat (walk_at "z")
      refine z_eqS rfl ?_
      repeat (walk_at "z")
      refine z_b2 (fun _ => ?_) (fun _ => ?_)
      · repeat (walk_at "z")
        refine z_addS (by omega) ?_
        repeat (walk_at "z")
        refine z_append z' 1 rfl (by rw [List.length_map]; omega) fun H'' z'' => ?_
        repeat (walk_at "z")
        refine ⟨_, _, z'', fs ++ [word ++ tail], _, _, by simp, rfl, by simp, fun t ht => ?_, rfl⟩
        rcases List.mem_append.mp ht with ht | ht
        · exact hfs t ht
        · obtain rfl : t = word ++ tail := by simpa using ht
          exact ⟨by rw [len_app]; omega, by rw [len_app]; omega, e5.app tl1⟩
      · repeat (walk_at "z")
        refine z_append z' 1 rfl (by rw [List.length_map]; omega) fun H'' z'' => ?_
        repeat (walk_at "z")
        refine ⟨_, _, z'', fs ++ [word], _, _, by simp, rfl, by simp, fun t ht => ?_, rfl⟩
        rcases List.mem_append.mp ht with ht | ht
        · exact hfs t ht
        · obtain rfl : t = word := by simpa using ht
          exact ⟨by omega, by omega, e5⟩
    · rintro σ G' M' H' ⟨fs, k5, k10, rfl, rfl, hfl, hfs, rfl⟩ z'
      rw [rngV_len] at hfl
      repeat (walk_at "z")
      obtain ⟨z'', n''⟩ := z'.fix2
      exact q fa _ _ o9 fs z'' (sz.trans (Same.new n'')) (hpz.up (Same.new n'')) upd_same (by omega) hfs
end
end LW
namespace LW
open PySem PySem.Spec PyProof.Rows L2 Ys

/-! ### what the words' functions tell -/
def abcL : List Nat := (("abcdefghijklmnopqrstuvwxyz" : Str)).cps.toList
def wordS (s : Str) : Bool := decide (1 ≤ s.length) && (decide (s.length ≤ 8) && s.cps.toList.all fun c => decide (c ∈ abcL))
def isStrD : PyData → Bool
  | .str _ => true
  | _ => false
def wordD : PyData → Bool
  | .str s => wordS s
  | _ => false
def intD : PyData → Bool
  | .int _ => true
  | _ => false
def listD : PyData → Bool
  | .list _ => true
  | .tuple _ => true
  | _ => false
theorem wordD_ns {d : PyData} (h : isStrD d = false) : wordD d = false := by cases d <;> first | rfl | cases h
theorem kit_str (d : PyData) : kitB (tyD d) "str" = some (isStrD d) := by cases d <;> (simp only [tyD, isStrD]; decide +kernel)
theorem all_map_bl {α : Type} (f : α → Bool) (l : List α) : (l.map f).all id = l.all f := by rw [List.all_map]; rfl
/-- texts among it are not too long -/
def ShortD (d : PyData) : Prop := ∀ s, d = .str s → s.length ≤ 100000
section
variable {P : Program} {w : World} {K : PySem.W.Frag} {mg : Str → Option Value} {base : Heap} {f : Addr} {fd : FuncData}
def spWord (K : PySem.W.Frag) : Sp := fun vs H Q _ => ∃ G M v d, vs = [v] ∧ Zp G M H ∧ Dt K G v d ∧ ShortD d ∧ ∀ G1 H1, Zp G1 M H1 → Same G G1 → Q (.bl (wordD d)) H1
theorem ok_is_word (T : Nm K mg) (F : FnP K "is_word" s_is_word f fd) : FnOk P w K mg base CX0 1 f fd ["value"] (spWord K) := by
  have nd : N_is_word.Nodup := sc_is_word.nd
  refine F.ok sc_is_word (fun vs H Q E h => ?_) (fun cdv A outer s H vs Q E hr h => ?_)
  · obtain ⟨G, M, v, d, rfl, _⟩ := h
    rfl
  have hu := hr.units
  refine ⟨_, PSs.nox   (pss_cons (ps_if (PW.pt (pw_or (pt_not (pt_val (pe_callB (kc_isi (K := K)) (by rfl) T.b_isinstance boot_isinstance (pa_cons (pv 0) (pa_cons (pe_bltn (v := .ty "str") (by rfl) T.b_str boot_str rfl) pa_nil))))) (pw_or1 (pt_not (pt_chain o_le o_le pe_int (pe_callB (kc_len (K := K) (P := P) (w := w)) (by rfl) T.b_len PySem.boot_len (pa_cons (pv 0) pa_nil)) (pe_gC T.g_LONGEST_WORD (by rfl))))))) (pss_one (ps_ret pe_bl)) pss_nil)
    (pss_one (ps_ret (pe_callB (kc_all (K := K) rfl) (by rfl) T.b_all boot_all (pa_cons (pe_lc (own := [("letter", 1)]) (tt := tYes) rfl nd (k_any (K := K) (pv 0)) (blkOk_by (N := N_is_word) (sc := defScope s_is_word) (by decide +kernel)) (fun _ _ _ _ _ => (pg_name (i := 1) nd rfl (by first | exact .inl rfl | exact .inr rfl))) (fun _ _ _ _ _ => pts_nil) (fun _ _ _ _ _ => (pe_cmpR (k_in (K := K)) (pv 1) (pe_gC T.g_LETTERS (by rfl)) (by rfl)))) pa_nil))))), ?_⟩
  obtain ⟨G, M, v, d, rfl, z, hd, hs, q⟩ := h
  repeat (walk_at "z")
  refine z_isi (.ty "str") (hd.up z.sub).ty (kit_ty (kit_str d)) ?_
  cases hi : isStrD d with
  | false =>
    repeat (walk_at "z")
    have := q G H z (Same.refl G)
    rw [wordD_ns hi] at this
    exact this
  | true =>
    cases hd with
    | str t =>
      have hl := hs t rfl
      repeat (walk_at "z")
      refine z_lenS hl ?_
      repeat (walk_at "z")
      by_cases c1 : 1 ≤ t.length
      · rw [decide_eq_true (show (1 : Int) ≤ (t.length : Int) by omega)]
        repeat (walk_at "z")
        by_cases c2 : t.length ≤ 8
        · rw [decide_eq_true (show (t.length : Int) ≤ 8 by omega)]
          repeat (walk_at "z")
          refine z_anyS ?_
          repeat (walk_at "z")
          refine z_itS ?_
          refine lc_src src_S (fun i G' M' acc => M' = M ∧ G' = G ∧ acc = ((t.cps.toList.take i).map fun c => V.bl (decide (c ∈ abcL)))) z ⟨rfl, rfl, rfl⟩ (fun _ _ _ _ _ _ _ _ => trivial) ?_ ?_
          · rintro i x G2 M2 acc Dl H2 hx ⟨rfl, rfl, rfl⟩ z2
            obtain ⟨c, hc, rfl⟩ : ∃ c, t.cps.toList[i]? = some c ∧ x = V.str ⟨#[c]⟩ := by
              unfold chrV at hx
              rw [List.getElem?_map] at hx
              cases e : t.cps.toList[i]? with
              | none => rw [e] at hx; cases hx
              | some c => rw [e] at hx; exact ⟨c, rfl, (Option.some.inj hx).symm⟩
            repeat (walk_at "z")
            refine ⟨by rfl, ?_⟩
            repeat (walk_at "z")
            refine z_inS ?_
            refine z_laid z2 (by rw [List.length_map, List.length_take, Array.length_toList]; show min _ t.length ≤ _; omega) ⟨rfl, rfl, ?_⟩
            rw [List.take_add_one, hc]
            simp [abcL]
          · rintro p2 G2 M2 acc G3 H3 ⟨rfl, rfl, rfl⟩ s3 z3 e3
            rw [chrV_len, show t.length = t.cps.toList.length from (Array.length_toList).symm, List.take_length] at e3
            repeat (walk_at "z")
            refine z_all (bs := t.cps.toList.map fun c => decide (c ∈ abcL)) z3 (SqL.of (by rw [List.map_map]; exact e3)) ?_
            have := q G3 H3 z3 s3
            rw [all_map_bl]
            have e : wordD (.str t) = t.cps.toList.all fun c => decide (c ∈ abcL) := by
              show (decide _ && (decide _ && _)) = _
              rw [decide_eq_true c1, decide_eq_true c2]
              rfl
            rw [e] at this
            exact this
        · rw [decide_eq_false (show ¬ (t.length : Int) ≤ 8 by omega)]
          repeat (walk_at "z")
          have := q G H z (Same.refl G)
          have e : wordD (.str t) = false := by
            show (decide _ && (decide _ && _)) = _
            rw [decide_eq_false c2, Bool.false_and, Bool.and_false]
          rw [e] at this
          exact this
      · rw [decide_eq_false (show ¬ (1 : Int) ≤ (t.length : Int) by omega)]
        repeat (walk_at "z")
        have := q G H z (Same.refl G)
        have e : wordD (.str t) = false := by
          show (decide _ && (decide _ && _)) = _
          rw [decide_eq_false c1, Bool.false_and]
        rw [e] at this
        exact this
    | _ => cases hi
end
end LW
namespace LW
open PySem PySem.Spec PyProof.Rows L2 Ys

def boolD : PyData → Bool
  | .bool _ => true
  | _ => false
theorem kit_int (d : PyData) : kitB (tyD d) "int" = some (intD d || boolD d) := by cases d <;> (simp only [tyD, intD, boolD]; decide +kernel)
theorem kit_bool (d : PyData) : kitB (tyD d) "bool" = some (boolD d) := by cases d <;> (simp only [tyD, boolD]; decide +kernel)
def isLD : PyData → Bool
  | .list _ => true
  | _ => false
def isTD : PyData → Bool
  | .tuple _ => true
  | _ => false
theorem kit_list {K : PySem.W.Frag} (d : PyData) : PySem.W.kitAny K (.type (tyD d)) [.type "list", .type "tuple"] = some (listD d) := by
  have k1 : kitB (tyD d) "list" = some (isLD d) := by cases d <;> (simp only [tyD, isLD]; decide +kernel)
  have k2 : kitB (tyD d) "tuple" = some (isTD d) := by cases d <;> (simp only [tyD, isTD]; decide +kernel)
  refine kitAny_cons (kit_ty k1) (fun h => kitAny_cons (kit_ty k2) (fun h2 => ?_) fun h2 => ?_) fun h => ?_
  · rw [kitAny_nil]
    cases d <;> first | rfl | (cases h2; done) | (cases h; done)
  · cases d <;> first | rfl | cases h2
  · cases d <;> first | rfl | cases h
def withinD (a b : Int) : PyData → Bool
  | .int i => decide (a ≤ i) && decide (i ≤ b)
  | _ => false
def itemsD : PyData → List PyData
  | .list ds => ds
  | .tuple ds => ds
  | _ => []
def moreD (m : Option Int) (ds : List PyData) : Bool := match m with
  | none => true
  | some m => decide ((ds.length : Int) ≤ m)
def wordsD (m : Option Int) (d : PyData) : Bool := listD d && (moreD m (itemsD d) && (itemsD d).all wordD)
def strOf : PyData → Str
  | .str s => s
  | _ => ""
def diffD (m : Option Int) (d : PyData) : Bool := wordsD m d && decide ((dd ((itemsD d).map strOf)).length = (itemsD d).length)
def mV : Option Int → V
  | none => .non
  | some i => .int i
section
variable {P : Program} {w : World} {K : PySem.W.Frag} {mg : Str → Option Value} {base : Heap} {f : Addr} {fd : FuncData}
def spInt (K : PySem.W.Frag) : Sp := fun vs H Q _ => ∃ G M v d, vs = [v] ∧ Zp G M H ∧ Dt K G v d ∧ Q (.bl (intD d)) H
theorem ok_is_integer (T : Nm K mg) (F : FnP K "is_integer" s_is_integer f fd) : FnOk P w K mg base CX0 1 f fd ["value"] (spInt K) := by
  have nd : N_is_integer.Nodup := sc_is_integer.nd
  refine F.ok sc_is_integer (fun vs H Q E h => ?_) (fun cdv A outer s H vs Q E hr h => ?_)
  · obtain ⟨G, M, v, d, rfl, _⟩ := h
    rfl
  have hu := hr.units
  refine ⟨_, PSs.nox   (pss_one (ps_ret (pe_and (pe_callB (kc_isi (K := K)) (by rfl) T.b_isinstance boot_isinstance (pa_cons (pv 0) (pa_cons (pe_bltn (v := .ty "int") (by rfl) T.b_int boot_int rfl) pa_nil))) (pe_one (pe_not (pe_callB (kc_isi (K := K)) (by rfl) T.b_isinstance boot_isinstance (pa_cons (pv 0) (pa_cons (pe_bltn (v := .ty "bool") (by rfl) T.b_bool boot_bool rfl) pa_nil)))))))), ?_⟩
  obtain ⟨G, M, v, d, rfl, z, hd, q⟩ := h
  repeat (walk_at "z")
  refine z_isi (.ty "int") (hd.up z.sub).ty (kit_ty (kit_int d)) ?_
  repeat (walk_at "z")
  have e : intD d = ((intD d || boolD d) && !boolD d) := by cases d <;> rfl
  cases h1 : (intD d || boolD d) with
  | false =>
    repeat (walk_at "z")
    rw [e, h1] at q
    exact q
  | true =>
    repeat (walk_at "z")
    refine z_isi (.ty "bool") (hd.up z.sub).ty (kit_ty (kit_bool d)) ?_
    repeat (walk_at "z")
    rw [e, h1, Bool.true_and] at q
    exact q
def spWithin (K : PySem.W.Frag) : Sp := fun vs H Q _ => ∃ G M v d a b, vs = [v, .int a, .int b] ∧ Zp G M H ∧ Dt K G v d ∧ Q (.bl (withinD a b d)) H
theorem ok_is_within (T : Nm K mg) (C_is_integer : Own P w K mg base CX0 1 "is_integer" ["value"] (spInt K)) (F : FnP K "is_within" s_is_within f fd) : FnOk P w K mg base CX0 2 f fd ["value", "least", "most"] (spWithin K) := by
  have nd : N_is_within.Nodup := sc_is_within.nd
  refine F.ok sc_is_within (fun vs H Q E h => ?_) (fun cdv A outer s H vs Q E hr h => ?_)
  · obtain ⟨G, M, v, d, a, b, rfl, _⟩ := h
    rfl
  have hu := hr.units
  refine ⟨_, PSs.nox   (pss_one (ps_ret (pe_and (pe_own C_is_integer (hr.mono (by decide)) (by rfl) pass0 (pa_cons (pv 0) pa_nil)) (pe_one (pe_chain o_le o_le (pv 1) (pv 0) (pv 2)))))), ?_⟩
  obtain ⟨G, M, v, d, a, b, rfl, z, hd, q⟩ := h
  repeat (walk_at "z")
  refine ⟨G, M, v, d, rfl, z, hd, ?_⟩
  repeat (walk_at "z")
  cases hi : intD d with
  | false =>
    repeat (walk_at "z")
    have e : withinD a b d = false := by cases d <;> first | rfl | cases hi
    rw [e] at q
    exact q
  | true =>
    cases hd with
    | int i =>
      repeat (walk_at "z")
      refine z_b2 (fun c => ?_) (fun c => ?_)
      · repeat (walk_at "z")
        have e : withinD a b (.int i) = decide (i ≤ b) := by
          show (decide (a ≤ i) && _) = _
          rw [c]
          rfl
        rw [e] at q
        exact q
      · have e : withinD a b (.int i) = false := by
          show (decide (a ≤ i) && _) = _
          rw [c]
          rfl
        rw [e] at q
        exact q
    | _ => cases hi
def spIsList (K : PySem.W.Frag) : Sp := fun vs H Q _ => ∃ G M v d, vs = [v] ∧ Zp G M H ∧ Ar K G M v d ∧ ∀ G1 H1, Zp G1 M H1 → Same G G1 → Q (.bl (listD d)) H1
theorem ok_is_list (T : Nm K mg) (F : FnP K "is_list" s_is_list f fd) : FnOk P w K mg base CX0 1 f fd ["value"] (spIsList K) := by
  have nd : N_is_list.Nodup := sc_is_list.nd
  refine F.ok sc_is_list (fun vs H Q E h => ?_) (fun cdv A outer s H vs Q E hr h => ?_)
  · obtain ⟨G, M, v, d, rfl, _⟩ := h
    rfl
  have hu := hr.units
  refine ⟨_, PSs.nox   (pss_one (ps_ret (pe_callB (kc_isi (K := K)) (by rfl) T.b_isinstance boot_isinstance (pa_cons (pv 0) (pa_cons (pe_tup (pa_cons (pe_bltn (v := .ty "list") (by rfl) T.b_list boot_list rfl) (pa_cons (pe_bltn (v := .ty "tuple") (by rfl) T.b_tuple boot_tuple rfl) pa_nil))) pa_nil))))), ?_⟩
  obtain ⟨G, M, v, d, rfl, z, hd, q⟩ := h
  repeat (walk_at "z")
  refine z_newT z (by simp) fun p1 G1 H1 z1 s1 e1 => ?_
  repeat (walk_at "z")
  refine z_isi2 z1 e1 (.cons (.ty "list") (.cons (.ty "tuple") .nil)) ((hd.up s1).ty z1) (kit_list d) ?_
  exact q G1 _ z1 s1
abbrev OwnW (P : Program) (w : World) (K : PySem.W.Frag) (mg : Str → Option Value) (base : Heap) : Prop := Own P w K mg base CX0 1 "is_word" ["value"] (spWord K)
abbrev OwnL (P : Program) (w : World) (K : PySem.W.Frag) (mg : Str → Option Value) (base : Heap) : Prop := Own P w K mg base CX0 1 "is_list" ["value"] (spIsList K)
/-- lists that can be looked at -/
def FineD (d : PyData) : Prop := (itemsD d).length ≤ 500 ∧ ∀ e ∈ itemsD d, ShortD e
def spAreWords (K : PySem.W.Frag) : Sp := fun vs H Q _ => ∃ G M v d m, vs = [v, mV m] ∧ Zp G M H ∧ Ar K G M v d ∧ FineD d ∧ ∀ G1 H1, Zp G1 M H1 → Same G G1 → Q (.bl (wordsD m d)) H1
theorem words_lc {G : Hp} {M : List (Addr × HO)} {H : Hp} {J : It} {xs : List V} {ds : List PyData} {OK : Hp → Prop} {σ : L2.St} {Q : VK} {v mv : V} (S : Src J xs OK) (hd : Dts K G xs ds) (z : Zp G M H) (hf : ds.length ≤ 500) (hs : ∀ e ∈ ds, ShortD e)
    (ok : ∀ G' M1 H', Same G G' → Zp G' (M ++ M1) H' → OK H') (q : ∀ p G1 H1, Zp G1 M H1 → Same G G1 → G1 p = some (.lst ((ds.map wordD).map V.bl)) → Q (.ref p) H1) (hσ : σ = [some v, some mv, none]) :
    LcW J (gName 2) tYes (tCall (spWord K) [] E0 (tCons (tVar 2) tNil)) [2] σ H Q := by
  subst hσ
  have hl := hd.len (ds := ds)
  refine lc_src S (fun i G' M' acc => M' = M ∧ Same G G' ∧ acc = ((ds.take i).map wordD).map V.bl) z ⟨rfl, Same.refl G, rfl⟩ ?_ ?_ ?_
  · rintro i G' M' M1 acc H' ⟨rfl, s1, _⟩ z'
    exact ok G' M1 H' s1 z'
  · rintro i x G2 M2 acc Dl H2 hx ⟨rfl, s2, rfl⟩ z2
    obtain ⟨d, h1, h2⟩ := hd.at_ hx
    repeat (walk_at "z")
    refine ⟨by rfl, ?_⟩
    repeat (walk_at "z")
    refine ⟨G2, _, x, d, rfl, z2, h2.up s2, hs d (List.mem_of_getElem? h1), fun G3 H3 z3 s3 => ?_⟩
    refine z_laid z3 (by rw [List.length_map, List.length_map, List.length_take]; omega) ⟨rfl, s2.trans s3, ?_⟩
    rw [List.take_add_one, h1]
    simp
  · rintro p2 G2 M2 acc G3 H3 ⟨rfl, s2, rfl⟩ s3 z3 e3
    rw [hl, List.take_length] at e3
    exact q p2 G3 H3 z3 (s2.trans s3) e3
theorem ok_are_words (T : Nm K mg) (C_is_word : OwnW P w K mg base) (C_is_list : OwnL P w K mg base) (F : FunD K "are_words" "are_words" (defArgs s_are_words) (defBody s_are_words) (defScope s_are_words) [.non] [] f fd) : FnOk P w K mg base CX0 2 f fd ["value", "most"] (spAreWords K) := by
  have nd : N_are_words.Nodup := sc_are_words.nd
  refine F.ok sc_are_words (fun vs H Q E h => ?_) (fun cdv A outer s H vs Q E hr h => ?_)
  · obtain ⟨G, M, v, d, m, rfl, _⟩ := h
    rfl
  have hu := hr.units
  refine ⟨_, PSs.nox   (pss_cons (ps_if (PW.pt (pw_or (pt_not (pt_val (pe_own C_is_list (hr.mono (by decide)) (by rfl) pass0 (pa_cons (pv 0) pa_nil)))) (pw_or1 (PW.pt (pw_and (pt_cmpR o_notN (pv 1) pe_non (nomark _)) (pw_and1 (pt_cmpR o_gt (pe_callB (kc_len (K := K) (P := P) (w := w)) (by rfl) T.b_len PySem.boot_len (pa_cons (pv 0) pa_nil)) (pv 1) (nomark _)))))))) (pss_one (ps_ret pe_bl)) pss_nil)
    (pss_one (ps_ret (pe_callB (kc_all (K := K) rfl) (by rfl) T.b_all boot_all (pa_cons (pe_lc (own := [("word", 2)]) (tt := tYes) rfl nd (k_any (K := K) (pv 0)) (blkOk_by (N := N_are_words) (sc := defScope s_are_words) (by decide +kernel)) (fun _ _ _ _ _ => (pg_name (i := 2) nd rfl (by first | exact .inl rfl | exact .inr rfl))) (fun _ _ _ _ _ => pts_nil) (fun _ _ _ _ _ => (pe_own C_is_word (hr.mono (by decide)) (by rfl) pass0 (pa_cons (pv 2) pa_nil)))) pa_nil))))), ?_⟩
  obtain ⟨G, M, v, d, m, rfl, z, hd, ⟨hf, hs⟩, q⟩ := h
  repeat (walk_at "z")
  refine ⟨G, M, v, d, rfl, z, hd, fun G1 H1 z1 s1 => ?_⟩
  repeat (walk_at "z")
  cases hl : listD d with
  | false =>
    repeat (walk_at "z")
    have e : wordsD m d = false := by
      unfold wordsD
      rw [hl]
      rfl
    have := q G1 H1 z1 s1
    rw [e] at this
    exact this
  | true =>
    have big : ∀ (J : It) (a : Addr) (xs : List V) (OK : Hp → Prop), Src J xs OK → Dts K G xs (itemsD d) → (∀ G' M1 H', Same G G' → Zp G' (M ++ M1) H' → OK H') →
        ∀ Q2 : VK, (moreD m (itemsD d) = true → (∀ p G2 H2, Zp G2 M H2 → Same G1 G2 → G2 p = some (.lst (((itemsD d).map wordD).map V.bl)) → Q2 (.ref p) H2) → LcW J (gName 2) tYes (tCall (spWord K) [] E0 (tCons (tVar 2) tNil)) [2] (L2.start N_are_words [v, mV m]) H1 Q2) :=
      fun J a xs OK S hD ok Q2 hm q2 => words_lc S (hD.up s1) z1 hf hs (fun G' M1 H' s' z' => ok G' M1 H' (s1.trans s') z') (fun p G2 H2 z2 s2 e2 => q2 p G2 H2 z2 s2 e2) rfl
    have no : moreD m (itemsD d) = false → Q (.bl false) H1 := fun hm => by
      have e : wordsD m d = false := by
        unfold wordsD
        rw [hm, Bool.false_and, Bool.and_false]
      have := q G1 H1 z1 s1
      rw [e] at this
      exact this
    have yes : moreD m (itemsD d) = true → ∀ p G2 H2, Zp G2 M H2 → Same G1 G2 → G2 p = some (.lst (((itemsD d).map wordD).map V.bl)) → rAllG K [.ref p] H2 Q := fun hm p G2 H2 z2 s2 e2 => by
      refine z_all z2 (SqL.of e2) ?_
      have e : wordsD m d = ((itemsD d).map wordD).all id := by
        unfold wordsD
        rw [hl, hm, all_map_bl]
        rfl
      have := q G2 H2 z2 (s1.trans s2)
      rw [e] at this
      exact this
    cases d with
    | list ds =>
      obtain ⟨a, xs, rfl, k1, k2, k3⟩ := hd.list z
      have h1 := k3 G1 H1 z1 s1
      have h2 := k2.up s1
      cases m with
      | none =>
        repeat (walk_at "z")
        refine z_nN ?_
        repeat (walk_at "z")
        rw [show decide (mV none = V.non) = true from rfl]
        repeat (walk_at "z")
        refine z_anyL ?_
        repeat (walk_at "z")
        refine z_itLH h1 ?_
        refine big _ a xs _ src_L k2 (fun G' M1 H' s' z' => k3 G' H' z'.cut s') _ rfl (fun p G2 H2 z2 s2 e2 => ?_)
        repeat (walk_at "z")
        exact yes rfl p G2 H2 z2 s2 e2
      | some m =>
        repeat (walk_at "z")
        refine z_nN ?_
        repeat (walk_at "z")
        rw [show decide (mV (some m) = V.non) = false from rfl]
        repeat (walk_at "z")
        refine z_lenH (.inl h1) ?_
        rw [h2.len (ds := ds)]
        repeat (walk_at "z")
        refine z_I0 (j := m) ?_
        repeat (walk_at "z")
        cases hm : moreD (some m) ds with
        | false =>
          have : m < (ds.length : Int) := by have := of_decide_eq_false hm; omega
          rw [decide_eq_true this]
          repeat (walk_at "z")
          exact no hm
        | true =>
          have : ¬ m < (ds.length : Int) := by have := of_decide_eq_true hm; omega
          rw [decide_eq_false this]
          repeat (walk_at "z")
          refine z_anyL ?_
          repeat (walk_at "z")
          refine z_itLH h1 ?_
          refine big _ a xs _ src_L k2 (fun G' M1 H' s' z' => k3 G' H' z'.cut s') _ hm (fun p G2 H2 z2 s2 e2 => ?_)
          repeat (walk_at "z")
          exact yes hm p G2 H2 z2 s2 e2
    | tuple ds =>
      obtain ⟨a, xs, rfl, h1, h2⟩ := hd.tup
      cases m with
      | none =>
        repeat (walk_at "z")
        refine z_nN ?_
        repeat (walk_at "z")
        rw [show decide (mV none = V.non) = true from rfl]
        repeat (walk_at "z")
        refine z_anyT ?_
        repeat (walk_at "z")
        refine z_itT z1 (upT s1 h1) ?_
        refine big _ a xs _ src_T h2 (fun G' M1 H' s' z' => z'.seqT (upT s' h1)) _ rfl (fun p G2 H2 z2 s2 e2 => ?_)
        repeat (walk_at "z")
        exact yes rfl p G2 H2 z2 s2 e2
      | some m =>
        repeat (walk_at "z")
        refine z_nN ?_
        repeat (walk_at "z")
        rw [show decide (mV (some m) = V.non) = false from rfl]
        repeat (walk_at "z")
        refine z_lenT z1 (upT s1 h1) ?_
        rw [h2.len (ds := ds)]
        repeat (walk_at "z")
        refine z_I0 (j := m) ?_
        repeat (walk_at "z")
        cases hm : moreD (some m) ds with
        | false =>
          have : m < (ds.length : Int) := by have := of_decide_eq_false hm; omega
          rw [decide_eq_true this]
          repeat (walk_at "z")
          exact no hm
        | true =>
          have : ¬ m < (ds.length : Int) := by have := of_decide_eq_true hm; omega
          rw [decide_eq_false this]
          repeat (walk_at "z")
          refine z_anyT ?_
          repeat (walk_at "z")
          refine z_itT z1 (upT s1 h1) ?_
          refine big _ a xs _ src_T h2 (fun G' M1 H' s' z' => z'.seqT (upT s' h1)) _ hm (fun p G2 H2 z2 s2 e2 => ?_)
          repeat (walk_at "z")
          exact yes hm p G2 H2 z2 s2 e2
    | _ => cases hl
end
end LW
namespace LW
open PySem PySem.Spec PyProof.Rows L2 Ys

theorem strs_of : ∀ {ds : List PyData}, ds.all wordD = true → ds = (ds.map strOf).map PyData.str
  | [], _ => rfl
  | d :: ds, h => by
    obtain ⟨h1, h2⟩ := Bool.and_eq_true_iff.mp (show (wordD d && ds.all wordD) = true from h)
    rw [List.map_cons, List.map_cons, ← strs_of h2]
    cases d <;> first | rfl | cases h1
theorem dts_strs {K : PySem.W.Frag} {G : Hp} : ∀ {xs : List V} {ss : List Str}, Dts K G xs (ss.map PyData.str) → xs = ss.map V.str
  | [], [], _ => rfl
  | _, s :: ss, h => by
    cases h with
    | cons h1 h2 =>
      cases h1
      rw [List.map_cons, ← dts_strs h2]
  | _ :: _, [], h => by cases h
theorem ar_strs {K : PySem.W.Frag} {G H : Hp} {M : List (Addr × HO)} {v : V} {d : PyData} {ss : List Str} (z : Zp G M H) (h : Ar K G M v d) (hl : listD d = true) (hi : itemsD d = ss.map PyData.str) :
    ∃ a, v = .ref a ∧ ∀ G1 H1, Zp G1 M H1 → Same G G1 → SqL K H1 a (ss.map V.str) ∨ SqT K H1 a (ss.map V.str) := by
  cases d with
  | list ds =>
    obtain ⟨a, xs, rfl, h1, h2, h3⟩ := h.list z
    rw [show ds = ss.map PyData.str from hi] at h2
    obtain rfl := dts_strs h2
    exact ⟨a, rfl, fun G1 H1 z1 s1 => .inl (h3 G1 H1 z1 s1)⟩
  | tuple ds =>
    obtain ⟨a, xs, rfl, h1, h2⟩ := h.tup
    rw [show ds = ss.map PyData.str from hi] at h2
    obtain rfl := dts_strs h2
    exact ⟨a, rfl, fun G1 H1 z1 s1 => .inr (z1.seqT (upT s1 h1))⟩
  | _ => cases hl
theorem dd_len {l ss : List Str} (h : ∀ x, x ∈ l ↔ x ∈ ss) (nd : l.Nodup) : l.length = (dd ss).length :=
  ((List.perm_ext_iff_of_nodup nd (dd_nodup ss)).mpr fun x => (h x).trans mem_dd.symm).length_eq
section
variable {P : Program} {w : World} {K : PySem.W.Frag} {mg : Str → Option Value} {base : Heap} {f : Addr} {fd : FuncData}
def spDiff (K : PySem.W.Frag) : Sp := fun vs H Q _ => ∃ G M v d m, vs = [v, mV m] ∧ Zp G M H ∧ Ar K G M v d ∧ FineD d ∧ ∀ G1 H1, Zp G1 M H1 → Same G G1 → Q (.bl (diffD m d)) H1
theorem ok_diff (T : Nm K mg) (C_are_words : Own P w K mg base CX0 2 "are_words" ["value", "most"] (spAreWords K)) (F : FunD K "are_different_words" "are_different_words" (defArgs s_are_different_words) (defBody s_are_different_words) (defScope s_are_different_words) [.non] [] f fd) :
    FnOk P w K mg base CX0 3 f fd ["value", "most"] (spDiff K) := by
  have nd : N_are_different_words.Nodup := sc_are_different_words.nd
  refine F.ok sc_are_different_words (fun vs H Q E h => ?_) (fun cdv A outer s H vs Q E hr h => ?_)
  · obtain ⟨G, M, v, d, m, rfl, _⟩ := h
    rfl
  have hu := hr.units
  refine ⟨_, PSs.nox   (pss_one (ps_ret (pe_and (pe_own C_are_words (hr.mono (by decide)) (by rfl) pass0 (pa_cons (pv 0) (pa_cons (pv 1) pa_nil))) (pe_one (pe_cmpR (k_eq (K := K) hu) (pe_callB (kc_len (K := K) (P := P) (w := w)) (by rfl) T.b_len PySem.boot_len (pa_cons (pe_callTy (kc_set (K := K) (P := P) (w := w) rfl) (by rfl) T.b_set boot_set (pa_cons (pv 0) pa_nil)) pa_nil)) (pe_callB (kc_len (K := K) (P := P) (w := w)) (by rfl) T.b_len PySem.boot_len (pa_cons (pv 0) pa_nil)) (nomark _)))))), ?_⟩
  obtain ⟨G, M, v, d, m, rfl, z, hd, hf, q⟩ := h
  repeat (walk_at "z")
  refine ⟨G, M, v, d, m, rfl, z, hd, hf, fun G1 H1 z1 s1 => ?_⟩
  repeat (walk_at "z")
  cases hw : wordsD m d with
  | false =>
    repeat (walk_at "z")
    have := q G1 H1 z1 s1
    unfold diffD at this
    rw [hw] at this
    exact this
  | true =>
    obtain ⟨hl, h2⟩ := Bool.and_eq_true_iff.mp hw
    obtain ⟨_, h3⟩ := Bool.and_eq_true_iff.mp h2
    have hi := strs_of h3
    obtain ⟨a, rfl, hS⟩ := ar_strs z hd hl hi
    have hlen : ((itemsD d).map strOf).length = (itemsD d).length := List.length_map ..
    have hfl := hf.1
    repeat (walk_at "z")
    refine z_setH z1 (hS G1 H1 z1 s1) (by omega) fun p l G2 H2 z2 s2 e2 m2 nd2 l2 => ?_
    repeat (walk_at "z")
    refine z_lenX z2 e2 (by omega) ?_
    repeat (walk_at "z")
    refine z_lenH (hS G2 _ z2 (s1.trans s2)) ?_
    repeat (walk_at "z")
    refine z_eqS rfl ?_
    have := q G2 _ z2 (s1.trans s2)
    unfold diffD at this
    rw [hw, Bool.true_and, ← dd_len m2 nd2] at this
    rw [List.length_map, hlen]
    have e : decide (V.int (l.length : Int) = V.int ((itemsD d).length : Int)) = decide (l.length = (itemsD d).length) := by
      by_cases c : l.length = (itemsD d).length
      · rw [decide_eq_true c, c]
        exact decide_eq_true rfl
      · rw [decide_eq_false c]
        exact decide_eq_false fun h => c (by have := V.int.inj h; omega)
    rw [e]
    exact this
def spAsc (K : PySem.W.Frag) : Sp := fun vs H Q _ => ∃ G M v d, ∃ ss : List Str, vs = [v] ∧ Zp G M H ∧ Ar K G M v d ∧ listD d = true ∧ itemsD d = ss.map PyData.str ∧ ss.length < 64 ∧
  ∀ p G1 H1, Zp G1 M H1 → Same G G1 → SqT K G1 p ((asc ss).map V.str) → Q (.ref p) H1
theorem ok_asc (T : Nm K mg) (F : FnP K "ascending" s_ascending f fd) : FnOk P w K mg base CX0 1 f fd ["words"] (spAsc K) := by
  have nd : N_ascending.Nodup := sc_ascending.nd
  refine F.ok sc_ascending (fun vs H Q E h => ?_) (fun cdv A outer s H vs Q E hr h => ?_)
  · obtain ⟨G, M, v, d, ss, rfl, _⟩ := h
    rfl
  have hu := hr.units
  refine ⟨_, PSs.nox   (pss_one (ps_ret (pe_callTy (kc_tuple (K := K)) (by rfl) T.b_tuple boot_tuple (pa_cons (pe_callB (kc_sorted (K := K) (P := P) (w := w) rfl) (by rfl) T.b_sorted boot_sorted (pa_cons (pe_callTy (kc_set (K := K) (P := P) (w := w) rfl) (by rfl) T.b_set boot_set (pa_cons (pv 0) pa_nil)) pa_nil)) pa_nil)))), ?_⟩
  obtain ⟨G, M, v, d, ss, rfl, z, hd, hl, hi, hs, q⟩ := h
  obtain ⟨a, rfl, hS⟩ := ar_strs z hd hl hi
  repeat (walk_at "z")
  refine z_setH z (hS G H z (Same.refl G)) (by omega) fun p l G2 H2 z2 s2 e2 m2 nd2 l2 => ?_
  repeat (walk_at "z")
  refine z_sortX z2 e2 m2 nd2 (by omega) fun p3 G3 H3 z3 s3 e3 => ?_
  repeat (walk_at "z")
  exact z_tupL z3 (SqL.of e3) fun p4 G4 H4 z4 s4 h4 => q p4 G4 H4 z4 ((s2.trans s3).trans s4) h4
end
end LW
namespace LW
open PySem PySem.Spec PyProof.Rows L2 Ys

/-! ### tasks that may be refused -/
structure TaskC (K : PySem.W.Frag) (C : Addr) : Prop where
  cl : Cls K C
  n1 : NoAttr K C "own_role"
  n2 : NoAttr K C "own_many"
  n3 : NoAttr K C "own_other"
  n4 : NoAttr K C "own_same"
  n5 : NoAttr K C "own_takes"
  n6 : NoAttr K C "own_forgets"
theorem strOf_map : ∀ ss : List Str, (ss.map PyData.str).map strOf = ss
  | [] => rfl
  | s :: ss => congrArg (s :: ·) (strOf_map ss)
theorem ar_up {K : PySem.W.Frag} {G G1 : Hp} {M M1 : List (Addr × HO)} {v : V} {d : PyData} (h : Ar K G M v d) (s : Same G G1) (t : ∀ u ∈ M, u ∈ M1) : Ar K G1 M1 v d := (h.up s).sub t
def noneD : PyData → Bool
  | .none => true
  | _ => false
def badRole (d : PyData) : Bool := !noneD d && !wordD d
/-- the first field that is wrong -/
def dueD (d0 d1 d2 d3 d4 d5 : PyData) : Option Str :=
  if badRole d0 then some "role" else if withinD 1 3 d1 = false then some "many" else if diffD none d2 = false then some "other" else if diffD none d3 = false then some "same" else if diffD none d4 = false then some "takes" else if diffD none d5 = false then some "forgets" else none
theorem non_iff {K : PySem.W.Frag} {G : Hp} {v : V} {d : PyData} (h : Dt K G v d) : decide (v = .non) = noneD d := by cases h <;> rfl
structure Fn60 (d : PyData) : Prop where
  fi : FineD d
  le : (itemsD d).length ≤ 60
theorem diff_strs {d : PyData} (h : diffD none d = true) : listD d = true ∧ itemsD d = ((itemsD d).map strOf).map PyData.str := by
  obtain ⟨h1, _⟩ := Bool.and_eq_true_iff.mp h
  obtain ⟨h2, h3⟩ := Bool.and_eq_true_iff.mp h1
  obtain ⟨_, h4⟩ := Bool.and_eq_true_iff.mp h3
  exact ⟨h2, strs_of h4⟩
section
variable {P : Program} {w : World} {K : PySem.W.Frag} {mg : Str → Option Value} {base : Heap} {f : Addr} {fd : FuncData} {C CI : Addr}
def spInitX (K : PySem.W.Frag) (C CI : Addr) : Sp := fun vs H Q E => ∃ x dx G M v0 v1 v2 v3 v4 v5 d0 d1 d2 d3 d4 d5, vs = [.ref x, v0, v1, v2, v3, v4, v5] ∧ Zp G (M ++ [(x, .ins C dx [])]) H ∧ (Dt K G v0 d0 ∧ ShortD d0) ∧ Dt K G v1 d1 ∧
  (Ar K G M v2 d2 ∧ Fn60 d2) ∧ (Ar K G M v3 d3 ∧ Fn60 d3) ∧ (Ar K G M v4 d4 ∧ Fn60 d4) ∧ (Ar K G M v5 d5 ∧ Fn60 d5) ∧
  (dueD d0 d1 d2 d3 d4 d5 = none → ∀ G1 H1, Zp G1 M H1 → Same G G1 → Q .non H1) ∧
  ∀ fl, dueD d0 d1 d2 d3 d4 d5 = some fl → ∀ dd G1 H1, Zp G1 M H1 → Same G G1 → G1 dd = some (.xd [("field", .str fl)]) → E (.ref CI) (some dd) H1
theorem ok_initX (T : Nm K mg) (TC : TaskC K C) (C_is_word : OwnW P w K mg base) (C_is_within : Own P w K mg base CX0 2 "is_within" ["value", "least", "most"] (spWithin K))
    (C_are_different_words_1 : OwnA P w K mg base CX0 3 "are_different_words" ["value", "most"] [.non] (spDiff K)) (C_ascending : Own P w K mg base CX0 1 "ascending" ["words"] (spAsc K)) (S_InvalidTask : ExcS P w K mg base CI "InvalidTask" "field")
    {kws : List (Str × V)} (F : FunD K "__init__" "Task.__init__" (defArgs s_Task_init) (defBody s_Task_init) (defScope s_Task_init) [.non] kws f fd) :
    FnOk P w K mg base (L2.CX P w) 4 f fd ["self", "role", "many", "other", "same", "takes", "forgets"] (spInitX K C CI) := by
  have nd : N_Task_init.Nodup := sc_Task_init.nd
  refine F.ok sc_Task_init (fun vs H Q E h => ?_) (fun cdv A outer s H vs Q E hr h => ?_)
  · obtain ⟨x, dx, G, M, v0, v1, v2, v3, v4, v5, d0, d1, d2, d3, d4, d5, rfl, _⟩ := h
    rfl
  have hu := hr.units
  refine ⟨_,   (pss_cons (ps_if (PW.pt (pw_and (pt_cmpR o_notN (pv 1) pe_non (nomark _)) (pw_and1 (pt_not (pt_val (pe_own C_is_word (hr.mono (by decide)) (by rfl) pass0 (pa_cons (pv 1) pa_nil))))))) (pss_one (ps_rs S_InvalidTask rfl (takes_of rfl rfl rfl rfl) (hr.mono (by decide)) (by rfl) pe_str)) pss_nil)
    (pss_cons (ps_if (pt_not (pt_val (pe_own C_is_within (hr.mono (by decide)) (by rfl) pass0 (pa_cons (pv 2) (pa_cons pe_int (pa_cons (pe_gC T.g_MANY (by rfl)) pa_nil)))))) (pss_one (ps_rs S_InvalidTask rfl (takes_of rfl rfl rfl rfl) (hr.mono (by decide)) (by rfl) pe_str)) pss_nil)
    (pss_cons (ps_for (passes_of rfl) rfl (k_tup (K := K) (pe_tup (pa_cons (pe_tup (pa_cons pe_str (pa_cons (pv 3) pa_nil))) (pa_cons (pe_tup (pa_cons pe_str (pa_cons (pv 4) pa_nil))) (pa_cons (pe_tup (pa_cons pe_str (pa_cons (pv 5) pa_nil))) (pa_cons (pe_tup (pa_cons pe_str (pa_cons (pv 6) pa_nil))) pa_nil)))))) (kg_tup (K := K) rfl (pgs_cons (pg_name (i := 7) nd rfl (by first | exact .inl rfl | exact .inr rfl)) (pgs_cons (pg_name (i := 8) nd rfl (by first | exact .inl rfl | exact .inr rfl)) pgs_nil))) (pss_one (ps_if (pt_not (pt_val (pe_ownA C_are_different_words_1 (hr.mono (by decide)) (by rfl) pass0 (pa_cons (pv 8) pa_nil)))) (pss_one (ps_rs S_InvalidTask rfl (takes_of rfl rfl rfl rfl) (hr.mono (by decide)) (by rfl) (pv 7))) pss_nil)))
    (pss_cons (ps_fld (pv 0) (pv 1) rfl)
    (pss_cons (ps_fld (pv 0) (pv 2) rfl)
    (pss_cons (ps_fld (pv 0) (pe_own C_ascending (hr.mono (by decide)) (by rfl) pass0 (pa_cons (pv 3) pa_nil)) rfl)
    (pss_cons (ps_fld (pv 0) (pe_own C_ascending (hr.mono (by decide)) (by rfl) pass0 (pa_cons (pv 4) pa_nil)) rfl)
    (pss_cons (ps_fld (pv 0) (pe_own C_ascending (hr.mono (by decide)) (by rfl) pass0 (pa_cons (pv 5) pa_nil)) rfl)
    (pss_one (ps_fld (pv 0) (pe_own C_ascending (hr.mono (by decide)) (by rfl) pass0 (pa_cons (pv 6) pa_nil)) rfl)))))))))), ?_⟩
  obtain ⟨x, dx, G, M, v0, v1, v2, v3, v4, v5, d0, d1, d2, d3, d4, d5, rfl, z, ⟨a0, sh0⟩, a1, ⟨a2, f2⟩, ⟨a3, f3⟩, ⟨a4, f4⟩, ⟨a5, f5⟩, q, qx⟩ := h
  have up2 : ∀ (fs : List (Str × V)), ∀ u ∈ M, u ∈ M ++ [(x, HO.ins C dx fs)] := fun fs u hu => List.mem_append_left _ hu
  have rz : ∀ {G1 : Hp} {H1 : Hp} (fl : Str), Zp G1 (M ++ [(x, .ins C dx [])]) H1 → Same G G1 → dueD d0 d1 d2 d3 d4 d5 = some fl → RsW K CI "field" (.str fl) H1 fun cls d H' => E cls d H' := fun fl z1 s1 e => z_rsI fun dd hd => qx fl e dd _ _ (z1.new hd _).cut (s1.trans (Same.new (z1.free hd))) upd_same
  with_reducible refine z_cut (fun σ H1 => ∃ G1, Zp G1 (M ++ [(x, .ins C dx [])]) H1 ∧ Same G G1 ∧ badRole d0 = false ∧ σ = L2.start N_Task_init [.ref x, v0, v1, v2, v3, v4, v5]) (fun nx hnx => ?_) (fun σ H1 h1 => ?_)
  · repeat (walk_at "z")
    refine z_nN ?_
    rw [non_iff a0]
    repeat (walk_at "z")
    cases hn : noneD d0 with
    | true =>
      repeat (walk_at "z")
      exact hnx _ _ ⟨G, z, Same.refl G, by unfold badRole; rw [hn]; rfl, rfl⟩
    | false =>
      repeat (walk_at "z")
      refine ⟨G, _, v0, d0, rfl, z, a0, sh0, fun G1 H1 z1 s1 => ?_⟩
      repeat (walk_at "z")
      cases hw : wordD d0 with
      | true =>
        repeat (walk_at "z")
        exact hnx _ _ ⟨G1, z1, s1, by unfold badRole; rw [hw, hn]; rfl, rfl⟩
      | false =>
        repeat (walk_at "z")
        exact rz "role" z1 s1 (by unfold dueD badRole; rw [hw, hn]; rfl)
  obtain ⟨G1, z1, s1, b0, rfl⟩ := h1
  with_reducible refine z_cut (fun σ H2 => H2 = H1 ∧ withinD 1 3 d1 = true ∧ σ = L2.start N_Task_init [.ref x, v0, v1, v2, v3, v4, v5]) (fun nx hnx => ?_) (fun σ H2 h2 => ?_)
  · repeat (walk_at "z")
    refine ⟨G1, _, _, d1, 1, 3, rfl, z1, a1.up s1, ?_⟩
    repeat (walk_at "z")
    cases hw : withinD 1 3 d1 with
    | true =>
      repeat (walk_at "z")
      exact hnx _ _ ⟨rfl, hw, rfl⟩
    | false =>
      repeat (walk_at "z")
      exact rz "many" z1 s1 (by unfold dueD; rw [b0, hw]; rfl)
  obtain ⟨rfl, b1, rfl⟩ := h2
  -- the lists
  let dsL : List PyData := [d2, d3, d4, d5]
  with_reducible refine z_cut (fun σ H3 => ∃ G2 k7 k8, Zp G2 (M ++ [(x, .ins C dx [])]) H3 ∧ Same G1 G2 ∧ (∀ d ∈ dsL, diffD none d = true) ∧ σ = [some (.ref x), some v0, some v1, some v2, some v3, some v4, some v5, k7, k8]) (fun nx hnx => ?_) (fun σ H3 h3 => ?_)
  · repeat (walk_at "z")
    refine z_newT z1 (by simp) fun p2 G2 H2 z2 s2 e2 => ?_
    repeat (walk_at "z")
    refine z_newT z2 (by simp) fun p3 G3 H3 z3 s3 e3 => ?_
    repeat (walk_at "z")
    refine z_newT z3 (by simp) fun p4 G4 H4 z4 s4 e4 => ?_
    repeat (walk_at "z")
    refine z_newT z4 (by simp) fun p5 G5 H5 z5 s5 e5 => ?_
    repeat (walk_at "z")
    refine z_newT z5 (by simp) fun p6 G6 H6 z6 s6 e6 => ?_
    repeat (walk_at "z")
    refine z_itT z6 (SqT.of e6) ?_
    have t0 : Same G G6 := s1.trans (s2.trans (s3.trans (s4.trans (s5.trans s6))))
    refine for_src src_T (fun i σ G' M' => ∃ k7 k8, M' = M ++ [(x, .ins C dx [])] ∧ Same G6 G' ∧ (∀ d ∈ dsL.take i, diffD none d = true) ∧ σ = [some (.ref x), some v0, some v1, some v2, some v3, some v4, some v5, k7, k8]) z6 ⟨_, _, rfl, Same.refl _, by simp, rfl⟩
      (fun i σ G' M' H' ⟨_, _, _, s', _⟩ z' => z'.seqT (upT s' (SqT.of e6))) ?_ ?_
    · rintro i x1 σ G' M' H' hx ⟨k7, k8, rfl, s', hdi, rfl⟩ z'
      have hi : i < 4 := (List.getElem?_eq_some_iff.mp hx).1
      obtain ⟨pp, fl, v, d, rfl, hp, ha, ho, hd, hdue⟩ : ∃ pp, ∃ fl : Str, ∃ v d, x1 = .ref pp ∧ G6 pp = some (.tup [.str fl, v]) ∧ Ar K G M v d ∧ Fn60 d ∧ dsL[i]? = some d ∧ (diffD none d = false → dueD d0 d1 d2 d3 d4 d5 = some fl) := by
        rcases (show i = 0 ∨ i = 1 ∨ i = 2 ∨ i = 3 by omega) with rfl | rfl | rfl | rfl
        all_goals (obtain rfl := Option.some.inj hx)
        · exact ⟨p2, _, v2, d2, rfl, s6 _ _ (s5 _ _ (s4 _ _ (s3 _ _ e2))), a2, f2, rfl, fun h => by unfold dueD; rw [b0, b1, h]; rfl⟩
        · have g2 := hdi d2 (by simp [dsL])
          exact ⟨p3, _, v3, d3, rfl, s6 _ _ (s5 _ _ (s4 _ _ e3)), a3, f3, rfl, fun h => by unfold dueD; rw [b0, b1, g2, h]; rfl⟩
        · have g2 := hdi d2 (by simp [dsL])
          have g3 := hdi d3 (by simp [dsL])
          exact ⟨p4, _, v4, d4, rfl, s6 _ _ (s5 _ _ e4), a4, f4, rfl, fun h => by unfold dueD; rw [b0, b1, g2, g3, h]; rfl⟩
        · have g2 := hdi d2 (by simp [dsL])
          have g3 := hdi d3 (by simp [dsL])
          have g4 := hdi d4 (by simp [dsL])
          exact ⟨p5, _, v5, d5, rfl, s6 _ _ e5, a5, f5, rfl, fun h => by unfold dueD; rw [b0, b1, g2, g3, g4, h]; rfl⟩
      refine z_gtup z' (SqT.of (s' _ _ hp)) rfl ?_
      repeat (walk_at "z")
      refine ⟨G', _, v, d, none, rfl, z', ar_up ha (t0.trans s') (up2 _), ho.fi, fun G7 H7 z7 s7 => ?_⟩
      repeat (walk_at "z")
      cases hw : diffD none d with
      | true =>
        repeat (walk_at "z")
        refine ⟨G7, _, z7, _, _, rfl, s'.trans s7, ?_, rfl⟩
        intro e he
        rw [List.take_add_one, hd] at he
        rcases List.mem_append.mp he with he | he
        · exact hdi e he
        · obtain rfl : e = d := by simpa using he
          exact hw
      | false =>
        repeat (walk_at "z")
        exact rz fl z7 (t0.trans (s'.trans s7)) (hdue hw)
    · rintro σ G' M' H' ⟨k7, k8, rfl, s', hdi, rfl⟩ z'
      exact hnx _ _ ⟨G', k7, k8, z', s2.trans (s3.trans (s4.trans (s5.trans (s6.trans s')))), hdi, rfl⟩
  obtain ⟨G2, k7, k8, z2, s2, hall, rfl⟩ := h3
  have g2 := hall d2 (by simp [dsL])
  have g3 := hall d3 (by simp [dsL])
  have g4 := hall d4 (by simp [dsL])
  have g5 := hall d5 (by simp [dsL])
  have hdue : dueD d0 d1 d2 d3 d4 d5 = none := by unfold dueD; rw [b0, b1, g2, g3, g4, g5]; rfl
  have s12 := s1.trans s2
  obtain ⟨l2, i2⟩ := diff_strs g2
  obtain ⟨l3, i3⟩ := diff_strs g3
  obtain ⟨l4, i4⟩ := diff_strs g4
  obtain ⟨l5, i5⟩ := diff_strs g5
  repeat (walk_at "z")
  refine z_fsL z2 TC.cl TC.n1 (by decide) fun H4 z4 => ?_
  repeat (walk_at "z")
  refine z_fsL z4 TC.cl TC.n2 (by repeat (first | decide | refine putF_lt ?_)) fun H5 z5 => ?_
  repeat (walk_at "z")
  refine ⟨G2, _, v2, d2, _, rfl, z5, ar_up a2 s12 (up2 _), l2, i2, by rw [List.length_map]; have := f2.le; omega, fun p6 G6 H6 z6 s6 h6 => ?_⟩
  repeat (walk_at "z")
  refine z_fsL z6 TC.cl TC.n3 (by repeat (first | decide | refine putF_lt ?_)) fun H7 z7 => ?_
  repeat (walk_at "z")
  refine ⟨G6, _, v3, d3, _, rfl, z7, ar_up a3 (s12.trans s6) (up2 _), l3, i3, by rw [List.length_map]; have := f3.le; omega, fun p8 G8 H8 z8 s8 h8 => ?_⟩
  repeat (walk_at "z")
  refine z_fsL z8 TC.cl TC.n4 (by repeat (first | decide | refine putF_lt ?_)) fun H9 z9 => ?_
  repeat (walk_at "z")
  refine ⟨G8, _, v4, d4, _, rfl, z9, ar_up a4 (s12.trans (s6.trans s8)) (up2 _), l4, i4, by rw [List.length_map]; have := f4.le; omega, fun p10 G10 H10 z10 s10 h10 => ?_⟩
  repeat (walk_at "z")
  refine z_fsL z10 TC.cl TC.n5 (by repeat (first | decide | refine putF_lt ?_)) fun H11 z11 => ?_
  repeat (walk_at "z")
  refine ⟨G10, _, v5, d5, _, rfl, z11, ar_up a5 (s12.trans (s6.trans (s8.trans s10))) (up2 _), l5, i5, by rw [List.length_map]; have := f5.le; omega, fun p12 G12 H12 z12 s12' h12 => ?_⟩
  repeat (walk_at "z")
  refine z_fsL z12 TC.cl TC.n6 (by repeat (first | decide | refine putF_lt ?_)) fun H13 z13 => ?_
  have fr : G12 x = none := (z13.own M.length _ _ last_at).2
  exact q hdue _ _ z13.fix (s12.trans (s6.trans (s8.trans (s10.trans (s12'.trans (Same.new fr))))))
end
end LW
namespace LW
open PySem PySem.Spec PyProof.Rows L2 Ys

def dT (x : String) : PyData := .tuple [.str x]
def any1 : List PyData := [.none, .bool true, .bool false, .int 0, .int 1, .int 2, .int 3, .int 4, .int (-1), .int (10 ^ (60 : Int).toNat), .str "", .str "a", .str "A", .str "ab", .str "abcdefghi", .str "a b", .tuple [], dT "a"]
def any2 : List PyData := [.list [], .list [.str "a"], .list [.int 1], .dict [], .dict [(.str "a", .int 1)], .tuple [.int 1, .int 2], dT "then", .tuple [.none], .tuple [.str "a", .int 1], .list [.list [.str "a"]], .tuple [dT "a"]]
def any3 : List PyData := [.str "then", .dict [(.str "p", .list [])], .list [.str "a", .str "a"], dT "either"]
def shortB : PyData → Bool
  | .str s => decide (s.length ≤ 100000)
  | _ => true
def okAB (d : PyData) : Bool := shortB d && (decide ((itemsD d).length ≤ 20) && (itemsD d).all shortB)
theorem shortB_ok {d : PyData} (h : shortB d = true) : ShortD d := fun s e => by
  subst e
  exact of_decide_eq_true h
structure OkA (d : PyData) : Prop where
  sh : ShortD d
  le : (itemsD d).length ≤ 20
  it : ∀ e ∈ itemsD d, ShortD e
theorem OkA.of {d : PyData} (h : okAB d = true) : OkA d := by
  obtain ⟨h1, h2⟩ := Bool.and_eq_true_iff.mp h
  obtain ⟨h3, h4⟩ := Bool.and_eq_true_iff.mp h2
  exact ⟨shortB_ok h1, of_decide_eq_true h3, fun e he => shortB_ok (List.all_eq_true.mp h4 e he)⟩
theorem OkA.fn {d : PyData} (h : OkA d) : Fn60 d := ⟨⟨by have := h.le; omega, h.it⟩, by have := h.le; omega⟩
theorem any_ok : ∀ d ∈ any1 ++ any2 ++ any3, OkA d := by
  have h : (any1 ++ any2 ++ any3).all okAB = true := by decide +kernel
  exact fun d hd => OkA.of (List.all_eq_true.mp h d hd)
section
variable {P : Program} {w : World} {K : PySem.W.Frag} {mg : Str → Option Value} {base : Heap} {f : Addr} {fd : FuncData}
def spAny (K : PySem.W.Frag) : Sp := fun vs H Q _ => ∃ p o G M b, vs = [.ref p] ∧ Zp G ((p, o) :: M) H ∧ Pen K G b o ∧ b ≤ 100000000000 ∧
  ∀ v d G1 H1 o1, Zp G1 ((p, o1) :: M) H1 → Same G G1 → Pen K G1 (b + 1) o1 → Dt K G1 v d → OkA d → Q v H1
theorem ok_any (T : Nm K mg) (C_law_pick : OwnP P w K mg base) (F : FnP K "_law_any_value" s_law_any_value f fd) : FnOk P w K mg base CX0 3 f fd ["_law_pen_here"] (spAny K) := by
  have nd : N_law_any_value.Nodup := sc_law_any_value.nd
  refine F.ok sc_law_any_value (fun vs H Q E h => ?_) (fun cdv A outer s H vs Q E hr h => ?_)
  · obtain ⟨p, o, G, M, b, rfl, _⟩ := h
    rfl
  have hu := hr.units
  refine ⟨_, PSs.nox   (pss_cons (ps_asg (pe_lst (pa_cons pe_non (pa_cons pe_bl (pa_cons pe_bl (pa_cons pe_int (pa_cons pe_int (pa_cons pe_int (pa_cons pe_int (pa_cons pe_int (pa_cons (pe_un un_neg pe_int) (pa_cons (pe_op o_pow pe_int pe_int) (pa_cons pe_str (pa_cons pe_str (pa_cons pe_str (pa_cons pe_str (pa_cons pe_str (pa_cons pe_str (pa_cons (pe_tup pa_nil) (pa_cons (pe_tup (pa_cons pe_str pa_nil)) pa_nil))))))))))))))))))) (pg_name (i := 1) nd rfl (by first | exact .inl rfl | exact .inr rfl)))
    (pss_cons (ps_asg (pe_op (k_add (K := K)) (pv 1) (pe_lst (pa_cons (pe_lst pa_nil) (pa_cons (pe_lst (pa_cons pe_str pa_nil)) (pa_cons (pe_lst (pa_cons pe_int pa_nil)) (pa_cons pe_dnewK (pa_cons (pe_disp (pps_cons pe_str pe_int pps_nil) (by rfl) (by rfl) (fun z => by cases z) (by decide)) (pa_cons (pe_tup (pa_cons pe_int (pa_cons pe_int pa_nil))) (pa_cons (pe_tup (pa_cons pe_str pa_nil)) (pa_cons (pe_tup (pa_cons pe_non pa_nil)) (pa_cons (pe_tup (pa_cons pe_str (pa_cons pe_int pa_nil))) (pa_cons (pe_lst (pa_cons (pe_lst (pa_cons pe_str pa_nil)) pa_nil)) (pa_cons (pe_tup (pa_cons (pe_tup (pa_cons pe_str pa_nil)) pa_nil)) pa_nil))))))))))))) (pg_name (i := 1) nd rfl (by first | exact .inl rfl | exact .inr rfl)))
    (pss_cons (ps_asg (pe_op (k_add (K := K)) (pv 1) (pe_lst (pa_cons pe_str (pa_cons (pe_disp (pps_cons pe_str (pe_lst pa_nil) pps_nil) (by rfl) (by rfl) (fun z => by cases z) (by decide)) (pa_cons (pe_lst (pa_cons pe_str (pa_cons pe_str pa_nil))) (pa_cons (pe_tup (pa_cons pe_str pa_nil)) pa_nil)))))) (pg_name (i := 1) nd rfl (by first | exact .inl rfl | exact .inr rfl)))
    (pss_one (ps_ret (pe_own C_law_pick (hr.mono (by decide)) (by rfl) pass0 (pa_cons (pv 0) (pa_cons (pv 1) pa_nil)))))))), ?_⟩
  obtain ⟨p, o, G, M, b, rfl, z, hp, hb, q⟩ := h
  with_reducible refine z_seq ?_
  with_reducible refine z_asg ?_
  refine lit_list (ds := any1) (K := K) (by
    refine lit_cons lit_non (lit_cons (lit_bl _) (lit_cons (lit_bl _) (lit_cons (lit_int _) (lit_cons (lit_int _) (lit_cons (lit_int _) (lit_cons (lit_int _) (lit_cons (lit_int _) (lit_cons (lit_neg (lit_int 1)) (lit_cons (lit_pow 10 60 ⟨by decide, by decide, by decide⟩) ?_)))))))))
    exact lit_cons (lit_str _) (lit_cons (lit_str _) (lit_cons (lit_str _) (lit_cons (lit_str _) (lit_cons (lit_str _) (lit_cons (lit_str _) (lit_cons (lit_tup lit_nil (by decide)) (lit_cons (lit_tup (lit_cons (lit_str _) lit_nil) (by decide)) lit_nil)))))))) (by decide) z fun p1 x1 G1 H1 z1 s1 e1 d1 => ?_
  with_reducible refine z_name ?_
  with_reducible refine z_seq ?_
  with_reducible refine z_asg ?_
  with_reducible refine z_op ?_
  (with_reducible apply z_var); (focus rfl)
  refine lit_list (ds := any2) (K := K) (by
    exact lit_cons (lit_lst lit_nil (by decide)) (lit_cons (lit_lst (lit_cons (lit_str _) lit_nil) (by decide)) (lit_cons (lit_lst (lit_cons (lit_int _) lit_nil) (by decide)) (lit_cons lit_dict0 (lit_cons (lit_dict1 (lit_int _)) (lit_cons (lit_tup (lit_cons (lit_int _) (lit_cons (lit_int _) lit_nil)) (by decide)) (lit_cons (lit_tup (lit_cons (lit_str _) lit_nil) (by decide)) (lit_cons (lit_tup (lit_cons lit_non lit_nil) (by decide)) (lit_cons (lit_tup (lit_cons (lit_str _) (lit_cons (lit_int _) lit_nil)) (by decide)) (lit_cons (lit_lst (lit_cons (lit_lst (lit_cons (lit_str _) lit_nil) (by decide)) lit_nil) (by decide)) (lit_cons (lit_tup (lit_cons (lit_tup (lit_cons (lit_str _) lit_nil) (by decide)) lit_nil) (by decide)) lit_nil))))))))))) (by decide) z1 fun p2 x2 G2 H2 z2 s2 e2 d2 => ?_
  have l1 : x1.length = 18 := d1.len (ds := [])
  have l2 : x2.length = 11 := d2.len (ds := [])
  refine z_addL z2 (s2 _ _ e1) e2 (by omega) fun p3 G3 H3 z3 s3 e3 => ?_
  with_reducible refine z_name ?_
  with_reducible refine z_seq ?_
  with_reducible refine z_asg ?_
  with_reducible refine z_op ?_
  (with_reducible apply z_var); (focus rfl)
  refine lit_list (ds := any3) (K := K) (by
    exact lit_cons (lit_str _) (lit_cons (lit_dict1 (lit_lst lit_nil (by decide))) (lit_cons (lit_lst (lit_cons (lit_str _) (lit_cons (lit_str _) lit_nil)) (by decide)) (lit_cons (lit_tup (lit_cons (lit_str _) lit_nil) (by decide)) lit_nil)))) (by decide) z3 fun p4 x4 G4 H4 z4 s4 e4 d4 => ?_
  have l4 : x4.length = 4 := d4.len (ds := [])
  have l3 : (x1 ++ x2).length = 29 := by rw [List.length_append, l1, l2]
  refine z_addL z4 (s4 _ _ e3) e4 (by omega) fun p5 G5 H5 z5 s5 e5 => ?_
  repeat (walk_at "z")
  have s15 := s1.trans (s2.trans (s3.trans (s4.trans s5)))
  have l5 : (x1 ++ x2 ++ x4).length = 33 := by rw [List.length_append, l3, l4]
  refine ⟨p, o, G5, M, b, _, rfl, z5, hp.up s15, by omega, .inl ⟨p5, _, rfl, .inl (SqL.of e5), (fun e => by rw [e] at l5; cases l5), by omega, fun v G6 H6 o6 hv z6 s6 hp6 => ?_⟩⟩
  have dd : Dts K G5 (x1 ++ x2 ++ x4) (any1 ++ any2 ++ any3) := ((d1.up (s2.trans (s3.trans (s4.trans s5)))).app (d2.up (s3.trans (s4.trans s5)))).app (d4.up s5)
  obtain ⟨d, hd, hv⟩ := dd.mem hv
  exact q v d G6 H6 o6 z6 (s15.trans s6) hp6 (hv.up s6) (any_ok d hd)
/-! ### the law's own looks -/
def spWordL (K : PySem.W.Frag) : Sp := spWord K
theorem ok_lword (T : Nm K mg) (F : FnP K "_law_is_word" s_law_is_word f fd) : FnOk P w K mg base CX0 1 f fd ["_law_value"] (spWord K) := by
  have nd : N_law_is_word.Nodup := sc_law_is_word.nd
  refine F.ok sc_law_is_word (fun vs H Q E h => ?_) (fun cdv A outer s H vs Q E hr h => ?_)
  · obtain ⟨G, M, v, d, rfl, _⟩ := h
    rfl
  have hu := hr.units
  refine ⟨_, PSs.nox   (pss_cons (ps_asg pe_str (pg_name (i := 1) nd rfl (by first | exact .inl rfl | exact .inr rfl)))
    (pss_cons (ps_if (PW.pt (pw_or (pt_not (pt_val (pe_callB (kc_isi (K := K)) (by rfl) T.b_isinstance boot_isinstance (pa_cons (pv 0) (pa_cons (pe_bltn (v := .ty "str") (by rfl) T.b_str boot_str rfl) pa_nil))))) (pw_or1 (pt_not (pt_chain o_le o_le pe_int (pe_callB (kc_len (K := K) (P := P) (w := w)) (by rfl) T.b_len PySem.boot_len (pa_cons (pv 0) pa_nil)) pe_int))))) (pss_one (ps_ret pe_bl)) pss_nil)
    (pss_one (ps_ret (pe_cmpR (k_eq (K := K) hu) (pe_lc (own := [("_law_sign", 2)]) rfl nd (k_any (K := K) (pv 0)) (blkOk_by (N := N_law_is_word) (sc := defScope s_law_is_word) (by decide +kernel)) (fun _ _ _ _ _ => (pg_name (i := 2) nd rfl (by first | exact .inl rfl | exact .inr rfl))) (fun _ _ _ _ _ => pts_one (pt_cmpR (k_notIn (K := K)) (pv 2) (pv 1) (by rfl))) (fun _ _ _ _ _ => (pv 2))) (pe_lst pa_nil) (nomark _)))))), ?_⟩
  obtain ⟨G, M, v, d, rfl, z, hd, hs, q⟩ := h
  repeat (walk_at "z")
  refine z_isi (.ty "str") (hd.up z.sub).ty (kit_ty (kit_str d)) ?_
  cases hi : isStrD d with
  | false =>
    repeat (walk_at "z")
    have := q G H z (Same.refl G)
    rw [wordD_ns hi] at this
    exact this
  | true =>
    cases hd with
    | str t =>
      have hl := hs t rfl
      repeat (walk_at "z")
      refine z_lenS hl ?_
      repeat (walk_at "z")
      have fls : ¬ (1 ≤ t.length ∧ t.length ≤ 8) → Q (.bl false) H := fun c => by
        have := q G H z (Same.refl G)
        have e : wordD (.str t) = false := by
          show (decide _ && (decide _ && _)) = _
          by_cases c1 : 1 ≤ t.length
          · rw [decide_eq_false (show ¬ t.length ≤ 8 from fun h => c ⟨c1, h⟩), Bool.false_and, Bool.and_false]
          · rw [decide_eq_false c1, Bool.false_and]
        rw [e] at this
        exact this
      refine z_bd (fun c1 => ?_) (fun c1 => ?_)
      · repeat (walk_at "z")
        refine z_bd (fun c2 => ?_) (fun c2 => ?_)
        · repeat (walk_at "z")
          refine z_anyS ?_
          repeat (walk_at "z")
          refine z_itS ?_
          refine lc_src src_S (fun i G' M' acc => M' = M ∧ G' = G ∧ acc = ((t.cps.toList.take i).filter fun c => !decide (c ∈ abcL)).map fun c => V.str ⟨#[c]⟩) z ⟨rfl, rfl, rfl⟩ (fun _ _ _ _ _ _ _ _ => trivial) ?_ ?_
          · rintro i x G2 M2 acc Dl H2 hx ⟨rfl, rfl, rfl⟩ z2
            obtain ⟨c, hc, rfl⟩ : ∃ c, t.cps.toList[i]? = some c ∧ x = V.str ⟨#[c]⟩ := by
              unfold chrV at hx
              rw [List.getElem?_map] at hx
              cases e : t.cps.toList[i]? with
              | none => rw [e] at hx; cases hx
              | some c => rw [e] at hx; exact ⟨c, rfl, (Option.some.inj hx).symm⟩
            repeat (walk_at "z")
            refine ⟨by rfl, ?_⟩
            repeat (walk_at "z")
            refine .inl ⟨c, _, rfl, rfl, ?_⟩
            refine ⟨_, rfl, ?_⟩
            show Bif (!decide (c ∈ abcL)) _ _
            have tk : ((t.cps.toList.take (i + 1)).filter fun c => !decide (c ∈ abcL)) = ((t.cps.toList.take i).filter fun c => !decide (c ∈ abcL)) ++ if (!decide (c ∈ abcL)) = true then [c] else [] := by
              rw [List.take_add_one, hc, List.filter_append]
              congr 1
              show List.filter _ [c] = _
              rw [List.filter_cons]
              rfl
            refine z_b2 (fun c3 => ?_) (fun c3 => ?_)
            · repeat (walk_at "z")
              refine z_laid z2 ?_ ⟨rfl, rfl, ?_⟩
              · rw [List.length_map]
                have h1 := List.length_filter_le (fun c => !decide (c ∈ abcL)) (t.cps.toList.take i)
                have h2 : (t.cps.toList.take i).length ≤ t.length := by rw [List.length_take, Array.length_toList]; exact Nat.min_le_right _ _
                omega
              · rw [tk, if_pos c3, List.map_append]
                rfl
            · refine z_left z2 ⟨rfl, rfl, ?_⟩
              rw [tk, if_neg (by rw [c3]; exact Bool.false_ne_true), List.append_nil]
          · rintro p2 G2 M2 acc G3 H3 ⟨rfl, rfl, rfl⟩ s3 z3 e3
            rw [chrV_len, show t.length = t.cps.toList.length from (Array.length_toList).symm, List.take_length] at e3
            repeat (walk_at "z")
            refine z_newL z3 (by simp) fun p4 G4 H4 z4 s4 e4 => ?_
            refine z_eqNil (z4.seqL (SqL.of (s4 _ _ e3))) (z4.sub _ _ e4) ?_
            have := q G4 _ z4 (s3.trans s4)
            have e : wordD (.str t) = decide ((((t.cps.toList).filter fun c => !decide (c ∈ abcL)).map fun c => V.str ⟨#[c]⟩) = []) := by
              show (decide _ && (decide _ && _)) = _
              rw [decide_eq_true (show 1 ≤ t.length by omega), decide_eq_true (show t.length ≤ 8 by omega), Bool.true_and, Bool.true_and]
              rw [Bool.eq_iff_iff, List.all_eq_true, decide_eq_true_iff, List.map_eq_nil_iff, List.filter_eq_nil_iff]
              simp
            rw [e] at this
            exact this
        · repeat (walk_at "z")
          exact fls fun h => c2 (by omega)
      · repeat (walk_at "z")
        exact fls fun h => c1 (by omega)
    | _ => cases hi
theorem ok_lint (T : Nm K mg) (F : FnP K "_law_is_integer" s_law_is_integer f fd) : FnOk P w K mg base CX0 1 f fd ["_law_value"] (spInt K) := by
  have nd : N_law_is_integer.Nodup := sc_law_is_integer.nd
  refine F.ok sc_law_is_integer (fun vs H Q E h => ?_) (fun cdv A outer s H vs Q E hr h => ?_)
  · obtain ⟨G, M, v, d, rfl, _⟩ := h
    rfl
  have hu := hr.units
  refine ⟨_, PSs.nox   (pss_one (ps_ret (pe_and (pe_callB (kc_isi (K := K)) (by rfl) T.b_isinstance boot_isinstance (pa_cons (pv 0) (pa_cons (pe_bltn (v := .ty "int") (by rfl) T.b_int boot_int rfl) pa_nil))) (pe_one (pe_not (pe_callB (kc_isi (K := K)) (by rfl) T.b_isinstance boot_isinstance (pa_cons (pv 0) (pa_cons (pe_bltn (v := .ty "bool") (by rfl) T.b_bool boot_bool rfl) pa_nil)))))))), ?_⟩
  obtain ⟨G, M, v, d, rfl, z, hd, q⟩ := h
  repeat (walk_at "z")
  refine z_isi (.ty "int") (hd.up z.sub).ty (kit_ty (kit_int d)) ?_
  repeat (walk_at "z")
  have e : intD d = ((intD d || boolD d) && !boolD d) := by cases d <;> rfl
  cases h1 : (intD d || boolD d) with
  | false =>
    repeat (walk_at "z")
    rw [e, h1] at q
    exact q
  | true =>
    repeat (walk_at "z")
    refine z_isi (.ty "bool") (hd.up z.sub).ty (kit_ty (kit_bool d)) ?_
    repeat (walk_at "z")
    rw [e, h1, Bool.true_and] at q
    exact q
end
end LW
namespace LW
open PySem PySem.Spec PyProof.Rows L2 Ys

section
variable {P : Program} {w : World} {K : PySem.W.Frag} {mg : Str → Option Value} {base : Heap} {f : Addr} {fd : FuncData}
abbrev OwnLW (P : Program) (w : World) (K : PySem.W.Frag) (mg : Str → Option Value) (base : Heap) : Prop := Own P w K mg base CX0 1 "_law_is_word" ["_law_value"] (spWord K)
theorem seq_src {G : Hp} {v : V} {d : PyData} (h : Dt K G v d) (hl : listD d = true) : ∃ a xs, v = .ref a ∧ Dts K G xs (itemsD d) ∧ ((SqL K G a xs) ∨ (SqT K G a xs)) := by
  cases h with
  | lst h1 h2 => exact ⟨_, _, rfl, h2, .inl h1⟩
  | tup h1 h2 => exact ⟨_, _, rfl, h2, .inr h1⟩
  | _ => cases hl
/-- a walk over a list or a tuple -/
theorem z_any2 {G H : Hp} {M : List (Addr × HO)} {a : Addr} {xs : List V} {σ : L2.St} {k : Nat} {R : It → Hp → Prop} (z : Zp G M H) (hσ : σ[k]? = some (some (.ref a))) (h : SqL K G a xs ∨ SqT K G a xs)
    (q : ∀ J OK, Src J xs OK → (∀ G1 M1 H1, Same G G1 → Zp G1 M1 H1 → OK H1) → R J H) : iAny K (tVar k) σ H R := by
  rcases h with h | h
  · exact z_anyL (z_var hσ (z_itL z h (q _ _ src_L fun G1 M1 H1 s z1 => z1.seqL (upL s h))))
  · exact z_anyT (z_var hσ (z_itT z h (q _ _ src_T fun G1 M1 H1 s z1 => z1.seqT (upT s h))))
def spNames (K : PySem.W.Frag) : Sp := fun vs H Q _ => ∃ G M v d, vs = [v] ∧ Zp G M H ∧ Dt K G v d ∧ Fn60 d ∧ ∀ G1 H1, Zp G1 M H1 → Same G G1 → Q (.bl (diffD none d)) H1
theorem ok_names (T : Nm K mg) (C_law_is_word : OwnLW P w K mg base) (F : FnP K "_law_are_names" s_law_are_names f fd) : FnOk P w K mg base CX0 2 f fd ["_law_value"] (spNames K) := by
  have nd : N_law_are_names.Nodup := sc_law_are_names.nd
  refine F.ok sc_law_are_names (fun vs H Q E h => ?_) (fun cdv A outer s H vs Q E hr h => ?_)
  · obtain ⟨G, M, v, d, rfl, _⟩ := h
    rfl
  have hu := hr.units
  refine ⟨_, PSs.nox   (pss_cons (ps_if (PW.pt (pw_or (pt_not (pt_val (pe_callB (kc_isi (K := K)) (by rfl) T.b_isinstance boot_isinstance (pa_cons (pv 0) (pa_cons (pe_tup (pa_cons (pe_bltn (v := .ty "list") (by rfl) T.b_list boot_list rfl) (pa_cons (pe_bltn (v := .ty "tuple") (by rfl) T.b_tuple boot_tuple rfl) pa_nil))) pa_nil))))) (pw_or1 (pt_cmpR (k_ne (K := K) hu) (pe_lc (own := [("_law_one", 1)]) rfl nd (k_any (K := K) (pv 0)) (blkOk_by (N := N_law_are_names) (sc := defScope s_law_are_names) (by decide +kernel)) (fun _ _ _ _ _ => (pg_name (i := 1) nd rfl (by first | exact .inl rfl | exact .inr rfl))) (fun _ _ _ _ _ => pts_one (pt_not (pt_val (pe_own C_law_is_word (hr.mono (by decide)) (by rfl) pass0 (pa_cons (pv 1) pa_nil))))) (fun _ _ _ _ _ => (pv 1))) (pe_lst pa_nil) (nomark _))))) (pss_one (ps_ret pe_bl)) pss_nil)
    (pss_one (ps_ret (pe_cmpR (k_eq (K := K) hu) (pe_callB (kc_len (K := K) (P := P) (w := w)) (by rfl) T.b_len PySem.boot_len (pa_cons (pe_callTy (kc_set (K := K) (P := P) (w := w) rfl) (by rfl) T.b_set boot_set (pa_cons (pe_lc (own := [("_law_one", 1)]) (tt := tYes) rfl nd (k_any (K := K) (pv 0)) (blkOk_by (N := N_law_are_names) (sc := defScope s_law_are_names) (by decide +kernel)) (fun _ _ _ _ _ => (pg_name (i := 1) nd rfl (by first | exact .inl rfl | exact .inr rfl))) (fun _ _ _ _ _ => pts_nil) (fun _ _ _ _ _ => (pe_callTy c_str (by rfl) T.b_str boot_str (pa_cons (pv 1) pa_nil)))) pa_nil)) pa_nil)) (pe_callB (kc_len (K := K) (P := P) (w := w)) (by rfl) T.b_len PySem.boot_len (pa_cons (pv 0) pa_nil)) (nomark _))))), ?_⟩
  obtain ⟨G, M, v, d, rfl, z, hd, hf, q⟩ := h
  repeat (walk_at "z")
  refine z_newT z (by simp) fun p1 G1 H1 z1 s1 e1 => ?_
  repeat (walk_at "z")
  refine z_isi2 z1 e1 (.cons (.ty "list") (.cons (.ty "tuple") .nil)) ((hd.up s1).up z1.sub).ty (kit_list d) ?_
  repeat (walk_at "z")
  cases hl : listD d with
  | false =>
    repeat (walk_at "z")
    have := q G1 H1 z1 s1
    have e : diffD none d = false := by unfold diffD wordsD; rw [hl]; rfl
    rw [e] at this
    exact this
  | true =>
    obtain ⟨a, xs, rfl, hxs, hS⟩ := seq_src (hd.up s1) hl
    have hlen := hxs.len (ds := [])
    have hle := hf.le
    repeat (walk_at "z")
    refine z_any2 z1 rfl hS fun J OK S ok => ?_
    refine lc_src S (fun i G' M' acc => M' = M ∧ Same G1 G' ∧ acc.length ≤ i ∧ (acc = [] ↔ ((itemsD d).take i).all wordD = true)) z1 ⟨rfl, Same.refl _, Nat.le_refl _, by simp⟩ (fun i G' M' M1 acc H' ⟨_, s', _⟩ z' => ok G' _ H' s' z') ?_ ?_
    · rintro i x G' M' acc Dl H' hx ⟨rfl, s', ha, hiff⟩ z'
      obtain ⟨e, h1, h2⟩ := hxs.at_ hx
      have hi := (List.getElem?_eq_some_iff.mp h1).1
      repeat (walk_at "z")
      refine ⟨by rfl, ?_⟩
      repeat (walk_at "z")
      refine ⟨G', _, x, e, rfl, z', h2.up s', hf.fi.2 e (List.mem_of_getElem? h1), fun G3 H3 z3 s3 => ?_⟩
      repeat (walk_at "z")
      have tk : ((itemsD d).take (i + 1)).all wordD = (((itemsD d).take i).all wordD && wordD e) := by
        rw [List.take_add_one, h1, List.all_append]
        simp
      cases hw : wordD e with
      | true =>
        repeat (walk_at "z")
        exact z_left z3 ⟨rfl, s'.trans s3, by omega, by rw [tk, hw, Bool.and_true]; exact hiff⟩
      | false =>
        repeat (walk_at "z")
        exact z_laid z3 (by omega) ⟨rfl, s'.trans s3, by rw [List.length_append]; show acc.length + 1 ≤ i + 1; omega, by rw [tk, hw, Bool.and_false]; simp⟩
    rintro p2 G2 M2 acc G3 H3 ⟨rfl, s2, ha, hiff⟩ s3 z3 e3
    rw [hlen, List.take_length] at hiff
    have s03 := s1.trans (s2.trans s3)
    repeat (walk_at "z")
    refine z_newL z3 (by simp) fun p4 G4 H4 z4 s4 e4 => ?_
    repeat (walk_at "z")
    refine z_neNil (z4.seqL (SqL.of (s4 _ _ e3))) (z4.sub _ _ e4) ?_
    repeat (walk_at "z")
    refine z_bd (fun c => ?_) (fun c => ?_)
    · repeat (walk_at "z")
      have := q G4 _ z4 (s03.trans s4)
      have e : diffD none (d) = false := by
        unfold diffD wordsD
        have : (itemsD d).all wordD = false := by
          cases h : (itemsD d).all wordD with
          | false => rfl
          | true => exact absurd (hiff.mpr h) c
        rw [this, Bool.and_false, Bool.and_false, Bool.false_and]
      rw [e] at this
      exact this
    · have hall : (itemsD d).all wordD = true := hiff.mp (Classical.not_not.mp c)
      have hi := strs_of hall
      generalize hss : (itemsD d).map strOf = ss at hi
      rw [hi] at hxs
      have ex := dts_strs hxs
      subst ex
      have hsl : ss.length ≤ 60 := by rw [hi, List.length_map] at hle; exact hle
      have s14 := s2.trans (s3.trans s4)
      have hS4 : SqL K G4 a (ss.map V.str) ∨ SqT K G4 a (ss.map V.str) := hS.imp (upL s14) (upT s14)
      repeat (walk_at "z")
      refine z_any2 z4 rfl hS4 fun J OK S ok => ?_
      refine lc_src S (fun i G' M' acc => M' = M2 ∧ Same G4 G' ∧ acc = (ss.take i).map V.str) z4 ⟨rfl, Same.refl _, rfl⟩ (fun i G' M' M1 acc H' ⟨_, s', _⟩ z' => ok G' _ H' s' z') ?_ ?_
      · rintro i x G' M' acc Dl H' hx ⟨rfl, s', rfl⟩ z'
        obtain ⟨u, hu1, rfl⟩ : ∃ u, ss[i]? = some u ∧ x = V.str u := by
          rw [List.getElem?_map] at hx
          cases e : ss[i]? with
          | none => rw [e] at hx; cases hx
          | some u => rw [e] at hx; exact ⟨u, rfl, (Option.some.inj hx).symm⟩
        repeat (walk_at "z")
        refine ⟨by rfl, ?_⟩
        repeat (walk_at "z")
        refine z_str1 (z_laid z' (by rw [List.length_map, List.length_take]; omega) ⟨rfl, s', ?_⟩)
        rw [List.take_add_one, hu1]
        simp
      rintro p5 G5 M5 acc G6 H6 ⟨rfl, s5, rfl⟩ s6 z6 e6
      rw [List.length_map, List.take_length] at e6
      repeat (walk_at "z")
      refine z_set z6 (.inl (SqL.of e6)) (by omega) fun p7 l7 G7 H7 z7 s7 e7 m7 n7 le7 => ?_
      repeat (walk_at "z")
      refine z_lenX z7 e7 (by omega) ?_
      repeat (walk_at "z")
      have s47 := s5.trans (s6.trans s7)
      refine z_lenH (hS4.imp (fun h => z7.seqL (upL s47 h)) fun h => z7.seqT (upT s47 h)) ?_
      repeat (walk_at "z")
      refine .inl ⟨rfl, ?_⟩
      have := q G7 _ z7 (s03.trans (s4.trans s47))
      have e : diffD none d = decide (V.int (l7.length : Int) = V.int ((ss.map V.str).length : Int)) := by
        unfold diffD wordsD
        rw [hl, hall, hss, ← dd_len m7 n7, hi, List.length_map, List.length_map]
        show (true && (true && true) && _) = _
        rw [Bool.true_and, Bool.true_and, Bool.true_and]
        by_cases c : l7.length = ss.length
        · rw [decide_eq_true c, c]
          exact (decide_eq_true rfl).symm
        · rw [decide_eq_false c]
          exact (decide_eq_false fun h => c (by have := V.int.inj h; omega)).symm
      rw [e] at this
      exact this
end
end LW
namespace LW
open PySem PySem.Spec PyProof.Rows L2 Ys

def rV : Option Str → V
  | none => .non
  | some s => .str s
section
variable {P : Program} {w : World} {K : PySem.W.Frag} {mg : Str → Option Value} {base : Heap} {f : Addr} {fd : FuncData} {C CI : Addr}
abbrev OwnLI (P : Program) (w : World) (K : PySem.W.Frag) (mg : Str → Option Value) (base : Heap) : Prop := Own P w K mg base CX0 1 "_law_is_integer" ["_law_value"] (spInt K)
abbrev OwnLN (P : Program) (w : World) (K : PySem.W.Frag) (mg : Str → Option Value) (base : Heap) : Prop := Own P w K mg base CX0 2 "_law_are_names" ["_law_value"] (spNames K)
def spDue (K : PySem.W.Frag) : Sp := fun vs H Q _ => ∃ G M v0 v1 a d0 d1 v2 v3 v4 v5 d2 d3 d4 d5, vs = [v0, v1, .ref a] ∧ Zp G M H ∧ (Dt K G v0 d0 ∧ ShortD d0) ∧ Dt K G v1 d1 ∧ SqL K G a [v2, v3, v4, v5] ∧ (Dt K G v2 d2 ∧ Fn60 d2) ∧ (Dt K G v3 d3 ∧ Fn60 d3) ∧ (Dt K G v4 d4 ∧ Fn60 d4) ∧ (Dt K G v5 d5 ∧ Fn60 d5) ∧
  ∀ G1 H1, Zp G1 M H1 → Same G G1 → Q (rV (dueD d0 d1 d2 d3 d4 d5)) H1
theorem ok_due (T : Nm K mg) (C_law_is_word : OwnLW P w K mg base) (C_law_is_integer : OwnLI P w K mg base) (C_law_are_names : OwnLN P w K mg base) (F : FnP K "_law_due" s_law_due f fd) : FnOk P w K mg base CX0 3 f fd ["_law_duty", "_law_size", "_law_lists"] (spDue K) := by
  have nd : N_law_due.Nodup := sc_law_due.nd
  refine F.ok sc_law_due (fun vs H Q E h => ?_) (fun cdv A outer s H vs Q E hr h => ?_)
  · obtain ⟨G, M, v0, v1, a, d0, d1, v2, v3, v4, v5, d2, d3, d4, d5, rfl, _⟩ := h
    rfl
  have hu := hr.units
  refine ⟨_, PSs.nox   (pss_cons (ps_if (PW.pt (pw_and (pt_cmpR o_notN (pv 0) pe_non (nomark _)) (pw_and1 (pt_not (pt_val (pe_own C_law_is_word (hr.mono (by decide)) (by rfl) pass0 (pa_cons (pv 0) pa_nil))))))) (pss_one (ps_ret pe_str)) pss_nil)
    (pss_cons (ps_if (PW.pt (pw_or (pt_not (pt_val (pe_own C_law_is_integer (hr.mono (by decide)) (by rfl) pass0 (pa_cons (pv 1) pa_nil)))) (pw_or1 (pt_not (pt_chain o_le o_le pe_int (pv 1) pe_int))))) (pss_one (ps_ret pe_str)) pss_nil)
    (pss_cons (ps_setLc (i := 3) (own := [("_law_k", 4)]) rfl nd rfl rfl (sw_true rfl rfl rfl (by decide +kernel)) (pi_range1 (by rfl) (T.b_range) (pa_cons pe_int pa_nil)) (blkOk_by (N := N_law_due) (sc := defScope s_law_due) (by decide +kernel)) (fun _ _ _ _ _ => (pg_name (i := 4) nd rfl (by first | exact .inl rfl | exact .inr rfl))) (fun _ _ _ _ _ => pts_one (pt_not (pt_val (pe_own C_law_are_names (hr.mono (by decide)) (by rfl) pass0 (pa_cons (pe_ix (k_ix (K := K)) (pv 2) (pv 4) (fun _ _ => rfl)) pa_nil))))) (fun _ _ _ _ _ => (pv 4)))
    (pss_one (ps_ret (pe_ifExp (pt_cmpR (k_ne (K := K) hu) (pv 3) (pe_lst pa_nil) (nomark _)) (pe_ix (k_ix (K := K)) (pe_lst (pa_cons pe_str (pa_cons pe_str (pa_cons pe_str (pa_cons pe_str pa_nil))))) (pe_ix (k_ix (K := K)) (pv 3) pe_int (fun _ _ => rfl)) (fun _ _ => rfl)) pe_non)))))), ?_⟩
  obtain ⟨G, M, v0, v1, a, d0, d1, v2, v3, v4, v5, d2, d3, d4, d5, rfl, z, ⟨a0, sh0⟩, a1, hL, ⟨a2, f2⟩, ⟨a3, f3⟩, ⟨a4, f4⟩, ⟨a5, f5⟩, q⟩ := h
  with_reducible refine z_cut (fun σ H1 => ∃ G1, Zp G1 M H1 ∧ Same G G1 ∧ badRole d0 = false ∧ σ = L2.start N_law_due [v0, v1, .ref a]) (fun nx hnx => ?_) (fun σ H1 h1 => ?_)
  · repeat (walk_at "z")
    refine z_nN ?_
    rw [non_iff a0]
    repeat (walk_at "z")
    cases hn : noneD d0 with
    | true =>
      repeat (walk_at "z")
      exact hnx _ _ ⟨G, z, Same.refl G, by unfold badRole; rw [hn]; rfl, rfl⟩
    | false =>
      repeat (walk_at "z")
      refine ⟨G, _, v0, d0, rfl, z, a0, sh0, fun G1 H1 z1 s1 => ?_⟩
      repeat (walk_at "z")
      cases hw : wordD d0 with
      | true =>
        repeat (walk_at "z")
        exact hnx _ _ ⟨G1, z1, s1, by unfold badRole; rw [hw, hn]; rfl, rfl⟩
      | false =>
        repeat (walk_at "z")
        have := q G1 H1 z1 s1
        have e : dueD d0 d1 d2 d3 d4 d5 = some "role" := by unfold dueD badRole; rw [hw, hn]; rfl
        rw [e] at this
        exact this
  obtain ⟨G1, z1, s1, b0, rfl⟩ := h1
  with_reducible refine z_cut (fun σ H2 => H2 = H1 ∧ withinD 1 3 d1 = true ∧ σ = L2.start N_law_due [v0, v1, .ref a]) (fun nx hnx => ?_) (fun σ H2 h2 => ?_)
  · repeat (walk_at "z")
    refine ⟨G1, _, v1, d1, rfl, z1, a1.up s1, ?_⟩
    have no : withinD 1 3 d1 = false → Q (.str ("many" : Str)) H1 := fun hw => by
      have := q G1 H1 z1 s1
      have e : dueD d0 d1 d2 d3 d4 d5 = some "many" := by unfold dueD; rw [b0, hw]; rfl
      rw [e] at this
      exact this
    repeat (walk_at "z")
    cases hi : intD d1 with
    | false =>
      repeat (walk_at "z")
      exact no (by cases d1 <;> first | rfl | cases hi)
    | true =>
      cases a1 with
      | int i =>
        repeat (walk_at "z")
        refine z_bd (fun c1 => ?_) (fun c1 => ?_)
        · repeat (walk_at "z")
          refine z_bd (fun c2 => ?_) (fun c2 => ?_)
          · repeat (walk_at "z")
            exact hnx _ _ ⟨rfl, by show (decide (1 ≤ i) && decide (i ≤ 3)) = true; rw [decide_eq_true c1, decide_eq_true c2]; rfl, rfl⟩
          · repeat (walk_at "z")
            exact no (by show (decide (1 ≤ i) && decide (i ≤ 3)) = false; rw [decide_eq_false c2, Bool.and_false])
        · repeat (walk_at "z")
          exact no (by show (decide (1 ≤ i) && decide (i ≤ 3)) = false; rw [decide_eq_false c1, Bool.false_and])
      | _ => cases hi
  obtain ⟨rfl, b1, rfl⟩ := h2
  let dsL : List PyData := [d2, d3, d4, d5]
  let bad : Nat → Bool := fun k => !diffD none (dsL.getD k .none)
  repeat (walk_at "z")
  refine z_itR (by omega) (by omega) ?_
  refine lc_src src_R (fun i G' M' acc => M' = M ∧ Same G1 G' ∧ acc.length ≤ i ∧ acc = ((List.range i).filter bad).map fun (k : Nat) => V.int (k : Int)) z1 ⟨rfl, Same.refl _, Nat.le_refl _, rfl⟩ (fun _ _ _ _ _ _ _ _ => trivial) ?_ ?_
  · rintro i x G' M' acc Dl H' hx ⟨rfl, s', ha, rfl⟩ z'
    obtain ⟨hi, rfl⟩ := rng_at hx
    have hi4 : i < 4 := hi
    obtain ⟨v, d, hat, hd, hf, hg⟩ : ∃ v d, atI [v2, v3, v4, v5] (0 + (i : Int)) = some v ∧ Dt K G v d ∧ Fn60 d ∧ dsL.getD i .none = d := by
      rcases (show i = 0 ∨ i = 1 ∨ i = 2 ∨ i = 3 by omega) with rfl | rfl | rfl | rfl
      · exact ⟨v2, d2, rfl, a2, f2, rfl⟩
      · exact ⟨v3, d3, rfl, a3, f3, rfl⟩
      · exact ⟨v4, d4, rfl, a4, f4, rfl⟩
      · exact ⟨v5, d5, rfl, a5, f5, rfl⟩
    repeat (walk_at "z")
    refine ⟨by rfl, ?_⟩
    repeat (walk_at "z")
    refine z_ixL z' (upL (s1.trans s') hL) hat ?_
    repeat (walk_at "z")
    refine ⟨G', _, v, d, rfl, z', hd.up (s1.trans s'), hf, fun G3 H3 z3 s3 => ?_⟩
    repeat (walk_at "z")
    have tk : (List.range (i + 1)).filter bad = (List.range i).filter bad ++ if (!diffD none d) = true then [i] else [] := by
      rw [List.range_succ, List.filter_append]
      congr 1
      rw [List.filter_cons]
      show (if (!diffD none (dsL.getD i .none)) = true then _ else _) = _
      rw [hg]
      rfl
    cases hw : diffD none d with
    | true =>
      repeat (walk_at "z")
      exact z_left z3 ⟨rfl, s'.trans s3, by omega, by rw [tk, hw]; simp⟩
    | false =>
      repeat (walk_at "z")
      exact z_laid z3 (by omega) ⟨rfl, s'.trans s3, by rw [List.length_append]; show _ + 1 ≤ i + 1; omega, by rw [tk, hw]; simp⟩
  rintro p2 G2 M2 acc G3 H3 ⟨rfl, s2, ha, hacc⟩ s3 z3 e3
  rw [rngV_len] at ha hacc
  have s03 := s1.trans (s2.trans s3)
  repeat (walk_at "z")
  refine z_newL z3 (by simp) fun p4 G4 H4 z4 s4 e4 => ?_
  repeat (walk_at "z")
  refine z_neNil (z4.seqL (SqL.of (s4 _ _ e3))) (z4.sub _ _ e4) ?_
  repeat (walk_at "z")
  have hr4 : (List.range (4 : Int).toNat).filter bad = (if (!diffD none d2) = true then [0] else []) ++ ((if (!diffD none d3) = true then [1] else []) ++ ((if (!diffD none d4) = true then [2] else []) ++ if (!diffD none d5) = true then [3] else [])) := by
    show [0, 1, 2, 3].filter bad = _
    simp only [List.filter_cons, List.filter_nil]
    have g0 : bad 0 = !diffD none d2 := rfl
    have g1 : bad 1 = !diffD none d3 := rfl
    have g2 : bad 2 = !diffD none d4 := rfl
    have g3 : bad 3 = !diffD none d5 := rfl
    rw [g0, g1, g2, g3]
    cases diffD none d2 <;> cases diffD none d3 <;> cases diffD none d4 <;> cases diffD none d5 <;> rfl
  rw [hr4] at hacc
  have fin : ∀ (j : Nat) (fl : Str) rest, acc = V.int (j : Int) :: rest → j < 4 → [V.str ("other" : Str), .str ("same" : Str), .str ("takes" : Str), .str ("forgets" : Str)][j]? = some (.str fl) → dueD d0 d1 d2 d3 d4 d5 = some fl →
      Bif (decide (acc ≠ [])) ((tOp (rIx K) (tLst (tCons (tC (V.str ("other" : Str))) (tCons (tC (V.str ("same" : Str))) (tCons (tC (V.str ("takes" : Str))) (tCons (tC (V.str ("forgets" : Str))) tNil))))) (tOp (rIx K) (tVar 3) (tC (V.int 0)))) (List.set (L2.start N_law_due [v0, v1, V.ref a]) 3 (some (V.ref p2))) H4 Q) (Q .non H4) := fun j fl rest e hj hfl hdue => by
    rw [decide_eq_true (show acc ≠ [] by rw [e]; simp)]
    repeat (walk_at "z")
    refine z_newL z4 (by simp) fun p5 G5 H5 z5 s5 e5 => ?_
    repeat (walk_at "z")
    refine z_ixL z5 (SqL.of (s5 _ _ (s4 _ _ e3))) (v := .int (j : Int)) (by rw [e]; exact atI_nat (j := 0) rfl) ?_
    refine z_ixL z5 (SqL.of e5) (atI_nat hfl) ?_
    have := q G5 _ z5 (s03.trans (s4.trans s5))
    rw [hdue] at this
    exact this
  cases g2 : diffD none d2 with
  | false =>
    refine fin 0 "other" _ (by rw [hacc, g2]; rfl) (by decide) rfl (by unfold dueD; rw [b0, b1, g2]; rfl)
  | true =>
  cases g3 : diffD none d3 with
  | false =>
    refine fin 1 "same" _ (by rw [hacc, g2, g3]; rfl) (by decide) rfl (by unfold dueD; rw [b0, b1, g2, g3]; rfl)
  | true =>
  cases g4 : diffD none d4 with
  | false =>
    refine fin 2 "takes" _ (by rw [hacc, g2, g3, g4]; rfl) (by decide) rfl (by unfold dueD; rw [b0, b1, g2, g3, g4]; rfl)
  | true =>
  cases g5 : diffD none d5 with
  | false =>
    refine fin 3 "forgets" _ (by rw [hacc, g2, g3, g4, g5]; rfl) (by decide) rfl (by unfold dueD; rw [b0, b1, g2, g3, g4, g5]; rfl)
  | true =>
    have e : acc = [] := by rw [hacc, g2, g3, g4, g5]; rfl
    rw [decide_eq_false (show ¬ acc ≠ [] from fun h => h e)]
    repeat (walk_at "z")
    have := q G4 _ z4 (s03.trans s4)
    rw [show dueD d0 d1 d2 d3 d4 d5 = none by unfold dueD; rw [b0, b1, g2, g3, g4, g5]; rfl] at this
    exact this
def gV1 (vs zs : List V) : List V := vs ++ zs
theorem ok_told (T : Nm K mg) (hVE : mg "ValueError" = none) (S_InvalidTask : ExcS P w K mg base CI "InvalidTask" "field") (XC : ExcC K CI) (XF : XfC K CI) (hno : PySem.W.findIn K (.ref CI) "field" = some none) (hex : PySem.W.exmOne K (.ref CI) (.ref CI) = some true) (hkt : PySem.W.kitOne K (.ref CI) (.type "ValueError") = some true)
    (B_Task : MkS P w K mg base (L2.CX P w) 4 C "Task" 1 ["many", "other", "same", "takes", "forgets"] gV1 (spInitX K C CI)) (F : FnP K "_law_told" s_law_told f fd) : FnOk P w K mg base CX0 6 f fd ["_law_duty", "_law_size", "_law_lists"] (spDue K) := by
  have nd : N_law_told.Nodup := sc_law_told.nd
  refine F.ok sc_law_told (fun vs H Q E h => ?_) (fun cdv A outer s H vs Q E hr h => ?_)
  · obtain ⟨G, M, v0, v1, a, d0, d1, v2, v3, v4, v5, d2, d3, d4, d5, rfl, _⟩ := h
    rfl
  have hu := hr.units
  refine ⟨_, PSs.nox (pss_one (ps_try_as (x := "InvalidTask") (n := "e") (c := .ref CI) (i := 3) (Wout := fun _ _ _ _ => False) rfl rfl nd rfl rfl ⟨by rfl, by decide, .inl S_InvalidTask.gC⟩ takes0
    (fun W pn xe tW pW => pss_cons (ps_expr (pe_mkX B_Task (hr.mono (by decide)) (by rfl) tW (pa_cons (pv 0) pa_nil) (pk_cons (pv 1) (pk_cons (pe_ix (k_ix (K := K)) (pv 2) pe_int (fun _ _ => rfl)) (pk_cons (pe_ix (k_ix (K := K)) (pv 2) pe_int (fun _ _ => rfl)) (pk_cons (pe_ix (k_ix (K := K)) (pv 2) pe_int (fun _ _ => rfl)) (pk_cons (pe_ix (k_ix (K := K)) (pv 2) pe_int (fun _ _ => rfl)) pk_nil))))))) (pss_one (ps_ret pe_non)))
    (fun a oe cls d pn hz hf => pss_one (ps_ret (pe_ifExp (pt_val (pe_callB (call_isX XC hz hf) (by rfl) T.b_isinstance boot_isinstance (pa_cons (pv 3) (pa_cons (pe_bltn (v := .ty "ValueError") (by rfl) hVE PyProof.Rows.Boot.«ValueError» rfl) pa_nil)))) (pe_xf XF hno hz hf (pv 3)) pe_str))))), ?_⟩
  obtain ⟨G, M, v0, v1, a, d0, d1, v2, v3, v4, v5, d2, d3, d4, d5, rfl, z, ⟨a0, sh0⟩, a1, hL, ⟨a2, f2⟩, ⟨a3, f3⟩, ⟨a4, f4⟩, ⟨a5, f5⟩, q⟩ := h
  repeat (walk_at "z")
  refine z_ixL z hL (v := v2) rfl ?_
  repeat (walk_at "z")
  refine z_ixL z hL (v := v3) rfl ?_
  repeat (walk_at "z")
  refine z_ixL z hL (v := v4) rfl ?_
  repeat (walk_at "z")
  refine z_ixL z hL (v := v5) rfl ?_
  repeat (walk_at "z")
  refine z_mkSI z rfl rfl fun x dx H1 z1 s1 => ?_
  refine ⟨x, dx, _, _, v0, v1, v2, v3, v4, v5, d0, d1, d2, d3, d4, d5, rfl, z1, ⟨a0.up s1, sh0⟩, a1.up s1, ⟨.inl (a2.up s1), f2⟩, ⟨.inl (a3.up s1), f3⟩, ⟨.inl (a4.up s1), f4⟩, ⟨.inl (a5.up s1), f5⟩, fun hdue G2 H2 z2 s2 => ⟨rfl, ?_⟩, fun fl hdue dd G2 H2 z2 s2 hx => ?_⟩
  · repeat (walk_at "z")
    have := q G2 H2 z2 (s1.trans s2)
    rw [hdue] at this
    exact this
  · refine ⟨true, hex, fun _ e he => ?_, fun z => by cases z⟩
    repeat (walk_at "z")
    refine ⟨.ty "ValueError", .type "ValueError", true, dd, _, rfl, rfl, .ty _, hkt, rfl, z2.sub _ _ hx, ?_⟩
    repeat (walk_at "z")
    refine ⟨_, rfl, rfl, rfl, dd, _, _, rfl, z2.sub _ _ hx, rfl, ?_⟩
    have := q G2 H2 z2 (s1.trans s2)
    rw [hdue] at this
    exact this
end
end LW
namespace LW
open PySem PySem.Spec PyProof.Rows L2 Ys

theorem wd_fn {ns : List Str} (h : ∀ s ∈ ns, s.length ≤ 100) (hl : ns.length ≤ 60) : Fn60 (.list (ns.map PyData.str)) := by
  refine ⟨⟨by show (ns.map PyData.str).length ≤ _; rw [List.length_map]; omega, fun e he => ?_⟩, by show (ns.map PyData.str).length ≤ _; rw [List.length_map]; omega⟩
  obtain ⟨s, hs, rfl⟩ := List.mem_map.mp (show e ∈ ns.map PyData.str from he)
  exact fun t e => by
    cases e
    have := h s hs
    omega
theorem wd_fnT {ns : List Str} (h : ∀ s ∈ ns, s.length ≤ 100) (hl : ns.length ≤ 60) : Fn60 (.tuple (ns.map PyData.str)) := by
  have := wd_fn h hl
  exact ⟨⟨this.1.1, this.1.2⟩, this.2⟩
section
variable {P : Program} {w : World} {K : PySem.W.Frag} {mg : Str → Option Value} {base : Heap} {f : Addr} {fd : FuncData}
abbrev OwnA (P : Program) (w : World) (K : PySem.W.Frag) (mg : Str → Option Value) (base : Heap) : Prop := Own P w K mg base CX0 3 "_law_any_value" ["_law_pen_here"] (spAny K)
def spList (K : PySem.W.Frag) : Sp := fun vs H Q _ => ∃ p lw o G M b, ∃ ss : List Str, vs = [.ref p, .ref lw] ∧ Zp G ((p, o) :: M) H ∧ Pen K G b o ∧ b ≤ 10000000000 ∧ G lw = some (.lst (ss.map V.str)) ∧ ss.length ≤ 10 ∧ (∀ s ∈ ss, Wd s) ∧
  ∀ v d G1 H1 o1, Zp G1 ((p, o1) :: M) H1 → Same G G1 → Pen K G1 (b + 10) o1 → Dt K G1 v d → Fn60 d → Q v H1
theorem ok_list (T : Nm K mg) (C_law_draw : OwnD P w K mg base) (C_law_any_value : OwnA P w K mg base) (F : FnP K "_law_list" s_law_list f fd) : FnOk P w K mg base CX0 4 f fd ["_law_pen_here", "_law_titles"] (spList K) := by
  have nd : N_law_list.Nodup := sc_law_list.nd
  refine F.ok sc_law_list (fun vs H Q E h => ?_) (fun cdv A outer s H vs Q E hr h => ?_)
  · obtain ⟨p, lw, o, G, M, b, ss, rfl, _⟩ := h
    rfl
  have hu := hr.units
  refine ⟨_, PSs.nox   (pss_cons (ps_asg (pe_slice (k_sl (K := K)) (pv 1) po_none (po_some (pe_own C_law_draw (hr.mono (by decide)) (by rfl) pass0 (pa_cons (pv 0) (pa_cons pe_int pa_nil))))) (pg_name (i := 2) nd rfl (by first | exact .inl rfl | exact .inr rfl)))
    (pss_cons (ps_asg (pe_own C_law_draw (hr.mono (by decide)) (by rfl) pass0 (pa_cons (pv 0) (pa_cons pe_int pa_nil))) (pg_name (i := 3) nd rfl (by first | exact .inl rfl | exact .inr rfl)))
    (pss_cons (ps_if (pt_cmpR (k_eq (K := K) hu) (pv 3) pe_int (nomark _)) (pss_one (ps_ret (pe_op (k_add (K := K)) (pe_op (k_add (K := K)) (pe_op (k_add (K := K)) (pv 2) (pe_slice (k_sl (K := K)) (pv 2) po_none (po_some pe_int))) (pe_slice (k_sl (K := K)) (pv 2) po_none (po_some pe_int))) (pe_lst (pa_cons pe_str pa_nil))))) pss_nil)
    (pss_cons (ps_if (pt_cmpR (k_eq (K := K) hu) (pv 3) pe_int (nomark _)) (pss_one (ps_ret (pe_op (k_add (K := K)) (pv 2) (pe_lst (pa_cons (pe_own C_law_any_value (hr.mono (by decide)) (by rfl) pass0 (pa_cons (pv 0) pa_nil)) pa_nil))))) pss_nil)
    (pss_cons (ps_if (pt_cmpR (k_eq (K := K) hu) (pv 3) pe_int (nomark _)) (pss_one (ps_ret (pe_own C_law_any_value (hr.mono (by decide)) (by rfl) pass0 (pa_cons (pv 0) pa_nil)))) pss_nil)
    (pss_one (ps_ret (pe_ifExp (pt_cmpR (k_eq (K := K) hu) (pv 3) pe_int (nomark _)) (pe_callTy (kc_tuple (K := K)) (by rfl) T.b_tuple boot_tuple (pa_cons (pv 2) pa_nil)) (pv 2))))))))), ?_⟩
  obtain ⟨p, lw, o, G, M, b, ss, rfl, z, hp, hb, hlw, hs10, hw, q⟩ := h
  repeat (walk_at "z")
  refine ⟨p, o, G, M, b, 3, rfl, z, hp, by omega, by decide, by decide, fun r G1 H1 o1 z1 s1 hp1 r0 r3 => ?_⟩
  repeat (walk_at "z")
  refine z_slL z1 (SqL.of (s1 _ _ hlw)) fun q2 G2 H2 z2 s2 e2 => ?_
  rw [cut_map] at e2
  generalize hc : (List.take _ _ : List Str) = ns at e2
  have m : (∀ s ∈ ns, Wd s) ∧ ns.length ≤ 10 := by
    rw [← hc]
    exact ⟨fun s hs => hw s (List.mem_of_mem_drop (List.mem_of_mem_take hs)), by rw [List.length_take, List.length_drop]; omega⟩
  have m1 : ∀ s ∈ ns, s.length ≤ 100 := fun s hs => by have := (m.1 s hs).2.1; omega
  have m2 := m.2
  have s02 := s1.trans s2
  repeat (walk_at "z")
  refine ⟨p, o1, G2, M, b + 1, 9, rfl, z2, hp1.up s2, by omega, by decide, by decide, fun r9 G3 H3 o3 z3 s3 hp3 w0 w9 => ?_⟩
  have s03 := s02.trans s3
  have e3 := s3 _ _ e2
  repeat (walk_at "z")
  refine z_eqS rfl ?_
  repeat (walk_at "z")
  refine z_bd (fun c1 => ?_) (fun c1 => ?_)
  · repeat (walk_at "z")
    refine z_slL z3 (SqL.of e3) fun q4 G4 H4 z4 s4 e4 => ?_
    rw [cut_map] at e4
    generalize hc4 : (List.take _ _ : List Str) = n4 at e4
    have m4 : (∀ s ∈ n4, s.length ≤ 100) ∧ n4.length ≤ 10 := by
      rw [← hc4]
      exact ⟨fun s hs => m1 s (List.mem_of_mem_drop (List.mem_of_mem_take hs)), by rw [List.length_take, List.length_drop]; omega⟩
    repeat (walk_at "z")
    refine z_addL z4 (s4 _ _ e3) e4 (by rw [List.length_map, List.length_map]; omega) fun q5 G5 H5 z5 s5 e5 => ?_
    repeat (walk_at "z")
    refine z_slL z5 (SqL.of (s5 _ _ (s4 _ _ e3))) fun q6 G6 H6 z6 s6 e6 => ?_
    rw [cut_map] at e6
    generalize hc6 : (List.take _ _ : List Str) = n6 at e6
    have m6 : (∀ s ∈ n6, s.length ≤ 100) ∧ n6.length ≤ 10 := by
      rw [← hc6]
      exact ⟨fun s hs => m1 s (List.mem_of_mem_drop (List.mem_of_mem_take hs)), by rw [List.length_take, List.length_drop]; omega⟩
    have m42 := m4.2
    have m62 := m6.2
    repeat (walk_at "z")
    refine z_addL z6 (s6 _ _ e5) e6 (by rw [List.length_append, List.length_map, List.length_map, List.length_map]; omega) fun q7 G7 H7 z7 s7 e7 => ?_
    repeat (walk_at "z")
    refine z_newL z7 (by simp) fun q8 G8 H8 z8 s8 e8 => ?_
    repeat (walk_at "z")
    refine z_addL z8 (s8 _ _ e7) e8 (by rw [List.length_append, List.length_append, List.length_map, List.length_map, List.length_map]; show _ + 1 ≤ _; omega) fun q9 G9 H9 z9 s9 e9 => ?_
    repeat (walk_at "z")
    have s39 := s4.trans (s5.trans (s6.trans (s7.trans (s8.trans s9))))
    have e9 : G9 q9 = some (.lst ((ns ++ n4 ++ n6 ++ [("x" : Str)]).map V.str)) := by
      rw [e9, List.map_append, List.map_append, List.map_append]
      rfl
    refine q _ _ G9 _ _ z9 (s03.trans s39) ((hp3.up s39).mono (by omega)) (.lst (SqL.of e9) (dts_str _)) (wd_fn (fun s hs => ?_) ?_)
    · rcases List.mem_append.mp hs with hs | hs
      · rcases List.mem_append.mp hs with hs | hs
        · rcases List.mem_append.mp hs with hs | hs
          · exact m1 s hs
          · exact m4.1 s hs
        · exact m6.1 s hs
      · rcases List.mem_singleton.mp hs with rfl
        show (1 : Nat) ≤ 100
        decide
    · rw [List.length_append, List.length_append, List.length_append]
      show _ + 1 ≤ _
      omega
  repeat (walk_at "z")
  refine z_eqS rfl ?_
  repeat (walk_at "z")
  refine z_bd (fun c2 => ?_) (fun c2 => ?_)
  · repeat (walk_at "z")
    refine ⟨p, o3, G3, M, b + 1 + 1, rfl, z3, hp3, by omega, fun v d G4 H4 o4 z4 s4 hp4 hd hO => ?_⟩
    repeat (walk_at "z")
    refine z_newL z4 (by simp) fun q5 G5 H5 z5 s5 e5 => ?_
    repeat (walk_at "z")
    refine z_addL z5 (s5 _ _ (s4 _ _ e3)) e5 (by rw [List.length_map]; show _ + 1 ≤ _; omega) fun q6 G6 H6 z6 s6 e6 => ?_
    repeat (walk_at "z")
    have s36 := s4.trans (s5.trans s6)
    have w3 := wd_fn m1 (by omega)
    refine q _ (.list (ns.map PyData.str ++ [d])) G6 _ _ z6 (s03.trans s36) ((hp4.up (s5.trans s6)).mono (by omega)) (.lst (SqL.of e6) ((dts_str _).app (.cons (hd.up (s5.trans s6)) .nil))) ?_
    have l1 : (ns.map PyData.str ++ [d]).length = ns.length + 1 := by rw [List.length_append, List.length_map]; rfl
    refine ⟨⟨by show (ns.map PyData.str ++ [d]).length ≤ _; omega, fun e he => ?_⟩, by show (ns.map PyData.str ++ [d]).length ≤ _; omega⟩
    rcases List.mem_append.mp (show e ∈ ns.map PyData.str ++ [d] from he) with he | he
    · exact w3.1.2 e he
    · rcases List.mem_singleton.mp he with rfl
      exact hO.sh
  repeat (walk_at "z")
  refine z_eqS rfl ?_
  repeat (walk_at "z")
  refine z_bd (fun c3 => ?_) (fun c3 => ?_)
  · repeat (walk_at "z")
    refine ⟨p, o3, G3, M, b + 1 + 1, rfl, z3, hp3, by omega, fun v d G4 H4 o4 z4 s4 hp4 hd hO => ?_⟩
    repeat (walk_at "z")
    exact q v d G4 _ _ z4 (s03.trans s4) (hp4.mono (by omega)) hd hO.fn
  repeat (walk_at "z")
  refine z_eqS rfl ?_
  repeat (walk_at "z")
  refine z_bd (fun c4 => ?_) (fun c4 => ?_)
  · repeat (walk_at "z")
    refine z_tupL z3 (SqL.of e3) fun q4 G4 H4 z4 s4 e4 => ?_
    repeat (walk_at "z")
    exact q _ _ G4 _ _ z4 (s03.trans s4) ((hp3.up s4).mono (by omega)) (.tup e4 (dts_str _)) (wd_fnT m1 (by omega))
  · repeat (walk_at "z")
    exact q _ _ G3 _ _ z3 s03 (hp3.mono (by omega)) (.lst (SqL.of e3) (dts_str _)) (wd_fn m1 (by omega))
end
end LW
namespace LW
open PySem PySem.Spec PyProof.Rows L2 Ys

section
variable {P : Program} {w : World} {K : PySem.W.Frag} {mg : Str → Option Value} {base : Heap} {f : Addr} {fd : FuncData}
variable {H : Hp} {Q : V → Hp → Prop}
theorem z_neR (x : Option Str) (q : Q (.bl false) H) : Ys.rNeG K (rV x) (rV x) H Q := by
  cases x with
  | none => exact .inl ⟨rfl, by rw [decide_eq_true (rfl : rV none = rV none)]; exact q⟩
  | some s => exact .inl ⟨rfl, by rw [decide_eq_true (rfl : rV (some s) = rV (some s))]; exact q⟩
def spLaw (K : PySem.W.Frag) : Sp := fun vs H Q _ => ∃ (a : Addr) (ns : List Int), vs = [.ref a] ∧ SqL K H a (ns.map V.int) ∧ ns.length ≤ 63 ∧ ∀ H1, Q (.bl true) H1
theorem fn_tup0 : Fn60 (.tuple []) := wd_fnT (ns := []) (fun s h => by cases h) (by decide)
theorem sh_non : ShortD .none := fun s e => by cases e
theorem sh_int (i : Int) : ShortD (.int i) := fun s e => by cases e
theorem sh_wd {s : Str} (h : Wd s) : ShortD (.str s) := fun t e => by cases e; have := h.2.1; omega
theorem four {α : Type} {xs : List α} (h : xs.length = 4) : ∃ a b c d, xs = [a, b, c, d] := by
  match xs, h with
  | [a, b, c, d], _ => exact ⟨a, b, c, d, rfl⟩
theorem four_dts {G : Hp} {xs : List V} {ds : List PyData} (h : Dts K G xs ds) (hl : xs.length = 4) (hf : ∀ d ∈ ds, Fn60 d) : ∃ v2 v3 v4 v5 d2 d3 d4 d5, xs = [v2, v3, v4, v5] ∧ (Dt K G v2 d2 ∧ Fn60 d2) ∧ (Dt K G v3 d3 ∧ Fn60 d3) ∧ (Dt K G v4 d4 ∧ Fn60 d4) ∧ (Dt K G v5 d5 ∧ Fn60 d5) := by
  obtain ⟨a, b, c, d, rfl⟩ := four hl
  cases h with
  | cons h1 h => cases h with
    | cons h2 h => cases h with
      | cons h3 h => cases h with
        | cons h4 h => exact ⟨_, _, _, _, _, _, _, _, rfl, ⟨h1, hf _ (by simp)⟩, ⟨h2, hf _ (by simp)⟩, ⟨h3, hf _ (by simp)⟩, ⟨h4, hf _ (by simp)⟩⟩
structure LawC (P : Program) (w : World) (K : PySem.W.Frag) (mg : Str → Option Value) (base : Heap) : Prop where
  pen : Own P w K mg base CX0 1 "_law_pen" ["_law_script"] (spPen K)
  words : Own P w K mg base CX0 3 "_law_words" ["_law_pen_here", "_law_count"] (spWords K)
  pick : OwnP P w K mg base
  any : OwnA P w K mg base
  list : Own P w K mg base CX0 4 "_law_list" ["_law_pen_here", "_law_titles"] (spList K)
  told : Own P w K mg base CX0 6 "_law_told" ["_law_duty", "_law_size", "_law_lists"] (spDue K)
  due : Own P w K mg base CX0 3 "_law_due" ["_law_duty", "_law_size", "_law_lists"] (spDue K)
theorem ok_law (T : Nm K mg) (L : LawC P w K mg base) (F : FnP K "law" s_law f fd) : FnG P w K mg base CX0 7 f fd ["_law_script"] (spLaw K) := by
  have nd : N_law.Nodup := sc_law.nd
  have C_law_pen := L.pen
  have C_law_words := L.words
  have C_law_pick := L.pick
  have C_law_any_value := L.any
  have C_law_list := L.list
  have C_law_told := L.told
  have C_law_due := L.due
  refine okG F sc_law (fun vs H Q E h => ?_) (fun cdv A outer s H vs Q E hg hr h => ?_)
  · obtain ⟨a, ns, rfl, _⟩ := h
    rfl
  have hu := hr.units
  refine ⟨_, PSs.nox   (pss_cons (ps_asg (pe_own C_law_pen (hr.mono (by decide)) (by rfl) pass0 (pa_cons (pv 0) pa_nil)) (pg_name (i := 1) nd rfl (by first | exact .inl rfl | exact .inr rfl)))
    (pss_cons (ps_for PassesOwn.never rfl (pi_range1 (by rfl) (T.b_range) (pa_cons (pe_op (k_add (K := K)) pe_int (pe_callB (c_min2 rfl) (by rfl) T.b_min boot_min (pa_cons pe_int (pa_cons (pe_callB (kc_len (K := K) (P := P) (w := w)) (by rfl) T.b_len PySem.boot_len (pa_cons (pv 0) pa_nil)) pa_nil)))) pa_nil)) (pg_name (i := 2) nd rfl (by first | exact .inl rfl | exact .inr rfl)) (pss_cons (ps_asg (pe_own C_law_words (hr.mono (by decide)) (by rfl) pass0 (pa_cons (pv 1) (pa_cons pe_int pa_nil))) (pg_name (i := 3) nd rfl (by first | exact .inl rfl | exact .inr rfl)))
    (pss_cons (ps_asg (pe_own C_law_pick (hr.mono (by decide)) (by rfl) pass0 (pa_cons (pv 1) (pa_cons (pe_lst (pa_cons pe_non (pa_cons (pe_ix (k_ix (K := K)) (pv 3) pe_int (fun _ _ => rfl)) (pa_cons (pe_ix (k_ix (K := K)) (pv 3) pe_int (fun _ _ => rfl)) (pa_cons (pe_own C_law_any_value (hr.mono (by decide)) (by rfl) pass0 (pa_cons (pv 1) pa_nil)) pa_nil))))) pa_nil))) (pg_name (i := 4) nd rfl (by first | exact .inl rfl | exact .inr rfl)))
    (pss_cons (ps_asg (pe_own C_law_pick (hr.mono (by decide)) (by rfl) pass0 (pa_cons (pv 1) (pa_cons (pe_lst (pa_cons pe_int (pa_cons pe_int (pa_cons pe_int (pa_cons pe_int (pa_cons pe_int (pa_cons (pe_own C_law_any_value (hr.mono (by decide)) (by rfl) pass0 (pa_cons (pv 1) pa_nil)) pa_nil))))))) pa_nil))) (pg_name (i := 5) nd rfl (by first | exact .inl rfl | exact .inr rfl)))
    (pss_cons (ps_setLc (i := 6) (own := [("_law_k", 7)]) (tt := tYes) rfl nd rfl rfl (sw_true rfl rfl rfl (by decide +kernel)) (pi_range1 (by rfl) (T.b_range) (pa_cons pe_int pa_nil)) (blkOk_by (N := N_law) (sc := defScope s_law) (by decide +kernel)) (fun _ _ _ _ _ => (pg_name (i := 7) nd rfl (by first | exact .inl rfl | exact .inr rfl))) (fun _ _ _ _ _ => pts_nil) (fun _ _ _ _ _ => (pe_own C_law_list (hr.mono (by decide)) (by rfl) pass0 (pa_cons (pv 1) (pa_cons (pv 3) pa_nil)))))
    (pss_cons (ps_if (pt_cmpR (k_ne (K := K) hu) (pe_own C_law_told (hr.mono (by decide)) (by rfl) pass0 (pa_cons (pv 4) (pa_cons (pv 5) (pa_cons (pv 6) pa_nil)))) (pe_own C_law_due (hr.mono (by decide)) (by rfl) pass0 (pa_cons (pv 4) (pa_cons (pv 5) (pa_cons (pv 6) pa_nil)))) (nomark _)) (pss_one (ps_ret pe_bl)) pss_nil)
    (pss_one (ps_if (pt_cmpR (k_ne (K := K) hu) (pe_own C_law_told (hr.mono (by decide)) (by rfl) pass0 (pa_cons (pv 4) (pa_cons (pv 5) (pa_cons (pe_op op_rep (pe_lst (pa_cons (pe_tup pa_nil) pa_nil)) pe_int) pa_nil)))) (pe_own C_law_due (hr.mono (by decide)) (by rfl) pass0 (pa_cons (pv 4) (pa_cons (pv 5) (pa_cons (pe_op op_rep (pe_lst (pa_cons (pe_tup pa_nil) pa_nil)) pe_int) pa_nil)))) (nomark _)) (pss_one (ps_ret pe_bl)) pss_nil))))))))
    (pss_one (ps_ret pe_bl)))), ?_⟩
  obtain ⟨a, ns, rfl, hS, hn, q⟩ := h
  have z : Zp H [] H := ⟨fun _ _ h => h, fun i p o e => by simp at e, List.nodup_nil⟩
  repeat (walk_at "z")
  refine ⟨a, H, ns, rfl, z, hS, fun p G1 H1 o1 z1 s1 hp1 => ?_⟩
  repeat (walk_at "z")
  refine z_lenH (.inl (z1.seqL (upL s1 hS))) ?_
  rw [List.length_map]
  repeat (walk_at "z")
  refine z_min2 ?_
  generalize hn8 : (if (ns.length : Int) < 12 then (ns.length : Int) else 12) = n8
  have n80 : 0 ≤ n8 ∧ n8 ≤ 12 := by rw [← hn8]; split <;> omega
  repeat (walk_at "z")
  refine z_itR (by omega) (by omega) ?_
  refine for_src src_R (fun i σ G' M' => ∃ o' k2 k3 k4 k5 k6 k7, M' = [(p, o')] ∧ Pen K G' (600 * i) o' ∧ σ = [some (.ref a), some (.ref p), k2, k3, k4, k5, k6, k7])
    z1 ⟨o1, _, _, _, _, _, _, rfl, hp1, rfl⟩ (fun _ _ _ _ _ _ _ => trivial) ?_ ?_
  · rintro i x σ G0 M0 H0 hx ⟨o0, k2, k3, k4, k5, k6, k7, rfl, hp0, rfl⟩ z0
    obtain ⟨hi, rfl⟩ := rng_at hx
    have hb : 600 * i ≤ 100000 := by omega
    generalize hbb : 600 * i = b at hp0 hb
    repeat (walk_at "z")
    refine ⟨p, o0, G0, [], b, 4, rfl, z0, hp0, by omega, by decide, fun lw G2 H2 o2 ss z2 s2 hp2 e2 l2 w2 => ?_⟩
    obtain ⟨t0, t1, t2, t3, hss⟩ := four l2
    have ht0 : Wd t0 := w2 t0 (by rw [hss]; simp)
    have ht1 : Wd t1 := w2 t1 (by rw [hss]; simp)
    repeat (walk_at "z")
    refine z_ixL z2 (SqL.of e2) (v := .str t0) (by rw [hss]; rfl) ?_
    repeat (walk_at "z")
    refine z_ixL z2 (SqL.of e2) (v := .str t1) (by rw [hss]; rfl) ?_
    repeat (walk_at "z")
    refine ⟨p, o2, G2, [], b + 10, rfl, z2, hp2, by omega, fun v d G3 H3 o3 z3 s3 hp3 hd hO => ?_⟩
    repeat (walk_at "z")
    refine z_newL z3 (by simp) fun q4 G4 H4 z4 s4 e4 => ?_
    repeat (walk_at "z")
    refine ⟨p, o3, G4, [], b + 10 + 1, _, rfl, z4, hp3.up s4, by omega, .inl ⟨q4, _, rfl, .inl (SqL.of e4), by simp, by simp, fun v0 G5 H5 o5 hv0 z5 s5 hp5 => ?_⟩⟩
    obtain ⟨d0, hd0, hv0⟩ := (show Dts K G4 [.non, .str t0, .str t1, v] [.none, .str t0, .str t1, d] from .cons .non (.cons (.str _) (.cons (.str _) (.cons (hd.up s4) .nil)))).mem hv0
    have sd0 : ShortD d0 := by
      rcases List.mem_cons.mp hd0 with rfl | hd0
      · exact sh_non
      rcases List.mem_cons.mp hd0 with rfl | hd0
      · exact sh_wd ht0
      rcases List.mem_cons.mp hd0 with rfl | hd0
      · exact sh_wd ht1
      rcases List.mem_singleton.mp hd0 with rfl
      exact hO.sh
    have hv0 := hv0.up s5
    have e5 := s5 _ _ (s4 _ _ (s3 _ _ e2))
    clear e4 hd hd0 hp3 hp2 z4 z3 z2
    repeat (walk_at "z")
    refine ⟨p, o5, G5, [], b + 10 + 1 + 1, rfl, z5, hp5, by omega, fun v' d' G6 H6 o6 z6 s6 hp6 hd' hO' => ?_⟩
    repeat (walk_at "z")
    refine z_newL z6 (by simp) fun q7 G7 H7 z7 s7 e7 => ?_
    repeat (walk_at "z")
    refine ⟨p, o6, G7, [], b + 10 + 1 + 1 + 1, _, rfl, z7, hp6.up s7, by omega, .inl ⟨q7, _, rfl, .inl (SqL.of e7), by simp, by simp, fun v1 G8 H8 o8 hv1 z8 s8 hp8 => ?_⟩⟩
    obtain ⟨d1, _, hv1⟩ := (show Dts K G7 [.int 1, .int 1, .int 2, .int 3, .int 1, v'] [.int 1, .int 1, .int 2, .int 3, .int 1, d'] from .cons (.int _) (.cons (.int _) (.cons (.int _) (.cons (.int _) (.cons (.int _) (.cons (hd'.up s7) .nil)))))).mem hv1
    have hv1 := hv1.up s8
    have s58 := s6.trans (s7.trans s8)
    have hv0 := hv0.up s58
    have e8 := s58 _ _ e5
    clear e7 hd' hp6 hp5 z7 z6 z5 e5
    repeat (walk_at "z")
    refine z_itR (by omega) (by omega) ?_
    refine lc_src src_R (fun i G' M' acc => ∃ o' ds, M' = [(p, o')] ∧ Same G8 G' ∧ Pen K G' (b + 20 + 10 * i) o' ∧ Dts K G' acc ds ∧ (∀ d ∈ ds, Fn60 d) ∧ acc.length = i) z8 ⟨o8, [], rfl, Same.refl _, hp8.mono (by omega), .nil, (fun d h => by cases h), rfl⟩ (fun _ _ _ _ _ _ _ _ => trivial) ?_ ?_
    · rintro j x0 G' M' acc Dl H' hx ⟨o', ds, rfl, s', hp', hds, hfs, hal⟩ z'
      obtain ⟨hj, rfl⟩ := rng_at hx
      have hj4 : j < 4 := hj
      repeat (walk_at "z")
      refine ⟨by rfl, ?_⟩
      repeat (walk_at "z")
      refine ⟨p, lw, o', G', _, b + 20 + 10 * j, ss, rfl, z', hp', by omega, s' _ _ e8, by omega, w2, fun vj dj Gj Hj oj zj sj hpj hdj hfj => ?_⟩
      refine z_laid zj (by omega) ⟨oj, ds ++ [dj], rfl, s'.trans sj, hpj.mono (by omega), (hds.up sj).app (.cons hdj .nil), fun d hd => ?_, by rw [List.length_append]; show _ + 1 = _; omega⟩
      rcases List.mem_append.mp hd with hd | hd
      · exact hfs d hd
      · rcases List.mem_singleton.mp hd with rfl
        exact hfj
    rintro l9 G9' M9 acc G9 H9 ⟨o9, ds, rfl, s9', hp9', hds, hfs, hal⟩ s9 z9 e9
    obtain ⟨v2, v3, v4, v5, d2, d3, d4, d5, rfl, a2, a3, a4, a5⟩ := four_dts (hds.up s9) (by rw [hal, rngV_len]; rfl) hfs
    have hp9 := hp9'.up s9
    have s9 := s9'.trans s9
    have hv0 := hv0.up s9
    have hv1 := hv1.up s9
    have hp9 : Pen K G9 (b + 60) o9 := hp9.mono (by rw [rngV_len]; show _ + 10 * 4 ≤ _; omega)
    clear s9' hds hfs hal hp9' e8 hp8 z8
    repeat (walk_at "z")
    refine ⟨G9, _, v0, v1, l9, d0, d1, v2, v3, v4, v5, d2, d3, d4, d5, rfl, z9, ⟨hv0, sd0⟩, hv1, SqL.of e9, a2, a3, a4, a5, fun G10 H10 z10 s10 => ?_⟩
    repeat (walk_at "z")
    refine ⟨G10, _, v0, v1, l9, d0, d1, v2, v3, v4, v5, d2, d3, d4, d5, rfl, z10, ⟨hv0.up s10, sd0⟩, hv1.up s10, SqL.of (s10 _ _ e9), ⟨a2.1.up s10, a2.2⟩, ⟨a3.1.up s10, a3.2⟩, ⟨a4.1.up s10, a4.2⟩, ⟨a5.1.up s10, a5.2⟩, fun G11 H11 z11 s11 => ?_⟩
    refine z_neR _ ?_
    have hv0 := hv0.up (s10.trans s11)
    have hv1 := hv1.up (s10.trans s11)
    have hp11 := hp9.up (s10.trans s11)
    clear a2 a3 a4 a5 hp9 z9 z10 e9
    repeat (walk_at "z")
    refine z_newT z11 (by simp) fun q1 G12 H12 z12 s12 e12 => ?_
    repeat (walk_at "z")
    refine z_newL z12 (by simp) fun q2 G13 H13 z13 s13 e13 => ?_
    repeat (walk_at "z")
    refine z_rep z13 e13 (by decide) (by decide) (by show 1 * 4 ≤ 100000; decide) fun q3 G14 H14 z14 s14 e14 => ?_
    have dt : Dt K G14 (.ref q1) (.tuple []) := .tup (SqT.of (s14 _ _ (s13 _ _ e12))) .nil
    have s1114 := s12.trans (s13.trans s14)
    repeat (walk_at "z")
    refine ⟨G14, _, v0, v1, q3, d0, d1, .ref q1, .ref q1, .ref q1, .ref q1, _, _, _, _, rfl, z14, ⟨hv0.up s1114, sd0⟩, hv1.up s1114, SqL.of e14, ⟨dt, fn_tup0⟩, ⟨dt, fn_tup0⟩, ⟨dt, fn_tup0⟩, ⟨dt, fn_tup0⟩, fun G15 H15 z15 s15 => ?_⟩
    have hv0 := hv0.up (s1114.trans s15)
    have hv1 := hv1.up (s1114.trans s15)
    have hp15 := hp11.up (s1114.trans s15)
    clear hp11 z14 z13 z12 z11 e14 e13 e12 dt
    repeat (walk_at "z")
    refine z_newT z15 (by simp) fun q1 G16 H16 z16 s16 e16 => ?_
    repeat (walk_at "z")
    refine z_newL z16 (by simp) fun q2 G17 H17 z17 s17 e17 => ?_
    repeat (walk_at "z")
    refine z_rep z17 e17 (by decide) (by decide) (by show 1 * 4 ≤ 100000; decide) fun q3 G18 H18 z18 s18 e18 => ?_
    have dt : Dt K G18 (.ref q1) (.tuple []) := .tup (SqT.of (s18 _ _ (s17 _ _ e16))) .nil
    have s1518 := s16.trans (s17.trans s18)
    repeat (walk_at "z")
    refine ⟨G18, _, v0, v1, q3, d0, d1, .ref q1, .ref q1, .ref q1, .ref q1, _, _, _, _, rfl, z18, ⟨hv0.up s1518, sd0⟩, hv1.up s1518, SqL.of e18, ⟨dt, fn_tup0⟩, ⟨dt, fn_tup0⟩, ⟨dt, fn_tup0⟩, ⟨dt, fn_tup0⟩, fun G19 H19 z19 s19 => ?_⟩
    refine z_neR _ ?_
    repeat (walk_at "z")
    exact ⟨G19, _, z19, o9, _, _, _, _, _, _, rfl, (hp15.up (s1518.trans s19)).mono (by omega), rfl⟩
  · rintro σ G2 M2 H2 ⟨o2, k2, k3, k4, k5, k6, k7, rfl, hp2, rfl⟩ z2
    repeat (walk_at "z")
    exact q _
end
end LW
namespace LW
open PySem PySem.Spec PyProof.Rows L2 Ys
section
variable {K : PySem.W.Frag} {f : Addr} {fd : FuncData}
theorem bd_words2 (F : FunD K "are_words" "are_words" (defArgs s_are_words) (defBody s_are_words) (defScope s_are_words) [.non] [] f fd) : Binds K fd ["value", "most"] [] := by
  obtain ⟨ds, hv, hb⟩ := F.binds1 (ps := ["value", "most"]) 2 1 (by simp) rfl (fun T kV doc pm an cdv ct us its l1 l2 => by
    match us, its, l1, l2 with
    | [u1, u2], [i1], _, _ => exact ⟨_, rfl, rfl⟩)
  cases hv
  exact hb
theorem bd_diff1 (F : FunD K "are_different_words" "are_different_words" (defArgs s_are_different_words) (defBody s_are_different_words) (defScope s_are_different_words) [.non] [] f fd) : ∃ ds, Vals [V.non] ds ∧ Binds K fd ["value", "most"] ds :=
  F.binds1 (ps := ["value", "most"]) 1 0 (by simp) rfl (fun T kV doc pm an cdv ct us its l1 l2 => by
    match us, its, l1, l2 with
    | [u1], [i1], _, _ => exact ⟨_, rfl, rfl⟩)
end
section
variable {K : PySem.W.Frag} {f : Addr} {fd : FuncData} {e1 e2 e3 e4 : V}
abbrev psI : List Str := ["self", "role", "many", "other", "same", "takes", "forgets"]
abbrev kwI (e1 e2 e3 e4 : V) : List (Str × V) := [("many", .int 1), ("other", e1), ("same", e2), ("takes", e3), ("forgets", e4)]
abbrev FI (K : PySem.W.Frag) (e1 e2 e3 e4 : V) (f : Addr) (fd : FuncData) : Prop := FunD K "__init__" "Task.__init__" (defArgs s_Task_init) (defBody s_Task_init) (defScope s_Task_init) [.non] (kwI e1 e2 e3 e4) f fd
theorem kb1 (F : FI K e1 e2 e3 e4 f fd) : ∃ g, KBn K fd psI 2 ["many", "other", "same", "takes", "forgets"] g gV1 := by
  obtain ⟨its, mv, hb⟩ := F.kbinds (ps := psI) 2 ["many", "other", "same", "takes", "forgets"] [] (fun us its mv ws => us ++ ws) (by simp) (by simp) (by simp) (fun a _ _ d => a.append d)
    (fun T D doc pm an cdv ct us its mv ws l1 l2 l3 l4 => by
      match us, its, mv, ws, l1, l2, l3, l4 with
      | [u1, u2], [i1], [], [w1, w2, w3, w4, w5], _, _, _, _ => exact ⟨_, rfl, rfl⟩)
  exact ⟨_, hb⟩
end
end LW
namespace LW
open PySem PySem.Spec PyProof.Rows L2 Ys

abbrev PR : Program := (PySem.Challenge.rw_fewhands_k05_tasks_refused).prog
abbrev s_x : Stmt := inner (top 1) 0
def dSup : DefY := ⟨cA "InvalidTask" "__init__", "__init__", "InvalidTask.__init__", defArgs s_x, defBody s_x, defScope s_x, [], []⟩
theorem okSup {w : World} {K : PySem.W.Frag} {mg : Str → Option Value} {base : Heap} {C fI : Addr} {fd : FuncData} (S : SupF PR K C fI "field" "InvalidTask.__init__" (defArgs s_x) (defBody s_x) (defScope s_x) fd) (T : OexC K C) : FnOk PR w K mg base CX0 1 fI fd ["self", "field"] (spSup K C "field") :=
  ok_sup (x := "field") S ⟨by decide +kernel, by rfl, by rfl, by rfl, by rfl, rfl, rfl, rfl, ⟨_, rfl, rfl⟩, by decide, by decide⟩ T (fun env h => by cases env; subst h; exact ⟨_, rfl⟩) (fun env h => by cases env; subst h; rfl) (fun env h => by cases env; subst h; rfl) (fun env h => by cases env; subst h; rfl) (by decide +kernel)
def fb : List (PySem.W.Frag → Bool) := [sysB, fun K => He.Fa.ok K (.glo "is_word"), fun K => He.Fa.ok K (.glo "is_integer"), fun K => He.Fa.ok K (.glo "is_within"), fun K => He.Fa.ok K (.glo "is_list"), fun K => He.Fa.ok K (.glo "are_words"), fun K => He.Fa.ok K (.glo "are_different_words"), fun K => He.Fa.ok K (.glo "ascending"), fun K => He.Fa.ok K (.glo "_law_pen"), fun K => He.Fa.ok K (.glo "_law_draw"), fun K => He.Fa.ok K (.glo "_law_pick"), fun K => He.Fa.ok K (.glo "_law_words"), fun K => He.Fa.ok K (.glo "_law_any_value"), fun K => He.Fa.ok K (.glo "_law_is_word"), fun K => He.Fa.ok K (.glo "_law_is_integer"), fun K => He.Fa.ok K (.glo "_law_are_names"), fun K => He.Fa.ok K (.glo "_law_due"), fun K => He.Fa.ok K (.glo "_law_told"), fun K => He.Fa.ok K (.glo "_law_list"), fun K => He.Fa.ok K (.glo "law"), fun K => He.Fa.ok K (.glo "Task"), fun K => He.Fa.ok K (.glo "InvalidTask"), fun K => He.Fa.ok K (.free "len"), fun K => He.Fa.ok K (.free "int"), fun K => He.Fa.ok K (.free "list"), fun K => He.Fa.ok K (.free "tuple"), fun K => He.Fa.ok K (.free "set"), fun K => He.Fa.ok K (.free "dict"), fun K => He.Fa.ok K (.free "str"), fun K => He.Fa.ok K (.free "bool"), fun K => He.Fa.ok K (.free "sorted"), fun K => He.Fa.ok K (.free "min"), fun K => He.Fa.ok K (.free "max"), fun K => He.Fa.ok K (.free "sum"), fun K => He.Fa.ok K (.free "all"), fun K => He.Fa.ok K (.free "any"), fun K => He.Fa.ok K (.free "repr"), fun K => He.Fa.ok K (.free "range"), fun K => He.Fa.ok K (.free "isinstance"), fun K => He.Fa.ok K (.free "ValueError"), fun K => He.Fa.ok K (.str "LETTERS" "abcdefghijklmnopqrstuvwxyz"), fun K => He.Fa.ok K (.int "LONGEST_WORD" 8), fun K => He.Fa.ok K (.int "MANY" 3), fun K => He.Fa.ok K (.cls "Task"), fun K => He.Fa.ok K (.noat "Task" "own_role"), fun K => He.Fa.ok K (.noat "Task" "own_many"), fun K => He.Fa.ok K (.noat "Task" "own_other"), fun K => He.Fa.ok K (.noat "Task" "own_same"), fun K => He.Fa.ok K (.noat "Task" "own_takes"), fun K => He.Fa.ok K (.noat "Task" "own_forgets"), fun K => He.Fa.ok K (.mkr "Task"), oexA "InvalidTask", excA "InvalidTask" "field", supA "InvalidTask" "InvalidTask.__init__" "field" PR.main.file]
def fn : List DefY := [⟨gA "is_word", "is_word", "is_word", defArgs s_is_word, defBody s_is_word, defScope s_is_word, [], []⟩, ⟨gA "is_integer", "is_integer", "is_integer", defArgs s_is_integer, defBody s_is_integer, defScope s_is_integer, [], []⟩, ⟨gA "is_within", "is_within", "is_within", defArgs s_is_within, defBody s_is_within, defScope s_is_within, [], []⟩, ⟨gA "is_list", "is_list", "is_list", defArgs s_is_list, defBody s_is_list, defScope s_is_list, [], []⟩, ⟨gA "are_words", "are_words", "are_words", defArgs s_are_words, defBody s_are_words, defScope s_are_words, [.non], []⟩, ⟨gA "are_different_words", "are_different_words", "are_different_words", defArgs s_are_different_words, defBody s_are_different_words, defScope s_are_different_words, [.non], []⟩, ⟨gA "ascending", "ascending", "ascending", defArgs s_ascending, defBody s_ascending, defScope s_ascending, [], []⟩, ⟨gA "_law_pen", "_law_pen", "_law_pen", defArgs s_law_pen, defBody s_law_pen, defScope s_law_pen, [], []⟩, ⟨gA "_law_draw", "_law_draw", "_law_draw", defArgs s_law_draw, defBody s_law_draw, defScope s_law_draw, [], []⟩, ⟨gA "_law_pick", "_law_pick", "_law_pick", defArgs s_law_pick, defBody s_law_pick, defScope s_law_pick, [], []⟩, ⟨gA "_law_words", "_law_words", "_law_words", defArgs s_law_words, defBody s_law_words, defScope s_law_words, [], []⟩, ⟨gA "_law_any_value", "_law_any_value", "_law_any_value", defArgs s_law_any_value, defBody s_law_any_value, defScope s_law_any_value, [], []⟩, ⟨gA "_law_is_word", "_law_is_word", "_law_is_word", defArgs s_law_is_word, defBody s_law_is_word, defScope s_law_is_word, [], []⟩, ⟨gA "_law_is_integer", "_law_is_integer", "_law_is_integer", defArgs s_law_is_integer, defBody s_law_is_integer, defScope s_law_is_integer, [], []⟩, ⟨gA "_law_are_names", "_law_are_names", "_law_are_names", defArgs s_law_are_names, defBody s_law_are_names, defScope s_law_are_names, [], []⟩, ⟨gA "_law_due", "_law_due", "_law_due", defArgs s_law_due, defBody s_law_due, defScope s_law_due, [], []⟩, ⟨gA "_law_told", "_law_told", "_law_told", defArgs s_law_told, defBody s_law_told, defScope s_law_told, [], []⟩, ⟨gA "_law_list", "_law_list", "_law_list", defArgs s_law_list, defBody s_law_list, defScope s_law_list, [], []⟩, ⟨gA "law", "law", "law", defArgs s_law, defBody s_law, defScope s_law, [], []⟩, ⟨cA "Task" "__init__", "__init__", "Task.__init__", defArgs s_Task_init, defBody s_Task_init, defScope s_Task_init, [.non], [("many", .int 1), ("other", .adr (kA "Task" "__init__" "other")), ("same", .adr (kA "Task" "__init__" "same")), ("takes", .adr (kA "Task" "__init__" "takes")), ("forgets", .adr (kA "Task" "__init__" "forgets"))]⟩]
def fc : List DefY := [dSup]
abbrev R : PySem.W.OpenRow := PySem.W.OpenLaw.row PySem.Challenge.rw_fewhands_k05_tasks_refused
abbrev hk : PySem.W.Hook := hookC 6 fb fn fc
def loose : List Str := ["InvalidTask", "MANY", "LETTERS", "LONGEST_WORD", "is_word", "is_integer", "is_within", "is_list", "are_words", "are_different_words", "ascending", "Task", "_law_pen", "_law_draw", "_law_pick", "_law_words", "_law_any_value", "_law_is_word", "_law_is_integer", "_law_are_names", "_law_due", "_law_told", "_law_list"]
theorem run (w : World) : HandSHeadRun.RunEq R (PySem.W.view R.prog [27]) hk (obC 6 fb fn fc) 2000 loose w := by
  intro os
  kernel_rfl
theorem facts {w : World} {K : PySem.W.Frag} {h : Heap} {mg : Str → Option Value} {f : Addr} (X : K.In h) (G : h.Ns mainGlobals mg) (hfa : mg ("law" : Str) = some (.ref f)) (cc0 : SaysC fb fn fc K) :
    ∃ fd : FuncData, (∀ (s : Shared) (v : Value), BindsTo s fd ⟨[v], []⟩ [("_law_script", v)]) ∧ ∀ base : Heap, K.In base → base.Ns mainGlobals mg → FnG PR w K mg base CX0 7 f fd ["_law_script"] (spLaw K) := by
  have c := cc0.both.1
  obtain ⟨fd_is_word, F_is_word⟩ : ∃ fd, FnP K "is_word" s_is_word (gA "is_word" K) fd := c.def_ 0
  obtain ⟨fd_is_integer, F_is_integer⟩ : ∃ fd, FnP K "is_integer" s_is_integer (gA "is_integer" K) fd := c.def_ 1
  obtain ⟨fd_is_within, F_is_within⟩ : ∃ fd, FnP K "is_within" s_is_within (gA "is_within" K) fd := c.def_ 2
  obtain ⟨fd_is_list, F_is_list⟩ : ∃ fd, FnP K "is_list" s_is_list (gA "is_list" K) fd := c.def_ 3
  obtain ⟨fd_are_words, F_are_words⟩ : ∃ fd, FunD K "are_words" "are_words" (defArgs s_are_words) (defBody s_are_words) (defScope s_are_words) [.non] [] (gA "are_words" K) fd := c.def_ 4
  obtain ⟨fd_are_different_words, F_are_different_words⟩ : ∃ fd, FunD K "are_different_words" "are_different_words" (defArgs s_are_different_words) (defBody s_are_different_words) (defScope s_are_different_words) [.non] [] (gA "are_different_words" K) fd := c.def_ 5
  obtain ⟨fd_ascending, F_ascending⟩ : ∃ fd, FnP K "ascending" s_ascending (gA "ascending" K) fd := c.def_ 6
  obtain ⟨fd_law_pen, F_law_pen⟩ : ∃ fd, FnP K "_law_pen" s_law_pen (gA "_law_pen" K) fd := c.def_ 7
  obtain ⟨fd_law_draw, F_law_draw⟩ : ∃ fd, FnP K "_law_draw" s_law_draw (gA "_law_draw" K) fd := c.def_ 8
  obtain ⟨fd_law_pick, F_law_pick⟩ : ∃ fd, FnP K "_law_pick" s_law_pick (gA "_law_pick" K) fd := c.def_ 9
  obtain ⟨fd_law_words, F_law_words⟩ : ∃ fd, FnP K "_law_words" s_law_words (gA "_law_words" K) fd := c.def_ 10
  obtain ⟨fd_law_any_value, F_law_any_value⟩ : ∃ fd, FnP K "_law_any_value" s_law_any_value (gA "_law_any_value" K) fd := c.def_ 11
  obtain ⟨fd_law_is_word, F_law_is_word⟩ : ∃ fd, FnP K "_law_is_word" s_law_is_word (gA "_law_is_word" K) fd := c.def_ 12
  obtain ⟨fd_law_is_integer, F_law_is_integer⟩ : ∃ fd, FnP K "_law_is_integer" s_law_is_integer (gA "_law_is_integer" K) fd := c.def_ 13
  obtain ⟨fd_law_are_names, F_law_are_names⟩ : ∃ fd, FnP K "_law_are_names" s_law_are_names (gA "_law_are_names" K) fd := c.def_ 14
  obtain ⟨fd_law_due, F_law_due⟩ : ∃ fd, FnP K "_law_due" s_law_due (gA "_law_due" K) fd := c.def_ 15
  obtain ⟨fd_law_told, F_law_told⟩ : ∃ fd, FnP K "_law_told" s_law_told (gA "_law_told" K) fd := c.def_ 16
  obtain ⟨fd_law_list, F_law_list⟩ : ∃ fd, FnP K "_law_list" s_law_list (gA "_law_list" K) fd := c.def_ 17
  obtain ⟨fd_law, F_law⟩ : ∃ fd, FnP K "law" s_law (gA "law" K) fd := c.def_ 18
  obtain ⟨fd_init, F_init⟩ : ∃ fd, FI K (.ref (kA "Task" "__init__" "other" K)) (.ref (kA "Task" "__init__" "same" K)) (.ref (kA "Task" "__init__" "takes" K)) (.ref (kA "Task" "__init__" "forgets" K)) (cA "Task" "__init__" K) fd := c.def_ 19
  have T : Nm K mg := ⟨sysB_ok (c.at_ 0), He.free_ok X G (c.at_ 22), He.free_ok X G (c.at_ 23), He.free_ok X G (c.at_ 24), He.free_ok X G (c.at_ 25), He.free_ok X G (c.at_ 26), He.free_ok X G (c.at_ 27), He.free_ok X G (c.at_ 28), He.free_ok X G (c.at_ 29), He.free_ok X G (c.at_ 30), He.free_ok X G (c.at_ 31), He.free_ok X G (c.at_ 32), He.free_ok X G (c.at_ 33), He.free_ok X G (c.at_ 34), He.free_ok X G (c.at_ 35), He.free_ok X G (c.at_ 36), He.free_ok X G (c.at_ 37), He.free_ok X G (c.at_ 38), let ⟨t, e⟩ := He.str_ok X G (c.at_ 40); ⟨_, e, t, rfl⟩, let ⟨t, e⟩ := He.int_ok X G (c.at_ 41); ⟨_, e, t, rfl⟩, let ⟨t, e⟩ := He.int_ok X G (c.at_ 42); ⟨_, e, t, rfl⟩⟩
  have e := hfa.symm.trans (He.glo_ok X G (c.at_ 19))
  cases e
  have TC : TaskC K (gA "Task" K) := ⟨He.cls_ok (c.at_ 43), He.noat_ok (c.at_ 44), He.noat_ok (c.at_ 45), He.noat_ok (c.at_ 46), He.noat_ok (c.at_ 47), He.noat_ok (c.at_ 48), He.noat_ok (c.at_ 49)⟩
  have b := FunD.bindsA (ps := ["_law_script"]) F_law fun _ _ _ _ _ _ us hl => match us, hl with | [_], _ => rfl
  refine ⟨fd_law, fun s v => b s [v] rfl, fun base _ _ => ?_⟩
  have L : LawC PR w K mg base := by
    have C_is_word : OwnW PR w K mg base := ⟨⟨_, _, ok_is_word T F_is_word, He.glo_ok X G (c.at_ 1), F_is_word.kp, F_is_word.bindsN fun _ _ _ _ _ _ us hl => match us, hl with | [_], _ => rfl⟩⟩
    have C_is_integer : Own PR w K mg base CX0 1 "is_integer" ["value"] (spInt K) := ⟨⟨_, _, ok_is_integer T F_is_integer, He.glo_ok X G (c.at_ 2), F_is_integer.kp, F_is_integer.bindsN fun _ _ _ _ _ _ us hl => match us, hl with | [_], _ => rfl⟩⟩
    have C_is_within : Own PR w K mg base CX0 2 "is_within" ["value", "least", "most"] (spWithin K) := ⟨⟨_, _, ok_is_within T C_is_integer F_is_within, He.glo_ok X G (c.at_ 3), F_is_within.kp, F_is_within.bindsN fun _ _ _ _ _ _ us hl => match us, hl with | [_, _, _], _ => rfl⟩⟩
    have C_is_list : OwnL PR w K mg base := ⟨⟨_, _, ok_is_list T F_is_list, He.glo_ok X G (c.at_ 4), F_is_list.kp, F_is_list.bindsN fun _ _ _ _ _ _ us hl => match us, hl with | [_], _ => rfl⟩⟩
    have C_are_words : Own PR w K mg base CX0 2 "are_words" ["value", "most"] (spAreWords K) := ⟨⟨_, _, ok_are_words T C_is_word C_is_list F_are_words, He.glo_ok X G (c.at_ 5), F_are_words.kp, bd_words2 F_are_words⟩⟩
    have C_diff : Ys.OwnA PR w K mg base CX0 3 "are_different_words" ["value", "most"] [.non] (spDiff K) := by
      obtain ⟨ds, hv, hb⟩ := bd_diff1 F_are_different_words
      exact ⟨⟨_, _, ds, ok_diff T C_are_words F_are_different_words, He.glo_ok X G (c.at_ 6), F_are_different_words.kp, hb, hv⟩⟩
    have C_ascending : Own PR w K mg base CX0 1 "ascending" ["words"] (spAsc K) := ⟨⟨_, _, ok_asc T F_ascending, He.glo_ok X G (c.at_ 7), F_ascending.kp, F_ascending.bindsN fun _ _ _ _ _ _ us hl => match us, hl with | [_], _ => rfl⟩⟩
    obtain ⟨fd_x, S_x, ⟨kV, doc, pm, an, cdv, ct, cc, e_x⟩, iC, tI⟩ := supA_ok (P := PR) (x := "InvalidTask") (fld := "field") (d := dSup) rfl rfl (cc0.sup 0) (c.at_ 53)
    have O_x := oexA_ok (c.at_ 51)
    have A_x := excA_ok (c.at_ 52)
    have S_InvalidTask : ExcS PR w K mg base (gA "InvalidTask" K) "InvalidTask" "field" := ⟨O_x, ⟨_, fd_x, "field", iC, tI, okSup S_x O_x, by
      rw [e_x]
      exact .all fun us hl => match us, hl with | [_, _], _ => rfl⟩, He.glo_ok X G (c.at_ 21)⟩
    have O_init := ok_initX (P := PR) (w := w) (base := base) T TC C_is_word C_is_within C_diff C_ascending S_InvalidTask F_init
    have B_Task : MkS PR w K mg base (L2.CX PR w) 4 (gA "Task" K) "Task" 1 ["many", "other", "same", "takes", "forgets"] gV1 (spInitX K (gA "Task" K) (gA "InvalidTask" K)) := by
      obtain ⟨g, hb⟩ := kb1 F_init
      exact ⟨⟨_, _, _, g, He.mkr_ok (c.at_ 50), O_init, He.glo_ok X G (c.at_ 20), hb⟩⟩
    have hVE := He.free_ok X G (c.at_ 39)
    have C_law_pen : Own PR w K mg base CX0 1 "_law_pen" ["_law_script"] (spPen K) := ⟨⟨_, _, ok_pen T F_law_pen, He.glo_ok X G (c.at_ 8), F_law_pen.kp, F_law_pen.bindsN fun _ _ _ _ _ _ us hl => match us, hl with | [_], _ => rfl⟩⟩
    have C_law_draw : OwnD PR w K mg base := ⟨⟨_, _, ok_draw T F_law_draw, He.glo_ok X G (c.at_ 9), F_law_draw.kp, F_law_draw.bindsN fun _ _ _ _ _ _ us hl => match us, hl with | [_, _], _ => rfl⟩⟩
    have C_law_pick : OwnP PR w K mg base := ⟨⟨_, _, ok_pick T C_law_draw F_law_pick, He.glo_ok X G (c.at_ 10), F_law_pick.kp, F_law_pick.bindsN fun _ _ _ _ _ _ us hl => match us, hl with | [_, _], _ => rfl⟩⟩
    have C_law_words : Own PR w K mg base CX0 3 "_law_words" ["_law_pen_here", "_law_count"] (spWords K) := ⟨⟨_, _, ok_words T C_law_draw C_law_pick F_law_words, He.glo_ok X G (c.at_ 11), F_law_words.kp, F_law_words.bindsN fun _ _ _ _ _ _ us hl => match us, hl with | [_, _], _ => rfl⟩⟩
    have C_law_any_value : LW.OwnA PR w K mg base := ⟨⟨_, _, ok_any T C_law_pick F_law_any_value, He.glo_ok X G (c.at_ 12), F_law_any_value.kp, F_law_any_value.bindsN fun _ _ _ _ _ _ us hl => match us, hl with | [_], _ => rfl⟩⟩
    have C_law_is_word : OwnLW PR w K mg base := ⟨⟨_, _, ok_lword T F_law_is_word, He.glo_ok X G (c.at_ 13), F_law_is_word.kp, F_law_is_word.bindsN fun _ _ _ _ _ _ us hl => match us, hl with | [_], _ => rfl⟩⟩
    have C_law_is_integer : OwnLI PR w K mg base := ⟨⟨_, _, ok_lint T F_law_is_integer, He.glo_ok X G (c.at_ 14), F_law_is_integer.kp, F_law_is_integer.bindsN fun _ _ _ _ _ _ us hl => match us, hl with | [_], _ => rfl⟩⟩
    have C_law_are_names : OwnLN PR w K mg base := ⟨⟨_, _, ok_names T C_law_is_word F_law_are_names, He.glo_ok X G (c.at_ 15), F_law_are_names.kp, F_law_are_names.bindsN fun _ _ _ _ _ _ us hl => match us, hl with | [_], _ => rfl⟩⟩
    have C_law_due : Own PR w K mg base CX0 3 "_law_due" ["_law_duty", "_law_size", "_law_lists"] (spDue K) := ⟨⟨_, _, ok_due T C_law_is_word C_law_is_integer C_law_are_names F_law_due, He.glo_ok X G (c.at_ 16), F_law_due.kp, F_law_due.bindsN fun _ _ _ _ _ _ us hl => match us, hl with | [_, _, _], _ => rfl⟩⟩
    have C_law_told : Own PR w K mg base CX0 6 "_law_told" ["_law_duty", "_law_size", "_law_lists"] (spDue K) := ⟨⟨_, _, ok_told T hVE S_InvalidTask A_x.xc A_x.xf A_x.no A_x.ex A_x.kt B_Task F_law_told, He.glo_ok X G (c.at_ 17), F_law_told.kp, F_law_told.bindsN fun _ _ _ _ _ _ us hl => match us, hl with | [_, _, _], _ => rfl⟩⟩
    have C_law_list : Own PR w K mg base CX0 4 "_law_list" ["_law_pen_here", "_law_titles"] (spList K) := ⟨⟨_, _, ok_list T C_law_draw C_law_any_value F_law_list, He.glo_ok X G (c.at_ 18), F_law_list.kp, F_law_list.bindsN fun _ _ _ _ _ _ us hl => match us, hl with | [_, _], _ => rfl⟩⟩
    exact ⟨C_law_pen, C_law_words, C_law_pick, C_law_any_value, C_law_list, C_law_told, C_law_due⟩
  exact ok_law T L F_law
end LW
open PySem PySem.W PySem.Calls PyProof.Rows
theorem PySem.Challenge.cw_fewhands_k05_tasks_refused_holds : PySem.Challenge.rw_fewhands_k05_tasks_refused.Holds := by
  w_on; o_law
  refine HandSHeadRun.head_any (r := OpenLaw.row PySem.Challenge.rw_fewhands_k05_tasks_refused) (q := view (OpenLaw.row PySem.Challenge.rw_fewhands_k05_tasks_refused).prog [27]) (H := LW.hk) (ob := Ys.obC 6 LW.fb LW.fn LW.fc) (M := 2000) (loose := LW.loose) (d := HandSHeadRun.topDef (OpenLaw.row PySem.Challenge.rw_fewhands_k05_tasks_refused).prog 27) (kwd := []) Ys.obC_eq
    (by kernel_rfl) (fun s => by kernel_rfl) LW.run (by kernel_rfl) (by kernel_rfl) (by kernel_rfl) (by rfl) (by first | assumption | decide +kernel) (by decide +kernel) ⟨rfl, rfl, rfl, rfl, rfl, by decide +kernel⟩ ?hw ?hc
  case hw => w_witness2
  case hc =>
    refine Ys.walk_ofG (l := PySem.Challenge.rw_fewhands_k05_tasks_refused) (n := 63) (k := 7) (x := "_law_script") (CX := fun _ => L2.CX0) rfl (by decide) (by kernel_rfl) ⟨rfl, by decide, by decide⟩ ?F (fun _ _ _ _ _ z => z)
    intro w mg fa h Y G hmg0
    obtain ⟨K, KX, c⟩ := Y
    have hmg : mg ("law" : PySem.Str) = some (.ref fa) := by
      have e : (HandSHeadRun.topDef (OpenLaw.row PySem.Challenge.rw_fewhands_k05_tasks_refused).prog 27).name = ("law" : PySem.Str) := by kernel_rfl
      rw [← e]
      exact hmg0
    obtain ⟨fd, hb, hF⟩ := LW.facts (w := w) KX G hmg c
    exact ⟨K, fd, LW.spLaw K, KX, hb, fun H a ns hl _ hS => ⟨a, ns, rfl, hS, hl, fun _ => rfl⟩, hF⟩
