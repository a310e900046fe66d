import PyProof.Rows.All
import Wide.All
import OpenK.AllK
import Wide.FinOn
import HandS.ForMost
import HandS.SetTxt0
import HandS.Set
import HandS.SetFor
import HandS.Strs
import HandS.More
import PyProof.ReprRoads
import PyProof.CallFns
import KE.KStateDown
import HandS.Defaults
import HandS.Head0
import HandS.Head1
import HandS.Head2
import HandS.HeadEnd
import HandS.HeadHook1
import HandS.HeadHook2
import HandS.Conv
import HandS.TupAny
import HandS.Wide
import HandS.Flow
import HandS.NoneIn
import HandS.IsInst
import HandS.Text
import HandS.Property
import HandS.OwnEq
import HandS.MakeKwOnly
import HandS.MakeKw
import PySem.Challenge.RW_fewhands_k04_tasks_made
set_option Elab.async false
set_option linter.all false
set_option maxRecDepth 100000
set_option maxHeartbeats 4000000
/-! sets of texts: made of a list or a tuple, counted, sorted -/
namespace Ys
open PySem PySem.Spec PyProof.Rows L2

/-- what stands at a: a set of the texts l, each of them once -/
def TxSet (P : Program) (w : World) (h : Heap) (a : Addr) (l : List Str) : Prop :=
  ∃ D : Froz.SD, h.get? a = some (Froz.sObj "set" D) ∧ Froz.TxOk P w D l ∧ l.Nodup ∧ Ris D.2.2.place.toList ∧ (w.params.followText "set-order" = true ∨ D.2.2.led = true)

section
variable {P : Program} {w : World} {A : Around} {E : Value → Shared → Prop} {s : Shared}

theorem TxSet.same {h h' : Heap} {a : Addr} {l : List Str} (R : TxSet P w h a l) (k : ∀ o, h.get? a = some o → h'.get? a = some o) : TxSet P w h' a l :=
  let ⟨D, e, r⟩ := R
  ⟨D, k _ e, r⟩

theorem tail_tab (ep : Nat) (es : Array (Int × Value)) (t : SetTable) (b : Bool) (r : Ris t.place.toList) : Ris (Froz.tailTx ep es t b).2.2.place.toList ∧ (Froz.tailTx ep es t b).2.2.led = t.led := by
  unfold Froz.tailTx
  by_cases c : (!b && t.tooFull) = true
  · rw [if_pos c]
    exact ⟨relayAll_ris _ _ _, relayAll_led _ _ _⟩
  · rw [if_neg c]
    exact ⟨r, rfl⟩
theorem add_tab (hs : Int) (v : Value) (D : Froz.SD) (r : Ris D.2.2.place.toList) : Ris (Froz.addTx hs v D).2.2.place.toList ∧ (Froz.addTx hs v D).2.2.led = D.2.2.led := by
  have r1 := layNew_ris D.2.2 D.1 hs v r
  have l1 := layNew_led D.2.2 D.1 hs v
  unfold Froz.addTx
  have core : ∀ t : SetTable, Ris t.place.toList → t.led = D.2.2.led → ∀ ep es b, Ris (Froz.tailTx ep es t b).2.2.place.toList ∧ (Froz.tailTx ep es t b).2.2.led = D.2.2.led := fun t h1 h2 ep es b =>
    ⟨(tail_tab ep es t b h1).1, (tail_tab ep es t b h1).2.trans h2⟩
  refine core _ ?_ ?_ _ _ _
  · split
    · exact r1
    · exact r1
  · split
    · exact l1
    · exact l1

/-- a text that is there already -/
theorem add_there {a : Addr} {D : Froz.SD} {l : List Str} {k : Str} {u : Tok} {Q : Bool → Shared → Prop} (ho : s.heap.get? a = some (Froz.sObj "set" D)) (F : Froz.TxOk P w D l) (hk : k ∈ l) (hb : l.length < scanBound)
    (h : Q false s) : wpAny (model P w) A (setAddHashed a (.str k u) (hashStr w k)) Q E s := by
  obtain ⟨es, ep, t⟩ := D
  have e1 : (Froz.sObj "set" (es, ep, t)).data = .set es ep t := rfl
  have e2 : t.fits es.size = true := F.fit
  have e3 : ElemsOf (PySem.strKind P w) es.toList := F.el
  have e4 : es.size < scanBound := by
    have z : es.size = l.length := F.sz
    rw [z]
    exact hb
  have e5 : (PySem.strKind P w).is k (.str k u) = true := Froz.is_str k u
  unfold setAddHashed setAddHashedIn
  refine wpAny_holding (wpAny_bind (wpAny_setState_of ho e1 e2 ?_))
  dsimp only
  rw [byScan_of rfl e4 e3]
  simp only [↓reduceIte]
  unfold setAddByScan
  refine wpAny_bind (wpAny_bind (wpAny_rule (wpAny_bind (wpAny_setScan_of (knd := PySem.strKind P w) (k := k) e5 ho e1 e2 e3 ?_))))
  cases q : List.findIdx? (fun e => (PySem.strKind P w).is k e.2) es.toList with
  | some j =>
    dsimp only
    exact wpAny_pure (wpAny_pure h)
  | none =>
    obtain ⟨e, he, z⟩ := (F.mem k).mp hk
    have y := List.findIdx?_eq_none_iff.mp q e he
    rw [z] at y
    cases y
/-- one more text -/
theorem add_txt {a : Addr} {l : List Str} {k : Str} {u : Tok} {Q : Bool → Shared → Prop} (R : TxSet P w s.heap a l) (hb : l.length + 1 < scanBound)
    (h : ∀ (b : Bool) (h' : Heap) (l' : List Str), Heap.SameBut a s.heap h' → TxSet P w h' a l' → (∀ x, x ∈ l' ↔ x ∈ l ∨ x = k) → l'.length ≤ l.length + 1 → Q b { s with heap := h' }) :
    wpAny (model P w) A (setAddHashed a (.str k u) (hashStr w k)) Q E s := by
  obtain ⟨D, ho, F, nd, r, ld⟩ := R
  by_cases hk : k ∈ l
  · refine add_there ho F hk (by omega) ?_
    refine h false s.heap l (Heap.SameBut.refl a s.heap) ⟨D, ho, F, nd, r, ld⟩ (fun x => ⟨.inl, fun z => z.elim id fun e => e ▸ hk⟩) (Nat.le_succ _)
  · refine Froz.add_x ho F hk hb ?_
    have ex : (s.heap.update a (fun _ => Froz.sObj "set" (Froz.addTx (hashStr w k) (.str k u) D))).get? a = some (Froz.sObj "set" (Froz.addTx (hashStr w k) (.str k u) D)) := Froz.get_upd _ ho rfl
    obtain ⟨t1, t2⟩ := add_tab (hashStr w k) (.str k u) D r
    refine h true _ (k :: l) (Heap.SameBut.update s.heap a _) ⟨_, ex, Froz.add_ok u F, List.nodup_cons.mpr ⟨hk, nd⟩, t1, ?_⟩ (fun x => ?_) (Nat.le_refl _)
    · rw [t2]
      exact ld
    · rw [List.mem_cons]
      exact Or.comm

/-- the loop that fills the set -/
theorem fill_txt {I : Addr} {fp wr : List Addr} {G : Array GenState → Array GenState → Prop} {n : Nat} {Pv : Nat → Value → Prop} {St : Nat → Shared → Prop} {R : Result → Shared → Prop}
    (W : WalksS P w A.in1 I fp wr G n Pv St) (S : Addr) (hS : S ∉ fp) (xs : List Str) (hn : xs.length = n) (hfew : n + 1 < scanBound) (hval : ∀ i v, Pv i v → ∃ t, v = .str (xs.getD i Str.empty) t) :
    ∀ (k i : Nat) (s : Shared), n - i = k → i ≤ n → St i s → (∃ l, TxSet P w s.heap S l ∧ (∀ x, x ∈ l ↔ x ∈ xs.take i) ∧ l.length ≤ i) →
      (∀ s' l, Moved (S :: wr) G s s' → TxSet P w s'.heap S l → (∀ x, x ∈ l ↔ x ∈ xs) → l.length ≤ n → R (.ok (.ret .none)) s') →
      codeAny (model P w) A (.builtin "set.update.loop" ⟨[.ref S, .ref I], []⟩) R s := by
  have nw : S ∉ wr := fun z => hS (W.sub _ z)
  have sub : ∀ b ∈ wr, b ∈ S :: wr := fun b hb => List.mem_cons_of_mem _ hb
  intro k
  induction k with
  | zero =>
    intro i s hk hi st ⟨l, T, m, len⟩ hR
    obtain rfl : i = n := by omega
    refine codeAny_builtin PyProof.Rows.F.entry_set_update_loop ?_
    rw [Around.under_plainId PyProof.Rows.F.plain_set_update_loop _]
    refine wpAny_bind (W.done s _ _ st fun s' mv => ?_)
    refine wpAny_pure (hR s' l (mv.mono sub) (T.same fun o e => mv.heap S o nw e) (fun x => ?_) len)
    rw [m x, ← hn, List.take_length]
  | succ k ih =>
    intro i s hk hi st ⟨l, T, m, len⟩ hR
    have hlt : i < n := by omega
    refine codeAny_builtin PyProof.Rows.F.entry_set_update_loop ?_
    rw [Around.under_plainId PyProof.Rows.F.plain_set_update_loop _]
    refine wpAny_bind (W.item i s _ _ hlt st fun v s' hv st' mv => ?_)
    obtain ⟨t, rfl⟩ := hval i v hv
    have T' : TxSet P w s'.heap S l := T.same fun o e => mv.heap S o nw e
    refine wpAny_bind (wpAny_holding ?_)
    unfold setAdd
    refine wpAny_holding (wpAny_bind ((PySem.strKind P w).pyHash (k := xs.getD i Str.empty) (strKind_is _ _ _ _) ?_))
    refine add_txt (s := { s' with toks := s'.toks + 1 }) T' (by omega) fun b h' l' hsb T2 m2 len2 => ?_
    have hg : xs[i]? = some (xs.getD i Str.empty) := by
      have : i < xs.length := by omega
      rw [List.getD_eq_getElem?_getD, List.getElem?_eq_getElem this]
      rfl
    refine wpAny_pure ⟨plainId_quiet PyProof.Rows.F.plain_set_update_loop _, ih (i + 1) _ (by omega) hlt (W.frame _ s' _ _ st' (Nat.le_succ _) fun b hb o e => ?_) ⟨l', T2, fun x => ?_, by omega⟩ fun s'' l2 mv'' T'' m'' len'' => ?_⟩
    · rw [hsb.2 b (fun z : b = S => hS (by rw [← z]; exact hb))]
      exact e
    · rw [m2 x, m x, List.take_succ, hg, List.mem_append]
      simp
    · refine hR s'' l2 (Moved.trans W.gtrans ((mv.mono sub).then_heap (Nat.le_succ _) fun b o hb e => ?_) mv'') T'' m'' len''
      rw [hsb.2 b (fun z : b = S => hb (by rw [z]; exact List.mem_cons_self))]
      exact e
end
end Ys
namespace Ys
open PySem PySem.Spec PyProof.Rows L2
section
variable {P : Program} {w : World} {A : Around} {E : Value → Shared → Prop} {s : Shared}
abbrev bare (w : World) : Obj := { cls := .type "set", dict := none, data := .set #[] 0 (.fresh 0 0 (!w.params.followText "set-order")) }
theorem none_from {h : Heap} {b : Addr} (z : h.objs.size ≤ b) : h.get? b = none := by
  cases q : h.get? b with
  | none => rfl
  | some o => exact absurd (Nat.lt_of_lt_of_le (Heap.lt_size q) z) (Nat.lt_irrefl _)
theorem bare_txt {h : Heap} {a : Addr} (e : h.get? a = some (bare w)) : TxSet P w h a [] := by
  refine ⟨(#[], 0, .fresh 0 0 (!w.params.followText "set-order")), e, Froz.TxOk.nil rfl, List.nodup_nil, List.Pairwise.nil, ?_⟩
  show _ ∨ (!w.params.followText "set-order") = true
  cases w.params.followText "set-order"
  · exact .inr rfl
  · exact .inl rfl
/-- what a source of texts is: its class, and how it is walked -/
structure TxSrc (P : Program) (w : World) (T : String) (l : Addr) (xs : List Str) (h : Heap) : Prop where
  type : ∀ s' : Shared, (∀ b o, h.get? b = some o → s'.heap.get? b = some o) → s'.TypeIs (.ref l) T
  set : isSubtype (.type T) (.type "set") = pure false
  froz : isSubtype (.type T) (.type "frozenset") = pure false
  nd : (Value.type T == Value.type "dict") = false
  lt : l < h.objs.size
  iter : ∀ (A : Around) (s' : Shared) (E : Value → Shared → Prop) (Q : Value → Shared → Prop), (∀ b o, h.get? b = some o → s'.heap.get? b = some o) →
    (∀ it : Obj, (∀ A' : Around, A'.handled = none → l ≠ s'.heap.objs.size → ∃ (Pv : Nat → Value → Prop) (St : Nat → Heap → Prop),
        Walks P w A' s'.heap.objs.size [s'.heap.objs.size, l] [s'.heap.objs.size] xs.length Pv St ∧ (∀ i v, Pv i v → ∃ t, v = .str (xs.getD i Str.empty) t) ∧ St 0 (s'.heap.push it)) →
      Q (.ref s'.heap.objs.size) { s' with heap := s'.heap.push it }) →
    wpAny (model P w) A (pyIter (.ref l)) Q E s'
theorem src_list {l : Addr} {items : Array Value} {xs : List Str} {h : Heap} (hl : h.IsList l items) (hi : StrsAre items.toList xs) : TxSrc P w "list" l xs h where
  type := fun s' k => by
    obtain ⟨o, e, c, _⟩ := hl
    exact ⟨o, k _ _ e, c⟩
  set := F.sub_list_set
  froz := F.sub_list_frozenset
  nd := by decide
  lt := by
    obtain ⟨o, e, _⟩ := hl
    exact Heap.lt_size e
  iter := fun A s' E Q k hQ => by
    have hl' : s'.heap.IsList l items := by
      obtain ⟨o, e, r⟩ := hl
      exact ⟨o, k _ _ e, r⟩
    refine wpAny_pyIter_list hl' (hQ _ fun A' hA ne => ⟨fun i v => items[i]? = some v, fun i z => z.IsListIter s'.heap.objs.size l i ∧ z.IsList l items, ?_, fun i v hv => SS.strs_at hi i v (by rw [Array.getElem?_toList]; exact hv), ⟨⟨_, Heap.get?_push_size _ rfl, rfl, rfl⟩, hl'.push _⟩⟩)
    have e : xs.length = items.size := by rw [← StrsAre.len_eq hi, Array.length_toList]
    rw [e]
    exact Walks.list hA _ l ne items
theorem src_tuple {l : Addr} {items : Array Value} {xs : List Str} {h : Heap} (hl : h.IsTuple l items) (hi : StrsAre items.toList xs) : TxSrc P w "tuple" l xs h where
  type := fun s' k => by
    obtain ⟨o, e, c, _⟩ := hl
    exact ⟨o, k _ _ e, c⟩
  set := F.sub_tuple_set
  froz := F.sub_tuple_frozenset
  nd := by decide
  lt := by
    obtain ⟨o, e, _⟩ := hl
    exact Heap.lt_size e
  iter := fun A s' E Q k hQ => by
    have hl' : s'.heap.IsTuple l items := by
      obtain ⟨o, e, r⟩ := hl
      exact ⟨o, k _ _ e, r⟩
    refine wpAny_pyIter_tuple hl' (hQ _ fun A' hA ne => ⟨fun i v => items[i]? = some v, fun i z => z.IsTupleIter s'.heap.objs.size l i ∧ z.IsTuple l items, ?_, fun i v hv => SS.strs_at hi i v (by rw [Array.getElem?_toList]; exact hv), ⟨⟨_, Heap.get?_push_size _ rfl, rfl, rfl⟩, hl'.push _⟩⟩)
    have e : xs.length = items.size := by rw [← StrsAre.len_eq hi, Array.length_toList]
    rw [e]
    exact Walks.tuple hA _ l ne items

/-- set(texts) -/
theorem make_txt {T : String} {l : Addr} {xs : List Str} {Q : Value → Shared → Prop} (hh : A.handled = none) (S : TxSrc P w T l xs s.heap) (few : xs.length + 1 < scanBound)
    (h : ∀ (h' : Heap) (tk : Nat) (l' : List Str), TxSet P w h' s.heap.objs.size l' → (∀ x, x ∈ l' ↔ x ∈ xs) → l'.length ≤ xs.length → (∀ b o, s.heap.get? b = some o → h'.get? b = some o) →
      Q (.ref s.heap.objs.size) { s with heap := h', toks := tk }) : wpAny (model P w) A (call (.type "set") [.ref l]) Q E s := by
  have a1 := F.called_set.made
  have a2 := F.called_set.sub
  have a3 := F.called_set.notType
  have a4 := F.called_set.canCreate
  have a5 := F.typeCall_set_1 (.ref l)
  obtain ⟨c, tl, a6⟩ := F.called_set.mro
  refine wpAny_call (codeAny_of_tree ?_)
  show wpAny _ _ (callAny (.type "set") _) _ _ _
  refine wpAny_pure ⟨Code.quiet_builtin _ (by decide +kernel), codeAny_builtin F.entry_type_call ?_⟩
  rw [Around.under_plain (weight_type_call_type "set" [.ref l] []) rfl]
  repeat (any_goals (first | assumption | wp_step))
  refine codeAny_mono (L2.code_set_led1 (.ref l) (E := E) (Q₁ := fun v z => v = .ref s.heap.objs.size ∧ z = { s with heap := s.heap.push (bare w) }) ⟨rfl, rfl⟩) fun r s1 hr => ?_
  cases r with
  | error e => exact hr
  | ok fl =>
    cases fl with
    | next => exact hr.elim
    | brk => exact hr.elim
    | cont => exact hr.elim
    | ret v =>
      obtain ⟨rfl, rfl⟩ := hr
      have b0 : (s.heap.push (bare w)).get? s.heap.objs.size = some (bare w) := Heap.get?_push_size _ rfl
      have b1 : Shared.TypeIs { s with heap := s.heap.push (bare w) } (.ref s.heap.objs.size) "set" := ⟨_, b0, rfl⟩
      have b2 := F.called_set.init.lookup
      have b3 := F.called_set.init.bind (.ref s.heap.objs.size)
      repeat (any_goals (first | assumption | wp_step))
      refine codeAny_mono (codeAny_call_builtin (R := wants (fun r z => r = .none ∧ ∃ h' tk l', z = { s with heap := h', toks := tk } ∧ TxSet P w h' s.heap.objs.size l' ∧ (∀ x, x ∈ l' ↔ x ∈ xs) ∧ l'.length ≤ xs.length ∧
          (∀ b o, s.heap.get? b = some o → h'.get? b = some o)) E) F.called_set.init.plain F.entry_set_init (check_set_init_1 b1 ?_)) fun r2 s2 hr2 => ?_
      · have k1 : ∀ b o, s.heap.get? b = some o → (s.heap.push (bare w)).get? b = some o := fun b o e => Heap.get?_push_of_some _ e
        have c1 : Shared.TypeIs { s with heap := s.heap.push (bare w) } (.ref l) T := S.type _ k1
        have c2 := S.set
        have c3 := S.froz
        have c4 := S.nd
        unfold Builtin.«set.__init__» noKeywords Builtin.Frozenset.updateFrom
        generalize hPI : pyIter = PI
        wp_walk
        subst hPI
        have hsz : (s.heap.push (bare w)).objs.size = s.heap.objs.size + 1 := Heap.size_push ..
        have lt := S.lt
        refine S.iter _ _ _ _ k1 fun it hit => ?_
        refine wpAny_bind (wpAny_runValue ?_)
        obtain ⟨Pv, St, W, hv, st⟩ := hit A.in1.in1.in1 (by simp [hh]) (by show l ≠ (s.heap.push (bare w)).objs.size; rw [hsz]; exact Nat.ne_of_lt (Nat.lt_succ_of_lt lt))
        have ns : s.heap.objs.size ∉ [(s.heap.push (bare w)).objs.size, l] := by
          rw [hsz]
          simp only [List.mem_cons, List.not_mem_nil, or_false, not_or]
          exact ⟨Nat.ne_of_lt (Nat.lt_succ_self _), Nat.ne_of_gt lt⟩
        refine fill_txt W.toS s.heap.objs.size ns xs rfl few hv (xs.length - 0) 0 _ (by omega) (Nat.zero_le _) st ⟨[], ?_, (fun x => by simp), Nat.zero_le _⟩ fun s' l' mv T' m len => ?_
        · exact bare_txt (Heap.get?_push_of_some _ b0)
        · obtain ⟨h', g', d', tk', os'⟩ := s'
          obtain rfl : g' = s.gens := mv.gens
          obtain rfl : d' = s.drawn := mv.drawn
          obtain rfl : os' = s.os := mv.os
          refine wpAny_pure (wpAny_pure ⟨rfl, h', tk', l', rfl, T', m, len, fun b o e => ?_⟩)
          have hb : b < s.heap.objs.size := Heap.lt_size e
          refine mv.heap b o ?_ (Heap.get?_push_of_some _ (Heap.get?_push_of_some _ e))
          simp only [List.mem_cons, List.not_mem_nil, or_false, not_or]
          refine ⟨Nat.ne_of_lt hb, ?_⟩
          show b ≠ (s.heap.push (bare w)).objs.size
          rw [hsz]
          exact Nat.ne_of_lt (Nat.lt_succ_of_lt hb)
      · cases r2 with
        | error e => exact hr2
        | ok f2 =>
          cases f2 with
          | next => exact hr2.elim
          | brk => exact hr2.elim
          | cont => exact hr2.elim
          | ret r =>
            obtain ⟨rfl, h', tk, l', rfl, T', m, len, k⟩ := hr2
            repeat (any_goals (first | assumption | wp_step))
            exact h _ _ _ T' m len k
end
end Ys
namespace Ys
open PySem PySem.Spec PyProof.Rows L2
section
variable {P : Program} {w : World} {A : Around} {E : Value → Shared → Prop} {s : Shared}
theorem txt_vals {es : List (Int × Value)} (h : ElemsOf (PySem.strKind P w) es) : ∀ e ∈ es, ∃ (x : Str) (t : Tok), e.2 = .str x t := fun e he => by
  obtain ⟨⟨k, hk, _⟩, _⟩ := h e he
  obtain ⟨t, q⟩ := Value.isStrOf_shape (x := k) (v := e.2) hk
  exact ⟨k, t, q⟩
def txtOf : Value → Str
  | .str x _ => x
  | _ => Str.empty
theorem strsAre_txt : ∀ {us : List Value}, (∀ u ∈ us, ∃ (x : Str) (t : Tok), u = .str x t) → StrsAre us (us.map txtOf)
  | [], _ => .nil
  | u :: us, h => by
    obtain ⟨x, t, rfl⟩ := h u List.mem_cons_self
    exact .cons x t (strsAre_txt fun v hv => h v (List.mem_cons_of_mem _ hv))
theorem perm_len : ∀ (l m : List Str), l.Nodup → (∀ x ∈ l, x ∈ m) → m.length ≤ l.length → m.Perm l
  | [], m, _, _, h => by
    have e : m = [] := List.length_eq_zero_iff.mp (Nat.le_zero.mp h)
    rw [e]
  | x :: l, m, nd, h, hl => by
    obtain ⟨n1, n2⟩ := List.nodup_cons.mp nd
    have hx : x ∈ m := h x List.mem_cons_self
    have p := List.perm_cons_erase hx
    have e : m.length = (m.erase x).length + 1 := by rw [p.length_eq, List.length_cons]
    refine p.trans (.cons x (perm_len l (m.erase x) n2 (fun y hy => ?_) (by rw [List.length_cons] at hl; omega)))
    have ne : y ≠ x := fun z => n1 (z ▸ hy)
    exact (List.mem_erase_of_ne ne).mpr (h y (List.mem_cons_of_mem _ hy))
/-- sorted(a set of texts) -/
theorem sort_txt {a : Addr} {l : List Str} {Q : Value → Shared → Prop} (hh : A.handled = none) (T : TxSet P w s.heap a l) (few : l.length < 64)
    (hQ : ∀ s' p (out : List Value) (c : Nat) (ys : List Str), (∀ b o, s.heap.get? b = some o → s'.heap.get? b = some o) → s'.gens = s.gens → s'.os = s.os → s.heap.objs.size ≤ p →
      s'.heap.get? p = some { cls := .type "list", data := .seq out.toArray c } → StrsAre out ys → ys.Perm l → sortedS ys = true → Q (.ref p) s') :
    wpAny (model P w) A (call (.builtin "sorted") [.ref a]) Q E s := by
  obtain ⟨⟨es, ep, t⟩, ho, F, nd, r, ld⟩ := T
  have fit : t.fits es.size = true := F.fit
  have sz : es.size = l.length := F.sz
  have el : ElemsOf (PySem.strKind P w) es.toList := F.el
  have vals := txt_vals el
  refine Calls.call_function_entry kind_sorted plain_sorted entry_sorted (args_sorted1 _) ?_
  unfold Builtin.«sorted»
  refine wpAny_bind (m := checkCount "sorted" 1 1 _) (wpAny_pure ?_)
  refine wpAny_bind (collect_set (A := A.in1) hh ⟨_, ho, rfl, rfl⟩ fit (by rw [sz]; unfold scanBound; omega) r ld fun s1 vs k1 hz g1 o1 pm => ?_)
  have hv : ∀ v ∈ vs, ∃ (x : Str) (t : Tok), v = .str x t := fun v hv => by
    obtain ⟨e, he, q⟩ := List.mem_map.mp (pm.mem_iff.mp hv)
    obtain ⟨x, t, z⟩ := vals e he
    exact ⟨x, t, by rw [← q, z]⟩
  have hS := strsAre_txt hv
  have hlen : vs.length = l.length := by rw [pm.length_eq, List.length_map, Array.length_toList, sz]
  -- the texts of the set's entries are l, in some order
  have pl : (vs.map txtOf).Perm l := by
    have p1 : (vs.map txtOf).Perm ((es.toList.map (·.2)).map txtOf) := pm.map txtOf
    have mem : ∀ x, x ∈ (es.toList.map (·.2)).map txtOf ↔ x ∈ l := fun x => by
      rw [F.mem x, List.map_map, List.mem_map]
      constructor
      · rintro ⟨e, he, q⟩
        obtain ⟨y, t, z⟩ := vals e he
        refine ⟨e, he, ?_⟩
        have : y = x := by
          have q' : txtOf e.2 = x := q
          rw [z] at q'
          exact q'
        rw [z, this]
        exact Froz.is_str x t
      · rintro ⟨e, he, q⟩
        obtain ⟨t, z⟩ := Value.isStrOf_shape (x := x) (v := e.2) q
        exact ⟨e, he, by show txtOf e.2 = x; rw [z]; rfl⟩
    have len : ((es.toList.map (·.2)).map txtOf).length = l.length := by rw [List.length_map, List.length_map, Array.length_toList, sz]
    refine p1.trans ?_
    exact perm_len l _ nd (fun x hx => (mem x).mpr hx) (Nat.le_of_eq len)
  refine wpAny_bind (wpAny_newList ?_ (by rw [hlen, sizeLine_eq]; omega))
  have hoL : (s1.heap.push (seqObj "list" vs.toArray 0)).get? s1.heap.objs.size = some (seqObj "list" vs.toArray 0) := Heap.get?_push_size _ rfl
  show wpAny _ _ _ _ _ { s1 with heap := s1.heap.push (seqObj "list" vs.toArray 0) }
  refine wpAny_bind (wpAny_holding (wpAny_call_entry slot_list_sort ⟨_, hoL, rfl⟩ entry_list_sort
    (list_sort_treeK strKind_oneLt (s := { s1 with heap := s1.heap.push (seqObj "list" vs.toArray 0) }) hoL hS.keysOf (fun v1 v2 rest e => keyKind_strs (by rw [← e]; exact hS)) (by rw [hlen]; exact few) fun st' hp hs => ⟨_, rfl, ?_⟩)
    (args_list_sort _)))
  obtain ⟨ys, b1, b2, b3⟩ := sorted_out_str hS hp hs
  obtain ⟨c, hc⟩ := sortedHeap_at (vs := vs) (out := (arrOf st').map (·.2)) hoL
  refine wpAny_pure ⟨_, rfl, hQ _ s1.heap.objs.size ((arrOf st').map (·.2)).toList c ys (fun b u e => ?_) g1 o1 hz (by rw [Array.toArray_toList]; exact hc) b1 (b2.trans pl) b3⟩
  have q := k1 b u e
  have hlt := Heap.lt_size q
  show (sortedHeap (s1.heap.push (seqObj "list" vs.toArray 0)) s1.heap.objs.size vs ((arrOf st').map (·.2))).get? b = some u
  rw [sortedHeap_old (Nat.ne_of_lt hlt) (by rw [size_push']; exact Nat.lt_succ_of_lt hlt)]
  exact Heap.get?_push_of_some _ q
end

/-! ### over the abstract heap -/
def TxO (P : Program) (w : World) (a : Addr) (l : List Str) : HO := .ext fun h => TxSet P w h a l
section
variable {X : Cx}
theorem txO_ok {P : Program} {w : World} {H : Hp} {h : Heap} {a : Addr} {l : List Str} (T : TxSet P w h a l) : ObjOk P w H h a (TxO P w a l) := by
  have ⟨D, e, _⟩ := T
  exact ⟨T, ⟨_, e⟩, fun h1 h2 p k => TxSet.same p k⟩
def rSetTx (K : PySem.W.Frag) (P : Program) (w : World) : List V → Hp → VK → Prop := fun vs H Q => ∃ (p : Addr) (xs : List Str), vs = [V.ref p] ∧ (SqL K H p (xs.map V.str) ∨ SqT K H p (xs.map V.str)) ∧ xs.length < 1000 ∧
  ∀ a l, (∀ x, x ∈ l ↔ x ∈ xs) → l.Nodup → l.length ≤ xs.length → H a = none → Q (.ref a) (upd H a (TxO P w a l))
theorem cr_setTx (hc : X.calm = true) : CallR X (.type "set") (rSetTx X.K X.prog X.w) := by
  intro pins s σ H vs us Q I r h
  obtain ⟨p, xs, rfl, hq, few, q⟩ := h
  rw [Vals.ref1 r]
  have fin : ∀ T, TxSrc X.prog X.w T p xs s.heap → wpAny (model X.prog X.w) X.A (call (.type "set") [.ref p]) (EP X pins σ Q) X.xe s := fun T S => by
    refine make_txt (I.ok.hd hc) S (by unfold scanBound; omega) fun h' tk l' T' m len k => ?_
    have nd : l'.Nodup := let ⟨_, _, _, nd, _⟩ := T'; nd
    exact ⟨.ref s.heap.objs.size, upd H s.heap.objs.size (TxO X.prog X.w s.heap.objs.size l'), I.laid (t' := tk) k (Nat.le_refl _) (txO_ok T'), rfl, q _ l' m nd len (I.hok.fresh (Nat.le_refl _))⟩
  rcases hq with hq | hq
  · obtain ⟨its, rv, pl, hz⟩ := I.list hq
    exact fin "list" (src_list pl.isList (by simpa using rv.strs))
  · obtain ⟨its, rv, pl, hz⟩ := I.tuple hq
    exact fin "tuple" (src_tuple pl (by simpa using rv.strs))
def rSortTx (P : Program) (w : World) : List V → Hp → VK → Prop := fun vs H Q => ∃ (a : Addr) (l : List Str), vs = [V.ref a] ∧ H a = some (TxO P w a l) ∧ l.length < 64 ∧
  ∀ (ys : List Str) (p : Addr), ys.Perm l → sortedS ys = true → H p = none → Q (.ref p) (upd H p (.lst (ys.map V.str)))
theorem cr_sortTx (hc : X.calm = true) : CallR X (.builtin "sorted") (rSortTx X.prog X.w) := by
  intro pins s σ H vs us Q I r h
  obtain ⟨a, l, rfl, ha, few, q⟩ := h
  rw [Vals.ref1 r]
  have T : TxSet X.prog X.w s.heap a l := (I.hok a _ ha).1
  refine sort_txt (I.ok.hd hc) T few fun s' p out c ys k g o hp hg hS pm so => ?_
  have hn : H p = none := I.hok.fresh hp
  have hlen : (ys.map V.str).length ≤ sizeLine := by rw [List.length_map, pm.length_eq, sizeLine_eq]; omega
  obtain ⟨h', g', d', tk', os'⟩ := s'
  obtain rfl : os' = s.os := o
  refine ⟨.ref p, upd H p (.lst (ys.map V.str)), I.call (h' := h') (g' := g') (d' := d') (t' := tk') (ch := []) (Un.laid k hp hn) (I.hok.laid k hp ⟨hlen, out, c, vals_of_strs hS, hg⟩) ?_ (fun _ z => nomatch z), rfl, q ys p pm so hn⟩
  obtain rfl : g' = s.gens := g
  exact I.bare
def rLenTx (P : Program) (w : World) : List V → Hp → VK → Prop := fun vs H Q => ∃ (a : Addr) (l : List Str), vs = [V.ref a] ∧ H a = some (TxO P w a l) ∧ l.length < 1000 ∧ Q (.int l.length) H
theorem cr_lenTx : CallR X (.builtin "len") (rLenTx X.prog X.w) := by
  intro pins s σ H vs us Q I r h
  obtain ⟨a, l, rfl, ha, few, q⟩ := h
  rw [Vals.ref1 r]
  have T : TxSet X.prog X.w s.heap a l := (I.hok a _ ha).1
  obtain ⟨⟨es, ep, t⟩, ho, F, nd, rs, ld⟩ := T
  have sz : es.size = l.length := F.sz
  refine call_len_set ho ⟨rfl, rfl, rfl⟩ rfl F.fit (by rw [sz]; omega) ⟨.int l.length, H, I.tok _, ⟨_, by rw [sz]⟩, q⟩
end

end Ys
namespace Ys
open PySem PySem.Spec PyProof.Rows L2
/-! ### data, dicts too -/
def kD : Key → PyData
  | .inl i => .int i
  | .inr x => .str x
mutual
inductive Dt (K : PySem.W.Frag) (H : Hp) : V → PyData → Prop
  | non : Dt K H .non .none
  | bl (b : Bool) : Dt K H (.bl b) (.bool b)
  | int (i : Int) : Dt K H (.int i) (.int i)
  | str (x : Str) : Dt K H (.str x) (.str x)
  | lst {a : Addr} {xs : List V} {ds : List PyData} : SqL K H a xs → Dts K H xs ds → Dt K H (.ref a) (.list ds)
  | tup {a : Addr} {xs : List V} {ds : List PyData} : SqT K H a xs → Dts K H xs ds → Dt K H (.ref a) (.tuple ds)
  | dct {a : Addr} {kvs : List (Key × V)} {ds : List (PyData × PyData)} : Rd H a (.dK kvs) → ds.map (·.1) = kvs.map (fun p => kD p.1) → Dts K H (kvs.map (·.2)) (ds.map (·.2)) → Dt K H (.ref a) (.dict ds)
inductive Dts (K : PySem.W.Frag) (H : Hp) : List V → List PyData → Prop
  | nil : Dts K H [] []
  | cons {v : V} {vs : List V} {d : PyData} {ds : List PyData} : Dt K H v d → Dts K H vs ds → Dts K H (v :: vs) (d :: ds)
end
section
variable {X : Cx} {pins : List (Addr × Obj)} {σ : L2.St} {H : Hp} {s : Shared}
/-- the module's table of modules stands in the written part: so no list, no other dict stands there -/
def SysIn (K : PySem.W.Frag) : Prop := ∃ o, K.lookup sysModules = some o ∧ o.cls = .type "dict"
theorem sys_ne (I : Inv X pins σ H s) (S : SysIn X.K) {a : Addr} {u : HO} (h : Rd H a u) : a ≠ sysModules := by
  rintro rfl
  obtain ⟨o, e, _⟩ := S
  have n := (I.bs _ _ (I.mod.kin _ _ e)).2
  rcases h with h | ⟨_, h⟩
  · rw [n] at h; cases h
  · rw [n] at h; cases h
theorem sys_neL (I : Inv X pins σ H s) (S : SysIn X.K) {a : Addr} {xs : List V} (h : SqL X.K H a xs) : a ≠ sysModules := by
  rcases h with h | ⟨o, its, n, hk, hc, _⟩
  · exact sys_ne I S h
  · rintro rfl
    obtain ⟨o', e, c⟩ := S
    rw [hk] at e
    cases e
    rw [hc] at c
    exact absurd c (by decide)
theorem kD_reads {h : Heap} {k : Key} {v : Value} (e : keyIs k v = true) : Reads h v (kD k) [] := by
  rcases keyIs_shape e with ⟨i, t, rfl, rfl⟩ | ⟨x, t, rfl, rfl⟩
  · exact .int i t
  · exact .str x t
theorem keys_reads {h : Heap} : ∀ {es : List DictEntry} {kvs : List (Key × Value)} {ks : List PyData}, Pairs (mixKind X.prog X.w) es kvs → ks = kvs.map (fun p => kD p.1) → ReadsAll h (es.map (·.key)) ks []
  | _, _, _, .nil, e => by subst e; exact .nil
  | _, _, _, .cons a b r, e => by
    subst e
    exact .cons (kD_reads a) (keys_reads r rfl)
theorem pairs_vals : ∀ {es : List DictEntry} {kvs : List (Key × Value)}, Pairs (mixKind X.prog X.w) es kvs → es.map (·.val) = kvs.map (·.2)
  | _, _, .nil => rfl
  | _, _, .cons a b r => by rw [List.map_cons, List.map_cons, b, pairs_vals r]
theorem kv_vals : ∀ {kvs : List (Key × V)} {vs : List (Key × Value)}, KV kvs vs → Vals (kvs.map (·.2)) (vs.map (·.2))
  | _, _, .nil => .nil
  | _, _, .cons r t => .cons r.2 (kv_vals t)
theorem kv_keys : ∀ {kvs : List (Key × V)} {vs : List (Key × Value)}, KV kvs vs → kvs.map (fun p => kD p.1) = vs.map (fun p => kD p.1)
  | _, _, .nil => rfl
  | _, _, .cons r t => by rw [List.map_cons, List.map_cons, r.1, kv_keys t]
theorem size_snd : ∀ ds : List (PyData × PyData), sizeOf (ds.map (·.2)) ≤ sizeOf ds
  | [] => Nat.le_refl _
  | (k, v) :: ds => by
    have ih := size_snd ds
    simp only [List.map_cons, List.cons.sizeOf_spec, Prod.mk.sizeOf_spec]
    omega
mutual
theorem Dt.reads (I : Inv X pins σ H s) (S : SysIn X.K) : ∀ (d : PyData) (v : V) (u : Value), Dt X.K H v d → RelV v u → ∃ as, Reads s.heap u d as ∧ sysModules ∉ as
  | .none, _, _, h, r => by
    cases h
    cases r
    exact ⟨_, .none, by simp⟩
  | .bool b, _, _, h, r => by
    cases h
    cases r
    exact ⟨_, .bool b, by simp⟩
  | .int i, _, _, h, r => by
    cases h
    obtain ⟨t, rfl⟩ := r
    exact ⟨_, .int i t, by simp⟩
  | .str x, _, _, h, r => by
    cases h
    obtain ⟨t, rfl⟩ := r
    exact ⟨_, .str x t, by simp⟩
  | .list ds, _, _, h, r => by
    cases h with
    | lst hs ha =>
      cases r
      have ne := sys_neL I S hs
      obtain ⟨its, rv, ⟨o, n, ho, hc, _, hd⟩, _⟩ := I.list hs
      obtain ⟨as, hr, na⟩ := Dts.reads I S ds _ its ha rv
      exact ⟨_, .list ho hc hd hr, fun z => (List.mem_cons.mp z).elim (fun e => ne e.symm) na⟩
  | .tuple ds, _, _, h, r => by
    cases h with
    | tup hs ha =>
      cases r
      obtain ⟨its, rv, ⟨o, ho, hc, n, hd⟩, _⟩ := I.tuple hs
      obtain ⟨as, hr, na⟩ := Dts.reads I S ds _ its ha rv
      exact ⟨_, .tuple ho hc hd hr, na⟩
  | .dict ds, _, _, h, r => by
    cases h with
    | dct hs hk ha =>
      cases r
      have ne := sys_ne I S hs
      obtain ⟨_, _, vs, rel, o, es, ep, ho, hx, hd, _, hp, _⟩ := dk_rd I.hok hs
      obtain ⟨as, hr, na⟩ := Dts.reads I S (ds.map (·.2)) _ (vs.map (·.2)) ha (kv_vals rel)
      refine ⟨_, .dict ho hx.1 hd (keys_reads hp (hk.trans (kv_keys rel))) (by rw [pairs_vals hp]; exact hr), fun z => ?_⟩
      exact (List.mem_append.mp z).elim (fun e => ne (List.mem_singleton.mp e).symm) na
termination_by d => sizeOf d
decreasing_by
  · simp only [PyData.list.sizeOf_spec]; omega
  · simp only [PyData.tuple.sizeOf_spec]; omega
  · have := size_snd ds
    simp only [PyData.dict.sizeOf_spec]; omega
theorem Dts.reads (I : Inv X pins σ H s) (S : SysIn X.K) : ∀ (ds : List PyData) (vs : List V) (us : List Value), Dts X.K H vs ds → Vals vs us → ∃ as, ReadsAll s.heap us ds as ∧ sysModules ∉ as
  | [], _, _, h, r => by
    cases h
    cases r
    exact ⟨_, .nil, by simp⟩
  | d :: ds, _, _, h, r => by
    cases h with
    | cons h1 h2 =>
      cases r with
      | cons r1 r2 =>
        obtain ⟨as, q1, n1⟩ := Dt.reads I S d _ _ h1 r1
        obtain ⟨bs, q2, n2⟩ := Dts.reads I S ds _ _ h2 r2
        exact ⟨_, .cons q1 q2, fun z => (List.mem_append.mp z).elim n1 n2⟩
termination_by ds => sizeOf ds
decreasing_by
  · simp only [List.cons.sizeOf_spec]; omega
  · simp only [List.cons.sizeOf_spec]; omega
end
/-! data without dicts -/
mutual
theorem Dt.dp {K : PySem.W.Frag} : ∀ (d : PyData) (v : V), d.canLay0 = true → Dt K H v d → Dp K H v d
  | .none, _, _, h => by cases h; exact .non
  | .bool b, _, _, h => by cases h; exact .bl b
  | .int i, _, _, h => by cases h; exact .int i
  | .str x, _, _, h => by cases h; exact .str x
  | .list ds, _, c, h => by
    cases h with
    | lst hs ha => exact .lst hs (Dts.dp ds _ (by simpa only [PyData.canLay0] using c) ha)
  | .tuple ds, _, c, h => by
    cases h with
    | tup hs ha => exact .tup hs (Dts.dp ds _ (by simpa only [PyData.canLay0] using c) ha)
  | .dict _, _, c, _ => by simp [PyData.canLay0] at c
theorem Dts.dp {K : PySem.W.Frag} : ∀ (ds : List PyData) (vs : List V), PyData.canLayAll0 ds = true → Dts K H vs ds → DpAll K H vs ds
  | [], _, _, h => by cases h; exact .nil
  | d :: ds, _, c, h => by
    cases h with
    | cons h1 h2 =>
      have c' : (d.canLay0 && PyData.canLayAll0 ds) = true := by simpa only [PyData.canLayAll0] using c
      obtain ⟨c1, c2⟩ := Bool.and_eq_true_iff.mp c'
      exact .cons (Dt.dp d _ c1 h1) (Dts.dp ds _ c2 h2)
end
end

/-! ### repr -/
section
variable {X : Cx}
def rRepr (K : PySem.W.Frag) : List V → Hp → VK → Prop := fun vs H Q => ∃ (x : V) (d : PyData), vs = [x] ∧ Dt K H x d ∧ d.showable = true ∧ d.depth ≤ 60 ∧ d.shown.length ≤ sizeLine ∧ Q (.str d.shown) H
theorem cr_repr (hg : X.A.guards = some []) (S : SysIn X.K) (hu : X.A.units + 64 < cLine) : CallR X (.builtin "repr") (rRepr X.K) := by
  intro pins s σ H vs us Q I r h
  obtain ⟨x, d, rfl, hd, sh, dp, sz, q⟩ := h
  obtain ⟨u, rfl, rx⟩ := vals1 r
  obtain ⟨as, hr, na⟩ := Dt.reads I S d x u hd rx
  cases x with
  | non =>
    cases rx; cases hd
    simp only [PyData.shown] at q
    exact PySem.P.repr_of_none ⟨.str _, H, I.tok _, ⟨_, rfl⟩, q⟩
  | bl b =>
    cases rx; cases hd
    simp only [PyData.shown] at q
    exact PySem.P.repr_of_bool ⟨.str _, H, I.tok _, ⟨_, rfl⟩, q⟩
  | int i =>
    obtain ⟨t, rfl⟩ := rx; cases hd
    simp only [PyData.shown] at q
    have hz : i.natAbs.log2 < 1920 := by simpa [PyData.showable] using sh
    exact PySem.P.repr_of_int hz ⟨.str _, H, I.tok _, ⟨_, rfl⟩, q⟩
  | str z =>
    obtain ⟨t, rfl⟩ := rx; cases hd
    simp only [PyData.shown] at q sz
    exact PySem.P.repr_of_str ⟨.str _, H, I.tok _, ⟨_, rfl⟩, q⟩ sz
  | byt _ => cases hd
  | flt _ => cases hd
  | ty _ => cases hd
  | ref a =>
    cases rx
    refine repr_of_reads' hr sh (fun _ => na) hg (by omega) (fun _ _ e => e) (fun h' u tk k => ?_) sz
    exact ⟨.str _, H, I.kept (t' := tk) k, ⟨_, rfl⟩, q⟩
end

/-! ### a def that is told that nothing is being shown -/
structure FnG (P : Program) (w : World) (K : PySem.W.Frag) (mg : Str → Option Value) (base : Heap) (CX : CXT) (k : Nat) (f : Addr) (fd : FuncData) (ps : List Str) (sp : Sp) : Prop where
  len : ∀ vs H Q E, sp vs H Q E → vs.length = ps.length
  run : ∀ (A : Around) (outer : List Env) (s : Shared) (H : Hp) (args : Args) (us : List Value) (vs : List V) (Q : VK) (E : XK), A.guards = some [] → Room k A → Env0 P w K mg base A outer s H → BindsTo s fd args (ps.zip us) → Vals vs us → sp vs H Q E →
    codeAny (model P w) A (.call (.ref f) args) (CR CX outer P w H s Q E) s
theorem FnOk.g {P : Program} {w : World} {K : PySem.W.Frag} {mg : Str → Option Value} {base : Heap} {CX : CXT} {k : Nat} {f : Addr} {fd : FuncData} {ps : List Str} {sp : Sp} (F : FnOk P w K mg base CX k f fd ps sp) : FnG P w K mg base CX k f fd ps sp :=
  ⟨F.len, fun A outer s H args us vs Q E _ => F.run A outer s H args us vs Q E⟩
end Ys
namespace Ys
open PySem PySem.Spec PyProof.Rows L2
section
variable {P : Program} {w : World} {K : PySem.W.Frag} {mg : Str → Option Value} {base : Heap} {x qual : Str} {params : Arguments} {body : List Stmt} {scope : Scope} {dvs : List V} {kws : List (Str × V)} {f : Addr} {fd : FuncData}
/-- a def's body, where nothing is being shown -/
theorem okG {CX : CXT} {N ps : List Str} {k : Nat} {sp : Sp} (F : FunD K x qual params body scope dvs kws f fd) (S : FnScope N ps scope) (len : ∀ vs H Q E, sp vs H Q E → vs.length = ps.length)
    (hb : ∀ (cdv : Value) (A : Around) (outer : List Env) (s : Shared) (H : Hp) (vs : List V) (Q : VK) (E : XK), A.guards = some [] → Room k (A.deeper (envOfC qual scope s.heap.objs.size f cdv)) → sp vs H Q E →
      ∃ t, PSs (cxOf CX P w K mg base N qual scope f cdv A outer s H E) body t ∧ t { nx := fun _ H' => Q .non H', rt := Q } (start N vs) H) : FnG P w K mg base CX (k + 1) f fd ps sp := by
  obtain ⟨oc, od, dV, kV, doc, pm, an, cdv, ct, osl, rfl, lk, hcd, _, _⟩ := F.ex
  refine ⟨len, fun A outer s H args us vs Q E hg hr e0 hbd r hsp => ?_⟩
  have KX : K.In s.heap := e0.mod.kin.keeps fun b o e => (e0.bs b o e).1
  have lim : s.heap.NoLimit := e0.mod.nolimit.keeps fun b o e => (e0.bs b o e).1
  refine codeAny_call_function hr.depth (KX _ _ lk) rfl S.co S.gen rfl (PySem.W.codeRec_of KX hcd) (hbd _ _ _ _ (wpAny_newFunctionEnv_cells S.kind (fun y hy => ?_) fun env he s1 z => ?_))
  · rcases S.par y.1 (List.of_mem_zip (show (y.1, y.2) ∈ ps.zip us from hy)).1 with q | q
    · exact .inl q
    · exact .inr ⟨q, PySem.W.cellsFrom_some _ _ _ (.inl q)⟩
  · subst he
    refine ⟨lim.keeps z.toInCall.keep, codeAny_func ?_⟩
    obtain ⟨t, ht, hq⟩ := hb cdv A outer s H vs Q E hg (hr.deeper _) hsp
    have I : Inv (cxOf CX P w K mg base N qual scope f cdv A outer s H E) [] (start N vs) H s1 := inv_start S hr.hd e0 (len _ _ _ _ hsp) r z
    refine wpAny_mono (ht.run [] s1 (start N vs) H _ I hq) (fun fl s' hs => ?_) fun e s' hs => hs
    cases fl with
    | ret u => exact let ⟨v, σ', H', J, rv, q⟩ := hs; ⟨v, H', J.os, J.bare, J.base, J.hok, rv, q⟩
    | next => exact let ⟨σ', H', J, q⟩ := hs; ⟨.non, H', J.os, J.bare, J.base, J.hok, rfl, q⟩
    | brk => exact let ⟨_, _, _, q⟩ := hs; q.elim
    | cont => exact let ⟨_, _, _, q⟩ := hs; q.elim
end

/-- a law's call, from the law's promise -/
theorem law_callG {P : Program} {w : World} {K : PySem.W.Frag} {mg mb : Str → Option Value} {CX : CXT} {k : Nat} {fa a : Addr} {fd : FuncData} {x : Str} {sp : Sp} {s1 : Shared} {vs : List Value} {ns : List Int}
    (KX : K.In s1.heap) (hns : s1.heap.Ns mainGlobals mg) (hb : s1.heap.Ns builtinsNs mb) (hbb : ∀ x : Str, x ≠ "__name__" → mb x = bootBuiltins x) (hlim : s1.heap.NoLimit) (hg : s1.gens = #[])
    (ha : s1.heap.get? a = some { cls := .type "list", data := .seq vs.toArray }) (hi : IntsAre vs ns) (hl : ns.length ≤ sizeLine) (hr : Room k callerA)
    (F : ∀ base : Heap, K.In base → base.Ns mainGlobals mg → FnG P w K mg base CX k fa fd [x] sp) (hbind : ∀ (s : Shared) (u : Value), BindsTo s fd ⟨[u], []⟩ [(x, u)])
    (hsp : ∀ H : Hp, Only H → SqL K H a (ns.map V.int) → sp [.ref a] H (fun v _ => v = .bl true) fun _ _ _ => False) (hCX : ∀ H e s', CX [] H s1 (fun _ _ _ => False) e s' → False) :
    codeAny (model P w) callerA (.call (.ref fa) ⟨[.ref a], []⟩) (fun r s' => r = .ok (.ret (.bool true)) ∧ OldK s1.heap s'.heap ∧ s'.os = s1.os ∧ AllBare s'.gens) s1 := by
  have rv := vals_ints hi
  have len := hi.length
  -- what is tracked: the script, where the written part does not hold it
  obtain ⟨H, hO, hS, hok, hA, hK⟩ : ∃ H : Hp, Only H ∧ SqL K H a (ns.map V.int) ∧ HOk P w H s1.heap ∧ (∀ b u, H b = some u → b = a) ∧ (∀ u, H a = some u → K.lookup a = none) := by
    cases hk : K.lookup a with
    | some o =>
      have e := KX a o hk
      rw [ha] at e
      cases e
      exact ⟨fun _ => none, fun _ => .inl rfl, .inr ⟨_, vs.toArray, _, hk, rfl, rfl, rfl, by rw [List.size_toArray, len]; exact hl, by simpa using rv⟩, (fun b u (z : (none : Option HO) = some u) => by cases z), (fun b u (z : (none : Option HO) = some u) => by cases z), (fun u (z : (none : Option HO) = some u) => by cases z)⟩
    | none =>
      have at_ : ∀ b u, (if b = a then some (HO.frz { cls := .type "list", data := .seq vs.toArray } (.lst (ns.map V.int))) else none) = some u → b = a ∧ u = .frz { cls := .type "list", data := .seq vs.toArray } (.lst (ns.map V.int)) := fun b u z => by
        by_cases c : b = a
        · rw [if_pos c] at z
          exact ⟨c, (Option.some.inj z).symm⟩
        · rw [if_neg c] at z
          cases z
      refine ⟨fun b => if b = a then some (.frz { cls := .type "list", data := .seq vs.toArray } (.lst (ns.map V.int))) else none, fun b => ?_, .inl (.inr ⟨_, if_pos rfl⟩), fun b u z => ?_, fun b u z => (at_ b u z).1, fun _ _ => rfl⟩
      · by_cases c : b = a
        · exact .inr ⟨_, _, if_pos c⟩
        · exact .inl (if_neg c)
      · obtain ⟨rfl, rfl⟩ := at_ b u z
        exact ⟨ha, by rw [List.length_map]; exact hl, vs, _, rv, ha⟩
  have free : ∀ {b : Addr} {o : Obj} {es : Array DictEntry} {ep : Nat}, s1.heap.get? b = some o → o.data = .dict es ep → H b = none := fun {b o es ep} e d => by
    cases q : H b with
    | none => rfl
    | some u =>
      obtain rfl := hA b u q
      rw [ha] at e
      cases e
      exact nomatch (show Data.seq vs.toArray _ = Data.dict es ep from d)
  have ns_ : ∀ {b : Addr} {m : Str → Option Value}, s1.heap.Ns b m → (hidT s1.heap H).Ns b m := fun {b m} ⟨o, es, ep, e, d, r⟩ => ⟨o, es, ep, hidT_get e (free e d), d, r⟩
  have kb : K.In (hidT s1.heap H) := fun b o e => hidT_get (KX b o e) (by
    cases q : H b with
    | none => rfl
    | some u =>
      obtain rfl := hA b u q
      rw [hK u q] at e
      cases e)
  have md : Mod K mg (hidT s1.heap H) := ⟨kb, ns_ hns, ⟨mb, ns_ hb, hbb⟩, let ⟨mc, h1, h2⟩ := hlim; ⟨mc, ns_ h1, h2⟩⟩
  have e0 : Env0 P w K mg (hidT s1.heap H) callerA [] s1 H := ⟨rfl, md, fun b o e => of_hidT e, Nat.le_of_eq (hidT_size _ _), trivial, fun b hb => absurd (show b ∈ ([] : List Addr) from hb) (by simp), hok, .of_eq hg⟩
  refine codeAny_mono ((F _ kb (ns_ hns)).run callerA [] s1 H ⟨[.ref a], []⟩ [.ref a] [.ref a] _ _ rfl hr e0 (hbind s1 (.ref a)) (.cons rfl .nil) (hsp H hO hS)) fun r s' h => ?_
  cases r with
  | error e => exact (hCX H e s' h).elim
  | ok fl =>
    cases fl with
    | next => exact False.elim h
    | brk => exact False.elim h
    | cont => exact False.elim h
    | ret u =>
      obtain ⟨v, H', os, bare, un, hok', r', q⟩ := h
      obtain rfl : v = .bl true := q
      obtain rfl : u = Value.bool true := r'
      refine ⟨rfl, OldK.of_keep fun b o e => ?_, os, bare⟩
      cases q : H b with
      | none => exact un.keep b o e q (fun z => absurd (show b ∈ ([] : List Addr) from z) (by simp)) (by simp)
      | some u =>
        rcases hO b with z | ⟨ob, xs, z⟩
        · rw [q] at z; cases z
        · obtain ⟨e1, _⟩ := hok b _ z
          obtain ⟨e2, _⟩ := hok' b _ (un.frzs b ob _ z)
          rw [e] at e1
          cases e1
          exact e2

/-- the end of a law -/
theorem walk_ofG {l : PySem.W.OpenLaw} {n k : Nat} {q : Program} {loose : List Str} {XP : (Str → Option Value) → Heap → Prop} {YP : World → Heap → Prop} {d : DefRec} {CX : World → CXT} {x : Str}
    (hn : l.most = some n) (hn2 : n ≤ sizeLine) (hdf : d.params.defaults = []) (hr : Room k callerA)
    (F : ∀ (w : World) (mg : Str → Option Value) (fa : Addr) (h : Heap), YP w h → h.Ns mainGlobals mg → mg d.name = some (.ref fa) →
      ∃ (K : PySem.W.Frag) (fd : FuncData) (sp : Sp), K.In h ∧ (∀ (s : Shared) (u : Value), BindsTo s fd ⟨[u], []⟩ [(x, u)]) ∧
        (∀ (H : Hp) (a : Addr) (ns : List Int), ns.length ≤ n → Only H → SqL K H a (ns.map V.int) → sp [.ref a] H (fun v _ => v = .bl true) fun _ _ _ => False) ∧
        ∀ base : Heap, K.In base → base.Ns mainGlobals mg → FnG l.prog w K mg base (CX w) k fa fd [x] sp)
    (hCX : ∀ (w : World) (H : Hp) (s : Shared) (e : Value) (s' : Shared), CX w [] H s (fun _ _ _ => False) e s' → False) :
    PySem.W.WalkO q loose XP YP l.row.toRowW d [] (fun f vs => PySem.call f vs) := by
  refine Att.attach_call hn hdf fun w s0 s1 mg mb fa o pm cd doc a vs ns G Y ho hd hcd hmg hobj hints hlen hg => ?_
  obtain ⟨K, fd, sp, KX, hb, hsp, hF⟩ := F w mg fa _ Y G.T.g hmg
  exact law_callG KX G.T.g G.T.b G.T.builtins G.T.nolimit hg hobj hints (Nat.le_trans hlen hn2) hr hF hb (fun H hO hS => hsp H a ns hlen hO hS) fun H e s' => hCX w H s1 e s'

/-! ### the Hook: any look at the written part, which holds the table of modules too -/
def obsY (fb : PySem.W.Frag → Bool) (fn : List He.DefD) (K : PySem.W.Frag) : He.AlD := (fb K && fn.all fun d => d.ok K, fn.map fun d => He.fnW K d.at_)
def SaysY (fb : PySem.W.Frag → Bool) (fn : List He.DefD) (K : PySem.W.Frag) : Prop := obsY fb fn K = He.valD fn
def frY (n : Nat) (g : Addr → Option Obj) : PySem.W.Frag := He.frG g (sysModules :: He.asD g n)
def hookY (n : Nat) (fb : PySem.W.Frag → Bool) (fn : List He.DefD) : PySem.W.Hook where
  α := He.AlD
  obs := fun s => obsY fb fn (frY n s.heap.get?)
  val := fun _ => He.valD fn
  says := fun _ h => ∃ K : PySem.W.Frag, K.In h ∧ SaysY fb fn K
  of := fun _ _ e => ⟨_, He.frG_in, e⟩
  keeps := fun _ _ _ ⟨K, hK, c⟩ k => ⟨K, PySem.W.Frag.In.keeps hK k, c⟩
def obY (n : Nat) (fb : PySem.W.Frag → Bool) (fn : List He.DefD) (s : PySem.W.SharedT) : He.AlD := obsY fb fn (frY n (HandSHeadRun.getT s))
theorem obY_eq {n : Nat} {fb : PySem.W.Frag → Bool} {fn : List He.DefD} (s : PySem.W.SharedT) : obY n fb fn s = (hookY n fb fn).obs s.abs := by
  have e : HandSHeadRun.getT s = s.abs.heap.get? := funext (HandSHeadRun.getT_eq s)
  unfold obY
  rw [e]
  rfl
section
variable {fb : PySem.W.Frag → Bool} {fn : List He.DefD} {K : PySem.W.Frag}
theorem SaysY.look (c : SaysY fb fn K) : fb K = true := (He.ba (show (fb K && fn.all fun d => d.ok K) = true from congrArg (fun z : He.AlD => z.1) c)).1
theorem SaysY.def_ (c : SaysY fb fn K) (i : Nat) {d : He.DefD} (h : fn[i]? = some d := by rfl) : ∃ fd, FunD K d.name d.qual d.params d.body d.scope (d.dvs K) (d.kws K) (He.fAd K d.at_) fd := by
  have c2 := (He.ba (show (fb K && fn.all fun d => d.ok K) = true from congrArg (fun z : He.AlD => z.1) c)).2
  have e : (fn.map fun d => He.fnW K d.at_)[i]? = (fn.map He.DefD.val)[i]? := by rw [show fn.map (fun d => He.fnW K d.at_) = fn.map He.DefD.val from congrArg (fun z : He.AlD => z.2) c]
  rw [List.getElem?_map, List.getElem?_map, h] at e
  exact He.DefD.funD (Option.some.inj e) (List.all_eq_true.mp c2 d (List.mem_of_getElem? h))
/-- the module's table of modules -/
def sysB (K : PySem.W.Frag) : Bool := match K.lookup sysModules with
  | some o => o.cls == .type "dict"
  | none => false
theorem sysB_ok (h : sysB K = true) : SysIn K := by
  unfold sysB at h
  cases q : K.lookup sysModules with
  | none => rw [q] at h; cases h
  | some o =>
    rw [q] at h
    exact ⟨o, q, eq_of_beq h⟩
end
end Ys
namespace Ys
open PySem PySem.Spec PyProof.Rows L2
/-! ### the state: G is known and stays, M may change -/
structure Zp (G : Hp) (M : List (Addr × HO)) (H : Hp) : Prop where
  sub : ∀ a o, G a = some o → H a = some o
  own : ∀ (i : Nat) p o, M[i]? = some (p, o) → H p = some o ∧ G p = none
  nd : (M.map (·.1)).Nodup
section
variable {G G0 G1 H H1 : Hp} {M M1 : List (Addr × HO)} {p a : Addr} {o o1 : HO} {K : PySem.W.Frag} {v : V} {d : PyData} {xs vs : List V} {ds : List PyData}
theorem Zp.free (z : Zp G M H) (h : H p = none) : G p = none := by
  cases q : G p with
  | none => rfl
  | some o => rw [z.sub p o q] at h; cases h
theorem Zp.ne (z : Zp G M H) (h : H p = none) {i : Nat} {q : Addr} (e : M[i]? = some (q, o)) : q ≠ p := by
  rintro rfl
  rw [(z.own i q o e).1] at h
  cases h
theorem Same.new (h : G p = none) : Same G (upd G p o) := fun b u e => by
  rw [upd_ne (ne_of_none e h)]
  exact e
/-- a new object that stays -/
theorem Zp.new (z : Zp G M H) (h : H p = none) (o : HO) : Zp (upd G p o) M (upd H p o) where
  sub := fun a u e => by
    by_cases c : a = p
    · subst c
      rw [upd_same] at e ⊢
      exact e
    · rw [upd_ne c] at e ⊢
      exact z.sub a u e
  own := fun i q u e => by
    have ne := z.ne h e
    rw [upd_ne ne, upd_ne ne]
    exact z.own i q u e
  nd := z.nd
/-- a new object that may change -/
theorem Zp.add (z : Zp G M H) (h : H p = none) (o : HO) : Zp G (M ++ [(p, o)]) (upd H p o) where
  sub := fun a u e => by
    rw [upd_ne (ne_of_none (z.sub a u e) h)]
    exact z.sub a u e
  own := fun i q u e => by
    by_cases c : i < M.length
    · rw [List.getElem?_append_left c] at e
      rw [upd_ne (z.ne h e)]
      exact z.own i q u e
    · rw [List.getElem?_append_right (by omega)] at e
      have e0 : i - M.length = 0 := by
        cases n : i - M.length with
        | zero => rfl
        | succ k => rw [n] at e; simp at e
      rw [e0] at e
      obtain ⟨rfl, rfl⟩ : p = q ∧ o = u := by simpa using e
      exact ⟨upd_same, z.free h⟩
  nd := by
    rw [List.map_append, List.nodup_append]
    refine ⟨z.nd, by simp, fun x hx y hy => ?_⟩
    obtain ⟨⟨q, u⟩, hq, rfl⟩ := List.mem_map.mp hx
    obtain rfl : y = p := by simpa using hy
    obtain ⟨i, hi⟩ := List.getElem?_of_mem hq
    exact z.ne h hi
theorem Zp.at_ (z : Zp G M H) (i : Nat) (e : M[i]? = some (p, o)) : H p = some o := (z.own i p o e).1
/-- one of those that may change, changes -/
theorem Zp.put (z : Zp G M H) (i : Nat) (e : M[i]? = some (p, o)) (o1 : HO) : Zp G (M.set i (p, o1)) (upd H p o1) where
  sub := fun a u q => by
    have n := (z.own i p o e).2
    rw [upd_ne (ne_of_none q n)]
    exact z.sub a u q
  own := fun j q u ej => by
    by_cases c : j = i
    · subst c
      rw [List.getElem?_set_self (List.getElem?_eq_some_iff.mp e).1] at ej
      obtain ⟨rfl, rfl⟩ : p = q ∧ o1 = u := by simpa using ej
      exact ⟨upd_same, (z.own j p o e).2⟩
    · rw [List.getElem?_set_ne (fun h => c h.symm)] at ej
      have ne : q ≠ p := by
        rintro rfl
        have hi := (List.getElem?_eq_some_iff.mp e).1
        have hj := (List.getElem?_eq_some_iff.mp ej).1
        have e1 : (M.map (·.1))[i]? = some q := by rw [List.getElem?_map, e]; rfl
        have e2 : (M.map (·.1))[j]? = some q := by rw [List.getElem?_map, ej]; rfl
        exact c ((List.getElem?_inj (by simpa using hj) z.nd).mp (e2.trans e1.symm))
      rw [upd_ne ne]
      exact z.own j q u ej
  nd := by
    have e1 : ((M.set i (p, o1)).map (·.1)) = M.map (·.1) := by
      rw [List.map_set]
      apply List.ext_getElem?
      intro j
      by_cases c : j = i
      · subst c
        have hi := (List.getElem?_eq_some_iff.mp e).1
        rw [List.getElem?_set_self (by simpa using hi), List.getElem?_map, e]
        rfl
      · rw [List.getElem?_set_ne (fun h => c h.symm)]
    rw [e1]
    exact z.nd
/-- the last of them changes no more -/
theorem Zp.fix (z : Zp G (M ++ [(p, o)]) H) : Zp (upd G p o) M H := by
  have e : (M ++ [(p, o)])[M.length]? = some (p, o) := by simp
  obtain ⟨h1, h2⟩ := z.own _ p o e
  have nd := z.nd
  rw [List.map_append, List.nodup_append] at nd
  refine ⟨fun a u q => ?_, fun i q u ei => ?_, nd.1⟩
  · by_cases c : a = p
    · subst c
      rw [upd_same] at q
      rw [h1]
      exact q
    · rw [upd_ne c] at q
      exact z.sub a u q
  · have hi := (List.getElem?_eq_some_iff.mp ei).1
    have ne : q ≠ p := by
      have := nd.2.2 q (List.mem_map.mpr ⟨(q, u), List.mem_of_getElem? ei, rfl⟩) p (by simp)
      exact this
    rw [upd_ne ne]
    exact z.own i q u (by rw [List.getElem?_append_left hi]; exact ei)
theorem Zp.cut (z : Zp G (M ++ M1) H) : Zp G M H where
  sub := z.sub
  own := fun i q u e => z.own i q u (by rw [List.getElem?_append_left (List.getElem?_eq_some_iff.mp e).1]; exact e)
  nd := by
    have nd := z.nd
    rw [List.map_append, List.nodup_append] at nd
    exact nd.1
theorem Zp.seqL (z : Zp G M H) (h : SqL K G a xs) : SqL K H a xs := by
  rcases h with (h | ⟨o, h⟩) | h
  · exact .inl (.inl (z.sub _ _ h))
  · exact .inl (.inr ⟨o, z.sub _ _ h⟩)
  · exact .inr h
theorem Zp.seqT (z : Zp G M H) (h : SqT K G a xs) : SqT K H a xs := by
  rcases h with (h | ⟨o, h⟩) | h
  · exact .inl (.inl (z.sub _ _ h))
  · exact .inl (.inr ⟨o, z.sub _ _ h⟩)
  · exact .inr h
theorem upL (s : Same G G1) (h : SqL K G a xs) : SqL K G1 a xs := s.seq h
theorem upT (s : Same G G1) (h : SqT K G a xs) : SqT K G1 a xs := by
  rcases h with (h | ⟨o, h⟩) | h
  · exact .inl (.inl (s _ _ h))
  · exact .inl (.inr ⟨o, s _ _ h⟩)
  · exact .inr h
theorem upR (s : Same G G1) (h : Rd G a o) : Rd G1 a o := by
  rcases h with h | ⟨o, h⟩
  · exact .inl (s _ _ h)
  · exact .inr ⟨o, s _ _ h⟩
end
mutual
theorem Dt.up {K : PySem.W.Frag} {G G1 : Hp} (s : Same G G1) : ∀ {v : V} {d : PyData}, Dt K G v d → Dt K G1 v d
  | _, _, .non => .non
  | _, _, .bl b => .bl b
  | _, _, .int i => .int i
  | _, _, .str x => .str x
  | _, _, .lst h a => .lst (upL s h) (Dts.up s a)
  | _, _, .tup h a => .tup (upT s h) (Dts.up s a)
  | _, _, .dct h k a => .dct (upR s h) k (Dts.up s a)
theorem Dts.up {K : PySem.W.Frag} {G G1 : Hp} (s : Same G G1) : ∀ {v : List V} {d : List PyData}, Dts K G v d → Dts K G1 v d
  | _, _, .nil => .nil
  | _, _, .cons h a => .cons (Dt.up s h) (Dts.up s a)
end
theorem Zp.dt {K : PySem.W.Frag} {G H : Hp} {M : List (Addr × HO)} {v : V} {d : PyData} (z : Zp G M H) (h : Dt K G v d) : Dt K H v d := h.up z.sub
end Ys
namespace Ys
open PySem PySem.Spec PyProof.Rows L2
/-! ### operators over any values -/
section
variable {X : Cx}
/-- list + list, read -/
def rCatL (K : PySem.W.Frag) : R2 := fun x y H Q => ∃ l b xs zs, x = .ref l ∧ y = .ref b ∧ H l = some (.lst xs) ∧ H b = some (.lst zs) ∧ xs.length + zs.length ≤ sizeLine ∧ ∀ p, H p = none → Q (.ref p) (upd H p (.lst (xs ++ zs)))
def rStr2 : R2 := fun x y H Q => ∃ i j, x = .str i ∧ y = .str j ∧ i.length + j.length ≤ sizeLine ∧ Q (.str (i ++ j)) H
def rAddG (K : PySem.W.Frag) : R2 := fun x y H Q => rI0 (fun i j => .int (i + j)) x y H Q ∨ rStr2 x y H Q ∨ rCat x y H Q ∨ rCatA K x y H Q
theorem op_addG : OpR X (binaryOp .Add) (rAddG X.K) := op_add.or ((show OpR X (binaryOp .Add) rStr2 from op_add_str).or (op_cat.or op_catA))
def rEqG (K : PySem.W.Frag) : R2 := fun x y H Q => rEq x y H Q ∨ rEqD K x y H Q
def rNeG (K : PySem.W.Frag) : R2 := fun x y H Q => rNe x y H Q ∨ rNeD K x y H Q
theorem op_eqG (hu : X.A.units + 64 < cLine) : OpR X (compareOp .Eq) (rEqG X.K) := op_eq.or (op_eqD hu)
theorem op_neG (hu : X.A.units + 64 < cLine) : OpR X (compareOp .NotEq) (rNeG X.K) := op_ne.or (op_neD hu)
def rSlG (K : PySem.W.Frag) : V → Option Int → Option Int → Hp → VK → Prop := fun x lo hi H Q => rSlL K x lo hi H Q ∨ rSlA K x lo hi H Q ∨ rSlS x lo hi H Q
theorem sl_any : SlR X (rSlG X.K) := sl_list.or (sl_tupA.or sl_str)
abbrev rMulG : R2 := rI CMulW fun i j => .int (i * j)
abbrev rDivG : R2 := rI CDivW fun i j => .int (i / j)
abbrev rModG : R2 := rI (fun _ j => 0 < j) fun i j => .int (i % j)
abbrev rPowG : R2 := rI CPow fun i j => .int (i ^ j.toNat)
abbrev rSubG : R2 := rI0 fun i j => .int (i - j)
abbrev rLtG : R2 := rI0 fun i j => .bl (decide (i < j))
abbrev rLeG : R2 := rI0 fun i j => .bl (decide (i ≤ j))
abbrev rGtG : R2 := rI0 fun i j => .bl (decide (j < i))
abbrev rGeG : R2 := rI0 fun i j => .bl (decide (j ≤ i))
theorem o_sub : OpR X (binaryOp .Sub) rSubG := op_sub
theorem o_mul : OpR X (binaryOp .Mult) rMulG := op_mulW
theorem o_div : OpR X (binaryOp .FloorDiv) rDivG := op_fdivW
theorem o_mod : OpR X (binaryOp .Mod) rModG := op_mod
theorem o_pow : OpR X (binaryOp .Pow) rPowG := op_pow
theorem o_lt : OpR X (compareOp .Lt) rLtG := op_lt
theorem o_le : OpR X (compareOp .LtE) rLeG := op_le
theorem o_gt : OpR X (compareOp .Gt) rGtG := op_gt
theorem o_ge : OpR X (compareOp .GtE) rGeG := op_ge
abbrev rIsNon : R2 := fun x y H Q => y = .non ∧ Q (.bl (decide (x = .non))) H
abbrev rNotNon : R2 := fun x y H Q => y = .non ∧ Q (.bl (!decide (x = .non))) H
theorem o_isN : OpR X (compareOp .Is) rIsNon := op_isN
theorem o_notN : OpR X (compareOp .IsNot) rNotNon := op_notN
def rInG (K : PySem.W.Frag) (neg : Bool) : R2 := fun x y H Q => (∃ c z, x = V.str ⟨#[c]⟩ ∧ y = V.str z ∧ Q (.bl (if neg then !decide (c ∈ z.cps.toList) else decide (c ∈ z.cps.toList))) H) ∨ rIn K neg x y H Q
theorem o_in : OpR X (compareOp .In) (rInG X.K false) := by
  refine OpR.or ?_ op_in_seq
  intro pins s σ H x y v u Q I rx ry ⟨c, z, e1, e2, q⟩
  exact op_in_sign pins s σ H x y v u Q I rx ry ⟨c, z, e1, e2, by simpa using q⟩
theorem o_notIn : OpR X (compareOp .NotIn) (rInG X.K true) := by
  refine OpR.or ?_ op_notIn_seq
  intro pins s σ H x y v u Q I rx ry ⟨c, z, e1, e2, q⟩
  exact op_notIn_sign pins s σ H x y v u Q I rx ry ⟨c, z, e1, e2, by simpa using q⟩
def rIntG : List V → Hp → VK → Prop := fun xs H Q => (∃ i, xs = [.int i] ∧ Q (.int i) H) ∨ ∃ k, xs = [.bl k] ∧ Q (.int (if k then 1 else 0)) H
theorem c_int : CallR X (.type "int") rIntG := call_int1
def rLenG (K : PySem.W.Frag) (P : Program) (w : World) : List V → Hp → VK → Prop := fun xs H Q => (∃ x n, xs = [x] ∧ LenV K x H n ∧ Q (.int n) H) ∨ rLenTx P w xs H Q
theorem c_len : CallR X (.builtin "len") (rLenG X.K X.prog X.w) := CallR.or call_len cr_lenTx
def rListG (K : PySem.W.Frag) : List V → Hp → VK → Prop := fun xs H Q => ∃ p ys, xs = [V.ref p] ∧ (SqL K H p ys ∨ SqT K H p ys) ∧ ∀ l, H l = none → Q (.ref l) (upd H l (.lst ys))
theorem c_list : CallR X (.type "list") (rListG X.K) := call_list_of
def rTupG (K : PySem.W.Frag) : List V → Hp → VK → Prop := fun xs H Q => ∃ p ys, xs = [V.ref p] ∧ ((SqL K H p ys ∧ ∀ l, H l = none → Q (.ref l) (upd H l (.tup ys))) ∨ (SqT K H p ys ∧ Q (.ref p) H))
theorem c_tuple : CallR X (.type "tuple") (rTupG X.K) := call_tuple_of
def rMin2 : List V → Hp → VK → Prop := fun xs H Q => ∃ i j, xs = [V.int i, V.int j] ∧ Q (.int (if j < i then j else i)) H
theorem c_min2 (hc : X.calm = true) : CallR X (.builtin "min") rMin2 := call_min2 hc
def rAllG (K : PySem.W.Frag) : List V → Hp → VK → Prop := fun vs H Q => ∃ (a : Addr) (bs : List Bool), vs = [V.ref a] ∧ SqL K H a (bs.map V.bl) ∧ Q (.bl (bs.all id)) H
theorem c_all (hc : X.calm = true) : CallR X (.builtin "all") (rAllG X.K) := cr_all hc
def rSortG (K : PySem.W.Frag) (P : Program) (w : World) : List V → Hp → VK → Prop := fun vs H Q => rSortTx P w vs H Q ∨ rSortedS K vs H Q
theorem c_sorted (hc : X.calm = true) : CallR X (.builtin "sorted") (rSortG X.K X.prog X.w) := CallR.or (cr_sortTx hc) cr_sortedS
end

/-! ### the steps of a reading -/
def Bif (c : Bool) (A B : Prop) : Prop := if c = true then A else B
def IsB (x : V) (H : Hp) (Q : Bool → Hp → Prop) : Prop := ∃ k, x = .bl k ∧ Q k H
def IsP (x : V) (H : Hp) (Q : Option Int → Hp → Prop) : Prop := ∃ i, x = .int i ∧ Q (some i) H
def NewT (xs : List V) (H : Hp) (Q : VK) : Prop := xs.length ≤ sizeLine ∧ ∀ p, H p = none → Q (.ref p) (upd H p (.tup xs))
def NewL (xs : List V) (H : Hp) (Q : VK) : Prop := xs.length ≤ sizeLine ∧ ∀ p, H p = none → Q (.ref p) (upd H p (.lst xs))
section
variable {K : PySem.W.Frag} {G H : Hp} {M : List (Addr × HO)} {σ : L2.St} {Q : VK} {QB : Bool → Hp → Prop} {QO : Option Int → Hp → Prop} {QA : List V → Hp → Prop} {D : Ends} {ta tb te : TE} {tt uu : TT} {tr t : TA} {t1 t2 : TS} {r : R2} {A B : Prop} {c : Bool} {v x y : V} {i j : Int} {k : Nat} {p a b : Addr} {xs ys vs : List V} {sp : Sp} {E : XK} {g : TG}
theorem z_var (h : σ[k]? = some (some v)) (q : Q v H) : tVar k σ H Q := ⟨v, h, q⟩
theorem z_c (q : Q v H) : tC v σ H Q := q
theorem z_op (h : ta σ H fun x H1 => tb σ H1 fun y H2 => r x y H2 Q) : tOp r ta tb σ H Q := h
theorem z_un {r : V → Hp → VK → Prop} (h : ta σ H fun x H1 => r x H1 Q) : tUn r ta σ H Q := h
theorem z_test (h : te σ H fun x H1 => IsB x H1 QB) : tTest te σ H QB := h
theorem z_tB (h : te σ H fun x H1 => IsB x H1 QB) : tB te σ H QB := h
theorem z_isB (q : QB c H) : IsB (.bl c) H QB := ⟨c, rfl, q⟩
theorem z_bT (h : A) : Bif true A B := by unfold Bif; rw [if_pos rfl]; exact h
theorem z_bF (h : B) : Bif false A B := by unfold Bif; rw [if_neg Bool.false_ne_true]; exact h
theorem z_b2 (h1 : c = true → A) (h2 : c = false → B) : Bif c A B := by
  cases c with
  | true => exact z_bT (h1 rfl)
  | false => exact z_bF (h2 rfl)
theorem z_bN (h : Bif c B A) : Bif (!c) A B := by cases c with | true => exact h | false => exact h
theorem z_bD {p : Prop} [Decidable p] (h1 : p → A) (h2 : ¬ p → B) : Bif (decide p) A B := z_b2 (fun h => h1 (of_decide_eq_true h)) fun h => h2 (of_decide_eq_false h)
theorem z_and (h : tt σ H fun c H1 => Bif c (uu σ H1 QB) (QB false H1)) : tAnd tt uu σ H QB := h
theorem z_or (h : tt σ H fun c H1 => Bif c (QB true H1) (uu σ H1 QB)) : tOr tt uu σ H QB := h
theorem z_not (h : tt σ H fun c H1 => QB (!c) H1) : tNot tt σ H QB := h
theorem z_andV (h : ta σ H fun x H1 => IsB x H1 fun c H1 => Bif c (tb σ H1 Q) (Q (.bl false) H1)) : tAndV ta tb σ H Q := h
theorem z_orV (h : ta σ H fun x H1 => IsB x H1 fun c H1 => Bif c (Q (.bl true) H1) (tb σ H1 Q)) : tOrV ta tb σ H Q := h
theorem z_notV (h : ta σ H fun x H1 => IsB x H1 fun c H1 => Q (.bl (!c)) H1) : tNotV ta σ H Q := h
theorem z_if (h : tt σ H fun c H1 => Bif c (ta σ H1 Q) (tb σ H1 Q)) : tIf tt ta tb σ H Q := h
theorem z_nil (q : QA [] H) : tNil σ H QA := q
theorem z_cons (h : ta σ H fun x H1 => tr σ H1 fun xs H2 => QA (x :: xs) H2) : tCons ta tr σ H QA := h
theorem z_tup (h : t σ H fun xs H1 => NewT xs H1 Q) : tTup t σ H Q := h
theorem z_lst (h : t σ H fun xs H1 => NewL xs H1 Q) : tLst t σ H Q := h
theorem z_cb {r : List V → Hp → VK → Prop} (h : t σ H fun vs H1 => r vs H1 Q) : tCB r t σ H Q := h
theorem z_call {dvs : List V} (h : t σ H fun vs H1 => sp (vs ++ dvs) H1 Q E) : tCall sp dvs E t σ H Q := h
theorem z_sl {r : V → Option Int → Option Int → Hp → VK → Prop} {tl th : TO} (h : te σ H fun x H1 => tl σ H1 fun l H2 => th σ H2 fun u H3 => r x l u H3 Q) : tSl r te tl th σ H Q := h
theorem z_np (q : QO none H) : tNoPart σ H QO := q
theorem z_part (h : te σ H fun x H1 => IsP x H1 QO) : tPart te σ H QO := h
theorem z_isP (q : QO (some i) H) : IsP (.int i) H QO := ⟨i, rfl, q⟩
theorem z_seq (h : t1 ⟨t2 D, D.rt, D.bk, D.ct⟩ σ H) : tSeq t1 t2 D σ H := h
theorem z_asg (h : te σ H fun x H1 => g x σ H1 D.nx) : tAsg te g D σ H := h
theorem z_name {R : L2.St → Hp → Prop} (q : R (σ.set k (some v)) H) : gName k v σ H R := q
theorem z_ifS (h : tt σ H fun b H1 => Bif b (t1 D σ H1) (t2 D σ H1)) : tIfS tt t1 t2 D σ H := h
theorem z_ret (h : te σ H D.rt) : tRet te D σ H := h
theorem z_retN (q : D.rt .non H) : tRetN D σ H := q
theorem z_drop (h : te σ H fun _ H1 => D.nx σ H1) : tDrop te D σ H := h
theorem z_next (q : D.nx σ H) : tNext D σ H := q
theorem z_par {k l : Nat} {w : V} (h : t σ H fun vs H1 => ∃ v w, vs = [v, w] ∧ D.nx ((σ.set k (some v)).set l (some w)) H1) : tPar k l t D σ H := h
theorem z_dget (h : ta σ H fun x H1 => tb σ H1 fun y H2 => ∃ a v, x = .ref a ∧ DGet H2 a y (some v) ∧ Q v H2) : tDGet ta tb σ H Q := h

/-! new objects -/
theorem z_newT (z : Zp G M H) (hl : xs.length ≤ 100000) (q : ∀ p G1 H1, Zp G1 M H1 → Same G G1 → G1 p = some (.tup xs) → Q (.ref p) H1) : NewT xs H Q :=
  ⟨Nat.le_trans hl (by decide), fun p hp => q p _ _ (z.new hp _) (Same.new (z.free hp)) upd_same⟩
theorem z_newL (z : Zp G M H) (hl : xs.length ≤ 100000) (q : ∀ p G1 H1, Zp G1 M H1 → Same G G1 → G1 p = some (.lst xs) → Q (.ref p) H1) : NewL xs H Q :=
  ⟨Nat.le_trans hl (by decide), fun p hp => q p _ _ (z.new hp _) (Same.new (z.free hp)) upd_same⟩
/-- a list that is to change -/
theorem z_ownL (z : Zp G M H) (hl : xs.length ≤ 100000) (q : ∀ p H1, Zp G (M ++ [(p, .lst xs)]) H1 → Q (.ref p) H1) : NewL xs H Q :=
  ⟨Nat.le_trans hl (by decide), fun p hp => q p _ (z.add hp _)⟩

/-! operators -/
theorem z_addI (q : Q (.int (i + j)) H) : rAddG K (.int i) (.int j) H Q := .inl ⟨i, j, rfl, rfl, q⟩
theorem z_addS {x y : Str} (hl : x.length + y.length ≤ 100000) (q : Q (.str (x ++ y)) H) : rAddG K (.str x) (.str y) H Q := .inr (.inl ⟨x, y, rfl, rfl, Nat.le_trans hl (by decide), q⟩)
theorem z_addL (z : Zp G M H) (h1 : G a = some (.lst xs)) (h2 : G b = some (.lst ys)) (hl : xs.length + ys.length ≤ 100000) (q : ∀ p G1 H1, Zp G1 M H1 → Same G G1 → G1 p = some (.lst (xs ++ ys)) → Q (.ref p) H1) : rAddG K (.ref a) (.ref b) H Q :=
  .inr (.inr (.inl ⟨a, b, xs, ys, rfl, rfl, z.sub _ _ h1, z.sub _ _ h2, Nat.le_trans hl (by decide), fun p hp => q p _ _ (z.new hp _) (Same.new (z.free hp)) upd_same⟩))
theorem z_addT (z : Zp G M H) (h1 : SqT K G a xs) (h2 : SqT K G b ys) (hl : xs.length + ys.length ≤ 100000) (q : ∀ p G1 H1, Zp G1 M H1 → Same G G1 → SqT K G1 p (xs ++ ys) → Q (.ref p) H1) : rAddG K (.ref a) (.ref b) H Q := by
  refine .inr (.inr (.inr ⟨a, b, xs, ys, rfl, rfl, z.seqT h1, z.seqT h2, Nat.le_trans hl (by decide), fun e => ?_, fun _ e => ?_, fun _ _ p hp => ?_⟩))
  · subst e
    exact q b G H z (Same.refl G) h2
  · subst e
    exact q a G H z (Same.refl G) (by rw [List.append_nil]; exact h1)
  · exact q p _ _ (z.new hp _) (Same.new (z.free hp)) (SqT.of upd_same)
theorem z_I0 {f : Int → Int → V} (q : Q (f i j) H) : rI0 f (.int i) (.int j) H Q := ⟨i, j, rfl, rfl, q⟩
theorem z_I {C : Int → Int → Prop} {f : Int → Int → V} (h : C i j) (q : Q (f i j) H) : rI C f (.int i) (.int j) H Q := ⟨i, j, rfl, rfl, h, q⟩
theorem z_eqS (h : scal x y = true) (q : Q (.bl (decide (x = y))) H) : rEqG K x y H Q := .inl ⟨h, q⟩
theorem z_neS (h : scal x y = true) (q : Q (.bl (!decide (x = y))) H) : rNeG K x y H Q := .inl ⟨h, q⟩
theorem z_eqD {d e : PyData} (z : Zp G M H) (h1 : Dt K G x d) (h2 : Dt K G y e) (c1 : SeqAt.shaped d = true) (c2 : SeqAt.shaped e = true) (q : Q (.bl (PyData.eqv d e)) H) : rEqG K x y H Q :=
  .inr ⟨d, e, Dt.dp d x (SeqAt.canLay_of_shaped c1) (z.dt h1), Dt.dp e y (SeqAt.canLay_of_shaped c2) (z.dt h2), c1, c2, q⟩
theorem z_neD {d e : PyData} (z : Zp G M H) (h1 : Dt K G x d) (h2 : Dt K G y e) (c1 : SeqAt.shaped d = true) (c2 : SeqAt.shaped e = true) (q : Q (.bl (!PyData.eqv d e)) H) : rNeG K x y H Q :=
  .inr ⟨d, e, Dt.dp d x (SeqAt.canLay_of_shaped c1) (z.dt h1), Dt.dp e y (SeqAt.canLay_of_shaped c2) (z.dt h2), c1, c2, q⟩
theorem z_ixL (z : Zp G M H) (h : SqL K G a xs) (e : atI xs i = some v) (q : Q v H) : rIx K (.ref a) (.int i) H Q := .inl ⟨a, xs, i, v, rfl, rfl, z.seqL h, e, q⟩
theorem z_ixT (z : Zp G M H) (h : SqT K G a xs) (e : atI xs i = some v) (q : Q v H) : rIx K (.ref a) (.int i) H Q := .inr (.inl ⟨a, xs, i, v, rfl, rfl, z.seqT h, e, q⟩)
theorem z_ixS {s : Str} {ch : Nat} (hl : s.length ≤ 100000) (e : atI s.cps.toList i = some ch) (q : Q (.str ⟨#[ch]⟩) H) : rIx K (.str s) (.int i) H Q := .inr (.inr ⟨s, i, ch, rfl, rfl, Nat.le_trans hl (by decide), e, q⟩)
theorem z_slL {lo hi : Option Int} (z : Zp G M H) (h : SqL K G a xs) (q : ∀ p G1 H1, Zp G1 M H1 → Same G G1 → G1 p = some (.lst (cutV xs lo hi)) → Q (.ref p) H1) : rSlG K (.ref a) lo hi H Q :=
  .inl ⟨a, xs, rfl, z.seqL h, fun p hp => q p _ _ (z.new hp _) (Same.new (z.free hp)) upd_same⟩
theorem sIx_all {lo hi : Option Int} (h : HT.sIx xs.length 0 lo = 0 ∧ HT.sIx xs.length xs.length hi = xs.length) : cutV xs lo hi = xs := by
  unfold cutV
  rw [h.1, h.2]
  simp
theorem z_slT {lo hi : Option Int} (z : Zp G M H) (h : SqT K G a xs) (q : ∀ p G1 H1, Zp G1 M H1 → Same G G1 → SqT K G1 p (cutV xs lo hi) → Q (.ref p) H1) : rSlG K (.ref a) lo hi H Q :=
  .inr (.inl ⟨a, xs, rfl, z.seqT h, fun e => q a G H z (Same.refl G) (by rw [sIx_all e]; exact h), fun _ p hp => q p _ _ (z.new hp _) (Same.new (z.free hp)) (SqT.of upd_same)⟩)
theorem z_slS {s : Str} {lo hi : Option Int} (hl : s.length ≤ 100000) (q : Q (.str (cutS s lo hi)) H) : rSlG K (.str s) lo hi H Q := .inr (.inr ⟨s, rfl, Nat.le_trans hl (by decide), q⟩)
/-! calls of what is built in -/
theorem z_int (q : Q (.int i) H) : rIntG [.int i] H Q := .inl ⟨i, rfl, q⟩
theorem z_lenL {P : Program} {w : World} (z : Zp G M H) (h : SqL K G a xs) (q : Q (.int xs.length) H) : rLenG K P w [.ref a] H Q := .inl ⟨_, _, rfl, .inl ⟨xs, z.seqL h, rfl⟩, q⟩
end
end Ys
namespace Ys
open PySem PySem.Spec PyProof.Rows L2
/-! ### sorted, different texts: one list alone -/
theorem ltCps_irr : ∀ xs : List Nat, ltCps xs xs = false := fun xs => by rw [ltCps_eq]; exact decide_eq_false (fun h => List.lt_irrefl xs h)
def leS (a b : Str) : Bool := !decide (b.cps.toList < a.cps.toList)
theorem leS_total (a b : Str) : (leS a b || leS b a) = true := by
  unfold leS
  by_cases h : b.cps.toList < a.cps.toList
  · have : ¬ a.cps.toList < b.cps.toList := fun h2 => List.lt_asymm h h2
    simp [h, this]
  · simp [h]
theorem leS_trans (a b c : Str) (h1 : leS a b = true) (h2 : leS b c = true) : leS a c = true := by
  unfold leS at *
  simp only [Bool.not_eq_true', decide_eq_false_iff_not, List.not_lt] at *
  exact List.le_trans h1 h2
theorem leS_anti {a b : Str} (h1 : leS a b = true) (h2 : leS b a = true) : a = b := by
  unfold leS at *
  simp only [Bool.not_eq_true', decide_eq_false_iff_not, List.not_lt] at *
  have e := List.le_antisymm h1 h2
  obtain ⟨⟨x⟩⟩ := a
  obtain ⟨⟨y⟩⟩ := b
  simp only at e
  rw [e]
theorem sortedS_pw : ∀ l : List Str, sortedS l = true → l.Pairwise (fun a b => leS a b = true)
  | [], _ => List.Pairwise.nil
  | x :: r, h => by
    have go : ∀ (r : List Str) (x : Str), risingS x r = true → (x :: r).Pairwise (fun a b => leS a b = true) := by
      intro r
      induction r with
      | nil => intro x _; exact List.pairwise_singleton _ _
      | cons y r ih =>
        intro x h
        obtain ⟨h1, h2⟩ := Bool.and_eq_true_iff.mp (show (!ltCps y.cps.toList x.cps.toList && risingS y r) = true from h)
        have hxy : leS x y = true := by
          unfold leS
          rw [← ltCps_eq]
          exact h1
        have p := ih y h2
        refine List.pairwise_cons.mpr ⟨fun z hz => ?_, p⟩
        rcases List.mem_cons.mp hz with rfl | hz
        · exact hxy
        · exact leS_trans _ _ _ hxy (List.rel_of_pairwise_cons p hz)
    exact go r x h
theorem perm_one {l m : List Str} (p : l.Perm m) (h1 : l.Pairwise (fun a b => leS a b = true)) (h2 : m.Pairwise (fun a b => leS a b = true)) : l = m :=
  List.Perm.eq_of_pairwise (le := fun a b => leS a b = true) (fun a b _ _ x y => leS_anti x y) h1 h2 p
def dd : List Str → List Str
  | [] => []
  | x :: r => if x ∈ r then dd r else x :: dd r
theorem mem_dd {x : Str} : ∀ {xs : List Str}, x ∈ dd xs ↔ x ∈ xs
  | [] => by simp [dd]
  | y :: r => by
    have ih := mem_dd (x := x) (xs := r)
    unfold dd
    by_cases h : y ∈ r
    · rw [if_pos h, ih, List.mem_cons]
      exact ⟨.inr, fun z => z.elim (fun e => e ▸ h) id⟩
    · rw [if_neg h, List.mem_cons, List.mem_cons, ih]
theorem dd_nodup : ∀ xs : List Str, (dd xs).Nodup
  | [] => List.nodup_nil
  | y :: r => by
    unfold dd
    by_cases h : y ∈ r
    · rw [if_pos h]
      exact dd_nodup r
    · rw [if_neg h]
      exact List.nodup_cons.mpr ⟨fun z => h (mem_dd.mp z), dd_nodup r⟩
/-- the different texts of a list, ascending -/
def asc (xs : List Str) : List Str := (dd xs).mergeSort leS
theorem asc_mem {x : Str} {xs : List Str} : x ∈ asc xs ↔ x ∈ xs := by
  unfold asc
  rw [(List.mergeSort_perm _ _).mem_iff]
  exact mem_dd
theorem asc_nodup (xs : List Str) : (asc xs).Nodup := (List.mergeSort_perm _ _).nodup_iff.mpr (dd_nodup xs)
theorem asc_pw (xs : List Str) : (asc xs).Pairwise (fun a b => leS a b = true) := List.pairwise_mergeSort leS_trans leS_total _
theorem asc_is {xs ys l : List Str} (h1 : ys.Perm l) (h2 : sortedS ys = true) (nd : l.Nodup) (m : ∀ x, x ∈ l ↔ x ∈ xs) : ys = asc xs := by
  refine perm_one ?_ (sortedS_pw ys h2) (asc_pw xs)
  refine (List.perm_ext_iff_of_nodup (h1.nodup_iff.mpr nd) (asc_nodup xs)).mpr fun x => ?_
  rw [h1.mem_iff, m x, asc_mem]
theorem asc_congr {xs ys : List Str} (m : ∀ x, x ∈ xs ↔ x ∈ ys) : asc xs = asc ys := by
  refine perm_one ?_ (asc_pw _) (asc_pw _)
  exact (List.perm_ext_iff_of_nodup (asc_nodup xs) (asc_nodup ys)).mpr fun x => by rw [asc_mem, asc_mem, m x]
end Ys
namespace Ys
open PySem PySem.Spec PyProof.Rows L2
section
variable {K : PySem.W.Frag} {P : Program} {w : World} {G H : Hp} {M : List (Addr × HO)} {σ : L2.St} {Q : VK} {QB : Bool → Hp → Prop} {QA : List V → Hp → Prop} {D : Ends} {ta tb te : TE} {tt : TT} {t : TA} {ts : TS} {A : Prop} {v x y : V} {i j : Int} {k : Nat} {a b : Addr} {xs ys vs : List V} {g : TG}
/-! ### calls of what is built in -/
theorem z_lenT (z : Zp G M H) (h : SqT K G a xs) (q : Q (.int xs.length) H) : rLenG K P w [.ref a] H Q := .inl ⟨_, _, rfl, .inr ⟨xs, z.seqT h, rfl⟩, q⟩
theorem z_lenO (z : Zp G M H) (k : Nat) (e : M[k]? = some (a, .lst xs)) (q : Q (.int xs.length) H) : rLenG K P w [.ref a] H Q := .inl ⟨_, _, rfl, .inl ⟨xs, SqL.of (z.at_ k e), rfl⟩, q⟩
theorem z_lenS {s : Str} (hl : s.length ≤ 100000) (q : Q (.int s.length) H) : rLenG K P w [.str s] H Q := .inl ⟨_, _, rfl, ⟨Nat.le_trans hl (by decide), rfl⟩, q⟩
theorem z_lenX {l : List Str} (z : Zp G M H) (h : G a = some (TxO P w a l)) (hl : l.length < 1000) (q : Q (.int l.length) H) : rLenG K P w [.ref a] H Q := .inr ⟨a, l, rfl, z.sub _ _ h, hl, q⟩
theorem z_listG (z : Zp G M H) (h : SqL K G a xs ∨ SqT K G a xs) (q : ∀ p G1 H1, Zp G1 M H1 → Same G G1 → G1 p = some (.lst xs) → Q (.ref p) H1) : rListG K [.ref a] H Q :=
  ⟨a, xs, rfl, h.imp z.seqL z.seqT, fun p hp => q p _ _ (z.new hp _) (Same.new (z.free hp)) upd_same⟩
theorem z_listO (z : Zp G M H) (h : SqL K G a xs ∨ SqT K G a xs) (q : ∀ p H1, Zp G (M ++ [(p, .lst xs)]) H1 → Q (.ref p) H1) : rListG K [.ref a] H Q :=
  ⟨a, xs, rfl, h.imp z.seqL z.seqT, fun p hp => q p _ (z.add hp _)⟩
theorem z_tupL (z : Zp G M H) (h : SqL K G a xs) (q : ∀ p G1 H1, Zp G1 M H1 → Same G G1 → SqT K G1 p xs → Q (.ref p) H1) : rTupG K [.ref a] H Q :=
  ⟨a, xs, rfl, .inl ⟨z.seqL h, fun p hp => q p _ _ (z.new hp _) (Same.new (z.free hp)) (SqT.of upd_same)⟩⟩
theorem z_tupO (z : Zp G M H) (k : Nat) (e : M[k]? = some (a, .lst xs)) (q : ∀ p G1 H1, Zp G1 M H1 → Same G G1 → SqT K G1 p xs → Q (.ref p) H1) : rTupG K [.ref a] H Q :=
  ⟨a, xs, rfl, .inl ⟨SqL.of (z.at_ k e), fun p hp => q p _ _ (z.new hp _) (Same.new (z.free hp)) (SqT.of upd_same)⟩⟩
theorem z_tupT (z : Zp G M H) (h : SqT K G a xs) (q : Q (.ref a) H) : rTupG K [.ref a] H Q := ⟨a, xs, rfl, .inr ⟨z.seqT h, q⟩⟩
theorem z_set {ss : List Str} (z : Zp G M H) (h : SqL K G a (ss.map V.str) ∨ SqT K G a (ss.map V.str)) (hl : ss.length < 1000)
    (q : ∀ p l G1 H1, Zp G1 M H1 → Same G G1 → G1 p = some (TxO P w p l) → (∀ x, x ∈ l ↔ x ∈ ss) → l.Nodup → l.length ≤ ss.length → Q (.ref p) H1) : rSetTx K P w [.ref a] H Q :=
  ⟨a, ss, rfl, h.imp z.seqL z.seqT, hl, fun p l m nd len hp => q p l _ _ (z.new hp _) (Same.new (z.free hp)) upd_same m nd len⟩
theorem z_sortX {l ss : List Str} (z : Zp G M H) (h : G a = some (TxO P w a l)) (m : ∀ x, x ∈ l ↔ x ∈ ss) (nd : l.Nodup) (hl : l.length < 64) (q : ∀ p G1 H1, Zp G1 M H1 → Same G G1 → G1 p = some (.lst ((asc ss).map V.str)) → Q (.ref p) H1) :
    rSortG K P w [.ref a] H Q := .inl ⟨a, l, rfl, z.sub _ _ h, hl, fun ys p pm so hp => by
  rw [asc_is pm so nd m]
  exact q p _ _ (z.new hp _) (Same.new (z.free hp)) upd_same⟩
theorem z_all {bs : List Bool} (z : Zp G M H) (h : SqL K G a (bs.map V.bl)) (q : Q (.bl (bs.all id)) H) : rAllG K [.ref a] H Q := ⟨a, bs, rfl, z.seqL h, q⟩
theorem z_min2 (q : Q (.int (if j < i then j else i)) H) : rMin2 [.int i, .int j] H Q := ⟨i, j, rfl, q⟩
theorem z_repr {d : PyData} (z : Zp G M H) (h : Dt K G x d) (s1 : d.showable = true) (s2 : d.depth ≤ 60) (s3 : d.shown.length ≤ 100000) (q : Q (.str d.shown) H) : rRepr K [x] H Q := ⟨x, d, rfl, z.dt h, s1, s2, Nat.le_trans s3 (by decide), q⟩
/-! methods -/
def TyV (K : PySem.W.Frag) (T : String) (x : V) (H : Hp) (A : Prop) : Prop := tyV K T x H ∧ A
theorem z_bm {T : String} {r : V → List V → Hp → VK → Prop} (h : te σ H fun x H1 => TyV K T x H1 (t σ H1 fun xs H2 => r x xs H2 Q)) : tBM K T r te t σ H Q := h
theorem z_bm0 {T : String} {r : V → List V → Hp → VK → Prop} (h : te σ H fun x H1 => TyV K T x H1 (r x [] H1 Q)) : tBM0 K T r te σ H Q := h
theorem z_tyO (z : Zp G M H) (k : Nat) (e : M[k]? = some (a, .lst xs)) (q : A) : TyV K "list" (.ref a) H A := ⟨.inl ⟨rfl, _, SqL.of (z.at_ k e)⟩, q⟩
theorem z_tyL (z : Zp G M H) (e : SqL K G a xs) (q : A) : TyV K "list" (.ref a) H A := ⟨.inl ⟨rfl, _, z.seqL e⟩, q⟩
theorem z_append (z : Zp G M H) (k : Nat) (e : M[k]? = some (a, .lst xs)) (hl : xs.length ≤ 100000) (q : ∀ H1, Zp G (M.set k (a, .lst (xs ++ [v]))) H1 → Q .non H1) : rAppend (.ref a) [v] H Q :=
  ⟨a, xs, v, rfl, rfl, z.at_ k e, Nat.lt_of_le_of_lt hl (by decide), q _ (z.put k e _)⟩
theorem seqIx {n : Nat} {i : Int} (h0 : 0 ≤ i) (h1 : i < n) : seqIndex? i n = some i.toNat := by
  obtain ⟨k, rfl⟩ := Int.eq_ofNat_of_zero_le h0
  have := atI_get (atI_nat (xs := List.replicate n ()) (j := k) (v := ()) (by
    have : k < n := by omega
    simp [this]))
  obtain ⟨j, e1, e2, e3, _⟩ := this
  rw [List.length_replicate] at e1
  have hk : (ixN n (k : Int)) = some k := by
    unfold ixN
    rw [if_pos (by omega), if_pos h1]
    rfl
  have := (ixN_seq hk).1
  rw [this]
  rfl
theorem z_popAt (z : Zp G M H) (k : Nat) (e : M[k]? = some (a, .lst xs)) (h0 : 0 ≤ i) (h1 : i < xs.length) (hl : xs.length ≤ 100000) (ev : xs[i.toNat]? = some v) (q : ∀ H1, Zp G (M.set k (a, .lst (xs.eraseIdx i.toNat))) H1 → Q v H1) :
    rPopAt (.ref a) [.int i] H Q := ⟨a, xs, i, i.toNat, v, rfl, rfl, z.at_ k e, by omega, by omega, seqIx h0 h1, ev, q _ (z.put k e _)⟩
theorem z_extend {b : Addr} (z : Zp G M H) (k : Nat) (e : M[k]? = some (a, .lst xs)) (h : G b = some (.lst ys)) (hl : xs.length + ys.length ≤ 100000) (q : ∀ H1, Zp G (M.set k (a, .lst (xs ++ ys))) H1 → Q .non H1) : rExtend (.ref a) [.ref b] H Q :=
  ⟨a, b, xs, ys, rfl, rfl, z.at_ k e, z.sub _ _ h, Nat.le_trans hl (by decide), q _ (z.put k e _)⟩
def IsS (x : V) (A : Prop) : Prop := (∃ a, x = .str a) ∧ A
theorem z_m1 {r : V → List V → Hp → VK → Prop} (h : ta σ H fun x H1 => IsS x (te σ H1 fun y H2 => r x [y] H2 Q)) : tM1 r ta te σ H Q := h
theorem z_isS {s : Str} (q : A) : IsS (.str s) A := ⟨⟨s, rfl⟩, q⟩
def rJoin (K : PySem.W.Frag) : V → List V → Hp → VK → Prop := fun x xs H Q => ∃ a p, ∃ ys : List Str, x = .str a ∧ xs = [.ref p] ∧ (SqL K H p (ys.map V.str) ∨ SqT K H p (ys.map V.str)) ∧ (ys.map (·.length)).sum + ys.length * a.length ≤ 16777216 ∧ Q (.str (Txt.join a ys)) H
theorem z_join {s : Str} {ss : List Str} (z : Zp G M H) (h : SqL K G a (ss.map V.str)) (hl : (ss.map (·.length)).sum + ss.length * s.length ≤ 100000) (q : Q (.str (Txt.join s ss)) H) : rJoin K (.str s) [.ref a] H Q :=
  ⟨s, a, ss, rfl, rfl, .inl (z.seqL h), Nat.le_trans hl (by decide), q⟩
/-! ### targets of several names -/
def UnpT (K : PySem.W.Frag) (n : Nat) (t : TGs) (v : V) (σ : L2.St) (H : Hp) (R : L2.St → Hp → Prop) : Prop := gTup K n t v σ H R
theorem z_gtup {n : Nat} {u : TGs} {R : L2.St → Hp → Prop} (z : Zp G M H) (h : SqT K G a xs) (hl : xs.length = n) (q : u xs σ H R) : gTup K n u (.ref a) σ H R := ⟨a, xs, rfl, z.seqT h, hl, q⟩
theorem z_gunl {n : Nat} {u : TGs} {R : L2.St → Hp → Prop} (z : Zp G M H) (h : SqL K G a xs) (hl : xs.length = n) (q : u xs σ H R) : gUnl K n u (.ref a) σ H R := ⟨a, xs, rfl, z.seqL h, hl, q⟩
theorem z_gnil {R : L2.St → Hp → Prop} (q : R σ H) : gNil [] σ H R := ⟨rfl, q⟩
theorem z_gcons {u : TGs} {R : L2.St → Hp → Prop} (q : g v σ H fun σ' H' => u xs σ' H' R) : gCons g u (v :: xs) σ H R := ⟨v, xs, rfl, q⟩
/-! ### what is walked -/
structure Src (J : It) (xs : List V) (OK : Hp → Prop) : Prop where
  go : ∀ i H, OK H → i < xs.length → J.go i H
  stop : ∀ i H, OK H → xs.length ≤ i → J.stop i H
  yld : ∀ i H x H', OK H → i < xs.length → J.yld i H x H' → H' = H ∧ xs[i]? = some x
theorem src_L {xs : List V} : Src (Itl K a) xs (fun H => SqL K H a xs) where
  go := fun i H h hi => ⟨xs, xs[i], h, by simp [hi]⟩
  stop := fun i H h hi => ⟨xs, h, hi⟩
  yld := fun i H x H' h _ y => ⟨y.1, y.2 xs h⟩
theorem src_T {xs : List V} : Src (Itt K a) xs (fun H => SqT K H a xs) where
  go := fun i H h hi => ⟨xs, xs[i], h, by simp [hi]⟩
  stop := fun i H h hi => ⟨xs, h, hi⟩
  yld := fun i H x H' h _ y => ⟨y.1, y.2 xs h⟩
def rngV (lo : Int) (n : Nat) : List V := (List.range n).map fun (i : Nat) => V.int (lo + (i : Int))
theorem rngV_len (lo : Int) (n : Nat) : (rngV lo n).length = n := by simp [rngV]
theorem src_R {lo : Int} {n : Nat} : Src (Itr lo n) (rngV lo n) (fun _ => True) where
  go := fun i H _ hi => by rw [rngV_len] at hi; exact hi
  stop := fun i H _ hi => by rw [rngV_len] at hi; exact hi
  yld := fun i H x H' _ hi y => ⟨y.1, by
    rw [rngV_len] at hi
    rw [y.2]
    simp [rngV, hi]⟩
def chrV (s : Str) : List V := s.cps.toList.map fun c => V.str ⟨#[c]⟩
theorem chrV_len (s : Str) : (chrV s).length = s.length := by simp [chrV]; rfl
theorem src_S {s : Str} : Src (Its s) (chrV s) (fun _ => True) where
  go := fun i H _ hi => by rw [chrV_len] at hi; exact hi
  stop := fun i H _ hi => by rw [chrV_len] at hi; exact hi
  yld := fun i H x H' _ _ y => by
    obtain ⟨e, c, h1, h2⟩ := y
    refine ⟨e, ?_⟩
    unfold chrV
    rw [List.getElem?_map, Array.getElem?_toList, h1, h2]
    rfl
/-! ### for -/
def ForW (J : It) (g : TG) (tb : TS) (D : Ends) (σ : L2.St) (H : Hp) : Prop := ∃ W : Nat → Nat → L2.St → Hp → Prop, (∃ m, W 0 m σ H) ∧ ∀ i m σ H, W i m σ H →
  (J.stop i H ∧ D.nx σ H) ∨ (J.go i H ∧ ∃ N : L2.St → Hp → Prop, (∀ σ' H', N σ' H' → ∃ m', m' < m ∧ W (i + 1) m' σ' H') ∧ ∀ x H', J.yld i H x H' → g x σ H' fun σ2 H2 => tb { D with nx := N, ct := N, bk := D.nx } σ2 H2)
theorem z_for {wi : TI} {tb : TS} (h : wi σ H fun J H1 => ForW J g tb D σ H1) : tFor wi g tb D σ H := h
/-- by what holds between two turns -/
theorem for_src {J : It} {tb : TS} {OK : Hp → Prop} (S : Src J xs OK) (I : Nat → L2.St → Hp → List (Addr × HO) → Prop) (z : Zp G M H) (h0 : I 0 σ G M) (ok : ∀ i σ G M H, I i σ G M → Zp G M H → OK H)
    (turn : ∀ i x σ G M H, xs[i]? = some x → I i σ G M → Zp G M H → g x σ H fun σ2 H2 => tb ⟨fun σ' H' => ∃ G' M', Zp G' M' H' ∧ I (i + 1) σ' G' M', D.rt, D.nx, fun σ' H' => ∃ G' M', Zp G' M' H' ∧ I (i + 1) σ' G' M'⟩ σ2 H2)
    (done : ∀ σ G M H, I xs.length σ G M → Zp G M H → D.nx σ H) : ForW J g tb D σ H := by
  refine ⟨fun i m σ H => m = xs.length - i ∧ i ≤ xs.length ∧ ∃ G M, Zp G M H ∧ I i σ G M, ⟨xs.length, by simp, Nat.zero_le _, G, M, z, h0⟩, ?_⟩
  rintro i m σ H ⟨rfl, hi, G, M, z, h⟩
  have o := ok i σ G M H h z
  by_cases c : i < xs.length
  · refine .inr ⟨S.go i H o c, fun σ' H' => ∃ G' M', Zp G' M' H' ∧ I (i + 1) σ' G' M', fun σ' H' q => ⟨xs.length - (i + 1), by omega, rfl, c, q⟩, fun x H' y => ?_⟩
    obtain ⟨rfl, e⟩ := S.yld i H x H' o c y
    exact turn i x σ G M H' e h z
  · obtain rfl : i = xs.length := by omega
    exact .inl ⟨S.stop _ H o (Nat.le_refl _), done σ G M H h z⟩
/-! ### comprehensions -/
def LcW (J : It) (g : TG) (tt : TT) (te : TE) (ws : List Nat) (σ : L2.St) (H1 : Hp) (Q : VK) : Prop := ∀ D, H1 D = none → ∃ W : Nat → Nat → Hp → Prop, (∃ m, W 0 m (upd H1 D (.lst []))) ∧ ∀ i m H, W i m H →
  (J.stop i H ∧ Q (.ref D) H) ∨ (J.go i H ∧ ∃ Nx : Hp → Prop, (∀ H', Nx H' → ∃ m', m' < m ∧ W (i + 1) m' H') ∧ ∀ x H', J.yld i H x H' → g x (wipe σ ws) H' fun σ2 H2 => wipe σ2 ws = wipe σ ws ∧ tt σ2 H2 fun b H3 =>
    if b = true then te σ2 H3 fun y H4 => ∃ acc, H4 D = some (.lst acc) ∧ acc.length < sizeLine ∧ Nx (upd H4 D (.lst (acc ++ [y]))) else Nx H3)
theorem z_lc {wi : TI} {ws : List Nat} (h : wi σ H fun J H1 => LcW J g tt te ws σ H1 Q) : tLc wi g tt te ws σ H Q := h
/-- what a turn is to reach: the item y is laid behind those so far, or nothing is -/
def Kept (I : Hp → List (Addr × HO) → List V → Prop) (D : Addr) (H : Hp) : Prop := ∃ G M acc, Zp G (M ++ [(D, .lst acc)]) H ∧ I G M acc
def Laid (I : Hp → List (Addr × HO) → List V → Prop) (D : Addr) (y : V) (H : Hp) : Prop := ∃ acc, H D = some (.lst acc) ∧ acc.length < sizeLine ∧ Kept I D (upd H D (.lst (acc ++ [y])))
theorem last_at {M : List (Addr × HO)} {p : Addr × HO} : (M ++ [p])[M.length]? = some p := by simp
theorem z_laid {I : Hp → List (Addr × HO) → List V → Prop} {Dl : Addr} {acc : List V} (z : Zp G (M ++ [(Dl, .lst acc)]) H) (hl : acc.length ≤ 100000) (q : I G M (acc ++ [y])) : Laid I Dl y H := by
  refine ⟨acc, z.at_ M.length last_at, Nat.lt_of_le_of_lt hl (by decide), G, M, acc ++ [y], ?_, q⟩
  have := z.put M.length last_at (.lst (acc ++ [y]))
  rw [List.set_append_right _ _ (Nat.le_refl _), Nat.sub_self] at this
  exact this
theorem z_left {I : Hp → List (Addr × HO) → List V → Prop} {Dl : Addr} {acc : List V} (z : Zp G (M ++ [(Dl, .lst acc)]) H) (q : I G M acc) : Kept I Dl H := ⟨G, M, acc, z, q⟩
theorem lc_src {J : It} {ws : List Nat} {OK : Hp → Prop} (S : Src J xs OK) (I : Nat → Hp → List (Addr × HO) → List V → Prop) (z : Zp G M H) (h0 : I 0 G M []) (ok : ∀ i G M M1 acc H, I i G M acc → Zp G (M ++ M1) H → OK H)
    (turn : ∀ i x G M acc Dl H, xs[i]? = some x → I i G M acc → Zp G (M ++ [(Dl, .lst acc)]) H → g x (wipe σ ws) H fun σ2 H2 => wipe σ2 ws = wipe σ ws ∧ tt σ2 H2 fun b H3 =>
      Bif b (te σ2 H3 fun y H4 => Laid (I (i + 1)) Dl y H4) (Kept (I (i + 1)) Dl H3))
    (done : ∀ p G M acc G1 H1, I xs.length G M acc → Same G G1 → Zp G1 M H1 → G1 p = some (.lst acc) → Q (.ref p) H1) : LcW J g tt te ws σ H Q := by
  intro Dl hD
  refine ⟨fun i m H => m = xs.length - i ∧ i ≤ xs.length ∧ Kept (I i) Dl H, ⟨xs.length, by simp, Nat.zero_le _, G, M, [], z.add hD _, h0⟩, ?_⟩
  rintro i m H ⟨rfl, hi, G, M, acc, z, h⟩
  have o := ok i G M _ acc H h z
  by_cases c : i < xs.length
  · refine .inr ⟨S.go i H o c, Kept (I (i + 1)) Dl, fun H' q => ⟨xs.length - (i + 1), by omega, rfl, c, q⟩, fun x H' y => ?_⟩
    obtain ⟨rfl, e⟩ := S.yld i H x H' o c y
    exact turn i x G M acc Dl H' e h z
  · obtain rfl : i = xs.length := by omega
    refine .inl ⟨S.stop _ H o (Nat.le_refl _), done Dl G M acc _ H h (Same.new ?_) z.fix upd_same⟩
    exact (z.own M.length _ _ last_at).2
theorem z_yes (q : QB true H) : tYes σ H QB := q
/-! what a for or a comprehension begins with -/
def ItL (K : PySem.W.Frag) (x : V) (H : Hp) (R : It → Hp → Prop) : Prop := ∃ a, x = .ref a ∧ (∃ xs, SqL K H a xs) ∧ R (Itl K a) H
def ItT (K : PySem.W.Frag) (x : V) (H : Hp) (R : It → Hp → Prop) : Prop := ∃ a, x = .ref a ∧ (∃ xs, SqT K H a xs) ∧ R (Itt K a) H
def ItS (x : V) (H : Hp) (R : It → Hp → Prop) : Prop := ∃ s, x = .str s ∧ R (Its s) H
def ItR (vs : List V) (H : Hp) (R : It → Hp → Prop) : Prop := ∃ j : Int, vs = [.int j] ∧ -(2 ^ 62) ≤ j ∧ j < 2 ^ 62 ∧ R (Itr 0 j.toNat) H
variable {R : It → Hp → Prop}
theorem z_iL (h : te σ H fun x H1 => ItL K x H1 R) : iList K te σ H R := h
theorem z_iT (h : te σ H fun x H1 => ItT K x H1 R) : iTup K te σ H R := h
theorem z_iS (h : te σ H fun x H1 => ItS x H1 R) : iStr te σ H R := h
theorem z_iR (h : t σ H fun vs H1 => ItR vs H1 R) : iRng1 t σ H R := h
theorem z_itL (z : Zp G M H) (h : SqL K G a xs) (q : R (Itl K a) H) : ItL K (.ref a) H R := ⟨a, rfl, ⟨xs, z.seqL h⟩, q⟩
theorem z_itT (z : Zp G M H) (h : SqT K G a xs) (q : R (Itt K a) H) : ItT K (.ref a) H R := ⟨a, rfl, ⟨xs, z.seqT h⟩, q⟩
theorem z_itS {s : Str} (q : R (Its s) H) : ItS (.str s) H R := ⟨s, rfl, q⟩
theorem z_itR {j : Int} (h0 : -(2 ^ 62) ≤ j) (h1 : j < 2 ^ 62) (q : R (Itr 0 j.toNat) H) : ItR [.int j] H R := ⟨j, rfl, h0, h1, q⟩
/-! ### a call of a def of the module -/
structure Own (P : Program) (w : World) (K : PySem.W.Frag) (mg : Str → Option Value) (base : Heap) (CX : CXT) (k : Nat) (x : Str) (ps : List Str) (sp : Sp) : Prop where
  ex : ∃ f fd, FnOk P w K mg base CX k f fd ps sp ∧ mg x = some (.ref f) ∧ PySem.W.keepIn K (.ref f) = true ∧ Binds K fd ps []
theorem pe_own {X : Cx} {CX : CXT} {k : Nat} {x : Str} {ps : List Str} {sp : Sp} {E : XK} {p pos : Pos} {e : Expr} {es : List Expr} {t : TA} (C : Own X.prog X.w X.K X.mg X.base CX k x ps sp) (hr : Room k X.A) (hg : Gl X x) (hx : Passes CX X E) (ha : PA X (e :: es) t)
    (hdb : (x == ("__debug__" : Str)) = false := by decide) (he : starEach (e :: es) X.env = (false, eval e X.env) :: starEach es X.env := by rfl) (hpl : (backTo pos (starEach es X.env)).any (·.1) = false := by rfl) :
    PE X (.Call (.Name x p) (e :: es) [] pos) (tCall sp [] E t) := by
  refine ⟨fun pins s σ H Q I h => ?_⟩
  obtain ⟨f, fd, F, hm, hk, hb⟩ := C.ex
  exact (pe_call F hr hg hm hk hb .nil hx ha hdb he hpl).run pins s σ H Q I h
end
end Ys
namespace Ys
open PySem PySem.Spec PyProof.Rows L2
section
variable {K : PySem.W.Frag} {P : Program} {w : World} {G G1 H : Hp} {M M1 : List (Addr × HO)} {σ : L2.St} {Q : VK} {QB : Bool → Hp → Prop} {D : Ends} {tc : TT} {tb t1 t2 : TS} {A B : Prop} {v x y : V} {i j : Int} {a b p : Addr} {xs ys vs : List V} {o : HO} {u : Addr × HO}
theorem Zp.perm (z : Zp G M H) (h : M.Perm M1) : Zp G M1 H where
  sub := z.sub
  own := fun i q o e => by
    obtain ⟨j, hj⟩ := List.getElem?_of_mem (h.mem_iff.mpr (List.mem_of_getElem? e))
    exact z.own j q o hj
  nd := (h.map _).nodup_iff.mp z.nd
theorem Zp.keep (z : Zp G M H) (h : M1.Sublist M) : Zp G M1 H where
  sub := z.sub
  own := fun i q o e => by
    obtain ⟨j, hj⟩ := List.getElem?_of_mem (h.subset (List.mem_of_getElem? e))
    exact z.own j q o hj
  nd := (h.map _).nodup z.nd
/-- a new object right behind the first -/
theorem Zp.addP (z : Zp G (u :: M) H) (h : H p = none) (o : HO) : Zp G (u :: (p, o) :: M) (upd H p o) :=
  (z.add h o).perm (by
    rw [List.cons_append]
    exact List.Perm.cons _ (List.perm_append_comm (l₁ := M) (l₂ := [(p, o)])))
theorem Zp.drop2 (z : Zp G (u :: (p, o) :: M) H) : Zp G (u :: M) H :=
  Zp.cut (M := u :: M) (M1 := [(p, o)]) (z.perm (by
    rw [List.cons_append]
    exact List.Perm.cons _ (List.perm_append_comm (l₁ := [(p, o)]) (l₂ := M))))
theorem Zp.fix2 (z : Zp G (u :: (p, o) :: M) H) : Zp (upd G p o) (u :: M) H ∧ G p = none :=
  have z2 : Zp G ((u :: M) ++ [(p, o)]) H := z.perm (by
    rw [List.cons_append]
    exact List.Perm.cons _ (List.perm_append_comm (l₁ := [(p, o)]) (l₂ := M)))
  ⟨z2.fix, (z2.own (u :: M).length p o (by simp)).2⟩
theorem z_listP (z : Zp G (u :: M) H) (h : SqL K G a xs ∨ SqT K G a xs) (q : ∀ p H1, Zp G (u :: (p, .lst xs) :: M) H1 → Q (.ref p) H1) : rListG K [.ref a] H Q :=
  ⟨a, xs, rfl, h.imp z.seqL z.seqT, fun p hp => q p _ (z.addP hp _)⟩
theorem z_ownP (z : Zp G (u :: M) H) (hl : xs.length ≤ 100000) (q : ∀ p H1, Zp G (u :: (p, .lst xs) :: M) H1 → Q (.ref p) H1) : NewL xs H Q :=
  ⟨Nat.le_trans hl (by decide), fun p hp => q p _ (z.addP hp _)⟩
theorem z_bd {p : Prop} {i : Decidable p} (h1 : p → A) (h2 : ¬ p → B) : Bif (@decide p i) A B := z_bD h1 h2
theorem z_cut (I : L2.St → Hp → Prop) (h1 : ∀ nx, (∀ σ H, I σ H → nx σ H) → t1 ⟨nx, D.rt, D.bk, D.ct⟩ σ H) (h2 : ∀ σ H, I σ H → t2 D σ H) : tSeq t1 t2 D σ H := h1 (t2 D) h2
theorem mw (h1 : -18446744073709551616 < i) (h2 : i < 18446744073709551616) (h3 : -18446744073709551616 < j) (h4 : j < 18446744073709551616) : CMulW i j := wide_mul (a := 64) (b := 64) (by omega) (by omega) (by decide) (by decide) (by decide)
theorem dw (h1 : 0 < j) (h2 : j ≤ 1000000000) : CDivW i j := wide_div (b := 30) h1 (by omega) (by decide) (by decide)
/-- two names at once -/
def Par2 (k l : Nat) (D : Ends) (σ : L2.St) (vs : List V) (H1 : Hp) : Prop := ∃ v w, vs = [v, w] ∧ D.nx ((σ.set k (some v)).set l (some w)) H1
theorem z_pr {k l : Nat} {t : TA} (h : t σ H (Par2 k l D σ)) : tPar k l t D σ H := h
theorem z_pr2 {k l : Nat} (q : D.nx ((σ.set k (some x)).set l (some y)) H) : Par2 k l D σ [x, y] H := ⟨x, y, rfl, q⟩
theorem rng_at {lo : Int} {n k : Nat} {x : V} (h : (rngV lo n)[k]? = some x) : k < n ∧ x = .int (lo + (k : Int)) := by
  have hi := (List.getElem?_eq_some_iff.mp h).1
  rw [rngV_len] at hi
  refine ⟨hi, ?_⟩
  unfold rngV at h
  rw [List.getElem?_map, List.getElem?_range hi] at h
  exact (Option.some.inj h).symm
/-! ### while -/
def WhB (I : Nat → L2.St → Hp → List (Addr × HO) → Prop) (n : Nat) (tb : TS) (D : Ends) (σ : L2.St) (b : Bool) (H1 : Hp) : Prop :=
  if b = true then ∃ N : L2.St → Hp → Prop, (∀ σ' H', N σ' H' → ∃ m', m' < n ∧ ∃ G M, Zp G M H' ∧ I m' σ' G M) ∧ tb { D with nx := N, ct := N, bk := D.nx } σ H1 else D.nx σ H1
theorem z_while (I : Nat → L2.St → Hp → List (Addr × HO) → Prop) (n : Nat) (z : Zp G M H) (h0 : I n σ G M) (turn : ∀ n σ G M H, I n σ G M → Zp G M H → tc σ H (WhB I n tb D σ)) : tWhile tc tb D σ H :=
  ⟨fun m σ H => ∃ G M, Zp G M H ∧ I m σ G M, ⟨n, G, M, z, h0⟩, fun m σ H ⟨G, M, z, h⟩ => turn m σ G M H h z⟩
theorem z_whT {I : Nat → L2.St → Hp → List (Addr × HO) → Prop} {n : Nat} (h : tb ⟨fun σ' H' => ∃ m', m' < n ∧ ∃ G M, Zp G M H' ∧ I m' σ' G M, D.rt, D.nx, fun σ' H' => ∃ m', m' < n ∧ ∃ G M, Zp G M H' ∧ I m' σ' G M⟩ σ H) : WhB I n tb D σ true H := by
  unfold WhB
  rw [if_pos rfl]
  exact ⟨_, fun _ _ h => h, h⟩
theorem z_whF {I : Nat → L2.St → Hp → List (Addr × HO) → Prop} {n : Nat} (h : D.nx σ H) : WhB I n tb D σ false H := by
  unfold WhB
  rw [if_neg Bool.false_ne_true]
  exact h
/-! ### data -/
theorem dts_int : ∀ cells : List Int, Dts K G (cells.map V.int) (cells.map PyData.int)
  | [] => .nil
  | c :: cs => .cons (.int c) (dts_int cs)
theorem dts_str : ∀ ss : List Str, Dts K G (ss.map V.str) (ss.map PyData.str)
  | [] => .nil
  | c :: cs => .cons (.str c) (dts_str cs)
/-- a value that == can be asked of -/
def El (K : PySem.W.Frag) (G : Hp) (v : V) : Prop := ∃ d, Dt K G v d ∧ d.canLay0 = true ∧ d.depth ≤ 60
theorem El.up (s : Same G G1) : El K G v → El K G1 v := fun ⟨d, h, c⟩ => ⟨d, h.up s, c⟩
theorem El.str {s : Str} (h : PyData.strOk s = true) : El K G (.str s) := ⟨.str s, .str s, h, Nat.zero_le _⟩
theorem El.int (i : Int) : El K G (.int i) := ⟨.int i, .int i, rfl, Nat.zero_le _⟩
theorem El.non : El K G .non := ⟨.none, .non, rfl, Nat.zero_le _⟩
theorem El.all : ∀ {xs : List V}, (∀ v ∈ xs, El K G v) → ∃ ds, Dts K G xs ds ∧ PyData.canLayAll0 ds = true ∧ PyData.depthAll ds ≤ 60 ∧ (ds = [] ↔ xs = [])
  | [], _ => ⟨[], .nil, rfl, by decide, by simp⟩
  | x :: xs, h => by
    obtain ⟨d, h1, h2, h3⟩ := h x (List.mem_cons_self ..)
    obtain ⟨ds, g1, g2, g3, _⟩ := El.all (xs := xs) fun v hv => h v (List.mem_cons_of_mem _ hv)
    refine ⟨d :: ds, .cons h1 g1, ?_, ?_, by simp⟩
    · show (d.canLay0 && PyData.canLayAll0 ds) = true
      rw [h2, g2]
      rfl
    · show max d.depth (PyData.depthAll ds) ≤ 60
      omega
theorem shp {ds : List PyData} (c : PyData.canLayAll0 ds = true) (d : PyData.depthAll ds ≤ 60) : SeqAt.shaped (.list ds) = true := by
  unfold SeqAt.shaped
  have e : PyData.canLay0 (.list ds) = true := c
  have e2 : PyData.depth (.list ds) = PyData.depthAll ds + 1 := rfl
  rw [e, e2]
  simp
  omega
theorem shpT {ds : List PyData} (c : PyData.canLayAll0 ds = true) (d : PyData.depthAll ds ≤ 60) : SeqAt.shaped (.tuple ds) = true := by
  unfold SeqAt.shaped
  have e : PyData.canLay0 (.tuple ds) = true := c
  have e2 : PyData.depth (.tuple ds) = PyData.depthAll ds + 1 := rfl
  rw [e, e2]
  simp
  omega
/-- is that list empty? -/
theorem z_neNil (hl : SqL K H a xs) (he : ∀ v ∈ xs, El K H v) (h2 : H b = some (.lst [])) (q : Q (.bl (decide (xs ≠ []))) H) : rNeG K (.ref a) (.ref b) H Q := by
  obtain ⟨ds, h, c, d, e⟩ := El.all he
  refine .inr ⟨.list ds, .list [], Dt.dp _ _ (SeqAt.canLay_of_shaped (shp c d)) (.lst hl h), Dt.dp _ _ rfl (.lst (SqL.of h2) .nil), shp c d, rfl, ?_⟩
  have : (!PyData.eqv (.list ds) (.list [])) = decide (xs ≠ []) := by
    cases ds with
    | nil =>
      have : xs = [] := e.mp rfl
      subst this
      rfl
    | cons d ds =>
      have : ¬ xs = [] := fun h => by cases e.mpr h
      rw [decide_eq_true this]
      rfl
  rw [this]
  exact q
/-! ### a dict that is written down -/
variable {ps : List (V × V)} {tk tv : TE} {trs : List (TE × TE)} {QP : List (V × V) → Hp → Prop}
def DispE (p : Addr) (ps : List (V × V)) (H : Hp) (Q : VK) : Prop := H p = some (.dK []) ∧ ∃ kvs : List (Key × V), ps = kvs.map (fun kv => (kV kv.1, kv.2)) ∧ kvs.length ≤ 15 ∧ Q (.ref p) (upd H p (.dK (mergeK [] kvs)))
theorem z_disp (z : Zp G M H) (h : ∀ p H1, Zp G (M ++ [(p, .dK [])]) H1 → tPairs trs σ H1 fun ps H2 => DispE p ps H2 Q) : tDisp trs σ H Q := fun p hp => h p _ (z.add hp _)
theorem z_pn (q : QP [] H) : tPairs [] σ H QP := q
theorem z_pc (h : tk σ H fun x H1 => tv σ H1 fun y H2 => tPairs trs σ H2 fun ps H3 => QP ((x, y) :: ps) H3) : tPairs ((tk, tv) :: trs) σ H QP := h
theorem z_dispE (z : Zp G (M ++ [(p, .dK [])]) H) (kvs : List (Key × V)) (e : ps = kvs.map (fun kv => (kV kv.1, kv.2))) (hl : kvs.length ≤ 15) (q : ∀ H3, Zp G (M ++ [(p, .dK (mergeK [] kvs))]) H3 → Q (.ref p) H3) : DispE p ps H Q := by
  refine ⟨z.at_ M.length last_at, kvs, e, hl, q _ ?_⟩
  have := z.put M.length last_at (.dK (mergeK [] kvs))
  rw [List.set_append_right _ _ (Nat.le_refl _), Nat.sub_self] at this
  exact this
/-! ### looks into lists -/
theorem at_in {α : Type} {xs : List α} {i : Int} (h0 : 0 ≤ i) (h1 : i < xs.length) : ∃ v, v ∈ xs ∧ atI xs i = some v := by
  obtain ⟨k, rfl⟩ := Int.eq_ofNat_of_zero_le h0
  have hk : k < xs.length := by omega
  exact ⟨xs[k], List.getElem_mem hk, atI_nat (by simp [hk])⟩
theorem cut_map {α : Type} (f : α → V) (xs : List α) (lo hi : Option Int) : cutV (xs.map f) lo hi = ((xs.drop (HT.sIx xs.length 0 lo)).take (HT.sIx xs.length xs.length hi - HT.sIx xs.length 0 lo)).map f := by
  unfold cutV
  rw [List.length_map, List.map_take, List.map_drop]
end
end Ys
namespace Ys
open PySem PySem.Spec PyProof.Rows L2 TL
theorem erase_perm {α : Type} : ∀ {zs : List α} {k : Nat} (h : k < zs.length), (zs[k] :: zs.eraseIdx k).Perm zs
  | x :: xs, 0, _ => List.Perm.refl _
  | x :: xs, k + 1, h => by
    show (xs[k]'(by simpa using h) :: x :: xs.eraseIdx k).Perm (x :: xs)
    exact (List.Perm.swap _ _ _).trans (List.Perm.cons _ (erase_perm (by simpa using h)))
/-! ### words -/
/-- the letters -/
def Lt (s : Str) : Prop := ∀ c ∈ s.cps.toList, 97 ≤ c ∧ c ≤ 122
def Wd (s : Str) : Prop := 1 ≤ s.length ∧ s.length ≤ 8 ∧ Lt s
theorem Lt.app {x y : Str} (hx : Lt x) (hy : Lt y) : Lt (x ++ y) := fun c hc => by
  have e : (x ++ y).cps.toList = x.cps.toList ++ y.cps.toList := by
    show (x.cps ++ y.cps).toList = _
    rw [Array.toList_append]
  rw [e] at hc
  rcases List.mem_append.mp hc with h | h
  · exact hx c h
  · exact hy c h
theorem Lt.cut {x : Str} (hx : Lt x) (lo hi : Option Int) : Lt (cutS x lo hi) := fun c hc => hx c (List.mem_of_mem_drop (List.mem_of_mem_take (by simpa [cutS] using hc)))
theorem len_app (x y : Str) : (x ++ y).length = x.length + y.length := PySem.Str.length_append x y
theorem Lt.one {c : Nat} (h : 97 ≤ c ∧ c ≤ 122) : Lt ⟨#[c]⟩ := fun d hd => by
  obtain rfl : d = c := by simpa using hd
  exact h
theorem Lt.ok {s : Str} (h : Lt s) : PyData.strOk s = true := by
  unfold PyData.strOk
  rw [Array.all_eq_true_iff_forall_mem]
  intro c hc
  have := (h c (by simpa using hc)).2
  exact decide_eq_true (by omega)
theorem abc_mem {c : Nat} (h : c ∈ (("abcdefghijklmnopqrstuvwxyz" : Str)).cps.toList) : 97 ≤ c ∧ c ≤ 122 := by
  have e : (("abcdefghijklmnopqrstuvwxyz" : Str)).cps.toList = (List.range 26).map (· + 97) := by decide +kernel
  rw [e] at h
  obtain ⟨k, hk, rfl⟩ := List.mem_map.mp h
  have := List.mem_range.mp hk
  omega
theorem abc_len : (("abcdefghijklmnopqrstuvwxyz" : Str)).length = 26 := by decide +kernel
theorem joinL0 : ∀ {ps : List (List Nat)} {c : Nat}, c ∈ joinL [] ps → ∃ p ∈ ps, c ∈ p
  | [], _, h => by simp [joinL] at h
  | [p], _, h => ⟨p, by simp, by simpa [joinL] using h⟩
  | p :: q :: r, c, h => by
    have h' : c ∈ p ++ ([] ++ joinL [] (q :: r)) := by simpa [joinL] using h
    rcases List.mem_append.mp h' with h | h
    · exact ⟨p, by simp, h⟩
    · obtain ⟨x, hx, hc⟩ := joinL0 (ps := q :: r) (by simpa using h)
      exact ⟨x, List.mem_cons_of_mem _ hx, hc⟩
theorem Lt.join {ss : List Str} (h : ∀ s ∈ ss, Lt s) : Lt (Txt.join "" ss) := fun c hc => by
  have e : (Txt.join "" ss).cps.toList = joinL (tl ("" : Str)) (ss.map tl) := by
    rw [join_eq]
    exact tl_join "" ss
  have e0 : tl ("" : Str) = [] := by decide +kernel
  rw [e, e0] at hc
  obtain ⟨p, hp, hc⟩ := joinL0 hc
  obtain ⟨s, hs, rfl⟩ := List.mem_map.mp hp
  exact h s hs c hc
theorem cutS_len (x : Str) (lo hi : Option Int) : (cutS x lo hi).length = HT.sIx x.length x.length hi - HT.sIx x.length 0 lo := by
  have h2 := HT.sIx_le x.length x.length (Nat.le_refl _) hi
  show ((((x.cps.toList.drop (HT.sIx x.length 0 lo)).take (HT.sIx x.length x.length hi - HT.sIx x.length 0 lo)).toArray).size) = _
  rw [List.size_toArray, List.length_take, List.length_drop, Array.length_toList]
  show min _ (x.length - _) = _
  omega
section
variable {X : Cx} {o e : Expr} {to te : TE}
theorem pe_joinG {apos pos : Pos} (ho : PE X o to) (he : PE X e te) (hs : starEach [e] X.env = [(false, eval e X.env)] := by rfl) (hbase : attributeBase o "join" X.env (eval o X.env) = eval o X.env := by rfl) (hline : (apos.endLine == pos.line) = true := by rfl) :
    PE X (.Call (.Attribute o "join" apos) [e] [] pos) (tM1 (rJoin X.K) to te) := pe_join ho he hs hbase hline
end
end Ys
namespace Ys
open PySem PySem.Spec PyProof.Rows L2
section
variable {M : Model} {prog : Program} {w : World} {A : Around} {E : Value → Shared → Prop} {s : Shared} {K : PySem.W.Frag} {x C f : Addr} {ox : Obj} {od : Option Obj} {b tb : Value}
theorem ifBound_objNe {args : List Value} {Q : Option Value → Shared → Prop} (X : K.In s.heap) (I : PySem.W.InstAt s.heap x ox C od) (hs : PySem.W.findIn K (.ref C) "__ne__" = some (some (.builtin "object.__ne__")))
    (h : wpAny M A (call (.builtin "object.__ne__") (.ref x :: args)) (fun v => Q (some v)) E s) : wpAny M A (callSpecialIfBound? (.ref x) "__ne__" args) Q E s := by
  simp only [callSpecialIfBound?, bindSpecialIfBound?]
  refine wpAny_holding (wpAny_bind (wpAny_bind (wpAny_bind (I.type.here ((PySem.W.looks_findIn X hs).here ?_)))))
  refine wpAny_bind (wpAny_askSetting (wpAny_ite ?_))
  have fin : wpAny M A (call (.builtin "object.__ne__") ([.ref x] ++ args) >>= fun v => pure (some v)) Q E s := wpAny_bind (wpAny_mono h (fun v s' h' => wpAny_pure h') fun _ _ h' => h')
  split
  · exact wpAny_bind (wpAny_of_eq (F.cmp_object.ne.bind _) (wpAny_pure (by exact fin)))
  · exact wpAny_tryCatch (wpAny_bind (wpAny_of_eq (F.cmp_object.ne.bind _) (wpAny_pure (by exact fin))))
def BackB (Q : Bool → Shared → Prop) (v : Value) (s' : Shared) : Prop := ∃ r, v = .bool r ∧ Q r s'
theorem ne_K {Q : Value → Shared → Prop} (hu : A.units + 1 < cLine) (X : K.In s.heap) (I : PySem.W.InstAt s.heap x ox C od) (hb : PySem.W.Looks (model prog w) s.heap (typeOf b) tb) (hn : PySem.W.notFirst K C tb = true)
    (hm : PySem.W.mroIn K C (.type "object") = some true) (hs : PySem.W.findIn K (.ref C) "__ne__" = some (some (.builtin "object.__ne__"))) (he : PySem.W.findIn K (.ref C) "__eq__" = some (some (.ref f))) (hf : PySem.W.isFn K (.ref f) = true)
    (h : wpAny (model prog w) A.in1 (call (.ref f) [.ref x, b]) (BackB fun r s' => Q (.bool (!r)) s') E s) : wpAny (model prog w) A (richCompare .NotEq (.ref x) b) Q E s := by
  have ent : wpAny (model prog w) A.in1 (Builtin.«object.__ne__» ⟨[.ref x, b], []⟩) (fun r s' => ∃ v, r = .done (.ret (.bool v)) ∧ Q (.bool v) s') E s := by
    unfold Builtin.«object.__ne__»
    repeat (first
      | with_reducible refine wpAny_cRoomFor hu ?_
      | (refine wpAny_bind (m := callSpecialIfBound? (.ref x) (Str.ofString "__eq__") [b])
          (PySem.W.ifBound_K X I he hf (wpAny_mono h (fun r s' hr => by
            obtain ⟨b, rfl, hq⟩ := hr
            repeat (first | exact ⟨_, rfl, hq⟩ | exact wpAny_pure ⟨_, rfl, hq⟩ | (refine wpAny_bind (m := truthy (.bool _)) (wpAny_truthy_bool ?_)) | wp_step)) fun _ _ e => e)))
      | wp_step)
  have one : wpAny (model prog w) A (tryCompare (.ref x) "__ne__" b) (fun r s' => ∃ v, r = some v ∧ Q v s') E s := by
    unfold tryCompare
    refine wpAny_bind (ifBound_objNe X I hs ?_)
    refine wpAny_call (codeAny_call_builtin F.cmp_object.ne.plain F.cmpEntry_ne (PySem.W.check_slot F.cmpKind_ne F.cmpSplit_ne (I.type.andThen (PySem.W.looks_mroIn X hm)) (F.cmpArgs_ne _ _) ?_))
    refine wpAny_mono ent (fun r s' hq => ?_) fun _ _ e => e
    obtain ⟨v, rfl, hq⟩ := hq
    first
      | exact wpAny_pure ⟨_, rfl, hq⟩
      | exact ⟨_, rfl, wpAny_pure ⟨_, rfl, hq⟩⟩
  unfold richCompare
  simp only [oneThing_ref]
  refine wpAny_holding (wpAny_bind (wpAny_cRoomFor (Nat.lt_of_succ_lt hu) ?_))
  refine wpAny_bind (I.type.here (wpAny_bind (hb.here ?_)))
  split
  · rename_i q
    have e : PySem.W.subIn K tb (.ref C) = some false := by
      rcases Bool.or_eq_true_iff.mp hn with e | e
      · rw [beq_iff_eq.mp e] at q; simp at q
      · exact beq_iff_eq.mp e
    refine wpAny_bind ((PySem.W.looks_subIn X e).here ?_)
    simp only [Bool.false_eq_true, if_false]
    refine wpAny_bind (wpAny_mono one (fun r s' z => ?_) fun _ _ e => e)
    obtain ⟨v, rfl, hq⟩ := z
    exact wpAny_pure hq
  · refine wpAny_bind (wpAny_pure ?_)
    simp only [Bool.false_eq_true, if_false]
    refine wpAny_bind (wpAny_mono one (fun r s' z => ?_) fun _ _ e => e)
    obtain ⟨v, rfl, hq⟩ := z
    exact wpAny_pure hq
end
section
variable {X : Cx} {CX : CXT} {n : Nat} {C f : Addr} {fd : FuncData} {ps : List Str} {sp : Sp} {E : XK}
/-- x is an instance of the class at C; what its own == promises of y -/
def rEqI (K : PySem.W.Frag) (C : Addr) (sp : Sp) (E : XK) : R2 := fun x y H Q => ∃ a dx fs t, x = .ref a ∧ H a = some (.ins C dx fs) ∧ TyX K H y t ∧ PySem.W.notFirst K C t = true ∧ sp [x, y] H (fun v H' => ∃ b, v = .bl b ∧ Q (.bl b) H') E
def rNeI (K : PySem.W.Frag) (C : Addr) (sp : Sp) (E : XK) : R2 := fun x y H Q => ∃ a dx fs t, x = .ref a ∧ H a = some (.ins C dx fs) ∧ TyX K H y t ∧ PySem.W.notFirst K C t = true ∧ sp [x, y] H (fun v H' => ∃ b, v = .bl b ∧ Q (.bl (!b)) H') E
theorem op_eqI (F : FnOk X.prog X.w X.K X.mg X.base CX n f fd ps sp) (hs : PySem.W.findIn X.K (.ref C) "__eq__" = some (some (.ref f))) (hf : PySem.W.isFn X.K (.ref f) = true) (hb : Binds X.K fd ps []) (hx : Passes CX X E) (hr : Room n X.A) :
    OpR X (compareOp .Eq) (rEqI X.K C sp E) := by
  intro pins s σ H x y v u Q I rx ry ⟨a, dx, fs, t, e1, ha, ty, nf, q⟩
  subst e1
  cases rx
  obtain ⟨mA, J, _⟩ := ins_get I.hok ha
  obtain ⟨od, J, _⟩ := J.look
  obtain ⟨P, Z, p, _⟩ := kit_of I ry ty
  obtain ⟨m, hF⟩ := I.fr
  show wpAny (model X.prog X.w) X.A (richCompare .Eq (.ref a) u) (EP X pins σ Q) X.xe s
  refine PySem.W.cmp_K (op := .Eq) (tb := t) hr.units0 hF I.ok.mod.kin J (Z.ty _ _ I.kIn p) nf hs hf ?_
  have hl := F.len _ _ _ _ q
  refine wpAny_call (codeAny_mono (F.run X.A X.stack s H ⟨[.ref a, u], []⟩ [.ref a, u] [.ref a, y] _ E hr I.env0 (by
    have := hb s [.ref a, u] I.kIn (by simpa using hl)
    simpa using this) (.cons rfl (.cons ry .nil)) q) fun r s' hq => ?_)
  cases r with
  | error e => exact hx pins σ H s e s' I hq
  | ok fl =>
    cases fl with
    | ret w =>
      obtain ⟨z, H', I', rz, b, rfl, q2⟩ := I.after hq
      cases rz
      exact ⟨.bl b, H', I', rfl, q2⟩
    | next => exact False.elim hq
    | brk => exact False.elim hq
    | cont => exact False.elim hq
theorem op_neI (F : FnOk X.prog X.w X.K X.mg X.base CX n f fd ps sp) (he : PySem.W.findIn X.K (.ref C) "__eq__" = some (some (.ref f))) (hs : PySem.W.findIn X.K (.ref C) "__ne__" = some (some (.builtin "object.__ne__"))) (hm : PySem.W.mroIn X.K C (.type "object") = some true)
    (hf : PySem.W.isFn X.K (.ref f) = true) (hb : Binds X.K fd ps []) (hx : Passes CX X E) (hr : Room (n + 1) X.A) : OpR X (compareOp .NotEq) (rNeI X.K C sp E) := by
  intro pins s σ H x y v u Q I rx ry ⟨a, dx, fs, t, e1, ha, ty, nf, q⟩
  subst e1
  cases rx
  obtain ⟨mA, J, _⟩ := ins_get I.hok ha
  obtain ⟨od, J, _⟩ := J.look
  obtain ⟨P, Z, p, _⟩ := kit_of I ry ty
  show wpAny (model X.prog X.w) X.A (richCompare .NotEq (.ref a) u) (EP X pins σ Q) X.xe s
  refine ne_K (by have := hr.units; omega) I.kIn J (Z.ty _ _ I.kIn p) nf hm hs he hf ?_
  have hl := F.len _ _ _ _ q
  refine wpAny_call (codeAny_mono (F.run X.A.in1 X.stack s H ⟨[.ref a, u], []⟩ [.ref a, u] [.ref a, y] _ E hr.in1 I.env0.in1 (by
    have := hb s [.ref a, u] I.kIn (by simpa using hl)
    simpa using this) (.cons rfl (.cons ry .nil)) q) fun r s' hq => ?_)
  cases r with
  | error e => exact hx pins σ H s e s' I hq
  | ok fl =>
    cases fl with
    | ret w =>
      obtain ⟨z, H', I', rz, b, rfl, q2⟩ := I.after hq
      cases rz
      exact ⟨b, rfl, .bl (!b), H', I', rfl, q2⟩
    | next => exact False.elim hq
    | brk => exact False.elim hq
    | cont => exact False.elim hq
end
end Ys
namespace Ys
open PySem PySem.Spec PyProof.Rows L2
section
variable {X : Cx} {K : PySem.W.Frag} {P : Program} {w : World} {G G1 H : Hp} {M M1 : List (Addr × HO)} {σ : L2.St} {Q : VK} {QB : Bool → Hp → Prop} {D : Ends} {tc : TT} {ta te tb : TE} {t : TA} {A B : Prop} {v x y : V} {i j : Int} {a b p : Addr} {xs ys vs : List V} {o : HO} {d : PyData} {R : It → Hp → Prop}
/-! ### what is walked: a list, a tuple or a text -/
def iOr (i1 i2 : TI) : TI := fun σ H R => i1 σ H R ∨ i2 σ H R
theorem pi_or {tg e : Expr} {i1 i2 : TI} (h1 : PI X tg e i1) (h2 : PI X tg e i2) : PI X tg e (iOr i1 i2) := ⟨fun pins s σ H R I h => h.elim (h1.run pins s σ H R I) (h2.run pins s σ H R I)⟩
def iAny (K : PySem.W.Frag) (te : TE) : TI := iOr (iList K te) (iOr (iTup K te) (iStr te))
theorem pi_any {tg e : Expr} (h : PE X e te) : PI X tg e (iAny X.K te) := pi_or (pi_list h) (pi_or (pi_tup h) (pi_str h))
theorem z_anyL (h : te σ H fun x H1 => ItL K x H1 R) : iAny K te σ H R := .inl h
theorem z_anyT (h : te σ H fun x H1 => ItT K x H1 R) : iAny K te σ H R := .inr (.inl h)
theorem z_anyS (h : te σ H fun x H1 => ItS x H1 R) : iAny K te σ H R := .inr (.inr h)
/-! ### isinstance -/
def rIsiG (K : PySem.W.Frag) : List V → Hp → VK → Prop := fun xs H Q => rIsi K xs H Q ∨ rIsiT K xs H Q
theorem c_isi : CallR X (.builtin "isinstance") (rIsiG X.K) := CallR.or call_isi call_isiT
theorem z_isi {t u : Value} {r : Bool} {c : V} (k : ClsV c u) (ty : TyX K H x t) (e : PySem.W.kitOne K t u = some r) (q : Q (.bl r) H) : rIsiG K [x, c] H Q := .inl ⟨x, c, t, u, r, rfl, k, ty, e, q⟩
theorem z_isi2 {cs : List V} {t : Value} {us : List Value} {r : Bool} (z : Zp G M H) (h : G a = some (.tup cs)) (k : Paired ClsV cs us) (ty : TyX K H x t) (e : PySem.W.kitAny K t us = some r) (q : Q (.bl r) H) : rIsiG K [x, .ref a] H Q :=
  .inr ⟨x, a, cs, t, us, r, rfl, z.sub _ _ h, k, ty, e, q⟩
/-- the type's name -/
def tyD : PyData → String
  | .none => "NoneType"
  | .bool _ => "bool"
  | .int _ => "int"
  | .str _ => "str"
  | .list _ => "list"
  | .tuple _ => "tuple"
  | .dict _ => "dict"
theorem tyL (h : SqL K H a xs) : TyX K H (.ref a) (.type "list") := by
  rcases h with (h | ⟨o, h⟩) | ⟨o, its, n, hk, hc, _⟩
  · exact .base (.lst h)
  · exact .base (.frz h)
  · exact .kList hk hc
theorem tyT (h : SqT K H a xs) : TyX K H (.ref a) (.type "tuple") := by
  rcases h with (h | ⟨o, h⟩) | ⟨o, its, n, hk, hc, _⟩
  · exact .base (.tup h)
  · exact .fTuple h
  · exact .kTuple hk hc
theorem Dt.ty (h : Dt K H v d) : TyX K H v (.type (tyD d)) := by
  cases h with
  | non => exact .base .non
  | bl b => exact .base (.bl b)
  | int i => exact .base (.int i)
  | str x => exact .base (.str x)
  | lst h _ => exact tyL h
  | tup h _ => exact tyT h
  | dct h _ _ =>
    rcases h with h | ⟨o, h⟩
    · exact .base (.dK h)
    · exact .fDict h
/-- an argument: data that stays, or a list that may change -/
def Ar (K : PySem.W.Frag) (G : Hp) (M : List (Addr × HO)) (v : V) (d : PyData) : Prop := Dt K G v d ∨ ∃ a xs ds, v = .ref a ∧ (a, .lst xs) ∈ M ∧ Dts K G xs ds ∧ d = .list ds
theorem Ar.up (s : Same G G1) (h : Ar K G M v d) : Ar K G1 M v d := h.imp (fun h => h.up s) fun ⟨a, xs, ds, e, m, h, e2⟩ => ⟨a, xs, ds, e, m, h.up s, e2⟩
theorem Ar.sub (s : ∀ u ∈ M, u ∈ M1) (h : Ar K G M v d) : Ar K G M1 v d := h.imp id fun ⟨a, xs, ds, e, m, h, e2⟩ => ⟨a, xs, ds, e, s _ m, h, e2⟩
theorem Zp.mem (z : Zp G M H) (h : (a, o) ∈ M) : H a = some o := by
  obtain ⟨i, hi⟩ := List.getElem?_of_mem h
  exact (z.own i a o hi).1
theorem Ar.dt (z : Zp G M H) (h : Ar K G M v d) : Dt K H v d := by
  rcases h with h | ⟨a, xs, ds, rfl, m, h, rfl⟩
  · exact z.dt h
  · exact .lst (SqL.of (z.mem m)) (h.up z.sub)
theorem Ar.ty (z : Zp G M H) (h : Ar K G M v d) : TyX K H v (.type (tyD d)) := (h.dt z).ty
/-- what is in a list or a tuple -/
theorem Ar.list {ds : List PyData} (z : Zp G M H) (h : Ar K G M v (.list ds)) : ∃ a xs, v = .ref a ∧ SqL K H a xs ∧ Dts K G xs ds ∧ ∀ G1 H1, Zp G1 M H1 → Same G G1 → SqL K H1 a xs := by
  rcases h with h | ⟨a, xs, ds', rfl, m, h, e⟩
  · cases h with
    | lst h1 h2 => exact ⟨_, _, rfl, z.seqL h1, h2, fun G1 H1 z1 s1 => z1.seqL (upL s1 h1)⟩
  · cases e
    exact ⟨a, xs, rfl, SqL.of (z.mem m), h, fun G1 H1 z1 s1 => SqL.of (z1.mem m)⟩
theorem Ar.tup {ds : List PyData} (h : Ar K G M v (.tuple ds)) : ∃ a xs, v = .ref a ∧ SqT K G a xs ∧ Dts K G xs ds := by
  rcases h with h | ⟨a, xs, ds', rfl, m, h, e⟩
  · cases h with
    | tup h1 h2 => exact ⟨_, _, rfl, h1, h2⟩
  · cases e
theorem Ar.str {s : Str} (h : Ar K G M v (.str s)) : v = .str s := by
  rcases h with h | ⟨a, xs, ds', rfl, m, h, e⟩
  · cases h; rfl
  · cases e
theorem Dts.len {ds : List PyData} : ∀ {xs : List V} {ds : List PyData}, Dts K G xs ds → xs.length = ds.length
  | _, _, .nil => rfl
  | _, _, .cons _ h => congrArg Nat.succ (Dts.len (ds := ds) h)
theorem Dts.at_ : ∀ {xs : List V} {ds : List PyData} {k : Nat} {x : V}, Dts K G xs ds → xs[k]? = some x → ∃ d, ds[k]? = some d ∧ Dt K G x d
  | _, _, 0, x, .cons h _, e => by
    simp at e
    exact ⟨_, rfl, e ▸ h⟩
  | _, _, k + 1, x, .cons _ h, e => by
    have := Dts.at_ (k := k) h (by simpa using e)
    simpa using this
/-! ### constants of the module -/
def GC (mg : Str → Option Value) (x : Str) (v : V) : Prop := ∃ u, mg x = some u ∧ RelV v u
theorem pe_gC {x : Str} {pos : Pos} (h : GC X.mg x v) (hg : Gl X x) (hd : (x == ("__debug__" : Str)) = false := by decide) : PE X (.Name x pos) (tC v) := by
  obtain ⟨u, hm, r⟩ := h
  exact ⟨fun pins s σ H Q I h => (pe_glob (v := v) hg hm r hd).run pins s σ H Q I h⟩
/-! ### calls with defaults, properties, methods, making -/
/-- a def that is called with n values, dvs behind them -/
structure OwnA (P : Program) (w : World) (K : PySem.W.Frag) (mg : Str → Option Value) (base : Heap) (CX : CXT) (k : Nat) (x : Str) (ps : List Str) (dvs : List V) (sp : Sp) : Prop where
  ex : ∃ f fd ds, FnOk P w K mg base CX k f fd ps sp ∧ mg x = some (.ref f) ∧ PySem.W.keepIn K (.ref f) = true ∧ Binds K fd ps ds ∧ Vals dvs ds
theorem pe_ownA {CX : CXT} {k : Nat} {x : Str} {ps : List Str} {dvs : List V} {sp : Sp} {E : XK} {p pos : Pos} {e : Expr} {es : List Expr} {t : TA} (C : OwnA X.prog X.w X.K X.mg X.base CX k x ps dvs sp) (hr : Room k X.A) (hg : Gl X x) (hx : Passes CX X E) (ha : PA X (e :: es) t)
    (hdb : (x == ("__debug__" : Str)) = false := by decide) (he : starEach (e :: es) X.env = (false, eval e X.env) :: starEach es X.env := by rfl) (hpl : (backTo pos (starEach es X.env)).any (·.1) = false := by rfl) :
    PE X (.Call (.Name x p) (e :: es) [] pos) (tCall sp dvs E t) := by
  obtain ⟨f, fd, ds, F, hm, hk, hb, hv⟩ := C.ex
  exact ⟨fun pins s σ H Q I h => (pe_call F hr hg hm hk hb hv hx ha hdb he hpl).run pins s σ H Q I h⟩
/-- a property -/
structure Prp (P : Program) (w : World) (K : PySem.W.Frag) (mg : Str → Option Value) (base : Heap) (CX : CXT) (k : Nat) (C : Addr) (x : Str) (sp : Sp) : Prop where
  ex : ∃ p g fd, PropOf K C x p g ∧ FnOk P w K mg base CX k g fd ["self"] sp ∧ Binds K fd ["self"] []
  cl : Cls K C
theorem pe_pr {CX : CXT} {k : Nat} {C : Addr} {x : Str} {sp : Sp} {E : XK} {e : Expr} {pos : Pos} (R : Prp X.prog X.w X.K X.mg X.base CX k C x sp) (hr : Room (k + 1) X.A) (hx : Passes CX X.nox E) (he : PE X e ta) (hb : attributeBase e x X.env (eval e X.env) = eval e X.env := by rfl) :
    PE X (.Attribute e x pos) (tProp C sp [] E ta) := by
  obtain ⟨p, g, fd, hp, F, hd⟩ := R.ex
  exact ⟨fun pins s σ H Q I h => (pe_prop he R.cl hp F hr hd .nil hx hb).run pins s σ H Q I h⟩
def InsW (C : Addr) (x : V) (H : Hp) (A : Prop) : Prop := ∃ a dx fs, x = .ref a ∧ H a = some (.ins C dx fs) ∧ A
end
end Ys
namespace Ys
open PySem PySem.Spec PyProof.Rows L2
section
variable {X : Cx} {K : PySem.W.Frag} {P : Program} {w : World} {G G1 H : Hp} {M M1 : List (Addr × HO)} {σ : L2.St} {Q : VK} {QB : Bool → Hp → Prop} {QA : List V → Hp → Prop} {D : Ends} {ta te tb tv : TE} {t tk : TA} {A B : Prop} {v x y : V} {i j : Int} {a b p : Addr} {xs ys vs zs : List V} {o : HO} {d : PyData}
variable {CX : CXT} {k n m : Nat} {C dx : Addr} {nm f : Str} {ps ks : List Str} {dvs : List V} {sp : Sp} {E : XK} {fs : List (Str × V)} {gV : List V → List V → List V}
/-- a method -/
structure Mth (P : Program) (w : World) (K : PySem.W.Frag) (mg : Str → Option Value) (base : Heap) (CX : CXT) (k : Nat) (C : Addr) (m : Str) (ps : List Str) (dvs : List V) (sp : Sp) : Prop where
  ex : ∃ f fd ds, Meth K C m f ∧ FnOk P w K mg base CX k f fd ps sp ∧ Binds K fd ps ds ∧ Vals dvs ds
  cl : Cls K C
theorem pe_mt0 {m : Str} {e : Expr} {pos apos : Pos} {pl : Sem Bool} (R : Mth X.prog X.w X.K X.mg X.base CX k C m ps dvs sp) (hr : Room k X.A) (hx : Passes CX X E) (he : PE X e ta)
    (ht : eval (.Call (.Attribute e m apos) [] [] pos) X.env = (do
      let ov ← eval e X.env
      standAt apos.atName
      let (f, first) ← holding [ov] (getMethod ov m pl)
      callWith pos f first (backTo pos (starEach [] X.env)) (backToKw pos (keywordEach [] X.env))) := by rfl) : PE X (.Call (.Attribute e m apos) [] [] pos) (tMeth C m sp dvs E ta tNil) := by
  obtain ⟨f, fd, ds, hm, F, hb, hv⟩ := R.ex
  exact ⟨fun pins s σ H Q I h => (pe_meth0 he R.cl hm F hr hb hv hx ht).run pins s σ H Q I h⟩
theorem pe_mt {m : Str} {e e1 : Expr} {es : List Expr} {pos apos : Pos} {pl : Sem Bool} (R : Mth X.prog X.w X.K X.mg X.base CX k C m ps dvs sp) (hr : Room k X.A) (hx : Passes CX X E) (he : PE X e ta) (ha : PA X (e1 :: es) t)
    (hst : starEach (e1 :: es) X.env = (false, eval e1 X.env) :: starEach es X.env := by rfl) (hpl : (backTo pos (starEach es X.env)).any (·.1) = false := by rfl)
    (ht : eval (.Call (.Attribute e m apos) (e1 :: es) [] pos) X.env = (do
      let ov ← eval e X.env
      standAt apos.atName
      let (f, first) ← holding [ov] (getMethod ov m pl)
      callWith pos f first (backTo pos (starEach (e1 :: es) X.env)) (backToKw pos (keywordEach [] X.env))) := by rfl) : PE X (.Call (.Attribute e m apos) (e1 :: es) [] pos) (tMeth C m sp dvs E ta t) := by
  obtain ⟨f, fd, ds, hm, F, hb, hv⟩ := R.ex
  exact ⟨fun pins s σ H Q I h => (pe_meth he R.cl hm F hr hb hv hx ha hst hpl ht).run pins s σ H Q I h⟩
/-- how a class is made with n values and these keywords -/
structure MkS (P : Program) (w : World) (K : PySem.W.Frag) (mg : Str → Option Value) (base : Heap) (CX : CXT) (k : Nat) (C : Addr) (x : Str) (n : Nat) (ks : List Str) (gV : List V → List V → List V) (sp : Sp) : Prop where
  ex : ∃ f fd ps g, Mk K C f ∧ FnOk P w K mg base CX k f fd ps sp ∧ mg x = some (.ref C) ∧ KBn K fd ps (n + 1) ks g gV
theorem pe_mk0 {x : Str} {p pos : Pos} {kws : List Keyword} (R : MkS X.prog X.w X.K X.mg X.base CX k C x 0 ks gV sp) (hr : Room (k + 1) X.A) (hg : Gl X x) (hx : Passes CX X E) (hkw : PK X kws tk)
    (hall : (backToKw pos (keywordEach kws X.env)).all (·.1.isSome) = true := by rfl) (hks : (backToKw pos (keywordEach kws X.env)).filterMap (·.1) = ks := by rfl) (hdb : (x == ("__debug__" : Str)) = false := by decide)
    (hpl : ((backTo pos (starEach [] X.env)).any (·.1) || (backToKw pos (keywordEach kws X.env)).any (·.1.isNone)) = false := by rfl) :
    PE X (.Call (.Name x p) [] kws pos) (tMakeK C 0 ks.length sp gV E tNil tk) := by
  obtain ⟨f, fd, ps, g, hm, F, hmg, hb⟩ := R.ex
  exact ⟨fun pins s σ H Q I h => (pe_makeK0 hm F hr hg hmg hb hx hkw hall hks hdb hpl).run pins s σ H Q I h⟩
theorem pe_mk {x : Str} {p pos : Pos} {kws : List Keyword} {e : Expr} {es : List Expr} (R : MkS X.prog X.w X.K X.mg X.base CX k C x n ks gV sp) (hr : Room (k + 1) X.A) (hg : Gl X x) (hx : Passes CX X E) (ha : PA X (e :: es) t) (hkw : PK X kws tk)
    (hall : (backToKw pos (keywordEach kws X.env)).all (·.1.isSome) = true := by rfl) (hks : (backToKw pos (keywordEach kws X.env)).filterMap (·.1) = ks := by rfl) (hdb : (x == ("__debug__" : Str)) = false := by decide)
    (he : starEach (e :: es) X.env = (false, eval e X.env) :: starEach es X.env := by rfl) (hpl : ((backTo pos (starEach (e :: es) X.env)).any (·.1) || (backToKw pos (keywordEach kws X.env)).any (·.1.isNone)) = false := by rfl) :
    PE X (.Call (.Name x p) (e :: es) kws pos) (tMakeK C n ks.length sp gV E t tk) := by
  obtain ⟨f, fd, ps, g, hm, F, hmg, hb⟩ := R.ex
  exact ⟨fun pins s σ H Q I h => (pe_makeK hm F hr hg hmg hb hx ha hkw hall hks hdb he hpl).run pins s σ H Q I h⟩
/-! the steps -/
def PrW (C : Addr) (sp : Sp) (dvs : List V) (E : XK) (x : V) (H : Hp) (Q : VK) : Prop := ∃ a dx fs, x = .ref a ∧ H a = some (.ins C dx fs) ∧ sp (.ref a :: dvs) H Q E
theorem z_prop (h : ta σ H fun x H1 => PrW C sp dvs E x H1 Q) : tProp C sp dvs E ta σ H Q := h
theorem z_prI (z : Zp G M H) (h : G a = some (.ins C dx fs)) (q : sp (.ref a :: dvs) H Q E) : PrW C sp dvs E (.ref a) H Q := ⟨a, dx, fs, rfl, z.sub _ _ h, q⟩
def MtW (C : Addr) (f : Str) (x : V) (H : Hp) (A : Prop) : Prop := ∃ a dx fs, x = .ref a ∧ H a = some (.ins C dx fs) ∧ fs.lookup f = none ∧ A
theorem z_mt (h : ta σ H fun x H1 => MtW C f x H1 (t σ H1 fun vs H2 => sp (x :: (vs ++ dvs)) H2 Q E)) : tMeth C f sp dvs E ta t σ H Q := h
theorem z_mtI (z : Zp G M H) (h : G a = some (.ins C dx fs)) (l : fs.lookup f = none) (q : A) : MtW C f (.ref a) H A := ⟨a, dx, fs, rfl, z.sub _ _ h, l, q⟩
def MkW (C : Addr) (n m : Nat) (sp : Sp) (gV : List V → List V → List V) (E : XK) (vs zs : List V) (H2 : Hp) (Q : VK) : Prop := vs.length = n ∧ zs.length = m ∧ ∀ x dx, H2 x = none → H2 dx = none → dx ≠ x →
  sp (gV (.ref x :: vs) zs) (upd (upd H2 dx (.own x)) x (.ins C dx [])) (fun v H3 => v = .non ∧ Q (.ref x) H3) E
theorem z_mk (h : t σ H fun vs H1 => tk σ H1 fun zs H2 => MkW C n m sp gV E vs zs H2 Q) : tMakeK C n m sp gV E t tk σ H Q := h
theorem z_mkI (z : Zp G M H) (l1 : vs.length = n) (l2 : zs.length = m) (q : ∀ x dx H1, Zp (upd G dx (.own x)) (M ++ [(x, .ins C dx [])]) H1 → Same G (upd G dx (.own x)) → sp (gV (.ref x :: vs) zs) H1 (fun v H3 => v = .non ∧ Q (.ref x) H3) E) : MkW C n m sp gV E vs zs H Q :=
  ⟨l1, l2, fun x dx hx hd ne => q x dx _ ((z.new hd _).add (by rw [upd_ne (Ne.symm ne)]; exact hx) _) (Same.new (z.free hd))⟩
def FlW (K : PySem.W.Frag) (f : Str) (x : V) (H : Hp) (Q : VK) : Prop := ∃ a C dx fs v, x = .ref a ∧ H a = some (.ins C dx fs) ∧ Cls K C ∧ NoAttr K C f ∧ fs.lookup f = some v ∧ Q v H
theorem z_fl (h : ta σ H fun x H1 => FlW K f x H1 Q) : tFld K ta f σ H Q := h
theorem z_flI (z : Zp G M H) (h : G a = some (.ins C dx fs)) (c : Cls K C) (n : NoAttr K C f) (l : fs.lookup f = some v) (q : Q v H) : FlW K f (.ref a) H Q := ⟨a, C, dx, fs, v, rfl, z.sub _ _ h, c, n, l, q⟩
def FsW (K : PySem.W.Frag) (f : Str) (x y : V) (H2 : Hp) (R : Hp → Prop) : Prop := ∃ a C dx fs, x = .ref a ∧ H2 a = some (.ins C dx fs) ∧ Cls K C ∧ NoAttr K C f ∧ fs.length < 1000 ∧ R (upd H2 a (.ins C dx (putF f y fs)))
theorem z_fs (h : tv σ H fun y H1 => ta σ H1 fun x H2 => FsW K f x y H2 (D.nx σ)) : sFld K ta tv f D σ H := h
theorem z_fsI {R : Hp → Prop} (z : Zp G M H) (i : Nat) (e : M[i]? = some (a, .ins C dx fs)) (c : Cls K C) (n : NoAttr K C f) (l : fs.length < 1000) (q : ∀ H1, Zp G (M.set i (a, .ins C dx (putF f y fs))) H1 → R H1) : FsW K f (.ref a) y H R :=
  ⟨a, C, dx, fs, rfl, z.at_ i e, c, n, l, q _ (z.put i e _)⟩
theorem z_nN (q : Q (.bl (!decide (x = .non))) H) : rNotNon x .non H Q := ⟨rfl, q⟩
theorem z_iN (q : Q (.bl (decide (x = .non))) H) : rIsNon x .non H Q := ⟨rfl, q⟩
theorem z_itLH {R : It → Hp → Prop} (h : SqL K H a xs) (q : R (Itl K a) H) : ItL K (.ref a) H R := ⟨a, rfl, ⟨xs, h⟩, q⟩
theorem z_itTH {R : It → Hp → Prop} (h : SqT K H a xs) (q : R (Itt K a) H) : ItT K (.ref a) H R := ⟨a, rfl, ⟨xs, h⟩, q⟩
theorem z_lenH (h : SqL K H a xs ∨ SqT K H a xs) (q : Q (.int xs.length) H) : rLenG K P w [.ref a] H Q := h.elim (fun h => .inl ⟨_, _, rfl, .inl ⟨xs, h, rfl⟩, q⟩) fun h => .inl ⟨_, _, rfl, .inr ⟨xs, h, rfl⟩, q⟩
theorem z_setH {ss : List Str} (z : Zp G M H) (h : SqL K H a (ss.map V.str) ∨ SqT K H a (ss.map V.str)) (hl : ss.length < 1000)
    (q : ∀ p l G1 H1, Zp G1 M H1 → Same G G1 → G1 p = some (TxO P w p l) → (∀ x, x ∈ l ↔ x ∈ ss) → l.Nodup → l.length ≤ ss.length → Q (.ref p) H1) : rSetTx K P w [.ref a] H Q :=
  ⟨a, ss, rfl, h, hl, fun p l m nd len hp => q p l _ _ (z.new hp _) (Same.new (z.free hp)) upd_same m nd len⟩
theorem z_tI {R : It → Hp → Prop} (h : te σ H fun x H1 => ItT K x H1 R) : iTup K te σ H R := h
theorem z_fsL {R : Hp → Prop} (z : Zp G (M ++ [(a, .ins C dx fs)]) H) (c : Cls K C) (n : NoAttr K C f) (l : fs.length < 1000) (q : ∀ H1, Zp G (M ++ [(a, .ins C dx (putF f y fs))]) H1 → R H1) : FsW K f (.ref a) y H R := by
  refine z_fsI z M.length last_at c n l fun H1 z1 => q H1 ?_
  rw [List.set_append_right _ _ (Nat.le_refl _), Nat.sub_self] at z1
  exact z1
theorem putF_lt {n : Nat} : ∀ {fs : List (Str × V)}, fs.length < n → (putF f y fs).length < n + 1
  | [], h => by show 1 < n + 1; have : 0 < n := h; omega
  | (g, v) :: r, h => by
    unfold putF
    split
    · exact Nat.lt_succ_of_lt h
    · have h' : r.length + 1 < n := h
      cases n with
      | zero => omega
      | succ n =>
        have := putF_lt (n := n) (fs := r) (by omega)
        show (putF f y r).length + 1 < n + 1 + 1
        omega
def ItR2 (vs : List V) (H : Hp) (R : It → Hp → Prop) : Prop := ∃ i j : Int, vs = [.int i, .int j] ∧ (-(2 ^ 62) ≤ i ∧ i < 2 ^ 62 ∧ -(2 ^ 62) ≤ j ∧ j < 2 ^ 62) ∧ R (Itr i (j - i).toNat) H
theorem z_iR2 {R : It → Hp → Prop} (h : t σ H fun vs H1 => ItR2 vs H1 R) : iRng2 t σ H R := h
theorem z_itR2 {R : It → Hp → Prop} (h : -(2 ^ 62) ≤ i ∧ i < 2 ^ 62 ∧ -(2 ^ 62) ≤ j ∧ j < 2 ^ 62) (q : R (Itr i (j - i).toNat) H) : ItR2 [.int i, .int j] H R := ⟨i, j, rfl, h, q⟩
theorem z_gsub {ti : TE} {ts : TSet} {R : L2.St → Hp → Prop} (h : ta σ H fun o H1 => ti σ H1 fun i H2 => ts o i v H2 fun H3 => R σ H3) : gSub ta ti ts v σ H R := h
theorem z_slO {lo hi : Option Int} (z : Zp G M H) (k : Nat) (e : M[k]? = some (a, .lst xs)) (q : ∀ p G1 H1, Zp G1 M H1 → Same G G1 → G1 p = some (.lst (cutV xs lo hi)) → Q (.ref p) H1) : rSlG K (.ref a) lo hi H Q :=
  .inl ⟨a, xs, rfl, SqL.of (z.at_ k e), fun p hp => q p _ _ (z.new hp _) (Same.new (z.free hp)) upd_same⟩
theorem z_setO {R : Hp → Prop} {j : Nat} (z : Zp G M H) (k : Nat) (e : M[k]? = some (a, .lst xs)) (hj : ixN xs.length i = some j) (q : ∀ H1, Zp G (M.set k (a, .lst (xs.set j v))) H1 → R H1) : rSetL (.ref a) (.int i) v H R :=
  ⟨a, xs, i, j, rfl, rfl, z.at_ k e, hj, q _ (z.put k e _)⟩
theorem Dts.snoc : ∀ {xs : List V} {ds : List PyData} {x : V} {d : PyData}, Dts K G xs ds → Dt K G x d → Dts K G (xs ++ [x]) (ds ++ [d])
  | _, _, _, _, .nil, h => .cons h .nil
  | _, _, _, _, .cons a b, h => .cons a (Dts.snoc b h)
theorem Dts.set : ∀ {xs : List V} {ds : List PyData} {x : V} {d : PyData} (j : Nat), Dts K G xs ds → Dt K G x d → Dts K G (xs.set j x) (ds.set j d)
  | _, _, _, _, _, .nil, _ => .nil
  | _, _, _, _, 0, .cons a b, h => .cons h b
  | _, _, _, _, j + 1, .cons a b, h => .cons a (Dts.set j b h)
theorem perm_strs {ys : List V} {ss : List Str} (h : ys.Perm (ss.map V.str)) : ∃ ts : List Str, ys = ts.map V.str ∧ ts.Perm ss := by
  let un : V → Str := fun v => match v with | .str s => s | _ => ""
  have e : (ss.map V.str).map un = ss := by rw [List.map_map]; exact List.map_id'' (fun _ => rfl) ss
  refine ⟨ys.map un, ?_, ?_⟩
  · rw [List.map_map]
    have : ∀ v ∈ ys, (V.str ∘ un) v = v := fun v hv => by
      obtain ⟨s, _, rfl⟩ := List.mem_map.mp (h.mem_iff.mp hv)
      rfl
    rw [List.map_congr_left this]
    exact (List.map_id ys).symm
  · have := h.map un
    rw [e] at this
    exact this
/-! chains -/
theorem z_chain {r r' : R2} {tc : TE} (h : ta σ H fun x H1 => tb σ H1 fun y H2 => r x y H2 fun z H3 => IsB z H3 fun k H3 => Bif k (tc σ H3 fun w' H4 => r' y w' H4 Q) (Q (.bl false) H3)) : tChain r r' ta tb tc σ H Q := h
theorem z_inS {c : Nat} {z : Str} (q : Q (.bl (decide (c ∈ z.cps.toList))) H) : rInG K false (.str ⟨#[c]⟩) (.str z) H Q := .inl ⟨c, z, rfl, rfl, by simpa using q⟩
theorem z_eqI {sp : Sp} {t : Value} (z : Zp G M H) (h : G a = some (.ins C dx fs)) (ty : TyX K H y t) (nf : PySem.W.notFirst K C t = true) (q : sp [.ref a, y] H (fun v H' => ∃ b, v = .bl b ∧ Q (.bl b) H') E) : rEqI K C sp E (.ref a) y H Q :=
  ⟨a, dx, fs, t, rfl, z.sub _ _ h, ty, nf, q⟩
theorem z_neI {sp : Sp} {t : Value} (z : Zp G M H) (h : G a = some (.ins C dx fs)) (ty : TyX K H y t) (nf : PySem.W.notFirst K C t = true) (q : sp [.ref a, y] H (fun v H' => ∃ b, v = .bl b ∧ Q (.bl (!b)) H') E) : rNeI K C sp E (.ref a) y H Q :=
  ⟨a, dx, fs, t, rfl, z.sub _ _ h, ty, nf, q⟩
end
end Ys
namespace Ys
open PySem PySem.Spec PyProof.Rows L2
/-! the rules with the written part told -/
section
variable {X : Cx} {K : PySem.W.Frag} {P : Program} {w : World}
theorem k_add (e : X.K = K := by rfl) : OpR X (binaryOp .Add) (rAddG K) := e ▸ op_addG
theorem k_eq (hu : X.A.units + 64 < cLine) (e : X.K = K := by rfl) : OpR X (compareOp .Eq) (rEqG K) := e ▸ op_eqG hu
theorem k_ne (hu : X.A.units + 64 < cLine) (e : X.K = K := by rfl) : OpR X (compareOp .NotEq) (rNeG K) := e ▸ op_neG hu
theorem k_in (e : X.K = K := by rfl) : OpR X (compareOp .In) (rInG K false) := e ▸ o_in
theorem k_notIn (e : X.K = K := by rfl) : OpR X (compareOp .NotIn) (rInG K true) := e ▸ o_notIn
theorem k_sl (e : X.K = K := by rfl) : SlR X (rSlG K) := e ▸ sl_any
theorem kc_len (e : X.K = K := by rfl) (e1 : X.prog = P := by rfl) (e2 : X.w = w := by rfl) : CallR X (.builtin "len") (rLenG K P w) := by subst e; subst e1; subst e2; exact c_len
theorem kc_list (e : X.K = K := by rfl) : CallR X (.type "list") (rListG K) := e ▸ c_list
theorem kc_tuple (e : X.K = K := by rfl) : CallR X (.type "tuple") (rTupG K) := e ▸ c_tuple
theorem kc_all (hc : X.calm = true) (e : X.K = K := by rfl) : CallR X (.builtin "all") (rAllG K) := e ▸ c_all hc
theorem kc_sorted (hc : X.calm = true) (e : X.K = K := by rfl) (e1 : X.prog = P := by rfl) (e2 : X.w = w := by rfl) : CallR X (.builtin "sorted") (rSortG K P w) := by subst e; subst e1; subst e2; exact c_sorted hc
theorem kc_set (hc : X.calm = true) (e : X.K = K := by rfl) (e1 : X.prog = P := by rfl) (e2 : X.w = w := by rfl) : CallR X (.type "set") (rSetTx K P w) := by subst e; subst e1; subst e2; exact cr_setTx hc
theorem kc_repr (hg : X.A.guards = some []) (S : SysIn X.K) (hu : X.A.units + 64 < cLine) (e : X.K = K := by rfl) : CallR X (.builtin "repr") (rRepr K) := e ▸ cr_repr hg S hu
theorem kc_isi (e : X.K = K := by rfl) : CallR X (.builtin "isinstance") (rIsiG K) := e ▸ c_isi
theorem k_any {tg e : Expr} {te : TE} (h : PE X e te) (q : X.K = K := by rfl) : PI X tg e (iAny K te) := q ▸ pi_any h
theorem k_ix (e : X.K = K := by rfl) : IxR X (rIx K) := e ▸ ix_seq
theorem k_fld {o : Expr} {f : Str} {pos : Pos} {ta : TE} (h : PE X o ta) (hb : attributeBase o f X.env (eval o X.env) = eval o X.env) (e : X.K = K := by rfl) : PE X (.Attribute o f pos) (tFld K ta f) := e ▸ pe_fld h hb
theorem kg_tup {es : List Expr} {k : Nat} {t : TGs} {n : Nat} {pos : Pos} (hc : X.calm = true) (h : PGs X es t) (e : X.K = K := by rfl)
    (hn : (assignEach es X.env).length = n := by rfl) (hst : (assignEach es X.env).findIdx? (·.1) = none := by rfl) : PG X (.Tuple es k pos) (gTup K n t) := e ▸ pg_tup hc h hn hst
theorem kg_unl {es : List Expr} {k : Nat} {t : TGs} {n : Nat} {pos : Pos} (hc : X.calm = true) (h : PGs X es t) (e : X.K = K := by rfl)
    (hn : (assignEach es X.env).length = n := by rfl) (hst : (assignEach es X.env).findIdx? (·.1) = none := by rfl) : PG X (.Tuple es k pos) (gUnl K n t) := e ▸ pg_unl hc h hn hst
theorem k_tup {tg e : Expr} {te : TE} (h : PE X e te) (q : X.K = K := by rfl) : PI X tg e (iTup K te) := q ▸ pi_tup h
end
end Ys
namespace Ys
open PySem PySem.Spec PyProof.Rows L2
/-! ### defs that stand anywhere -/
structure DefY where
  ad : PySem.W.Frag → Addr
  name : Str
  qual : Str
  params : Arguments
  body : List Stmt
  scope : Scope
  dfl : List He.Dv := []
  kwd : List (Str × He.Dv) := []
def fnY (K : PySem.W.Frag) (a : Addr) : He.FnW := (K.lookup a).bind fun o => match o.data with
  | .func fd => some (fd.name, fd.qualname, fd.params, fd.body, fd.scope, fd.globals, fd.closure, fd.builtins)
  | _ => none
def DefY.val (d : DefY) : He.FnW := some (d.name, d.qual, d.params, .stmts d.body, d.scope, mainGlobals, [], builtinsNs)
def DefY.dvs (K : PySem.W.Frag) (d : DefY) : List V := d.dfl.map (He.Dv.v K)
def DefY.kws (K : PySem.W.Frag) (d : DefY) : List (Str × V) := d.kwd.map fun q => (q.1, q.2.v K)
def DefY.ok (K : PySem.W.Frag) (d : DefY) : Bool := PySem.W.keepIn K (.ref (d.ad K)) && ((K.lookup (d.ad K)).elim false fun o => match o.data with
  | .func fd => PySem.W.codeIn K fd.code d.qual && (He.dflB K fd.defaults (d.dvs K) && He.kwdB K fd.kwdefaults (d.kws K))
  | _ => false)
theorem DefY.funD {K : PySem.W.Frag} {d : DefY} (e : fnY K (d.ad K) = d.val) (c : d.ok K = true) : ∃ fd, FunD K d.name d.qual d.params d.body d.scope (d.dvs K) (d.kws K) (d.ad K) fd := by
  obtain ⟨kp, c2⟩ := Bool.and_eq_true_iff.mp c
  cases hq : K.lookup (d.ad K) with
  | none => rw [hq] at c2; exact absurd c2 (by simp)
  | some ob =>
    rw [hq] at c2
    unfold fnY at e
    rw [hq] at e
    obtain ⟨o1, o2, o3, o4⟩ := ob
    cases o3 with
    | func g =>
      obtain ⟨g1, g2, g3, g4, g5, g6, g7, g8, g9, g10, g11, g12, g13, g14, g15⟩ := g
      obtain ⟨i1, i2, i3, i4, i5, i6, i7, i8⟩ : g1 = d.name ∧ g2 = d.qual ∧ g3 = d.params ∧ g4 = .stmts d.body ∧ g5 = d.scope ∧ g6 = mainGlobals ∧ g7 = [] ∧ g15 = builtinsNs := by
        have e' : (some (g1, g2, g3, g4, g5, g6, g7, g15) : He.FnW) = some (d.name, d.qual, d.params, .stmts d.body, d.scope, mainGlobals, [], builtinsNs) := e
        simpa only [Option.some.injEq, Prod.mk.injEq] using e'
      subst i1 i2 i3 i4 i5 i6 i7 i8
      obtain ⟨j1, j2⟩ := Bool.and_eq_true_iff.mp (show (PySem.W.codeIn K g13 d.qual && (He.dflB K g8 (d.dvs K) && He.kwdB K g9 (d.kws K))) = true from c2)
      obtain ⟨j3, j4⟩ := Bool.and_eq_true_iff.mp j2
      exact ⟨_, ⟨o1, o2, g8, g9, g10, g11, g12, g13, g14, o4, rfl, hq, j1, He.dflB_ok j3, He.kwdB_ok j4⟩, kp⟩
    | _ => exact absurd c2 (by simp)
/-! ### the Hook over facts of any kind -/
def obsZ (fb : List (PySem.W.Frag → Bool)) (fn : List DefY) (K : PySem.W.Frag) : He.AlD := ((fb.all fun f => f K) && fn.all fun d => d.ok K, fn.map fun d => fnY K (d.ad K))
def valZ (fn : List DefY) : He.AlD := (true, fn.map DefY.val)
def SaysZ (fb : List (PySem.W.Frag → Bool)) (fn : List DefY) (K : PySem.W.Frag) : Prop := obsZ fb fn K = valZ fn
def frZ (n : Nat) (g : Addr → Option Obj) : PySem.W.Frag := He.frG g (sysModules :: He.asD g n)
def hookZ (n : Nat) (fb : List (PySem.W.Frag → Bool)) (fn : List DefY) : PySem.W.Hook where
  α := He.AlD
  obs := fun s => obsZ fb fn (frZ n s.heap.get?)
  val := fun _ => valZ fn
  says := fun _ h => ∃ K : PySem.W.Frag, K.In h ∧ SaysZ fb fn K
  of := fun _ _ e => ⟨_, He.frG_in, e⟩
  keeps := fun _ _ _ ⟨K, hK, c⟩ k => ⟨K, PySem.W.Frag.In.keeps hK k, c⟩
def obZ (n : Nat) (fb : List (PySem.W.Frag → Bool)) (fn : List DefY) (s : PySem.W.SharedT) : He.AlD := obsZ fb fn (frZ n (HandSHeadRun.getT s))
theorem obZ_eq {n : Nat} {fb : List (PySem.W.Frag → Bool)} {fn : List DefY} (s : PySem.W.SharedT) : obZ n fb fn s = (hookZ n fb fn).obs s.abs := by
  unfold obZ
  rw [show HandSHeadRun.getT s = s.abs.heap.get? from funext (HandSHeadRun.getT_eq s)]
  rfl
section
variable {fb : List (PySem.W.Frag → Bool)} {fn : List DefY} {K : PySem.W.Frag}
theorem SaysZ.at_ (c : SaysZ fb fn K) (i : Nat) {f : PySem.W.Frag → Bool} (h : fb[i]? = some f := by rfl) : f K = true := by
  have h1 : ((fb.all fun f => f K) && fn.all fun d => d.ok K) = true := congrArg Prod.fst c
  exact List.all_eq_true.mp (Bool.and_eq_true_iff.mp h1).1 f (List.mem_of_getElem? h)
theorem SaysZ.def_ (c : SaysZ fb fn K) (i : Nat) {d : DefY} (h : fn[i]? = some d := by rfl) : ∃ fd, FunD K d.name d.qual d.params d.body d.scope (d.dvs K) (d.kws K) (d.ad K) fd := by
  have h1 : ((fb.all fun f => f K) && fn.all fun d => d.ok K) = true := congrArg Prod.fst c
  have h2 : (fn.map fun d => fnY K (d.ad K)) = fn.map DefY.val := congrArg Prod.snd c
  refine DefY.funD ?_ (List.all_eq_true.mp (Bool.and_eq_true_iff.mp h1).2 d (List.mem_of_getElem? h))
  have h3 := congrArg (fun l : List He.FnW => l[i]?) h2
  simp only [List.getElem?_map, h, Option.map_some] at h3
  exact Option.some.inj h3
end
/-! ### facts -/
def gA (x : Str) (K : PySem.W.Frag) : Addr := He.ga K x
/-- what the class x has by the name m -/
def cA (x m : Str) (K : PySem.W.Frag) : Addr := He.ma K (He.ga K x) m
/-- the getter of the property m of the class x -/
def pA (x m : Str) (K : PySem.W.Frag) : Addr := match PySem.W.recIn K (cA x m K) "property" with
  | some (.ref g :: _) => g
  | _ => 0
/-- the value of the keyword-only parameter m of the method f of the class x -/
def kA (x f m : Str) (K : PySem.W.Frag) : Addr := match K.lookup (cA x f K) with
  | some ⟨_, _, .func fd, _⟩ => (match fd.kwdefaults with
    | .ref D => (match PySem.W.nsIn K D m with
      | some (some (.ref a)) => a
      | _ => 0)
    | _ => 0)
  | _ => 0
def fProp (x m : Str) (K : PySem.W.Frag) : Bool := decide (PySem.W.findIn K (.ref (He.ga K x)) m = some (some (.ref (cA x m K)))) && (decide (PySem.W.specialIn K (.ref (cA x m K)) "__get__" = some (some (.builtin "property.__get__"))) &&
  (decide (PySem.W.takesIn K (.ref (cA x m K)) = some true) && (match PySem.W.recIn K (cA x m K) "property" with
    | some (.ref g :: _) => decide (g = pA x m K)
    | _ => false)))
theorem fProp_ok {x m : Str} {K : PySem.W.Frag} (h : fProp x m K = true) : PropOf K (He.ga K x) m (cA x m K) (pA x m K) := by
  obtain ⟨h1, h⟩ := Bool.and_eq_true_iff.mp h
  obtain ⟨h2, h⟩ := Bool.and_eq_true_iff.mp h
  obtain ⟨h3, h4⟩ := Bool.and_eq_true_iff.mp h
  refine ⟨of_decide_eq_true h1, of_decide_eq_true h2, of_decide_eq_true h3, ?_⟩
  cases q : PySem.W.recIn K (cA x m K) "property" with
  | none => rw [q] at h4; cases h4
  | some l =>
    rw [q] at h4
    cases l with
    | nil => cases h4
    | cons v r =>
      cases v with
      | ref g => exact ⟨r, by rw [of_decide_eq_true h4]⟩
      | _ => cases h4
/-- the class x is a plain class whose instances tell their type -/
def fTy (x : Str) (K : PySem.W.Frag) : Bool := decide (PySem.W.findIn K (.ref (He.ga K x)) "__class__" = some (some (.builtin "object.__class__"))) && (decide (PySem.W.specialIn K (.builtin "object.__class__") "__get__" = some (some (.builtin "getset_descriptor.__get__"))) &&
  (decide (PySem.W.takesIn K (.builtin "object.__class__") = some true) && (decide (PySem.W.mroIn K (He.ga K x) (.type "object") = some true) && ((PySem.W.clsIn K (He.ga K x)).isSome && PySem.W.typeIn K (.ref (He.ga K x)) == some (.type "type")))))
def fNe (x : Str) (K : PySem.W.Frag) : Bool := decide (PySem.W.findIn K (.ref (He.ga K x)) "__ne__" = some (some (.builtin "object.__ne__")))
/-- an empty tuple stands at a -/
def fNil (a : PySem.W.Frag → Addr) (K : PySem.W.Frag) : Bool := match K.lookup (a K) with
  | some ⟨.type c, _, .seq its _, _⟩ => decide (c = "tuple") && decide (its.size = 0)
  | _ => false
theorem fNil_ok {a : PySem.W.Frag → Addr} {K : PySem.W.Frag} (h : fNil a K = true) (G : Hp) : SqT K G (a K) [] := by
  unfold fNil at h
  cases q : K.lookup (a K) with
  | none => rw [q] at h; cases h
  | some ob =>
    rw [q] at h
    obtain ⟨o1, o2, o3, o4⟩ := ob
    cases o1 with
    | type c =>
      cases o3 with
      | seq its n =>
        obtain ⟨h1, h2⟩ := Bool.and_eq_true_iff.mp (show (decide (c = "tuple") && decide (its.size = 0)) = true from h)
        have hz := of_decide_eq_true h2
        have he : its.toList = [] := by
          apply List.eq_nil_of_length_eq_zero
          rw [Array.length_toList]
          exact hz
        exact .inr ⟨_, its, n, q, congrArg Value.type (of_decide_eq_true h1), rfl, by rw [hz]; exact Nat.zero_le _, by rw [he]; exact .nil⟩
      | _ => cases h
    | _ => cases o3 <;> cases h
end Ys
namespace LW
open PySem PySem.Spec PyProof.Rows L2 Ys
abbrev P0 : Program := PySem.Challenge.pw_fewhands_k04_tasks_made
def top (i : Nat) : Stmt := P0.main.body.getD i (.Pass ⟨0, 0, 0, 0⟩)
/-! ### names -/
structure Nm (K : PySem.W.Frag) (mg : Str → Option Value) : Prop where
  sys : SysIn K
  b_len : mg "len" = none
  b_int : mg "int" = none
  b_list : mg "list" = none
  b_tuple : mg "tuple" = none
  b_set : mg "set" = none
  b_dict : mg "dict" = none
  b_str : mg "str" = none
  b_bool : mg "bool" = none
  b_sorted : mg "sorted" = none
  b_min : mg "min" = none
  b_max : mg "max" = none
  b_sum : mg "sum" = none
  b_all : mg "all" = none
  b_any : mg "any" = none
  b_repr : mg "repr" = none
  b_range : mg "range" = none
  b_isinstance : mg "isinstance" = none
  g_LETTERS : GC mg "LETTERS" (.str "abcdefghijklmnopqrstuvwxyz")
  g_LONGEST_WORD : GC mg "LONGEST_WORD" (.int 8)
  g_MANY : GC mg "MANY" (.int 3)
abbrev FnP (K : PySem.W.Frag) (x : Str) (st : Stmt) (f : Addr) (fd : FuncData) : Prop := FunD K x x (defArgs st) (defBody st) (defScope st) [] [] f fd
def inner : Stmt → Nat → Stmt
  | .ClassDef _ _ _ body _ _ _ _ _ _ _, j => (body.filter fun y => match y with | .FunctionDef .. => true | _ => false).getD j (.Pass ⟨0, 0, 0, 0⟩)
  | s, _ => s
/-! ### the defs -/
abbrev s_is_word : Stmt := top 6
abbrev N_is_word : List Str := ["value", "letter"]
theorem sc_is_word : FnScope N_is_word ["value"] (defScope s_is_word) := ⟨rfl, rfl, rfl, by decide +kernel, rfl, by decide +kernel, by decide +kernel⟩
abbrev s_is_integer : Stmt := top 7
abbrev N_is_integer : List Str := ["value"]
theorem sc_is_integer : FnScope N_is_integer ["value"] (defScope s_is_integer) := ⟨rfl, rfl, rfl, by decide +kernel, rfl, by decide +kernel, by decide +kernel⟩
abbrev s_is_within : Stmt := top 8
abbrev N_is_within : List Str := ["value", "least", "most"]
theorem sc_is_within : FnScope N_is_within ["value", "least", "most"] (defScope s_is_within) := ⟨rfl, rfl, rfl, by decide +kernel, rfl, by decide +kernel, by decide +kernel⟩
abbrev s_is_list : Stmt := top 9
abbrev N_is_list : List Str := ["value"]
theorem sc_is_list : FnScope N_is_list ["value"] (defScope s_is_list) := ⟨rfl, rfl, rfl, by decide +kernel, rfl, by decide +kernel, by decide +kernel⟩
abbrev s_are_words : Stmt := top 10
abbrev N_are_words : List Str := ["value", "most", "word"]
theorem sc_are_words : FnScope N_are_words ["value", "most"] (defScope s_are_words) := ⟨rfl, rfl, rfl, by decide +kernel, rfl, by decide +kernel, by decide +kernel⟩
abbrev s_are_different_words : Stmt := top 11
abbrev N_are_different_words : List Str := ["value", "most"]
theorem sc_are_different_words : FnScope N_are_different_words ["value", "most"] (defScope s_are_different_words) := ⟨rfl, rfl, rfl, by decide +kernel, rfl, by decide +kernel, by decide +kernel⟩
abbrev s_ascending : Stmt := top 12
abbrev N_ascending : List Str := ["words"]
theorem sc_ascending : FnScope N_ascending ["words"] (defScope s_ascending) := ⟨rfl, rfl, rfl, by decide +kernel, rfl, by decide +kernel, by decide +kernel⟩
abbrev s_Task_init : Stmt := (inner (top 14) 0)
abbrev N_Task_init : List Str := ["self", "role", "many", "other", "same", "takes", "forgets", "field", "names"]
theorem sc_Task_init : FnScope N_Task_init ["self", "role", "many", "other", "same", "takes", "forgets"] (defScope s_Task_init) := ⟨rfl, rfl, rfl, by decide +kernel, rfl, by decide +kernel, by decide +kernel⟩
abbrev s_Task_role : Stmt := (inner (top 14) 1)
abbrev N_Task_role : List Str := ["self"]
theorem sc_Task_role : FnScope N_Task_role ["self"] (defScope s_Task_role) := ⟨rfl, rfl, rfl, by decide +kernel, rfl, by decide +kernel, by decide +kernel⟩
abbrev s_Task_many : Stmt := (inner (top 14) 2)
abbrev N_Task_many : List Str := ["self"]
theorem sc_Task_many : FnScope N_Task_many ["self"] (defScope s_Task_many) := ⟨rfl, rfl, rfl, by decide +kernel, rfl, by decide +kernel, by decide +kernel⟩
abbrev s_Task_other : Stmt := (inner (top 14) 3)
abbrev N_Task_other : List Str := ["self"]
theorem sc_Task_other : FnScope N_Task_other ["self"] (defScope s_Task_other) := ⟨rfl, rfl, rfl, by decide +kernel, rfl, by decide +kernel, by decide +kernel⟩
abbrev s_Task_same : Stmt := (inner (top 14) 4)
abbrev N_Task_same : List Str := ["self"]
theorem sc_Task_same : FnScope N_Task_same ["self"] (defScope s_Task_same) := ⟨rfl, rfl, rfl, by decide +kernel, rfl, by decide +kernel, by decide +kernel⟩
abbrev s_Task_takes : Stmt := (inner (top 14) 5)
abbrev N_Task_takes : List Str := ["self"]
theorem sc_Task_takes : FnScope N_Task_takes ["self"] (defScope s_Task_takes) := ⟨rfl, rfl, rfl, by decide +kernel, rfl, by decide +kernel, by decide +kernel⟩
abbrev s_Task_forgets : Stmt := (inner (top 14) 6)
abbrev N_Task_forgets : List Str := ["self"]
theorem sc_Task_forgets : FnScope N_Task_forgets ["self"] (defScope s_Task_forgets) := ⟨rfl, rfl, rfl, by decide +kernel, rfl, by decide +kernel, by decide +kernel⟩
abbrev s_Task_likeness : Stmt := (inner (top 14) 7)
abbrev N_Task_likeness : List Str := ["self", "lists"]
theorem sc_Task_likeness : FnScope N_Task_likeness ["self"] (defScope s_Task_likeness) := ⟨rfl, rfl, rfl, by decide +kernel, rfl, by decide +kernel, by decide +kernel⟩
abbrev s_Task_eq : Stmt := (inner (top 14) 8)
abbrev N_Task_eq : List Str := ["self", "other"]
theorem sc_Task_eq : FnScope N_Task_eq ["self", "other"] (defScope s_Task_eq) := ⟨rfl, rfl, rfl, by decide +kernel, rfl, by decide +kernel, by decide +kernel⟩
abbrev s_law_pen : Stmt := top 16
abbrev N_law_pen : List Str := ["_law_script"]
theorem sc_law_pen : FnScope N_law_pen ["_law_script"] (defScope s_law_pen) := ⟨rfl, rfl, rfl, by decide +kernel, rfl, by decide +kernel, by decide +kernel⟩
abbrev s_law_draw : Stmt := top 17
abbrev N_law_draw : List Str := ["_law_pen_here", "_law_size", "_law_spot", "_law_cell", "_law_mixed", "_law_digit"]
theorem sc_law_draw : FnScope N_law_draw ["_law_pen_here", "_law_size"] (defScope s_law_draw) := ⟨rfl, rfl, rfl, by decide +kernel, rfl, by decide +kernel, by decide +kernel⟩
abbrev s_law_pick : Stmt := top 18
abbrev N_law_pick : List Str := ["_law_pen_here", "_law_items"]
theorem sc_law_pick : FnScope N_law_pick ["_law_pen_here", "_law_items"] (defScope s_law_pick) := ⟨rfl, rfl, rfl, by decide +kernel, rfl, by decide +kernel, by decide +kernel⟩
abbrev s_law_shuffled : Stmt := top 19
abbrev N_law_shuffled : List Str := ["_law_pen_here", "_law_items", "_law_left", "_law_found"]
theorem sc_law_shuffled : FnScope N_law_shuffled ["_law_pen_here", "_law_items"] (defScope s_law_shuffled) := ⟨rfl, rfl, rfl, by decide +kernel, rfl, by decide +kernel, by decide +kernel⟩
abbrev s_law_words : Stmt := top 20
abbrev N_law_words : List Str := ["_law_pen_here", "_law_count", "_law_letters", "_law_stem", "_law_found", "_law_k", "_law_at", "_law_front", "_law_step", "_law_tail", "_law_word"]
theorem sc_law_words : FnScope N_law_words ["_law_pen_here", "_law_count"] (defScope s_law_words) := ⟨rfl, rfl, rfl, by decide +kernel, rfl, by decide +kernel, by decide +kernel⟩
abbrev s_law_task : Stmt := top 21
abbrev N_law_task : List Str := ["_law_pen_here", "_law_names", "_law_roles", "_law_found", "_law_k", "_law_some"]
theorem sc_law_task : FnScope N_law_task ["_law_pen_here", "_law_names", "_law_roles"] (defScope s_law_task) := ⟨rfl, rfl, rfl, by decide +kernel, rfl, by decide +kernel, by decide +kernel⟩
abbrev s_law_shown : Stmt := top 22
abbrev N_law_shown : List Str := ["_law_one"]
theorem sc_law_shown : FnScope N_law_shown ["_law_one"] (defScope s_law_shown) := ⟨rfl, rfl, rfl, by decide +kernel, rfl, by decide +kernel, by decide +kernel⟩
abbrev s_law_unlike : Stmt := top 23
abbrev N_law_unlike : List Str := ["_law_pen_here", "_law_one", "_law_titles", "_law_found", "_law_at"]
theorem sc_law_unlike : FnScope N_law_unlike ["_law_pen_here", "_law_one", "_law_titles"] (defScope s_law_unlike) := ⟨rfl, rfl, rfl, by decide +kernel, rfl, by decide +kernel, by decide +kernel⟩
abbrev s_law_lists : Stmt := top 24
abbrev N_law_lists : List Str := ["_law_pen_here", "_law_one", "_law_k"]
theorem sc_law_lists : FnScope N_law_lists ["_law_pen_here", "_law_one"] (defScope s_law_lists) := ⟨rfl, rfl, rfl, by decide +kernel, rfl, by decide +kernel, by decide +kernel⟩
abbrev s_law : Stmt := top 25
abbrev N_law : List Str := ["_law_script", "_law_pen_here", "_law_lap", "_law_titles", "_law_plain", "_law_one", "_law_some", "_law_second", "_law_twin", "_law_a", "_law_b", "_law_c", "_law_d"]
theorem sc_law : FnScope N_law ["_law_script"] (defScope s_law) := ⟨rfl, rfl, rfl, by decide +kernel, rfl, by decide +kernel, by decide +kernel⟩
/-! ### the pen -/
def penO (L : Addr) (spot rest : Int) : HO := .dK [(.inr ("cells" : Str), .ref L), (.inr ("spot" : Str), .int spot), (.inr ("rest" : Str), .int rest)]
/-- spot is at most b -/
def Pen (K : PySem.W.Frag) (G : Hp) (b : Nat) (o : HO) : Prop := ∃ (L : Addr) (spot rest : Int) (cells : List Int), o = penO L spot rest ∧ SqL K G L (cells.map V.int) ∧ cells.length ≤ 63 ∧ 0 ≤ spot ∧ spot ≤ b ∧ 0 ≤ rest
theorem Pen.up {K : PySem.W.Frag} {G G1 : Hp} {b : Nat} {o : HO} (s : Same G G1) (p : Pen K G b o) : Pen K G1 b o := by
  obtain ⟨L, sp, r, cs, e, h, x⟩ := p
  exact ⟨L, sp, r, cs, e, upL s h, x⟩
theorem Pen.mono {K : PySem.W.Frag} {G : Hp} {b c : Nat} {o : HO} (h : b ≤ c) (p : Pen K G b o) : Pen K G c o := by
  obtain ⟨L, sp, r, cs, e, h1, h2, h3, h4, h5⟩ := p
  exact ⟨L, sp, r, cs, e, h1, h2, h3, by omega, h5⟩
theorem k_cr : ¬ (Sum.inr ("cells" : Str) : Key) = Sum.inr ("rest" : Str) := by decide +kernel
theorem k_sr : ¬ (Sum.inr ("spot" : Str) : Key) = Sum.inr ("rest" : Str) := by decide +kernel
theorem k_cs : ¬ (Sum.inr ("cells" : Str) : Key) = Sum.inr ("spot" : Str) := by decide +kernel
theorem k_sc : ¬ (Sum.inr ("spot" : Str) : Key) = Sum.inr ("cells" : Str) := by decide +kernel
theorem k_rs : ¬ (Sum.inr ("rest" : Str) : Key) = Sum.inr ("spot" : Str) := by decide +kernel
theorem k_rc : ¬ (Sum.inr ("rest" : Str) : Key) = Sum.inr ("cells" : Str) := by decide +kernel
section
variable {L : Addr} {spot rest x : Int} {H : Hp} {P : Addr} {Q : VK} {G : Hp} {M : List (Addr × HO)} {R : Hp → Prop}
abbrev pk (L : Addr) (spot rest : Int) : List (Key × V) := [(.inr ("cells" : Str), .ref L), (.inr ("spot" : Str), .int spot), (.inr ("rest" : Str), .int rest)]
theorem v_cells : valV (pk L spot rest) (.inr ("cells" : Str)) = some (.ref L) := valV_pos rfl
theorem v_spot : valV (pk L spot rest) (.inr ("spot" : Str)) = some (.int spot) := by rw [valV_neg k_cs]; exact valV_pos rfl
theorem v_rest : valV (pk L spot rest) (.inr ("rest" : Str)) = some (.int rest) := by rw [valV_neg k_cr, valV_neg k_sr]; exact valV_pos rfl
theorem p_spot : putK (pk L spot rest) (.inr ("spot" : Str)) (.int x) = pk L x rest := by
  have e1 : ¬ Str.ofString "cells" = Str.ofString "spot" := by decide +kernel
  have e2 : ¬ Str.ofString "rest" = Str.ofString "spot" := by decide +kernel
  simp [putK, e1, e2]
theorem p_rest : putK (pk L spot rest) (.inr ("rest" : Str)) (.int x) = pk L spot x := by
  have e1 : ¬ Str.ofString "cells" = Str.ofString "rest" := by decide +kernel
  have e2 : ¬ Str.ofString "spot" = Str.ofString "rest" := by decide +kernel
  simp [putK, e1, e2]
def DgW (x y : V) (H : Hp) (Q : VK) : Prop := ∃ a v, x = V.ref a ∧ DGet H a y (some v) ∧ Q v H
def DpW (x y v : V) (H : Hp) (R : Hp → Prop) : Prop := ∃ a H4, x = V.ref a ∧ DPut H a y v H4 ∧ R H4
theorem z_dg {ta tb : TE} {σ : L2.St} (h : ta σ H fun x H1 => tb σ H1 fun y H2 => DgW x y H2 Q) : tDGet ta tb σ H Q := h
theorem g_cells (z : Zp G ((P, penO L spot rest) :: M) H) (q : Q (.ref L) H) : DgW (.ref P) (.str ("cells" : Str)) H Q :=
  ⟨P, _, rfl, by have := DGet.k (k := .inr ("cells" : Str)) (z.at_ 0 rfl); rw [v_cells] at this; exact this, q⟩
theorem g_spot (z : Zp G ((P, penO L spot rest) :: M) H) (q : Q (.int spot) H) : DgW (.ref P) (.str ("spot" : Str)) H Q :=
  ⟨P, _, rfl, by have := DGet.k (k := .inr ("spot" : Str)) (z.at_ 0 rfl); rw [v_spot] at this; exact this, q⟩
theorem g_rest (z : Zp G ((P, penO L spot rest) :: M) H) (q : Q (.int rest) H) : DgW (.ref P) (.str ("rest" : Str)) H Q :=
  ⟨P, _, rfl, by have := DGet.k (k := .inr ("rest" : Str)) (z.at_ 0 rfl); rw [v_rest] at this; exact this, q⟩
theorem s_spot (z : Zp G ((P, penO L spot rest) :: M) H) (q : ∀ H1, Zp G ((P, penO L x rest) :: M) H1 → R H1) : DpW (.ref P) (.str ("spot" : Str)) (.int x) H R :=
  ⟨P, _, rfl, DPut.k (k := .inr ("spot" : Str)) (z.at_ 0 rfl) (by show 3 < sizeLine; decide), by rw [p_spot]; exact q _ (z.put 0 rfl _)⟩
theorem s_rest (z : Zp G ((P, penO L spot rest) :: M) H) (q : ∀ H1, Zp G ((P, penO L spot x) :: M) H1 → R H1) : DpW (.ref P) (.str ("rest" : Str)) (.int x) H R :=
  ⟨P, _, rfl, DPut.k (k := .inr ("rest" : Str)) (z.at_ 0 rfl) (by show 3 < sizeLine; decide), by rw [p_rest]; exact q _ (z.put 0 rfl _)⟩
theorem m_penput {D : Ends} {td ty tv : TE} {σ : L2.St} (h : tv σ H fun v H1 => td σ H1 fun x H2 => ty σ H2 fun y H3 => DpW x y v H3 (D.nx σ)) : sDPut td ty tv D σ H := h
end
end LW
open PySem PySem.Spec PyProof.Rows L2 Ys LW
local macro_rules | `(tactic| walk_at "z") => `(tactic| first
  | with_reducible refine z_seq ?_
  | with_reducible refine z_asg ?_
  | with_reducible refine z_name ?_
  | ((with_reducible apply z_var); (focus rfl))
  | with_reducible refine z_c ?_
  | with_reducible refine z_op ?_
  | with_reducible refine z_cons ?_
  | with_reducible refine z_nil ?_
  | with_reducible refine z_cb ?_
  | with_reducible refine z_call ?_
  | with_reducible refine z_ifS ?_
  | with_reducible refine z_ret ?_
  | with_reducible refine z_test ?_
  | with_reducible refine z_isB ?_
  | with_reducible refine z_tup ?_
  | with_reducible refine z_lst ?_
  | with_reducible refine z_I0 ?_
  | with_reducible refine z_addI ?_
  | with_reducible refine z_int ?_
  | with_reducible refine z_bT ?_
  | with_reducible refine z_bF ?_
  | with_reducible refine z_bN ?_
  | with_reducible refine z_and ?_
  | with_reducible refine z_or ?_
  | with_reducible refine z_not ?_
  | with_reducible refine z_if ?_
  | with_reducible refine z_andV ?_
  | with_reducible refine z_orV ?_
  | with_reducible refine z_notV ?_
  | with_reducible refine z_sl ?_
  | with_reducible refine z_np ?_
  | with_reducible refine z_part ?_
  | with_reducible refine z_isP ?_
  | with_reducible refine z_drop ?_
  | with_reducible refine z_next ?_
  | with_reducible refine z_retN ?_
  | with_reducible refine z_tB ?_
  | with_reducible refine z_bm ?_
  | with_reducible refine z_bm0 ?_
  | with_reducible refine z_m1 ?_
  | with_reducible refine z_isS ?_
  | with_reducible refine z_for ?_
  | with_reducible refine z_lc ?_
  | with_reducible refine z_yes ?_
  | with_reducible refine z_iL ?_
  | with_reducible refine z_iT ?_
  | with_reducible refine z_iS ?_
  | with_reducible refine z_iR ?_
  | with_reducible refine z_gcons ?_
  | with_reducible refine z_gnil ?_
  | with_reducible refine z_pr ?_
  | with_reducible refine z_pr2 ?_
  | with_reducible refine z_un ?_
  | with_reducible refine z_prop ?_
  | with_reducible refine z_mt ?_
  | with_reducible refine z_mk ?_
  | with_reducible refine z_fl ?_
  | with_reducible refine z_fs ?_
  | with_reducible refine z_chain ?_
  | with_reducible refine z_gsub ?_
  | with_reducible refine z_iR2 ?_
  | with_reducible refine z_pc ?_
  | with_reducible refine z_pn ?_
  | with_reducible refine z_dg ?_
  | with_reducible refine m_penput ?_
  | with_reducible refine g_rest (by assumption) ?_
  | with_reducible refine g_spot (by assumption) ?_
  | with_reducible refine g_cells (by assumption) ?_
  | with_reducible refine s_spot (by assumption) ?_
  | with_reducible refine s_rest (by assumption) ?_)
local macro_rules | `(tactic| walk_at "y") => `(tactic| first
  | with_reducible refine z_asg ?_
  | with_reducible refine z_name ?_
  | ((with_reducible apply z_var); (focus rfl))
  | with_reducible refine z_c ?_
  | with_reducible refine z_op ?_
  | with_reducible refine z_cons ?_
  | with_reducible refine z_nil ?_
  | with_reducible refine z_cb ?_
  | with_reducible refine z_call ?_
  | with_reducible refine z_ifS ?_
  | with_reducible refine z_ret ?_
  | with_reducible refine z_test ?_
  | with_reducible refine z_isB ?_
  | with_reducible refine z_tup ?_
  | with_reducible refine z_lst ?_
  | with_reducible refine z_I0 ?_
  | with_reducible refine z_addI ?_
  | with_reducible refine z_int ?_
  | with_reducible refine z_bT ?_
  | with_reducible refine z_bF ?_
  | with_reducible refine z_bN ?_
  | with_reducible refine z_and ?_
  | with_reducible refine z_or ?_
  | with_reducible refine z_not ?_
  | with_reducible refine z_if ?_
  | with_reducible refine z_andV ?_
  | with_reducible refine z_orV ?_
  | with_reducible refine z_notV ?_
  | with_reducible refine z_sl ?_
  | with_reducible refine z_np ?_
  | with_reducible refine z_part ?_
  | with_reducible refine z_isP ?_
  | with_reducible refine z_drop ?_
  | with_reducible refine z_next ?_
  | with_reducible refine z_retN ?_
  | with_reducible refine z_tB ?_
  | with_reducible refine z_bm ?_
  | with_reducible refine z_bm0 ?_
  | with_reducible refine z_m1 ?_
  | with_reducible refine z_isS ?_
  | with_reducible refine z_for ?_
  | with_reducible refine z_lc ?_
  | with_reducible refine z_yes ?_
  | with_reducible refine z_iL ?_
  | with_reducible refine z_iT ?_
  | with_reducible refine z_iS ?_
  | with_reducible refine z_iR ?_
  | with_reducible refine z_gcons ?_
  | with_reducible refine z_gnil ?_
  | with_reducible refine z_pr ?_
  | with_reducible refine z_pr2 ?_
  | with_reducible refine z_un ?_
  | with_reducible refine z_prop ?_
  | with_reducible refine z_mt ?_
  | with_reducible refine z_mk ?_
  | with_reducible refine z_fl ?_
  | with_reducible refine z_fs ?_
  | with_reducible refine z_chain ?_
  | with_reducible refine z_gsub ?_
  | with_reducible refine z_iR2 ?_
  | with_reducible refine z_pc ?_
  | with_reducible refine z_pn ?_
  | with_reducible refine z_dg ?_
  | with_reducible refine m_penput ?_
  | with_reducible refine g_rest (by assumption) ?_
  | with_reducible refine g_spot (by assumption) ?_
  | with_reducible refine g_cells (by assumption) ?_
  | with_reducible refine s_spot (by assumption) ?_
  | with_reducible refine s_rest (by assumption) ?_)
namespace LW
open PySem PySem.Spec PyProof.Rows L2 Ys

theorem can_ints : ∀ cells : List Int, PyData.canLayAll0 (cells.map PyData.int) = true
  | [] => rfl
  | c :: cs => by
    show (PyData.canLay0 (.int c) && PyData.canLayAll0 (cs.map PyData.int)) = true
    rw [can_ints cs]
    rfl
theorem dep_ints : ∀ cells : List Int, PyData.depthAll (cells.map PyData.int) ≤ 1
  | [] => by decide
  | c :: cs => by
    show max (PyData.depth (.int c)) (PyData.depthAll (cs.map PyData.int)) ≤ 1
    have := dep_ints cs
    have e : PyData.depth (.int c) = 0 := rfl
    omega
theorem sh_ints (cells : List Int) : SeqAt.shaped (.list (cells.map PyData.int)) = true := by
  unfold SeqAt.shaped
  have e : PyData.canLay0 (.list (cells.map PyData.int)) = true := can_ints cells
  have d : PyData.depth (.list (cells.map PyData.int)) = PyData.depthAll (cells.map PyData.int) + 1 := rfl
  rw [e, d]
  have := dep_ints cells
  simp
  omega
theorem cells_eq (cells : List Int) : PyData.eqv (.list (cells.map PyData.int)) (.list []) = decide (cells = []) := by
  cases cells with
  | nil => rfl
  | cons c cs => rfl
section
variable {P : Program} {w : World} {K : PySem.W.Frag} {mg : Str → Option Value} {base : Heap} {f : Addr} {fd : FuncData}
def spDraw (K : PySem.W.Frag) : Sp := fun vs H Q _ => ∃ p o G M b n, vs = [.ref p, .int n] ∧ Zp G ((p, o) :: M) H ∧ Pen K G b o ∧ b ≤ 1000000000000 ∧ 0 < n ∧ n ≤ 1000000000 ∧
  ∀ r G1 H1 o1, Zp G1 ((p, o1) :: M) H1 → Same G G1 → Pen K G1 (b + 1) o1 → 0 ≤ r → r < n → Q (.int r) H1
theorem ok_draw (T : Nm K mg) (F : FnP K "_law_draw" s_law_draw f fd) : FnOk P w K mg base CX0 1 f fd ["_law_pen_here", "_law_size"] (spDraw K) := by
  have nd : N_law_draw.Nodup := sc_law_draw.nd
  refine F.ok sc_law_draw (fun vs H Q E h => ?_) (fun cdv A outer s H vs Q E hr h => ?_)
  · obtain ⟨p, o, G, M, b, n, rfl, _⟩ := h
    rfl
  have hu := hr.units
  refine ⟨_, PSs.nox   (pss_cons (ps_if (pt_cmpR o_ge (pe_dget (hu_of hr) (pv 0) pe_str (fun _ _ => rfl)) (pv 1) (nomark _)) (pss_cons (ps_asg (pe_op o_mod (pe_callTy c_int (by rfl) T.b_int boot_int (pa_cons (pe_dget (hu_of hr) (pv 0) pe_str (fun _ _ => rfl)) pa_nil)) (pv 1)) (pg_name (i := 5) nd rfl (by first | exact .inl rfl | exact .inr rfl)))
    (pss_cons (ps_dput (hu_of hr) (pv 0) pe_str (pe_op o_div (pe_dget (hu_of hr) (pv 0) pe_str (fun _ _ => rfl)) (pv 1)) rfl)
    (pss_one (ps_ret (pv 5))))) pss_nil)
    (pss_cons (ps_asg (pe_dget (hu_of hr) (pv 0) pe_str (fun _ _ => rfl)) (pg_name (i := 2) nd rfl (by first | exact .inl rfl | exact .inr rfl)))
    (pss_cons (ps_dput (hu_of hr) (pv 0) pe_str (pe_op op_addG (pv 2) pe_int) rfl)
    (pss_cons (ps_asg (pe_op op_addG (pe_op o_mul pe_int (pv 2)) pe_int) (pg_name (i := 3) nd rfl (by first | exact .inl rfl | exact .inr rfl)))
    (pss_cons (ps_if (pt_cmpR (op_neG hu) (pe_dget (hu_of hr) (pv 0) pe_str (fun _ _ => rfl)) (pe_lst pa_nil) (nomark _)) (pss_one (ps_asg (pe_ix ix_seq (pe_dget (hu_of hr) (pv 0) pe_str (fun _ _ => rfl)) (pe_op o_mod (pe_callTy c_int (by rfl) T.b_int boot_int (pa_cons (pv 2) pa_nil)) (pe_callB c_len (by rfl) T.b_len PySem.boot_len (pa_cons (pe_dget (hu_of hr) (pv 0) pe_str (fun _ _ => rfl)) pa_nil))) (fun _ _ => rfl)) (pg_name (i := 3) nd rfl (by first | exact .inl rfl | exact .inr rfl)))) pss_nil)
    (pss_cons (ps_if (PW.pt (pw_and (pt_cmpR o_lt (pv 2) (pe_callB c_len (by rfl) T.b_len PySem.boot_len (pa_cons (pe_dget (hu_of hr) (pv 0) pe_str (fun _ _ => rfl)) pa_nil)) (nomark _)) (pw_and1 (pt_cmpR o_ge (pv 3) (pe_op o_pow pe_int pe_int) (nomark _))))) (pss_cons (ps_dput (hu_of hr) (pv 0) pe_str (pe_op o_div (pe_op o_sub (pv 3) (pe_op o_pow pe_int pe_int)) (pv 1)) rfl)
    (pss_one (ps_ret (pe_op o_mod (pe_callTy c_int (by rfl) T.b_int boot_int (pa_cons (pe_op o_sub (pv 3) (pe_op o_pow pe_int pe_int)) pa_nil)) (pv 1))))) pss_nil)
    (pss_cons (ps_asg (pe_op o_mul (pe_op o_mod (pe_callTy c_int (by rfl) T.b_int boot_int (pa_cons (pv 3) pa_nil)) pe_int) pe_int) (pg_name (i := 4) nd rfl (by first | exact .inl rfl | exact .inr rfl)))
    (pss_cons (ps_asg (pe_op o_mod (pe_callTy c_int (by rfl) T.b_int boot_int (pa_cons (pe_op op_addG (pe_op op_addG (pe_op op_addG (pv 4) (pe_op o_mul (pe_op o_mul pe_int (pv 2)) (pv 2))) (pe_op o_mul pe_int (pv 2))) pe_int) pa_nil)) pe_int) (pg_name (i := 4) nd rfl (by first | exact .inl rfl | exact .inr rfl)))
    (pss_cons (ps_asg (pe_op o_mod (pe_callTy c_int (by rfl) T.b_int boot_int (pa_cons (pe_op o_mul (pv 4) (pe_op op_addG (pv 4) pe_int)) pa_nil)) pe_int) (pg_name (i := 4) nd rfl (by first | exact .inl rfl | exact .inr rfl)))
    (pss_one (ps_ret (pe_op o_mod (pe_callTy c_int (by rfl) T.b_int boot_int (pa_cons (pe_op o_div (pe_op o_mod (pe_callTy c_int (by rfl) T.b_int boot_int (pa_cons (pe_op op_addG (pe_op o_mul (pv 4) (pv 4)) (pe_op o_mul pe_int (pv 4))) pa_nil)) pe_int) pe_int) pa_nil)) (pv 1))))))))))))), ?_⟩
  obtain ⟨p, o, G, M, b, n, rfl, z, ⟨L, spot, rest, cells, rfl, hL, hc, h0, hb, hr0⟩, hb2, n0, n1, q⟩ := h
  repeat (walk_at "z")
  refine z_bd (fun hrn => ?_) (fun hrn => ?_)
  · repeat (walk_at "z")
    refine z_I n0 ?_
    repeat (walk_at "z")
    refine z_I (dw n0 n1) ?_
    repeat (walk_at "z")
    intro H1 z1
    repeat (walk_at "z")
    refine q _ G H1 _ z1 (Same.refl G) ⟨L, spot, rest / n, cells, rfl, hL, hc, h0, by omega, Int.ediv_nonneg hr0 (by omega)⟩ (Int.emod_nonneg _ (by omega)) (Int.emod_lt_of_pos _ n0)
  · repeat (walk_at "z")
    intro H1 z1
    repeat (walk_at "z")
    refine z_I (mw (by omega) (by omega) (by omega) (by omega)) ?_
    repeat (walk_at "y")
    with_reducible refine z_cut (fun σ H => ∃ cell G3, Zp G3 ((p, penO L (spot + 1) rest) :: M) H ∧ Same G G3 ∧ σ = [some (.ref p), some (.int n), some (.int spot), some (.int cell), none, none]) (fun nx hnx => ?_) (fun σ H2 h2 => ?_)
    · repeat (walk_at "z")
      refine z_newL z1 (by decide) fun p2 G2 H2 z2 s2 e2 => ?_
      have hL2 := upL s2 hL
      refine z_neD (d := .list (cells.map PyData.int)) (e := .list []) z2 (.lst hL2 (dts_int cells)) (.lst (SqL.of e2) .nil) (sh_ints _) rfl ?_
      repeat (walk_at "z")
      rw [cells_eq]
      refine z_bd (fun c => ?_) (fun c => ?_)
      · refine z_next (hnx _ _ ⟨_, _, z2, s2, rfl⟩)
      · have c0 : 0 < cells.length := by cases cells with | nil => exact absurd rfl c | cons _ _ => exact Nat.succ_pos _
        repeat (walk_at "z")
        refine z_lenL z2 hL2 ?_
        rw [List.length_map]
        refine z_I (by omega) ?_
        have hm := Int.emod_lt_of_pos spot (show (0 : Int) < cells.length by omega)
        have hm0 := Int.emod_nonneg spot (show (cells.length : Int) ≠ 0 by omega)
        obtain ⟨k, hk⟩ := Int.eq_ofNat_of_zero_le hm0
        refine z_ixL z2 hL2 (v := .int (cells.getD k 0)) ?_ ?_
        · rw [hk]
          refine atI_nat ?_
          have : k < cells.length := by omega
          simp [List.getD, this]
        repeat (walk_at "z")
        exact hnx _ _ ⟨_, _, z2, s2, rfl⟩
    obtain ⟨cell, G3, z3, s3, rfl⟩ := h2
    have hL3 := upL s3 hL
    have e18 : (10 : Int) ^ (18 : Int).toNat = 1000000000000000000 := by decide +kernel
    with_reducible refine z_cut (fun σ H => H = H2 ∧ σ = [some (.ref p), some (.int n), some (.int spot), some (.int cell), none, none]) (fun nx hnx => ?_) (fun σ H3 h3 => ?_)
    · repeat (walk_at "z")
      refine z_lenL z3 hL3 ?_
      repeat (walk_at "z")
      refine z_b2 (fun c1 => ?_) (fun c1 => ?_)
      · repeat (walk_at "z")
        refine z_I ⟨by decide, by decide, by decide⟩ ?_
        repeat (walk_at "z")
        rw [e18]
        refine z_bd (fun c2 => ?_) (fun c2 => ?_)
        · repeat (walk_at "z")
          refine z_I ⟨by decide, by decide, by decide⟩ ?_
          repeat (walk_at "z")
          rw [e18]
          refine z_I (dw n0 n1) ?_
          repeat (walk_at "z")
          intro H4 z4
          repeat (walk_at "z")
          refine z_I ⟨by decide, by decide, by decide⟩ ?_
          repeat (walk_at "z")
          refine z_I n0 ?_
          exact q _ G3 H4 _ z4 s3 ⟨L, spot + 1, _, cells, rfl, hL3, hc, by omega, by omega, Int.ediv_nonneg (by omega) (by omega)⟩ (Int.emod_nonneg _ (by omega)) (Int.emod_lt_of_pos _ n0)
        · exact hnx _ _ ⟨rfl, rfl⟩
      · repeat (walk_at "z")
        exact hnx _ _ ⟨rfl, rfl⟩
    obtain ⟨rfl, rfl⟩ := h3
    repeat (walk_at "z")
    refine z_I (by decide) ?_
    repeat (walk_at "z")
    refine z_I (mw (by omega) (by omega) (by omega) (by omega)) ?_
    repeat (walk_at "z")
    have h1 := Int.emod_nonneg cell (show (2147483353 : Int) ≠ 0 by decide)
    have h2 := Int.emod_lt_of_pos cell (show (0 : Int) < 2147483353 by decide)
    refine z_I (mw (by omega) (by omega) (by omega) (by omega)) ?_
    repeat (walk_at "z")
    refine z_I (wide_mul (a := 64) (b := 64) (by omega) (by omega) (by decide) (by decide) (by decide)) ?_
    repeat (walk_at "z")
    refine z_I (mw (by omega) (by omega) (by omega) (by omega)) ?_
    repeat (walk_at "z")
    refine z_I (by decide) ?_
    repeat (walk_at "z")
    generalize hm1 : (cell % 2147483353 * 40127 + 52433 * spot * spot + 101 * spot + 31) % 2147483399 = m1
    have a1 : 0 ≤ m1 := by rw [← hm1]; exact Int.emod_nonneg _ (by decide)
    have a2 : m1 < 2147483399 := by rw [← hm1]; exact Int.emod_lt_of_pos _ (by decide)
    refine z_I (mw (by omega) (by omega) (by omega) (by omega)) ?_
    repeat (walk_at "z")
    refine z_I (by decide) ?_
    repeat (walk_at "z")
    generalize hm2 : m1 * (m1 + 70009) % 2147483423 = m2
    have b1 : 0 ≤ m2 := by rw [← hm2]; exact Int.emod_nonneg _ (by decide)
    have b2 : m2 < 2147483423 := by rw [← hm2]; exact Int.emod_lt_of_pos _ (by decide)
    refine z_I (mw (by omega) (by omega) (by omega) (by omega)) ?_
    repeat (walk_at "z")
    refine z_I (mw (by omega) (by omega) (by omega) (by omega)) ?_
    repeat (walk_at "z")
    refine z_I (by decide) ?_
    repeat (walk_at "z")
    refine z_I (dw (by decide) (by decide)) ?_
    repeat (walk_at "z")
    refine z_I n0 ?_
    exact q _ G3 _ _ z3 s3 ⟨L, spot + 1, _, cells, rfl, hL3, hc, by omega, by omega, hr0⟩ (Int.emod_nonneg _ (by omega)) (Int.emod_lt_of_pos _ n0)
end
end LW
namespace LW
open PySem PySem.Spec PyProof.Rows L2 Ys

section
variable {P : Program} {w : World} {K : PySem.W.Frag} {mg : Str → Option Value} {base : Heap} {f : Addr} {fd : FuncData}
def spPen (K : PySem.W.Frag) : Sp := fun vs H Q _ => ∃ (a : Addr) (G : Hp) (ns : List Int), vs = [.ref a] ∧ Zp G [] H ∧ SqL K G a (ns.map V.int) ∧
  ∀ p G1 H1 o1, Zp G1 [(p, o1)] H1 → Same G G1 → Pen K G1 0 o1 → Q (.ref p) H1
theorem ok_pen (T : Nm K mg) (F : FnP K "_law_pen" s_law_pen f fd) : FnOk P w K mg base CX0 1 f fd ["_law_script"] (spPen K) := by
  have nd : N_law_pen.Nodup := sc_law_pen.nd
  refine F.ok sc_law_pen (fun vs H Q E h => ?_) (fun cdv A outer s H vs Q E hr h => ?_)
  · obtain ⟨a, G, ns, rfl, _⟩ := h
    rfl
  have hu := hr.units
  refine ⟨_, PSs.nox   (pss_one (ps_ret (pe_disp (pps_cons pe_str (pe_callTy (kc_list (K := K)) (by rfl) T.b_list boot_list (pa_cons (pe_slice (k_sl (K := K)) (pv 0) po_none (po_some pe_int)) pa_nil)) (pps_cons pe_str pe_int (pps_cons pe_str pe_int pps_nil))) (by rfl) (by rfl) (fun z => by cases z) (by decide)))), ?_⟩
  obtain ⟨a, G, ns, rfl, z, hS, q⟩ := h
  repeat (walk_at "z")
  refine z_disp z fun p H1 z1 => ?_
  repeat (walk_at "z")
  refine z_slL z1 hS fun a2 G2 H2 z2 s2 e2 => ?_
  rw [cut_map] at e2
  repeat (walk_at "z")
  refine z_listG z2 (.inl (SqL.of e2)) fun a3 G3 H3 z3 s3 e3 => ?_
  repeat (walk_at "z")
  refine z_dispE (M := []) z3 [(.inr ("cells" : Str), .ref a3), (.inr ("spot" : Str), .int 0), (.inr ("rest" : Str), .int 0)] rfl (by show 3 ≤ 15; decide) fun H4 z4 => ?_
  refine q p G3 H4 _ z4 (s2.trans s3) ⟨a3, 0, 0, _, ?_, SqL.of e3, ?_, by decide, by decide, by decide⟩
  · have e1 : ¬ Str.ofString "cells" = Str.ofString "rest" := by decide +kernel
    have e2 : ¬ Str.ofString "spot" = Str.ofString "rest" := by decide +kernel
    have e3 : ¬ Str.ofString "cells" = Str.ofString "spot" := by decide +kernel
    simp [mergeK, putK, e1, e2, e3, penO]
  · rw [List.length_take]
    have : HT.sIx ns.length ns.length (some 63) = min 63 ns.length := HT.sIx_nat ns.length ns.length 63
    rw [this]
    omega
def spPick (K : PySem.W.Frag) : Sp := fun vs H Q _ => ∃ p o G M b x, vs = [.ref p, x] ∧ Zp G ((p, o) :: M) H ∧ Pen K G b o ∧ b ≤ 1000000000000 ∧
  ((∃ a xs, x = .ref a ∧ (SqL K G a xs ∨ SqT K G a xs) ∧ xs ≠ [] ∧ xs.length ≤ 100000 ∧ ∀ v G1 H1 o1, v ∈ xs → Zp G1 ((p, o1) :: M) H1 → Same G G1 → Pen K G1 (b + 1) o1 → Q v H1) ∨
   (∃ s : Str, x = .str s ∧ 0 < s.length ∧ s.length ≤ 100000 ∧ ∀ ch G1 H1 o1, ch ∈ s.cps.toList → Zp G1 ((p, o1) :: M) H1 → Same G G1 → Pen K G1 (b + 1) o1 → Q (.str ⟨#[ch]⟩) H1))
theorem ok_pick (T : Nm K mg) (C_law_draw : Own P w K mg base CX0 1 "_law_draw" ["_law_pen_here", "_law_size"] (spDraw K)) (F : FnP K "_law_pick" s_law_pick f fd) : FnOk P w K mg base CX0 2 f fd ["_law_pen_here", "_law_items"] (spPick K) := by
  have nd : N_law_pick.Nodup := sc_law_pick.nd
  refine F.ok sc_law_pick (fun vs H Q E h => ?_) (fun cdv A outer s H vs Q E hr h => ?_)
  · obtain ⟨p, o, G, M, b, x, rfl, _⟩ := h
    rfl
  have hu := hr.units
  refine ⟨_, PSs.nox   (pss_one (ps_ret (pe_ix (k_ix (K := K)) (pv 1) (pe_own C_law_draw (hr.mono (by decide)) (by rfl) pass0 (pa_cons (pv 0) (pa_cons (pe_callB (kc_len (K := K) (P := P) (w := w)) (by rfl) T.b_len PySem.boot_len (pa_cons (pv 1) pa_nil)) pa_nil))) (fun _ _ => rfl)))), ?_⟩
  obtain ⟨p, o, G, M, b, x, rfl, z, hp, hb, h⟩ := h
  repeat (walk_at "z")
  rcases h with ⟨a, xs, rfl, hS, h0, h1, q⟩ | ⟨t, rfl, h0, h1, q⟩
  · have h00 : 0 < xs.length := by cases xs with | nil => exact absurd rfl h0 | cons _ _ => exact Nat.succ_pos _
    rcases hS with hS | hS
    · refine z_lenL z hS ?_
      repeat (walk_at "z")
      refine ⟨p, o, G, M, b, _, rfl, z, hp, hb, by omega, by omega, fun r G1 H1 o1 z1 s1 hp1 r0 r1 => ?_⟩
      obtain ⟨v, hv, e⟩ := at_in r0 r1
      exact z_ixL z1 (upL s1 hS) e (q v G1 H1 o1 hv z1 s1 hp1)
    · refine z_lenT z hS ?_
      repeat (walk_at "z")
      refine ⟨p, o, G, M, b, _, rfl, z, hp, hb, by omega, by omega, fun r G1 H1 o1 z1 s1 hp1 r0 r1 => ?_⟩
      obtain ⟨v, hv, e⟩ := at_in r0 r1
      exact z_ixT z1 (upT s1 hS) e (q v G1 H1 o1 hv z1 s1 hp1)
  · refine z_lenS h1 ?_
    repeat (walk_at "z")
    refine ⟨p, o, G, M, b, _, rfl, z, hp, hb, by omega, by omega, fun r G1 H1 o1 z1 s1 hp1 r0 r1 => ?_⟩
    obtain ⟨v, hv, e⟩ := at_in (xs := t.cps.toList) r0 (by rw [Array.length_toList]; exact r1)
    exact z_ixS h1 e (q v G1 H1 o1 hv z1 s1 hp1)
end
end LW
namespace LW
open PySem PySem.Spec PyProof.Rows L2 Ys

section
variable {P : Program} {w : World} {K : PySem.W.Frag} {mg : Str → Option Value} {base : Heap} {f : Addr} {fd : FuncData}
def spShuf (K : PySem.W.Frag) : Sp := fun vs H Q _ => ∃ p o G M b a, ∃ xs : List V, vs = [.ref p, .ref a] ∧ Zp G ((p, o) :: M) H ∧ Pen K G b o ∧ b + xs.length ≤ 1000000000000 ∧ (SqL K G a xs ∨ SqT K G a xs) ∧ (∀ v ∈ xs, El K G v) ∧ xs.length ≤ 1000 ∧
  ∀ l ys G1 H1 o1, Zp G1 ((p, o1) :: (l, .lst ys) :: M) H1 → Same G G1 → Pen K G1 (b + xs.length) o1 → ys.Perm xs → Q (.ref l) H1
theorem ok_shuf (T : Nm K mg) (C_law_draw : Own P w K mg base CX0 1 "_law_draw" ["_law_pen_here", "_law_size"] (spDraw K)) (F : FnP K "_law_shuffled" s_law_shuffled f fd) : FnOk P w K mg base CX0 2 f fd ["_law_pen_here", "_law_items"] (spShuf K) := by
  have nd : N_law_shuffled.Nodup := sc_law_shuffled.nd
  refine F.ok sc_law_shuffled (fun vs H Q E h => ?_) (fun cdv A outer s H vs Q E hr h => ?_)
  · obtain ⟨p, o, G, M, b, x, xs, rfl, _⟩ := h
    rfl
  have hu := hr.units
  refine ⟨_, PSs.nox   (pss_cons (ps_par (i := 2) (j := 3) (by rfl) nd rfl rfl (by decide) rfl rfl (pa_cons (pe_callTy (kc_list (K := K)) (by rfl) T.b_list boot_list (pa_cons (pv 1) pa_nil)) (pa_cons (pe_lst pa_nil) pa_nil)) (by rfl))
    (pss_cons (ps_while PassesOwn.never (pt_cmpR (k_ne (K := K) hu) (pv 2) (pe_lst pa_nil) (nomark _)) (pss_one (ps_expr (pe_bm PySem.F.plainAttrs_list PySem.F.slot_list_append PySem.F.type_list_append mt_append (pv 3) (pa_cons (pe_bm PySem.F.plainAttrs_list PySem.F.slot_list_pop PySem.F.type_list_pop mt_popAt (pv 2) (pa_cons (pe_own C_law_draw (hr.mono (by decide)) (by rfl) pass0 (pa_cons (pv 0) (pa_cons (pe_callB (kc_len (K := K) (P := P) (w := w)) (by rfl) T.b_len PySem.boot_len (pa_cons (pv 2) pa_nil)) pa_nil))) pa_nil)) pa_nil)))))
    (pss_one (ps_ret (pv 3))))), ?_⟩
  obtain ⟨p, o, G, M, b, a, xs, rfl, z, hp, hb, hS, hE, hl, q⟩ := h
  repeat (walk_at "z")
  refine z_listP z hS fun l H1 z1 => ?_
  repeat (walk_at "z")
  refine z_ownP z1 (by decide) fun u H2 z2 => ?_
  repeat (walk_at "z")
  refine z_while (fun n σ G2 M2 => ∃ o2 ys zs, σ = [some (.ref p), some (.ref a), some (.ref l), some (.ref u)] ∧ M2 = (p, o2) :: (u, .lst ys) :: (l, .lst zs) :: M ∧ Same G G2 ∧ Pen K G2 (b + ys.length) o2 ∧ n = zs.length ∧ (ys ++ zs).Perm xs)
    xs.length z2 ⟨o, [], xs, rfl, rfl, Same.refl G, hp, rfl, List.Perm.refl _⟩ ?_
  rintro n σ G2 M2 H3 ⟨o2, ys, zs, rfl, rfl, s2, hp2, rfl, hperm⟩ z3
  have hlen : ys.length + zs.length = xs.length := by rw [← List.length_append]; exact hperm.length_eq
  repeat (walk_at "z")
  refine z_newL z3 (by decide) fun p4 G4 H4 z4 s4 e4 => ?_
  have hE4 : ∀ v ∈ zs, El K H4 v := fun v hv => ((hE v (hperm.mem_iff.mp (List.mem_append_right _ hv))).up (s2.trans s4)).up z4.sub
  refine z_neNil (xs := zs) (SqL.of (z4.at_ 2 rfl)) hE4 (z4.sub _ _ e4) ?_
  repeat (walk_at "z")
  by_cases c : zs = []
  · subst c
    rw [show decide (([] : List V) ≠ []) = false from rfl]
    refine z_whF ?_
    repeat (walk_at "z")
    refine q u ys G4 _ o2 (z4.keep (.cons_cons _ (.cons_cons _ (.cons _ (List.Sublist.refl _))))) (s2.trans s4) ?_ ?_
    · have e : xs.length = ys.length := by rw [← hlen]; rfl
      rw [e]
      exact hp2.up s4
    · rw [List.append_nil] at hperm
      exact hperm
  · rw [decide_eq_true c]
    have h00 : 0 < zs.length := by cases zs with | nil => exact absurd rfl c | cons _ _ => exact Nat.succ_pos _
    refine z_whT ?_
    repeat (walk_at "z")
    refine z_tyO z4 1 rfl ?_
    repeat (walk_at "z")
    refine z_tyO z4 2 rfl ?_
    repeat (walk_at "z")
    refine z_lenO z4 2 rfl ?_
    repeat (walk_at "z")
    refine ⟨p, o2, G4, _, _, _, rfl, z4, hp2.up s4, by omega, by omega, by omega, fun r G5 H5 o5 z5 s5 hp5 r0 r1 => ?_⟩
    obtain ⟨k, rfl⟩ := Int.eq_ofNat_of_zero_le r0
    have hk : k < zs.length := by omega
    repeat (walk_at "z")
    refine z_popAt z5 2 rfl r0 r1 (by omega) (v := zs[k]) (by simp [hk]) fun H6 z6 => ?_
    repeat (walk_at "z")
    refine z_append z6 1 rfl (by omega) fun H7 z7 => ?_
    repeat (walk_at "z")
    refine ⟨(zs.eraseIdx k).length, by rw [List.length_eraseIdx_of_lt hk]; omega, _, _, z7, _, ys ++ [zs[k]], zs.eraseIdx k, rfl, rfl, (s2.trans s4).trans s5, ?_, rfl, ?_⟩
    · rw [List.length_append]
      exact hp5
    · rw [List.append_assoc, List.singleton_append]
      refine List.Perm.trans (List.Perm.append_left _ ?_) hperm
      exact erase_perm hk
end
end LW
namespace LW
open PySem PySem.Spec PyProof.Rows L2 Ys

section
variable {P : Program} {w : World} {K : PySem.W.Frag} {mg : Str → Option Value} {base : Heap} {f : Addr} {fd : FuncData}
abbrev OwnD (P : Program) (w : World) (K : PySem.W.Frag) (mg : Str → Option Value) (base : Heap) : Prop := Own P w K mg base CX0 1 "_law_draw" ["_law_pen_here", "_law_size"] (spDraw K)
abbrev OwnP (P : Program) (w : World) (K : PySem.W.Frag) (mg : Str → Option Value) (base : Heap) : Prop := Own P w K mg base CX0 2 "_law_pick" ["_law_pen_here", "_law_items"] (spPick K)
def spWords (K : PySem.W.Frag) : Sp := fun vs H Q _ => ∃ p o G M b, ∃ n : Nat, vs = [.ref p, .int n] ∧ Zp G ((p, o) :: M) H ∧ Pen K G b o ∧ b ≤ 100000000000 ∧ n ≤ 20 ∧
  ∀ l G1 H1 o1, ∀ ss : List Str, Zp G1 ((p, o1) :: M) H1 → Same G G1 → Pen K G1 (b + 10) o1 → G1 l = some (.lst (ss.map V.str)) → ss.length = n → (∀ s ∈ ss, Wd s) → Q (.ref l) H1
theorem ok_words (T : Nm K mg) (C_law_draw : OwnD P w K mg base) (C_law_pick : OwnP P w K mg base) (F : FnP K "_law_words" s_law_words f fd) : FnOk P w K mg base CX0 3 f fd ["_law_pen_here", "_law_count"] (spWords K) := by
  have nd : N_law_words.Nodup := sc_law_words.nd
  refine F.ok sc_law_words (fun vs H Q E h => ?_) (fun cdv A outer s H vs Q E hr h => ?_)
  · obtain ⟨p, o, G, M, b, n, rfl, _⟩ := h
    rfl
  have hu := hr.units
  refine ⟨_, PSs.nox   (pss_cons (ps_asg pe_str (pg_name (i := 2) nd rfl (by first | exact .inl rfl | exact .inr rfl)))
    (pss_cons (ps_asg (pe_joinG pe_str (pe_lc (own := [("_law_k", 5)]) (tt := tYes) rfl nd (pi_range1 (by rfl) (T.b_range) (pa_cons (pe_own C_law_draw (hr.mono (by decide)) (by rfl) pass0 (pa_cons (pv 0) (pa_cons pe_int pa_nil))) pa_nil)) (blkOk_by (N := N_law_words) (sc := defScope s_law_words) (by decide +kernel)) (fun _ _ _ _ _ => (pg_name (i := 5) nd rfl (by first | exact .inl rfl | exact .inr rfl))) (fun _ _ _ _ _ => pts_nil) (fun _ _ _ _ _ => (pe_own C_law_pick (hr.mono (by decide)) (by rfl) pass0 (pa_cons (pv 0) (pa_cons (pv 2) pa_nil)))))) (pg_name (i := 3) nd rfl (by first | exact .inl rfl | exact .inr rfl)))
    (pss_cons (ps_par (i := 6) (j := 7) (by rfl) nd rfl rfl (by decide) rfl rfl (pa_cons (pe_own C_law_draw (hr.mono (by decide)) (by rfl) pass0 (pa_cons (pv 0) (pa_cons (pe_op (k_add (K := K)) (pe_callB (kc_len (K := K) (P := P) (w := w)) (by rfl) T.b_len PySem.boot_len (pa_cons (pv 3) pa_nil)) pe_int) pa_nil))) (pa_cons (pe_own C_law_draw (hr.mono (by decide)) (by rfl) pass0 (pa_cons (pv 0) (pa_cons pe_int pa_nil))) pa_nil)) (by rfl))
    (pss_cons (ps_par (i := 8) (j := 9) (by rfl) nd rfl rfl (by decide) rfl rfl (pa_cons (pe_own C_law_pick (hr.mono (by decide)) (by rfl) pass0 (pa_cons (pv 0) (pa_cons (pe_lst (pa_cons pe_int (pa_cons pe_int (pa_cons pe_int (pa_cons pe_int (pa_cons pe_int (pa_cons pe_int (pa_cons pe_int (pa_cons pe_int pa_nil))))))))) pa_nil))) (pa_cons (pe_own C_law_pick (hr.mono (by decide)) (by rfl) pass0 (pa_cons (pv 0) (pa_cons (pe_lst (pa_cons pe_str (pa_cons pe_str (pa_cons pe_str (pa_cons pe_str pa_nil))))) pa_nil))) pa_nil)) (by rfl))
    (pss_cons (ps_asg (pe_lst pa_nil) (pg_name (i := 4) nd rfl (by first | exact .inl rfl | exact .inr rfl)))
    (pss_cons (ps_for PassesOwn.never rfl (pi_range1 (by rfl) (T.b_range) (pa_cons (pv 1) pa_nil)) (pg_name (i := 5) nd rfl (by first | exact .inl rfl | exact .inr rfl)) (pss_cons (ps_asg (pe_op (k_add (K := K)) (pe_op (k_add (K := K)) (pe_slice (k_sl (K := K)) (pv 3) po_none (po_some (pv 6))) (pe_ix (k_ix (K := K)) (pv 2) (pe_op o_mod (pe_callTy c_int (by rfl) T.b_int boot_int (pa_cons (pe_op (k_add (K := K)) (pv 7) (pe_op o_mul (pv 8) (pv 5))) pa_nil)) pe_int) (fun _ _ => rfl))) (pe_slice (k_sl (K := K)) (pv 3) (po_some (pv 6)) po_none)) (pg_name (i := 10) nd rfl (by first | exact .inl rfl | exact .inr rfl)))
    (pss_one (ps_expr (pe_bm PySem.F.plainAttrs_list PySem.F.slot_list_append PySem.F.type_list_append mt_append (pv 4) (pa_cons (pe_ifExp (pt_cmpR (k_eq (K := K) hu) (pe_op o_mod (pe_callTy c_int (by rfl) T.b_int boot_int (pa_cons (pv 5) pa_nil)) pe_int) pe_int (nomark _)) (pe_op (k_add (K := K)) (pv 10) (pv 9)) (pv 10)) pa_nil))))))
    (pss_one (ps_ret (pv 4))))))))), ?_⟩
  obtain ⟨p, o, G, M, b, n, rfl, z, hp, hb, hn, q⟩ := h
  repeat (walk_at "z")
  refine ⟨p, o, G, M, b, _, rfl, z, hp, by omega, by decide, by decide, fun c1 G1 H1 o1 z1 s1 hp1 c0 c6 => ?_⟩
  repeat (walk_at "z")
  refine z_itR (by omega) (by omega) ?_
  refine lc_src src_R (fun i G' M' acc => ∃ o', ∃ ss : List Str, M' = (p, o') :: M ∧ Same G G' ∧ Pen K G' (b + 1 + i) o' ∧ acc = ss.map V.str ∧ ss.length = i ∧ ∀ t ∈ ss, Lt t ∧ t.length = 1) z1 ⟨o1, [], rfl, s1, hp1, rfl, rfl, by simp⟩ (fun _ _ _ _ _ _ _ _ => trivial) ?_ ?_
  · rintro i x G2 M2 acc Dl H2 hx ⟨o2, ss, rfl, s2, hp2, rfl, rfl, hss⟩ z2
    have hi : ss.length < 6 := by
      have := (List.getElem?_eq_some_iff.mp hx).1
      rw [rngV_len] at this
      omega
    repeat (walk_at "z")
    refine ⟨by rfl, ?_⟩
    repeat (walk_at "z")
    refine ⟨p, o2, G2, _, _, _, rfl, z2, hp2, by omega, .inr ⟨_, rfl, by rw [abc_len]; decide, by rw [abc_len]; decide, fun ch G3 H3 o3 hch z3 s3 hp3 => ?_⟩⟩
    refine z_laid (M := (p, o3) :: M) z3 (by rw [List.length_map]; omega) ⟨o3, ss ++ [⟨#[ch]⟩], rfl, s2.trans s3, hp3, by simp, by simp, fun t ht => ?_⟩
    rcases List.mem_append.mp ht with ht | ht
    · exact hss t ht
    · obtain rfl : t = ⟨#[ch]⟩ := by simpa using ht
      exact ⟨Lt.one (abc_mem hch), rfl⟩
  · rintro p2 G2 M2 acc G3 H3 ⟨o2, ss, rfl, s2, hp2, rfl, hlen, hss⟩ s3 z3 e3
    rw [rngV_len] at hlen hp2
    have hl6 : ss.length ≤ 5 := by omega
    have hsum : (Txt.join "" ss).length = ss.length := PySem.W.KT.join_ones ss fun t ht => (hss t ht).2
    have hsm : ∀ l : List Str, (∀ t ∈ l, t.length = 1) → (l.map (·.length)).sum = l.length := by
      intro l
      induction l with
      | nil => intro _; rfl
      | cons a r ih =>
        intro h
        rw [List.map_cons, List.sum_cons, ih fun t ht => h t (List.mem_cons_of_mem _ ht), h a (List.mem_cons_self ..), List.length_cons]
        omega
    refine z_join z3 (SqL.of e3) ?_ ?_
    · rw [hsm ss fun t ht => (hss t ht).2]
      have : ("" : Str).length = 0 := by decide
      rw [this]
      omega
    have hstem : Lt (Txt.join "" ss) := Lt.join fun t ht => (hss t ht).1
    generalize Txt.join "" ss = stem at hstem hsum ⊢
    have hp2 := hp2.mono (c := b + 6) (by omega)
    rw [← hsum] at hlen hl6
    repeat (walk_at "z")
    refine z_lenS (by omega) ?_
    repeat (walk_at "z")
    refine ⟨p, o2, G3, _, _, _, rfl, z3, hp2.up s3, by omega, by omega, by omega, fun at_ G4 H4 o4 z4 s4 hp4 a0 a1 => ?_⟩
    repeat (walk_at "z")
    refine ⟨p, o4, G4, _, _, _, rfl, z4, hp4, by omega, by omega, by omega, fun fr G5 H5 o5 z5 s5 hp5 f0 f1 => ?_⟩
    repeat (walk_at "z")
    refine z_newL z5 (by simp) fun q6 G6 H6 z6 s6 e6 => ?_
    repeat (walk_at "z")
    refine ⟨p, o5, G6, _, _, _, rfl, z6, hp5.up s6, by omega, .inl ⟨q6, _, rfl, .inl (SqL.of e6), by simp, by simp, fun v G7 H7 o7 hv z7 s7 hp7 => ?_⟩⟩
    obtain ⟨st, rfl, st0, st1⟩ : ∃ i, v = V.int i ∧ 0 < i ∧ i < 20 := by
      simp at hv
      rcases hv with rfl | rfl | rfl | rfl | rfl | rfl | rfl | rfl <;> exact ⟨_, rfl, by decide, by decide⟩
    repeat (walk_at "z")
    refine z_newL z7 (by simp) fun q8 G8 H8 z8 s8 e8 => ?_
    repeat (walk_at "z")
    refine ⟨p, o7, G8, _, _, _, rfl, z8, hp7.up s8, by omega, .inl ⟨q8, _, rfl, .inl (SqL.of e8), by simp, by simp, fun v G9 H9 o9 hv z9 s9 hp9 => ?_⟩⟩
    obtain ⟨tail, rfl, tl0, tl1⟩ : ∃ t : Str, v = V.str t ∧ t.length ≤ 2 ∧ Lt t := by
      have k0 : ("" : Str).length ≤ 2 ∧ ∀ c ∈ ("" : Str).cps.toList, 97 ≤ c ∧ c ≤ 122 := by decide +kernel
      have k1 : ("w" : Str).length ≤ 2 ∧ ∀ c ∈ ("w" : Str).cps.toList, 97 ≤ c ∧ c ≤ 122 := by decide +kernel
      have k2 : ("ww" : Str).length ≤ 2 ∧ ∀ c ∈ ("ww" : Str).cps.toList, 97 ≤ c ∧ c ≤ 122 := by decide +kernel
      rcases List.mem_cons.mp hv with rfl | hv
      · exact ⟨_, rfl, k0⟩
      rcases List.mem_cons.mp hv with rfl | hv
      · exact ⟨_, rfl, k0⟩
      rcases List.mem_cons.mp hv with rfl | hv
      · exact ⟨_, rfl, k1⟩
      rcases List.mem_cons.mp hv with rfl | hv
      · exact ⟨_, rfl, k2⟩
      · cases hv
    have hpz := hp9.mono (c := b + 10) (by omega)
    have sz : Same G G9 := (s2.trans s3).trans ((s4.trans s5).trans ((s6.trans s7).trans (s8.trans s9)))
    clear hp9 hp7 hp5 hp4 hp2 hp1 hp z8 z7 z6 z5 z4 z3 z1 z e3 e6 e8 s9 s8 s7 s6 s5 s4 s3 s2 s1
    repeat (walk_at "z")
    refine z_ownP z9 (by simp) fun fa H10 z10 => ?_
    repeat (walk_at "z")
    refine z_itR (by omega) (by omega) ?_
    refine for_src src_R (fun i σ G' M' => ∃ fs : List Str, ∃ k5 k10 : Option V, M' = (p, o9) :: (fa, .lst (fs.map V.str)) :: M ∧ G' = G9 ∧ fs.length = i ∧ (∀ t ∈ fs, Wd t) ∧
      σ = [some (.ref p), some (.int n), some (.str ("abcdefghijklmnopqrstuvwxyz" : Str)), some (.str stem), some (.ref fa), k5, some (.int at_), some (.int fr), some (.int st), some (.str tail), k10])
      z10 ⟨[], _, _, rfl, rfl, rfl, by simp, rfl⟩ (fun _ _ _ _ _ _ _ => trivial) ?_ ?_
    · rintro i x σ G' M' H' hx ⟨fs, k5, k10, rfl, rfl, rfl, hfs, rfl⟩ z'
      obtain ⟨hi, rfl⟩ := rng_at hx
      generalize hk : (0 : Int) + (fs.length : Int) = k
      repeat (walk_at "z")
      refine z_slS (by omega) ?_
      repeat (walk_at "z")
      refine z_I (mw (by omega) (by omega) (by omega) (by omega)) ?_
      repeat (walk_at "z")
      refine z_I (by decide) ?_
      repeat (walk_at "z")
      obtain ⟨ch, hch, ech⟩ := at_in (xs := ("abcdefghijklmnopqrstuvwxyz" : Str).cps.toList) (i := (fr + st * k) % 26) (Int.emod_nonneg _ (by decide)) (by rw [Array.length_toList]; exact Int.emod_lt_of_pos _ (by decide))
      refine z_ixS (by rw [abc_len]; decide) ech ?_
      have l1 : (cutS stem none (some at_)).length ≤ stem.length := by rw [cutS_len]; have := HT.sIx_le stem.length stem.length (Nat.le_refl _) (some at_); omega
      have hch1 := Lt.one (abc_mem hch)
      have hc1 : (⟨#[ch]⟩ : Str).length = 1 := rfl
      refine z_addS (by omega) ?_
      repeat (walk_at "z")
      refine z_slS (by omega) ?_
      have e1 : (cutS stem none (some at_)).length = at_.toNat := by
        rw [cutS_len]
        show (if at_ < 0 then (at_ + (stem.length : Int)).toNat else min at_.toNat stem.length) - 0 = at_.toNat
        rw [if_neg (by omega)]
        omega
      have e2 : (cutS stem (some at_) none).length = stem.length - at_.toNat := by
        rw [cutS_len]
        show stem.length - (if at_ < 0 then (at_ + (stem.length : Int)).toNat else min at_.toNat stem.length) = stem.length - at_.toNat
        rw [if_neg (by omega)]
        omega
      have e3 : (cutS stem none (some at_) ++ ⟨#[ch]⟩).length = at_.toNat + 1 := by rw [len_app, e1]; rfl
      refine z_addS (by omega) ?_
      have e4 : (cutS stem none (some at_) ++ ⟨#[ch]⟩ ++ cutS stem (some at_) none).length = stem.length + 1 := by rw [len_app, e3, e2]; omega
      have e5 : Lt (cutS stem none (some at_) ++ ⟨#[ch]⟩ ++ cutS stem (some at_) none) := ((hstem.cut _ _).app hch1).app (hstem.cut _ _)
      generalize cutS stem none (some at_) ++ ⟨#[ch]⟩ ++ cutS stem (some at_) none = word at e4 e5
      repeat (walk_at "z")
      refine z_tyO z' 1 rfl ?_
      repeat (walk_at "z")
      refine z_I (by decide) ?_
      repeat (walk_at "z")
      refine z_eqS rfl ?_
      repeat (walk_at "z")
      refine z_b2 (fun _ => ?_) (fun _ => ?_)
      · repeat (walk_at "z")
        refine z_addS (by omega) ?_
        repeat (walk_at "z")
        refine z_append z' 1 rfl (by rw [List.length_map]; omega) fun H'' z'' => ?_
        repeat (walk_at "z")
        refine ⟨_, _, z'', fs ++ [word ++ tail], _, _, by simp, rfl, by simp, fun t ht => ?_, rfl⟩
        rcases List.mem_append.mp ht with ht | ht
        · exact hfs t ht
        · obtain rfl : t = word ++ tail := by simpa using ht
          exact ⟨by rw [len_app]; omega, by rw [len_app]; omega, e5.app tl1⟩
      · repeat (walk_at "z")
        refine z_append z' 1 rfl (by rw [List.length_map]; omega) fun H'' z'' => ?_
        repeat (walk_at "z")
        refine ⟨_, _, z'', fs ++ [word], _, _, by simp, rfl, by simp, fun t ht => ?_, rfl⟩
        rcases List.mem_append.mp ht with ht | ht
        · exact hfs t ht
        · obtain rfl : t = word := by simpa using ht
          exact ⟨by omega, by omega, e5⟩
    · rintro σ G' M' H' ⟨fs, k5, k10, rfl, rfl, hfl, hfs, rfl⟩ z'
      rw [rngV_len] at hfl
      repeat (walk_at "z")
      obtain ⟨z'', n''⟩ := z'.fix2
      exact q fa _ _ o9 fs z'' (sz.trans (Same.new n'')) (hpz.up (Same.new n'')) upd_same (by omega) hfs
end
end LW
namespace LW
open PySem PySem.Spec PyProof.Rows L2 Ys

/-! ### what the words' functions tell -/
def abcL : List Nat := (("abcdefghijklmnopqrstuvwxyz" : Str)).cps.toList
def wordS (s : Str) : Bool := decide (1 ≤ s.length) && (decide (s.length ≤ 8) && s.cps.toList.all fun c => decide (c ∈ abcL))
def isStrD : PyData → Bool
  | .str _ => true
  | _ => false
def wordD : PyData → Bool
  | .str s => wordS s
  | _ => false
def intD : PyData → Bool
  | .int _ => true
  | _ => false
def listD : PyData → Bool
  | .list _ => true
  | .tuple _ => true
  | _ => false
theorem wordD_ns {d : PyData} (h : isStrD d = false) : wordD d = false := by cases d <;> first | rfl | cases h
theorem kit_str (d : PyData) : kitB (tyD d) "str" = some (isStrD d) := by cases d <;> (simp only [tyD, isStrD]; decide +kernel)
theorem all_map_bl {α : Type} (f : α → Bool) (l : List α) : (l.map f).all id = l.all f := by rw [List.all_map]; rfl
/-- texts among it are not too long -/
def ShortD (d : PyData) : Prop := ∀ s, d = .str s → s.length ≤ 100000
section
variable {P : Program} {w : World} {K : PySem.W.Frag} {mg : Str → Option Value} {base : Heap} {f : Addr} {fd : FuncData}
def spWord (K : PySem.W.Frag) : Sp := fun vs H Q _ => ∃ G M v d, vs = [v] ∧ Zp G M H ∧ Dt K G v d ∧ ShortD d ∧ ∀ G1 H1, Zp G1 M H1 → Same G G1 → Q (.bl (wordD d)) H1
theorem ok_is_word (T : Nm K mg) (F : FnP K "is_word" s_is_word f fd) : FnOk P w K mg base CX0 1 f fd ["value"] (spWord K) := by
  have nd : N_is_word.Nodup := sc_is_word.nd
  refine F.ok sc_is_word (fun vs H Q E h => ?_) (fun cdv A outer s H vs Q E hr h => ?_)
  · obtain ⟨G, M, v, d, rfl, _⟩ := h
    rfl
  have hu := hr.units
  refine ⟨_, PSs.nox   (pss_cons (ps_if (PW.pt (pw_or (pt_not (pt_val (pe_callB (kc_isi (K := K)) (by rfl) T.b_isinstance boot_isinstance (pa_cons (pv 0) (pa_cons (pe_bltn (v := .ty "str") (by rfl) T.b_str boot_str rfl) pa_nil))))) (pw_or1 (pt_not (pt_chain o_le o_le pe_int (pe_callB (kc_len (K := K) (P := P) (w := w)) (by rfl) T.b_len PySem.boot_len (pa_cons (pv 0) pa_nil)) (pe_gC T.g_LONGEST_WORD (by rfl))))))) (pss_one (ps_ret pe_bl)) pss_nil)
    (pss_one (ps_ret (pe_callB (kc_all (K := K) rfl) (by rfl) T.b_all boot_all (pa_cons (pe_lc (own := [("letter", 1)]) (tt := tYes) rfl nd (k_any (K := K) (pv 0)) (blkOk_by (N := N_is_word) (sc := defScope s_is_word) (by decide +kernel)) (fun _ _ _ _ _ => (pg_name (i := 1) nd rfl (by first | exact .inl rfl | exact .inr rfl))) (fun _ _ _ _ _ => pts_nil) (fun _ _ _ _ _ => (pe_cmpR (k_in (K := K)) (pv 1) (pe_gC T.g_LETTERS (by rfl)) (by rfl)))) pa_nil))))), ?_⟩
  obtain ⟨G, M, v, d, rfl, z, hd, hs, q⟩ := h
  repeat (walk_at "z")
  refine z_isi (.ty "str") (hd.up z.sub).ty (kit_ty (kit_str d)) ?_
  cases hi : isStrD d with
  | false =>
    repeat (walk_at "z")
    have := q G H z (Same.refl G)
    rw [wordD_ns hi] at this
    exact this
  | true =>
    cases hd with
    | str t =>
      have hl := hs t rfl
      repeat (walk_at "z")
      refine z_lenS hl ?_
      repeat (walk_at "z")
      by_cases c1 : 1 ≤ t.length
      · rw [decide_eq_true (show (1 : Int) ≤ (t.length : Int) by omega)]
        repeat (walk_at "z")
        by_cases c2 : t.length ≤ 8
        · rw [decide_eq_true (show (t.length : Int) ≤ 8 by omega)]
          repeat (walk_at "z")
          refine z_anyS ?_
          repeat (walk_at "z")
          refine z_itS ?_
          refine lc_src src_S (fun i G' M' acc => M' = M ∧ G' = G ∧ acc = ((t.cps.toList.take i).map fun c => V.bl (decide (c ∈ abcL)))) z ⟨rfl, rfl, rfl⟩ (fun _ _ _ _ _ _ _ _ => trivial) ?_ ?_
          · rintro i x G2 M2 acc Dl H2 hx ⟨rfl, rfl, rfl⟩ z2
            obtain ⟨c, hc, rfl⟩ : ∃ c, t.cps.toList[i]? = some c ∧ x = V.str ⟨#[c]⟩ := by
              unfold chrV at hx
              rw [List.getElem?_map] at hx
              cases e : t.cps.toList[i]? with
              | none => rw [e] at hx; cases hx
              | some c => rw [e] at hx; exact ⟨c, rfl, (Option.some.inj hx).symm⟩
            repeat (walk_at "z")
            refine ⟨by rfl, ?_⟩
            repeat (walk_at "z")
            refine z_inS ?_
            refine z_laid z2 (by rw [List.length_map, List.length_take, Array.length_toList]; show min _ t.length ≤ _; omega) ⟨rfl, rfl, ?_⟩
            rw [List.take_add_one, hc]
            simp [abcL]
          · rintro p2 G2 M2 acc G3 H3 ⟨rfl, rfl, rfl⟩ s3 z3 e3
            rw [chrV_len, show t.length = t.cps.toList.length from (Array.length_toList).symm, List.take_length] at e3
            repeat (walk_at "z")
            refine z_all (bs := t.cps.toList.map fun c => decide (c ∈ abcL)) z3 (SqL.of (by rw [List.map_map]; exact e3)) ?_
            have := q G3 H3 z3 s3
            rw [all_map_bl]
            have e : wordD (.str t) = t.cps.toList.all fun c => decide (c ∈ abcL) := by
              show (decide _ && (decide _ && _)) = _
              rw [decide_eq_true c1, decide_eq_true c2]
              rfl
            rw [e] at this
            exact this
        · rw [decide_eq_false (show ¬ (t.length : Int) ≤ 8 by omega)]
          repeat (walk_at "z")
          have := q G H z (Same.refl G)
          have e : wordD (.str t) = false := by
            show (decide _ && (decide _ && _)) = _
            rw [decide_eq_false c2, Bool.false_and, Bool.and_false]
          rw [e] at this
          exact this
      · rw [decide_eq_false (show ¬ (1 : Int) ≤ (t.length : Int) by omega)]
        repeat (walk_at "z")
        have := q G H z (Same.refl G)
        have e : wordD (.str t) = false := by
          show (decide _ && (decide _ && _)) = _
          rw [decide_eq_false c1, Bool.false_and]
        rw [e] at this
        exact this
    | _ => cases hi
end
end LW
namespace LW
open PySem PySem.Spec PyProof.Rows L2 Ys

def boolD : PyData → Bool
  | .bool _ => true
  | _ => false
theorem kit_int (d : PyData) : kitB (tyD d) "int" = some (intD d || boolD d) := by cases d <;> (simp only [tyD, intD, boolD]; decide +kernel)
theorem kit_bool (d : PyData) : kitB (tyD d) "bool" = some (boolD d) := by cases d <;> (simp only [tyD, boolD]; decide +kernel)
def isLD : PyData → Bool
  | .list _ => true
  | _ => false
def isTD : PyData → Bool
  | .tuple _ => true
  | _ => false
theorem kit_list {K : PySem.W.Frag} (d : PyData) : PySem.W.kitAny K (.type (tyD d)) [.type "list", .type "tuple"] = some (listD d) := by
  have k1 : kitB (tyD d) "list" = some (isLD d) := by cases d <;> (simp only [tyD, isLD]; decide +kernel)
  have k2 : kitB (tyD d) "tuple" = some (isTD d) := by cases d <;> (simp only [tyD, isTD]; decide +kernel)
  refine kitAny_cons (kit_ty k1) (fun h => kitAny_cons (kit_ty k2) (fun h2 => ?_) fun h2 => ?_) fun h => ?_
  · rw [kitAny_nil]
    cases d <;> first | rfl | (cases h2; done) | (cases h; done)
  · cases d <;> first | rfl | cases h2
  · cases d <;> first | rfl | cases h
def withinD (a b : Int) : PyData → Bool
  | .int i => decide (a ≤ i) && decide (i ≤ b)
  | _ => false
def itemsD : PyData → List PyData
  | .list ds => ds
  | .tuple ds => ds
  | _ => []
def moreD (m : Option Int) (ds : List PyData) : Bool := match m with
  | none => true
  | some m => decide ((ds.length : Int) ≤ m)
def wordsD (m : Option Int) (d : PyData) : Bool := listD d && (moreD m (itemsD d) && (itemsD d).all wordD)
def strOf : PyData → Str
  | .str s => s
  | _ => ""
def diffD (m : Option Int) (d : PyData) : Bool := wordsD m d && decide ((dd ((itemsD d).map strOf)).length = (itemsD d).length)
def mV : Option Int → V
  | none => .non
  | some i => .int i
section
variable {P : Program} {w : World} {K : PySem.W.Frag} {mg : Str → Option Value} {base : Heap} {f : Addr} {fd : FuncData}
def spInt (K : PySem.W.Frag) : Sp := fun vs H Q _ => ∃ G M v d, vs = [v] ∧ Zp G M H ∧ Dt K G v d ∧ Q (.bl (intD d)) H
theorem ok_is_integer (T : Nm K mg) (F : FnP K "is_integer" s_is_integer f fd) : FnOk P w K mg base CX0 1 f fd ["value"] (spInt K) := by
  have nd : N_is_integer.Nodup := sc_is_integer.nd
  refine F.ok sc_is_integer (fun vs H Q E h => ?_) (fun cdv A outer s H vs Q E hr h => ?_)
  · obtain ⟨G, M, v, d, rfl, _⟩ := h
    rfl
  have hu := hr.units
  refine ⟨_, PSs.nox   (pss_one (ps_ret (pe_and (pe_callB (kc_isi (K := K)) (by rfl) T.b_isinstance boot_isinstance (pa_cons (pv 0) (pa_cons (pe_bltn (v := .ty "int") (by rfl) T.b_int boot_int rfl) pa_nil))) (pe_one (pe_not (pe_callB (kc_isi (K := K)) (by rfl) T.b_isinstance boot_isinstance (pa_cons (pv 0) (pa_cons (pe_bltn (v := .ty "bool") (by rfl) T.b_bool boot_bool rfl) pa_nil)))))))), ?_⟩
  obtain ⟨G, M, v, d, rfl, z, hd, q⟩ := h
  repeat (walk_at "z")
  refine z_isi (.ty "int") (hd.up z.sub).ty (kit_ty (kit_int d)) ?_
  repeat (walk_at "z")
  have e : intD d = ((intD d || boolD d) && !boolD d) := by cases d <;> rfl
  cases h1 : (intD d || boolD d) with
  | false =>
    repeat (walk_at "z")
    rw [e, h1] at q
    exact q
  | true =>
    repeat (walk_at "z")
    refine z_isi (.ty "bool") (hd.up z.sub).ty (kit_ty (kit_bool d)) ?_
    repeat (walk_at "z")
    rw [e, h1, Bool.true_and] at q
    exact q
def spWithin (K : PySem.W.Frag) : Sp := fun vs H Q _ => ∃ G M v d a b, vs = [v, .int a, .int b] ∧ Zp G M H ∧ Dt K G v d ∧ Q (.bl (withinD a b d)) H
theorem ok_is_within (T : Nm K mg) (C_is_integer : Own P w K mg base CX0 1 "is_integer" ["value"] (spInt K)) (F : FnP K "is_within" s_is_within f fd) : FnOk P w K mg base CX0 2 f fd ["value", "least", "most"] (spWithin K) := by
  have nd : N_is_within.Nodup := sc_is_within.nd
  refine F.ok sc_is_within (fun vs H Q E h => ?_) (fun cdv A outer s H vs Q E hr h => ?_)
  · obtain ⟨G, M, v, d, a, b, rfl, _⟩ := h
    rfl
  have hu := hr.units
  refine ⟨_, PSs.nox   (pss_one (ps_ret (pe_and (pe_own C_is_integer (hr.mono (by decide)) (by rfl) pass0 (pa_cons (pv 0) pa_nil)) (pe_one (pe_chain o_le o_le (pv 1) (pv 0) (pv 2)))))), ?_⟩
  obtain ⟨G, M, v, d, a, b, rfl, z, hd, q⟩ := h
  repeat (walk_at "z")
  refine ⟨G, M, v, d, rfl, z, hd, ?_⟩
  repeat (walk_at "z")
  cases hi : intD d with
  | false =>
    repeat (walk_at "z")
    have e : withinD a b d = false := by cases d <;> first | rfl | cases hi
    rw [e] at q
    exact q
  | true =>
    cases hd with
    | int i =>
      repeat (walk_at "z")
      refine z_b2 (fun c => ?_) (fun c => ?_)
      · repeat (walk_at "z")
        have e : withinD a b (.int i) = decide (i ≤ b) := by
          show (decide (a ≤ i) && _) = _
          rw [c]
          rfl
        rw [e] at q
        exact q
      · have e : withinD a b (.int i) = false := by
          show (decide (a ≤ i) && _) = _
          rw [c]
          rfl
        rw [e] at q
        exact q
    | _ => cases hi
def spIsList (K : PySem.W.Frag) : Sp := fun vs H Q _ => ∃ G M v d, vs = [v] ∧ Zp G M H ∧ Ar K G M v d ∧ ∀ G1 H1, Zp G1 M H1 → Same G G1 → Q (.bl (listD d)) H1
theorem ok_is_list (T : Nm K mg) (F : FnP K "is_list" s_is_list f fd) : FnOk P w K mg base CX0 1 f fd ["value"] (spIsList K) := by
  have nd : N_is_list.Nodup := sc_is_list.nd
  refine F.ok sc_is_list (fun vs H Q E h => ?_) (fun cdv A outer s H vs Q E hr h => ?_)
  · obtain ⟨G, M, v, d, rfl, _⟩ := h
    rfl
  have hu := hr.units
  refine ⟨_, PSs.nox   (pss_one (ps_ret (pe_callB (kc_isi (K := K)) (by rfl) T.b_isinstance boot_isinstance (pa_cons (pv 0) (pa_cons (pe_tup (pa_cons (pe_bltn (v := .ty "list") (by rfl) T.b_list boot_list rfl) (pa_cons (pe_bltn (v := .ty "tuple") (by rfl) T.b_tuple boot_tuple rfl) pa_nil))) pa_nil))))), ?_⟩
  obtain ⟨G, M, v, d, rfl, z, hd, q⟩ := h
  repeat (walk_at "z")
  refine z_newT z (by simp) fun p1 G1 H1 z1 s1 e1 => ?_
  repeat (walk_at "z")
  refine z_isi2 z1 e1 (.cons (.ty "list") (.cons (.ty "tuple") .nil)) ((hd.up s1).ty z1) (kit_list d) ?_
  exact q G1 _ z1 s1
abbrev OwnW (P : Program) (w : World) (K : PySem.W.Frag) (mg : Str → Option Value) (base : Heap) : Prop := Own P w K mg base CX0 1 "is_word" ["value"] (spWord K)
abbrev OwnL (P : Program) (w : World) (K : PySem.W.Frag) (mg : Str → Option Value) (base : Heap) : Prop := Own P w K mg base CX0 1 "is_list" ["value"] (spIsList K)
/-- lists that can be looked at -/
def FineD (d : PyData) : Prop := (itemsD d).length ≤ 500 ∧ ∀ e ∈ itemsD d, ShortD e
def spAreWords (K : PySem.W.Frag) : Sp := fun vs H Q _ => ∃ G M v d m, vs = [v, mV m] ∧ Zp G M H ∧ Ar K G M v d ∧ FineD d ∧ ∀ G1 H1, Zp G1 M H1 → Same G G1 → Q (.bl (wordsD m d)) H1
theorem words_lc {G : Hp} {M : List (Addr × HO)} {H : Hp} {J : It} {xs : List V} {ds : List PyData} {OK : Hp → Prop} {σ : L2.St} {Q : VK} {v mv : V} (S : Src J xs OK) (hd : Dts K G xs ds) (z : Zp G M H) (hf : ds.length ≤ 500) (hs : ∀ e ∈ ds, ShortD e)
    (ok : ∀ G' M1 H', Same G G' → Zp G' (M ++ M1) H' → OK H') (q : ∀ p G1 H1, Zp G1 M H1 → Same G G1 → G1 p = some (.lst ((ds.map wordD).map V.bl)) → Q (.ref p) H1) (hσ : σ = [some v, some mv, none]) :
    LcW J (gName 2) tYes (tCall (spWord K) [] E0 (tCons (tVar 2) tNil)) [2] σ H Q := by
  subst hσ
  have hl := hd.len (ds := ds)
  refine lc_src S (fun i G' M' acc => M' = M ∧ Same G G' ∧ acc = ((ds.take i).map wordD).map V.bl) z ⟨rfl, Same.refl G, rfl⟩ ?_ ?_ ?_
  · rintro i G' M' M1 acc H' ⟨rfl, s1, _⟩ z'
    exact ok G' M1 H' s1 z'
  · rintro i x G2 M2 acc Dl H2 hx ⟨rfl, s2, rfl⟩ z2
    obtain ⟨d, h1, h2⟩ := hd.at_ hx
    repeat (walk_at "z")
    refine ⟨by rfl, ?_⟩
    repeat (walk_at "z")
    refine ⟨G2, _, x, d, rfl, z2, h2.up s2, hs d (List.mem_of_getElem? h1), fun G3 H3 z3 s3 => ?_⟩
    refine z_laid z3 (by rw [List.length_map, List.length_map, List.length_take]; omega) ⟨rfl, s2.trans s3, ?_⟩
    rw [List.take_add_one, h1]
    simp
  · rintro p2 G2 M2 acc G3 H3 ⟨rfl, s2, rfl⟩ s3 z3 e3
    rw [hl, List.take_length] at e3
    exact q p2 G3 H3 z3 (s2.trans s3) e3
theorem ok_are_words (T : Nm K mg) (C_is_word : OwnW P w K mg base) (C_is_list : OwnL P w K mg base) (F : FunD K "are_words" "are_words" (defArgs s_are_words) (defBody s_are_words) (defScope s_are_words) [.non] [] f fd) : FnOk P w K mg base CX0 2 f fd ["value", "most"] (spAreWords K) := by
  have nd : N_are_words.Nodup := sc_are_words.nd
  refine F.ok sc_are_words (fun vs H Q E h => ?_) (fun cdv A outer s H vs Q E hr h => ?_)
  · obtain ⟨G, M, v, d, m, rfl, _⟩ := h
    rfl
  have hu := hr.units
  refine ⟨_, PSs.nox   (pss_cons (ps_if (PW.pt (pw_or (pt_not (pt_val (pe_own C_is_list (hr.mono (by decide)) (by rfl) pass0 (pa_cons (pv 0) pa_nil)))) (pw_or1 (PW.pt (pw_and (pt_cmpR o_notN (pv 1) pe_non (nomark _)) (pw_and1 (pt_cmpR o_gt (pe_callB (kc_len (K := K) (P := P) (w := w)) (by rfl) T.b_len PySem.boot_len (pa_cons (pv 0) pa_nil)) (pv 1) (nomark _)))))))) (pss_one (ps_ret pe_bl)) pss_nil)
    (pss_one (ps_ret (pe_callB (kc_all (K := K) rfl) (by rfl) T.b_all boot_all (pa_cons (pe_lc (own := [("word", 2)]) (tt := tYes) rfl nd (k_any (K := K) (pv 0)) (blkOk_by (N := N_are_words) (sc := defScope s_are_words) (by decide +kernel)) (fun _ _ _ _ _ => (pg_name (i := 2) nd rfl (by first | exact .inl rfl | exact .inr rfl))) (fun _ _ _ _ _ => pts_nil) (fun _ _ _ _ _ => (pe_own C_is_word (hr.mono (by decide)) (by rfl) pass0 (pa_cons (pv 2) pa_nil)))) pa_nil))))), ?_⟩
  obtain ⟨G, M, v, d, m, rfl, z, hd, ⟨hf, hs⟩, q⟩ := h
  repeat (walk_at "z")
  refine ⟨G, M, v, d, rfl, z, hd, fun G1 H1 z1 s1 => ?_⟩
  repeat (walk_at "z")
  cases hl : listD d with
  | false =>
    repeat (walk_at "z")
    have e : wordsD m d = false := by
      unfold wordsD
      rw [hl]
      rfl
    have := q G1 H1 z1 s1
    rw [e] at this
    exact this
  | true =>
    have big : ∀ (J : It) (a : Addr) (xs : List V) (OK : Hp → Prop), Src J xs OK → Dts K G xs (itemsD d) → (∀ G' M1 H', Same G G' → Zp G' (M ++ M1) H' → OK H') →
        ∀ Q2 : VK, (moreD m (itemsD d) = true → (∀ p G2 H2, Zp G2 M H2 → Same G1 G2 → G2 p = some (.lst (((itemsD d).map wordD).map V.bl)) → Q2 (.ref p) H2) → LcW J (gName 2) tYes (tCall (spWord K) [] E0 (tCons (tVar 2) tNil)) [2] (L2.start N_are_words [v, mV m]) H1 Q2) :=
      fun J a xs OK S hD ok Q2 hm q2 => words_lc S (hD.up s1) z1 hf hs (fun G' M1 H' s' z' => ok G' M1 H' (s1.trans s') z') (fun p G2 H2 z2 s2 e2 => q2 p G2 H2 z2 s2 e2) rfl
    have no : moreD m (itemsD d) = false → Q (.bl false) H1 := fun hm => by
      have e : wordsD m d = false := by
        unfold wordsD
        rw [hm, Bool.false_and, Bool.and_false]
      have := q G1 H1 z1 s1
      rw [e] at this
      exact this
    have yes : moreD m (itemsD d) = true → ∀ p G2 H2, Zp G2 M H2 → Same G1 G2 → G2 p = some (.lst (((itemsD d).map wordD).map V.bl)) → rAllG K [.ref p] H2 Q := fun hm p G2 H2 z2 s2 e2 => by
      refine z_all z2 (SqL.of e2) ?_
      have e : wordsD m d = ((itemsD d).map wordD).all id := by
        unfold wordsD
        rw [hl, hm, all_map_bl]
        rfl
      have := q G2 H2 z2 (s1.trans s2)
      rw [e] at this
      exact this
    cases d with
    | list ds =>
      obtain ⟨a, xs, rfl, k1, k2, k3⟩ := hd.list z
      have h1 := k3 G1 H1 z1 s1
      have h2 := k2.up s1
      cases m with
      | none =>
        repeat (walk_at "z")
        refine z_nN ?_
        repeat (walk_at "z")
        rw [show decide (mV none = V.non) = true from rfl]
        repeat (walk_at "z")
        refine z_anyL ?_
        repeat (walk_at "z")
        refine z_itLH h1 ?_
        refine big _ a xs _ src_L k2 (fun G' M1 H' s' z' => k3 G' H' z'.cut s') _ rfl (fun p G2 H2 z2 s2 e2 => ?_)
        repeat (walk_at "z")
        exact yes rfl p G2 H2 z2 s2 e2
      | some m =>
        repeat (walk_at "z")
        refine z_nN ?_
        repeat (walk_at "z")
        rw [show decide (mV (some m) = V.non) = false from rfl]
        repeat (walk_at "z")
        refine z_lenH (.inl h1) ?_
        rw [h2.len (ds := ds)]
        repeat (walk_at "z")
        refine z_I0 (j := m) ?_
        repeat (walk_at "z")
        cases hm : moreD (some m) ds with
        | false =>
          have : m < (ds.length : Int) := by have := of_decide_eq_false hm; omega
          rw [decide_eq_true this]
          repeat (walk_at "z")
          exact no hm
        | true =>
          have : ¬ m < (ds.length : Int) := by have := of_decide_eq_true hm; omega
          rw [decide_eq_false this]
          repeat (walk_at "z")
          refine z_anyL ?_
          repeat (walk_at "z")
          refine z_itLH h1 ?_
          refine big _ a xs _ src_L k2 (fun G' M1 H' s' z' => k3 G' H' z'.cut s') _ hm (fun p G2 H2 z2 s2 e2 => ?_)
          repeat (walk_at "z")
          exact yes hm p G2 H2 z2 s2 e2
    | tuple ds =>
      obtain ⟨a, xs, rfl, h1, h2⟩ := hd.tup
      cases m with
      | none =>
        repeat (walk_at "z")
        refine z_nN ?_
        repeat (walk_at "z")
        rw [show decide (mV none = V.non) = true from rfl]
        repeat (walk_at "z")
        refine z_anyT ?_
        repeat (walk_at "z")
        refine z_itT z1 (upT s1 h1) ?_
        refine big _ a xs _ src_T h2 (fun G' M1 H' s' z' => z'.seqT (upT s' h1)) _ rfl (fun p G2 H2 z2 s2 e2 => ?_)
        repeat (walk_at "z")
        exact yes rfl p G2 H2 z2 s2 e2
      | some m =>
        repeat (walk_at "z")
        refine z_nN ?_
        repeat (walk_at "z")
        rw [show decide (mV (some m) = V.non) = false from rfl]
        repeat (walk_at "z")
        refine z_lenT z1 (upT s1 h1) ?_
        rw [h2.len (ds := ds)]
        repeat (walk_at "z")
        refine z_I0 (j := m) ?_
        repeat (walk_at "z")
        cases hm : moreD (some m) ds with
        | false =>
          have : m < (ds.length : Int) := by have := of_decide_eq_false hm; omega
          rw [decide_eq_true this]
          repeat (walk_at "z")
          exact no hm
        | true =>
          have : ¬ m < (ds.length : Int) := by have := of_decide_eq_true hm; omega
          rw [decide_eq_false this]
          repeat (walk_at "z")
          refine z_anyT ?_
          repeat (walk_at "z")
          refine z_itT z1 (upT s1 h1) ?_
          refine big _ a xs _ src_T h2 (fun G' M1 H' s' z' => z'.seqT (upT s' h1)) _ hm (fun p G2 H2 z2 s2 e2 => ?_)
          repeat (walk_at "z")
          exact yes hm p G2 H2 z2 s2 e2
    | _ => cases hl
end
end LW
namespace LW
open PySem PySem.Spec PyProof.Rows L2 Ys

theorem strs_of : ∀ {ds : List PyData}, ds.all wordD = true → ds = (ds.map strOf).map PyData.str
  | [], _ => rfl
  | d :: ds, h => by
    obtain ⟨h1, h2⟩ := Bool.and_eq_true_iff.mp (show (wordD d && ds.all wordD) = true from h)
    rw [List.map_cons, List.map_cons, ← strs_of h2]
    cases d <;> first | rfl | cases h1
theorem dts_strs {K : PySem.W.Frag} {G : Hp} : ∀ {xs : List V} {ss : List Str}, Dts K G xs (ss.map PyData.str) → xs = ss.map V.str
  | [], [], _ => rfl
  | _, s :: ss, h => by
    cases h with
    | cons h1 h2 =>
      cases h1
      rw [List.map_cons, ← dts_strs h2]
  | _ :: _, [], h => by cases h
theorem ar_strs {K : PySem.W.Frag} {G H : Hp} {M : List (Addr × HO)} {v : V} {d : PyData} {ss : List Str} (z : Zp G M H) (h : Ar K G M v d) (hl : listD d = true) (hi : itemsD d = ss.map PyData.str) :
    ∃ a, v = .ref a ∧ ∀ G1 H1, Zp G1 M H1 → Same G G1 → SqL K H1 a (ss.map V.str) ∨ SqT K H1 a (ss.map V.str) := by
  cases d with
  | list ds =>
    obtain ⟨a, xs, rfl, h1, h2, h3⟩ := h.list z
    rw [show ds = ss.map PyData.str from hi] at h2
    obtain rfl := dts_strs h2
    exact ⟨a, rfl, fun G1 H1 z1 s1 => .inl (h3 G1 H1 z1 s1)⟩
  | tuple ds =>
    obtain ⟨a, xs, rfl, h1, h2⟩ := h.tup
    rw [show ds = ss.map PyData.str from hi] at h2
    obtain rfl := dts_strs h2
    exact ⟨a, rfl, fun G1 H1 z1 s1 => .inr (z1.seqT (upT s1 h1))⟩
  | _ => cases hl
theorem dd_len {l ss : List Str} (h : ∀ x, x ∈ l ↔ x ∈ ss) (nd : l.Nodup) : l.length = (dd ss).length :=
  ((List.perm_ext_iff_of_nodup nd (dd_nodup ss)).mpr fun x => (h x).trans mem_dd.symm).length_eq
section
variable {P : Program} {w : World} {K : PySem.W.Frag} {mg : Str → Option Value} {base : Heap} {f : Addr} {fd : FuncData}
def spDiff (K : PySem.W.Frag) : Sp := fun vs H Q _ => ∃ G M v d m, vs = [v, mV m] ∧ Zp G M H ∧ Ar K G M v d ∧ FineD d ∧ ∀ G1 H1, Zp G1 M H1 → Same G G1 → Q (.bl (diffD m d)) H1
theorem ok_diff (T : Nm K mg) (C_are_words : Own P w K mg base CX0 2 "are_words" ["value", "most"] (spAreWords K)) (F : FunD K "are_different_words" "are_different_words" (defArgs s_are_different_words) (defBody s_are_different_words) (defScope s_are_different_words) [.non] [] f fd) :
    FnOk P w K mg base CX0 3 f fd ["value", "most"] (spDiff K) := by
  have nd : N_are_different_words.Nodup := sc_are_different_words.nd
  refine F.ok sc_are_different_words (fun vs H Q E h => ?_) (fun cdv A outer s H vs Q E hr h => ?_)
  · obtain ⟨G, M, v, d, m, rfl, _⟩ := h
    rfl
  have hu := hr.units
  refine ⟨_, PSs.nox   (pss_one (ps_ret (pe_and (pe_own C_are_words (hr.mono (by decide)) (by rfl) pass0 (pa_cons (pv 0) (pa_cons (pv 1) pa_nil))) (pe_one (pe_cmpR (k_eq (K := K) hu) (pe_callB (kc_len (K := K) (P := P) (w := w)) (by rfl) T.b_len PySem.boot_len (pa_cons (pe_callTy (kc_set (K := K) (P := P) (w := w) rfl) (by rfl) T.b_set boot_set (pa_cons (pv 0) pa_nil)) pa_nil)) (pe_callB (kc_len (K := K) (P := P) (w := w)) (by rfl) T.b_len PySem.boot_len (pa_cons (pv 0) pa_nil)) (nomark _)))))), ?_⟩
  obtain ⟨G, M, v, d, m, rfl, z, hd, hf, q⟩ := h
  repeat (walk_at "z")
  refine ⟨G, M, v, d, m, rfl, z, hd, hf, fun G1 H1 z1 s1 => ?_⟩
  repeat (walk_at "z")
  cases hw : wordsD m d with
  | false =>
    repeat (walk_at "z")
    have := q G1 H1 z1 s1
    unfold diffD at this
    rw [hw] at this
    exact this
  | true =>
    obtain ⟨hl, h2⟩ := Bool.and_eq_true_iff.mp hw
    obtain ⟨_, h3⟩ := Bool.and_eq_true_iff.mp h2
    have hi := strs_of h3
    obtain ⟨a, rfl, hS⟩ := ar_strs z hd hl hi
    have hlen : ((itemsD d).map strOf).length = (itemsD d).length := List.length_map ..
    have hfl := hf.1
    repeat (walk_at "z")
    refine z_setH z1 (hS G1 H1 z1 s1) (by omega) fun p l G2 H2 z2 s2 e2 m2 nd2 l2 => ?_
    repeat (walk_at "z")
    refine z_lenX z2 e2 (by omega) ?_
    repeat (walk_at "z")
    refine z_lenH (hS G2 _ z2 (s1.trans s2)) ?_
    repeat (walk_at "z")
    refine z_eqS rfl ?_
    have := q G2 _ z2 (s1.trans s2)
    unfold diffD at this
    rw [hw, Bool.true_and, ← dd_len m2 nd2] at this
    rw [List.length_map, hlen]
    have e : decide (V.int (l.length : Int) = V.int ((itemsD d).length : Int)) = decide (l.length = (itemsD d).length) := by
      by_cases c : l.length = (itemsD d).length
      · rw [decide_eq_true c, c]
        exact decide_eq_true rfl
      · rw [decide_eq_false c]
        exact decide_eq_false fun h => c (by have := V.int.inj h; omega)
    rw [e]
    exact this
def spAsc (K : PySem.W.Frag) : Sp := fun vs H Q _ => ∃ G M v d, ∃ ss : List Str, vs = [v] ∧ Zp G M H ∧ Ar K G M v d ∧ listD d = true ∧ itemsD d = ss.map PyData.str ∧ ss.length < 64 ∧
  ∀ p G1 H1, Zp G1 M H1 → Same G G1 → SqT K G1 p ((asc ss).map V.str) → Q (.ref p) H1
theorem ok_asc (T : Nm K mg) (F : FnP K "ascending" s_ascending f fd) : FnOk P w K mg base CX0 1 f fd ["words"] (spAsc K) := by
  have nd : N_ascending.Nodup := sc_ascending.nd
  refine F.ok sc_ascending (fun vs H Q E h => ?_) (fun cdv A outer s H vs Q E hr h => ?_)
  · obtain ⟨G, M, v, d, ss, rfl, _⟩ := h
    rfl
  have hu := hr.units
  refine ⟨_, PSs.nox   (pss_one (ps_ret (pe_callTy (kc_tuple (K := K)) (by rfl) T.b_tuple boot_tuple (pa_cons (pe_callB (kc_sorted (K := K) (P := P) (w := w) rfl) (by rfl) T.b_sorted boot_sorted (pa_cons (pe_callTy (kc_set (K := K) (P := P) (w := w) rfl) (by rfl) T.b_set boot_set (pa_cons (pv 0) pa_nil)) pa_nil)) pa_nil)))), ?_⟩
  obtain ⟨G, M, v, d, ss, rfl, z, hd, hl, hi, hs, q⟩ := h
  obtain ⟨a, rfl, hS⟩ := ar_strs z hd hl hi
  repeat (walk_at "z")
  refine z_setH z (hS G H z (Same.refl G)) (by omega) fun p l G2 H2 z2 s2 e2 m2 nd2 l2 => ?_
  repeat (walk_at "z")
  refine z_sortX z2 e2 m2 nd2 (by omega) fun p3 G3 H3 z3 s3 e3 => ?_
  repeat (walk_at "z")
  exact z_tupL z3 (SqL.of e3) fun p4 G4 H4 z4 s4 h4 => q p4 G4 H4 z4 ((s2.trans s3).trans s4) h4
end
end LW
namespace LW
open PySem PySem.Spec PyProof.Rows L2 Ys

/-! ### tasks -/
structure TkD where
  role : Option Str
  many : Int
  l1 : List Str
  l2 : List Str
  l3 : List Str
  l4 : List Str
def rV : Option Str → V
  | none => .non
  | some s => .str s
def rP : Option Str → PyData
  | none => .none
  | some s => .str s
theorem rDt {K : PySem.W.Frag} {G : Hp} (r : Option Str) : Dt K G (rV r) (rP r) := by cases r <;> constructor
structure TaskC (K : PySem.W.Frag) (C : Addr) : Prop where
  cl : Cls K C
  n1 : NoAttr K C "own_role"
  n2 : NoAttr K C "own_many"
  n3 : NoAttr K C "own_other"
  n4 : NoAttr K C "own_same"
  n5 : NoAttr K C "own_takes"
  n6 : NoAttr K C "own_forgets"
def tfs (t : TkD) (t1 t2 t3 t4 : Addr) : List (Str × V) := [("own_role", rV t.role), ("own_many", .int t.many), ("own_other", .ref t1), ("own_same", .ref t2), ("own_takes", .ref t3), ("own_forgets", .ref t4)]
def TkI (K : PySem.W.Frag) (G : Hp) (C a : Addr) (t : TkD) : Prop := ∃ dx t1 t2 t3 t4, G a = some (.ins C dx (tfs t t1 t2 t3 t4)) ∧ SqT K G t1 (t.l1.map V.str) ∧ SqT K G t2 (t.l2.map V.str) ∧ SqT K G t3 (t.l3.map V.str) ∧ SqT K G t4 (t.l4.map V.str)
theorem TkI.up {K : PySem.W.Frag} {G G1 : Hp} {C a : Addr} {t : TkD} (s : Same G G1) (h : TkI K G C a t) : TkI K G1 C a t := by
  obtain ⟨dx, t1, t2, t3, t4, h0, h1, h2, h3, h4⟩ := h
  exact ⟨dx, t1, t2, t3, t4, s _ _ h0, upT s h1, upT s h2, upT s h3, upT s h4⟩
structure OkL (d : PyData) (ss : List Str) : Prop where
  li : listD d = true
  it : itemsD d = ss.map PyData.str
  wd : ∀ s ∈ ss, wordS s = true
  nd : ss.Nodup
  le : ss.length ≤ 60
theorem strOf_map : ∀ ss : List Str, (ss.map PyData.str).map strOf = ss
  | [] => rfl
  | s :: ss => congrArg (s :: ·) (strOf_map ss)
theorem wordS_len {s : Str} (h : wordS s = true) : s.length ≤ 8 := by
  obtain ⟨_, h2⟩ := Bool.and_eq_true_iff.mp h
  obtain ⟨h3, _⟩ := Bool.and_eq_true_iff.mp h2
  exact of_decide_eq_true h3
theorem OkL.fine {d : PyData} {ss : List Str} (h : OkL d ss) : FineD d := by
  refine ⟨by rw [h.it, List.length_map]; have := h.le; omega, fun e he => ?_⟩
  rw [h.it] at he
  obtain ⟨s, hs, rfl⟩ := List.mem_map.mp he
  rintro s' e'
  cases e'
  have := wordS_len (h.wd s hs)
  omega
theorem OkL.diff {d : PyData} {ss : List Str} (h : OkL d ss) : diffD none d = true := by
  unfold diffD wordsD
  rw [h.li, h.it, strOf_map, List.length_map]
  have e : (ss.map PyData.str).all wordD = true := by
    rw [List.all_eq_true]
    intro x hx
    obtain ⟨s, hs, rfl⟩ := List.mem_map.mp hx
    exact h.wd s hs
  rw [e, ← dd_len (fun x => Iff.rfl) h.nd]
  simp [moreD]
theorem ar_up {K : PySem.W.Frag} {G G1 : Hp} {M M1 : List (Addr × HO)} {v : V} {d : PyData} (h : Ar K G M v d) (s : Same G G1) (t : ∀ u ∈ M, u ∈ M1) : Ar K G1 M1 v d := (h.up s).sub t
section
variable {P : Program} {w : World} {K : PySem.W.Frag} {mg : Str → Option Value} {base : Heap} {f : Addr} {fd : FuncData} {C : Addr}
def OkRole (r : Option Str) : Prop := ∀ s, r = some s → wordS s = true
def spInit (K : PySem.W.Frag) (C : Addr) : Sp := fun vs H Q _ => ∃ x dx G M r m v1 v2 v3 v4 d1 d2 d3 d4, ∃ s1 s2 s3 s4 : List Str, vs = [.ref x, rV r, .int m, v1, v2, v3, v4] ∧ Zp G (M ++ [(x, .ins C dx [])]) H ∧ OkRole r ∧ 1 ≤ m ∧ m ≤ 3 ∧
  (Ar K G M v1 d1 ∧ OkL d1 s1) ∧ (Ar K G M v2 d2 ∧ OkL d2 s2) ∧ (Ar K G M v3 d3 ∧ OkL d3 s3) ∧ (Ar K G M v4 d4 ∧ OkL d4 s4) ∧
  ∀ G1 H1, Zp G1 M H1 → Same G G1 → TkI K G1 C x ⟨r, m, asc s1, asc s2, asc s3, asc s4⟩ → Q .non H1
theorem ok_init (T : Nm K mg) (TC : TaskC K C) (C_is_word : OwnW P w K mg base) (C_is_within : Own P w K mg base CX0 2 "is_within" ["value", "least", "most"] (spWithin K))
    (C_are_different_words_1 : OwnA P w K mg base CX0 3 "are_different_words" ["value", "most"] [.non] (spDiff K)) (C_ascending : Own P w K mg base CX0 1 "ascending" ["words"] (spAsc K))
    {kws : List (Str × V)} (F : FunD K "__init__" "Task.__init__" (defArgs s_Task_init) (defBody s_Task_init) (defScope s_Task_init) [.non] kws f fd) :
    FnOk P w K mg base CX0 4 f fd ["self", "role", "many", "other", "same", "takes", "forgets"] (spInit K C) := by
  have nd : N_Task_init.Nodup := sc_Task_init.nd
  refine F.ok sc_Task_init (fun vs H Q E h => ?_) (fun cdv A outer s H vs Q E hr h => ?_)
  · obtain ⟨x, dx, G, M, r, m, v1, v2, v3, v4, d1, d2, d3, d4, s1, s2, s3, s4, rfl, _⟩ := h
    rfl
  have hu := hr.units
  refine ⟨_, PSs.nox   (pss_cons (ps_if (PW.pt (pw_and (pt_cmpR o_notN (pv 1) pe_non (nomark _)) (pw_and1 (pt_not (pt_val (pe_own C_is_word (hr.mono (by decide)) (by rfl) pass0 (pa_cons (pv 1) pa_nil))))))) (pss_one ps_never) pss_nil)
    (pss_cons (ps_if (pt_not (pt_val (pe_own C_is_within (hr.mono (by decide)) (by rfl) pass0 (pa_cons (pv 2) (pa_cons pe_int (pa_cons (pe_gC T.g_MANY (by rfl)) pa_nil)))))) (pss_one ps_never) pss_nil)
    (pss_cons (ps_for PassesOwn.never rfl (k_tup (K := K) (pe_tup (pa_cons (pe_tup (pa_cons pe_str (pa_cons (pv 3) pa_nil))) (pa_cons (pe_tup (pa_cons pe_str (pa_cons (pv 4) pa_nil))) (pa_cons (pe_tup (pa_cons pe_str (pa_cons (pv 5) pa_nil))) (pa_cons (pe_tup (pa_cons pe_str (pa_cons (pv 6) pa_nil))) pa_nil)))))) (kg_tup (K := K) rfl (pgs_cons (pg_name (i := 7) nd rfl (by first | exact .inl rfl | exact .inr rfl)) (pgs_cons (pg_name (i := 8) nd rfl (by first | exact .inl rfl | exact .inr rfl)) pgs_nil))) (pss_one (ps_if (pt_not (pt_val (pe_ownA C_are_different_words_1 (hr.mono (by decide)) (by rfl) pass0 (pa_cons (pv 8) pa_nil)))) (pss_one ps_never) pss_nil)))
    (pss_cons (ps_fld (pv 0) (pv 1) rfl)
    (pss_cons (ps_fld (pv 0) (pv 2) rfl)
    (pss_cons (ps_fld (pv 0) (pe_own C_ascending (hr.mono (by decide)) (by rfl) pass0 (pa_cons (pv 3) pa_nil)) rfl)
    (pss_cons (ps_fld (pv 0) (pe_own C_ascending (hr.mono (by decide)) (by rfl) pass0 (pa_cons (pv 4) pa_nil)) rfl)
    (pss_cons (ps_fld (pv 0) (pe_own C_ascending (hr.mono (by decide)) (by rfl) pass0 (pa_cons (pv 5) pa_nil)) rfl)
    (pss_one (ps_fld (pv 0) (pe_own C_ascending (hr.mono (by decide)) (by rfl) pass0 (pa_cons (pv 6) pa_nil)) rfl)))))))))), ?_⟩
  obtain ⟨x, dx, G, M, r, m, v1, v2, v3, v4, d1, d2, d3, d4, ss1, ss2, ss3, ss4, rfl, z, hr1, hm1, hm2, ⟨a1, o1⟩, ⟨a2, o2⟩, ⟨a3, o3⟩, ⟨a4, o4⟩, q⟩ := h
  have up : ∀ {G : Hp} {v : V} {d : PyData}, Ar K G M v d → Ar K G (M ++ [(x, .ins C dx [])]) v d := fun h => h.sub fun u hu => List.mem_append_left _ hu
  have up2 : ∀ (fs : List (Str × V)), ∀ u ∈ M, u ∈ M ++ [(x, HO.ins C dx fs)] := fun fs u hu => List.mem_append_left _ hu
  with_reducible refine z_cut (fun σ H1 => ∃ G1, Zp G1 (M ++ [(x, .ins C dx [])]) H1 ∧ Same G G1 ∧ σ = L2.start N_Task_init [.ref x, rV r, .int m, v1, v2, v3, v4]) (fun nx hnx => ?_) (fun σ H1 h1 => ?_)
  · repeat (walk_at "z")
    refine z_nN ?_
    repeat (walk_at "z")
    cases r with
    | none =>
      rw [show decide (rV none = V.non) = true from rfl]
      repeat (walk_at "z")
      exact hnx _ _ ⟨G, z, Same.refl G, rfl⟩
    | some rs =>
      rw [show decide (rV (some rs) = V.non) = false from rfl]
      repeat (walk_at "z")
      have hw := hr1 rs rfl
      refine ⟨G, _, .str rs, .str rs, rfl, z, .str rs, ?_, fun G1 H1 z1 s1 => ?_⟩
      · rintro s' e'
        cases e'
        have := wordS_len hw
        omega
      rw [show wordD (.str rs) = true from hw]
      repeat (walk_at "z")
      exact hnx _ _ ⟨G1, z1, s1, rfl⟩
  obtain ⟨G1, z1, s1, rfl⟩ := h1
  with_reducible refine z_cut (fun σ H2 => H2 = H1 ∧ σ = L2.start N_Task_init [.ref x, rV r, .int m, v1, v2, v3, v4]) (fun nx hnx => ?_) (fun σ H2 h2 => ?_)
  · repeat (walk_at "z")
    refine ⟨G1, _, _, .int m, 1, 3, rfl, z1, .int m, ?_⟩
    repeat (walk_at "z")
    rw [show withinD 1 3 (.int m) = true by show (decide (1 ≤ m) && decide (m ≤ 3)) = true; rw [decide_eq_true hm1, decide_eq_true hm2]; rfl]
    repeat (walk_at "z")
    exact hnx _ _ ⟨rfl, rfl⟩
  obtain ⟨rfl, rfl⟩ := h2
  with_reducible refine z_cut (fun σ H3 => ∃ G2 k7 k8, Zp G2 (M ++ [(x, .ins C dx [])]) H3 ∧ Same G1 G2 ∧ σ = [some (.ref x), some (rV r), some (.int m), some v1, some v2, some v3, some v4, k7, k8]) (fun nx hnx => ?_) (fun σ H3 h3 => ?_)
  · repeat (walk_at "z")
    refine z_newT z1 (by simp) fun p2 G2 H2 z2 s2 e2 => ?_
    repeat (walk_at "z")
    refine z_newT z2 (by simp) fun p3 G3 H3 z3 s3 e3 => ?_
    repeat (walk_at "z")
    refine z_newT z3 (by simp) fun p4 G4 H4 z4 s4 e4 => ?_
    repeat (walk_at "z")
    refine z_newT z4 (by simp) fun p5 G5 H5 z5 s5 e5 => ?_
    repeat (walk_at "z")
    refine z_newT z5 (by simp) fun p6 G6 H6 z6 s6 e6 => ?_
    repeat (walk_at "z")
    refine z_itT z6 (SqT.of e6) ?_
    have t0 : Same G G6 := s1.trans (s2.trans (s3.trans (s4.trans (s5.trans s6))))
    refine for_src src_T (fun i σ G' M' => ∃ k7 k8, M' = M ++ [(x, .ins C dx [])] ∧ Same G6 G' ∧ σ = [some (.ref x), some (rV r), some (.int m), some v1, some v2, some v3, some v4, k7, k8]) z6 ⟨_, _, rfl, Same.refl _, rfl⟩
      (fun i σ G' M' H' ⟨_, _, _, s', _⟩ z' => z'.seqT (upT s' (SqT.of e6))) ?_ ?_
    · rintro i x1 σ G' M' H' hx ⟨k7, k8, rfl, s', rfl⟩ z'
      have hmem : x1 ∈ [V.ref p2, V.ref p3, V.ref p4, V.ref p5] := List.mem_of_getElem? hx
      obtain ⟨pp, fl, v, d, ss, rfl, hp, ha, ho⟩ : ∃ pp, ∃ fl : Str, ∃ v d ss, x1 = .ref pp ∧ G6 pp = some (.tup [.str fl, v]) ∧ Ar K G M v d ∧ OkL d ss := by
        simp at hmem
        rcases hmem with rfl | rfl | rfl | rfl
        · exact ⟨p2, _, v1, d1, ss1, rfl, s6 _ _ (s5 _ _ (s4 _ _ (s3 _ _ e2))), a1, o1⟩
        · exact ⟨p3, _, v2, d2, ss2, rfl, s6 _ _ (s5 _ _ (s4 _ _ e3)), a2, o2⟩
        · exact ⟨p4, _, v3, d3, ss3, rfl, s6 _ _ (s5 _ _ e4), a3, o3⟩
        · exact ⟨p5, _, v4, d4, ss4, rfl, s6 _ _ e5, a4, o4⟩
      refine z_gtup z' (SqT.of (s' _ _ hp)) rfl ?_
      repeat (walk_at "z")
      refine ⟨G', _, v, d, none, rfl, z', up (ha.up (t0.trans s')), ho.fine, fun G7 H7 z7 s7 => ?_⟩
      repeat (walk_at "z")
      rw [ho.diff]
      repeat (walk_at "z")
      exact ⟨G7, _, z7, _, _, rfl, s'.trans s7, rfl⟩
    · rintro σ G' M' H' ⟨k7, k8, rfl, s', rfl⟩ z'
      exact hnx _ _ ⟨G', k7, k8, z', s2.trans (s3.trans (s4.trans (s5.trans (s6.trans s')))), rfl⟩
  obtain ⟨G2, k7, k8, z2, s2, rfl⟩ := h3
  have s12 := s1.trans s2
  repeat (walk_at "z")
  refine z_fsL z2 TC.cl TC.n1 (by decide) fun H4 z4 => ?_
  repeat (walk_at "z")
  refine z_fsL z4 TC.cl TC.n2 (by repeat (first | decide | refine putF_lt ?_)) fun H5 z5 => ?_
  repeat (walk_at "z")
  refine ⟨G2, _, v1, d1, ss1, rfl, z5, ar_up a1 s12 (up2 _), o1.li, o1.it, by have := o1.le; omega, fun p6 G6 H6 z6 s6 h6 => ?_⟩
  repeat (walk_at "z")
  refine z_fsL z6 TC.cl TC.n3 (by repeat (first | decide | refine putF_lt ?_)) fun H7 z7 => ?_
  repeat (walk_at "z")
  refine ⟨G6, _, v2, d2, ss2, rfl, z7, ar_up a2 (s12.trans s6) (up2 _), o2.li, o2.it, by have := o2.le; omega, fun p8 G8 H8 z8 s8 h8 => ?_⟩
  repeat (walk_at "z")
  refine z_fsL z8 TC.cl TC.n4 (by repeat (first | decide | refine putF_lt ?_)) fun H9 z9 => ?_
  repeat (walk_at "z")
  refine ⟨G8, _, v3, d3, ss3, rfl, z9, ar_up a3 (s12.trans (s6.trans s8)) (up2 _), o3.li, o3.it, by have := o3.le; omega, fun p10 G10 H10 z10 s10 h10 => ?_⟩
  repeat (walk_at "z")
  refine z_fsL z10 TC.cl TC.n5 (by repeat (first | decide | refine putF_lt ?_)) fun H11 z11 => ?_
  repeat (walk_at "z")
  refine ⟨G10, _, v4, d4, ss4, rfl, z11, ar_up a4 (s12.trans (s6.trans (s8.trans s10))) (up2 _), o4.li, o4.it, by have := o4.le; omega, fun p12 G12 H12 z12 s12' h12 => ?_⟩
  repeat (walk_at "z")
  refine z_fsL z12 TC.cl TC.n6 (by repeat (first | decide | refine putF_lt ?_)) fun H13 z13 => ?_
  have fr : G12 x = none := (z13.own M.length _ _ last_at).2
  have sN := Same.new (o := HO.ins C dx (tfs ⟨r, m, asc ss1, asc ss2, asc ss3, asc ss4⟩ p6 p8 p10 p12)) fr
  refine q _ _ z13.fix (s12.trans (s6.trans (s8.trans (s10.trans (s12'.trans sN))))) ⟨dx, p6, p8, p10, p12, upd_same, upT (s8.trans (s10.trans (s12'.trans sN))) h6, upT (s10.trans (s12'.trans sN)) h8, upT (s12'.trans sN) h10, upT sN h12⟩
end
end LW
namespace LW
open PySem PySem.Spec PyProof.Rows L2 Ys

def strsP (l : List Str) : PyData := .tuple (l.map PyData.str)
def likeP (t : TkD) : PyData := .tuple [rP t.role, .int t.many, .tuple [strsP t.l1, strsP t.l2, strsP t.l3, strsP t.l4]]
def plainP (t : TkD) : PyData := .tuple [rP t.role, .int t.many, strsP t.l1, strsP t.l2, strsP t.l3, strsP t.l4]
structure GoodL (l : List Str) : Prop where
  wd : ∀ s ∈ l, wordS s = true
  le : l.length ≤ 60
structure GoodT (t : TkD) : Prop where
  ro : OkRole t.role
  g1 : GoodL t.l1
  g2 : GoodL t.l2
  g3 : GoodL t.l3
  g4 : GoodL t.l4
theorem wordS_lt {s : Str} (h : wordS s = true) : Lt s := fun c hc => by
  obtain ⟨_, h2⟩ := Bool.and_eq_true_iff.mp h
  obtain ⟨_, h3⟩ := Bool.and_eq_true_iff.mp h2
  exact abc_mem (of_decide_eq_true (List.all_eq_true.mp h3 c hc))
theorem wd_word {s : Str} (h : Wd s) : wordS s = true := by
  unfold wordS
  rw [decide_eq_true h.1, decide_eq_true h.2.1]
  show s.cps.toList.all _ = true
  rw [List.all_eq_true]
  intro c hc
  refine decide_eq_true ?_
  have := h.2.2 c hc
  have e : abcL = (List.range 26).map (· + 97) := by decide +kernel
  rw [e, List.mem_map]
  exact ⟨c - 97, List.mem_range.mpr (by omega), by omega⟩
/-- data that == and repr can be asked of -/
structure Fin (d : PyData) (n : Nat) : Prop where
  cl : d.canLay0 = true
  dp : d.depth ≤ n
theorem Fin.sh {d : PyData} {n : Nat} (h : Fin d n) (hn : n ≤ 60) : SeqAt.shaped d = true := by
  unfold SeqAt.shaped
  rw [h.cl]
  have := h.dp
  simp
  omega
theorem fin_all {n : Nat} : ∀ {ds : List PyData}, (∀ d ∈ ds, Fin d n) → PyData.canLayAll0 ds = true ∧ PyData.depthAll ds ≤ n
  | [], _ => ⟨rfl, Nat.zero_le _⟩
  | d :: ds, h => by
    obtain ⟨h1, h2⟩ := fin_all (ds := ds) fun e he => h e (List.mem_cons_of_mem _ he)
    have h0 := h d (List.mem_cons_self ..)
    refine ⟨?_, ?_⟩
    · show (d.canLay0 && PyData.canLayAll0 ds) = true
      rw [h0.cl, h1]
      rfl
    · show max d.depth (PyData.depthAll ds) ≤ n
      have := h0.dp
      omega
theorem fin_tup {n : Nat} {ds : List PyData} (h : ∀ d ∈ ds, Fin d n) : Fin (.tuple ds) (n + 1) := ⟨(fin_all h).1, Nat.succ_le_succ (fin_all h).2⟩
theorem fin_mono {n m : Nat} {d : PyData} (h : Fin d n) (hn : n ≤ m) : Fin d m := ⟨h.cl, Nat.le_trans h.dp hn⟩
theorem fin_str {s : Str} (h : wordS s = true) : Fin (.str s) 0 := ⟨(wordS_lt h).ok, Nat.zero_le _⟩
theorem fin_int (i : Int) : Fin (.int i) 0 := ⟨rfl, Nat.zero_le _⟩
theorem fin_role {r : Option Str} (h : OkRole r) : Fin (rP r) 0 := by
  cases r with
  | none => exact ⟨rfl, Nat.zero_le _⟩
  | some s => exact fin_str (h s rfl)
theorem fin_strs {l : List Str} (h : GoodL l) : Fin (strsP l) 1 := fin_tup fun d hd => by
  obtain ⟨s, hs, rfl⟩ := List.mem_map.mp hd
  exact fin_str (h.wd s hs)
theorem fin_like {t : TkD} (h : GoodT t) : Fin (likeP t) 3 := by
  refine fin_tup (n := 2) fun d hd => ?_
  rcases List.mem_cons.mp hd with rfl | hd
  · exact fin_mono (fin_role h.ro) (by decide)
  rcases List.mem_cons.mp hd with rfl | hd
  · exact fin_mono (fin_int _) (by decide)
  rcases List.mem_cons.mp hd with rfl | hd
  · refine fin_tup (n := 1) fun d hd => ?_
    rcases List.mem_cons.mp hd with rfl | hd
    · exact fin_strs h.g1
    rcases List.mem_cons.mp hd with rfl | hd
    · exact fin_strs h.g2
    rcases List.mem_cons.mp hd with rfl | hd
    · exact fin_strs h.g3
    rcases List.mem_cons.mp hd with rfl | hd
    · exact fin_strs h.g4
    · cases hd
  · cases hd
theorem fin_plain {t : TkD} (h : GoodT t) : Fin (plainP t) 2 := by
  refine fin_tup (n := 1) fun d hd => ?_
  rcases List.mem_cons.mp hd with rfl | hd
  · exact fin_mono (fin_role h.ro) (by decide)
  rcases List.mem_cons.mp hd with rfl | hd
  · exact fin_mono (fin_int _) (by decide)
  rcases List.mem_cons.mp hd with rfl | hd
  · exact fin_strs h.g1
  rcases List.mem_cons.mp hd with rfl | hd
  · exact fin_strs h.g2
  rcases List.mem_cons.mp hd with rfl | hd
  · exact fin_strs h.g3
  rcases List.mem_cons.mp hd with rfl | hd
  · exact fin_strs h.g4
  · cases hd
structure TaskT (K : PySem.W.Frag) (C : Addr) : Prop where
  cl : Cls K C
  ha : PySem.W.findIn K (.ref C) "__class__" = some (some (.builtin "object.__class__"))
  hn : PySem.W.specialIn K (.builtin "object.__class__") "__get__" = some (some (.builtin "getset_descriptor.__get__"))
  ht : PySem.W.takesIn K (.builtin "object.__class__") = some true
  hm : PySem.W.mroIn K C (.type "object") = some true
  own : ((PySem.W.clsIn K C).isSome && PySem.W.typeIn K (.ref C) == some (.type "type")) = true
theorem TaskT.ty {K : PySem.W.Frag} {C : Addr} (h : TaskT K C) {H : Hp} {a dx : Addr} {fs : List (Str × V)} (e : H a = some (.ins C dx fs)) : TyX K H (.ref a) (.ref C) := .base (.ins e h.cl h.ha h.hn h.ht h.hm)
theorem TkI.obj {K : PySem.W.Frag} {G : Hp} {C a : Addr} {t : TkD} (h : TkI K G C a t) : ∃ dx fs, G a = some (.ins C dx fs) := let ⟨dx, t1, t2, t3, t4, h0, _⟩ := h; ⟨dx, _, h0⟩
section
variable {P : Program} {w : World} {K : PySem.W.Frag} {mg : Str → Option Value} {base : Heap} {f : Addr} {fd : FuncData} {C : Addr}
def spGet (x : Str) (C : Addr) : Sp := fun vs H Q _ => ∃ a dx fs v, vs = [.ref a] ∧ H a = some (.ins C dx fs) ∧ fs.lookup x = some v ∧ Q v H

theorem ok_g1 (TC : TaskC K C) (F : FunD K "role" "Task.role" (defArgs s_Task_role) (defBody s_Task_role) (defScope s_Task_role) [] [] f fd) : FnOk P w K mg base CX0 1 f fd ["self"] (spGet "own_role" C) := by
  have nd : N_Task_role.Nodup := sc_Task_role.nd
  refine F.ok sc_Task_role (fun vs H Q E h => ?_) (fun cdv A outer s H vs Q E hr h => ?_)
  · obtain ⟨a, dx, fs, v, rfl, _⟩ := h
    rfl
  have hu := hr.units
  refine ⟨_, PSs.nox   (pss_one (ps_ret (k_fld (K := K) (pv 0) rfl))), ?_⟩
  obtain ⟨a, dx, fs, v, rfl, ha, l, q⟩ := h
  repeat (walk_at "z")
  exact ⟨a, C, dx, fs, v, rfl, ha, TC.cl, TC.n1, l, q⟩

theorem ok_g2 (TC : TaskC K C) (F : FunD K "many" "Task.many" (defArgs s_Task_many) (defBody s_Task_many) (defScope s_Task_many) [] [] f fd) : FnOk P w K mg base CX0 1 f fd ["self"] (spGet "own_many" C) := by
  have nd : N_Task_many.Nodup := sc_Task_many.nd
  refine F.ok sc_Task_many (fun vs H Q E h => ?_) (fun cdv A outer s H vs Q E hr h => ?_)
  · obtain ⟨a, dx, fs, v, rfl, _⟩ := h
    rfl
  have hu := hr.units
  refine ⟨_, PSs.nox   (pss_one (ps_ret (k_fld (K := K) (pv 0) rfl))), ?_⟩
  obtain ⟨a, dx, fs, v, rfl, ha, l, q⟩ := h
  repeat (walk_at "z")
  exact ⟨a, C, dx, fs, v, rfl, ha, TC.cl, TC.n2, l, q⟩

theorem ok_g3 (TC : TaskC K C) (F : FunD K "other" "Task.other" (defArgs s_Task_other) (defBody s_Task_other) (defScope s_Task_other) [] [] f fd) : FnOk P w K mg base CX0 1 f fd ["self"] (spGet "own_other" C) := by
  have nd : N_Task_other.Nodup := sc_Task_other.nd
  refine F.ok sc_Task_other (fun vs H Q E h => ?_) (fun cdv A outer s H vs Q E hr h => ?_)
  · obtain ⟨a, dx, fs, v, rfl, _⟩ := h
    rfl
  have hu := hr.units
  refine ⟨_, PSs.nox   (pss_one (ps_ret (k_fld (K := K) (pv 0) rfl))), ?_⟩
  obtain ⟨a, dx, fs, v, rfl, ha, l, q⟩ := h
  repeat (walk_at "z")
  exact ⟨a, C, dx, fs, v, rfl, ha, TC.cl, TC.n3, l, q⟩

theorem ok_g4 (TC : TaskC K C) (F : FunD K "same" "Task.same" (defArgs s_Task_same) (defBody s_Task_same) (defScope s_Task_same) [] [] f fd) : FnOk P w K mg base CX0 1 f fd ["self"] (spGet "own_same" C) := by
  have nd : N_Task_same.Nodup := sc_Task_same.nd
  refine F.ok sc_Task_same (fun vs H Q E h => ?_) (fun cdv A outer s H vs Q E hr h => ?_)
  · obtain ⟨a, dx, fs, v, rfl, _⟩ := h
    rfl
  have hu := hr.units
  refine ⟨_, PSs.nox   (pss_one (ps_ret (k_fld (K := K) (pv 0) rfl))), ?_⟩
  obtain ⟨a, dx, fs, v, rfl, ha, l, q⟩ := h
  repeat (walk_at "z")
  exact ⟨a, C, dx, fs, v, rfl, ha, TC.cl, TC.n4, l, q⟩

theorem ok_g5 (TC : TaskC K C) (F : FunD K "takes" "Task.takes" (defArgs s_Task_takes) (defBody s_Task_takes) (defScope s_Task_takes) [] [] f fd) : FnOk P w K mg base CX0 1 f fd ["self"] (spGet "own_takes" C) := by
  have nd : N_Task_takes.Nodup := sc_Task_takes.nd
  refine F.ok sc_Task_takes (fun vs H Q E h => ?_) (fun cdv A outer s H vs Q E hr h => ?_)
  · obtain ⟨a, dx, fs, v, rfl, _⟩ := h
    rfl
  have hu := hr.units
  refine ⟨_, PSs.nox   (pss_one (ps_ret (k_fld (K := K) (pv 0) rfl))), ?_⟩
  obtain ⟨a, dx, fs, v, rfl, ha, l, q⟩ := h
  repeat (walk_at "z")
  exact ⟨a, C, dx, fs, v, rfl, ha, TC.cl, TC.n5, l, q⟩

theorem ok_g6 (TC : TaskC K C) (F : FunD K "forgets" "Task.forgets" (defArgs s_Task_forgets) (defBody s_Task_forgets) (defScope s_Task_forgets) [] [] f fd) : FnOk P w K mg base CX0 1 f fd ["self"] (spGet "own_forgets" C) := by
  have nd : N_Task_forgets.Nodup := sc_Task_forgets.nd
  refine F.ok sc_Task_forgets (fun vs H Q E h => ?_) (fun cdv A outer s H vs Q E hr h => ?_)
  · obtain ⟨a, dx, fs, v, rfl, _⟩ := h
    rfl
  have hu := hr.units
  refine ⟨_, PSs.nox   (pss_one (ps_ret (k_fld (K := K) (pv 0) rfl))), ?_⟩
  obtain ⟨a, dx, fs, v, rfl, ha, l, q⟩ := h
  repeat (walk_at "z")
  exact ⟨a, C, dx, fs, v, rfl, ha, TC.cl, TC.n6, l, q⟩

def spLike (K : PySem.W.Frag) (C : Addr) : Sp := fun vs H Q _ => ∃ G M a t, vs = [.ref a] ∧ Zp G M H ∧ TkI K G C a t ∧ ∀ p G1 H1, Zp G1 M H1 → Same G G1 → Dt K G1 (.ref p) (likeP t) → Q (.ref p) H1
theorem ok_like (TC : TaskC K C) (F : FunD K "likeness" "Task.likeness" (defArgs s_Task_likeness) (defBody s_Task_likeness) (defScope s_Task_likeness) [] [] f fd) : FnOk P w K mg base CX0 1 f fd ["self"] (spLike K C) := by
  have nd : N_Task_likeness.Nodup := sc_Task_likeness.nd
  refine F.ok sc_Task_likeness (fun vs H Q E h => ?_) (fun cdv A outer s H vs Q E hr h => ?_)
  · obtain ⟨G, M, a, t, rfl, _⟩ := h
    rfl
  have hu := hr.units
  refine ⟨_, PSs.nox   (pss_cons (ps_asg (pe_tup (pa_cons (k_fld (K := K) (pv 0) rfl) (pa_cons (k_fld (K := K) (pv 0) rfl) (pa_cons (k_fld (K := K) (pv 0) rfl) (pa_cons (k_fld (K := K) (pv 0) rfl) pa_nil))))) (pg_name (i := 1) nd rfl (by first | exact .inl rfl | exact .inr rfl)))
    (pss_one (ps_ret (pe_tup (pa_cons (k_fld (K := K) (pv 0) rfl) (pa_cons (k_fld (K := K) (pv 0) rfl) (pa_cons (pv 1) pa_nil))))))), ?_⟩
  obtain ⟨G, M, a, t, rfl, z, ⟨dx, t1, t2, t3, t4, h0, h1, h2, h3, h4⟩, q⟩ := h
  repeat (walk_at "z")
  refine z_flI z h0 TC.cl TC.n3 (by rfl) ?_
  repeat (walk_at "z")
  refine z_flI z h0 TC.cl TC.n4 (by rfl) ?_
  repeat (walk_at "z")
  refine z_flI z h0 TC.cl TC.n5 (by rfl) ?_
  repeat (walk_at "z")
  refine z_flI z h0 TC.cl TC.n6 (by rfl) ?_
  repeat (walk_at "z")
  refine z_newT z (by simp) fun p1 G1 H1 z1 s1 e1 => ?_
  repeat (walk_at "z")
  refine z_flI z1 (s1 _ _ h0) TC.cl TC.n1 (by rfl) ?_
  repeat (walk_at "z")
  refine z_flI z1 (s1 _ _ h0) TC.cl TC.n2 (by rfl) ?_
  repeat (walk_at "z")
  refine z_newT z1 (by simp) fun p2 G2 H2 z2 s2 e2 => ?_
  have s12 := s1.trans s2
  exact q p2 G2 _ z2 s12 (.tup (SqT.of e2) (.cons (rDt _) (.cons (.int _) (.cons (.tup (SqT.of (s2 _ _ e1)) (.cons (.tup (upT s12 h1) (dts_str _)) (.cons (.tup (upT s12 h2) (dts_str _)) (.cons (.tup (upT s12 h3) (dts_str _)) (.cons (.tup (upT s12 h4) (dts_str _)) .nil))))) .nil))))
def spEqT (K : PySem.W.Frag) (C : Addr) : Sp := fun vs H Q _ => ∃ G M a t v, vs = [.ref a, v] ∧ Zp G M H ∧ TkI K G C a t ∧ GoodT t ∧
  ((∃ b u, v = .ref b ∧ TkI K G C b u ∧ GoodT u ∧ ∀ G1 H1, Zp G1 M H1 → Same G G1 → Q (.bl (PyData.eqv (likeP t) (likeP u))) H1) ∨ ∃ d, Dt K G v d ∧ Q (.bl false) H)
theorem sub_own (K : PySem.W.Frag) (C : Addr) (d : PyData) : PySem.W.subIn K (.type (tyD d)) (.ref C) = some false := by
  have go : ∀ (T : String) (l : List Value), fastBuiltinMro T = some l → (∀ v ∈ l, ∃ n, v = .type n) → PySem.W.subIn K (.type T) (.ref C) = some false := by
    intro T l e h
    show (fastBuiltinMro T).map (·.contains (.ref C)) = some false
    rw [e]
    show some (l.contains (.ref C)) = some false
    congr 1
    rw [List.contains_eq_any_beq, List.any_eq_false]
    intro v hv
    obtain ⟨n, rfl⟩ := h v hv
    simp
  have h1 : ∀ (a : String), ∀ v ∈ [Value.type a, Value.type "object"], ∃ n, v = .type n := fun a v hv => by
    simp at hv
    rcases hv with rfl | rfl <;> exact ⟨_, rfl⟩
  have h3 : ∀ v ∈ [Value.type "bool", Value.type "int", Value.type "object"], ∃ n, v = .type n := fun v hv => by
    simp at hv
    rcases hv with rfl | rfl | rfl <;> exact ⟨_, rfl⟩
  cases d with
  | none => exact go "NoneType" [.type "NoneType", .type "object"] (by decide +kernel) (h1 _)
  | bool _ => exact go "bool" [.type "bool", .type "int", .type "object"] (by decide +kernel) h3
  | int _ => exact go "int" [.type "int", .type "object"] (by decide +kernel) (h1 _)
  | str _ => exact go "str" [.type "str", .type "object"] (by decide +kernel) (h1 _)
  | list _ => exact go "list" [.type "list", .type "object"] (by decide +kernel) (h1 _)
  | tuple _ => exact go "tuple" [.type "tuple", .type "object"] (by decide +kernel) (h1 _)
  | dict _ => exact go "dict" [.type "dict", .type "object"] (by decide +kernel) (h1 _)
theorem kit_own {K : PySem.W.Frag} {C : Addr} (h : ((PySem.W.clsIn K C).isSome && PySem.W.typeIn K (.ref C) == some (.type "type")) = true) (d : PyData) : PySem.W.kitOne K (.type (tyD d)) (.ref C) = some false := by
  show (if (Value.type (tyD d) == Value.ref C) = true then some true else (if ((PySem.W.clsIn K C).isSome && PySem.W.typeIn K (.ref C) == some (.type "type")) = true then PySem.W.subIn K (.type (tyD d)) (.ref C) else none)) = some false
  rw [if_neg (by simp), if_pos h, sub_own]
theorem nf_own (K : PySem.W.Frag) (C : Addr) (d : PyData) : PySem.W.notFirst K C (.type (tyD d)) = true := by
  unfold PySem.W.notFirst
  rw [sub_own]
  simp
theorem ok_eq (T : Nm K mg) (TT : TaskT K C) (g_Task : mg "Task" = some (.ref C)) (M_likeness : Mth P w K mg base CX0 1 C "likeness" ["self"] [] (spLike K C)) (F : FunD K "__eq__" "Task.__eq__" (defArgs s_Task_eq) (defBody s_Task_eq) (defScope s_Task_eq) [] [] f fd) :
    FnOk P w K mg base CX0 2 f fd ["self", "other"] (spEqT K C) := by
  have nd : N_Task_eq.Nodup := sc_Task_eq.nd
  refine F.ok sc_Task_eq (fun vs H Q E h => ?_) (fun cdv A outer s H vs Q E hr h => ?_)
  · obtain ⟨G, M, a, t, v, rfl, _⟩ := h
    rfl
  have hu := hr.units
  refine ⟨_, PSs.nox   (pss_one (ps_ret (pe_and (pe_callB (kc_isi (K := K)) (by rfl) T.b_isinstance boot_isinstance (pa_cons (pv 1) (pa_cons (pe_glob (v := .ref C) (by rfl) g_Task rfl) pa_nil))) (pe_one (pe_cmpR (k_eq (K := K) hu) (pe_mt0 M_likeness (hr.mono (by decide)) pass0 (pv 0)) (pe_mt0 M_likeness (hr.mono (by decide)) pass0 (pv 1)) (nomark _)))))), ?_⟩
  obtain ⟨G, M, a, t, v, rfl, z, ht, gt, h⟩ := h
  obtain ⟨da, fa, ea⟩ := ht.obj
  rcases h with ⟨b, u, rfl, hu2, gu, q⟩ | ⟨d, hd, q⟩
  · obtain ⟨db, fb, eb⟩ := hu2.obj
    repeat (walk_at "z")
    refine z_isi (.own C) (TT.ty (z.sub _ _ eb)) (if_pos (by simp)) ?_
    repeat (walk_at "z")
    obtain ⟨dx, t1, t2, t3, t4, h0, _⟩ := ht
    refine z_mtI z h0 (by rfl) ?_
    repeat (walk_at "z")
    refine ⟨G, M, a, t, rfl, z, ⟨dx, t1, t2, t3, t4, h0, ‹_›⟩, fun p1 G1 H1 z1 s1 e1 => ?_⟩
    repeat (walk_at "z")
    obtain ⟨dy, u1, u2, u3, u4, k0, k1⟩ := hu2
    refine z_mtI z1 (s1 _ _ k0) (by rfl) ?_
    repeat (walk_at "z")
    refine ⟨G1, M, b, u, rfl, z1, TkI.up s1 ⟨dy, u1, u2, u3, u4, k0, k1⟩, fun p2 G2 H2 z2 s2 e2 => ?_⟩
    repeat (walk_at "z")
    refine z_eqD z2 (e1.up s2) e2 ((fin_like gt).sh (by decide)) ((fin_like gu).sh (by decide)) ?_
    exact q G2 _ z2 (s1.trans s2)
  · repeat (walk_at "z")
    refine z_isi (.own C) (hd.up z.sub).ty (kit_own TT.own d) ?_
    repeat (walk_at "z")
    exact q
end
end LW
namespace LW
open PySem PySem.Spec PyProof.Rows L2 Ys

def itemsT (t : TkD) : List PyData := [rP t.role, .int t.many, strsP t.l1, strsP t.l2, strsP t.l3, strsP t.l4]
/-- an ascending list of words -/
structure SL (l : List Str) : Prop where
  wd : ∀ s ∈ l, wordS s = true
  as : asc l = l
  le : l.length ≤ 20
theorem asc_len (xs : List Str) : (asc xs).length ≤ xs.length := by
  have e : (asc xs).length = (dd xs).length := dd_len (fun x => asc_mem) (asc_nodup xs)
  rw [e]
  have : ∀ l : List Str, (dd l).length ≤ l.length := by
    intro l
    induction l with
    | nil => exact Nat.le_refl _
    | cons y r ih =>
      unfold dd
      split
      · rw [List.length_cons]; omega
      · rw [List.length_cons, List.length_cons]; omega
  exact this xs
theorem SL.of {xs : List Str} (h : ∀ s ∈ xs, wordS s = true) (hl : xs.length ≤ 20) : SL (asc xs) :=
  ⟨fun s hs => h s (asc_mem.mp hs), asc_congr fun x => asc_mem, Nat.le_trans (asc_len xs) hl⟩
theorem SL.nd {l : List Str} (h : SL l) : l.Nodup := by rw [← h.as]; exact asc_nodup l
theorem SL.perm {l m : List Str} (h : SL l) (p : m.Perm l) : asc m = l := by rw [asc_congr (ys := l) fun x => p.mem_iff]; exact h.as
structure PlT (t : TkD) : Prop where
  ro : OkRole t.role
  m0 : 1 ≤ t.many
  m1 : t.many ≤ 3
  g1 : SL t.l1
  g2 : SL t.l2
  g3 : SL t.l3
  g4 : SL t.l4
theorem PlT.good {t : TkD} (h : PlT t) : GoodT t := ⟨h.ro, ⟨h.g1.wd, by have := h.g1.le; omega⟩, ⟨h.g2.wd, by have := h.g2.le; omega⟩, ⟨h.g3.wd, by have := h.g3.le; omega⟩, ⟨h.g4.wd, by have := h.g4.le; omega⟩⟩
section
variable {P : Program} {w : World} {K : PySem.W.Frag} {mg : Str → Option Value} {base : Heap} {f : Addr} {fd : FuncData} {C : Addr}
abbrev OwnS (P : Program) (w : World) (K : PySem.W.Frag) (mg : Str → Option Value) (base : Heap) : Prop := Own P w K mg base CX0 2 "_law_shuffled" ["_law_pen_here", "_law_items"] (spShuf K)
theorem el_wds {G : Hp} {ns : List Str} (h : ∀ s ∈ ns, Wd s) : ∀ v ∈ ns.map V.str, El K G v := fun v hv => by
  obtain ⟨s, hs, rfl⟩ := List.mem_map.mp hv
  exact El.str (h s hs).2.2.ok
theorem role_of {G : Hp} {rs : List Str} (h : ∀ s ∈ rs, Wd s) {v : V} (hv : v ∈ rs.map V.str ++ [V.non]) : ∃ r, v = rV r ∧ OkRole r := by
  rcases List.mem_append.mp hv with hv | hv
  · obtain ⟨s, hs, rfl⟩ := List.mem_map.mp hv
    exact ⟨some s, rfl, fun s' e => by cases e; exact wd_word (h s hs)⟩
  · obtain rfl : v = V.non := by simpa using hv
    exact ⟨none, rfl, fun s' e => by cases e⟩
def spTask (K : PySem.W.Frag) : Sp := fun vs H Q _ => ∃ p o G M b a1 a2, ∃ ns rs : List Str, vs = [.ref p, .ref a1, .ref a2] ∧ Zp G ((p, o) :: M) H ∧ Pen K G b o ∧ b ≤ 100000000000 ∧ G a1 = some (.lst (ns.map V.str)) ∧ G a2 = some (.lst (rs.map V.str)) ∧
  ns.length ≤ 10 ∧ rs.length ≤ 10 ∧ (∀ s ∈ ns, Wd s) ∧ (∀ s ∈ rs, Wd s) ∧
  ∀ a t G1 H1 o1, Zp G1 ((p, o1) :: M) H1 → Same G G1 → Pen K G1 (b + 100) o1 → Dt K G1 (.ref a) (plainP t) → PlT t → Q (.ref a) H1
theorem ok_task (T : Nm K mg) (C_law_pick : OwnP P w K mg base) (C_law_shuffled : OwnS P w K mg base) (F : FnP K "_law_task" s_law_task f fd) : FnOk P w K mg base CX0 3 f fd ["_law_pen_here", "_law_names", "_law_roles"] (spTask K) := by
  have nd : N_law_task.Nodup := sc_law_task.nd
  refine F.ok sc_law_task (fun vs H Q E h => ?_) (fun cdv A outer s H vs Q E hr h => ?_)
  · obtain ⟨p, o, G, M, b, a1, a2, ns, rs, rfl, _⟩ := h
    rfl
  have hu := hr.units
  refine ⟨_, PSs.nox   (pss_cons (ps_asg (pe_lst (pa_cons (pe_own C_law_pick (hr.mono (by decide)) (by rfl) pass0 (pa_cons (pv 0) (pa_cons (pe_op (k_add (K := K)) (pv 2) (pe_lst (pa_cons pe_non pa_nil))) pa_nil))) (pa_cons (pe_own C_law_pick (hr.mono (by decide)) (by rfl) pass0 (pa_cons (pv 0) (pa_cons (pe_lst (pa_cons pe_int (pa_cons pe_int (pa_cons pe_int (pa_cons pe_int (pa_cons pe_int pa_nil)))))) pa_nil))) pa_nil))) (pg_name (i := 3) nd rfl (by first | exact .inl rfl | exact .inr rfl)))
    (pss_cons (ps_for PassesOwn.never rfl (pi_range1 (by rfl) (T.b_range) (pa_cons pe_int pa_nil)) (pg_name (i := 4) nd rfl (by first | exact .inl rfl | exact .inr rfl)) (pss_cons (ps_asg (pe_slice (k_sl (K := K)) (pe_own C_law_shuffled (hr.mono (by decide)) (by rfl) pass0 (pa_cons (pv 0) (pa_cons (pv 1) pa_nil))) po_none (po_some (pe_own C_law_pick (hr.mono (by decide)) (by rfl) pass0 (pa_cons (pv 0) (pa_cons (pe_lst (pa_cons pe_int (pa_cons pe_int (pa_cons pe_int (pa_cons pe_int (pa_cons pe_int (pa_cons pe_int pa_nil))))))) pa_nil))))) (pg_name (i := 5) nd rfl (by first | exact .inl rfl | exact .inr rfl)))
    (pss_one (ps_expr (pe_bm PySem.F.plainAttrs_list PySem.F.slot_list_append PySem.F.type_list_append mt_append (pv 3) (pa_cons (pe_callTy (kc_tuple (K := K)) (by rfl) T.b_tuple boot_tuple (pa_cons (pe_callB (kc_sorted (K := K) (P := P) (w := w) rfl) (by rfl) T.b_sorted boot_sorted (pa_cons (pe_callTy (kc_set (K := K) (P := P) (w := w) rfl) (by rfl) T.b_set boot_set (pa_cons (pv 5) pa_nil)) pa_nil)) pa_nil)) pa_nil))))))
    (pss_one (ps_ret (pe_callTy (kc_tuple (K := K)) (by rfl) T.b_tuple boot_tuple (pa_cons (pv 3) pa_nil)))))), ?_⟩
  obtain ⟨p, o, G, M, b, a1, a2, ns, rs, rfl, z, hp, hb, e1, e2, hn, hr2, wn, wr, q⟩ := h
  repeat (walk_at "z")
  refine z_newL z (by simp) fun q1 G1 H1 z1 s1 f1 => ?_
  repeat (walk_at "z")
  refine z_addL z1 (s1 _ _ e2) f1 (by rw [List.length_map]; simp; omega) fun q2 G2 H2 z2 s2 f2 => ?_
  repeat (walk_at "z")
  refine ⟨p, o, G2, _, b, _, rfl, z2, hp.up (s1.trans s2), by omega, .inl ⟨q2, _, rfl, .inl (SqL.of f2), by simp, by simp; omega, fun v G3 H3 o3 hv z3 s3 hp3 => ?_⟩⟩
  obtain ⟨r, rfl, okr⟩ := role_of (G := G) wr hv
  repeat (walk_at "z")
  refine z_newL z3 (by simp) fun q4 G4 H4 z4 s4 f4 => ?_
  repeat (walk_at "z")
  refine ⟨p, o3, G4, _, b + 1, _, rfl, z4, hp3.up s4, by omega, .inl ⟨q4, _, rfl, .inl (SqL.of f4), by simp, by simp, fun v G5 H5 o5 hv z5 s5 hp5 => ?_⟩⟩
  obtain ⟨m, rfl, m0, m1⟩ : ∃ i, v = V.int i ∧ 1 ≤ i ∧ i ≤ 3 := by
    simp at hv
    rcases hv with rfl | rfl | rfl <;> exact ⟨_, rfl, by decide, by decide⟩
  repeat (walk_at "z")
  refine z_ownP z5 (by simp) fun fa H6 z6 => ?_
  repeat (walk_at "z")
  have sA : Same G G5 := s1.trans (s2.trans (s3.trans (s4.trans s5)))
  refine z_itR (by omega) (by omega) ?_
  refine for_src src_R (fun i σ G' M' => ∃ o' ts k4 k5, ∃ ls : List (List Str), M' = (p, o') :: (fa, .lst (rV r :: .int m :: ts)) :: M ∧ Same G5 G' ∧ Pen K G' (b + 2 + 12 * i) o' ∧ Dts K G' ts (ls.map strsP) ∧ ls.length = i ∧ (∀ l ∈ ls, SL l) ∧
    σ = [some (.ref p), some (.ref a1), some (.ref a2), some (.ref fa), k4, k5]) z6 ⟨o5, [], _, _, [], rfl, Same.refl _, hp5, .nil, rfl, by simp, rfl⟩ (fun _ _ _ _ _ _ _ => trivial) ?_ ?_
  · rintro i x σ G' M' H' hx ⟨o', ts, k4, k5, ls, rfl, s', hp', hd', rfl, hls, rfl⟩ z'
    obtain ⟨hi, rfl⟩ := rng_at hx
    have hi4 : ls.length < 4 := hi
    have htl : ts.length = ls.length := by rw [hd'.len (ds := []), List.length_map]
    repeat (walk_at "z")
    refine ⟨p, o', G', _, _, a1, ns.map V.str, rfl, z', hp', by rw [List.length_map]; omega, .inl (SqL.of (s' _ _ (sA _ _ e1))), el_wds wn, by rw [List.length_map]; omega, fun l ys G7 H7 o7 z7 s7 hp7 pm => ?_⟩
    obtain ⟨ts', rfl, pm'⟩ := perm_strs pm
    rw [List.length_map] at hp7
    repeat (walk_at "z")
    refine z_newL z7 (by simp) fun q8 G8 H8 z8 s8 f8 => ?_
    repeat (walk_at "z")
    refine ⟨p, o7, G8, _, _, _, rfl, z8, hp7.up s8, by omega, .inl ⟨q8, _, rfl, .inl (SqL.of f8), by simp, by simp, fun v G9 H9 o9 hv z9 s9 hp9 => ?_⟩⟩
    obtain ⟨k, rfl, k0, k1⟩ : ∃ i, v = V.int i ∧ 0 ≤ i ∧ i ≤ 2 := by
      simp at hv
      rcases hv with rfl | rfl | rfl <;> exact ⟨_, rfl, by decide, by decide⟩
    repeat (walk_at "z")
    refine z_slO z9 1 rfl fun q10 G10 H10 z10 s10 f10 => ?_
    rw [cut_map] at f10
    generalize hc : (List.take _ _ : List Str) = cs at f10
    have hcs : ∀ s ∈ cs, s ∈ ns := fun s hs => by
      rw [← hc] at hs
      exact pm'.mem_iff.mp (List.mem_of_mem_drop (List.mem_of_mem_take hs))
    have hcl : cs.length ≤ 10 := by
      rw [← hc, List.length_take, List.length_drop]
      have := pm'.length_eq
      omega
    repeat (walk_at "z")
    refine z_tyO z10 2 rfl ?_
    repeat (walk_at "z")
    refine z_set z10 (.inl (SqL.of f10)) (by omega) fun q11 l11 G11 H11 z11 s11 f11 m11 n11 le11 => ?_
    repeat (walk_at "z")
    refine z_sortX z11 f11 m11 n11 (by omega) fun q12 G12 H12 z12 s12 f12 => ?_
    repeat (walk_at "z")
    refine z_tupL z12 (SqL.of f12) fun q13 G13 H13 z13 s13 h13 => ?_
    repeat (walk_at "z")
    refine z_append z13 2 rfl (by simp; omega) fun H14 z14 => ?_
    repeat (walk_at "z")
    have sZ : Same G7 G13 := s8.trans (s9.trans (s10.trans (s11.trans (s12.trans s13))))
    have z15 := z14.keep (M1 := (p, o9) :: (fa, .lst (rV r :: .int m :: ts ++ [V.ref q13])) :: M) (.cons_cons _ (.cons _ (List.Sublist.refl _)))
    refine ⟨_, _, z15, o9, ts ++ [.ref q13], _, _, ls ++ [asc cs], rfl, s'.trans (s7.trans sZ), (hp9.up (s10.trans (s11.trans (s12.trans s13)))).mono ?_, ?_, ?_, ?_, rfl⟩
    · omega
    · rw [List.map_append]
      exact (hd'.up (s7.trans sZ)).snoc (.tup h13 (dts_str _))
    · simp
    · intro l' hl'
      rcases List.mem_append.mp hl' with hl' | hl'
      · exact hls l' hl'
      · obtain rfl : l' = asc cs := by simpa using hl'
        exact SL.of (fun s hs => wd_word (wn s (hcs s hs))) (by omega)
  · rintro σ G' M' H' ⟨o', ts, k4, k5, ls, rfl, s', hp', hd', hlen, hls, rfl⟩ z'
    rw [rngV_len] at hlen hp'
    have hlen : ls.length = 4 := hlen
    obtain ⟨l1, l2, l3, l4, rfl⟩ : ∃ l1 l2 l3 l4, ls = [l1, l2, l3, l4] := by
      match ls, hlen with
      | [l1, l2, l3, l4], _ => exact ⟨l1, l2, l3, l4, rfl⟩
    repeat (walk_at "z")
    refine z_tupO z' 1 rfl fun q2 G2 H2 z2 s2 h2 => ?_
    have z3 := z2.keep (M1 := (p, o') :: M) (.cons_cons _ (.cons _ (List.Sublist.refl _)))
    refine q q2 ⟨r, m, l1, l2, l3, l4⟩ G2 _ o' z3 (sA.trans (s'.trans s2)) ((hp'.up s2).mono ?_) (.tup h2 (.cons (rDt _) (.cons (.int _) (hd'.up s2)))) ⟨okr, m0, m1, hls _ (by simp), hls _ (by simp), hls _ (by simp), hls _ (by simp)⟩
    show _ ≤ b + 100
    have : (4 : Int).toNat = 4 := rfl
    omega
end
end LW
namespace LW
open PySem PySem.Spec PyProof.Rows L2 Ys

theorem plain_inv {K : PySem.W.Frag} {G : Hp} {a : Addr} {t : TkD} (h : Dt K G (.ref a) (plainP t)) : ∃ t1 t2 t3 t4, SqT K G a [rV t.role, .int t.many, .ref t1, .ref t2, .ref t3, .ref t4] ∧ SqT K G t1 (t.l1.map V.str) ∧ SqT K G t2 (t.l2.map V.str) ∧ SqT K G t3 (t.l3.map V.str) ∧ SqT K G t4 (t.l4.map V.str) := by
  have one : ∀ {v : V} {l : List Str}, Dt K G v (strsP l) → ∃ b, v = .ref b ∧ SqT K G b (l.map V.str) := fun h => by
    cases h with
    | tup h1 h2 => rw [dts_strs h2] at h1; exact ⟨_, rfl, h1⟩
  have ro : ∀ {v : V}, Dt K G v (rP t.role) → v = rV t.role := fun h => by
    cases e : t.role with
    | none => rw [e] at h; cases h; rfl
    | some s => rw [e] at h; cases h; rfl
  cases h with
  | tup h0 hd =>
    cases hd with
    | cons k0 hd =>
    cases hd with
    | cons k1 hd =>
    cases hd with
    | cons k2 hd =>
    cases hd with
    | cons k3 hd =>
    cases hd with
    | cons k4 hd =>
    cases hd with
    | cons k5 hd =>
    cases hd
    cases k1
    obtain rfl := ro k0
    obtain ⟨b1, rfl, j1⟩ := one k2
    obtain ⟨b2, rfl, j2⟩ := one k3
    obtain ⟨b3, rfl, j3⟩ := one k4
    obtain ⟨b4, rfl, j4⟩ := one k5
    exact ⟨b1, b2, b3, b4, h0, j1, j2, j3, j4⟩
theorem plain_its {K : PySem.W.Frag} {G : Hp} {a : Addr} {t : TkD} (h : Dt K G (.ref a) (plainP t)) : ∃ xs, SqT K G a xs ∧ Dts K G xs (itemsT t) := by
  cases h with
  | tup h0 hd => exact ⟨_, h0, hd⟩
section
variable {P : Program} {w : World} {K : PySem.W.Frag} {mg : Str → Option Value} {base : Heap} {f : Addr} {fd : FuncData} {C : Addr}
def spUnlike (K : PySem.W.Frag) : Sp := fun vs H Q _ => ∃ p o G M b a1 a2 t, ∃ rs : List Str, vs = [.ref p, .ref a1, .ref a2] ∧ Zp G ((p, o) :: M) H ∧ Pen K G b o ∧ b ≤ 100000000000 ∧ Dt K G (.ref a1) (plainP t) ∧ PlT t ∧ G a2 = some (.lst (rs.map V.str)) ∧
  rs.length ≤ 10 ∧ (∀ s ∈ rs, Wd s) ∧
  ∀ a t1 G1 H1 o1, Zp G1 ((p, o1) :: M) H1 → Same G G1 → Pen K G1 (b + 100) o1 → Dt K G1 (.ref a) (plainP t1) → PlT t1 → Q (.ref a) H1
theorem ok_unlike (T : Nm K mg) (C_law_draw : OwnD P w K mg base) (C_law_pick : OwnP P w K mg base) (C_law_shuffled : OwnS P w K mg base) (F : FnP K "_law_unlike" s_law_unlike f fd) : FnOk P w K mg base CX0 3 f fd ["_law_pen_here", "_law_one", "_law_titles"] (spUnlike K) := by
  have nd : N_law_unlike.Nodup := sc_law_unlike.nd
  refine F.ok sc_law_unlike (fun vs H Q E h => ?_) (fun cdv A outer s H vs Q E hr h => ?_)
  · obtain ⟨p, o, G, M, b, a1, a2, t, rs, rfl, _⟩ := h
    rfl
  have hu := hr.units
  refine ⟨_, PSs.nox   (pss_cons (ps_par (i := 3) (j := 4) (by rfl) nd rfl rfl (by decide) rfl rfl (pa_cons (pe_callTy (kc_list (K := K)) (by rfl) T.b_list boot_list (pa_cons (pv 1) pa_nil)) (pa_cons (pe_own C_law_draw (hr.mono (by decide)) (by rfl) pass0 (pa_cons (pv 0) (pa_cons pe_int pa_nil))) pa_nil)) (by rfl))
    (pss_cons (ps_if (pt_cmpR (k_eq (K := K) hu) (pv 4) pe_int (nomark _)) (pss_one (ps_asg (pe_own C_law_pick (hr.mono (by decide)) (by rfl) pass0 (pa_cons (pv 0) (pa_cons (pe_op (k_add (K := K)) (pv 2) (pe_lst (pa_cons pe_non pa_nil))) pa_nil))) (pg_sub (pv 3) pe_int set_list))) pss_nil)
    (pss_cons (ps_if (pt_cmpR (k_eq (K := K) hu) (pv 4) pe_int (nomark _)) (pss_one (ps_asg (pe_op (k_add (K := K)) pe_int (pe_own C_law_draw (hr.mono (by decide)) (by rfl) pass0 (pa_cons (pv 0) (pa_cons pe_int pa_nil)))) (pg_sub (pv 3) pe_int set_list))) pss_nil)
    (pss_cons (ps_if (pt_chain o_lt o_lt pe_int (pv 4) pe_int) (pss_one (ps_asg (pe_callTy (kc_tuple (K := K)) (by rfl) T.b_tuple boot_tuple (pa_cons (pe_callB (kc_sorted (K := K) (P := P) (w := w) rfl) (by rfl) T.b_sorted boot_sorted (pa_cons (pe_callTy (kc_set (K := K) (P := P) (w := w) rfl) (by rfl) T.b_set boot_set (pa_cons (pe_slice (k_sl (K := K)) (pe_own C_law_shuffled (hr.mono (by decide)) (by rfl) pass0 (pa_cons (pv 0) (pa_cons (pv 2) pa_nil))) po_none (po_some (pe_own C_law_draw (hr.mono (by decide)) (by rfl) pass0 (pa_cons (pv 0) (pa_cons pe_int pa_nil))))) pa_nil)) pa_nil)) pa_nil)) (pg_sub (pv 3) (pv 4) set_list))) pss_nil)
    (pss_one (ps_ret (pe_callTy (kc_tuple (K := K)) (by rfl) T.b_tuple boot_tuple (pa_cons (pv 3) pa_nil)))))))), ?_⟩
  obtain ⟨p, o, G, M, b, a1, a2, t, rs, rfl, z, hp, hb, hd, ht, e2, hrs, wr, q⟩ := h
  obtain ⟨xs, hx1, hx2⟩ := plain_its hd
  repeat (walk_at "z")
  refine z_listP z (.inr hx1) fun fa H1 z1 => ?_
  repeat (walk_at "z")
  refine ⟨p, o, G, _, b, _, rfl, z1, hp, by omega, by decide, by decide, fun at_ G2 H2 o2 z2 s2 hp2 at0 at8 => ?_⟩
  repeat (walk_at "y")
  -- what holds between the ifs
  let I : Nat → L2.St → Hp → Prop := fun c σ H' => ∃ G' o' xs' t', Zp G' ((p, o') :: (fa, .lst xs') :: M) H' ∧ Same G2 G' ∧ Pen K G' (b + c) o' ∧ Dts K G' xs' (itemsT t') ∧ PlT t' ∧ σ = [some (.ref p), some (.ref a1), some (.ref a2), some (.ref fa), some (.int at_)]
  with_reducible refine z_cut (I 2) (fun nx hnx => ?_) (fun σ H3 h3 => ?_)
  · repeat (walk_at "z")
    refine z_eqS rfl ?_
    repeat (walk_at "z")
    refine z_b2 (fun c => ?_) (fun c => ?_)
    · repeat (walk_at "z")
      refine z_newL z2 (by simp) fun q3 G3 H3 z3 s3 f3 => ?_
      repeat (walk_at "z")
      refine z_addL z3 (s3 _ _ (s2 _ _ e2)) f3 (by rw [List.length_map]; simp; omega) fun q4 G4 H4 z4 s4 f4 => ?_
      repeat (walk_at "z")
      refine ⟨p, o2, G4, _, b + 1, _, rfl, z4, hp2.up (s3.trans s4), by omega, .inl ⟨q4, _, rfl, .inl (SqL.of f4), by simp, by simp; omega, fun v G5 H5 o5 hv z5 s5 hp5 => ?_⟩⟩
      obtain ⟨r, rfl, okr⟩ := role_of (G := G) wr hv
      repeat (walk_at "z")
      refine z_setO (j := 0) z5 1 rfl (by have := hx2.len (ds := []); rw [this]; rfl) fun H6 z6 => ?_
      exact hnx _ _ ⟨G5, o5, xs.set 0 (rV r), { t with role := r }, z6, s3.trans (s4.trans s5), hp5, (hx2.up (s2.trans (s3.trans (s4.trans s5)))).set 0 (rDt r), ⟨okr, ht.m0, ht.m1, ht.g1, ht.g2, ht.g3, ht.g4⟩, rfl⟩
    · repeat (walk_at "z")
      exact hnx _ _ ⟨G2, o2, xs, t, z2, Same.refl _, hp2.mono (by omega), hx2.up s2, ht, rfl⟩
  obtain ⟨G3, o3, xs3, t3, z3, s3, hp3, hd3, ht3, rfl⟩ := h3
  with_reducible refine z_cut (I 3) (fun nx hnx => ?_) (fun σ H4 h4 => ?_)
  · repeat (walk_at "z")
    refine z_eqS rfl ?_
    repeat (walk_at "z")
    refine z_b2 (fun c => ?_) (fun c => ?_)
    · repeat (walk_at "z")
      refine ⟨p, o3, G3, _, b + 2, _, rfl, z3, hp3, by omega, by decide, by decide, fun m G5 H5 o5 z5 s5 hp5 m0 m3 => ?_⟩
      repeat (walk_at "z")
      refine z_setO (j := 1) z5 1 rfl (by have := hd3.len (ds := []); rw [this]; rfl) fun H6 z6 => ?_
      exact hnx _ _ ⟨G5, o5, xs3.set 1 (.int (1 + m)), { t3 with many := 1 + m }, z6, s3.trans s5, hp5, (hd3.up s5).set 1 (.int _), ⟨ht3.ro, by show 1 ≤ 1 + m; omega, by show 1 + m ≤ 3; omega, ht3.g1, ht3.g2, ht3.g3, ht3.g4⟩, rfl⟩
    · repeat (walk_at "z")
      exact hnx _ _ ⟨G3, o3, xs3, t3, z3, s3, hp3.mono (by omega), hd3, ht3, rfl⟩
  obtain ⟨G4, o4, xs4, t4, z4, s4, hp4, hd4, ht4, rfl⟩ := h4
  with_reducible refine z_cut (I 40) (fun nx hnx => ?_) (fun σ H5 h5 => ?_)
  · repeat (walk_at "z")
    refine z_b2 (fun c1 => ?_) (fun c1 => ?_)
    · repeat (walk_at "z")
      refine z_b2 (fun c2 => ?_) (fun c2 => ?_)
      · have c1 := of_decide_eq_true c1
        have c2 := of_decide_eq_true c2
        repeat (walk_at "z")
        refine ⟨p, o4, G4, _, b + 3, a2, rs.map V.str, rfl, z4, hp4, by rw [List.length_map]; omega, .inl (SqL.of (s4 _ _ (s2 _ _ e2))), el_wds wr, by rw [List.length_map]; omega, fun l ys G7 H7 o7 z7 s7 hp7 pm => ?_⟩
        obtain ⟨ts', rfl, pm'⟩ := perm_strs pm
        rw [List.length_map] at hp7
        repeat (walk_at "z")
        refine ⟨p, o7, G7, _, _, _, rfl, z7, hp7, by omega, by decide, by decide, fun k G9 H9 o9 z9 s9 hp9 k0 k1 => ?_⟩
        repeat (walk_at "z")
        refine z_slO z9 1 rfl fun q10 G10 H10 z10 s10 f10 => ?_
        rw [cut_map] at f10
        generalize hc : (List.take _ _ : List Str) = cs at f10
        have hcs : ∀ s ∈ cs, s ∈ rs := fun s hs => by
          rw [← hc] at hs
          exact pm'.mem_iff.mp (List.mem_of_mem_drop (List.mem_of_mem_take hs))
        have hcl : cs.length ≤ 10 := by
          rw [← hc, List.length_take, List.length_drop]
          have := pm'.length_eq
          omega
        repeat (walk_at "z")
        refine z_set z10 (.inl (SqL.of f10)) (by omega) fun q11 l11 G11 H11 z11 s11 f11 m11 n11 le11 => ?_
        repeat (walk_at "z")
        refine z_sortX z11 f11 m11 n11 (by omega) fun q12 G12 H12 z12 s12 f12 => ?_
        repeat (walk_at "z")
        refine z_tupL z12 (SqL.of f12) fun q13 G13 H13 z13 s13 h13 => ?_
        repeat (walk_at "z")
        have sZ : Same G4 G13 := s7.trans (s9.trans (s10.trans (s11.trans (s12.trans s13))))
        have hl4 : xs4.length = 6 := hd4.len (ds := [])
        have okS : SL (asc cs) := SL.of (fun s hs => wd_word (wr s (hcs s hs))) (by omega)
        have hpz := (hp9.up (s10.trans (s11.trans (s12.trans s13)))).mono (c := b + 40) (by omega)
        obtain ⟨j, hj, hj2⟩ : ∃ j, ixN xs4.length at_ = some j ∧ (j = 2 ∨ j = 3 ∨ j = 4 ∨ j = 5) := by
          rw [hl4]
          rcases (show at_ = 2 ∨ at_ = 3 ∨ at_ = 4 ∨ at_ = 5 by omega) with rfl | rfl | rfl | rfl
          · exact ⟨2, rfl, .inl rfl⟩
          · exact ⟨3, rfl, .inr (.inl rfl)⟩
          · exact ⟨4, rfl, .inr (.inr (.inl rfl))⟩
          · exact ⟨5, rfl, .inr (.inr (.inr rfl))⟩
        refine z_setO (j := j) z13 2 rfl hj fun H14 z14 => ?_
        have z15 := z14.keep (M1 := (p, o9) :: (fa, .lst (xs4.set j (.ref q13))) :: M) (.cons_cons _ (.cons _ (List.Sublist.refl _)))
        obtain ⟨t5, h5, g5⟩ : ∃ t5, Dts K G13 (xs4.set j (.ref q13)) (itemsT t5) ∧ PlT t5 := by
          have hset := (hd4.up sZ).set j (.tup h13 (dts_str (K := K) (G := G13) (asc cs)))
          rcases hj2 with rfl | rfl | rfl | rfl
          · exact ⟨{ t4 with l1 := asc cs }, hset, ht4.ro, ht4.m0, ht4.m1, okS, ht4.g2, ht4.g3, ht4.g4⟩
          · exact ⟨{ t4 with l2 := asc cs }, hset, ht4.ro, ht4.m0, ht4.m1, ht4.g1, okS, ht4.g3, ht4.g4⟩
          · exact ⟨{ t4 with l3 := asc cs }, hset, ht4.ro, ht4.m0, ht4.m1, ht4.g1, ht4.g2, okS, ht4.g4⟩
          · exact ⟨{ t4 with l4 := asc cs }, hset, ht4.ro, ht4.m0, ht4.m1, ht4.g1, ht4.g2, ht4.g3, okS⟩
        exact hnx _ _ ⟨G13, o9, _, t5, z15, s4.trans sZ, hpz, h5, g5, rfl⟩
      · repeat (walk_at "z")
        exact hnx _ _ ⟨G4, o4, xs4, t4, z4, s4, hp4.mono (by omega), hd4, ht4, rfl⟩
    · repeat (walk_at "z")
      exact hnx _ _ ⟨G4, o4, xs4, t4, z4, s4, hp4.mono (by omega), hd4, ht4, rfl⟩
  obtain ⟨G5, o5, xs5, t5, z5, s5, hp5, hd5, ht5, rfl⟩ := h5
  repeat (walk_at "z")
  refine z_tupO z5 1 rfl fun q6 G6 H6 z6 s6 h6 => ?_
  exact q q6 t5 G6 _ o5 (z6.keep (.cons_cons _ (.cons _ (List.Sublist.refl _)))) (s2.trans (s5.trans s6)) ((hp5.up s6).mono (by omega)) (.tup h6 (hd5.up s6)) ht5
def spShown (K : PySem.W.Frag) (C : Addr) : Sp := fun vs H Q _ => ∃ G M a t, vs = [.ref a] ∧ Zp G M H ∧ TkI K G C a t ∧ ∀ p G1 H1, Zp G1 M H1 → Same G G1 → Dt K G1 (.ref p) (plainP t) → Q (.ref p) H1
abbrev PrpT (P : Program) (w : World) (K : PySem.W.Frag) (mg : Str → Option Value) (base : Heap) (C : Addr) (x y : Str) : Prop := Prp P w K mg base CX0 1 C x (spGet y C)
theorem ok_shown (R_role : PrpT P w K mg base C "role" "own_role") (R_many : PrpT P w K mg base C "many" "own_many") (R_other : PrpT P w K mg base C "other" "own_other") (R_same : PrpT P w K mg base C "same" "own_same") (R_takes : PrpT P w K mg base C "takes" "own_takes") (R_forgets : PrpT P w K mg base C "forgets" "own_forgets")
    (F : FnP K "_law_shown" s_law_shown f fd) : FnOk P w K mg base CX0 3 f fd ["_law_one"] (spShown K C) := by
  have nd : N_law_shown.Nodup := sc_law_shown.nd
  refine F.ok sc_law_shown (fun vs H Q E h => ?_) (fun cdv A outer s H vs Q E hr h => ?_)
  · obtain ⟨G, M, a, t, rfl, _⟩ := h
    rfl
  have hu := hr.units
  refine ⟨_, PSs.nox   (pss_one (ps_ret (pe_tup (pa_cons (pe_pr R_role (hr.mono (by decide)) pass0 (pv 0)) (pa_cons (pe_pr R_many (hr.mono (by decide)) pass0 (pv 0)) (pa_cons (pe_pr R_other (hr.mono (by decide)) pass0 (pv 0)) (pa_cons (pe_pr R_same (hr.mono (by decide)) pass0 (pv 0)) (pa_cons (pe_pr R_takes (hr.mono (by decide)) pass0 (pv 0)) (pa_cons (pe_pr R_forgets (hr.mono (by decide)) pass0 (pv 0)) pa_nil))))))))), ?_⟩
  obtain ⟨G, M, a, t, rfl, z, ⟨dx, t1, t2, t3, t4, h0, h1, h2, h3, h4⟩, q⟩ := h
  repeat (walk_at "z")
  refine z_prI z h0 ⟨a, dx, _, _, rfl, z.sub _ _ h0, (by rfl), ?_⟩
  repeat (walk_at "z")
  refine z_prI z h0 ⟨a, dx, _, _, rfl, z.sub _ _ h0, (by rfl), ?_⟩
  repeat (walk_at "z")
  refine z_prI z h0 ⟨a, dx, _, _, rfl, z.sub _ _ h0, (by rfl), ?_⟩
  repeat (walk_at "z")
  refine z_prI z h0 ⟨a, dx, _, _, rfl, z.sub _ _ h0, (by rfl), ?_⟩
  repeat (walk_at "z")
  refine z_prI z h0 ⟨a, dx, _, _, rfl, z.sub _ _ h0, (by rfl), ?_⟩
  repeat (walk_at "z")
  refine z_prI z h0 ⟨a, dx, _, _, rfl, z.sub _ _ h0, (by rfl), ?_⟩
  repeat (walk_at "z")
  refine z_newT z (by simp) fun p2 G2 H2 z2 s2 e2 => ?_
  exact q p2 G2 _ z2 s2 (.tup (SqT.of e2) (.cons (rDt _) (.cons (.int _) (.cons (.tup (upT s2 h1) (dts_str _)) (.cons (.tup (upT s2 h2) (dts_str _)) (.cons (.tup (upT s2 h3) (dts_str _)) (.cons (.tup (upT s2 h4) (dts_str _)) .nil)))))))
end
end LW
namespace LW
open PySem PySem.Spec PyProof.Rows L2 Ys

def lsT (t : TkD) : List (List Str) := [t.l1, t.l2, t.l3, t.l4]
theorem SL.at_ {t : TkD} (h : PlT t) {l : List Str} (hl : l ∈ lsT t) : SL l := by
  unfold lsT at hl
  simp at hl
  rcases hl with rfl | rfl | rfl | rfl
  · exact h.g1
  · exact h.g2
  · exact h.g3
  · exact h.g4
inductive PL : List (List Str) → List (List Str) → Prop
  | nil : PL [] []
  | cons {a b : List Str} {as bs : List (List Str)} : a.Perm b → PL as bs → PL (a :: as) (b :: bs)
theorem PL.snoc : ∀ {as bs : List (List Str)} {a b : List Str}, PL as bs → a.Perm b → PL (as ++ [a]) (bs ++ [b])
  | _, _, _, _, .nil, h => .cons h .nil
  | _, _, _, _, .cons p q, h => .cons p (PL.snoc q h)
def rsF (r : Addr × List Str) : Addr × HO := (r.1, .lst (r.2.map V.str))
section
variable {P : Program} {w : World} {K : PySem.W.Frag} {mg : Str → Option Value} {base : Heap} {f : Addr} {fd : FuncData} {C : Addr}
def spLists (K : PySem.W.Frag) : Sp := fun vs H Q _ => ∃ p o G M b a t, vs = [.ref p, .ref a] ∧ Zp G ((p, o) :: M) H ∧ Pen K G b o ∧ b ≤ 100000000000 ∧ Dt K G (.ref a) (plainP t) ∧ PlT t ∧
  ∀ res a1 a2 a3 a4 y1 y2 y3 y4 G1 H1 o1, Zp G1 ((p, o1) :: rsF (a4, y4) :: rsF (a3, y3) :: rsF (a2, y2) :: rsF (a1, y1) :: M) H1 → Same G G1 → Pen K G1 (b + 100) o1 → y1.Perm t.l1 → y2.Perm t.l2 → y3.Perm t.l3 → y4.Perm t.l4 →
    G1 res = some (.lst [.ref a1, .ref a2, .ref a3, .ref a4]) → Q (.ref res) H1
theorem ok_lists (T : Nm K mg) (C_law_shuffled : OwnS P w K mg base) (F : FnP K "_law_lists" s_law_lists f fd) : FnOk P w K mg base CX0 3 f fd ["_law_pen_here", "_law_one"] (spLists K) := by
  have nd : N_law_lists.Nodup := sc_law_lists.nd
  refine F.ok sc_law_lists (fun vs H Q E h => ?_) (fun cdv A outer s H vs Q E hr h => ?_)
  · obtain ⟨p, o, G, M, b, a, t, rfl, _⟩ := h
    rfl
  have hu := hr.units
  refine ⟨_, PSs.nox   (pss_one (ps_ret (pe_lc (own := [("_law_k", 2)]) (tt := tYes) rfl nd (pi_range2 (by rfl) (T.b_range) (pa_cons pe_int (pa_cons pe_int pa_nil))) (blkOk_by (N := N_law_lists) (sc := defScope s_law_lists) (by decide +kernel)) (fun _ _ _ _ _ => (pg_name (i := 2) nd rfl (by first | exact .inl rfl | exact .inr rfl))) (fun _ _ _ _ _ => pts_nil) (fun _ _ _ _ _ => (pe_own C_law_shuffled (hr.mono (by decide)) (by rfl) pass0 (pa_cons (pv 0) (pa_cons (pe_callTy (kc_list (K := K)) (by rfl) T.b_list boot_list (pa_cons (pe_ix (k_ix (K := K)) (pv 1) (pv 2) (fun _ _ => rfl)) pa_nil)) pa_nil))))))), ?_⟩
  obtain ⟨p, o, G, M, b, a, t, rfl, z, hp, hb, hd, ht, q⟩ := h
  obtain ⟨t1, t2, t3, t4, h0, h1, h2, h3, h4⟩ := plain_inv hd
  repeat (walk_at "z")
  refine z_itR2 (by omega) ?_
  refine lc_src src_R (fun i G' M' acc => ∃ o', ∃ rs : List (Addr × List Str), M' = (p, o') :: (rs.map rsF ++ M) ∧ Same G G' ∧ Pen K G' (b + 20 * i) o' ∧ acc = (rs.map fun r => V.ref r.1).reverse ∧ rs.length = i ∧ PL (rs.reverse.map (·.2)) ((lsT t).take i)) z
    ⟨o, [], rfl, Same.refl _, hp, rfl, rfl, .nil⟩ (fun _ _ _ _ _ _ _ _ => trivial) ?_ ?_
  · rintro i x G2 M2 acc Dl H2 hx ⟨o2, rs, rfl, s2, hp2, rfl, rfl, hpl⟩ z2
    obtain ⟨hi, rfl⟩ := rng_at hx
    have hi4 : rs.length < 4 := hi
    obtain ⟨tt, l, hat, hl, hS⟩ : ∃ tt l, atI [rV t.role, .int t.many, .ref t1, .ref t2, .ref t3, .ref t4] (2 + (rs.length : Int)) = some (V.ref tt) ∧ (lsT t)[rs.length]? = some l ∧ SqT K G tt (l.map V.str) := by
      rcases (show rs.length = 0 ∨ rs.length = 1 ∨ rs.length = 2 ∨ rs.length = 3 by omega) with e | e | e | e
      · rw [e]; exact ⟨t1, t.l1, rfl, rfl, h1⟩
      · rw [e]; exact ⟨t2, t.l2, rfl, rfl, h2⟩
      · rw [e]; exact ⟨t3, t.l3, rfl, rfl, h3⟩
      · rw [e]; exact ⟨t4, t.l4, rfl, rfl, h4⟩
    have okl := SL.at_ ht (List.mem_of_getElem? hl)
    have hle := okl.le
    repeat (walk_at "z")
    refine ⟨by rfl, ?_⟩
    repeat (walk_at "z")
    refine z_ixT z2 (upT s2 h0) hat ?_
    repeat (walk_at "z")
    refine z_listG z2 (.inr (upT s2 hS)) fun q3 G3 H3 z3 s3 f3 => ?_
    repeat (walk_at "z")
    refine ⟨p, o2, G3, _, _, q3, l.map V.str, rfl, z3, hp2.up s3, by rw [List.length_map]; omega, .inl (SqL.of f3), fun v hv => ?_, by rw [List.length_map]; omega, fun l7 ys G7 H7 o7 z7 s7 hp7 pm => ?_⟩
    · obtain ⟨s, hs, rfl⟩ := List.mem_map.mp hv
      exact El.str (wordS_lt (okl.wd s hs)).ok
    obtain ⟨ts', rfl, pm'⟩ := perm_strs pm
    rw [List.length_map] at hp7
    refine z_laid (M := (p, o7) :: (((l7, ts') :: rs).map rsF ++ M)) z7 (by rw [List.length_reverse, List.length_map]; omega) ⟨o7, (l7, ts') :: rs, rfl, s2.trans (s3.trans s7), hp7.mono (by omega), ?_, by simp, ?_⟩
    · rw [List.map_cons, List.reverse_cons]
    · rw [List.reverse_cons, List.map_append, List.take_add_one, hl]
      exact hpl.snoc pm'
  · rintro p2 G2 M2 acc G3 H3 ⟨o2, rs, rfl, s2, hp2, rfl, hlen, hpl⟩ s3 z3 e3
    rw [rngV_len] at hlen hp2 hpl
    have hlen : rs.length = 4 := hlen
    obtain ⟨r4, r3, r2, r1, rfl⟩ : ∃ r4 r3 r2 r1, rs = [r4, r3, r2, r1] := by
      match rs, hlen with
      | [r4, r3, r2, r1], _ => exact ⟨r4, r3, r2, r1, rfl⟩
    obtain ⟨a4, y4⟩ := r4
    obtain ⟨a3, y3⟩ := r3
    obtain ⟨a2, y2⟩ := r2
    obtain ⟨a1, y1⟩ := r1
    have hpl : PL [y1, y2, y3, y4] [t.l1, t.l2, t.l3, t.l4] := hpl
    cases hpl with
    | cons p1 hpl =>
    cases hpl with
    | cons p2 hpl =>
    cases hpl with
    | cons p3 hpl =>
    cases hpl with
    | cons p4 hpl =>
    exact q _ a1 a2 a3 a4 y1 y2 y3 y4 G3 H3 o2 z3 (s2.trans s3) ((hp2.up s3).mono (by show b + 20 * 4 ≤ _; omega)) p1 p2 p3 p4 e3
end
end LW
namespace LW
open PySem PySem.Spec PyProof.Rows L2 Ys

/-! ### how long, how deep -/
theorem join2 : ∀ ts : List Str, (Str.join ", " ts).length ≤ (ts.map fun t => t.length + 2).sum
  | [] => Nat.zero_le _
  | [x] => by show x.length ≤ _; simp
  | x :: y :: r => by
    have ih := join2 (y :: r)
    show (x ++ ", " ++ Str.join ", " (y :: r)).length ≤ _
    have e2 : ((", " : String) : Str).length = 2 := rfl
    rw [PySem.Str.length_append, PySem.Str.length_append, e2, List.map_cons, List.sum_cons]
    omega
theorem sum_le {n : Nat} : ∀ {ts : List Str}, (∀ t ∈ ts, t.length ≤ n) → (ts.map fun t => t.length + 2).sum ≤ (n + 2) * ts.length
  | [], _ => Nat.zero_le _
  | t :: ts, h => by
    have h1 := h t (List.mem_cons_self ..)
    have h2 := sum_le (ts := ts) fun u hu => h u (List.mem_cons_of_mem _ hu)
    rw [List.map_cons, List.sum_cons, List.length_cons, Nat.mul_add, Nat.mul_one]
    omega
theorem tupleText_le {n : Nat} {ts : List Str} (h : ∀ t ∈ ts, t.length ≤ n) : (tupleText ts).length ≤ (n + 2) * ts.length + 3 := by
  have h1 := join2 ts
  have h2 := sum_le h
  unfold tupleText
  have e1 : ((",)" : String) : Str).length = 2 := rfl
  have e2 : ((")" : String) : Str).length = 1 := rfl
  have e3 : ((if (ts.length == 1) = true then ",)" else ")" : String) : Str).length ≤ 2 := by
    split
    · exact Nat.le_of_eq e1
    · rw [e2]; decide
  rw [PySem.Str.length_append, PySem.Str.length_append]
  have e4 : (("(" : Str)).length = 1 := rfl
  rw [e4]
  omega
theorem shownAll_map : ∀ ds : List PyData, PyData.shownAll ds = ds.map PyData.shown
  | [] => rfl
  | d :: ds => congrArg (PyData.shown d :: ·) (shownAll_map ds)
theorem showAll_all : ∀ {ds : List PyData}, (∀ d ∈ ds, d.showable = true) → PyData.showableAll ds = true
  | [], _ => rfl
  | d :: ds, h => by
    show (d.showable && PyData.showableAll ds) = true
    rw [h d (List.mem_cons_self ..), showAll_all fun e he => h e (List.mem_cons_of_mem _ he)]
    rfl
structure Sh (d : PyData) (n : Nat) : Prop where
  ok : d.showable = true
  le : d.shown.length ≤ n
theorem sh_tup {n : Nat} {ds : List PyData} (h : ∀ d ∈ ds, Sh d n) : Sh (.tuple ds) ((n + 2) * ds.length + 3) := by
  refine ⟨?_, ?_⟩
  · show PyData.showableAll ds = true
    exact showAll_all fun d hd => (h d hd).ok
  · show (tupleText (PyData.shownAll ds)).length ≤ _
    rw [shownAll_map]
    have := tupleText_le (n := n) (ts := ds.map PyData.shown) fun t ht => by
      obtain ⟨d, hd, rfl⟩ := List.mem_map.mp ht
      exact (h d hd).le
    rw [List.length_map] at this
    exact this
theorem sh_mono {n m : Nat} {d : PyData} (h : Sh d n) (hn : n ≤ m) : Sh d m := ⟨h.ok, Nat.le_trans h.le hn⟩
theorem sh_str {s : Str} (h : wordS s = true) : Sh (.str s) 82 := by
  refine ⟨rfl, ?_⟩
  show (reprText s).length ≤ 82
  have := PySem.StrLaws.reprText_len s fun c hc => by have := (wordS_lt h c hc).2; omega
  have := wordS_len h
  omega
theorem sh_role {r : Option Str} (h : OkRole r) : Sh (rP r) 82 := by
  cases r with
  | none => exact ⟨rfl, by show (("None" : Str)).length ≤ 82; decide⟩
  | some s => exact sh_str (h s rfl)
theorem sh_many {m : Int} (h1 : 1 ≤ m) (h2 : m ≤ 3) : Sh (.int m) 82 := by
  rcases (show m = 1 ∨ m = 2 ∨ m = 3 by omega) with rfl | rfl | rfl
  · exact ⟨by decide +kernel, by decide +kernel⟩
  · exact ⟨by decide +kernel, by decide +kernel⟩
  · exact ⟨by decide +kernel, by decide +kernel⟩
theorem sh_strs {l : List Str} (h : SL l) : Sh (strsP l) 1700 := by
  refine sh_mono (sh_tup (n := 82) (ds := l.map PyData.str) fun d hd => ?_) ?_
  · obtain ⟨s, hs, rfl⟩ := List.mem_map.mp hd
    exact sh_str (h.wd s hs)
  · rw [List.length_map]
    have := h.le
    omega
theorem sh_plain {t : TkD} (h : PlT t) : Sh (plainP t) 20000 := by
  refine sh_mono (sh_tup (n := 1700) (ds := itemsT t) fun d hd => ?_) (by show (1700 + 2) * 6 + 3 ≤ _; decide)
  unfold itemsT at hd
  rcases List.mem_cons.mp hd with rfl | hd
  · exact sh_mono (sh_role h.ro) (by decide)
  rcases List.mem_cons.mp hd with rfl | hd
  · exact sh_mono (sh_many h.m0 h.m1) (by decide)
  rcases List.mem_cons.mp hd with rfl | hd
  · exact sh_strs h.g1
  rcases List.mem_cons.mp hd with rfl | hd
  · exact sh_strs h.g2
  rcases List.mem_cons.mp hd with rfl | hd
  · exact sh_strs h.g3
  rcases List.mem_cons.mp hd with rfl | hd
  · exact sh_strs h.g4
  · cases hd
theorem eqv_like (t u : TkD) : PyData.eqv (likeP t) (likeP u) = PyData.eqv (plainP t) (plainP u) := by
  show (PyData.eqv _ _ && (PyData.eqv _ _ && (((PyData.eqv _ _ && (PyData.eqv _ _ && (PyData.eqv _ _ && (PyData.eqv _ _ && true))))) && true))) = (PyData.eqv _ _ && (PyData.eqv _ _ && (PyData.eqv _ _ && (PyData.eqv _ _ && (PyData.eqv _ _ && (PyData.eqv _ _ && true))))))
  rw [Bool.and_true]
/-! ### the own == -/
structure EqC (P : Program) (w : World) (K : PySem.W.Frag) (mg : Str → Option Value) (base : Heap) (CX : CXT) (k : Nat) (C : Addr) (sp : Sp) : Prop where
  ex : ∃ f fd ps, FnOk P w K mg base CX k f fd ps sp ∧ PySem.W.findIn K (.ref C) "__eq__" = some (some (.ref f)) ∧ PySem.W.isFn K (.ref f) = true ∧ Binds K fd ps []
  ne : PySem.W.findIn K (.ref C) "__ne__" = some (some (.builtin "object.__ne__"))
  hm : PySem.W.mroIn K C (.type "object") = some true
section
variable {X : Cx} {K : PySem.W.Frag} {CX : CXT} {k : Nat} {C : Addr} {sp : Sp} {E : XK}
def rEq2 (K : PySem.W.Frag) (C : Addr) (sp : Sp) (E : XK) : R2 := fun x y H Q => Ys.rEqG K x y H Q ∨ rEqI K C sp E x y H Q
def rNe2 (K : PySem.W.Frag) (C : Addr) (sp : Sp) (E : XK) : R2 := fun x y H Q => rNeG K x y H Q ∨ rNeI K C sp E x y H Q
theorem e_eq (EQ : EqC X.prog X.w X.K X.mg X.base CX k C sp) (hu : X.A.units + 64 < cLine) (hr : Room k X.A) (hx : Passes CX X E) (e : X.K = K := by rfl) : OpR X (compareOp .Eq) (rEq2 K C sp E) := by
  subst e
  obtain ⟨f, fd, ps, F, h1, h2, h3⟩ := EQ.ex
  exact (k_eq hu).or (op_eqI F h1 h2 h3 hx hr)
theorem e_ne (EQ : EqC X.prog X.w X.K X.mg X.base CX k C sp) (hu : X.A.units + 64 < cLine) (hr : Room (k + 1) X.A) (hx : Passes CX X E) (e : X.K = K := by rfl) : OpR X (compareOp .NotEq) (rNe2 K C sp E) := by
  subst e
  obtain ⟨f, fd, ps, F, h1, h2, h3⟩ := EQ.ex
  exact (k_ne hu).or (op_neI F h1 EQ.ne EQ.hm h2 h3 hx hr)
end
def gV1 (vs zs : List V) : List V := vs ++ zs
def gVrev (vs zs : List V) : List V := vs ++ zs.reverse
def gVd (ds mz : List V) (vs zs : List V) : List V := vs ++ (ds ++ mz)
def gV1d (mz : List V) (vs zs : List V) : List V := vs ++ mz
def gV0r (mz : List V) (vs zs : List V) : List V := vs ++ (zs ++ mz)
section
variable {P : Program} {w : World} {K : PySem.W.Frag} {mg : Str → Option Value} {base : Heap} {f : Addr} {fd : FuncData} {C : Addr}
structure LawC (P : Program) (w : World) (K : PySem.W.Frag) (mg : Str → Option Value) (base : Heap) (C : Addr) (es : List V) : Prop where
  pen : Own P w K mg base CX0 1 "_law_pen" ["_law_script"] (spPen K)
  words : Own P w K mg base CX0 3 "_law_words" ["_law_pen_here", "_law_count"] (spWords K)
  task : Own P w K mg base CX0 3 "_law_task" ["_law_pen_here", "_law_names", "_law_roles"] (spTask K)
  shown : Own P w K mg base CX0 3 "_law_shown" ["_law_one"] (spShown K C)
  unlike : Own P w K mg base CX0 3 "_law_unlike" ["_law_pen_here", "_law_one", "_law_titles"] (spUnlike K)
  lists : Own P w K mg base CX0 3 "_law_lists" ["_law_pen_here", "_law_one"] (spLists K)
  eq : EqC P w K mg base CX0 2 C (spEqT K C)
  ty : TaskT K C
  b1 : MkS P w K mg base CX0 4 C "Task" 1 ["many", "other", "same", "takes", "forgets"] gV1 (spInit K C)
  b2 : MkS P w K mg base CX0 4 C "Task" 0 ["forgets", "takes", "same", "other", "many", "role"] gVrev (spInit K C)
  b3 : MkS P w K mg base CX0 4 C "Task" 0 [] (gVd [.non] (.int 1 :: es)) (spInit K C)
  b4 : MkS P w K mg base CX0 4 C "Task" 1 [] (gV1d (.int 1 :: es)) (spInit K C)
  b5 : MkS P w K mg base CX0 4 C "Task" 0 ["role"] (gV0r (.int 1 :: es)) (spInit K C)
  es : ∃ e1 e2 e3 e4, es = [.ref e1, .ref e2, .ref e3, .ref e4] ∧ ∀ G, SqT K G e1 [] ∧ SqT K G e2 [] ∧ SqT K G e3 [] ∧ SqT K G e4 []
theorem okl_list {l y : List Str} (h : SL l) (p : y.Perm l) : OkL (.list (y.map PyData.str)) y := ⟨rfl, rfl, fun s hs => h.wd s (p.mem_iff.mp hs), p.nodup_iff.mpr h.nd, by have := p.length_eq; have := h.le; omega⟩
theorem okl_tup {l y : List Str} (h : SL l) (p : y.Perm l) : OkL (strsP y) y := ⟨rfl, rfl, fun s hs => h.wd s (p.mem_iff.mp hs), p.nodup_iff.mpr h.nd, by have := p.length_eq; have := h.le; omega⟩
theorem ar_own {G : Hp} {M : List (Addr × HO)} {a : Addr} {y : List Str} (h : (a, HO.lst (y.map V.str)) ∈ M) : Ar K G M (.ref a) (.list (y.map PyData.str)) := .inr ⟨a, _, _, rfl, h, dts_str _, rfl⟩
theorem ar_tup {G : Hp} {M : List (Addr × HO)} {a : Addr} {y : List Str} (h : SqT K G a (y.map V.str)) : Ar K G M (.ref a) (strsP y) := .inl (.tup h (dts_str _))
theorem eqv_same {d : PyData} {n : Nat} (h : Fin d n) : PyData.eqv d d = true := PySem.SeqAt.eqv_refl d h.cl
theorem four_strs {G : Hp} {acc : List V} {x1 x2 x3 x4 : List Str} (h : Dts K G acc [strsP x1, strsP x2, strsP x3, strsP x4]) : ∃ u1 u2 u3 u4, acc = [.ref u1, .ref u2, .ref u3, .ref u4] ∧ SqT K G u1 (x1.map V.str) ∧ SqT K G u2 (x2.map V.str) ∧ SqT K G u3 (x3.map V.str) ∧ SqT K G u4 (x4.map V.str) := by
  have one : ∀ {v : V} {l : List Str}, Dt K G v (strsP l) → ∃ b, v = .ref b ∧ SqT K G b (l.map V.str) := fun h => by
    cases h with
    | tup h1 h2 => rw [dts_strs h2] at h1; exact ⟨_, rfl, h1⟩
  cases h with
  | cons k0 hd =>
  cases hd with
  | cons k1 hd =>
  cases hd with
  | cons k2 hd =>
  cases hd with
  | cons k3 hd =>
  cases hd
  obtain ⟨u1, rfl, j1⟩ := one k0
  obtain ⟨u2, rfl, j2⟩ := one k1
  obtain ⟨u3, rfl, j3⟩ := one k2
  obtain ⟨u4, rfl, j4⟩ := one k3
  exact ⟨u1, u2, u3, u4, rfl, j1, j2, j3, j4⟩
theorem sl0 : SL [] := ⟨by simp, by simp [asc, dd], by simp⟩
def spLaw (K : PySem.W.Frag) : Sp := fun vs H Q _ => ∃ a, ∃ ns : List Int, vs = [.ref a] ∧ SqL K H a (ns.map V.int) ∧ ns.length ≤ 63 ∧ ∀ H1, Q (.bl true) H1
theorem ok_law {es : List V} (T : Nm K mg) (L : LawC P w K mg base C es) (F : FnP K "law" s_law f fd) : FnG P w K mg base CX0 6 f fd ["_law_script"] (spLaw K) := by
  have nd : N_law.Nodup := sc_law.nd
  have C_law_pen := L.pen
  have C_law_words := L.words
  have C_law_task := L.task
  have C_law_shown := L.shown
  have C_law_unlike := L.unlike
  have C_law_lists := L.lists
  have EQ := L.eq
  have B_Task_1_many_other_same_takes_forgets := L.b1
  have B_Task_0_forgets_takes_same_other_many_role := L.b2
  have B_Task_0_ := L.b3
  have B_Task_1_ := L.b4
  have B_Task_0_role := L.b5
  have TT := L.ty
  refine okG F sc_law (fun vs H Q E h => ?_) (fun cdv A outer s H vs Q E hg hr h => ?_)
  · obtain ⟨a, ns, rfl, _⟩ := h
    rfl
  have hu := hr.units
  refine ⟨_, PSs.nox   (pss_cons (ps_asg (pe_own C_law_pen (hr.mono (by decide)) (by rfl) pass0 (pa_cons (pv 0) pa_nil)) (pg_name (i := 1) nd rfl (by first | exact .inl rfl | exact .inr rfl)))
    (pss_cons (ps_for PassesOwn.never rfl (pi_range1 (by rfl) (T.b_range) (pa_cons (pe_op (k_add (K := K)) pe_int (pe_callB (c_min2 rfl) (by rfl) T.b_min boot_min (pa_cons pe_int (pa_cons (pe_callB (kc_len (K := K) (P := P) (w := w)) (by rfl) T.b_len PySem.boot_len (pa_cons (pv 0) pa_nil)) pa_nil)))) pa_nil)) (pg_name (i := 2) nd rfl (by first | exact .inl rfl | exact .inr rfl)) (pss_cons (ps_asg (pe_own C_law_words (hr.mono (by decide)) (by rfl) pass0 (pa_cons (pv 1) (pa_cons pe_int pa_nil))) (pg_name (i := 3) nd rfl (by first | exact .inl rfl | exact .inr rfl)))
    (pss_cons (ps_asg (pe_own C_law_task (hr.mono (by decide)) (by rfl) pass0 (pa_cons (pv 1) (pa_cons (pe_slice (k_sl (K := K)) (pv 3) po_none (po_some pe_int)) (pa_cons (pe_slice (k_sl (K := K)) (pv 3) (po_some pe_int) po_none) pa_nil)))) (pg_name (i := 4) nd rfl (by first | exact .inl rfl | exact .inr rfl)))
    (pss_cons (ps_asg (pe_own C_law_lists (hr.mono (by decide)) (by rfl) pass0 (pa_cons (pv 1) (pa_cons (pv 4) pa_nil))) (kg_unl (K := K) rfl (pgs_cons (pg_name (i := 9) nd rfl (by first | exact .inl rfl | exact .inr rfl)) (pgs_cons (pg_name (i := 10) nd rfl (by first | exact .inl rfl | exact .inr rfl)) (pgs_cons (pg_name (i := 11) nd rfl (by first | exact .inl rfl | exact .inr rfl)) (pgs_cons (pg_name (i := 12) nd rfl (by first | exact .inl rfl | exact .inr rfl)) pgs_nil))))))
    (pss_cons (ps_asg (pe_mk B_Task_1_many_other_same_takes_forgets (hr.mono (by decide)) (by rfl) pass0 (pa_cons (pe_ix (k_ix (K := K)) (pv 4) pe_int (fun _ _ => rfl)) pa_nil) (pk_cons (pe_ix (k_ix (K := K)) (pv 4) pe_int (fun _ _ => rfl)) (pk_cons (pv 9) (pk_cons (pv 10) (pk_cons (pv 11) (pk_cons (pv 12) pk_nil)))))) (pg_name (i := 5) nd rfl (by first | exact .inl rfl | exact .inr rfl)))
    (pss_cons (ps_for PassesOwn.never rfl (k_tup (K := K) (pe_tup (pa_cons (pv 9) (pa_cons (pv 10) (pa_cons (pv 11) (pa_cons (pv 12) pa_nil)))))) (pg_name (i := 6) nd rfl (by first | exact .inl rfl | exact .inr rfl)) (pss_one (ps_expr (pe_bm PySem.F.plainAttrs_list PySem.F.slot_list_append PySem.F.type_list_append mt_append (pv 6) (pa_cons pe_str pa_nil)))))
    (pss_cons (ps_if (PW.pt (pw_or (pt_cmpR (e_ne EQ hu (hr.mono (by decide)) pass0) (pe_callB (kc_repr (K := K) hg T.sys hu) (by rfl) T.b_repr boot_repr (pa_cons (pe_own C_law_shown (hr.mono (by decide)) (by rfl) pass0 (pa_cons (pv 5) pa_nil)) pa_nil)) (pe_callB (kc_repr (K := K) hg T.sys hu) (by rfl) T.b_repr boot_repr (pa_cons (pv 4) pa_nil)) (nomark _)) (pw_or (pt_cmpR (e_eq EQ hu (hr.mono (by decide)) pass0) (pv 5) (pv 4) (nomark _)) (pw_or1 (pt_cmpR (e_eq EQ hu (hr.mono (by decide)) pass0) (pv 5) (pe_ix (k_ix (K := K)) (pv 4) pe_int (fun _ _ => rfl)) (nomark _)))))) (pss_one (ps_ret pe_bl)) pss_nil)
    (pss_cons (ps_asg (pe_lc (own := [("_law_some", 6)]) (tt := tYes) rfl nd (k_any (K := K) (pe_own C_law_lists (hr.mono (by decide)) (by rfl) pass0 (pa_cons (pv 1) (pa_cons (pv 4) pa_nil)))) (blkOk_by (N := N_law) (sc := defScope s_law) (by decide +kernel)) (fun _ _ _ _ _ => (pg_name (i := 6) nd rfl (by first | exact .inl rfl | exact .inr rfl))) (fun _ _ _ _ _ => pts_nil) (fun _ _ _ _ _ => (pe_callTy (kc_tuple (K := K)) (by rfl) T.b_tuple boot_tuple (pa_cons (pv 6) pa_nil)))) (kg_unl (K := K) rfl (pgs_cons (pg_name (i := 9) nd rfl (by first | exact .inl rfl | exact .inr rfl)) (pgs_cons (pg_name (i := 10) nd rfl (by first | exact .inl rfl | exact .inr rfl)) (pgs_cons (pg_name (i := 11) nd rfl (by first | exact .inl rfl | exact .inr rfl)) (pgs_cons (pg_name (i := 12) nd rfl (by first | exact .inl rfl | exact .inr rfl)) pgs_nil))))))
    (pss_cons (ps_if (pt_cmpR (e_ne EQ hu (hr.mono (by decide)) pass0) (pv 5) (pe_mk0 B_Task_0_forgets_takes_same_other_many_role (hr.mono (by decide)) (by rfl) pass0 (pk_cons (pv 12) (pk_cons (pv 11) (pk_cons (pv 10) (pk_cons (pv 9) (pk_cons (pe_ix (k_ix (K := K)) (pv 4) pe_int (fun _ _ => rfl)) (pk_cons (pe_ix (k_ix (K := K)) (pv 4) pe_int (fun _ _ => rfl)) pk_nil))))))) (nomark _)) (pss_one (ps_ret pe_bl)) pss_nil)
    (pss_cons (ps_asg (pe_own C_law_unlike (hr.mono (by decide)) (by rfl) pass0 (pa_cons (pv 1) (pa_cons (pv 4) (pa_cons (pv 3) pa_nil)))) (pg_name (i := 7) nd rfl (by first | exact .inl rfl | exact .inr rfl)))
    (pss_cons (ps_asg (pe_own C_law_lists (hr.mono (by decide)) (by rfl) pass0 (pa_cons (pv 1) (pa_cons (pv 7) pa_nil))) (kg_unl (K := K) rfl (pgs_cons (pg_name (i := 9) nd rfl (by first | exact .inl rfl | exact .inr rfl)) (pgs_cons (pg_name (i := 10) nd rfl (by first | exact .inl rfl | exact .inr rfl)) (pgs_cons (pg_name (i := 11) nd rfl (by first | exact .inl rfl | exact .inr rfl)) (pgs_cons (pg_name (i := 12) nd rfl (by first | exact .inl rfl | exact .inr rfl)) pgs_nil))))))
    (pss_cons (ps_asg (pe_mk B_Task_1_many_other_same_takes_forgets (hr.mono (by decide)) (by rfl) pass0 (pa_cons (pe_ix (k_ix (K := K)) (pv 7) pe_int (fun _ _ => rfl)) pa_nil) (pk_cons (pe_ix (k_ix (K := K)) (pv 7) pe_int (fun _ _ => rfl)) (pk_cons (pv 9) (pk_cons (pv 10) (pk_cons (pv 11) (pk_cons (pv 12) pk_nil)))))) (pg_name (i := 8) nd rfl (by first | exact .inl rfl | exact .inr rfl)))
    (pss_one (ps_if (PW.pt (pw_or (pt_cmpR (e_ne EQ hu (hr.mono (by decide)) pass0) (pe_cmpR (e_eq EQ hu (hr.mono (by decide)) pass0) (pv 5) (pv 8) (nomark _)) (pe_cmpR (e_eq EQ hu (hr.mono (by decide)) pass0) (pv 4) (pv 7) (nomark _)) (nomark _)) (pw_or1 (pt_cmpR (e_ne EQ hu (hr.mono (by decide)) pass0) (pe_cmpR (e_ne EQ hu (hr.mono (by decide)) pass0) (pv 5) (pv 8) (nomark _)) (pe_cmpR (e_ne EQ hu (hr.mono (by decide)) pass0) (pv 4) (pv 7) (nomark _)) (nomark _))))) (pss_one (ps_ret pe_bl)) pss_nil))))))))))))))
    (pss_one (ps_ret (pe_and (pe_cmpR (e_eq EQ hu (hr.mono (by decide)) pass0) (pe_own C_law_shown (hr.mono (by decide)) (by rfl) pass0 (pa_cons (pe_mk0 B_Task_0_ (hr.mono (by decide)) (by rfl) pass0 pk_nil) pa_nil)) (pe_tup (pa_cons pe_non (pa_cons pe_int (pa_cons (pe_tup pa_nil) (pa_cons (pe_tup pa_nil) (pa_cons (pe_tup pa_nil) (pa_cons (pe_tup pa_nil) pa_nil))))))) (nomark _)) (pe_one (pe_cmpR (e_eq EQ hu (hr.mono (by decide)) pass0) (pe_mk B_Task_1_ (hr.mono (by decide)) (by rfl) pass0 (pa_cons pe_str pa_nil) pk_nil) (pe_mk0 B_Task_0_role (hr.mono (by decide)) (by rfl) pass0 (pk_cons pe_str pk_nil)) (nomark _)))))))), ?_⟩
  obtain ⟨a, ns, rfl, hS, hn, q⟩ := h
  have z : Zp H [] H := ⟨fun _ _ h => h, fun i p o e => by simp at e, List.nodup_nil⟩
  repeat (walk_at "z")
  refine ⟨a, H, ns, rfl, z, hS, fun p G1 H1 o1 z1 s1 hp1 => ?_⟩
  repeat (walk_at "z")
  refine z_lenH (.inl (z1.seqL (upL s1 hS))) ?_
  rw [List.length_map]
  repeat (walk_at "z")
  refine z_min2 ?_
  generalize hn8 : (if (ns.length : Int) < 8 then (ns.length : Int) else 8) = n8
  have n80 : 0 ≤ n8 ∧ n8 ≤ 8 := by rw [← hn8]; split <;> omega
  repeat (walk_at "z")
  refine z_itR (by omega) (by omega) ?_
  refine for_src src_R (fun i σ G' M' => ∃ o' k2 k3 k4 k5 k6 k7 k8 k9 k10 k11 k12, M' = [(p, o')] ∧ Pen K G' (600 * i) o' ∧ σ = [some (.ref a), some (.ref p), k2, k3, k4, k5, k6, k7, k8, k9, k10, k11, k12])
    z1 ⟨o1, _, _, _, _, _, _, _, _, _, _, _, rfl, hp1, rfl⟩ (fun _ _ _ _ _ _ _ => trivial) ?_ ?_
  · rintro i x σ G0 M0 H0 hx ⟨o0, k2, k3, k4, k5, k6, k7, k8, k9, k10, k11, k12, rfl, hp0, rfl⟩ z0
    obtain ⟨hi, rfl⟩ := rng_at hx
    have hb : 600 * i ≤ 100000 := by omega
    generalize hbb : 600 * i = b at hp0 hb
    repeat (walk_at "z")
    refine ⟨p, o0, G0, [], b, 5, rfl, z0, hp0, by omega, by decide, fun lw G2 H2 o2 ss z2 s2 hp2 e2 l2 w2 => ?_⟩
    repeat (walk_at "z")
    refine z_slL z2 (SqL.of e2) fun q3 G3 H3 z3 s3 e3 => ?_
    repeat (walk_at "z")
    refine z_slL z3 (SqL.of (s3 _ _ e2)) fun q4 G4 H4 z4 s4 e4 => ?_
    rw [cut_map] at e3 e4
    generalize hc3 : (List.take _ _ : List Str) = ns3 at e3
    generalize hc4 : (List.take _ _ : List Str) = ns4 at e4
    have m3 : (∀ s ∈ ns3, Wd s) ∧ ns3.length ≤ 5 := by
      rw [← hc3]
      exact ⟨fun s hs => w2 s (List.mem_of_mem_drop (List.mem_of_mem_take hs)), by rw [List.length_take, List.length_drop]; omega⟩
    have m4 : (∀ s ∈ ns4, Wd s) ∧ ns4.length ≤ 5 := by
      rw [← hc4]
      exact ⟨fun s hs => w2 s (List.mem_of_mem_drop (List.mem_of_mem_take hs)), by rw [List.length_take, List.length_drop]; omega⟩
    repeat (walk_at "z")
    refine ⟨p, o2, G4, [], b + 10, q3, q4, ns3, ns4, rfl, z4, hp2.up (s3.trans s4), by omega, s4 _ _ e3, e4, by omega, by omega, m3.1, m4.1, fun tp t G5 H5 o5 z5 s5 hp5 d5 t5 => ?_⟩
    repeat (walk_at "z")
    refine ⟨p, o5, G5, [], b + 110, tp, t, rfl, z5, hp5, by omega, d5, t5, fun res a1 a2 a3 a4 y1 y2 y3 y4 G6 H6 o6 z6 s6 hp6 p1 p2 p3 p4 e6 => ?_⟩
    repeat (walk_at "z")
    refine z_gunl z6 (SqL.of e6) rfl ?_
    obtain ⟨t1, t2, t3, t4, hP, hP1, hP2, hP3, hP4⟩ := plain_inv (d5.up s6)
    repeat (walk_at "z")
    refine z_ixT z6 hP (v := rV t.role) rfl ?_
    repeat (walk_at "z")
    refine z_ixT z6 hP (v := .int t.many) rfl ?_
    repeat (walk_at "z")
    refine z_mkI z6 rfl rfl fun x dx H7 z7 s7 => ?_
    refine ⟨x, dx, _, _, t.role, t.many, _, _, _, _, _, _, _, _, y1, y2, y3, y4, rfl, z7, t5.ro, t5.m0, t5.m1, ⟨ar_own (by simp [rsF]), okl_list t5.g1 p1⟩, ⟨ar_own (by simp [rsF]), okl_list t5.g2 p2⟩, ⟨ar_own (by simp [rsF]), okl_list t5.g3 p3⟩, ⟨ar_own (by simp [rsF]), okl_list t5.g4 p4⟩, fun G8 H8 z8 s8 k8' => ⟨rfl, ?_⟩⟩
    rw [t5.g1.perm p1, t5.g2.perm p2, t5.g3.perm p3, t5.g4.perm p4] at k8'
    have k8' : TkI K G8 C x t := k8'
    have s68 := s7.trans s8
    repeat (walk_at "y")
    generalize hlap : V.int (0 + (i : Int)) = lap
    with_reducible refine z_cut (fun σ H => ∃ G9 k6, Zp G9 [(p, o6)] H ∧ Same G8 G9 ∧ σ = [some (.ref a), some (.ref p), some lap, some (.ref lw), some (.ref tp), some (.ref x), k6, k7, k8, some (.ref a1), some (.ref a2), some (.ref a3), some (.ref a4)]) (fun nx hnx => ?_) (fun σ H9 h9 => ?_)
    · repeat (walk_at "z")
      refine z_newT z8 (by simp) fun q9 G9 H9 z9 s9 e9 => ?_
      repeat (walk_at "z")
      refine z_itT z9 (SqT.of e9) ?_
      refine for_src src_T (fun i σ G' M' => ∃ k6, ∃ w1 w2 w3 w4 : List V, M' = [(p, o6), (a4, .lst w4), (a3, .lst w3), (a2, .lst w2), (a1, .lst w1)] ∧ G' = G9 ∧ (w1.length ≤ 100 + i ∧ w2.length ≤ 100 + i ∧ w3.length ≤ 100 + i ∧ w4.length ≤ 100 + i) ∧
        σ = [some (.ref a), some (.ref p), some lap, some (.ref lw), some (.ref tp), some (.ref x), k6, k7, k8, some (.ref a1), some (.ref a2), some (.ref a3), some (.ref a4)]) z9 ⟨_, _, _, _, _, rfl, rfl, ?_, rfl⟩ (fun i σ G' M' H' ⟨_, _, _, _, _, _, e, _⟩ z' => z'.seqT (e ▸ SqT.of e9)) ?_ ?_
      · rw [List.length_map, List.length_map, List.length_map, List.length_map, p1.length_eq, p2.length_eq, p3.length_eq, p4.length_eq]
        have := t5.g1.le
        have := t5.g2.le
        have := t5.g3.le
        have := t5.g4.le
        omega
      · rintro j x1 σ G' M' H' hx ⟨k6, w1, w2, w3, w4, rfl, rfl, ⟨j1, j2, j3, j4⟩, rfl⟩ z'
        have hj : j < 4 := (List.getElem?_eq_some_iff.mp hx).1
        rcases (show j = 0 ∨ j = 1 ∨ j = 2 ∨ j = 3 by omega) with rfl | rfl | rfl | rfl
        all_goals (obtain rfl := Option.some.inj hx)
        · repeat (walk_at "z")
          refine z_tyO z' 4 rfl ?_
          repeat (walk_at "z")
          refine z_append z' 4 rfl (by omega) fun H'' z'' => ?_
          repeat (walk_at "z")
          exact ⟨_, _, z'', _, _, _, _, _, rfl, rfl, ⟨by rw [List.length_append]; show w1.length + 1 ≤ _; omega, by omega, by omega, by omega⟩, rfl⟩
        · repeat (walk_at "z")
          refine z_tyO z' 3 rfl ?_
          repeat (walk_at "z")
          refine z_append z' 3 rfl (by omega) fun H'' z'' => ?_
          repeat (walk_at "z")
          exact ⟨_, _, z'', _, _, _, _, _, rfl, rfl, ⟨by omega, by rw [List.length_append]; show w2.length + 1 ≤ _; omega, by omega, by omega⟩, rfl⟩
        · repeat (walk_at "z")
          refine z_tyO z' 2 rfl ?_
          repeat (walk_at "z")
          refine z_append z' 2 rfl (by omega) fun H'' z'' => ?_
          repeat (walk_at "z")
          exact ⟨_, _, z'', _, _, _, _, _, rfl, rfl, ⟨by omega, by omega, by rw [List.length_append]; show w3.length + 1 ≤ _; omega, by omega⟩, rfl⟩
        · repeat (walk_at "z")
          refine z_tyO z' 1 rfl ?_
          repeat (walk_at "z")
          refine z_append z' 1 rfl (by omega) fun H'' z'' => ?_
          repeat (walk_at "z")
          exact ⟨_, _, z'', _, _, _, _, _, rfl, rfl, ⟨by omega, by omega, by omega, by rw [List.length_append]; show w4.length + 1 ≤ _; omega⟩, rfl⟩
      · rintro σ G' M' H' ⟨k6, w1, w2, w3, w4, rfl, rfl, _, rfl⟩ z'
        exact hnx _ _ ⟨_, k6, z'.cut (M := [(p, o6)]), s9, rfl⟩
    obtain ⟨G9, k6', z9, s9, rfl⟩ := h9
    -- from here: the task x, the plain one at tp, the names at lw
    have kx : TkI K G9 C x t := k8'.up s9
    have dp : Dt K G9 (.ref tp) (plainP t) := d5.up (s6.trans (s68.trans s9))
    have el : G9 lw = some (.lst (ss.map V.str)) := s9 _ _ (s68 _ _ (s6 _ _ (s5 _ _ (s4 _ _ (s3 _ _ e2)))))
    have hp9 : Pen K G9 (b + 210) o6 := hp6.up (s68.trans s9)
    have sg : Same G0 G9 := s2.trans (s3.trans (s4.trans (s5.trans (s6.trans (s68.trans s9)))))
    clear e3 e4 e6 hP hP1 hP2 hP3 hP4 k8' z8 z7 z6 z5 z4 z3 z2 z0 d5 hp6 hp5 hp2 hp0 e2 hc3 hc4 m3 m4 s68 s8 s7 s6 s5 s4 s3 s2
    have gt := t5.good
    have shp := sh_plain t5
    have fp := fin_plain gt
    with_reducible refine z_cut (fun σ H => ∃ G10, Zp G10 [(p, o6)] H ∧ Same G9 G10 ∧ σ = [some (.ref a), some (.ref p), some lap, some (.ref lw), some (.ref tp), some (.ref x), k6', k7, k8, some (.ref a1), some (.ref a2), some (.ref a3), some (.ref a4)]) (fun nx hnx => ?_) (fun σ H10 h10 => ?_)
    · repeat (walk_at "z")
      refine ⟨G9, _, x, t, rfl, z9, kx, fun q10 G10 H10 z10 s10 e10 => ?_⟩
      repeat (walk_at "z")
      refine z_repr z10 e10 shp.ok (by have := fp.dp; omega) (by have := shp.le; omega) ?_
      repeat (walk_at "z")
      refine z_repr z10 (dp.up s10) shp.ok (by have := fp.dp; omega) (by have := shp.le; omega) ?_
      repeat (walk_at "z")
      refine .inl (z_neS rfl ?_)
      rw [decide_eq_true rfl]
      repeat (walk_at "z")
      obtain ⟨dx1, fs1, ex1⟩ := kx.obj
      refine .inr (z_eqI z10 (s10 _ _ ex1) ((dp.up s10).up z10.sub).ty (nf_own K C (plainP t)) ⟨G10, _, x, t, .ref tp, rfl, z10, kx.up s10, gt, .inr ⟨plainP t, dp.up s10, ⟨false, rfl, ?_⟩⟩⟩)
      repeat (walk_at "z")
      obtain ⟨t1, t2, t3, t4, hP, _⟩ := plain_inv (dp.up s10)
      refine z_ixT z10 hP (v := rV t.role) rfl ?_
      repeat (walk_at "z")
      refine .inr (z_eqI z10 (s10 _ _ ex1) (rDt t.role).ty (nf_own K C (rP t.role)) ⟨G10, _, x, t, rV t.role, rfl, z10, kx.up s10, gt, .inr ⟨rP t.role, rDt _, ⟨false, rfl, ?_⟩⟩⟩)
      repeat (walk_at "z")
      exact hnx _ _ ⟨G10, z10, s10, rfl⟩
    obtain ⟨G10, z10, s10, rfl⟩ := h10
    have dp := dp.up s10
    have kx := kx.up s10
    have el := s10 _ _ el
    have hp10 := hp9.up s10
    clear hp9 z9
    repeat (walk_at "z")
    refine z_anyL ?_
    repeat (walk_at "z")
    refine ⟨p, o6, G10, [], b + 210, tp, t, rfl, z10, hp10, by omega, dp, t5, fun res b1 b2 b3 b4 x1 x2 x3 x4 G11 H11 o11 z11 s11 hp11 r1 r2 r3 r4 e11 => ?_⟩
    repeat (walk_at "z")
    refine z_itL z11 (SqL.of e11) ?_
    refine lc_src src_L (fun i G' M' acc => M' = [(p, o11), rsF (b4, x4), rsF (b3, x3), rsF (b2, x2), rsF (b1, x1)] ∧ Same G11 G' ∧ Dts K G' acc (([x1, x2, x3, x4].take i).map strsP)) z11 ⟨rfl, Same.refl _, .nil⟩ (fun i G' M' M1 acc H' ⟨_, s', _⟩ z' => z'.seqL (upL s' (SqL.of e11))) ?_ ?_
    · rintro j x0 G' M' acc Dl H' hx ⟨rfl, s', hd'⟩ z'
      have hj : j < 4 := (List.getElem?_eq_some_iff.mp hx).1
      have hal : acc.length ≤ 100000 := by
        rw [hd'.len (ds := []), List.length_map, List.length_take]
        omega
      rcases (show j = 0 ∨ j = 1 ∨ j = 2 ∨ j = 3 by omega) with rfl | rfl | rfl | rfl
      all_goals (obtain rfl := Option.some.inj hx)
      · repeat (walk_at "z")
        refine ⟨by rfl, ?_⟩
        repeat (walk_at "z")
        exact z_tupO z' 4 rfl fun q1 G'' H'' z'' s'' h'' => z_laid z'' hal ⟨rfl, s'.trans s'', (hd'.up s'').snoc (.tup h'' (dts_str _))⟩
      · repeat (walk_at "z")
        refine ⟨by rfl, ?_⟩
        repeat (walk_at "z")
        exact z_tupO z' 3 rfl fun q1 G'' H'' z'' s'' h'' => z_laid z'' hal ⟨rfl, s'.trans s'', (hd'.up s'').snoc (.tup h'' (dts_str _))⟩
      · repeat (walk_at "z")
        refine ⟨by rfl, ?_⟩
        repeat (walk_at "z")
        exact z_tupO z' 2 rfl fun q1 G'' H'' z'' s'' h'' => z_laid z'' hal ⟨rfl, s'.trans s'', (hd'.up s'').snoc (.tup h'' (dts_str _))⟩
      · repeat (walk_at "z")
        refine ⟨by rfl, ?_⟩
        repeat (walk_at "z")
        exact z_tupO z' 1 rfl fun q1 G'' H'' z'' s'' h'' => z_laid z'' hal ⟨rfl, s'.trans s'', (hd'.up s'').snoc (.tup h'' (dts_str _))⟩
    rintro p12 G12' M12 acc G12 H12 ⟨rfl, s12', hd'⟩ s12 z12 e12
    have hd12 : Dts K G12 acc [strsP x1, strsP x2, strsP x3, strsP x4] := hd'.up s12
    obtain ⟨u1, u2, u3, u4, rfl, hu1, hu2, hu3, hu4⟩ := four_strs hd12
    have z12 := z12.cut (M := [(p, o11)])
    have s12 := s12'.trans s12
    have sA := s11.trans s12
    have dp := dp.up sA
    have kx := kx.up sA
    have el := sA _ _ el
    have hp12 := hp11.up s12
    clear hp11 hp10 z11 z10 e11 hd' hd12
    repeat (walk_at "z")
    refine z_gunl z12 (SqL.of e12) rfl ?_
    repeat (walk_at "z")
    obtain ⟨t1, t2, t3, t4, hP, _⟩ := plain_inv dp
    refine z_ixT z12 hP (v := .int t.many) rfl ?_
    repeat (walk_at "z")
    refine z_ixT z12 hP (v := rV t.role) rfl ?_
    repeat (walk_at "z")
    refine z_mkI z12 rfl rfl fun xb dxb H13 z13 s13 => ?_
    refine ⟨xb, dxb, _, _, t.role, t.many, _, _, _, _, _, _, _, _, x1, x2, x3, x4, rfl, z13, t5.ro, t5.m0, t5.m1, ⟨ar_tup (upT s13 hu1), okl_tup t5.g1 r1⟩, ⟨ar_tup (upT s13 hu2), okl_tup t5.g2 r2⟩, ⟨ar_tup (upT s13 hu3), okl_tup t5.g3 r3⟩, ⟨ar_tup (upT s13 hu4), okl_tup t5.g4 r4⟩, fun G14 H14 z14 s14 kb => ⟨rfl, ?_⟩⟩
    rw [t5.g1.perm r1, t5.g2.perm r2, t5.g3.perm r3, t5.g4.perm r4] at kb
    have kb : TkI K G14 C xb t := kb
    have sB := s13.trans s14
    have dp := dp.up sB
    have kx := kx.up sB
    have el := sB _ _ el
    have hp14 := hp12.up sB
    clear hp12 z13 z12 e12 hP
    obtain ⟨dx1, fs1, ex1⟩ := kx.obj
    obtain ⟨dx2, fs2, ex2⟩ := kb.obj
    refine .inr (z_neI z14 ex1 (TT.ty (z14.sub _ _ ex2)) (by simp [PySem.W.notFirst]) ⟨G14, _, x, t, .ref xb, rfl, z14, kx, gt, .inl ⟨xb, t, rfl, kb, gt, fun G15 H15 z15 s15 => ⟨_, rfl, ?_⟩⟩⟩)
    rw [eqv_same (fin_like gt)]
    have dp := dp.up s15
    have kx := kx.up s15
    have el := s15 _ _ el
    have hp15 := hp14.up s15
    clear hp14 z14 kb ex1 ex2
    repeat (walk_at "z")
    refine ⟨p, o11, G15, [], b + 310, tp, lw, t, ss, rfl, z15, hp15, by omega, dp, t5, el, by omega, w2, fun tq v G16 H16 o16 z16 s16 hp16 dq v5 => ?_⟩
    have gv := v5.good
    repeat (walk_at "z")
    refine ⟨p, o16, G16, [], b + 410, tq, v, rfl, z16, hp16, by omega, dq, v5, fun res2 c1 c2 c3 c4 y1' y2' y3' y4' G17 H17 o17 z17 s17 hp17 n1 n2 n3 n4 e17 => ?_⟩
    repeat (walk_at "z")
    refine z_gunl z17 (SqL.of e17) rfl ?_
    obtain ⟨t1', t2', t3', t4', hP, _⟩ := plain_inv (dq.up s17)
    repeat (walk_at "z")
    refine z_ixT z17 hP (v := rV v.role) rfl ?_
    repeat (walk_at "z")
    refine z_ixT z17 hP (v := .int v.many) rfl ?_
    repeat (walk_at "z")
    refine z_mkI z17 rfl rfl fun xc dxc H18 z18 s18 => ?_
    refine ⟨xc, dxc, _, _, v.role, v.many, _, _, _, _, _, _, _, _, y1', y2', y3', y4', rfl, z18, v5.ro, v5.m0, v5.m1, ⟨ar_own (by simp [rsF]), okl_list v5.g1 n1⟩, ⟨ar_own (by simp [rsF]), okl_list v5.g2 n2⟩, ⟨ar_own (by simp [rsF]), okl_list v5.g3 n3⟩, ⟨ar_own (by simp [rsF]), okl_list v5.g4 n4⟩, fun G19 H19 z19 s19 kc => ⟨rfl, ?_⟩⟩
    rw [v5.g1.perm n1, v5.g2.perm n2, v5.g3.perm n3, v5.g4.perm n4] at kc
    have kc : TkI K G19 C xc v := kc
    have z19 := z19.cut (M := [(p, o17)])
    have sC := s17.trans (s18.trans s19)
    have dp := dp.up (s16.trans sC)
    have dq := dq.up sC
    have kx := kx.up (s16.trans sC)
    have hp19 := hp17.up (s18.trans s19)
    clear hp17 hp16 hp15 z18 z17 z16 z15 el e17 hP
    obtain ⟨dx1, fs1, ex1⟩ := kx.obj
    obtain ⟨dx2, fs2, ex2⟩ := kc.obj
    have fq := fin_plain gv
    repeat (walk_at "z")
    refine .inr (z_eqI z19 ex1 (TT.ty (z19.sub _ _ ex2)) (by simp [PySem.W.notFirst]) ⟨G19, _, x, t, .ref xc, rfl, z19, kx, gt, .inl ⟨xc, v, rfl, kc, gv, fun G20 H20 z20 s20 => ⟨_, rfl, ?_⟩⟩⟩)
    repeat (walk_at "z")
    refine .inl (z_eqD z20 (dp.up s20) (dq.up s20) (fp.sh (by decide)) (fq.sh (by decide)) ?_)
    rw [eqv_like]
    repeat (walk_at "z")
    refine .inl (z_neS rfl ?_)
    rw [decide_eq_true rfl]
    repeat (walk_at "z")
    refine .inr (z_neI z20 (s20 _ _ ex1) (TT.ty (z20.sub _ _ (s20 _ _ ex2))) (by simp [PySem.W.notFirst]) ⟨G20, _, x, t, .ref xc, rfl, z20, kx.up s20, gt, .inl ⟨xc, v, rfl, kc.up s20, gv, fun G21 H21 z21 s21 => ⟨_, rfl, ?_⟩⟩⟩)
    repeat (walk_at "z")
    refine .inl (z_neD z21 (dp.up (s20.trans s21)) (dq.up (s20.trans s21)) (fp.sh (by decide)) (fq.sh (by decide)) ?_)
    rw [eqv_like]
    repeat (walk_at "z")
    refine .inl (z_neS rfl ?_)
    rw [decide_eq_true rfl]
    repeat (walk_at "z")
    exact ⟨G21, _, z21, o17, _, _, _, _, _, _, _, _, _, _, _, rfl, (hp19.up (s20.trans s21)).mono (by omega), rfl⟩
  · rintro σ G2 M2 H2 ⟨o2, k2, k3, k4, k5, k6, k7, k8, k9, k10, k11, k12, rfl, hp2, rfl⟩ z2
    obtain ⟨e1, e2, e3, e4, rfl, hE⟩ := L.es
    have hA : OkL (strsP []) [] := okl_tup sl0 (List.Perm.refl _)
    repeat (walk_at "z")
    refine z_mkI z2 rfl rfl fun x dx H3 z3 s3 => ?_
    refine ⟨x, dx, _, _, none, 1, _, _, _, _, _, _, _, _, [], [], [], [], rfl, z3, (fun s h => by cases h), by decide, by decide, ⟨ar_tup (hE _).1, hA⟩, ⟨ar_tup (hE _).2.1, hA⟩, ⟨ar_tup (hE _).2.2.1, hA⟩, ⟨ar_tup (hE _).2.2.2, hA⟩, fun G4 H4 z4 s4 kx => ⟨rfl, ?_⟩⟩
    rw [sl0.as] at kx
    repeat (walk_at "z")
    refine ⟨G4, _, x, _, rfl, z4, kx, fun p5 G5 H5 z5 s5 d5 => ?_⟩
    repeat (walk_at "z")
    refine z_newT z5 (by simp) fun q1 G6 H6 z6 s6 f1 => ?_
    repeat (walk_at "z")
    refine z_newT z6 (by simp) fun q2 G7 H7 z7 s7 f2 => ?_
    repeat (walk_at "z")
    refine z_newT z7 (by simp) fun q3 G8 H8 z8 s8 f3 => ?_
    repeat (walk_at "z")
    refine z_newT z8 (by simp) fun q4 G9 H9 z9 s9 f4 => ?_
    repeat (walk_at "z")
    refine z_newT z9 (by simp) fun q5 G10 H10 z10 s10 f5 => ?_
    have g0 : GoodT ⟨none, 1, [], [], [], []⟩ := ⟨(fun s h => by cases h), ⟨by simp, by simp⟩, ⟨by simp, by simp⟩, ⟨by simp, by simp⟩, ⟨by simp, by simp⟩⟩
    have ga : GoodT ⟨some "a", 1, [], [], [], []⟩ := ⟨(fun s h => by cases h; decide +kernel), ⟨by simp, by simp⟩, ⟨by simp, by simp⟩, ⟨by simp, by simp⟩, ⟨by simp, by simp⟩⟩
    have dd : Dt K G10 (.ref q5) (plainP ⟨none, 1, [], [], [], []⟩) := .tup (SqT.of f5) (.cons .non (.cons (.int 1) (.cons (.tup (SqT.of (s10 _ _ (s9 _ _ (s8 _ _ (s7 _ _ f1))))) .nil) (.cons (.tup (SqT.of (s10 _ _ (s9 _ _ (s8 _ _ f2)))) .nil) (.cons (.tup (SqT.of (s10 _ _ (s9 _ _ f3))) .nil) (.cons (.tup (SqT.of (s10 _ _ f4)) .nil) .nil))))))
    have f0 := fin_plain g0
    refine .inl (z_eqD z10 (d5.up (s6.trans (s7.trans (s8.trans (s9.trans s10))))) dd (f0.sh (by decide)) (f0.sh (by decide)) ?_)
    rw [eqv_same f0]
    repeat (walk_at "z")
    refine z_mkI z10 rfl rfl fun xa dxa H11 z11 s11 => ?_
    refine ⟨xa, dxa, _, _, some "a", 1, _, _, _, _, _, _, _, _, [], [], [], [], rfl, z11, ga.ro, by decide, by decide, ⟨ar_tup (hE _).1, hA⟩, ⟨ar_tup (hE _).2.1, hA⟩, ⟨ar_tup (hE _).2.2.1, hA⟩, ⟨ar_tup (hE _).2.2.2, hA⟩, fun G12 H12 z12 s12 ka => ⟨rfl, ?_⟩⟩
    rw [sl0.as] at ka
    repeat (walk_at "z")
    refine z_mkI z12 rfl rfl fun xb dxb H13 z13 s13 => ?_
    refine ⟨xb, dxb, _, _, some "a", 1, _, _, _, _, _, _, _, _, [], [], [], [], rfl, z13, ga.ro, by decide, by decide, ⟨ar_tup (hE _).1, hA⟩, ⟨ar_tup (hE _).2.1, hA⟩, ⟨ar_tup (hE _).2.2.1, hA⟩, ⟨ar_tup (hE _).2.2.2, hA⟩, fun G14 H14 z14 s14 kb => ⟨rfl, ?_⟩⟩
    rw [sl0.as] at kb
    have ka := ka.up (s13.trans s14)
    obtain ⟨dx1, fs1, ex1⟩ := ka.obj
    obtain ⟨dx2, fs2, ex2⟩ := kb.obj
    refine .inr (z_eqI z14 ex1 (TT.ty (z14.sub _ _ ex2)) (by simp [PySem.W.notFirst]) ⟨G14, _, xa, _, .ref xb, rfl, z14, ka, ga, .inl ⟨xb, _, rfl, kb, ga, fun G15 H15 z15 s15 => ⟨_, rfl, ?_⟩⟩⟩)
    rw [eqv_same (fin_like ga)]
    exact q _
end
end LW
namespace LW
open PySem PySem.Spec PyProof.Rows L2 Ys
section
variable {K : PySem.W.Frag} {f : Addr} {fd : FuncData}
theorem bd_words2 (F : FunD K "are_words" "are_words" (defArgs s_are_words) (defBody s_are_words) (defScope s_are_words) [.non] [] f fd) : Binds K fd ["value", "most"] [] := by
  obtain ⟨ds, hv, hb⟩ := F.binds1 (ps := ["value", "most"]) 2 1 (by simp) rfl (fun T kV doc pm an cdv ct us its l1 l2 => by
    match us, its, l1, l2 with
    | [u1, u2], [i1], _, _ => exact ⟨_, rfl, rfl⟩)
  cases hv
  exact hb
theorem bd_diff1 (F : FunD K "are_different_words" "are_different_words" (defArgs s_are_different_words) (defBody s_are_different_words) (defScope s_are_different_words) [.non] [] f fd) : ∃ ds, Vals [V.non] ds ∧ Binds K fd ["value", "most"] ds :=
  F.binds1 (ps := ["value", "most"]) 1 0 (by simp) rfl (fun T kV doc pm an cdv ct us its l1 l2 => by
    match us, its, l1, l2 with
    | [u1], [i1], _, _ => exact ⟨_, rfl, rfl⟩)
end
section
variable {K : PySem.W.Frag} {f : Addr} {fd : FuncData} {e1 e2 e3 e4 : V}
theorem vals_rev : ∀ {vs : List V} {us : List Value}, Vals vs us → Vals vs.reverse us.reverse
  | _, _, .nil => .nil
  | _, _, .cons r t => by
    rw [List.reverse_cons, List.reverse_cons]
    exact (vals_rev t).append (.cons r .nil)
abbrev psI : List Str := ["self", "role", "many", "other", "same", "takes", "forgets"]
abbrev kwI (e1 e2 e3 e4 : V) : List (Str × V) := [("many", .int 1), ("other", e1), ("same", e2), ("takes", e3), ("forgets", e4)]
abbrev FI (K : PySem.W.Frag) (e1 e2 e3 e4 : V) (f : Addr) (fd : FuncData) : Prop := FunD K "__init__" "Task.__init__" (defArgs s_Task_init) (defBody s_Task_init) (defScope s_Task_init) [.non] (kwI e1 e2 e3 e4) f fd
theorem kb1 (F : FI K e1 e2 e3 e4 f fd) : ∃ g, KBn K fd psI 2 ["many", "other", "same", "takes", "forgets"] g gV1 := by
  obtain ⟨its, mv, hb⟩ := F.kbinds (ps := psI) 2 ["many", "other", "same", "takes", "forgets"] [] (fun us its mv ws => us ++ ws) (by simp) (by simp) (by simp) (fun a _ _ d => a.append d)
    (fun T D doc pm an cdv ct us its mv ws l1 l2 l3 l4 => by
      match us, its, mv, ws, l1, l2, l3, l4 with
      | [u1, u2], [i1], [], [w1, w2, w3, w4, w5], _, _, _, _ => exact ⟨_, rfl, rfl⟩)
  exact ⟨_, hb⟩
theorem kb2 (F : FI K e1 e2 e3 e4 f fd) : ∃ g, KBn K fd psI 1 ["forgets", "takes", "same", "other", "many", "role"] g gVrev := by
  obtain ⟨its, mv, hb⟩ := F.kbinds (ps := psI) 1 ["forgets", "takes", "same", "other", "many", "role"] [] (fun us its mv ws => us ++ ws.reverse) (by simp) (by simp) (by simp) (fun a _ _ d => a.append (vals_rev d))
    (fun T D doc pm an cdv ct us its mv ws l1 l2 l3 l4 => by
      match us, its, mv, ws, l1, l2, l3, l4 with
      | [u1], [i1], [], [w1, w2, w3, w4, w5, w6], _, _, _, _ => exact ⟨_, rfl, rfl⟩)
  exact ⟨_, hb⟩
theorem kb3 (F : FI K e1 e2 e3 e4 f fd) : ∃ g, KBn K fd psI 1 [] g (gVd [.non] [.int 1, e1, e2, e3, e4]) := by
  obtain ⟨its, mv, hb⟩ := F.kbinds (ps := psI) 1 [] (kwI e1 e2 e3 e4) (fun us its mv ws => us ++ (its ++ mv)) (by simp) (by simp) (fun q hq => hq) (fun a b c _ => a.append (b.append c))
    (fun T D doc pm an cdv ct us its mv ws l1 l2 l3 l4 => by
      match us, its, mv, ws, l1, l2, l3, l4 with
      | [u1], [i1], [m1, m2, m3, m4, m5], [], _, _, _, _ => exact ⟨_, rfl, ⟨_, _, _, _, _, _, rfl, rfl, ⟨_, _, _, _, _, _, rfl, rfl, ⟨_, _, _, _, _, _, rfl, rfl, ⟨_, _, _, _, _, _, rfl, rfl, ⟨_, _, _, _, _, _, rfl, rfl, rfl⟩⟩⟩⟩⟩⟩)
  exact ⟨_, hb⟩
theorem kb4 (F : FI K e1 e2 e3 e4 f fd) : ∃ g, KBn K fd psI 2 [] g (gV1d [.int 1, e1, e2, e3, e4]) := by
  obtain ⟨its, mv, hb⟩ := F.kbinds (ps := psI) 2 [] (kwI e1 e2 e3 e4) (fun us its mv ws => us ++ mv) (by simp) (by simp) (fun q hq => hq) (fun a b c _ => a.append c)
    (fun T D doc pm an cdv ct us its mv ws l1 l2 l3 l4 => by
      match us, its, mv, ws, l1, l2, l3, l4 with
      | [u1, u2], [i1], [m1, m2, m3, m4, m5], [], _, _, _, _ => exact ⟨_, rfl, ⟨_, _, _, _, _, _, rfl, rfl, ⟨_, _, _, _, _, _, rfl, rfl, ⟨_, _, _, _, _, _, rfl, rfl, ⟨_, _, _, _, _, _, rfl, rfl, ⟨_, _, _, _, _, _, rfl, rfl, rfl⟩⟩⟩⟩⟩⟩)
  exact ⟨_, hb⟩
theorem kb5 (F : FI K e1 e2 e3 e4 f fd) : ∃ g, KBn K fd psI 1 ["role"] g (gV0r [.int 1, e1, e2, e3, e4]) := by
  obtain ⟨its, mv, hb⟩ := F.kbinds (ps := psI) 1 ["role"] (kwI e1 e2 e3 e4) (fun us its mv ws => us ++ (ws ++ mv)) (by simp) (by simp) (fun q hq => hq) (fun a b c d => a.append (d.append c))
    (fun T D doc pm an cdv ct us its mv ws l1 l2 l3 l4 => by
      match us, its, mv, ws, l1, l2, l3, l4 with
      | [u1], [i1], [m1, m2, m3, m4, m5], [w1], _, _, _, _ => exact ⟨_, rfl, ⟨_, _, _, _, _, _, rfl, rfl, ⟨_, _, _, _, _, _, rfl, rfl, ⟨_, _, _, _, _, _, rfl, rfl, ⟨_, _, _, _, _, _, rfl, rfl, ⟨_, _, _, _, _, _, rfl, rfl, rfl⟩⟩⟩⟩⟩⟩)
  exact ⟨_, hb⟩
end
end LW
namespace LW
open PySem PySem.Spec PyProof.Rows L2 Ys

def fb : List (PySem.W.Frag → Bool) := [sysB, fun K => He.Fa.ok K (.glo "is_word"), fun K => He.Fa.ok K (.glo "is_integer"), fun K => He.Fa.ok K (.glo "is_within"), fun K => He.Fa.ok K (.glo "is_list"), fun K => He.Fa.ok K (.glo "are_words"), fun K => He.Fa.ok K (.glo "are_different_words"), fun K => He.Fa.ok K (.glo "ascending"), fun K => He.Fa.ok K (.glo "_law_pen"), fun K => He.Fa.ok K (.glo "_law_draw"), fun K => He.Fa.ok K (.glo "_law_pick"), fun K => He.Fa.ok K (.glo "_law_shuffled"), fun K => He.Fa.ok K (.glo "_law_words"), fun K => He.Fa.ok K (.glo "_law_task"), fun K => He.Fa.ok K (.glo "_law_shown"), fun K => He.Fa.ok K (.glo "_law_unlike"), fun K => He.Fa.ok K (.glo "_law_lists"), fun K => He.Fa.ok K (.glo "law"), fun K => He.Fa.ok K (.glo "Task"), fun K => He.Fa.ok K (.free "len"), fun K => He.Fa.ok K (.free "int"), fun K => He.Fa.ok K (.free "list"), fun K => He.Fa.ok K (.free "tuple"), fun K => He.Fa.ok K (.free "set"), fun K => He.Fa.ok K (.free "dict"), fun K => He.Fa.ok K (.free "str"), fun K => He.Fa.ok K (.free "bool"), fun K => He.Fa.ok K (.free "sorted"), fun K => He.Fa.ok K (.free "min"), fun K => He.Fa.ok K (.free "max"), fun K => He.Fa.ok K (.free "sum"), fun K => He.Fa.ok K (.free "all"), fun K => He.Fa.ok K (.free "any"), fun K => He.Fa.ok K (.free "repr"), fun K => He.Fa.ok K (.free "range"), fun K => He.Fa.ok K (.free "isinstance"), fun K => He.Fa.ok K (.str "LETTERS" "abcdefghijklmnopqrstuvwxyz"), fun K => He.Fa.ok K (.int "LONGEST_WORD" 8), fun K => He.Fa.ok K (.int "MANY" 3), fun K => He.Fa.ok K (.cls "Task"), fun K => He.Fa.ok K (.noat "Task" "own_role"), fun K => He.Fa.ok K (.noat "Task" "own_many"), fun K => He.Fa.ok K (.noat "Task" "own_other"), fun K => He.Fa.ok K (.noat "Task" "own_same"), fun K => He.Fa.ok K (.noat "Task" "own_takes"), fun K => He.Fa.ok K (.noat "Task" "own_forgets"), fun K => He.Fa.ok K (.meth "Task" "likeness"), fun K => He.Fa.ok K (.meth "Task" "__eq__"), fun K => He.Fa.ok K (.mkr "Task"), fProp "Task" "role", fProp "Task" "many", fProp "Task" "other", fProp "Task" "same", fProp "Task" "takes", fProp "Task" "forgets", fTy "Task", fNe "Task", fNil (kA "Task" "__init__" "other"), fNil (kA "Task" "__init__" "same"), fNil (kA "Task" "__init__" "takes"), fNil (kA "Task" "__init__" "forgets")]
def fn : List DefY := [⟨gA "is_word", "is_word", "is_word", defArgs s_is_word, defBody s_is_word, defScope s_is_word, [], []⟩, ⟨gA "is_integer", "is_integer", "is_integer", defArgs s_is_integer, defBody s_is_integer, defScope s_is_integer, [], []⟩, ⟨gA "is_within", "is_within", "is_within", defArgs s_is_within, defBody s_is_within, defScope s_is_within, [], []⟩, ⟨gA "is_list", "is_list", "is_list", defArgs s_is_list, defBody s_is_list, defScope s_is_list, [], []⟩, ⟨gA "are_words", "are_words", "are_words", defArgs s_are_words, defBody s_are_words, defScope s_are_words, [.non], []⟩, ⟨gA "are_different_words", "are_different_words", "are_different_words", defArgs s_are_different_words, defBody s_are_different_words, defScope s_are_different_words, [.non], []⟩, ⟨gA "ascending", "ascending", "ascending", defArgs s_ascending, defBody s_ascending, defScope s_ascending, [], []⟩, ⟨gA "_law_pen", "_law_pen", "_law_pen", defArgs s_law_pen, defBody s_law_pen, defScope s_law_pen, [], []⟩, ⟨gA "_law_draw", "_law_draw", "_law_draw", defArgs s_law_draw, defBody s_law_draw, defScope s_law_draw, [], []⟩, ⟨gA "_law_pick", "_law_pick", "_law_pick", defArgs s_law_pick, defBody s_law_pick, defScope s_law_pick, [], []⟩, ⟨gA "_law_shuffled", "_law_shuffled", "_law_shuffled", defArgs s_law_shuffled, defBody s_law_shuffled, defScope s_law_shuffled, [], []⟩, ⟨gA "_law_words", "_law_words", "_law_words", defArgs s_law_words, defBody s_law_words, defScope s_law_words, [], []⟩, ⟨gA "_law_task", "_law_task", "_law_task", defArgs s_law_task, defBody s_law_task, defScope s_law_task, [], []⟩, ⟨gA "_law_shown", "_law_shown", "_law_shown", defArgs s_law_shown, defBody s_law_shown, defScope s_law_shown, [], []⟩, ⟨gA "_law_unlike", "_law_unlike", "_law_unlike", defArgs s_law_unlike, defBody s_law_unlike, defScope s_law_unlike, [], []⟩, ⟨gA "_law_lists", "_law_lists", "_law_lists", defArgs s_law_lists, defBody s_law_lists, defScope s_law_lists, [], []⟩, ⟨gA "law", "law", "law", defArgs s_law, defBody s_law, defScope s_law, [], []⟩, ⟨cA "Task" "__init__", "__init__", "Task.__init__", defArgs s_Task_init, defBody s_Task_init, defScope s_Task_init, [.non], [("many", .int 1), ("other", .adr (kA "Task" "__init__" "other")), ("same", .adr (kA "Task" "__init__" "same")), ("takes", .adr (kA "Task" "__init__" "takes")), ("forgets", .adr (kA "Task" "__init__" "forgets"))]⟩, ⟨pA "Task" "role", "role", "Task.role", defArgs s_Task_role, defBody s_Task_role, defScope s_Task_role, [], []⟩, ⟨pA "Task" "many", "many", "Task.many", defArgs s_Task_many, defBody s_Task_many, defScope s_Task_many, [], []⟩, ⟨pA "Task" "other", "other", "Task.other", defArgs s_Task_other, defBody s_Task_other, defScope s_Task_other, [], []⟩, ⟨pA "Task" "same", "same", "Task.same", defArgs s_Task_same, defBody s_Task_same, defScope s_Task_same, [], []⟩, ⟨pA "Task" "takes", "takes", "Task.takes", defArgs s_Task_takes, defBody s_Task_takes, defScope s_Task_takes, [], []⟩, ⟨pA "Task" "forgets", "forgets", "Task.forgets", defArgs s_Task_forgets, defBody s_Task_forgets, defScope s_Task_forgets, [], []⟩, ⟨cA "Task" "likeness", "likeness", "Task.likeness", defArgs s_Task_likeness, defBody s_Task_likeness, defScope s_Task_likeness, [], []⟩, ⟨cA "Task" "__eq__", "__eq__", "Task.__eq__", defArgs s_Task_eq, defBody s_Task_eq, defScope s_Task_eq, [], []⟩]
abbrev R : PySem.W.OpenRow := PySem.W.OpenLaw.row PySem.Challenge.rw_fewhands_k04_tasks_made
abbrev hk : PySem.W.Hook := hookZ 6 fb fn
def loose : List Str := ["InvalidTask", "MANY", "LETTERS", "LONGEST_WORD", "is_word", "is_integer", "is_within", "is_list", "are_words", "are_different_words", "ascending", "Task", "_law_pen", "_law_draw", "_law_pick", "_law_shuffled", "_law_words", "_law_task", "_law_shown", "_law_unlike", "_law_lists"]
theorem run (w : World) : HandSHeadRun.RunEq R (PySem.W.view R.prog [25]) hk (obZ 6 fb fn) 2000 loose w := by
  intro os
  kernel_rfl
abbrev esK (K : PySem.W.Frag) : List V := [.ref (kA "Task" "__init__" "other" K), .ref (kA "Task" "__init__" "same" K), .ref (kA "Task" "__init__" "takes" K), .ref (kA "Task" "__init__" "forgets" K)]
theorem facts {P : Program} {w : World} {K : PySem.W.Frag} {h : Heap} {mg : Str → Option Value} {f : Addr} (X : K.In h) (G : h.Ns mainGlobals mg) (hfa : mg ("law" : Str) = some (.ref f)) (c : SaysZ fb fn K) :
    ∃ fd : FuncData, (∀ (s : Shared) (v : Value), BindsTo s fd ⟨[v], []⟩ [("_law_script", v)]) ∧ ∀ base : Heap, K.In base → base.Ns mainGlobals mg → FnG P w K mg base CX0 6 f fd ["_law_script"] (spLaw K) := by
  obtain ⟨fd_is_word, F_is_word⟩ : ∃ fd, FnP K "is_word" s_is_word (gA "is_word" K) fd := c.def_ 0
  obtain ⟨fd_is_integer, F_is_integer⟩ : ∃ fd, FnP K "is_integer" s_is_integer (gA "is_integer" K) fd := c.def_ 1
  obtain ⟨fd_is_within, F_is_within⟩ : ∃ fd, FnP K "is_within" s_is_within (gA "is_within" K) fd := c.def_ 2
  obtain ⟨fd_is_list, F_is_list⟩ : ∃ fd, FnP K "is_list" s_is_list (gA "is_list" K) fd := c.def_ 3
  obtain ⟨fd_are_words, F_are_words⟩ : ∃ fd, FunD K "are_words" "are_words" (defArgs s_are_words) (defBody s_are_words) (defScope s_are_words) [.non] [] (gA "are_words" K) fd := c.def_ 4
  obtain ⟨fd_are_different_words, F_are_different_words⟩ : ∃ fd, FunD K "are_different_words" "are_different_words" (defArgs s_are_different_words) (defBody s_are_different_words) (defScope s_are_different_words) [.non] [] (gA "are_different_words" K) fd := c.def_ 5
  obtain ⟨fd_ascending, F_ascending⟩ : ∃ fd, FnP K "ascending" s_ascending (gA "ascending" K) fd := c.def_ 6
  obtain ⟨fd_law_pen, F_law_pen⟩ : ∃ fd, FnP K "_law_pen" s_law_pen (gA "_law_pen" K) fd := c.def_ 7
  obtain ⟨fd_law_draw, F_law_draw⟩ : ∃ fd, FnP K "_law_draw" s_law_draw (gA "_law_draw" K) fd := c.def_ 8
  obtain ⟨fd_law_pick, F_law_pick⟩ : ∃ fd, FnP K "_law_pick" s_law_pick (gA "_law_pick" K) fd := c.def_ 9
  obtain ⟨fd_law_shuffled, F_law_shuffled⟩ : ∃ fd, FnP K "_law_shuffled" s_law_shuffled (gA "_law_shuffled" K) fd := c.def_ 10
  obtain ⟨fd_law_words, F_law_words⟩ : ∃ fd, FnP K "_law_words" s_law_words (gA "_law_words" K) fd := c.def_ 11
  obtain ⟨fd_law_task, F_law_task⟩ : ∃ fd, FnP K "_law_task" s_law_task (gA "_law_task" K) fd := c.def_ 12
  obtain ⟨fd_law_shown, F_law_shown⟩ : ∃ fd, FnP K "_law_shown" s_law_shown (gA "_law_shown" K) fd := c.def_ 13
  obtain ⟨fd_law_unlike, F_law_unlike⟩ : ∃ fd, FnP K "_law_unlike" s_law_unlike (gA "_law_unlike" K) fd := c.def_ 14
  obtain ⟨fd_law_lists, F_law_lists⟩ : ∃ fd, FnP K "_law_lists" s_law_lists (gA "_law_lists" K) fd := c.def_ 15
  obtain ⟨fd_law, F_law⟩ : ∃ fd, FnP K "law" s_law (gA "law" K) fd := c.def_ 16
  obtain ⟨fd_init, F_init⟩ : ∃ fd, FI K (.ref (kA "Task" "__init__" "other" K)) (.ref (kA "Task" "__init__" "same" K)) (.ref (kA "Task" "__init__" "takes" K)) (.ref (kA "Task" "__init__" "forgets" K)) (cA "Task" "__init__" K) fd := c.def_ 17
  obtain ⟨fd_g_role, F_g_role⟩ : ∃ fd, FunD K "role" "Task.role" (defArgs s_Task_role) (defBody s_Task_role) (defScope s_Task_role) [] [] (pA "Task" "role" K) fd := c.def_ 18
  obtain ⟨fd_g_many, F_g_many⟩ : ∃ fd, FunD K "many" "Task.many" (defArgs s_Task_many) (defBody s_Task_many) (defScope s_Task_many) [] [] (pA "Task" "many" K) fd := c.def_ 19
  obtain ⟨fd_g_other, F_g_other⟩ : ∃ fd, FunD K "other" "Task.other" (defArgs s_Task_other) (defBody s_Task_other) (defScope s_Task_other) [] [] (pA "Task" "other" K) fd := c.def_ 20
  obtain ⟨fd_g_same, F_g_same⟩ : ∃ fd, FunD K "same" "Task.same" (defArgs s_Task_same) (defBody s_Task_same) (defScope s_Task_same) [] [] (pA "Task" "same" K) fd := c.def_ 21
  obtain ⟨fd_g_takes, F_g_takes⟩ : ∃ fd, FunD K "takes" "Task.takes" (defArgs s_Task_takes) (defBody s_Task_takes) (defScope s_Task_takes) [] [] (pA "Task" "takes" K) fd := c.def_ 22
  obtain ⟨fd_g_forgets, F_g_forgets⟩ : ∃ fd, FunD K "forgets" "Task.forgets" (defArgs s_Task_forgets) (defBody s_Task_forgets) (defScope s_Task_forgets) [] [] (pA "Task" "forgets" K) fd := c.def_ 23
  obtain ⟨fd_like, F_like⟩ : ∃ fd, FunD K "likeness" "Task.likeness" (defArgs s_Task_likeness) (defBody s_Task_likeness) (defScope s_Task_likeness) [] [] (cA "Task" "likeness" K) fd := c.def_ 24
  obtain ⟨fd_eq, F_eq⟩ : ∃ fd, FunD K "__eq__" "Task.__eq__" (defArgs s_Task_eq) (defBody s_Task_eq) (defScope s_Task_eq) [] [] (cA "Task" "__eq__" K) fd := c.def_ 25
  have T : Nm K mg := ⟨sysB_ok (c.at_ 0), He.free_ok X G (c.at_ 19), He.free_ok X G (c.at_ 20), He.free_ok X G (c.at_ 21), He.free_ok X G (c.at_ 22), He.free_ok X G (c.at_ 23), He.free_ok X G (c.at_ 24), He.free_ok X G (c.at_ 25), He.free_ok X G (c.at_ 26), He.free_ok X G (c.at_ 27), He.free_ok X G (c.at_ 28), He.free_ok X G (c.at_ 29), He.free_ok X G (c.at_ 30), He.free_ok X G (c.at_ 31), He.free_ok X G (c.at_ 32), He.free_ok X G (c.at_ 33), He.free_ok X G (c.at_ 34), He.free_ok X G (c.at_ 35), let ⟨t, e⟩ := He.str_ok X G (c.at_ 36); ⟨_, e, t, rfl⟩, let ⟨t, e⟩ := He.int_ok X G (c.at_ 37); ⟨_, e, t, rfl⟩, let ⟨t, e⟩ := He.int_ok X G (c.at_ 38); ⟨_, e, t, rfl⟩⟩
  have e := hfa.symm.trans (He.glo_ok X G (c.at_ 17))
  cases e
  have TC : TaskC K (gA "Task" K) := ⟨He.cls_ok (c.at_ 39), He.noat_ok (c.at_ 40), He.noat_ok (c.at_ 41), He.noat_ok (c.at_ 42), He.noat_ok (c.at_ 43), He.noat_ok (c.at_ 44), He.noat_ok (c.at_ 45)⟩
  have TT : TaskT K (gA "Task" K) := by
    obtain ⟨h1, h2⟩ := Bool.and_eq_true_iff.mp (c.at_ 55)
    obtain ⟨h3, h4⟩ := Bool.and_eq_true_iff.mp h2
    obtain ⟨h5, h6⟩ := Bool.and_eq_true_iff.mp h4
    obtain ⟨h7, h8⟩ := Bool.and_eq_true_iff.mp h6
    exact ⟨TC.cl, of_decide_eq_true h1, of_decide_eq_true h3, of_decide_eq_true h5, of_decide_eq_true h7, h8⟩
  have b := FunD.bindsA (ps := ["_law_script"]) F_law fun _ _ _ _ _ _ us hl => match us, hl with | [_], _ => rfl
  refine ⟨fd_law, fun s v => b s [v] rfl, fun base _ _ => ?_⟩
  have L : LawC P w K mg base (gA "Task" K) (esK K) := by
    have C_is_word : OwnW P w K mg base := ⟨⟨_, _, ok_is_word T F_is_word, He.glo_ok X G (c.at_ 1), F_is_word.kp, F_is_word.bindsN fun _ _ _ _ _ _ us hl => match us, hl with | [_], _ => rfl⟩⟩
    have C_is_integer : Own P w K mg base CX0 1 "is_integer" ["value"] (spInt K) := ⟨⟨_, _, ok_is_integer T F_is_integer, He.glo_ok X G (c.at_ 2), F_is_integer.kp, F_is_integer.bindsN fun _ _ _ _ _ _ us hl => match us, hl with | [_], _ => rfl⟩⟩
    have C_is_within : Own P w K mg base CX0 2 "is_within" ["value", "least", "most"] (spWithin K) := ⟨⟨_, _, ok_is_within T C_is_integer F_is_within, He.glo_ok X G (c.at_ 3), F_is_within.kp, F_is_within.bindsN fun _ _ _ _ _ _ us hl => match us, hl with | [_, _, _], _ => rfl⟩⟩
    have C_is_list : OwnL P w K mg base := ⟨⟨_, _, ok_is_list T F_is_list, He.glo_ok X G (c.at_ 4), F_is_list.kp, F_is_list.bindsN fun _ _ _ _ _ _ us hl => match us, hl with | [_], _ => rfl⟩⟩
    have C_are_words : Own P w K mg base CX0 2 "are_words" ["value", "most"] (spAreWords K) := ⟨⟨_, _, ok_are_words T C_is_word C_is_list F_are_words, He.glo_ok X G (c.at_ 5), F_are_words.kp, bd_words2 F_are_words⟩⟩
    have C_diff : OwnA P w K mg base CX0 3 "are_different_words" ["value", "most"] [.non] (spDiff K) := by
      obtain ⟨ds, hv, hb⟩ := bd_diff1 F_are_different_words
      exact ⟨⟨_, _, ds, ok_diff T C_are_words F_are_different_words, He.glo_ok X G (c.at_ 6), F_are_different_words.kp, hb, hv⟩⟩
    have C_ascending : Own P w K mg base CX0 1 "ascending" ["words"] (spAsc K) := ⟨⟨_, _, ok_asc T F_ascending, He.glo_ok X G (c.at_ 7), F_ascending.kp, F_ascending.bindsN fun _ _ _ _ _ _ us hl => match us, hl with | [_], _ => rfl⟩⟩
    have O_init := ok_init (P := P) (w := w) (base := base) T TC C_is_word C_is_within C_diff C_ascending F_init
    have M_like : Mth P w K mg base CX0 1 (gA "Task" K) "likeness" ["self"] [] (spLike K (gA "Task" K)) := ⟨⟨_, _, [], He.meth_ok (c.at_ 46), ok_like TC F_like, F_like.bindsN fun _ _ _ _ _ _ us hl => match us, hl with | [_], _ => rfl, .nil⟩, TC.cl⟩
    have O_eq := ok_eq (P := P) (w := w) (base := base) T TT (He.glo_ok X G (c.at_ 18)) M_like F_eq
    have me := He.meth_ok (c.at_ 47)
    have EQ : EqC P w K mg base CX0 2 (gA "Task" K) (spEqT K (gA "Task" K)) := ⟨⟨_, _, _, O_eq, me.at_, me.fn, F_eq.bindsN fun _ _ _ _ _ _ us hl => match us, hl with | [_, _], _ => rfl⟩, of_decide_eq_true (c.at_ 56), TT.hm⟩
    have R_role : PrpT P w K mg base (gA "Task" K) "role" "own_role" := ⟨⟨_, _, _, fProp_ok (c.at_ 49), ok_g1 TC F_g_role, F_g_role.bindsN fun _ _ _ _ _ _ us hl => match us, hl with | [_], _ => rfl⟩, TC.cl⟩
    have R_many : PrpT P w K mg base (gA "Task" K) "many" "own_many" := ⟨⟨_, _, _, fProp_ok (c.at_ 50), ok_g2 TC F_g_many, F_g_many.bindsN fun _ _ _ _ _ _ us hl => match us, hl with | [_], _ => rfl⟩, TC.cl⟩
    have R_other : PrpT P w K mg base (gA "Task" K) "other" "own_other" := ⟨⟨_, _, _, fProp_ok (c.at_ 51), ok_g3 TC F_g_other, F_g_other.bindsN fun _ _ _ _ _ _ us hl => match us, hl with | [_], _ => rfl⟩, TC.cl⟩
    have R_same : PrpT P w K mg base (gA "Task" K) "same" "own_same" := ⟨⟨_, _, _, fProp_ok (c.at_ 52), ok_g4 TC F_g_same, F_g_same.bindsN fun _ _ _ _ _ _ us hl => match us, hl with | [_], _ => rfl⟩, TC.cl⟩
    have R_takes : PrpT P w K mg base (gA "Task" K) "takes" "own_takes" := ⟨⟨_, _, _, fProp_ok (c.at_ 53), ok_g5 TC F_g_takes, F_g_takes.bindsN fun _ _ _ _ _ _ us hl => match us, hl with | [_], _ => rfl⟩, TC.cl⟩
    have R_forgets : PrpT P w K mg base (gA "Task" K) "forgets" "own_forgets" := ⟨⟨_, _, _, fProp_ok (c.at_ 54), ok_g6 TC F_g_forgets, F_g_forgets.bindsN fun _ _ _ _ _ _ us hl => match us, hl with | [_], _ => rfl⟩, TC.cl⟩
    have mk := He.mkr_ok (c.at_ 48)
    have gT := He.glo_ok X G (c.at_ 18)
    have C_law_pen : Own P w K mg base CX0 1 "_law_pen" ["_law_script"] (spPen K) := ⟨⟨_, _, ok_pen T F_law_pen, He.glo_ok X G (c.at_ 8), F_law_pen.kp, F_law_pen.bindsN fun _ _ _ _ _ _ us hl => match us, hl with | [_], _ => rfl⟩⟩
    have C_law_draw : OwnD P w K mg base := ⟨⟨_, _, ok_draw T F_law_draw, He.glo_ok X G (c.at_ 9), F_law_draw.kp, F_law_draw.bindsN fun _ _ _ _ _ _ us hl => match us, hl with | [_, _], _ => rfl⟩⟩
    have C_law_pick : OwnP P w K mg base := ⟨⟨_, _, ok_pick T C_law_draw F_law_pick, He.glo_ok X G (c.at_ 10), F_law_pick.kp, F_law_pick.bindsN fun _ _ _ _ _ _ us hl => match us, hl with | [_, _], _ => rfl⟩⟩
    have C_law_shuffled : OwnS P w K mg base := ⟨⟨_, _, ok_shuf T C_law_draw F_law_shuffled, He.glo_ok X G (c.at_ 11), F_law_shuffled.kp, F_law_shuffled.bindsN fun _ _ _ _ _ _ us hl => match us, hl with | [_, _], _ => rfl⟩⟩
    have C_law_words : Own P w K mg base CX0 3 "_law_words" ["_law_pen_here", "_law_count"] (spWords K) := ⟨⟨_, _, ok_words T C_law_draw C_law_pick F_law_words, He.glo_ok X G (c.at_ 12), F_law_words.kp, F_law_words.bindsN fun _ _ _ _ _ _ us hl => match us, hl with | [_, _], _ => rfl⟩⟩
    have C_law_task : Own P w K mg base CX0 3 "_law_task" ["_law_pen_here", "_law_names", "_law_roles"] (spTask K) := ⟨⟨_, _, ok_task T C_law_pick C_law_shuffled F_law_task, He.glo_ok X G (c.at_ 13), F_law_task.kp, F_law_task.bindsN fun _ _ _ _ _ _ us hl => match us, hl with | [_, _, _], _ => rfl⟩⟩
    have C_law_shown : Own P w K mg base CX0 3 "_law_shown" ["_law_one"] (spShown K (gA "Task" K)) := ⟨⟨_, _, ok_shown R_role R_many R_other R_same R_takes R_forgets F_law_shown, He.glo_ok X G (c.at_ 14), F_law_shown.kp, F_law_shown.bindsN fun _ _ _ _ _ _ us hl => match us, hl with | [_], _ => rfl⟩⟩
    have C_law_unlike : Own P w K mg base CX0 3 "_law_unlike" ["_law_pen_here", "_law_one", "_law_titles"] (spUnlike K) := ⟨⟨_, _, ok_unlike T C_law_draw C_law_pick C_law_shuffled F_law_unlike, He.glo_ok X G (c.at_ 15), F_law_unlike.kp, F_law_unlike.bindsN fun _ _ _ _ _ _ us hl => match us, hl with | [_, _, _], _ => rfl⟩⟩
    have C_law_lists : Own P w K mg base CX0 3 "_law_lists" ["_law_pen_here", "_law_one"] (spLists K) := ⟨⟨_, _, ok_lists T C_law_shuffled F_law_lists, He.glo_ok X G (c.at_ 16), F_law_lists.kp, F_law_lists.bindsN fun _ _ _ _ _ _ us hl => match us, hl with | [_, _], _ => rfl⟩⟩
    exact {
      pen := C_law_pen
      words := C_law_words
      task := C_law_task
      shown := C_law_shown
      unlike := C_law_unlike
      lists := C_law_lists
      eq := EQ
      ty := TT
      b1 := by
        obtain ⟨g, hb⟩ := kb1 F_init
        exact ⟨⟨_, _, _, g, mk, O_init, gT, hb⟩⟩
      b2 := by
        obtain ⟨g, hb⟩ := kb2 F_init
        exact ⟨⟨_, _, _, g, mk, O_init, gT, hb⟩⟩
      b3 := by
        obtain ⟨g, hb⟩ := kb3 F_init
        exact ⟨⟨_, _, _, g, mk, O_init, gT, hb⟩⟩
      b4 := by
        obtain ⟨g, hb⟩ := kb4 F_init
        exact ⟨⟨_, _, _, g, mk, O_init, gT, hb⟩⟩
      b5 := by
        obtain ⟨g, hb⟩ := kb5 F_init
        exact ⟨⟨_, _, _, g, mk, O_init, gT, hb⟩⟩
      es := ⟨_, _, _, _, rfl, fun H => ⟨fNil_ok (c.at_ 57) H, fNil_ok (c.at_ 58) H, fNil_ok (c.at_ 59) H, fNil_ok (c.at_ 60) H⟩⟩ }
  exact ok_law T L F_law
end LW
open PySem PySem.W PySem.Calls PyProof.Rows
theorem PySem.Challenge.cw_fewhands_k04_tasks_made_holds : PySem.Challenge.rw_fewhands_k04_tasks_made.Holds := by
  w_on; o_law
  refine HandSHeadRun.head_any (r := OpenLaw.row PySem.Challenge.rw_fewhands_k04_tasks_made) (q := view (OpenLaw.row PySem.Challenge.rw_fewhands_k04_tasks_made).prog [25]) (H := LW.hk) (ob := Ys.obZ 6 LW.fb LW.fn) (M := 2000) (loose := LW.loose) (d := HandSHeadRun.topDef (OpenLaw.row PySem.Challenge.rw_fewhands_k04_tasks_made).prog 25) (kwd := []) Ys.obZ_eq
    (by kernel_rfl) (fun s => by kernel_rfl) LW.run (by kernel_rfl) (by kernel_rfl) (by kernel_rfl) (by rfl) (by first | assumption | decide +kernel) (by decide +kernel) ⟨rfl, rfl, rfl, rfl, rfl, by decide +kernel⟩ ?hw ?hc
  case hw => w_witness2
  case hc =>
    refine Ys.walk_ofG (l := PySem.Challenge.rw_fewhands_k04_tasks_made) (n := 63) (k := 6) (x := "_law_script") (CX := fun _ => L2.CX0) rfl (by decide) (by kernel_rfl) ⟨rfl, by decide, by decide⟩ ?F (fun _ _ _ _ _ z => z)
    intro w mg fa h Y G hmg0
    obtain ⟨K, KX, c⟩ := Y
    have hmg : mg ("law" : PySem.Str) = some (.ref fa) := by
      have e : (HandSHeadRun.topDef (OpenLaw.row PySem.Challenge.rw_fewhands_k04_tasks_made).prog 25).name = ("law" : PySem.Str) := by kernel_rfl
      rw [← e]
      exact hmg0
    obtain ⟨fd, hb, hF⟩ := LW.facts (P := (PySem.Challenge.rw_fewhands_k04_tasks_made).prog) (w := w) KX G hmg c
    exact ⟨K, fd, LW.spLaw K, KX, hb, fun H a ns hl _ hS => ⟨a, ns, rfl, hS, hl, fun _ => rfl⟩, hF⟩
