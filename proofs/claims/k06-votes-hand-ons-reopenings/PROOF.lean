import PyProof.Rows.All
import Wide.All
import OpenK.AllK
import Wide.FinOn
import HandS.ForMost
import HandS.SetTxt0
import HandS.Set
import HandS.SetFor
import HandS.Strs
import HandS.More
import PyProof.ReprRoads
import PyProof.CallFns
import KE.KStateDown
import HandS.Defaults
import HandS.Head0
import HandS.Head1
import HandS.Head2
import HandS.HeadEnd
import HandS.HeadHook1
import HandS.HeadHook2
import HandS.Conv
import HandS.TupAny
import HandS.Wide
import HandS.Flow
import HandS.NoneIn
import HandS.IsInst
import HandS.Text
import HandS.Property
import HandS.OwnEq
import HandS.MakeKwOnly
import HandS.MakeKw
import KE.KExcSuper
import KE.RegKSuper
import HandS.Exc
import HandS.ExcInit
import HandS.ExcField
import HandS.ExcIs
import HandS.ExcSuper
import KE.KIsAll
import KE.KTryMore
import HandS.WordsExc
import HandS.RaiseMore
import HandS.ExcOwn
import HandS.Star
import HandS.Style
import HandS.AnyAll
import HandS.HeadHook3
import PyProof.AutoSeq1
import HandS.TupSets
import HandS.Dict
import HandS.DictComp
import HandS.Iter
import HandS.WordsDict
import KE.KDictSum
import PyProof.TupleOfSeq
import HandS.DictEq
import HandS.ClsMeth
import HandS.CallLocal
import HandS.Nested
import KE.KSuper
import PyProof.Rows.CallKw2
import KE.KParD
import HandS.Lambda
import HandS.EndBits
import HandS.TryMany
import HandS.DeepEq
import KE.KNestM
import HandS.HeadHook4
import PySem.Challenge.RW_fewhands_k06_votes_hand_ons_reopenings
import KE.DataCmp
import HandS.CallSlots
set_option Elab.async false
set_option linter.all false
set_option maxRecDepth 100000
set_option maxHeartbeats 40000000
namespace Ys
open PySem PySem.Spec PyProof.Rows L2
def sysB (K : PySem.W.Frag) : Bool := match K.lookup sysModules with
  | some o => o.cls == .type "dict"
  | none => false
structure DefY where
  ad : PySem.W.Frag → Addr
  name : Str
  qual : Str
  params : Arguments
  body : List Stmt
  scope : Scope
  dfl : List He.Dv := []
  kwd : List (Str × He.Dv) := []
def fnY (K : PySem.W.Frag) (a : Addr) : He.FnW := (K.lookup a).bind fun o => match o.data with
  | .func fd => some (fd.name, fd.qualname, fd.params, fd.body, fd.scope, fd.globals, fd.closure, fd.builtins)
  | _ => none
def DefY.val (d : DefY) : He.FnW := some (d.name, d.qual, d.params, .stmts d.body, d.scope, mainGlobals, [], builtinsNs)
def DefY.dvs (K : PySem.W.Frag) (d : DefY) : List V := d.dfl.map (He.Dv.v K)
def DefY.kws (K : PySem.W.Frag) (d : DefY) : List (Str × V) := d.kwd.map fun q => (q.1, q.2.v K)
def DefY.ok (K : PySem.W.Frag) (d : DefY) : Bool := PySem.W.keepIn K (.ref (d.ad K)) && ((K.lookup (d.ad K)).elim false fun o => match o.data with
  | .func fd => PySem.W.codeIn K fd.code d.qual && (He.dflB K fd.defaults (d.dvs K) && He.kwdB K fd.kwdefaults (d.kws K))
  | _ => false)
def obsZ (fb : List (PySem.W.Frag → Bool)) (fn : List DefY) (K : PySem.W.Frag) : He.AlD := ((fb.all fun f => f K) && fn.all fun d => d.ok K, fn.map fun d => fnY K (d.ad K))
def valZ (fn : List DefY) : He.AlD := (true, fn.map DefY.val)
def SaysZ (fb : List (PySem.W.Frag → Bool)) (fn : List DefY) (K : PySem.W.Frag) : Prop := obsZ fb fn K = valZ fn
def frZ (n : Nat) (g : Addr → Option Obj) : PySem.W.Frag := He.frG g (sysModules :: He.asD g n)
def hookZ (n : Nat) (fb : List (PySem.W.Frag → Bool)) (fn : List DefY) : PySem.W.Hook where
  α := He.AlD
  obs := fun s => obsZ fb fn (frZ n s.heap.get?)
  val := fun _ => valZ fn
  says := fun _ h => ∃ K : PySem.W.Frag, K.In h ∧ SaysZ fb fn K
  of := fun _ _ e => ⟨_, He.frG_in, e⟩
  keeps := fun _ _ _ ⟨K, hK, c⟩ k => ⟨K, PySem.W.Frag.In.keeps hK k, c⟩
def obZ (n : Nat) (fb : List (PySem.W.Frag → Bool)) (fn : List DefY) (s : PySem.W.SharedT) : He.AlD := obsZ fb fn (frZ n (HandSHeadRun.getT s))
def gA (x : Str) (K : PySem.W.Frag) : Addr := He.ga K x
def cA (x m : Str) (K : PySem.W.Frag) : Addr := He.ma K (He.ga K x) m
def pA (x m : Str) (K : PySem.W.Frag) : Addr := match PySem.W.recIn K (cA x m K) "property" with
  | some (.ref g :: _) => g
  | _ => 0
def kA (x f m : Str) (K : PySem.W.Frag) : Addr := match K.lookup (cA x f K) with
  | some ⟨_, _, .func fd, _⟩ => (match fd.kwdefaults with
    | .ref D => (match PySem.W.nsIn K D m with
      | some (some (.ref a)) => a
      | _ => 0)
    | _ => 0)
  | _ => 0
def fProp (x m : Str) (K : PySem.W.Frag) : Bool := decide (PySem.W.findIn K (.ref (He.ga K x)) m = some (some (.ref (cA x m K)))) && (decide (PySem.W.specialIn K (.ref (cA x m K)) "__get__" = some (some (.builtin "property.__get__"))) &&
  (decide (PySem.W.takesIn K (.ref (cA x m K)) = some true) && (match PySem.W.recIn K (cA x m K) "property" with
    | some (.ref g :: _) => decide (g = pA x m K)
    | _ => false)))
def fTy (x : Str) (K : PySem.W.Frag) : Bool := decide (PySem.W.findIn K (.ref (He.ga K x)) "__class__" = some (some (.builtin "object.__class__"))) && (decide (PySem.W.specialIn K (.builtin "object.__class__") "__get__" = some (some (.builtin "getset_descriptor.__get__"))) &&
  (decide (PySem.W.takesIn K (.builtin "object.__class__") = some true) && (decide (PySem.W.mroIn K (He.ga K x) (.type "object") = some true) && ((PySem.W.clsIn K (He.ga K x)).isSome && PySem.W.typeIn K (.ref (He.ga K x)) == some (.type "type")))))
def fNe (x : Str) (K : PySem.W.Frag) : Bool := decide (PySem.W.findIn K (.ref (He.ga K x)) "__ne__" = some (some (.builtin "object.__ne__")))
def fNil (a : PySem.W.Frag → Addr) (K : PySem.W.Frag) : Bool := match K.lookup (a K) with
  | some ⟨.type c, _, .seq its _, _⟩ => decide (c = "tuple") && decide (its.size = 0)
  | _ => false
abbrev noObj : Obj := { cls := .none, data := .fields #[] }
def fnC (K : PySem.W.Frag) (a : Addr) : He.FnW := (K.lookup a).bind fun o => match o.data with
  | .func g => some (g.name, g.qualname, g.params, g.body, g.scope, g.globals, [], g.builtins)
  | _ => none
def obsC (fb : List (PySem.W.Frag → Bool)) (fn fc : List DefY) (K : PySem.W.Frag) : He.AlD := ((fb.all fun f => f K) && fn.all fun d => d.ok K, (fn.map fun d => fnY K (d.ad K)) ++ fc.map fun d => fnC K (d.ad K))
def valC (fn fc : List DefY) : He.AlD := (true, fn.map DefY.val ++ fc.map DefY.val)
def SaysC (fb : List (PySem.W.Frag → Bool)) (fn fc : List DefY) (K : PySem.W.Frag) : Prop := obsC fb fn fc K = valC fn fc
def frC (n : Nat) (g : Addr → Option Obj) : PySem.W.Frag := He.frG g (cStatics :: sysModules :: He.asD g n)
def hookC (n : Nat) (fb : List (PySem.W.Frag → Bool)) (fn fc : List DefY) : PySem.W.Hook where
  α := He.AlD
  val := fun _ => valC fn fc
  obs := fun t => obsC fb fn fc (frC n t.heap.get?)
  says := fun _ h => ∃ K : PySem.W.Frag, K.In h ∧ SaysC fb fn fc K
  keeps := fun _ _ _ ⟨K, i, c⟩ k => ⟨K, i.keeps k, c⟩
  of := fun _ _ e => ⟨_, He.frG_in, e⟩
def obC (n : Nat) (fb : List (PySem.W.Frag → Bool)) (fn fc : List DefY) (s : PySem.W.SharedT) : He.AlD := obsC fb fn fc (frC n (HandSHeadRun.getT s))
def oexB (K : PySem.W.Frag) (C : Addr) : Bool := match K.lookup C with
  | some ⟨.type t, _, .cls c, sl⟩ => (match c.mro, sl.toList with
    | .ref D :: bm, [_, _, _, _, some (.builtin m), _] => (decide (t = "type") && (decide (D = C) && decide (m = "ValueError.__new__"))) && (PySem.HandSPX.refsVE bm && (c.hasDict && !c.hasDel))
    | _, _ => false)
  | _ => false
def oexA (x : Str) (K : PySem.W.Frag) : Bool := oexB K (He.ga K x) && (decide (PySem.W.findIn K (.ref (He.ga K x)) "__setattr__" = some (some (.builtin "object.__setattr__"))) && (decide (PySem.W.subIn K (.ref (He.ga K x)) (.type "BaseException") = some true) &&
  (decide (PySem.W.typeIn K (.ref (He.ga K x)) = some (.type "type")) && PySem.W.keepIn K (.ref (He.ga K x)))))
def excA (x fld : Str) (K : PySem.W.Frag) : Bool := xfB K (He.ga K x) && (decide (PySem.W.findIn K (.ref (He.ga K x)) "__class__" = some (some (.builtin "object.__class__"))) && (decide (PySem.W.specialIn K (.builtin "object.__class__") "__get__" = some (some (.builtin "getset_descriptor.__get__"))) &&
  (decide (PySem.W.takesIn K (.builtin "object.__class__") = some true) && (decide (PySem.W.mroIn K (He.ga K x) (.type "object") = some true) && (decide (PySem.W.findIn K (.ref (He.ga K x)) fld = some none) &&
  (decide (PySem.W.exmOne K (.ref (He.ga K x)) (.ref (He.ga K x)) = some true) && decide (PySem.W.kitOne K (.ref (He.ga K x)) (.type "ValueError") = some true)))))))
def fileB (K : PySem.W.Frag) (cd : Value) (file : Str) : Bool := match cd with
  | .ref a => (match K.lookup a with
    | some ⟨_, _, .fields vs, _⟩ => (match (vs[2]? : Option Value) with
      | some (.str z _) => file == z
      | _ => false)
    | _ => false)
  | _ => false
def cloB (K : PySem.W.Frag) (clo : List (Str × Addr)) (C : Addr) : Bool := match clo with
  | [(n, c)] => decide (n = "__class__") && (match K.lookup c with
    | some ⟨_, _, .cell (some (.ref D)), _⟩ => decide (D = C)
    | _ => false)
  | _ => false
def supA (x qual fld file : Str) (K : PySem.W.Frag) : Bool := (match K.lookup (cA x "__init__" K) with
    | some ⟨_, _, .func g, _⟩ => PySem.W.codeIn K g.code qual && (fileB K g.code file && (cloB K g.closure (gA x K) && decide (g.defaults = .none)))
    | _ => false) &&
  (decide (PySem.W.ks_superIn K (gA x K) (gA x K) "__init__" = some (some (.builtin "ValueError.__init__"))) && (decide (PySem.W.subIn K (.ref (gA x K)) (.type "ValueError") = some true) && (decide (PySem.W.nsIn K cStatics "thirdparty.any" = some none) &&
  (decide (PySem.W.nsIn K mainGlobals "super" = some none) && (decide (PySem.W.findIn K (.ref (gA x K)) fld = some none) && (decide (PySem.W.mroIn K (gA x K) (.ref (gA x K)) = some true) &&
  (decide (PySem.W.findIn K (.ref (gA x K)) "__init__" = some (some (.ref (cA x "__init__" K)))) && decide (PySem.W.typeIn K (.ref (cA x "__init__" K)) = some (.type "function")))))))))
def supT (x up qual file : Str) (dvs : PySem.W.Frag → List V) (kws : PySem.W.Frag → List (Str × V)) (K : PySem.W.Frag) : Bool := (match K.lookup (cA x "__init__" K) with
    | some ⟨_, _, .func g, _⟩ => PySem.W.codeIn K g.code qual && (fileB K g.code file && (cloB K g.closure (gA x K) && (He.dflB K g.defaults (dvs K) && He.kwdB K g.kwdefaults (kws K))))
    | _ => false) &&
  (decide (PySem.W.ks_superIn K (gA x K) (gA x K) "__init__" = some (some (.ref (cA up "__init__" K)))) && ((PySem.W.clsIn K (gA x K)).isSome && (decide (PySem.W.nsIn K cStatics "thirdparty.any" = some none) &&
  (decide (PySem.W.nsIn K mainGlobals "super" = some none) && (PySem.W.fnIn K (cA up "__init__" K) && (decide (PySem.W.mroIn K (gA x K) (.ref (gA x K)) = some true) &&
  decide (PySem.W.typeIn K (.ref (cA up "__init__" K)) = some (.type "function"))))))))
def sA (x m : Str) (K : PySem.W.Frag) : Addr := match PySem.W.recIn K (cA x m K) "property" with
  | some (_ :: .ref g :: _) => g
  | _ => 0
def fPset (x m : Str) (K : PySem.W.Frag) : Bool := decide (PySem.W.takerIn K (He.ga K x) m = some (some (.ref (cA x m K)))) && (decide (PySem.W.typeIn K (.ref (cA x m K)) = some (.type "property")) &&
  (match PySem.W.recIn K (cA x m K) "property" with
    | some (_ :: .ref g :: _) => decide (g = sA x m K)
    | _ => false))
def fFn (x m : Str) (K : PySem.W.Frag) : Bool := PySem.W.fnIn K (cA x m K)
abbrev AlCT : Type := He.AlD × List (Option (List (Option (Str × Int))))
def obsCT (fb : List (PySem.W.Frag → Bool)) (fn fc : List DefY) (ts : List He.Tab) (K : PySem.W.Frag) : AlCT := (obsC fb fn fc K, ts.map fun t => He.dicW K (t.1 K))
def valCT (fn fc : List DefY) (ts : List He.Tab) (w : World) : AlCT := (valC fn fc, ts.map fun t => some (He.keysIn w.params t.2))
def SaysCT (fb : List (PySem.W.Frag → Bool)) (fn fc : List DefY) (ts : List He.Tab) (w : World) (K : PySem.W.Frag) : Prop := obsCT fb fn fc ts K = valCT fn fc ts w
def hookCT (n : Nat) (fb : List (PySem.W.Frag → Bool)) (fn fc : List DefY) (ts : List He.Tab) : PySem.W.Hook where
  α := AlCT
  val := fun w => valCT fn fc ts w
  obs := fun t => obsCT fb fn fc ts (frC n t.heap.get?)
  says := fun w h => ∃ K : PySem.W.Frag, K.In h ∧ SaysCT fb fn fc ts w K
  keeps := fun _ _ _ ⟨K, i, c⟩ k => ⟨K, i.keeps k, c⟩
  of := fun _ _ e => ⟨_, He.frG_in, e⟩
def obCT (n : Nat) (fb : List (PySem.W.Frag → Bool)) (fn fc : List DefY) (ts : List He.Tab) (s : PySem.W.SharedT) : AlCT := obsCT fb fn fc ts (frC n (HandSHeadRun.getT s))
def valsV (kvs : List (Str × V)) (a : PySem.W.Frag → Addr) (K : PySem.W.Frag) : Bool := kvs.all fun q => match PySem.W.nsIn K (a K) q.1 with
  | some (some u) => He.relB q.2 u
  | _ => false
def cdOf (K : PySem.W.Frag) (f : Addr) : Addr := match K.lookup f with
  | some ⟨_, _, .func fd, _⟩ => (match fd.code with
    | .ref c => c
    | _ => 0)
  | _ => 0
def cTb (K : PySem.W.Frag) (f : PySem.W.Frag → Addr) : Addr × Addr := (cdOf K (f K), He.tabOf K (cdOf K (f K)))
def tabsOk (g : Addr → Option Obj) (tf : List (PySem.W.Frag → Addr)) (K : PySem.W.Frag) : Bool := (tf.all fun f => PySem.W.codeHdIn K (cTb K f).1 (cTb K f).2 && (match g (cTb K f).2 with
  | some o => He.emptyTab o
  | none => false)) && decide ((tf.map fun f => (cTb K f).2).Nodup)
abbrev AlL : Type := AlCT × Bool
def frL (n : Nat) (g : Addr → Option Obj) : PySem.W.Frag := He.frT g (cStatics :: sysModules :: He.asD g n)
def obsLK (fb : List (PySem.W.Frag → Bool)) (fn fc : List DefY) (ts : List He.Tab) (tf : List (PySem.W.Frag → Addr)) (g : Addr → Option Obj) (K : PySem.W.Frag) : AlL := (obsCT fb fn fc ts K, tabsOk g tf K)
structure SaysL (fb : List (PySem.W.Frag → Bool)) (fn fc : List DefY) (ts : List He.Tab) (tf : List (PySem.W.Frag → Addr)) (w : World) (h : Heap) (K : PySem.W.Frag) : Prop where
  ct : SaysCT fb fn fc ts w K
  hd : ∀ f ∈ tf, PySem.W.codeHdIn K (cTb K f).1 (cTb K f).2 = true
  out : ∀ f ∈ tf, K.lookup (cTb K f).2 = none
  emp : ∀ f ∈ tf, h.get? (cTb K f).2 = some noObj
  nd : (tf.map fun f => (cTb K f).2).Nodup
theorem saysL_of {n : Nat} {fb : List (PySem.W.Frag → Bool)} {fn fc : List DefY} {ts : List He.Tab} {tf : List (PySem.W.Frag → Addr)} {w : World} {h : Heap} (e : obsLK fb fn fc ts tf h.get? (frL n h.get?) = (valCT fn fc ts w, true)) : SaysL fb fn fc ts tf w h (frL n h.get?) := by
  have e1 : obsCT fb fn fc ts (frL n h.get?) = valCT fn fc ts w := congrArg (fun z : AlL => z.1) e
  have e2 : tabsOk h.get? tf (frL n h.get?) = true := congrArg (fun z : AlL => z.2) e
  obtain ⟨h1, h2⟩ := He.ba e2
  have key : ∀ f ∈ tf, PySem.W.codeHdIn (frL n h.get?) (cTb (frL n h.get?) f).1 (cTb (frL n h.get?) f).2 = true ∧ ∃ o, h.get? (cTb (frL n h.get?) f).2 = some o ∧ He.emptyTab o = true := fun f hf => by
    obtain ⟨h3, h4⟩ := He.ba (List.all_eq_true.mp h1 f hf)
    cases q : h.get? (cTb (frL n h.get?) f).2 with
    | none => rw [q] at h4; cases h4
    | some o => rw [q] at h4; exact ⟨h3, o, rfl, h4⟩
  refine ⟨e1, fun f hf => (key f hf).1, fun f hf => ?_, fun f hf => ?_, of_decide_eq_true h2⟩
  · obtain ⟨_, o, q, z⟩ := key f hf
    exact He.frT_none q z
  · obtain ⟨_, o, q, z⟩ := key f hf
    rw [q, He.emptyTab_eq z]
def hookL (n : Nat) (fb : List (PySem.W.Frag → Bool)) (fn fc : List DefY) (ts : List He.Tab) (tf : List (PySem.W.Frag → Addr)) : PySem.W.Hook where
  α := AlL
  val := fun w => (valCT fn fc ts w, true)
  obs := fun t => obsLK fb fn fc ts tf t.heap.get? (frL n t.heap.get?)
  says := fun w h => ∃ K : PySem.W.Frag, K.In h ∧ SaysL fb fn fc ts tf w h K
  keeps := fun _ _ _ ⟨K, i, c⟩ k => ⟨K, i.keeps k, ⟨c.ct, c.hd, c.out, fun f hf => k _ _ (c.emp f hf), c.nd⟩⟩
  of := fun _ _ e => ⟨_, He.frT_in, saysL_of e⟩
def obL (n : Nat) (fb : List (PySem.W.Frag → Bool)) (fn fc : List DefY) (ts : List He.Tab) (tf : List (PySem.W.Frag → Addr)) (s : PySem.W.SharedT) : AlL := obsLK fb fn fc ts tf (HandSHeadRun.getT s) (frL n (HandSHeadRun.getT s))
def frRL (n : Nat) (g : Addr → Option Obj) : PySem.W.Frag := He.frT g (List.range n)
theorem saysRL_of {n : Nat} {fb : List (PySem.W.Frag → Bool)} {fn fc : List DefY} {ts : List He.Tab} {tf : List (PySem.W.Frag → Addr)} {w : World} {h : Heap} (e : obsLK fb fn fc ts tf h.get? (frRL n h.get?) = (valCT fn fc ts w, true)) : SaysL fb fn fc ts tf w h (frRL n h.get?) := by
  have e1 : obsCT fb fn fc ts (frRL n h.get?) = valCT fn fc ts w := congrArg (fun z : AlL => z.1) e
  have e2 : tabsOk h.get? tf (frRL n h.get?) = true := congrArg (fun z : AlL => z.2) e
  obtain ⟨h1, h2⟩ := He.ba e2
  have key : ∀ f ∈ tf, PySem.W.codeHdIn (frRL n h.get?) (cTb (frRL n h.get?) f).1 (cTb (frRL n h.get?) f).2 = true ∧ ∃ o, h.get? (cTb (frRL n h.get?) f).2 = some o ∧ He.emptyTab o = true := fun f hf => by
    obtain ⟨h3, h4⟩ := He.ba (List.all_eq_true.mp h1 f hf)
    cases q : h.get? (cTb (frRL n h.get?) f).2 with
    | none => rw [q] at h4; cases h4
    | some o => rw [q] at h4; exact ⟨h3, o, rfl, h4⟩
  refine ⟨e1, fun f hf => (key f hf).1, fun f hf => ?_, fun f hf => ?_, of_decide_eq_true h2⟩
  · obtain ⟨_, o, q, z⟩ := key f hf
    exact He.frT_none q z
  · obtain ⟨_, o, q, z⟩ := key f hf
    rw [q, He.emptyTab_eq z]
def hookRL (n : Nat) (fb : List (PySem.W.Frag → Bool)) (fn fc : List DefY) (ts : List He.Tab) (tf : List (PySem.W.Frag → Addr)) : PySem.W.Hook where
  α := AlL
  val := fun w => (valCT fn fc ts w, true)
  obs := fun t => obsLK fb fn fc ts tf t.heap.get? (frRL n t.heap.get?)
  says := fun w h => ∃ K : PySem.W.Frag, K.In h ∧ SaysL fb fn fc ts tf w h K
  keeps := fun _ _ _ ⟨K, i, c⟩ k => ⟨K, i.keeps k, ⟨c.ct, c.hd, c.out, fun f hf => k _ _ (c.emp f hf), c.nd⟩⟩
  of := fun _ _ e => ⟨_, He.frT_in, saysRL_of e⟩
def obRL (n : Nat) (fb : List (PySem.W.Frag → Bool)) (fn fc : List DefY) (ts : List He.Tab) (tf : List (PySem.W.Frag → Addr)) (s : PySem.W.SharedT) : AlL := obsLK fb fn fc ts tf (HandSHeadRun.getT s) (frRL n (HandSHeadRun.getT s))
end Ys
namespace LW
open PySem PySem.Spec PyProof.Rows L2 Ys
abbrev P0 : Program := PySem.Challenge.pw_fewhands_k06_votes_hand_ons_reopenings
def top (i : Nat) : Stmt := P0.main.body.getD i (.Pass ⟨0, 0, 0, 0⟩)
def inner : Stmt → Nat → Stmt
  | .ClassDef _ _ _ body _ _ _ _ _ _ _, j => (body.filter fun y => match y with | .FunctionDef .. => true | _ => false).getD j (.Pass ⟨0, 0, 0, 0⟩)
  | s, _ => s
abbrev s_is_word : Stmt := top 6
abbrev s_is_integer : Stmt := top 7
abbrev s_is_within : Stmt := top 8
abbrev s_is_list : Stmt := top 9
abbrev s_are_words : Stmt := top 10
abbrev s_are_different_words : Stmt := top 11
abbrev s_ascending : Stmt := top 12
abbrev s_Task_init : Stmt := (inner (top 14) 0)
abbrev s_Task_role : Stmt := (inner (top 14) 1)
abbrev s_Task_many : Stmt := (inner (top 14) 2)
abbrev s_Task_other : Stmt := (inner (top 14) 3)
abbrev s_Task_same : Stmt := (inner (top 14) 4)
abbrev s_Task_takes : Stmt := (inner (top 14) 5)
abbrev s_Task_forgets : Stmt := (inner (top 14) 6)
abbrev s_Task_likeness : Stmt := (inner (top 14) 7)
abbrev s_Task_eq : Stmt := (inner (top 14) 8)
abbrev s_law_pen : Stmt := top 19
abbrev s_law_draw : Stmt := top 20
abbrev s_law_pick : Stmt := top 21
abbrev s_law_shuffled : Stmt := top 22
abbrev s_law_words : Stmt := top 23
abbrev s_law_any_value : Stmt := top 24
abbrev s_law_is_word : Stmt := top 25
abbrev s_law_shown : Stmt := top 26
abbrev s_law_told : Stmt := top 27
abbrev s_law_called : Stmt := top 28
abbrev s_law_due : Stmt := top 29
abbrev s_law : Stmt := top 30
abbrev s_Vote_init : Stmt := inner (top 15) 0
abbrev s_HandOn_init : Stmt := inner (top 16) 0
abbrev s_Reopen_init : Stmt := inner (top 17) 0
abbrev PR : Program := (PySem.Challenge.rw_fewhands_k06_votes_hand_ons_reopenings).prog
abbrev s_x : Stmt := inner (top 1) 0
def dSup : DefY := ⟨cA "InvalidTask" "__init__", "__init__", "InvalidTask.__init__", defArgs s_x, defBody s_x, defScope s_x, [], []⟩
def dVote : DefY := ⟨cA "Vote" "__init__", "__init__", "Vote.__init__", defArgs s_Vote_init, defBody s_Vote_init, defScope s_Vote_init, [], []⟩
def dHandOn : DefY := ⟨cA "HandOn" "__init__", "__init__", "HandOn.__init__", defArgs s_HandOn_init, defBody s_HandOn_init, defScope s_HandOn_init, [], []⟩
def dReopen : DefY := ⟨cA "Reopen" "__init__", "__init__", "Reopen.__init__", defArgs s_Reopen_init, defBody s_Reopen_init, defScope s_Reopen_init, [], []⟩
def dvVote (_ : PySem.W.Frag) : List V := [.non]
def kvVote (K : PySem.W.Frag) : List (Str × V) := [("other", .ref (kA "Vote" "__init__" "other" K))]
def dvHandOn (_ : PySem.W.Frag) : List V := []
def kvHandOn (_ : PySem.W.Frag) : List (Str × V) := [("role", .non)]
def dvReopen (_ : PySem.W.Frag) : List V := []
def kvReopen (_ : PySem.W.Frag) : List (Str × V) := [("role", .non)]
def ordB (xs : List Str) (K : PySem.W.Frag) : Bool := xs.all fun x => xs.all fun y => PySem.W.notFirst K (gA x K) (.ref (gA y K)) || (decide (gA x K ≠ gA y K) && decide (PySem.W.subIn K (.ref (gA y K)) (.ref (gA x K)) = some true))
def fb : List (PySem.W.Frag → Bool) := [sysB, fun K => He.Fa.ok K (.glo "is_word"), fun K => He.Fa.ok K (.glo "is_integer"), fun K => He.Fa.ok K (.glo "is_within"), fun K => He.Fa.ok K (.glo "is_list"), fun K => He.Fa.ok K (.glo "are_words"), fun K => He.Fa.ok K (.glo "are_different_words"), fun K => He.Fa.ok K (.glo "ascending"), fun K => He.Fa.ok K (.glo "_law_pen"), fun K => He.Fa.ok K (.glo "_law_draw"), fun K => He.Fa.ok K (.glo "_law_pick"), fun K => He.Fa.ok K (.glo "_law_shuffled"), fun K => He.Fa.ok K (.glo "_law_words"), fun K => He.Fa.ok K (.glo "_law_any_value"), fun K => He.Fa.ok K (.glo "_law_is_word"), fun K => He.Fa.ok K (.glo "_law_shown"), fun K => He.Fa.ok K (.glo "_law_told"), fun K => He.Fa.ok K (.glo "_law_called"), fun K => He.Fa.ok K (.glo "_law_due"), fun K => He.Fa.ok K (.glo "law"), fun K => He.Fa.ok K (.glo "Task"), fun K => He.Fa.ok K (.glo "Vote"), fun K => He.Fa.ok K (.glo "HandOn"), fun K => He.Fa.ok K (.glo "Reopen"), fun K => He.Fa.ok K (.glo "InvalidTask"), fun K => He.Fa.ok K (.free "len"), fun K => He.Fa.ok K (.free "int"), fun K => He.Fa.ok K (.free "list"), fun K => He.Fa.ok K (.free "tuple"), fun K => He.Fa.ok K (.free "set"), fun K => He.Fa.ok K (.free "dict"), fun K => He.Fa.ok K (.free "str"), fun K => He.Fa.ok K (.free "bool"), fun K => He.Fa.ok K (.free "sorted"), fun K => He.Fa.ok K (.free "min"), fun K => He.Fa.ok K (.free "max"), fun K => He.Fa.ok K (.free "sum"), fun K => He.Fa.ok K (.free "all"), fun K => He.Fa.ok K (.free "any"), fun K => He.Fa.ok K (.free "repr"), fun K => He.Fa.ok K (.free "range"), fun K => He.Fa.ok K (.free "isinstance"), fun K => He.Fa.ok K (.free "ValueError"), fun K => He.Fa.ok K (.free "super"), fun K => He.Fa.ok K (.str "LETTERS" "abcdefghijklmnopqrstuvwxyz"), fun K => He.Fa.ok K (.int "LONGEST_WORD" 8), fun K => He.Fa.ok K (.int "MANY" 3), fun K => He.Fa.ok K (.cls "Task"), fun K => He.Fa.ok K (.noat "Task" "own_role"), fun K => He.Fa.ok K (.noat "Task" "own_many"), fun K => He.Fa.ok K (.noat "Task" "own_other"), fun K => He.Fa.ok K (.noat "Task" "own_same"), fun K => He.Fa.ok K (.noat "Task" "own_takes"), fun K => He.Fa.ok K (.noat "Task" "own_forgets"), fun K => He.Fa.ok K (.mkr "Task"), fTy "Task", fun K => decide (PySem.W.kitOne K (.ref (gA "Task" K)) (.ref (gA "Task" K)) = some true), fProp "Task" "role", fProp "Task" "many", fProp "Task" "other", fProp "Task" "same", fProp "Task" "takes", fProp "Task" "forgets", fun K => He.Fa.ok K (.meth "Task" "likeness"), fun K => He.Fa.ok K (.meth "Task" "__eq__"), fNe "Task", fun K => He.Fa.ok K (.cls "Vote"), fun K => He.Fa.ok K (.noat "Vote" "own_role"), fun K => He.Fa.ok K (.noat "Vote" "own_many"), fun K => He.Fa.ok K (.noat "Vote" "own_other"), fun K => He.Fa.ok K (.noat "Vote" "own_same"), fun K => He.Fa.ok K (.noat "Vote" "own_takes"), fun K => He.Fa.ok K (.noat "Vote" "own_forgets"), fun K => He.Fa.ok K (.mkr "Vote"), fTy "Vote", fun K => decide (PySem.W.kitOne K (.ref (gA "Vote" K)) (.ref (gA "Task" K)) = some true), fProp "Vote" "role", fProp "Vote" "many", fProp "Vote" "other", fProp "Vote" "same", fProp "Vote" "takes", fProp "Vote" "forgets", fun K => He.Fa.ok K (.meth "Vote" "likeness"), fun K => He.Fa.ok K (.meth "Vote" "__eq__"), fNe "Vote", fun K => He.Fa.ok K (.cls "HandOn"), fun K => He.Fa.ok K (.noat "HandOn" "own_role"), fun K => He.Fa.ok K (.noat "HandOn" "own_many"), fun K => He.Fa.ok K (.noat "HandOn" "own_other"), fun K => He.Fa.ok K (.noat "HandOn" "own_same"), fun K => He.Fa.ok K (.noat "HandOn" "own_takes"), fun K => He.Fa.ok K (.noat "HandOn" "own_forgets"), fun K => He.Fa.ok K (.mkr "HandOn"), fTy "HandOn", fun K => decide (PySem.W.kitOne K (.ref (gA "HandOn" K)) (.ref (gA "Task" K)) = some true), fProp "HandOn" "role", fProp "HandOn" "many", fProp "HandOn" "other", fProp "HandOn" "same", fProp "HandOn" "takes", fProp "HandOn" "forgets", fun K => He.Fa.ok K (.meth "HandOn" "likeness"), fun K => He.Fa.ok K (.meth "HandOn" "__eq__"), fNe "HandOn", fun K => He.Fa.ok K (.cls "Reopen"), fun K => He.Fa.ok K (.noat "Reopen" "own_role"), fun K => He.Fa.ok K (.noat "Reopen" "own_many"), fun K => He.Fa.ok K (.noat "Reopen" "own_other"), fun K => He.Fa.ok K (.noat "Reopen" "own_same"), fun K => He.Fa.ok K (.noat "Reopen" "own_takes"), fun K => He.Fa.ok K (.noat "Reopen" "own_forgets"), fun K => He.Fa.ok K (.mkr "Reopen"), fTy "Reopen", fun K => decide (PySem.W.kitOne K (.ref (gA "Reopen" K)) (.ref (gA "Task" K)) = some true), fProp "Reopen" "role", fProp "Reopen" "many", fProp "Reopen" "other", fProp "Reopen" "same", fProp "Reopen" "takes", fProp "Reopen" "forgets", fun K => He.Fa.ok K (.meth "Reopen" "likeness"), fun K => He.Fa.ok K (.meth "Reopen" "__eq__"), fNe "Reopen", fNil (kA "Task" "__init__" "other"), fNil (kA "Task" "__init__" "same"), fNil (kA "Task" "__init__" "takes"), fNil (kA "Task" "__init__" "forgets"), fNil (kA "Vote" "__init__" "other"), ordB ["Task", "Vote", "HandOn", "Reopen"], fun K => PySem.W.notFirst K (gA "Vote" K) (.ref (gA "Vote" K)), fun K => PySem.W.notFirst K (gA "Vote" K) (.ref (gA "Task" K)), oexA "InvalidTask", excA "InvalidTask" "field", supA "InvalidTask" "InvalidTask.__init__" "field" PR.main.file, supT "Vote" "Task" "Vote.__init__" PR.main.file dvVote kvVote, supT "HandOn" "Task" "HandOn.__init__" PR.main.file dvHandOn kvHandOn, supT "Reopen" "Task" "Reopen.__init__" PR.main.file dvReopen kvReopen]
def fn : List DefY := [⟨gA "is_word", "is_word", "is_word", defArgs s_is_word, defBody s_is_word, defScope s_is_word, [], []⟩, ⟨gA "is_integer", "is_integer", "is_integer", defArgs s_is_integer, defBody s_is_integer, defScope s_is_integer, [], []⟩, ⟨gA "is_within", "is_within", "is_within", defArgs s_is_within, defBody s_is_within, defScope s_is_within, [], []⟩, ⟨gA "is_list", "is_list", "is_list", defArgs s_is_list, defBody s_is_list, defScope s_is_list, [], []⟩, ⟨gA "are_words", "are_words", "are_words", defArgs s_are_words, defBody s_are_words, defScope s_are_words, [.non], []⟩, ⟨gA "are_different_words", "are_different_words", "are_different_words", defArgs s_are_different_words, defBody s_are_different_words, defScope s_are_different_words, [.non], []⟩, ⟨gA "ascending", "ascending", "ascending", defArgs s_ascending, defBody s_ascending, defScope s_ascending, [], []⟩, ⟨gA "_law_pen", "_law_pen", "_law_pen", defArgs s_law_pen, defBody s_law_pen, defScope s_law_pen, [], []⟩, ⟨gA "_law_draw", "_law_draw", "_law_draw", defArgs s_law_draw, defBody s_law_draw, defScope s_law_draw, [], []⟩, ⟨gA "_law_pick", "_law_pick", "_law_pick", defArgs s_law_pick, defBody s_law_pick, defScope s_law_pick, [], []⟩, ⟨gA "_law_shuffled", "_law_shuffled", "_law_shuffled", defArgs s_law_shuffled, defBody s_law_shuffled, defScope s_law_shuffled, [], []⟩, ⟨gA "_law_words", "_law_words", "_law_words", defArgs s_law_words, defBody s_law_words, defScope s_law_words, [], []⟩, ⟨gA "_law_any_value", "_law_any_value", "_law_any_value", defArgs s_law_any_value, defBody s_law_any_value, defScope s_law_any_value, [], []⟩, ⟨gA "_law_is_word", "_law_is_word", "_law_is_word", defArgs s_law_is_word, defBody s_law_is_word, defScope s_law_is_word, [], []⟩, ⟨gA "_law_shown", "_law_shown", "_law_shown", defArgs s_law_shown, defBody s_law_shown, defScope s_law_shown, [], []⟩, ⟨gA "_law_told", "_law_told", "_law_told", defArgs s_law_told, defBody s_law_told, defScope s_law_told, [], []⟩, ⟨gA "_law_called", "_law_called", "_law_called", defArgs s_law_called, defBody s_law_called, defScope s_law_called, [], []⟩, ⟨gA "_law_due", "_law_due", "_law_due", defArgs s_law_due, defBody s_law_due, defScope s_law_due, [], []⟩, ⟨gA "law", "law", "law", defArgs s_law, defBody s_law, defScope s_law, [], []⟩, ⟨cA "Task" "__init__", "__init__", "Task.__init__", defArgs s_Task_init, defBody s_Task_init, defScope s_Task_init, [.non], [("many", .int 1), ("other", .adr (kA "Task" "__init__" "other")), ("same", .adr (kA "Task" "__init__" "same")), ("takes", .adr (kA "Task" "__init__" "takes")), ("forgets", .adr (kA "Task" "__init__" "forgets"))]⟩, ⟨pA "Task" "role", "role", "Task.role", defArgs s_Task_role, defBody s_Task_role, defScope s_Task_role, [], []⟩, ⟨pA "Task" "many", "many", "Task.many", defArgs s_Task_many, defBody s_Task_many, defScope s_Task_many, [], []⟩, ⟨pA "Task" "other", "other", "Task.other", defArgs s_Task_other, defBody s_Task_other, defScope s_Task_other, [], []⟩, ⟨pA "Task" "same", "same", "Task.same", defArgs s_Task_same, defBody s_Task_same, defScope s_Task_same, [], []⟩, ⟨pA "Task" "takes", "takes", "Task.takes", defArgs s_Task_takes, defBody s_Task_takes, defScope s_Task_takes, [], []⟩, ⟨pA "Task" "forgets", "forgets", "Task.forgets", defArgs s_Task_forgets, defBody s_Task_forgets, defScope s_Task_forgets, [], []⟩, ⟨cA "Task" "likeness", "likeness", "Task.likeness", defArgs s_Task_likeness, defBody s_Task_likeness, defScope s_Task_likeness, [], []⟩, ⟨cA "Task" "__eq__", "__eq__", "Task.__eq__", defArgs s_Task_eq, defBody s_Task_eq, defScope s_Task_eq, [], []⟩, ⟨pA "Vote" "role", "role", "Task.role", defArgs s_Task_role, defBody s_Task_role, defScope s_Task_role, [], []⟩, ⟨pA "Vote" "many", "many", "Task.many", defArgs s_Task_many, defBody s_Task_many, defScope s_Task_many, [], []⟩, ⟨pA "Vote" "other", "other", "Task.other", defArgs s_Task_other, defBody s_Task_other, defScope s_Task_other, [], []⟩, ⟨pA "Vote" "same", "same", "Task.same", defArgs s_Task_same, defBody s_Task_same, defScope s_Task_same, [], []⟩, ⟨pA "Vote" "takes", "takes", "Task.takes", defArgs s_Task_takes, defBody s_Task_takes, defScope s_Task_takes, [], []⟩, ⟨pA "Vote" "forgets", "forgets", "Task.forgets", defArgs s_Task_forgets, defBody s_Task_forgets, defScope s_Task_forgets, [], []⟩, ⟨cA "Vote" "likeness", "likeness", "Task.likeness", defArgs s_Task_likeness, defBody s_Task_likeness, defScope s_Task_likeness, [], []⟩, ⟨cA "Vote" "__eq__", "__eq__", "Task.__eq__", defArgs s_Task_eq, defBody s_Task_eq, defScope s_Task_eq, [], []⟩, ⟨pA "HandOn" "role", "role", "Task.role", defArgs s_Task_role, defBody s_Task_role, defScope s_Task_role, [], []⟩, ⟨pA "HandOn" "many", "many", "Task.many", defArgs s_Task_many, defBody s_Task_many, defScope s_Task_many, [], []⟩, ⟨pA "HandOn" "other", "other", "Task.other", defArgs s_Task_other, defBody s_Task_other, defScope s_Task_other, [], []⟩, ⟨pA "HandOn" "same", "same", "Task.same", defArgs s_Task_same, defBody s_Task_same, defScope s_Task_same, [], []⟩, ⟨pA "HandOn" "takes", "takes", "Task.takes", defArgs s_Task_takes, defBody s_Task_takes, defScope s_Task_takes, [], []⟩, ⟨pA "HandOn" "forgets", "forgets", "Task.forgets", defArgs s_Task_forgets, defBody s_Task_forgets, defScope s_Task_forgets, [], []⟩, ⟨cA "HandOn" "likeness", "likeness", "Task.likeness", defArgs s_Task_likeness, defBody s_Task_likeness, defScope s_Task_likeness, [], []⟩, ⟨cA "HandOn" "__eq__", "__eq__", "Task.__eq__", defArgs s_Task_eq, defBody s_Task_eq, defScope s_Task_eq, [], []⟩, ⟨pA "Reopen" "role", "role", "Task.role", defArgs s_Task_role, defBody s_Task_role, defScope s_Task_role, [], []⟩, ⟨pA "Reopen" "many", "many", "Task.many", defArgs s_Task_many, defBody s_Task_many, defScope s_Task_many, [], []⟩, ⟨pA "Reopen" "other", "other", "Task.other", defArgs s_Task_other, defBody s_Task_other, defScope s_Task_other, [], []⟩, ⟨pA "Reopen" "same", "same", "Task.same", defArgs s_Task_same, defBody s_Task_same, defScope s_Task_same, [], []⟩, ⟨pA "Reopen" "takes", "takes", "Task.takes", defArgs s_Task_takes, defBody s_Task_takes, defScope s_Task_takes, [], []⟩, ⟨pA "Reopen" "forgets", "forgets", "Task.forgets", defArgs s_Task_forgets, defBody s_Task_forgets, defScope s_Task_forgets, [], []⟩, ⟨cA "Reopen" "likeness", "likeness", "Task.likeness", defArgs s_Task_likeness, defBody s_Task_likeness, defScope s_Task_likeness, [], []⟩, ⟨cA "Reopen" "__eq__", "__eq__", "Task.__eq__", defArgs s_Task_eq, defBody s_Task_eq, defScope s_Task_eq, [], []⟩]
def fc : List DefY := [dSup, dVote, dHandOn, dReopen]
def ts : List He.Tab := []
abbrev R : PySem.W.OpenRow := PySem.W.OpenLaw.row PySem.Challenge.rw_fewhands_k06_votes_hand_ons_reopenings
def tf : List (PySem.W.Frag → Addr) := [gA "law"]
abbrev hk : PySem.W.Hook := hookRL 1500 fb fn fc ts tf
def loose : List Str := ["InvalidTask", "MANY", "LETTERS", "LONGEST_WORD", "is_word", "is_integer", "is_within", "is_list", "are_words", "are_different_words", "ascending", "Task", "Vote", "HandOn", "Reopen", "_law_pen", "_law_draw", "_law_pick", "_law_shuffled", "_law_words", "_law_any_value", "_law_is_word", "_law_shown", "_law_told", "_law_called", "_law_due"]
theorem run (w : World) : HandSHeadRun.RunEq R (PySem.W.view R.prog [30]) hk (obRL 1500 fb fn fc ts tf) 4000 loose w := by
  intro os
  kernel_rfl
end LW
/-! sets of texts: made of a list or a tuple, counted, sorted -/
namespace Ys
open PySem PySem.Spec PyProof.Rows L2

def TxSet (P : Program) (w : World) (h : Heap) (a : Addr) (l : List Str) : Prop :=
  ∃ D : Froz.SD, h.get? a = some (Froz.sObj "set" D) ∧ Froz.TxOk P w D l ∧ l.Nodup ∧ Ris D.2.2.place.toList ∧ (w.params.followText "set-order" = true ∨ D.2.2.led = true)

section
variable {P : Program} {w : World} {A : Around} {E : Value → Shared → Prop} {s : Shared}

theorem TxSet.same {h h' : Heap} {a : Addr} {l : List Str} (R : TxSet P w h a l) (k : ∀ o, h.get? a = some o → h'.get? a = some o) : TxSet P w h' a l :=
  let ⟨D, e, r⟩ := R
  ⟨D, k _ e, r⟩

theorem tail_tab (ep : Nat) (es : Array (Int × Value)) (t : SetTable) (b : Bool) (r : Ris t.place.toList) : Ris (Froz.tailTx ep es t b).2.2.place.toList ∧ (Froz.tailTx ep es t b).2.2.led = t.led := by
  unfold Froz.tailTx
  by_cases c : (!b && t.tooFull) = true
  · rw [if_pos c]
    exact ⟨relayAll_ris _ _ _, relayAll_led _ _ _⟩
  · rw [if_neg c]
    exact ⟨r, rfl⟩
theorem add_tab (hs : Int) (v : Value) (D : Froz.SD) (r : Ris D.2.2.place.toList) : Ris (Froz.addTx hs v D).2.2.place.toList ∧ (Froz.addTx hs v D).2.2.led = D.2.2.led := by
  have r1 := layNew_ris D.2.2 D.1 hs v r
  have l1 := layNew_led D.2.2 D.1 hs v
  unfold Froz.addTx
  have core : ∀ t : SetTable, Ris t.place.toList → t.led = D.2.2.led → ∀ ep es b, Ris (Froz.tailTx ep es t b).2.2.place.toList ∧ (Froz.tailTx ep es t b).2.2.led = D.2.2.led := fun t h1 h2 ep es b =>
    ⟨(tail_tab ep es t b h1).1, (tail_tab ep es t b h1).2.trans h2⟩
  refine core _ ?_ ?_ _ _ _
  · split
    · exact r1
    · exact r1
  · split
    · exact l1
    · exact l1

theorem add_there {a : Addr} {D : Froz.SD} {l : List Str} {k : Str} {u : Tok} {Q : Bool → Shared → Prop} (ho : s.heap.get? a = some (Froz.sObj "set" D)) (F : Froz.TxOk P w D l) (hk : k ∈ l) (hb : l.length < scanBound)
    (h : Q false s) : wpAny (model P w) A (setAddHashed a (.str k u) (hashStr w k)) Q E s := by
  obtain ⟨es, ep, t⟩ := D
  have e1 : (Froz.sObj "set" (es, ep, t)).data = .set es ep t := rfl
  have e2 : t.fits es.size = true := F.fit
  have e3 : ElemsOf (PySem.strKind P w) es.toList := F.el
  have e4 : es.size < scanBound := by
    have z : es.size = l.length := F.sz
    rw [z]
    exact hb
  have e5 : (PySem.strKind P w).is k (.str k u) = true := Froz.is_str k u
  unfold setAddHashed setAddHashedIn
  refine wpAny_holding (wpAny_bind (wpAny_setState_of ho e1 e2 ?_))
  dsimp only
  rw [byScan_of rfl e4 e3]
  simp only [↓reduceIte]
  unfold setAddByScan
  refine wpAny_bind (wpAny_bind (wpAny_rule (wpAny_bind (wpAny_setScan_of (knd := PySem.strKind P w) (k := k) e5 ho e1 e2 e3 ?_))))
  cases q : List.findIdx? (fun e => (PySem.strKind P w).is k e.2) es.toList with
  | some j =>
    dsimp only
    exact wpAny_pure (wpAny_pure h)
  | none =>
    obtain ⟨e, he, z⟩ := (F.mem k).mp hk
    have y := List.findIdx?_eq_none_iff.mp q e he
    rw [z] at y
    cases y
theorem add_txt {a : Addr} {l : List Str} {k : Str} {u : Tok} {Q : Bool → Shared → Prop} (R : TxSet P w s.heap a l) (hb : l.length + 1 < scanBound)
    (h : ∀ (b : Bool) (h' : Heap) (l' : List Str), Heap.SameBut a s.heap h' → TxSet P w h' a l' → (∀ x, x ∈ l' ↔ x ∈ l ∨ x = k) → l'.length ≤ l.length + 1 → Q b { s with heap := h' }) :
    wpAny (model P w) A (setAddHashed a (.str k u) (hashStr w k)) Q E s := by
  obtain ⟨D, ho, F, nd, r, ld⟩ := R
  by_cases hk : k ∈ l
  · refine add_there ho F hk (by omega) ?_
    refine h false s.heap l (Heap.SameBut.refl a s.heap) ⟨D, ho, F, nd, r, ld⟩ (fun x => ⟨.inl, fun z => z.elim id fun e => e ▸ hk⟩) (Nat.le_succ _)
  · refine Froz.add_x ho F hk hb ?_
    have ex : (s.heap.update a (fun _ => Froz.sObj "set" (Froz.addTx (hashStr w k) (.str k u) D))).get? a = some (Froz.sObj "set" (Froz.addTx (hashStr w k) (.str k u) D)) := Froz.get_upd _ ho rfl
    obtain ⟨t1, t2⟩ := add_tab (hashStr w k) (.str k u) D r
    refine h true _ (k :: l) (Heap.SameBut.update s.heap a _) ⟨_, ex, Froz.add_ok u F, List.nodup_cons.mpr ⟨hk, nd⟩, t1, ?_⟩ (fun x => ?_) (Nat.le_refl _)
    · rw [t2]
      exact ld
    · rw [List.mem_cons]
      exact Or.comm

theorem fill_txt {I : Addr} {fp wr : List Addr} {G : Array GenState → Array GenState → Prop} {n : Nat} {Pv : Nat → Value → Prop} {St : Nat → Shared → Prop} {R : Result → Shared → Prop}
    (W : WalksS P w A.in1 I fp wr G n Pv St) (S : Addr) (hS : S ∉ fp) (xs : List Str) (hn : xs.length = n) (hfew : n + 1 < scanBound) (hval : ∀ i v, Pv i v → ∃ t, v = .str (xs.getD i Str.empty) t) :
    ∀ (k i : Nat) (s : Shared), n - i = k → i ≤ n → St i s → (∃ l, TxSet P w s.heap S l ∧ (∀ x, x ∈ l ↔ x ∈ xs.take i) ∧ l.length ≤ i) →
      (∀ s' l, Moved (S :: wr) G s s' → TxSet P w s'.heap S l → (∀ x, x ∈ l ↔ x ∈ xs) → l.length ≤ n → R (.ok (.ret .none)) s') →
      codeAny (model P w) A (.builtin "set.update.loop" ⟨[.ref S, .ref I], []⟩) R s := by
  have nw : S ∉ wr := fun z => hS (W.sub _ z)
  have sub : ∀ b ∈ wr, b ∈ S :: wr := fun b hb => List.mem_cons_of_mem _ hb
  intro k
  induction k with
  | zero =>
    intro i s hk hi st ⟨l, T, m, len⟩ hR
    obtain rfl : i = n := by omega
    refine codeAny_builtin PyProof.Rows.F.entry_set_update_loop ?_
    rw [Around.under_plainId PyProof.Rows.F.plain_set_update_loop _]
    refine wpAny_bind (W.done s _ _ st fun s' mv => ?_)
    refine wpAny_pure (hR s' l (mv.mono sub) (T.same fun o e => mv.heap S o nw e) (fun x => ?_) len)
    rw [m x, ← hn, List.take_length]
  | succ k ih =>
    intro i s hk hi st ⟨l, T, m, len⟩ hR
    have hlt : i < n := by omega
    refine codeAny_builtin PyProof.Rows.F.entry_set_update_loop ?_
    rw [Around.under_plainId PyProof.Rows.F.plain_set_update_loop _]
    refine wpAny_bind (W.item i s _ _ hlt st fun v s' hv st' mv => ?_)
    obtain ⟨t, rfl⟩ := hval i v hv
    have T' : TxSet P w s'.heap S l := T.same fun o e => mv.heap S o nw e
    refine wpAny_bind (wpAny_holding ?_)
    unfold setAdd
    refine wpAny_holding (wpAny_bind ((PySem.strKind P w).pyHash (k := xs.getD i Str.empty) (strKind_is _ _ _ _) ?_))
    refine add_txt (s := { s' with toks := s'.toks + 1 }) T' (by omega) fun b h' l' hsb T2 m2 len2 => ?_
    have hg : xs[i]? = some (xs.getD i Str.empty) := by
      have : i < xs.length := by omega
      rw [List.getD_eq_getElem?_getD, List.getElem?_eq_getElem this]
      rfl
    refine wpAny_pure ⟨plainId_quiet PyProof.Rows.F.plain_set_update_loop _, ih (i + 1) _ (by omega) hlt (W.frame _ s' _ _ st' (Nat.le_succ _) fun b hb o e => ?_) ⟨l', T2, fun x => ?_, by omega⟩ fun s'' l2 mv'' T'' m'' len'' => ?_⟩
    · rw [hsb.2 b (fun z : b = S => hS (by rw [← z]; exact hb))]
      exact e
    · rw [m2 x, m x, List.take_succ, hg, List.mem_append]
      simp
    · refine hR s'' l2 (Moved.trans W.gtrans ((mv.mono sub).then_heap (Nat.le_succ _) fun b o hb e => ?_) mv'') T'' m'' len''
      rw [hsb.2 b (fun z : b = S => hb (by rw [z]; exact List.mem_cons_self))]
      exact e
end
end Ys
namespace Ys
open PySem PySem.Spec PyProof.Rows L2
section
variable {P : Program} {w : World} {A : Around} {E : Value → Shared → Prop} {s : Shared}
abbrev bare (w : World) : Obj := { cls := .type "set", dict := none, data := .set #[] 0 (.fresh 0 0 (!w.params.followText "set-order")) }
theorem none_from {h : Heap} {b : Addr} (z : h.objs.size ≤ b) : h.get? b = none := by
  cases q : h.get? b with
  | none => rfl
  | some o => exact absurd (Nat.lt_of_lt_of_le (Heap.lt_size q) z) (Nat.lt_irrefl _)
theorem bare_txt {h : Heap} {a : Addr} (e : h.get? a = some (bare w)) : TxSet P w h a [] := by
  refine ⟨(#[], 0, .fresh 0 0 (!w.params.followText "set-order")), e, Froz.TxOk.nil rfl, List.nodup_nil, List.Pairwise.nil, ?_⟩
  show _ ∨ (!w.params.followText "set-order") = true
  cases w.params.followText "set-order"
  · exact .inr rfl
  · exact .inl rfl
structure TxSrc (P : Program) (w : World) (T : String) (l : Addr) (xs : List Str) (h : Heap) : Prop where
  type : ∀ s' : Shared, (∀ b o, h.get? b = some o → s'.heap.get? b = some o) → s'.TypeIs (.ref l) T
  set : isSubtype (.type T) (.type "set") = pure false
  froz : isSubtype (.type T) (.type "frozenset") = pure false
  nd : (Value.type T == Value.type "dict") = false
  lt : l < h.objs.size
  iter : ∀ (A : Around) (s' : Shared) (E : Value → Shared → Prop) (Q : Value → Shared → Prop), (∀ b o, h.get? b = some o → s'.heap.get? b = some o) →
    (∀ it : Obj, (∀ A' : Around, A'.handled = none → l ≠ s'.heap.objs.size → ∃ (Pv : Nat → Value → Prop) (St : Nat → Heap → Prop),
        Walks P w A' s'.heap.objs.size [s'.heap.objs.size, l] [s'.heap.objs.size] xs.length Pv St ∧ (∀ i v, Pv i v → ∃ t, v = .str (xs.getD i Str.empty) t) ∧ St 0 (s'.heap.push it)) →
      Q (.ref s'.heap.objs.size) { s' with heap := s'.heap.push it }) →
    wpAny (model P w) A (pyIter (.ref l)) Q E s'
theorem src_list {l : Addr} {items : Array Value} {xs : List Str} {h : Heap} (hl : h.IsList l items) (hi : StrsAre items.toList xs) : TxSrc P w "list" l xs h where
  type := fun s' k => by
    obtain ⟨o, e, c, _⟩ := hl
    exact ⟨o, k _ _ e, c⟩
  set := F.sub_list_set
  froz := F.sub_list_frozenset
  nd := by decide
  lt := by
    obtain ⟨o, e, _⟩ := hl
    exact Heap.lt_size e
  iter := fun A s' E Q k hQ => by
    have hl' : s'.heap.IsList l items := by
      obtain ⟨o, e, r⟩ := hl
      exact ⟨o, k _ _ e, r⟩
    refine wpAny_pyIter_list hl' (hQ _ fun A' hA ne => ⟨fun i v => items[i]? = some v, fun i z => z.IsListIter s'.heap.objs.size l i ∧ z.IsList l items, ?_, fun i v hv => SS.strs_at hi i v (by rw [Array.getElem?_toList]; exact hv), ⟨⟨_, Heap.get?_push_size _ rfl, rfl, rfl⟩, hl'.push _⟩⟩)
    have e : xs.length = items.size := by rw [← StrsAre.len_eq hi, Array.length_toList]
    rw [e]
    exact Walks.list hA _ l ne items
theorem src_tuple {l : Addr} {items : Array Value} {xs : List Str} {h : Heap} (hl : h.IsTuple l items) (hi : StrsAre items.toList xs) : TxSrc P w "tuple" l xs h where
  type := fun s' k => by
    obtain ⟨o, e, c, _⟩ := hl
    exact ⟨o, k _ _ e, c⟩
  set := F.sub_tuple_set
  froz := F.sub_tuple_frozenset
  nd := by decide
  lt := by
    obtain ⟨o, e, _⟩ := hl
    exact Heap.lt_size e
  iter := fun A s' E Q k hQ => by
    have hl' : s'.heap.IsTuple l items := by
      obtain ⟨o, e, r⟩ := hl
      exact ⟨o, k _ _ e, r⟩
    refine wpAny_pyIter_tuple hl' (hQ _ fun A' hA ne => ⟨fun i v => items[i]? = some v, fun i z => z.IsTupleIter s'.heap.objs.size l i ∧ z.IsTuple l items, ?_, fun i v hv => SS.strs_at hi i v (by rw [Array.getElem?_toList]; exact hv), ⟨⟨_, Heap.get?_push_size _ rfl, rfl, rfl⟩, hl'.push _⟩⟩)
    have e : xs.length = items.size := by rw [← StrsAre.len_eq hi, Array.length_toList]
    rw [e]
    exact Walks.tuple hA _ l ne items

theorem make_txt {T : String} {l : Addr} {xs : List Str} {Q : Value → Shared → Prop} (hh : A.handled = none) (S : TxSrc P w T l xs s.heap) (few : xs.length + 1 < scanBound)
    (h : ∀ (h' : Heap) (tk : Nat) (l' : List Str), TxSet P w h' s.heap.objs.size l' → (∀ x, x ∈ l' ↔ x ∈ xs) → l'.length ≤ xs.length → (∀ b o, s.heap.get? b = some o → h'.get? b = some o) →
      Q (.ref s.heap.objs.size) { s with heap := h', toks := tk }) : wpAny (model P w) A (call (.type "set") [.ref l]) Q E s := by
  have a1 := F.called_set.made
  have a2 := F.called_set.sub
  have a3 := F.called_set.notType
  have a4 := F.called_set.canCreate
  have a5 := F.typeCall_set_1 (.ref l)
  obtain ⟨c, tl, a6⟩ := F.called_set.mro
  refine wpAny_call (codeAny_of_tree ?_)
  show wpAny _ _ (callAny (.type "set") _) _ _ _
  refine wpAny_pure ⟨Code.quiet_builtin _ (by decide +kernel), codeAny_builtin F.entry_type_call ?_⟩
  rw [Around.under_plain (weight_type_call_type "set" [.ref l] []) rfl]
  repeat (any_goals (first | assumption | wp_step))
  refine codeAny_mono (L2.code_set_led1 (.ref l) (E := E) (Q₁ := fun v z => v = .ref s.heap.objs.size ∧ z = { s with heap := s.heap.push (bare w) }) ⟨rfl, rfl⟩) fun r s1 hr => ?_
  cases r with
  | error e => exact hr
  | ok fl =>
    cases fl with
    | next => exact hr.elim
    | brk => exact hr.elim
    | cont => exact hr.elim
    | ret v =>
      obtain ⟨rfl, rfl⟩ := hr
      have b0 : (s.heap.push (bare w)).get? s.heap.objs.size = some (bare w) := Heap.get?_push_size _ rfl
      have b1 : Shared.TypeIs { s with heap := s.heap.push (bare w) } (.ref s.heap.objs.size) "set" := ⟨_, b0, rfl⟩
      have b2 := F.called_set.init.lookup
      have b3 := F.called_set.init.bind (.ref s.heap.objs.size)
      repeat (any_goals (first | assumption | wp_step))
      refine codeAny_mono (codeAny_call_builtin (R := wants (fun r z => r = .none ∧ ∃ h' tk l', z = { s with heap := h', toks := tk } ∧ TxSet P w h' s.heap.objs.size l' ∧ (∀ x, x ∈ l' ↔ x ∈ xs) ∧ l'.length ≤ xs.length ∧
          (∀ b o, s.heap.get? b = some o → h'.get? b = some o)) E) F.called_set.init.plain F.entry_set_init (check_set_init_1 b1 ?_)) fun r2 s2 hr2 => ?_
      · have k1 : ∀ b o, s.heap.get? b = some o → (s.heap.push (bare w)).get? b = some o := fun b o e => Heap.get?_push_of_some _ e
        have c1 : Shared.TypeIs { s with heap := s.heap.push (bare w) } (.ref l) T := S.type _ k1
        have c2 := S.set
        have c3 := S.froz
        have c4 := S.nd
        unfold Builtin.«set.__init__» noKeywords Builtin.Frozenset.updateFrom
        generalize hPI : pyIter = PI
        wp_walk
        subst hPI
        have hsz : (s.heap.push (bare w)).objs.size = s.heap.objs.size + 1 := Heap.size_push ..
        have lt := S.lt
        refine S.iter _ _ _ _ k1 fun it hit => ?_
        refine wpAny_bind (wpAny_runValue ?_)
        obtain ⟨Pv, St, W, hv, st⟩ := hit A.in1.in1.in1 (by simp [hh]) (by show l ≠ (s.heap.push (bare w)).objs.size; rw [hsz]; exact Nat.ne_of_lt (Nat.lt_succ_of_lt lt))
        have ns : s.heap.objs.size ∉ [(s.heap.push (bare w)).objs.size, l] := by
          rw [hsz]
          simp only [List.mem_cons, List.not_mem_nil, or_false, not_or]
          exact ⟨Nat.ne_of_lt (Nat.lt_succ_self _), Nat.ne_of_gt lt⟩
        refine fill_txt W.toS s.heap.objs.size ns xs rfl few hv (xs.length - 0) 0 _ (by omega) (Nat.zero_le _) st ⟨[], ?_, (fun x => by simp), Nat.zero_le _⟩ fun s' l' mv T' m len => ?_
        · exact bare_txt (Heap.get?_push_of_some _ b0)
        · obtain ⟨h', g', d', tk', os'⟩ := s'
          obtain rfl : g' = s.gens := mv.gens
          obtain rfl : d' = s.drawn := mv.drawn
          obtain rfl : os' = s.os := mv.os
          refine wpAny_pure (wpAny_pure ⟨rfl, h', tk', l', rfl, T', m, len, fun b o e => ?_⟩)
          have hb : b < s.heap.objs.size := Heap.lt_size e
          refine mv.heap b o ?_ (Heap.get?_push_of_some _ (Heap.get?_push_of_some _ e))
          simp only [List.mem_cons, List.not_mem_nil, or_false, not_or]
          refine ⟨Nat.ne_of_lt hb, ?_⟩
          show b ≠ (s.heap.push (bare w)).objs.size
          rw [hsz]
          exact Nat.ne_of_lt (Nat.lt_succ_of_lt hb)
      · cases r2 with
        | error e => exact hr2
        | ok f2 =>
          cases f2 with
          | next => exact hr2.elim
          | brk => exact hr2.elim
          | cont => exact hr2.elim
          | ret r =>
            obtain ⟨rfl, h', tk, l', rfl, T', m, len, k⟩ := hr2
            repeat (any_goals (first | assumption | wp_step))
            exact h _ _ _ T' m len k
end
end Ys
namespace Ys
open PySem PySem.Spec PyProof.Rows L2
section
variable {P : Program} {w : World} {A : Around} {E : Value → Shared → Prop} {s : Shared}
theorem txt_vals {es : List (Int × Value)} (h : ElemsOf (PySem.strKind P w) es) : ∀ e ∈ es, ∃ (x : Str) (t : Tok), e.2 = .str x t := fun e he => by
  obtain ⟨⟨k, hk, _⟩, _⟩ := h e he
  obtain ⟨t, q⟩ := Value.isStrOf_shape (x := k) (v := e.2) hk
  exact ⟨k, t, q⟩
def txtOf : Value → Str
  | .str x _ => x
  | _ => Str.empty
theorem strsAre_txt : ∀ {us : List Value}, (∀ u ∈ us, ∃ (x : Str) (t : Tok), u = .str x t) → StrsAre us (us.map txtOf)
  | [], _ => .nil
  | u :: us, h => by
    obtain ⟨x, t, rfl⟩ := h u List.mem_cons_self
    exact .cons x t (strsAre_txt fun v hv => h v (List.mem_cons_of_mem _ hv))
theorem perm_len : ∀ (l m : List Str), l.Nodup → (∀ x ∈ l, x ∈ m) → m.length ≤ l.length → m.Perm l
  | [], m, _, _, h => by
    have e : m = [] := List.length_eq_zero_iff.mp (Nat.le_zero.mp h)
    rw [e]
  | x :: l, m, nd, h, hl => by
    obtain ⟨n1, n2⟩ := List.nodup_cons.mp nd
    have hx : x ∈ m := h x List.mem_cons_self
    have p := List.perm_cons_erase hx
    have e : m.length = (m.erase x).length + 1 := by rw [p.length_eq, List.length_cons]
    refine p.trans (.cons x (perm_len l (m.erase x) n2 (fun y hy => ?_) (by rw [List.length_cons] at hl; omega)))
    have ne : y ≠ x := fun z => n1 (z ▸ hy)
    exact (List.mem_erase_of_ne ne).mpr (h y (List.mem_cons_of_mem _ hy))
theorem sort_txt {a : Addr} {l : List Str} {Q : Value → Shared → Prop} (hh : A.handled = none) (T : TxSet P w s.heap a l) (few : l.length < 64)
    (hQ : ∀ s' p (out : List Value) (c : Nat) (ys : List Str), (∀ b o, s.heap.get? b = some o → s'.heap.get? b = some o) → s'.gens = s.gens → s'.os = s.os → s.heap.objs.size ≤ p →
      s'.heap.get? p = some { cls := .type "list", data := .seq out.toArray c } → StrsAre out ys → ys.Perm l → sortedS ys = true → Q (.ref p) s') :
    wpAny (model P w) A (call (.builtin "sorted") [.ref a]) Q E s := by
  obtain ⟨⟨es, ep, t⟩, ho, F, nd, r, ld⟩ := T
  have fit : t.fits es.size = true := F.fit
  have sz : es.size = l.length := F.sz
  have el : ElemsOf (PySem.strKind P w) es.toList := F.el
  have vals := txt_vals el
  refine Calls.call_function_entry kind_sorted plain_sorted entry_sorted (args_sorted1 _) ?_
  unfold Builtin.«sorted»
  refine wpAny_bind (m := checkCount "sorted" 1 1 _) (wpAny_pure ?_)
  refine wpAny_bind (collect_set (A := A.in1) hh ⟨_, ho, rfl, rfl⟩ fit (by rw [sz]; unfold scanBound; omega) r ld fun s1 vs k1 hz g1 o1 pm => ?_)
  have hv : ∀ v ∈ vs, ∃ (x : Str) (t : Tok), v = .str x t := fun v hv => by
    obtain ⟨e, he, q⟩ := List.mem_map.mp (pm.mem_iff.mp hv)
    obtain ⟨x, t, z⟩ := vals e he
    exact ⟨x, t, by rw [← q, z]⟩
  have hS := strsAre_txt hv
  have hlen : vs.length = l.length := by rw [pm.length_eq, List.length_map, Array.length_toList, sz]
  -- the texts of the set's entries are l, in some order
  have pl : (vs.map txtOf).Perm l := by
    have p1 : (vs.map txtOf).Perm ((es.toList.map (·.2)).map txtOf) := pm.map txtOf
    have mem : ∀ x, x ∈ (es.toList.map (·.2)).map txtOf ↔ x ∈ l := fun x => by
      rw [F.mem x, List.map_map, List.mem_map]
      constructor
      · rintro ⟨e, he, q⟩
        obtain ⟨y, t, z⟩ := vals e he
        refine ⟨e, he, ?_⟩
        have : y = x := by
          have q' : txtOf e.2 = x := q
          rw [z] at q'
          exact q'
        rw [z, this]
        exact Froz.is_str x t
      · rintro ⟨e, he, q⟩
        obtain ⟨t, z⟩ := Value.isStrOf_shape (x := x) (v := e.2) q
        exact ⟨e, he, by show txtOf e.2 = x; rw [z]; rfl⟩
    have len : ((es.toList.map (·.2)).map txtOf).length = l.length := by rw [List.length_map, List.length_map, Array.length_toList, sz]
    refine p1.trans ?_
    exact perm_len l _ nd (fun x hx => (mem x).mpr hx) (Nat.le_of_eq len)
  refine wpAny_bind (wpAny_newList ?_ (by rw [hlen, sizeLine_eq]; omega))
  have hoL : (s1.heap.push (seqObj "list" vs.toArray 0)).get? s1.heap.objs.size = some (seqObj "list" vs.toArray 0) := Heap.get?_push_size _ rfl
  show wpAny _ _ _ _ _ { s1 with heap := s1.heap.push (seqObj "list" vs.toArray 0) }
  refine wpAny_bind (wpAny_holding (wpAny_call_entry slot_list_sort ⟨_, hoL, rfl⟩ entry_list_sort
    (list_sort_treeK strKind_oneLt (s := { s1 with heap := s1.heap.push (seqObj "list" vs.toArray 0) }) hoL hS.keysOf (fun v1 v2 rest e => keyKind_strs (by rw [← e]; exact hS)) (by rw [hlen]; exact few) fun st' hp hs => ⟨_, rfl, ?_⟩)
    (args_list_sort _)))
  obtain ⟨ys, b1, b2, b3⟩ := sorted_out_str hS hp hs
  obtain ⟨c, hc⟩ := sortedHeap_at (vs := vs) (out := (arrOf st').map (·.2)) hoL
  refine wpAny_pure ⟨_, rfl, hQ _ s1.heap.objs.size ((arrOf st').map (·.2)).toList c ys (fun b u e => ?_) g1 o1 hz (by rw [Array.toArray_toList]; exact hc) b1 (b2.trans pl) b3⟩
  have q := k1 b u e
  have hlt := Heap.lt_size q
  show (sortedHeap (s1.heap.push (seqObj "list" vs.toArray 0)) s1.heap.objs.size vs ((arrOf st').map (·.2))).get? b = some u
  rw [sortedHeap_old (Nat.ne_of_lt hlt) (by rw [size_push']; exact Nat.lt_succ_of_lt hlt)]
  exact Heap.get?_push_of_some _ q
end

/-! ### over the abstract heap -/
def TxO (P : Program) (w : World) (a : Addr) (l : List Str) : HO := .ext fun h => TxSet P w h a l
section
variable {X : Cx}
theorem txO_ok {P : Program} {w : World} {H : Hp} {h : Heap} {a : Addr} {l : List Str} (T : TxSet P w h a l) : ObjOk P w H h a (TxO P w a l) := by
  have ⟨D, e, _⟩ := T
  exact ⟨T, ⟨_, e⟩, fun h1 h2 p k => TxSet.same p k⟩
def rSetTx (K : PySem.W.Frag) (P : Program) (w : World) : List V → Hp → VK → Prop := fun vs H Q => ∃ (p : Addr) (xs : List Str), vs = [V.ref p] ∧ (SqL K H p (xs.map V.str) ∨ SqT K H p (xs.map V.str)) ∧ xs.length < 1000 ∧
  ∀ a l, (∀ x, x ∈ l ↔ x ∈ xs) → l.Nodup → l.length ≤ xs.length → H a = none → Q (.ref a) (upd H a (TxO P w a l))
theorem cr_setTx (hc : X.calm = true) : CallR X (.type "set") (rSetTx X.K X.prog X.w) := by
  intro pins s σ H vs us Q I r h
  obtain ⟨p, xs, rfl, hq, few, q⟩ := h
  rw [Vals.ref1 r]
  have fin : ∀ T, TxSrc X.prog X.w T p xs s.heap → wpAny (model X.prog X.w) X.A (call (.type "set") [.ref p]) (EP X pins σ Q) X.xe s := fun T S => by
    refine make_txt (I.ok.hd hc) S (by unfold scanBound; omega) fun h' tk l' T' m len k => ?_
    have nd : l'.Nodup := let ⟨_, _, _, nd, _⟩ := T'; nd
    exact ⟨.ref s.heap.objs.size, upd H s.heap.objs.size (TxO X.prog X.w s.heap.objs.size l'), I.laid (t' := tk) k (Nat.le_refl _) (txO_ok T'), rfl, q _ l' m nd len (I.hok.fresh (Nat.le_refl _))⟩
  rcases hq with hq | hq
  · obtain ⟨its, rv, pl, hz⟩ := I.list hq
    exact fin "list" (src_list pl.isList (by simpa using rv.strs))
  · obtain ⟨its, rv, pl, hz⟩ := I.tuple hq
    exact fin "tuple" (src_tuple pl (by simpa using rv.strs))
def rSortTx (P : Program) (w : World) : List V → Hp → VK → Prop := fun vs H Q => ∃ (a : Addr) (l : List Str), vs = [V.ref a] ∧ H a = some (TxO P w a l) ∧ l.length < 64 ∧
  ∀ (ys : List Str) (p : Addr), ys.Perm l → sortedS ys = true → H p = none → Q (.ref p) (upd H p (.lst (ys.map V.str)))
theorem cr_sortTx (hc : X.calm = true) : CallR X (.builtin "sorted") (rSortTx X.prog X.w) := by
  intro pins s σ H vs us Q I r h
  obtain ⟨a, l, rfl, ha, few, q⟩ := h
  rw [Vals.ref1 r]
  have T : TxSet X.prog X.w s.heap a l := (I.hok a _ ha).1
  refine sort_txt (I.ok.hd hc) T few fun s' p out c ys k g o hp hg hS pm so => ?_
  have hn : H p = none := I.hok.fresh hp
  have hlen : (ys.map V.str).length ≤ sizeLine := by rw [List.length_map, pm.length_eq, sizeLine_eq]; omega
  obtain ⟨h', g', d', tk', os'⟩ := s'
  obtain rfl : os' = s.os := o
  refine ⟨.ref p, upd H p (.lst (ys.map V.str)), I.call (h' := h') (g' := g') (d' := d') (t' := tk') (ch := []) (Un.laid k hp hn) (I.hok.laid k hp ⟨hlen, out, c, vals_of_strs hS, hg⟩) ?_ (fun _ z => nomatch z), rfl, q ys p pm so hn⟩
  obtain rfl : g' = s.gens := g
  exact I.bare
def rLenTx (P : Program) (w : World) : List V → Hp → VK → Prop := fun vs H Q => ∃ (a : Addr) (l : List Str), vs = [V.ref a] ∧ H a = some (TxO P w a l) ∧ l.length < 1000 ∧ Q (.int l.length) H
theorem cr_lenTx : CallR X (.builtin "len") (rLenTx X.prog X.w) := by
  intro pins s σ H vs us Q I r h
  obtain ⟨a, l, rfl, ha, few, q⟩ := h
  rw [Vals.ref1 r]
  have T : TxSet X.prog X.w s.heap a l := (I.hok a _ ha).1
  obtain ⟨⟨es, ep, t⟩, ho, F, nd, rs, ld⟩ := T
  have sz : es.size = l.length := F.sz
  refine call_len_set ho ⟨rfl, rfl, rfl⟩ rfl F.fit (by rw [sz]; omega) ⟨.int l.length, H, I.tok _, ⟨_, by rw [sz]⟩, q⟩
end

end Ys
namespace Ys
open PySem PySem.Spec PyProof.Rows L2
/-! ### data, dicts too -/
def kD : Key → PyData
  | .inl i => .int i
  | .inr x => .str x
mutual
inductive Dt (K : PySem.W.Frag) (H : Hp) : V → PyData → Prop
  | non : Dt K H .non .none
  | bl (b : Bool) : Dt K H (.bl b) (.bool b)
  | int (i : Int) : Dt K H (.int i) (.int i)
  | str (x : Str) : Dt K H (.str x) (.str x)
  | lst {a : Addr} {xs : List V} {ds : List PyData} : SqL K H a xs → Dts K H xs ds → Dt K H (.ref a) (.list ds)
  | tup {a : Addr} {xs : List V} {ds : List PyData} : SqT K H a xs → Dts K H xs ds → Dt K H (.ref a) (.tuple ds)
  | dct {a : Addr} {kvs : List (Key × V)} {ds : List (PyData × PyData)} : Rd H a (.dK kvs) → ds.map (·.1) = kvs.map (fun p => kD p.1) → Dts K H (kvs.map (·.2)) (ds.map (·.2)) → Dt K H (.ref a) (.dict ds)
inductive Dts (K : PySem.W.Frag) (H : Hp) : List V → List PyData → Prop
  | nil : Dts K H [] []
  | cons {v : V} {vs : List V} {d : PyData} {ds : List PyData} : Dt K H v d → Dts K H vs ds → Dts K H (v :: vs) (d :: ds)
end
section
variable {X : Cx} {pins : List (Addr × Obj)} {σ : L2.St} {H : Hp} {s : Shared}
def SysIn (K : PySem.W.Frag) : Prop := ∃ o, K.lookup sysModules = some o ∧ o.cls = .type "dict"
theorem sys_ne (I : Inv X pins σ H s) (S : SysIn X.K) {a : Addr} {u : HO} (h : Rd H a u) : a ≠ sysModules := by
  rintro rfl
  obtain ⟨o, e, _⟩ := S
  have n := (I.bs _ _ (I.mod.kin _ _ e)).2
  rcases h with h | ⟨_, h⟩
  · rw [n] at h; cases h
  · rw [n] at h; cases h
theorem sys_neL (I : Inv X pins σ H s) (S : SysIn X.K) {a : Addr} {xs : List V} (h : SqL X.K H a xs) : a ≠ sysModules := by
  rcases h with h | ⟨o, its, n, hk, hc, _⟩
  · exact sys_ne I S h
  · rintro rfl
    obtain ⟨o', e, c⟩ := S
    rw [hk] at e
    cases e
    rw [hc] at c
    exact absurd c (by decide)
theorem kD_reads {h : Heap} {k : Key} {v : Value} (e : keyIs k v = true) : Reads h v (kD k) [] := by
  rcases keyIs_shape e with ⟨i, t, rfl, rfl⟩ | ⟨x, t, rfl, rfl⟩
  · exact .int i t
  · exact .str x t
theorem keys_reads {h : Heap} : ∀ {es : List DictEntry} {kvs : List (Key × Value)} {ks : List PyData}, Pairs (mixKind X.prog X.w) es kvs → ks = kvs.map (fun p => kD p.1) → ReadsAll h (es.map (·.key)) ks []
  | _, _, _, .nil, e => by subst e; exact .nil
  | _, _, _, .cons a b r, e => by
    subst e
    exact .cons (kD_reads a) (keys_reads r rfl)
theorem pairs_vals : ∀ {es : List DictEntry} {kvs : List (Key × Value)}, Pairs (mixKind X.prog X.w) es kvs → es.map (·.val) = kvs.map (·.2)
  | _, _, .nil => rfl
  | _, _, .cons a b r => by rw [List.map_cons, List.map_cons, b, pairs_vals r]
theorem kv_vals : ∀ {kvs : List (Key × V)} {vs : List (Key × Value)}, KV kvs vs → Vals (kvs.map (·.2)) (vs.map (·.2))
  | _, _, .nil => .nil
  | _, _, .cons r t => .cons r.2 (kv_vals t)
theorem kv_keys : ∀ {kvs : List (Key × V)} {vs : List (Key × Value)}, KV kvs vs → kvs.map (fun p => kD p.1) = vs.map (fun p => kD p.1)
  | _, _, .nil => rfl
  | _, _, .cons r t => by rw [List.map_cons, List.map_cons, r.1, kv_keys t]
theorem size_snd : ∀ ds : List (PyData × PyData), sizeOf (ds.map (·.2)) ≤ sizeOf ds
  | [] => Nat.le_refl _
  | (k, v) :: ds => by
    have ih := size_snd ds
    simp only [List.map_cons, List.cons.sizeOf_spec, Prod.mk.sizeOf_spec]
    omega
mutual
theorem Dt.reads (I : Inv X pins σ H s) (S : SysIn X.K) : ∀ (d : PyData) (v : V) (u : Value), Dt X.K H v d → RelV v u → ∃ as, Reads s.heap u d as ∧ sysModules ∉ as
  | .none, _, _, h, r => by
    cases h
    cases r
    exact ⟨_, .none, by simp⟩
  | .bool b, _, _, h, r => by
    cases h
    cases r
    exact ⟨_, .bool b, by simp⟩
  | .int i, _, _, h, r => by
    cases h
    obtain ⟨t, rfl⟩ := r
    exact ⟨_, .int i t, by simp⟩
  | .str x, _, _, h, r => by
    cases h
    obtain ⟨t, rfl⟩ := r
    exact ⟨_, .str x t, by simp⟩
  | .list ds, _, _, h, r => by
    cases h with
    | lst hs ha =>
      cases r
      have ne := sys_neL I S hs
      obtain ⟨its, rv, ⟨o, n, ho, hc, _, hd⟩, _⟩ := I.list hs
      obtain ⟨as, hr, na⟩ := Dts.reads I S ds _ its ha rv
      exact ⟨_, .list ho hc hd hr, fun z => (List.mem_cons.mp z).elim (fun e => ne e.symm) na⟩
  | .tuple ds, _, _, h, r => by
    cases h with
    | tup hs ha =>
      cases r
      obtain ⟨its, rv, ⟨o, ho, hc, n, hd⟩, _⟩ := I.tuple hs
      obtain ⟨as, hr, na⟩ := Dts.reads I S ds _ its ha rv
      exact ⟨_, .tuple ho hc hd hr, na⟩
  | .dict ds, _, _, h, r => by
    cases h with
    | dct hs hk ha =>
      cases r
      have ne := sys_ne I S hs
      obtain ⟨_, _, vs, rel, o, es, ep, ho, hx, hd, _, hp, _⟩ := dk_rd I.hok hs
      obtain ⟨as, hr, na⟩ := Dts.reads I S (ds.map (·.2)) _ (vs.map (·.2)) ha (kv_vals rel)
      refine ⟨_, .dict ho hx.1 hd (keys_reads hp (hk.trans (kv_keys rel))) (by rw [pairs_vals hp]; exact hr), fun z => ?_⟩
      exact (List.mem_append.mp z).elim (fun e => ne (List.mem_singleton.mp e).symm) na
termination_by d => sizeOf d
decreasing_by
  · simp only [PyData.list.sizeOf_spec]; omega
  · simp only [PyData.tuple.sizeOf_spec]; omega
  · have := size_snd ds
    simp only [PyData.dict.sizeOf_spec]; omega
theorem Dts.reads (I : Inv X pins σ H s) (S : SysIn X.K) : ∀ (ds : List PyData) (vs : List V) (us : List Value), Dts X.K H vs ds → Vals vs us → ∃ as, ReadsAll s.heap us ds as ∧ sysModules ∉ as
  | [], _, _, h, r => by
    cases h
    cases r
    exact ⟨_, .nil, by simp⟩
  | d :: ds, _, _, h, r => by
    cases h with
    | cons h1 h2 =>
      cases r with
      | cons r1 r2 =>
        obtain ⟨as, q1, n1⟩ := Dt.reads I S d _ _ h1 r1
        obtain ⟨bs, q2, n2⟩ := Dts.reads I S ds _ _ h2 r2
        exact ⟨_, .cons q1 q2, fun z => (List.mem_append.mp z).elim n1 n2⟩
termination_by ds => sizeOf ds
decreasing_by
  · simp only [List.cons.sizeOf_spec]; omega
  · simp only [List.cons.sizeOf_spec]; omega
end
/-! data without dicts -/
mutual
theorem Dt.dp {K : PySem.W.Frag} : ∀ (d : PyData) (v : V), d.canLay0 = true → Dt K H v d → Dp K H v d
  | .none, _, _, h => by cases h; exact .non
  | .bool b, _, _, h => by cases h; exact .bl b
  | .int i, _, _, h => by cases h; exact .int i
  | .str x, _, _, h => by cases h; exact .str x
  | .list ds, _, c, h => by
    cases h with
    | lst hs ha => exact .lst hs (Dts.dp ds _ (by simpa only [PyData.canLay0] using c) ha)
  | .tuple ds, _, c, h => by
    cases h with
    | tup hs ha => exact .tup hs (Dts.dp ds _ (by simpa only [PyData.canLay0] using c) ha)
  | .dict _, _, c, _ => by simp [PyData.canLay0] at c
theorem Dts.dp {K : PySem.W.Frag} : ∀ (ds : List PyData) (vs : List V), PyData.canLayAll0 ds = true → Dts K H vs ds → DpAll K H vs ds
  | [], _, _, h => by cases h; exact .nil
  | d :: ds, _, c, h => by
    cases h with
    | cons h1 h2 =>
      have c' : (d.canLay0 && PyData.canLayAll0 ds) = true := by simpa only [PyData.canLayAll0] using c
      obtain ⟨c1, c2⟩ := Bool.and_eq_true_iff.mp c'
      exact .cons (Dt.dp d _ c1 h1) (Dts.dp ds _ c2 h2)
end
end

/-! ### repr -/
section
variable {X : Cx}
def rRepr (K : PySem.W.Frag) : List V → Hp → VK → Prop := fun vs H Q => ∃ (x : V) (d : PyData), vs = [x] ∧ Dt K H x d ∧ d.showable = true ∧ d.depth ≤ 60 ∧ d.shown.length ≤ sizeLine ∧ Q (.str d.shown) H
theorem cr_repr (hg : X.A.guards = some []) (S : SysIn X.K) (hu : X.A.units + 64 < cLine) : CallR X (.builtin "repr") (rRepr X.K) := by
  intro pins s σ H vs us Q I r h
  obtain ⟨x, d, rfl, hd, sh, dp, sz, q⟩ := h
  obtain ⟨u, rfl, rx⟩ := vals1 r
  obtain ⟨as, hr, na⟩ := Dt.reads I S d x u hd rx
  cases x with
  | non =>
    cases rx; cases hd
    simp only [PyData.shown] at q
    exact PySem.P.repr_of_none ⟨.str _, H, I.tok _, ⟨_, rfl⟩, q⟩
  | bl b =>
    cases rx; cases hd
    simp only [PyData.shown] at q
    exact PySem.P.repr_of_bool ⟨.str _, H, I.tok _, ⟨_, rfl⟩, q⟩
  | int i =>
    obtain ⟨t, rfl⟩ := rx; cases hd
    simp only [PyData.shown] at q
    have hz : i.natAbs.log2 < 1920 := by simpa [PyData.showable] using sh
    exact PySem.P.repr_of_int hz ⟨.str _, H, I.tok _, ⟨_, rfl⟩, q⟩
  | str z =>
    obtain ⟨t, rfl⟩ := rx; cases hd
    simp only [PyData.shown] at q sz
    exact PySem.P.repr_of_str ⟨.str _, H, I.tok _, ⟨_, rfl⟩, q⟩ sz
  | byt _ => cases hd
  | flt _ => cases hd
  | ty _ => cases hd
  | ref a =>
    cases rx
    refine repr_of_reads' hr sh (fun _ => na) hg (by omega) (fun _ _ e => e) (fun h' u tk k => ?_) sz
    exact ⟨.str _, H, I.kept (t' := tk) k, ⟨_, rfl⟩, q⟩
end

/-! ### a def that is told that nothing is being shown -/
structure FnG (P : Program) (w : World) (K : PySem.W.Frag) (mg : Str → Option Value) (base : Heap) (CX : CXT) (k : Nat) (f : Addr) (fd : FuncData) (ps : List Str) (sp : Sp) : Prop where
  len : ∀ vs H Q E, sp vs H Q E → vs.length = ps.length
  run : ∀ (A : Around) (outer : List Env) (s : Shared) (H : Hp) (args : Args) (us : List Value) (vs : List V) (Q : VK) (E : XK), A.guards = some [] → Room k A → Env0 P w K mg base A outer s H → BindsTo s fd args (ps.zip us) → Vals vs us → sp vs H Q E →
    codeAny (model P w) A (.call (.ref f) args) (CR CX outer P w H s Q E) s
theorem FnOk.g {P : Program} {w : World} {K : PySem.W.Frag} {mg : Str → Option Value} {base : Heap} {CX : CXT} {k : Nat} {f : Addr} {fd : FuncData} {ps : List Str} {sp : Sp} (F : FnOk P w K mg base CX k f fd ps sp) : FnG P w K mg base CX k f fd ps sp :=
  ⟨F.len, fun A outer s H args us vs Q E _ => F.run A outer s H args us vs Q E⟩
end Ys
namespace Ys
open PySem PySem.Spec PyProof.Rows L2
section
variable {P : Program} {w : World} {K : PySem.W.Frag} {mg : Str → Option Value} {base : Heap} {x qual : Str} {params : Arguments} {body : List Stmt} {scope : Scope} {dvs : List V} {kws : List (Str × V)} {f : Addr} {fd : FuncData}
theorem okG {CX : CXT} {N ps : List Str} {k : Nat} {sp : Sp} (F : FunD K x qual params body scope dvs kws f fd) (S : FnScope N ps scope) (len : ∀ vs H Q E, sp vs H Q E → vs.length = ps.length)
    (hb : ∀ (cdv : Value) (A : Around) (outer : List Env) (s : Shared) (H : Hp) (vs : List V) (Q : VK) (E : XK), A.guards = some [] → Room k (A.deeper (envOfC qual scope s.heap.objs.size f cdv)) → sp vs H Q E →
      ∃ t, PSs (cxOf CX P w K mg base N qual scope f cdv A outer s H E) body t ∧ t { nx := fun _ H' => Q .non H', rt := Q } (start N vs) H) : FnG P w K mg base CX (k + 1) f fd ps sp := by
  obtain ⟨oc, od, dV, kV, doc, pm, an, cdv, ct, osl, rfl, lk, hcd, _, _⟩ := F.ex
  refine ⟨len, fun A outer s H args us vs Q E hg hr e0 hbd r hsp => ?_⟩
  have KX : K.In s.heap := e0.mod.kin.keeps fun b o e => (e0.bs b o e).1
  have lim : s.heap.NoLimit := e0.mod.nolimit.keeps fun b o e => (e0.bs b o e).1
  refine codeAny_call_function hr.depth (KX _ _ lk) rfl S.co S.gen rfl (PySem.W.codeRec_of KX hcd) (hbd _ _ _ _ (wpAny_newFunctionEnv_cells S.kind (fun y hy => ?_) fun env he s1 z => ?_))
  · rcases S.par y.1 (List.of_mem_zip (show (y.1, y.2) ∈ ps.zip us from hy)).1 with q | q
    · exact .inl q
    · exact .inr ⟨q, PySem.W.cellsFrom_some _ _ _ (.inl q)⟩
  · subst he
    refine ⟨lim.keeps z.toInCall.keep, codeAny_func ?_⟩
    obtain ⟨t, ht, hq⟩ := hb cdv A outer s H vs Q E hg (hr.deeper _) hsp
    have I : Inv (cxOf CX P w K mg base N qual scope f cdv A outer s H E) [] (start N vs) H s1 := inv_start S hr.hd e0 (len _ _ _ _ hsp) r z
    refine wpAny_mono (ht.run [] s1 (start N vs) H _ I hq) (fun fl s' hs => ?_) fun e s' hs => hs
    cases fl with
    | ret u => exact let ⟨v, σ', H', J, rv, q⟩ := hs; ⟨v, H', J.os, J.bare, J.base, J.hok, rv, q⟩
    | next => exact let ⟨σ', H', J, q⟩ := hs; ⟨.non, H', J.os, J.bare, J.base, J.hok, rfl, q⟩
    | brk => exact let ⟨_, _, _, q⟩ := hs; q.elim
    | cont => exact let ⟨_, _, _, q⟩ := hs; q.elim
end

theorem law_callG {P : Program} {w : World} {K : PySem.W.Frag} {mg mb : Str → Option Value} {CX : CXT} {k : Nat} {fa a : Addr} {fd : FuncData} {x : Str} {sp : Sp} {s1 : Shared} {vs : List Value} {ns : List Int}
    (KX : K.In s1.heap) (hns : s1.heap.Ns mainGlobals mg) (hb : s1.heap.Ns builtinsNs mb) (hbb : ∀ x : Str, x ≠ "__name__" → mb x = bootBuiltins x) (hlim : s1.heap.NoLimit) (hg : s1.gens = #[])
    (ha : s1.heap.get? a = some { cls := .type "list", data := .seq vs.toArray }) (hi : IntsAre vs ns) (hl : ns.length ≤ sizeLine) (hr : Room k callerA)
    (F : ∀ base : Heap, K.In base → base.Ns mainGlobals mg → FnG P w K mg base CX k fa fd [x] sp) (hbind : ∀ (s : Shared) (u : Value), BindsTo s fd ⟨[u], []⟩ [(x, u)])
    (hsp : ∀ H : Hp, Only H → SqL K H a (ns.map V.int) → sp [.ref a] H (fun v _ => v = .bl true) fun _ _ _ => False) (hCX : ∀ H e s', CX [] H s1 (fun _ _ _ => False) e s' → False) :
    codeAny (model P w) callerA (.call (.ref fa) ⟨[.ref a], []⟩) (fun r s' => r = .ok (.ret (.bool true)) ∧ OldK s1.heap s'.heap ∧ s'.os = s1.os ∧ AllBare s'.gens) s1 := by
  have rv := vals_ints hi
  have len := hi.length
  -- what is tracked: the script, where the written part does not hold it
  obtain ⟨H, hO, hS, hok, hA, hK⟩ : ∃ H : Hp, Only H ∧ SqL K H a (ns.map V.int) ∧ HOk P w H s1.heap ∧ (∀ b u, H b = some u → b = a) ∧ (∀ u, H a = some u → K.lookup a = none) := by
    cases hk : K.lookup a with
    | some o =>
      have e := KX a o hk
      rw [ha] at e
      cases e
      exact ⟨fun _ => none, fun _ => .inl rfl, .inr ⟨_, vs.toArray, _, hk, rfl, rfl, rfl, by rw [List.size_toArray, len]; exact hl, by simpa using rv⟩, (fun b u (z : (none : Option HO) = some u) => by cases z), (fun b u (z : (none : Option HO) = some u) => by cases z), (fun u (z : (none : Option HO) = some u) => by cases z)⟩
    | none =>
      have at_ : ∀ b u, (if b = a then some (HO.frz { cls := .type "list", data := .seq vs.toArray } (.lst (ns.map V.int))) else none) = some u → b = a ∧ u = .frz { cls := .type "list", data := .seq vs.toArray } (.lst (ns.map V.int)) := fun b u z => by
        by_cases c : b = a
        · rw [if_pos c] at z
          exact ⟨c, (Option.some.inj z).symm⟩
        · rw [if_neg c] at z
          cases z
      refine ⟨fun b => if b = a then some (.frz { cls := .type "list", data := .seq vs.toArray } (.lst (ns.map V.int))) else none, fun b => ?_, .inl (.inr ⟨_, if_pos rfl⟩), fun b u z => ?_, fun b u z => (at_ b u z).1, fun _ _ => rfl⟩
      · by_cases c : b = a
        · exact .inr ⟨_, _, if_pos c⟩
        · exact .inl (if_neg c)
      · obtain ⟨rfl, rfl⟩ := at_ b u z
        exact ⟨ha, by rw [List.length_map]; exact hl, vs, _, rv, ha⟩
  have free : ∀ {b : Addr} {o : Obj} {es : Array DictEntry} {ep : Nat}, s1.heap.get? b = some o → o.data = .dict es ep → H b = none := fun {b o es ep} e d => by
    cases q : H b with
    | none => rfl
    | some u =>
      obtain rfl := hA b u q
      rw [ha] at e
      cases e
      exact nomatch (show Data.seq vs.toArray _ = Data.dict es ep from d)
  have ns_ : ∀ {b : Addr} {m : Str → Option Value}, s1.heap.Ns b m → (hidT s1.heap H).Ns b m := fun {b m} ⟨o, es, ep, e, d, r⟩ => ⟨o, es, ep, hidT_get e (free e d), d, r⟩
  have kb : K.In (hidT s1.heap H) := fun b o e => hidT_get (KX b o e) (by
    cases q : H b with
    | none => rfl
    | some u =>
      obtain rfl := hA b u q
      rw [hK u q] at e
      cases e)
  have md : Mod K mg (hidT s1.heap H) := ⟨kb, ns_ hns, ⟨mb, ns_ hb, hbb⟩, let ⟨mc, h1, h2⟩ := hlim; ⟨mc, ns_ h1, h2⟩⟩
  have e0 : Env0 P w K mg (hidT s1.heap H) callerA [] s1 H := ⟨rfl, md, fun b o e => of_hidT e, Nat.le_of_eq (hidT_size _ _), trivial, fun b hb => absurd (show b ∈ ([] : List Addr) from hb) (by simp), hok, .of_eq hg⟩
  refine codeAny_mono ((F _ kb (ns_ hns)).run callerA [] s1 H ⟨[.ref a], []⟩ [.ref a] [.ref a] _ _ rfl hr e0 (hbind s1 (.ref a)) (.cons rfl .nil) (hsp H hO hS)) fun r s' h => ?_
  cases r with
  | error e => exact (hCX H e s' h).elim
  | ok fl =>
    cases fl with
    | next => exact False.elim h
    | brk => exact False.elim h
    | cont => exact False.elim h
    | ret u =>
      obtain ⟨v, H', os, bare, un, hok', r', q⟩ := h
      obtain rfl : v = .bl true := q
      obtain rfl : u = Value.bool true := r'
      refine ⟨rfl, OldK.of_keep fun b o e => ?_, os, bare⟩
      cases q : H b with
      | none => exact un.keep b o e q (fun z => absurd (show b ∈ ([] : List Addr) from z) (by simp)) (by simp)
      | some u =>
        rcases hO b with z | ⟨ob, xs, z⟩
        · rw [q] at z; cases z
        · obtain ⟨e1, _⟩ := hok b _ z
          obtain ⟨e2, _⟩ := hok' b _ (un.frzs b ob _ z)
          rw [e] at e1
          cases e1
          exact e2

theorem walk_ofG {l : PySem.W.OpenLaw} {n k : Nat} {q : Program} {loose : List Str} {XP : (Str → Option Value) → Heap → Prop} {YP : World → Heap → Prop} {d : DefRec} {CX : World → CXT} {x : Str}
    (hn : l.most = some n) (hn2 : n ≤ sizeLine) (hdf : d.params.defaults = []) (hr : Room k callerA)
    (F : ∀ (w : World) (mg : Str → Option Value) (fa : Addr) (h : Heap), YP w h → h.Ns mainGlobals mg → mg d.name = some (.ref fa) →
      ∃ (K : PySem.W.Frag) (fd : FuncData) (sp : Sp), K.In h ∧ (∀ (s : Shared) (u : Value), BindsTo s fd ⟨[u], []⟩ [(x, u)]) ∧
        (∀ (H : Hp) (a : Addr) (ns : List Int), ns.length ≤ n → Only H → SqL K H a (ns.map V.int) → sp [.ref a] H (fun v _ => v = .bl true) fun _ _ _ => False) ∧
        ∀ base : Heap, K.In base → base.Ns mainGlobals mg → FnG l.prog w K mg base (CX w) k fa fd [x] sp)
    (hCX : ∀ (w : World) (H : Hp) (s : Shared) (e : Value) (s' : Shared), CX w [] H s (fun _ _ _ => False) e s' → False) :
    PySem.W.WalkO q loose XP YP l.row.toRowW d [] (fun f vs => PySem.call f vs) := by
  refine Att.attach_call hn hdf fun w s0 s1 mg mb fa o pm cd doc a vs ns G Y ho hd hcd hmg hobj hints hlen hg => ?_
  obtain ⟨K, fd, sp, KX, hb, hsp, hF⟩ := F w mg fa _ Y G.T.g hmg
  exact law_callG KX G.T.g G.T.b G.T.builtins G.T.nolimit hg hobj hints (Nat.le_trans hlen hn2) hr hF hb (fun H hO hS => hsp H a ns hlen hO hS) fun H e s' => hCX w H s1 e s'

/-! ### the Hook: any look at the written part, which holds the table of modules too -/
def obsY (fb : PySem.W.Frag → Bool) (fn : List He.DefD) (K : PySem.W.Frag) : He.AlD := (fb K && fn.all fun d => d.ok K, fn.map fun d => He.fnW K d.at_)
def SaysY (fb : PySem.W.Frag → Bool) (fn : List He.DefD) (K : PySem.W.Frag) : Prop := obsY fb fn K = He.valD fn
def frY (n : Nat) (g : Addr → Option Obj) : PySem.W.Frag := He.frG g (sysModules :: He.asD g n)
def hookY (n : Nat) (fb : PySem.W.Frag → Bool) (fn : List He.DefD) : PySem.W.Hook where
  α := He.AlD
  obs := fun s => obsY fb fn (frY n s.heap.get?)
  val := fun _ => He.valD fn
  says := fun _ h => ∃ K : PySem.W.Frag, K.In h ∧ SaysY fb fn K
  of := fun _ _ e => ⟨_, He.frG_in, e⟩
  keeps := fun _ _ _ ⟨K, hK, c⟩ k => ⟨K, PySem.W.Frag.In.keeps hK k, c⟩
def obY (n : Nat) (fb : PySem.W.Frag → Bool) (fn : List He.DefD) (s : PySem.W.SharedT) : He.AlD := obsY fb fn (frY n (HandSHeadRun.getT s))
theorem obY_eq {n : Nat} {fb : PySem.W.Frag → Bool} {fn : List He.DefD} (s : PySem.W.SharedT) : obY n fb fn s = (hookY n fb fn).obs s.abs := by
  have e : HandSHeadRun.getT s = s.abs.heap.get? := funext (HandSHeadRun.getT_eq s)
  unfold obY
  rw [e]
  rfl
section
variable {fb : PySem.W.Frag → Bool} {fn : List He.DefD} {K : PySem.W.Frag}
theorem SaysY.look (c : SaysY fb fn K) : fb K = true := (He.ba (show (fb K && fn.all fun d => d.ok K) = true from congrArg (fun z : He.AlD => z.1) c)).1
theorem SaysY.def_ (c : SaysY fb fn K) (i : Nat) {d : He.DefD} (h : fn[i]? = some d := by rfl) : ∃ fd, FunD K d.name d.qual d.params d.body d.scope (d.dvs K) (d.kws K) (He.fAd K d.at_) fd := by
  have c2 := (He.ba (show (fb K && fn.all fun d => d.ok K) = true from congrArg (fun z : He.AlD => z.1) c)).2
  have e : (fn.map fun d => He.fnW K d.at_)[i]? = (fn.map He.DefD.val)[i]? := by rw [show fn.map (fun d => He.fnW K d.at_) = fn.map He.DefD.val from congrArg (fun z : He.AlD => z.2) c]
  rw [List.getElem?_map, List.getElem?_map, h] at e
  exact He.DefD.funD (Option.some.inj e) (List.all_eq_true.mp c2 d (List.mem_of_getElem? h))
theorem sysB_ok (h : sysB K = true) : SysIn K := by
  unfold sysB at h
  cases q : K.lookup sysModules with
  | none => rw [q] at h; cases h
  | some o =>
    rw [q] at h
    exact ⟨o, q, eq_of_beq h⟩
end
end Ys
namespace Ys
open PySem PySem.Spec PyProof.Rows L2
/-! ### the state: G is known and stays, M may change -/
structure Zp (G : Hp) (M : List (Addr × HO)) (H : Hp) : Prop where
  sub : ∀ a o, G a = some o → H a = some o
  own : ∀ (i : Nat) p o, M[i]? = some (p, o) → H p = some o ∧ G p = none
  nd : (M.map (·.1)).Nodup
section
variable {G G0 G1 H H1 : Hp} {M M1 : List (Addr × HO)} {p a : Addr} {o o1 : HO} {K : PySem.W.Frag} {v : V} {d : PyData} {xs vs : List V} {ds : List PyData}
theorem Zp.free (z : Zp G M H) (h : H p = none) : G p = none := by
  cases q : G p with
  | none => rfl
  | some o => rw [z.sub p o q] at h; cases h
theorem Zp.ne (z : Zp G M H) (h : H p = none) {i : Nat} {q : Addr} (e : M[i]? = some (q, o)) : q ≠ p := by
  rintro rfl
  rw [(z.own i q o e).1] at h
  cases h
theorem Same.new (h : G p = none) : Same G (upd G p o) := fun b u e => by
  rw [upd_ne (ne_of_none e h)]
  exact e
theorem Zp.new (z : Zp G M H) (h : H p = none) (o : HO) : Zp (upd G p o) M (upd H p o) where
  sub := fun a u e => by
    by_cases c : a = p
    · subst c
      rw [upd_same] at e ⊢
      exact e
    · rw [upd_ne c] at e ⊢
      exact z.sub a u e
  own := fun i q u e => by
    have ne := z.ne h e
    rw [upd_ne ne, upd_ne ne]
    exact z.own i q u e
  nd := z.nd
theorem Zp.add (z : Zp G M H) (h : H p = none) (o : HO) : Zp G (M ++ [(p, o)]) (upd H p o) where
  sub := fun a u e => by
    rw [upd_ne (ne_of_none (z.sub a u e) h)]
    exact z.sub a u e
  own := fun i q u e => by
    by_cases c : i < M.length
    · rw [List.getElem?_append_left c] at e
      rw [upd_ne (z.ne h e)]
      exact z.own i q u e
    · rw [List.getElem?_append_right (by omega)] at e
      have e0 : i - M.length = 0 := by
        cases n : i - M.length with
        | zero => rfl
        | succ k => rw [n] at e; simp at e
      rw [e0] at e
      obtain ⟨rfl, rfl⟩ : p = q ∧ o = u := by simpa using e
      exact ⟨upd_same, z.free h⟩
  nd := by
    rw [List.map_append, List.nodup_append]
    refine ⟨z.nd, by simp, fun x hx y hy => ?_⟩
    obtain ⟨⟨q, u⟩, hq, rfl⟩ := List.mem_map.mp hx
    obtain rfl : y = p := by simpa using hy
    obtain ⟨i, hi⟩ := List.getElem?_of_mem hq
    exact z.ne h hi
theorem Zp.at_ (z : Zp G M H) (i : Nat) (e : M[i]? = some (p, o)) : H p = some o := (z.own i p o e).1
theorem Zp.put (z : Zp G M H) (i : Nat) (e : M[i]? = some (p, o)) (o1 : HO) : Zp G (M.set i (p, o1)) (upd H p o1) where
  sub := fun a u q => by
    have n := (z.own i p o e).2
    rw [upd_ne (ne_of_none q n)]
    exact z.sub a u q
  own := fun j q u ej => by
    by_cases c : j = i
    · subst c
      rw [List.getElem?_set_self (List.getElem?_eq_some_iff.mp e).1] at ej
      obtain ⟨rfl, rfl⟩ : p = q ∧ o1 = u := by simpa using ej
      exact ⟨upd_same, (z.own j p o e).2⟩
    · rw [List.getElem?_set_ne (fun h => c h.symm)] at ej
      have ne : q ≠ p := by
        rintro rfl
        have hi := (List.getElem?_eq_some_iff.mp e).1
        have hj := (List.getElem?_eq_some_iff.mp ej).1
        have e1 : (M.map (·.1))[i]? = some q := by rw [List.getElem?_map, e]; rfl
        have e2 : (M.map (·.1))[j]? = some q := by rw [List.getElem?_map, ej]; rfl
        exact c ((List.getElem?_inj (by simpa using hj) z.nd).mp (e2.trans e1.symm))
      rw [upd_ne ne]
      exact z.own j q u ej
  nd := by
    have e1 : ((M.set i (p, o1)).map (·.1)) = M.map (·.1) := by
      rw [List.map_set]
      apply List.ext_getElem?
      intro j
      by_cases c : j = i
      · subst c
        have hi := (List.getElem?_eq_some_iff.mp e).1
        rw [List.getElem?_set_self (by simpa using hi), List.getElem?_map, e]
        rfl
      · rw [List.getElem?_set_ne (fun h => c h.symm)]
    rw [e1]
    exact z.nd
theorem Zp.fix (z : Zp G (M ++ [(p, o)]) H) : Zp (upd G p o) M H := by
  have e : (M ++ [(p, o)])[M.length]? = some (p, o) := by simp
  obtain ⟨h1, h2⟩ := z.own _ p o e
  have nd := z.nd
  rw [List.map_append, List.nodup_append] at nd
  refine ⟨fun a u q => ?_, fun i q u ei => ?_, nd.1⟩
  · by_cases c : a = p
    · subst c
      rw [upd_same] at q
      rw [h1]
      exact q
    · rw [upd_ne c] at q
      exact z.sub a u q
  · have hi := (List.getElem?_eq_some_iff.mp ei).1
    have ne : q ≠ p := by
      have := nd.2.2 q (List.mem_map.mpr ⟨(q, u), List.mem_of_getElem? ei, rfl⟩) p (by simp)
      exact this
    rw [upd_ne ne]
    exact z.own i q u (by rw [List.getElem?_append_left hi]; exact ei)
theorem Zp.cut (z : Zp G (M ++ M1) H) : Zp G M H where
  sub := z.sub
  own := fun i q u e => z.own i q u (by rw [List.getElem?_append_left (List.getElem?_eq_some_iff.mp e).1]; exact e)
  nd := by
    have nd := z.nd
    rw [List.map_append, List.nodup_append] at nd
    exact nd.1
theorem Zp.seqL (z : Zp G M H) (h : SqL K G a xs) : SqL K H a xs := by
  rcases h with (h | ⟨o, h⟩) | h
  · exact .inl (.inl (z.sub _ _ h))
  · exact .inl (.inr ⟨o, z.sub _ _ h⟩)
  · exact .inr h
theorem Zp.seqT (z : Zp G M H) (h : SqT K G a xs) : SqT K H a xs := by
  rcases h with (h | ⟨o, h⟩) | h
  · exact .inl (.inl (z.sub _ _ h))
  · exact .inl (.inr ⟨o, z.sub _ _ h⟩)
  · exact .inr h
theorem upL (s : Same G G1) (h : SqL K G a xs) : SqL K G1 a xs := s.seq h
theorem upT (s : Same G G1) (h : SqT K G a xs) : SqT K G1 a xs := by
  rcases h with (h | ⟨o, h⟩) | h
  · exact .inl (.inl (s _ _ h))
  · exact .inl (.inr ⟨o, s _ _ h⟩)
  · exact .inr h
theorem upR (s : Same G G1) (h : Rd G a o) : Rd G1 a o := by
  rcases h with h | ⟨o, h⟩
  · exact .inl (s _ _ h)
  · exact .inr ⟨o, s _ _ h⟩
end
mutual
theorem Dt.up {K : PySem.W.Frag} {G G1 : Hp} (s : Same G G1) : ∀ {v : V} {d : PyData}, Dt K G v d → Dt K G1 v d
  | _, _, .non => .non
  | _, _, .bl b => .bl b
  | _, _, .int i => .int i
  | _, _, .str x => .str x
  | _, _, .lst h a => .lst (upL s h) (Dts.up s a)
  | _, _, .tup h a => .tup (upT s h) (Dts.up s a)
  | _, _, .dct h k a => .dct (upR s h) k (Dts.up s a)
theorem Dts.up {K : PySem.W.Frag} {G G1 : Hp} (s : Same G G1) : ∀ {v : List V} {d : List PyData}, Dts K G v d → Dts K G1 v d
  | _, _, .nil => .nil
  | _, _, .cons h a => .cons (Dt.up s h) (Dts.up s a)
end
theorem Zp.dt {K : PySem.W.Frag} {G H : Hp} {M : List (Addr × HO)} {v : V} {d : PyData} (z : Zp G M H) (h : Dt K G v d) : Dt K H v d := h.up z.sub
end Ys
namespace Ys
open PySem PySem.Spec PyProof.Rows L2
/-! ### operators over any values -/
section
variable {X : Cx}
def rCatL (K : PySem.W.Frag) : R2 := fun x y H Q => ∃ l b xs zs, x = .ref l ∧ y = .ref b ∧ H l = some (.lst xs) ∧ H b = some (.lst zs) ∧ xs.length + zs.length ≤ sizeLine ∧ ∀ p, H p = none → Q (.ref p) (upd H p (.lst (xs ++ zs)))
def rStr2 : R2 := fun x y H Q => ∃ i j, x = .str i ∧ y = .str j ∧ i.length + j.length ≤ sizeLine ∧ Q (.str (i ++ j)) H
def rAddG (K : PySem.W.Frag) : R2 := fun x y H Q => rI0 (fun i j => .int (i + j)) x y H Q ∨ rStr2 x y H Q ∨ rCat x y H Q ∨ rCatA K x y H Q
theorem op_addG : OpR X (binaryOp .Add) (rAddG X.K) := op_add.or ((show OpR X (binaryOp .Add) rStr2 from op_add_str).or (op_cat.or op_catA))
def rEqLen (K : PySem.W.Frag) (r : Bool) : R2 := fun x y H Q => ∃ a b xs ys, x = V.ref a ∧ y = V.ref b ∧ SqL K H a xs ∧ SqL K H b ys ∧ xs.length ≠ ys.length ∧ Q (.bl r) H
theorem isl {X : Cx} {pins : List (Addr × Obj)} {σ : L2.St} {H : Hp} {s : Shared} {a : Addr} {xs : List V} (I : Inv X pins σ H s) (h : SqL X.K H a xs) : ∃ its : List Value, its.length = xs.length ∧ s.heap.IsList a its.toArray := by
  obtain ⟨its, rv, ⟨o, n, ho, hc, hx, hd⟩, _⟩ := I.list h
  exact ⟨its, rv.length.symm, o, ho, hc, n, hd⟩
theorem op_eqLen (hu : X.A.units + 64 < cLine) : OpR X (compareOp .Eq) (rEqLen X.K false) := by
  intro pins s σ H x y v u Q I rx ry ⟨a, b, xs, ys, e1, e2, h1, h2, hne, q⟩
  subst e1 e2
  cases rx
  cases ry
  obtain ⟨i1, l1, j1⟩ := isl I h1
  obtain ⟨i2, l2, j2⟩ := isl I h2
  exact PySem.SeqAt.RcAt.lists_lengths j1 j2 (by rw [List.size_toArray, List.size_toArray, l1, l2]; exact bne_iff_ne.mpr hne) (by omega) X.prog X.w X.xe _ ⟨.bl false, H, I, rfl, q⟩
theorem op_neLen (hu : X.A.units + 64 < cLine) : OpR X (compareOp .NotEq) (rEqLen X.K true) := by
  intro pins s σ H x y v u Q I rx ry ⟨a, b, xs, ys, e1, e2, h1, h2, hne, q⟩
  subst e1 e2
  cases rx
  cases ry
  obtain ⟨i1, l1, j1⟩ := isl I h1
  obtain ⟨i2, l2, j2⟩ := isl I h2
  exact PySem.SeqAt.RcNeAt.lists_lengths j1 j2 (by rw [List.size_toArray, List.size_toArray, l1, l2]; exact bne_iff_ne.mpr hne) (by omega) X.prog X.w X.xe _ ⟨.bl true, H, I, rfl, q⟩
def rEqG (K : PySem.W.Frag) : R2 := fun x y H Q => rEq x y H Q ∨ rEqD K x y H Q ∨ rEqLen K false x y H Q
def rNeG (K : PySem.W.Frag) : R2 := fun x y H Q => rNe x y H Q ∨ rNeD K x y H Q ∨ rEqLen K true x y H Q
theorem op_eqG (hu : X.A.units + 64 < cLine) : OpR X (compareOp .Eq) (rEqG X.K) := op_eq.or ((op_eqD hu).or (op_eqLen hu))
theorem op_neG (hu : X.A.units + 64 < cLine) : OpR X (compareOp .NotEq) (rNeG X.K) := op_ne.or ((op_neD hu).or (op_neLen hu))
def rSlG (K : PySem.W.Frag) : V → Option Int → Option Int → Hp → VK → Prop := fun x lo hi H Q => rSlL K x lo hi H Q ∨ rSlA K x lo hi H Q ∨ rSlS x lo hi H Q
theorem sl_any : SlR X (rSlG X.K) := sl_list.or (sl_tupA.or sl_str)
abbrev rMulG : R2 := rI CMulW fun i j => .int (i * j)
abbrev rDivG : R2 := rI CDivW fun i j => .int (i / j)
abbrev rModG : R2 := rI (fun _ j => 0 < j) fun i j => .int (i % j)
abbrev rPowG : R2 := rI CPow fun i j => .int (i ^ j.toNat)
abbrev rSubG : R2 := rI0 fun i j => .int (i - j)
abbrev rLtG : R2 := rI0 fun i j => .bl (decide (i < j))
abbrev rLeG : R2 := rI0 fun i j => .bl (decide (i ≤ j))
abbrev rGtG : R2 := rI0 fun i j => .bl (decide (j < i))
abbrev rGeG : R2 := rI0 fun i j => .bl (decide (j ≤ i))
theorem o_sub : OpR X (binaryOp .Sub) rSubG := op_sub
theorem o_mul : OpR X (binaryOp .Mult) rMulG := op_mulW
theorem o_div : OpR X (binaryOp .FloorDiv) rDivG := op_fdivW
theorem o_mod : OpR X (binaryOp .Mod) rModG := op_mod
theorem o_pow : OpR X (binaryOp .Pow) rPowG := op_pow
theorem o_lt : OpR X (compareOp .Lt) rLtG := op_lt
theorem o_le : OpR X (compareOp .LtE) rLeG := op_le
theorem o_gt : OpR X (compareOp .Gt) rGtG := op_gt
theorem o_ge : OpR X (compareOp .GtE) rGeG := op_ge
abbrev rIsNon : R2 := fun x y H Q => y = .non ∧ Q (.bl (decide (x = .non))) H
abbrev rNotNon : R2 := fun x y H Q => y = .non ∧ Q (.bl (!decide (x = .non))) H
theorem o_isN : OpR X (compareOp .Is) rIsNon := op_isN
theorem o_notN : OpR X (compareOp .IsNot) rNotNon := op_notN
def rInG (K : PySem.W.Frag) (neg : Bool) : R2 := fun x y H Q => (∃ c z, x = V.str ⟨#[c]⟩ ∧ y = V.str z ∧ Q (.bl (if neg then !decide (c ∈ z.cps.toList) else decide (c ∈ z.cps.toList))) H) ∨ rIn K neg x y H Q
theorem o_in : OpR X (compareOp .In) (rInG X.K false) := by
  refine OpR.or ?_ op_in_seq
  intro pins s σ H x y v u Q I rx ry ⟨c, z, e1, e2, q⟩
  exact op_in_sign pins s σ H x y v u Q I rx ry ⟨c, z, e1, e2, by simpa using q⟩
theorem o_notIn : OpR X (compareOp .NotIn) (rInG X.K true) := by
  refine OpR.or ?_ op_notIn_seq
  intro pins s σ H x y v u Q I rx ry ⟨c, z, e1, e2, q⟩
  exact op_notIn_sign pins s σ H x y v u Q I rx ry ⟨c, z, e1, e2, by simpa using q⟩
def rIntG : List V → Hp → VK → Prop := fun xs H Q => (∃ i, xs = [.int i] ∧ Q (.int i) H) ∨ ∃ k, xs = [.bl k] ∧ Q (.int (if k then 1 else 0)) H
theorem c_int : CallR X (.type "int") rIntG := call_int1
def rLenG (K : PySem.W.Frag) (P : Program) (w : World) : List V → Hp → VK → Prop := fun xs H Q => (∃ x n, xs = [x] ∧ LenV K x H n ∧ Q (.int n) H) ∨ rLenTx P w xs H Q
theorem c_len : CallR X (.builtin "len") (rLenG X.K X.prog X.w) := CallR.or call_len cr_lenTx
def rListG (K : PySem.W.Frag) : List V → Hp → VK → Prop := fun xs H Q => ∃ p ys, xs = [V.ref p] ∧ (SqL K H p ys ∨ SqT K H p ys) ∧ ∀ l, H l = none → Q (.ref l) (upd H l (.lst ys))
theorem c_list : CallR X (.type "list") (rListG X.K) := call_list_of
def rTupG (K : PySem.W.Frag) : List V → Hp → VK → Prop := fun xs H Q => ∃ p ys, xs = [V.ref p] ∧ ((SqL K H p ys ∧ ∀ l, H l = none → Q (.ref l) (upd H l (.tup ys))) ∨ (SqT K H p ys ∧ Q (.ref p) H))
theorem c_tuple : CallR X (.type "tuple") (rTupG X.K) := call_tuple_of
def rMin2 : List V → Hp → VK → Prop := fun xs H Q => ∃ i j, xs = [V.int i, V.int j] ∧ Q (.int (if j < i then j else i)) H
theorem c_min2 (hc : X.calm = true) : CallR X (.builtin "min") rMin2 := call_min2 hc
def rAllG (K : PySem.W.Frag) : List V → Hp → VK → Prop := fun vs H Q => ∃ (a : Addr) (bs : List Bool), vs = [V.ref a] ∧ SqL K H a (bs.map V.bl) ∧ Q (.bl (bs.all id)) H
theorem c_all (hc : X.calm = true) : CallR X (.builtin "all") (rAllG X.K) := cr_all hc
def rSortG (K : PySem.W.Frag) (P : Program) (w : World) : List V → Hp → VK → Prop := fun vs H Q => rSortTx P w vs H Q ∨ rSortedS K vs H Q
theorem c_sorted (hc : X.calm = true) : CallR X (.builtin "sorted") (rSortG X.K X.prog X.w) := CallR.or (cr_sortTx hc) cr_sortedS
end

/-! ### the steps of a reading -/
def Bif (c : Bool) (A B : Prop) : Prop := if c = true then A else B
def IsB (x : V) (H : Hp) (Q : Bool → Hp → Prop) : Prop := ∃ k, x = .bl k ∧ Q k H
def IsP (x : V) (H : Hp) (Q : Option Int → Hp → Prop) : Prop := ∃ i, x = .int i ∧ Q (some i) H
def NewT (xs : List V) (H : Hp) (Q : VK) : Prop := xs.length ≤ sizeLine ∧ ∀ p, H p = none → Q (.ref p) (upd H p (.tup xs))
def NewL (xs : List V) (H : Hp) (Q : VK) : Prop := xs.length ≤ sizeLine ∧ ∀ p, H p = none → Q (.ref p) (upd H p (.lst xs))
section
variable {K : PySem.W.Frag} {G H : Hp} {M : List (Addr × HO)} {σ : L2.St} {Q : VK} {QB : Bool → Hp → Prop} {QO : Option Int → Hp → Prop} {QA : List V → Hp → Prop} {D : Ends} {ta tb te : TE} {tt uu : TT} {tr t : TA} {t1 t2 : TS} {r : R2} {A B : Prop} {c : Bool} {v x y : V} {i j : Int} {k : Nat} {p a b : Addr} {xs ys vs : List V} {sp : Sp} {E : XK} {g : TG}
theorem z_var (h : σ[k]? = some (some v)) (q : Q v H) : tVar k σ H Q := ⟨v, h, q⟩
theorem z_c (q : Q v H) : tC v σ H Q := q
theorem z_op (h : ta σ H fun x H1 => tb σ H1 fun y H2 => r x y H2 Q) : tOp r ta tb σ H Q := h
theorem z_un {r : V → Hp → VK → Prop} (h : ta σ H fun x H1 => r x H1 Q) : tUn r ta σ H Q := h
theorem z_test (h : te σ H fun x H1 => IsB x H1 QB) : tTest te σ H QB := h
theorem z_tB (h : te σ H fun x H1 => IsB x H1 QB) : tB te σ H QB := h
theorem z_isB (q : QB c H) : IsB (.bl c) H QB := ⟨c, rfl, q⟩
theorem z_bT (h : A) : Bif true A B := by unfold Bif; rw [if_pos rfl]; exact h
theorem z_bF (h : B) : Bif false A B := by unfold Bif; rw [if_neg Bool.false_ne_true]; exact h
theorem z_b2 (h1 : c = true → A) (h2 : c = false → B) : Bif c A B := by
  cases c with
  | true => exact z_bT (h1 rfl)
  | false => exact z_bF (h2 rfl)
theorem z_bN (h : Bif c B A) : Bif (!c) A B := by cases c with | true => exact h | false => exact h
theorem z_bD {p : Prop} [Decidable p] (h1 : p → A) (h2 : ¬ p → B) : Bif (decide p) A B := z_b2 (fun h => h1 (of_decide_eq_true h)) fun h => h2 (of_decide_eq_false h)
theorem z_and (h : tt σ H fun c H1 => Bif c (uu σ H1 QB) (QB false H1)) : tAnd tt uu σ H QB := h
theorem z_or (h : tt σ H fun c H1 => Bif c (QB true H1) (uu σ H1 QB)) : tOr tt uu σ H QB := h
theorem z_not (h : tt σ H fun c H1 => QB (!c) H1) : tNot tt σ H QB := h
theorem z_andV (h : ta σ H fun x H1 => IsB x H1 fun c H1 => Bif c (tb σ H1 Q) (Q (.bl false) H1)) : tAndV ta tb σ H Q := h
theorem z_orV (h : ta σ H fun x H1 => IsB x H1 fun c H1 => Bif c (Q (.bl true) H1) (tb σ H1 Q)) : tOrV ta tb σ H Q := h
theorem z_notV (h : ta σ H fun x H1 => IsB x H1 fun c H1 => Q (.bl (!c)) H1) : tNotV ta σ H Q := h
theorem z_if (h : tt σ H fun c H1 => Bif c (ta σ H1 Q) (tb σ H1 Q)) : tIf tt ta tb σ H Q := h
theorem z_nil (q : QA [] H) : tNil σ H QA := q
theorem z_cons (h : ta σ H fun x H1 => tr σ H1 fun xs H2 => QA (x :: xs) H2) : tCons ta tr σ H QA := h
theorem z_tup (h : t σ H fun xs H1 => NewT xs H1 Q) : tTup t σ H Q := h
theorem z_lst (h : t σ H fun xs H1 => NewL xs H1 Q) : tLst t σ H Q := h
theorem z_cb {r : List V → Hp → VK → Prop} (h : t σ H fun vs H1 => r vs H1 Q) : tCB r t σ H Q := h
theorem z_call {dvs : List V} (h : t σ H fun vs H1 => sp (vs ++ dvs) H1 Q E) : tCall sp dvs E t σ H Q := h
theorem z_sl {r : V → Option Int → Option Int → Hp → VK → Prop} {tl th : TO} (h : te σ H fun x H1 => tl σ H1 fun l H2 => th σ H2 fun u H3 => r x l u H3 Q) : tSl r te tl th σ H Q := h
theorem z_np (q : QO none H) : tNoPart σ H QO := q
theorem z_part (h : te σ H fun x H1 => IsP x H1 QO) : tPart te σ H QO := h
theorem z_isP (q : QO (some i) H) : IsP (.int i) H QO := ⟨i, rfl, q⟩
theorem z_seq (h : t1 ⟨t2 D, D.rt, D.bk, D.ct⟩ σ H) : tSeq t1 t2 D σ H := h
theorem z_asg (h : te σ H fun x H1 => g x σ H1 D.nx) : tAsg te g D σ H := h
theorem z_name {R : L2.St → Hp → Prop} (q : R (σ.set k (some v)) H) : gName k v σ H R := q
theorem z_ifS (h : tt σ H fun b H1 => Bif b (t1 D σ H1) (t2 D σ H1)) : tIfS tt t1 t2 D σ H := h
theorem z_ret (h : te σ H D.rt) : tRet te D σ H := h
theorem z_retN (q : D.rt .non H) : tRetN D σ H := q
theorem z_drop (h : te σ H fun _ H1 => D.nx σ H1) : tDrop te D σ H := h
theorem z_next (q : D.nx σ H) : tNext D σ H := q
theorem z_par {k l : Nat} {w : V} (h : t σ H fun vs H1 => ∃ v w, vs = [v, w] ∧ D.nx ((σ.set k (some v)).set l (some w)) H1) : tPar k l t D σ H := h
theorem z_dget (h : ta σ H fun x H1 => tb σ H1 fun y H2 => ∃ a v, x = .ref a ∧ DGet H2 a y (some v) ∧ Q v H2) : tDGet ta tb σ H Q := h

/-! new objects -/
theorem z_newT (z : Zp G M H) (hl : xs.length ≤ 100000) (q : ∀ p G1 H1, Zp G1 M H1 → Same G G1 → G1 p = some (.tup xs) → Q (.ref p) H1) : NewT xs H Q :=
  ⟨Nat.le_trans hl (by decide), fun p hp => q p _ _ (z.new hp _) (Same.new (z.free hp)) upd_same⟩
theorem z_newL (z : Zp G M H) (hl : xs.length ≤ 100000) (q : ∀ p G1 H1, Zp G1 M H1 → Same G G1 → G1 p = some (.lst xs) → Q (.ref p) H1) : NewL xs H Q :=
  ⟨Nat.le_trans hl (by decide), fun p hp => q p _ _ (z.new hp _) (Same.new (z.free hp)) upd_same⟩
theorem z_ownL (z : Zp G M H) (hl : xs.length ≤ 100000) (q : ∀ p H1, Zp G (M ++ [(p, .lst xs)]) H1 → Q (.ref p) H1) : NewL xs H Q :=
  ⟨Nat.le_trans hl (by decide), fun p hp => q p _ (z.add hp _)⟩

/-! operators -/
theorem z_addI (q : Q (.int (i + j)) H) : rAddG K (.int i) (.int j) H Q := .inl ⟨i, j, rfl, rfl, q⟩
theorem z_addS {x y : Str} (hl : x.length + y.length ≤ 100000) (q : Q (.str (x ++ y)) H) : rAddG K (.str x) (.str y) H Q := .inr (.inl ⟨x, y, rfl, rfl, Nat.le_trans hl (by decide), q⟩)
theorem z_addL (z : Zp G M H) (h1 : G a = some (.lst xs)) (h2 : G b = some (.lst ys)) (hl : xs.length + ys.length ≤ 100000) (q : ∀ p G1 H1, Zp G1 M H1 → Same G G1 → G1 p = some (.lst (xs ++ ys)) → Q (.ref p) H1) : rAddG K (.ref a) (.ref b) H Q :=
  .inr (.inr (.inl ⟨a, b, xs, ys, rfl, rfl, z.sub _ _ h1, z.sub _ _ h2, Nat.le_trans hl (by decide), fun p hp => q p _ _ (z.new hp _) (Same.new (z.free hp)) upd_same⟩))
theorem z_addT (z : Zp G M H) (h1 : SqT K G a xs) (h2 : SqT K G b ys) (hl : xs.length + ys.length ≤ 100000) (q : ∀ p G1 H1, Zp G1 M H1 → Same G G1 → SqT K G1 p (xs ++ ys) → Q (.ref p) H1) : rAddG K (.ref a) (.ref b) H Q := by
  refine .inr (.inr (.inr ⟨a, b, xs, ys, rfl, rfl, z.seqT h1, z.seqT h2, Nat.le_trans hl (by decide), fun e => ?_, fun _ e => ?_, fun _ _ p hp => ?_⟩))
  · subst e
    exact q b G H z (Same.refl G) h2
  · subst e
    exact q a G H z (Same.refl G) (by rw [List.append_nil]; exact h1)
  · exact q p _ _ (z.new hp _) (Same.new (z.free hp)) (SqT.of upd_same)
theorem z_I0 {f : Int → Int → V} (q : Q (f i j) H) : rI0 f (.int i) (.int j) H Q := ⟨i, j, rfl, rfl, q⟩
theorem z_I {C : Int → Int → Prop} {f : Int → Int → V} (h : C i j) (q : Q (f i j) H) : rI C f (.int i) (.int j) H Q := ⟨i, j, rfl, rfl, h, q⟩
theorem z_eqS (h : scal x y = true) (q : Q (.bl (decide (x = y))) H) : rEqG K x y H Q := .inl ⟨h, q⟩
theorem z_neS (h : scal x y = true) (q : Q (.bl (!decide (x = y))) H) : rNeG K x y H Q := .inl ⟨h, q⟩
theorem z_eqD {d e : PyData} (z : Zp G M H) (h1 : Dt K G x d) (h2 : Dt K G y e) (c1 : SeqAt.shaped d = true) (c2 : SeqAt.shaped e = true) (q : Q (.bl (PyData.eqv d e)) H) : rEqG K x y H Q :=
  .inr (.inl ⟨d, e, Dt.dp d x (SeqAt.canLay_of_shaped c1) (z.dt h1), Dt.dp e y (SeqAt.canLay_of_shaped c2) (z.dt h2), c1, c2, q⟩)
theorem z_neD {d e : PyData} (z : Zp G M H) (h1 : Dt K G x d) (h2 : Dt K G y e) (c1 : SeqAt.shaped d = true) (c2 : SeqAt.shaped e = true) (q : Q (.bl (!PyData.eqv d e)) H) : rNeG K x y H Q :=
  .inr (.inl ⟨d, e, Dt.dp d x (SeqAt.canLay_of_shaped c1) (z.dt h1), Dt.dp e y (SeqAt.canLay_of_shaped c2) (z.dt h2), c1, c2, q⟩)
theorem z_ixL (z : Zp G M H) (h : SqL K G a xs) (e : atI xs i = some v) (q : Q v H) : rIx K (.ref a) (.int i) H Q := .inl ⟨a, xs, i, v, rfl, rfl, z.seqL h, e, q⟩
theorem z_ixT (z : Zp G M H) (h : SqT K G a xs) (e : atI xs i = some v) (q : Q v H) : rIx K (.ref a) (.int i) H Q := .inr (.inl ⟨a, xs, i, v, rfl, rfl, z.seqT h, e, q⟩)
theorem z_ixS {s : Str} {ch : Nat} (hl : s.length ≤ 100000) (e : atI s.cps.toList i = some ch) (q : Q (.str ⟨#[ch]⟩) H) : rIx K (.str s) (.int i) H Q := .inr (.inr ⟨s, i, ch, rfl, rfl, Nat.le_trans hl (by decide), e, q⟩)
theorem z_slL {lo hi : Option Int} (z : Zp G M H) (h : SqL K G a xs) (q : ∀ p G1 H1, Zp G1 M H1 → Same G G1 → G1 p = some (.lst (cutV xs lo hi)) → Q (.ref p) H1) : rSlG K (.ref a) lo hi H Q :=
  .inl ⟨a, xs, rfl, z.seqL h, fun p hp => q p _ _ (z.new hp _) (Same.new (z.free hp)) upd_same⟩
theorem sIx_all {lo hi : Option Int} (h : HT.sIx xs.length 0 lo = 0 ∧ HT.sIx xs.length xs.length hi = xs.length) : cutV xs lo hi = xs := by
  unfold cutV
  rw [h.1, h.2]
  simp
theorem z_slT {lo hi : Option Int} (z : Zp G M H) (h : SqT K G a xs) (q : ∀ p G1 H1, Zp G1 M H1 → Same G G1 → SqT K G1 p (cutV xs lo hi) → Q (.ref p) H1) : rSlG K (.ref a) lo hi H Q :=
  .inr (.inl ⟨a, xs, rfl, z.seqT h, fun e => q a G H z (Same.refl G) (by rw [sIx_all e]; exact h), fun _ p hp => q p _ _ (z.new hp _) (Same.new (z.free hp)) (SqT.of upd_same)⟩)
theorem z_slS {s : Str} {lo hi : Option Int} (hl : s.length ≤ 100000) (q : Q (.str (cutS s lo hi)) H) : rSlG K (.str s) lo hi H Q := .inr (.inr ⟨s, rfl, Nat.le_trans hl (by decide), q⟩)
/-! calls of what is built in -/
theorem z_int (q : Q (.int i) H) : rIntG [.int i] H Q := .inl ⟨i, rfl, q⟩
theorem z_lenL {P : Program} {w : World} (z : Zp G M H) (h : SqL K G a xs) (q : Q (.int xs.length) H) : rLenG K P w [.ref a] H Q := .inl ⟨_, _, rfl, .inl ⟨xs, z.seqL h, rfl⟩, q⟩
end
end Ys
namespace Ys
open PySem PySem.Spec PyProof.Rows L2
/-! ### sorted, different texts: one list alone -/
theorem ltCps_irr : ∀ xs : List Nat, ltCps xs xs = false := fun xs => by rw [ltCps_eq]; exact decide_eq_false (fun h => List.lt_irrefl xs h)
def leS (a b : Str) : Bool := !decide (b.cps.toList < a.cps.toList)
theorem leS_total (a b : Str) : (leS a b || leS b a) = true := by
  unfold leS
  by_cases h : b.cps.toList < a.cps.toList
  · have : ¬ a.cps.toList < b.cps.toList := fun h2 => List.lt_asymm h h2
    simp [h, this]
  · simp [h]
theorem leS_trans (a b c : Str) (h1 : leS a b = true) (h2 : leS b c = true) : leS a c = true := by
  unfold leS at *
  simp only [Bool.not_eq_true', decide_eq_false_iff_not, List.not_lt] at *
  exact List.le_trans h1 h2
theorem leS_anti {a b : Str} (h1 : leS a b = true) (h2 : leS b a = true) : a = b := by
  unfold leS at *
  simp only [Bool.not_eq_true', decide_eq_false_iff_not, List.not_lt] at *
  have e := List.le_antisymm h1 h2
  obtain ⟨⟨x⟩⟩ := a
  obtain ⟨⟨y⟩⟩ := b
  simp only at e
  rw [e]
theorem sortedS_pw : ∀ l : List Str, sortedS l = true → l.Pairwise (fun a b => leS a b = true)
  | [], _ => List.Pairwise.nil
  | x :: r, h => by
    have go : ∀ (r : List Str) (x : Str), risingS x r = true → (x :: r).Pairwise (fun a b => leS a b = true) := by
      intro r
      induction r with
      | nil => intro x _; exact List.pairwise_singleton _ _
      | cons y r ih =>
        intro x h
        obtain ⟨h1, h2⟩ := Bool.and_eq_true_iff.mp (show (!ltCps y.cps.toList x.cps.toList && risingS y r) = true from h)
        have hxy : leS x y = true := by
          unfold leS
          rw [← ltCps_eq]
          exact h1
        have p := ih y h2
        refine List.pairwise_cons.mpr ⟨fun z hz => ?_, p⟩
        rcases List.mem_cons.mp hz with rfl | hz
        · exact hxy
        · exact leS_trans _ _ _ hxy (List.rel_of_pairwise_cons p hz)
    exact go r x h
theorem perm_one {l m : List Str} (p : l.Perm m) (h1 : l.Pairwise (fun a b => leS a b = true)) (h2 : m.Pairwise (fun a b => leS a b = true)) : l = m :=
  List.Perm.eq_of_pairwise (le := fun a b => leS a b = true) (fun a b _ _ x y => leS_anti x y) h1 h2 p
def dd : List Str → List Str
  | [] => []
  | x :: r => if x ∈ r then dd r else x :: dd r
theorem mem_dd {x : Str} : ∀ {xs : List Str}, x ∈ dd xs ↔ x ∈ xs
  | [] => by simp [dd]
  | y :: r => by
    have ih := mem_dd (x := x) (xs := r)
    unfold dd
    by_cases h : y ∈ r
    · rw [if_pos h, ih, List.mem_cons]
      exact ⟨.inr, fun z => z.elim (fun e => e ▸ h) id⟩
    · rw [if_neg h, List.mem_cons, List.mem_cons, ih]
theorem dd_nodup : ∀ xs : List Str, (dd xs).Nodup
  | [] => List.nodup_nil
  | y :: r => by
    unfold dd
    by_cases h : y ∈ r
    · rw [if_pos h]
      exact dd_nodup r
    · rw [if_neg h]
      exact List.nodup_cons.mpr ⟨fun z => h (mem_dd.mp z), dd_nodup r⟩
def asc (xs : List Str) : List Str := (dd xs).mergeSort leS
theorem asc_mem {x : Str} {xs : List Str} : x ∈ asc xs ↔ x ∈ xs := by
  unfold asc
  rw [(List.mergeSort_perm _ _).mem_iff]
  exact mem_dd
theorem asc_nodup (xs : List Str) : (asc xs).Nodup := (List.mergeSort_perm _ _).nodup_iff.mpr (dd_nodup xs)
theorem asc_pw (xs : List Str) : (asc xs).Pairwise (fun a b => leS a b = true) := List.pairwise_mergeSort leS_trans leS_total _
theorem asc_is {xs ys l : List Str} (h1 : ys.Perm l) (h2 : sortedS ys = true) (nd : l.Nodup) (m : ∀ x, x ∈ l ↔ x ∈ xs) : ys = asc xs := by
  refine perm_one ?_ (sortedS_pw ys h2) (asc_pw xs)
  refine (List.perm_ext_iff_of_nodup (h1.nodup_iff.mpr nd) (asc_nodup xs)).mpr fun x => ?_
  rw [h1.mem_iff, m x, asc_mem]
theorem asc_congr {xs ys : List Str} (m : ∀ x, x ∈ xs ↔ x ∈ ys) : asc xs = asc ys := by
  refine perm_one ?_ (asc_pw _) (asc_pw _)
  exact (List.perm_ext_iff_of_nodup (asc_nodup xs) (asc_nodup ys)).mpr fun x => by rw [asc_mem, asc_mem, m x]
end Ys
namespace Ys
open PySem PySem.Spec PyProof.Rows L2
section
variable {K : PySem.W.Frag} {P : Program} {w : World} {G H : Hp} {M : List (Addr × HO)} {σ : L2.St} {Q : VK} {QB : Bool → Hp → Prop} {QA : List V → Hp → Prop} {D : Ends} {ta tb te : TE} {tt : TT} {t : TA} {ts : TS} {A : Prop} {v x y : V} {i j : Int} {k : Nat} {a b : Addr} {xs ys vs : List V} {g : TG}
/-! ### calls of what is built in -/
theorem z_lenT (z : Zp G M H) (h : SqT K G a xs) (q : Q (.int xs.length) H) : rLenG K P w [.ref a] H Q := .inl ⟨_, _, rfl, .inr ⟨xs, z.seqT h, rfl⟩, q⟩
theorem z_lenO (z : Zp G M H) (k : Nat) (e : M[k]? = some (a, .lst xs)) (q : Q (.int xs.length) H) : rLenG K P w [.ref a] H Q := .inl ⟨_, _, rfl, .inl ⟨xs, SqL.of (z.at_ k e), rfl⟩, q⟩
theorem z_lenS {s : Str} (hl : s.length ≤ 100000) (q : Q (.int s.length) H) : rLenG K P w [.str s] H Q := .inl ⟨_, _, rfl, ⟨Nat.le_trans hl (by decide), rfl⟩, q⟩
theorem z_lenX {l : List Str} (z : Zp G M H) (h : G a = some (TxO P w a l)) (hl : l.length < 1000) (q : Q (.int l.length) H) : rLenG K P w [.ref a] H Q := .inr ⟨a, l, rfl, z.sub _ _ h, hl, q⟩
theorem z_listG (z : Zp G M H) (h : SqL K G a xs ∨ SqT K G a xs) (q : ∀ p G1 H1, Zp G1 M H1 → Same G G1 → G1 p = some (.lst xs) → Q (.ref p) H1) : rListG K [.ref a] H Q :=
  ⟨a, xs, rfl, h.imp z.seqL z.seqT, fun p hp => q p _ _ (z.new hp _) (Same.new (z.free hp)) upd_same⟩
theorem z_listO (z : Zp G M H) (h : SqL K G a xs ∨ SqT K G a xs) (q : ∀ p H1, Zp G (M ++ [(p, .lst xs)]) H1 → Q (.ref p) H1) : rListG K [.ref a] H Q :=
  ⟨a, xs, rfl, h.imp z.seqL z.seqT, fun p hp => q p _ (z.add hp _)⟩
theorem z_tupL (z : Zp G M H) (h : SqL K G a xs) (q : ∀ p G1 H1, Zp G1 M H1 → Same G G1 → SqT K G1 p xs → Q (.ref p) H1) : rTupG K [.ref a] H Q :=
  ⟨a, xs, rfl, .inl ⟨z.seqL h, fun p hp => q p _ _ (z.new hp _) (Same.new (z.free hp)) (SqT.of upd_same)⟩⟩
theorem z_tupO (z : Zp G M H) (k : Nat) (e : M[k]? = some (a, .lst xs)) (q : ∀ p G1 H1, Zp G1 M H1 → Same G G1 → SqT K G1 p xs → Q (.ref p) H1) : rTupG K [.ref a] H Q :=
  ⟨a, xs, rfl, .inl ⟨SqL.of (z.at_ k e), fun p hp => q p _ _ (z.new hp _) (Same.new (z.free hp)) (SqT.of upd_same)⟩⟩
theorem z_tupT (z : Zp G M H) (h : SqT K G a xs) (q : Q (.ref a) H) : rTupG K [.ref a] H Q := ⟨a, xs, rfl, .inr ⟨z.seqT h, q⟩⟩
theorem z_set {ss : List Str} (z : Zp G M H) (h : SqL K G a (ss.map V.str) ∨ SqT K G a (ss.map V.str)) (hl : ss.length < 1000)
    (q : ∀ p l G1 H1, Zp G1 M H1 → Same G G1 → G1 p = some (TxO P w p l) → (∀ x, x ∈ l ↔ x ∈ ss) → l.Nodup → l.length ≤ ss.length → Q (.ref p) H1) : rSetTx K P w [.ref a] H Q :=
  ⟨a, ss, rfl, h.imp z.seqL z.seqT, hl, fun p l m nd len hp => q p l _ _ (z.new hp _) (Same.new (z.free hp)) upd_same m nd len⟩
theorem z_sortX {l ss : List Str} (z : Zp G M H) (h : G a = some (TxO P w a l)) (m : ∀ x, x ∈ l ↔ x ∈ ss) (nd : l.Nodup) (hl : l.length < 64) (q : ∀ p G1 H1, Zp G1 M H1 → Same G G1 → G1 p = some (.lst ((asc ss).map V.str)) → Q (.ref p) H1) :
    rSortG K P w [.ref a] H Q := .inl ⟨a, l, rfl, z.sub _ _ h, hl, fun ys p pm so hp => by
  rw [asc_is pm so nd m]
  exact q p _ _ (z.new hp _) (Same.new (z.free hp)) upd_same⟩
theorem z_all {bs : List Bool} (z : Zp G M H) (h : SqL K G a (bs.map V.bl)) (q : Q (.bl (bs.all id)) H) : rAllG K [.ref a] H Q := ⟨a, bs, rfl, z.seqL h, q⟩
theorem z_min2 (q : Q (.int (if j < i then j else i)) H) : rMin2 [.int i, .int j] H Q := ⟨i, j, rfl, q⟩
theorem z_repr {d : PyData} (z : Zp G M H) (h : Dt K G x d) (s1 : d.showable = true) (s2 : d.depth ≤ 60) (s3 : d.shown.length ≤ 100000) (q : Q (.str d.shown) H) : rRepr K [x] H Q := ⟨x, d, rfl, z.dt h, s1, s2, Nat.le_trans s3 (by decide), q⟩
/-! methods -/
def TyV (K : PySem.W.Frag) (T : String) (x : V) (H : Hp) (A : Prop) : Prop := tyV K T x H ∧ A
theorem z_bm {T : String} {r : V → List V → Hp → VK → Prop} (h : te σ H fun x H1 => TyV K T x H1 (t σ H1 fun xs H2 => r x xs H2 Q)) : tBM K T r te t σ H Q := h
theorem z_bm0 {T : String} {r : V → List V → Hp → VK → Prop} (h : te σ H fun x H1 => TyV K T x H1 (r x [] H1 Q)) : tBM0 K T r te σ H Q := h
theorem z_tyO (z : Zp G M H) (k : Nat) (e : M[k]? = some (a, .lst xs)) (q : A) : TyV K "list" (.ref a) H A := ⟨.inl ⟨rfl, _, SqL.of (z.at_ k e)⟩, q⟩
theorem z_tyL (z : Zp G M H) (e : SqL K G a xs) (q : A) : TyV K "list" (.ref a) H A := ⟨.inl ⟨rfl, _, z.seqL e⟩, q⟩
theorem z_append (z : Zp G M H) (k : Nat) (e : M[k]? = some (a, .lst xs)) (hl : xs.length ≤ 100000) (q : ∀ H1, Zp G (M.set k (a, .lst (xs ++ [v]))) H1 → Q .non H1) : rAppend (.ref a) [v] H Q :=
  ⟨a, xs, v, rfl, rfl, z.at_ k e, Nat.lt_of_le_of_lt hl (by decide), q _ (z.put k e _)⟩
theorem seqIx {n : Nat} {i : Int} (h0 : 0 ≤ i) (h1 : i < n) : seqIndex? i n = some i.toNat := by
  obtain ⟨k, rfl⟩ := Int.eq_ofNat_of_zero_le h0
  have := atI_get (atI_nat (xs := List.replicate n ()) (j := k) (v := ()) (by
    have : k < n := by omega
    simp [this]))
  obtain ⟨j, e1, e2, e3, _⟩ := this
  rw [List.length_replicate] at e1
  have hk : (ixN n (k : Int)) = some k := by
    unfold ixN
    rw [if_pos (by omega), if_pos h1]
    rfl
  have := (ixN_seq hk).1
  rw [this]
  rfl
theorem z_popAt (z : Zp G M H) (k : Nat) (e : M[k]? = some (a, .lst xs)) (h0 : 0 ≤ i) (h1 : i < xs.length) (hl : xs.length ≤ 100000) (ev : xs[i.toNat]? = some v) (q : ∀ H1, Zp G (M.set k (a, .lst (xs.eraseIdx i.toNat))) H1 → Q v H1) :
    rPopAt (.ref a) [.int i] H Q := ⟨a, xs, i, i.toNat, v, rfl, rfl, z.at_ k e, by omega, by omega, seqIx h0 h1, ev, q _ (z.put k e _)⟩
theorem z_extend {b : Addr} (z : Zp G M H) (k : Nat) (e : M[k]? = some (a, .lst xs)) (h : G b = some (.lst ys)) (hl : xs.length + ys.length ≤ 100000) (q : ∀ H1, Zp G (M.set k (a, .lst (xs ++ ys))) H1 → Q .non H1) : rExtend (.ref a) [.ref b] H Q :=
  ⟨a, b, xs, ys, rfl, rfl, z.at_ k e, z.sub _ _ h, Nat.le_trans hl (by decide), q _ (z.put k e _)⟩
def IsS (x : V) (A : Prop) : Prop := (∃ a, x = .str a) ∧ A
theorem z_m1 {r : V → List V → Hp → VK → Prop} (h : ta σ H fun x H1 => IsS x (te σ H1 fun y H2 => r x [y] H2 Q)) : tM1 r ta te σ H Q := h
theorem z_isS {s : Str} (q : A) : IsS (.str s) A := ⟨⟨s, rfl⟩, q⟩
def rJoin (K : PySem.W.Frag) : V → List V → Hp → VK → Prop := fun x xs H Q => ∃ a p, ∃ ys : List Str, x = .str a ∧ xs = [.ref p] ∧ (SqL K H p (ys.map V.str) ∨ SqT K H p (ys.map V.str)) ∧ (ys.map (·.length)).sum + ys.length * a.length ≤ 16777216 ∧ Q (.str (Txt.join a ys)) H
theorem z_join {s : Str} {ss : List Str} (z : Zp G M H) (h : SqL K G a (ss.map V.str)) (hl : (ss.map (·.length)).sum + ss.length * s.length ≤ 100000) (q : Q (.str (Txt.join s ss)) H) : rJoin K (.str s) [.ref a] H Q :=
  ⟨s, a, ss, rfl, rfl, .inl (z.seqL h), Nat.le_trans hl (by decide), q⟩
/-! ### targets of several names -/
def UnpT (K : PySem.W.Frag) (n : Nat) (t : TGs) (v : V) (σ : L2.St) (H : Hp) (R : L2.St → Hp → Prop) : Prop := gTup K n t v σ H R
theorem z_gtup {n : Nat} {u : TGs} {R : L2.St → Hp → Prop} (z : Zp G M H) (h : SqT K G a xs) (hl : xs.length = n) (q : u xs σ H R) : gTup K n u (.ref a) σ H R := ⟨a, xs, rfl, z.seqT h, hl, q⟩
theorem z_gunl {n : Nat} {u : TGs} {R : L2.St → Hp → Prop} (z : Zp G M H) (h : SqL K G a xs) (hl : xs.length = n) (q : u xs σ H R) : gUnl K n u (.ref a) σ H R := ⟨a, xs, rfl, z.seqL h, hl, q⟩
theorem z_gnil {R : L2.St → Hp → Prop} (q : R σ H) : gNil [] σ H R := ⟨rfl, q⟩
theorem z_gcons {u : TGs} {R : L2.St → Hp → Prop} (q : g v σ H fun σ' H' => u xs σ' H' R) : gCons g u (v :: xs) σ H R := ⟨v, xs, rfl, q⟩
/-! ### what is walked -/
structure Src (J : It) (xs : List V) (OK : Hp → Prop) : Prop where
  go : ∀ i H, OK H → i < xs.length → J.go i H
  stop : ∀ i H, OK H → xs.length ≤ i → J.stop i H
  yld : ∀ i H x H', OK H → i < xs.length → J.yld i H x H' → H' = H ∧ xs[i]? = some x
theorem src_L {xs : List V} : Src (Itl K a) xs (fun H => SqL K H a xs) where
  go := fun i H h hi => ⟨xs, xs[i], h, by simp [hi]⟩
  stop := fun i H h hi => ⟨xs, h, hi⟩
  yld := fun i H x H' h _ y => ⟨y.1, y.2 xs h⟩
theorem src_T {xs : List V} : Src (Itt K a) xs (fun H => SqT K H a xs) where
  go := fun i H h hi => ⟨xs, xs[i], h, by simp [hi]⟩
  stop := fun i H h hi => ⟨xs, h, hi⟩
  yld := fun i H x H' h _ y => ⟨y.1, y.2 xs h⟩
def rngV (lo : Int) (n : Nat) : List V := (List.range n).map fun (i : Nat) => V.int (lo + (i : Int))
theorem rngV_len (lo : Int) (n : Nat) : (rngV lo n).length = n := by simp [rngV]
theorem src_R {lo : Int} {n : Nat} : Src (Itr lo n) (rngV lo n) (fun _ => True) where
  go := fun i H _ hi => by rw [rngV_len] at hi; exact hi
  stop := fun i H _ hi => by rw [rngV_len] at hi; exact hi
  yld := fun i H x H' _ hi y => ⟨y.1, by
    rw [rngV_len] at hi
    rw [y.2]
    simp [rngV, hi]⟩
def chrV (s : Str) : List V := s.cps.toList.map fun c => V.str ⟨#[c]⟩
theorem chrV_len (s : Str) : (chrV s).length = s.length := by simp [chrV]; rfl
theorem src_S {s : Str} : Src (Its s) (chrV s) (fun _ => True) where
  go := fun i H _ hi => by rw [chrV_len] at hi; exact hi
  stop := fun i H _ hi => by rw [chrV_len] at hi; exact hi
  yld := fun i H x H' _ _ y => by
    obtain ⟨e, c, h1, h2⟩ := y
    refine ⟨e, ?_⟩
    unfold chrV
    rw [List.getElem?_map, Array.getElem?_toList, h1, h2]
    rfl
/-! ### for -/
def ForW (J : It) (g : TG) (tb : TS) (D : Ends) (σ : L2.St) (H : Hp) : Prop := ∃ W : Nat → Nat → L2.St → Hp → Prop, (∃ m, W 0 m σ H) ∧ ∀ i m σ H, W i m σ H →
  (J.stop i H ∧ D.nx σ H) ∨ (J.go i H ∧ ∃ N : L2.St → Hp → Prop, (∀ σ' H', N σ' H' → ∃ m', m' < m ∧ W (i + 1) m' σ' H') ∧ ∀ x H', J.yld i H x H' → g x σ H' fun σ2 H2 => tb { D with nx := N, ct := N, bk := D.nx } σ2 H2)
theorem z_for {wi : TI} {tb : TS} (h : wi σ H fun J H1 => ForW J g tb D σ H1) : tFor wi g tb D σ H := h
theorem for_src {J : It} {tb : TS} {OK : Hp → Prop} (S : Src J xs OK) (I : Nat → L2.St → Hp → List (Addr × HO) → Prop) (z : Zp G M H) (h0 : I 0 σ G M) (ok : ∀ i σ G M H, I i σ G M → Zp G M H → OK H)
    (turn : ∀ i x σ G M H, xs[i]? = some x → I i σ G M → Zp G M H → g x σ H fun σ2 H2 => tb ⟨fun σ' H' => ∃ G' M', Zp G' M' H' ∧ I (i + 1) σ' G' M', D.rt, D.nx, fun σ' H' => ∃ G' M', Zp G' M' H' ∧ I (i + 1) σ' G' M'⟩ σ2 H2)
    (done : ∀ σ G M H, I xs.length σ G M → Zp G M H → D.nx σ H) : ForW J g tb D σ H := by
  refine ⟨fun i m σ H => m = xs.length - i ∧ i ≤ xs.length ∧ ∃ G M, Zp G M H ∧ I i σ G M, ⟨xs.length, by simp, Nat.zero_le _, G, M, z, h0⟩, ?_⟩
  rintro i m σ H ⟨rfl, hi, G, M, z, h⟩
  have o := ok i σ G M H h z
  by_cases c : i < xs.length
  · refine .inr ⟨S.go i H o c, fun σ' H' => ∃ G' M', Zp G' M' H' ∧ I (i + 1) σ' G' M', fun σ' H' q => ⟨xs.length - (i + 1), by omega, rfl, c, q⟩, fun x H' y => ?_⟩
    obtain ⟨rfl, e⟩ := S.yld i H x H' o c y
    exact turn i x σ G M H' e h z
  · obtain rfl : i = xs.length := by omega
    exact .inl ⟨S.stop _ H o (Nat.le_refl _), done σ G M H h z⟩
/-! ### comprehensions -/
def LcW (J : It) (g : TG) (tt : TT) (te : TE) (ws : List Nat) (σ : L2.St) (H1 : Hp) (Q : VK) : Prop := ∀ D, H1 D = none → ∃ W : Nat → Nat → Hp → Prop, (∃ m, W 0 m (upd H1 D (.lst []))) ∧ ∀ i m H, W i m H →
  (J.stop i H ∧ Q (.ref D) H) ∨ (J.go i H ∧ ∃ Nx : Hp → Prop, (∀ H', Nx H' → ∃ m', m' < m ∧ W (i + 1) m' H') ∧ ∀ x H', J.yld i H x H' → g x (wipe σ ws) H' fun σ2 H2 => wipe σ2 ws = wipe σ ws ∧ tt σ2 H2 fun b H3 =>
    if b = true then te σ2 H3 fun y H4 => ∃ acc, H4 D = some (.lst acc) ∧ acc.length < sizeLine ∧ Nx (upd H4 D (.lst (acc ++ [y]))) else Nx H3)
theorem z_lc {wi : TI} {ws : List Nat} (h : wi σ H fun J H1 => LcW J g tt te ws σ H1 Q) : tLc wi g tt te ws σ H Q := h
def Kept (I : Hp → List (Addr × HO) → List V → Prop) (D : Addr) (H : Hp) : Prop := ∃ G M acc, Zp G (M ++ [(D, .lst acc)]) H ∧ I G M acc
def Laid (I : Hp → List (Addr × HO) → List V → Prop) (D : Addr) (y : V) (H : Hp) : Prop := ∃ acc, H D = some (.lst acc) ∧ acc.length < sizeLine ∧ Kept I D (upd H D (.lst (acc ++ [y])))
theorem last_at {M : List (Addr × HO)} {p : Addr × HO} : (M ++ [p])[M.length]? = some p := by simp
theorem z_laid {I : Hp → List (Addr × HO) → List V → Prop} {Dl : Addr} {acc : List V} (z : Zp G (M ++ [(Dl, .lst acc)]) H) (hl : acc.length ≤ 100000) (q : I G M (acc ++ [y])) : Laid I Dl y H := by
  refine ⟨acc, z.at_ M.length last_at, Nat.lt_of_le_of_lt hl (by decide), G, M, acc ++ [y], ?_, q⟩
  have := z.put M.length last_at (.lst (acc ++ [y]))
  rw [List.set_append_right _ _ (Nat.le_refl _), Nat.sub_self] at this
  exact this
theorem z_left {I : Hp → List (Addr × HO) → List V → Prop} {Dl : Addr} {acc : List V} (z : Zp G (M ++ [(Dl, .lst acc)]) H) (q : I G M acc) : Kept I Dl H := ⟨G, M, acc, z, q⟩
theorem lc_src {J : It} {ws : List Nat} {OK : Hp → Prop} (S : Src J xs OK) (I : Nat → Hp → List (Addr × HO) → List V → Prop) (z : Zp G M H) (h0 : I 0 G M []) (ok : ∀ i G M M1 acc H, I i G M acc → Zp G (M ++ M1) H → OK H)
    (turn : ∀ i x G M acc Dl H, xs[i]? = some x → I i G M acc → Zp G (M ++ [(Dl, .lst acc)]) H → g x (wipe σ ws) H fun σ2 H2 => wipe σ2 ws = wipe σ ws ∧ tt σ2 H2 fun b H3 =>
      Bif b (te σ2 H3 fun y H4 => Laid (I (i + 1)) Dl y H4) (Kept (I (i + 1)) Dl H3))
    (done : ∀ p G M acc G1 H1, I xs.length G M acc → Same G G1 → Zp G1 M H1 → G1 p = some (.lst acc) → Q (.ref p) H1) : LcW J g tt te ws σ H Q := by
  intro Dl hD
  refine ⟨fun i m H => m = xs.length - i ∧ i ≤ xs.length ∧ Kept (I i) Dl H, ⟨xs.length, by simp, Nat.zero_le _, G, M, [], z.add hD _, h0⟩, ?_⟩
  rintro i m H ⟨rfl, hi, G, M, acc, z, h⟩
  have o := ok i G M _ acc H h z
  by_cases c : i < xs.length
  · refine .inr ⟨S.go i H o c, Kept (I (i + 1)) Dl, fun H' q => ⟨xs.length - (i + 1), by omega, rfl, c, q⟩, fun x H' y => ?_⟩
    obtain ⟨rfl, e⟩ := S.yld i H x H' o c y
    exact turn i x G M acc Dl H' e h z
  · obtain rfl : i = xs.length := by omega
    refine .inl ⟨S.stop _ H o (Nat.le_refl _), done Dl G M acc _ H h (Same.new ?_) z.fix upd_same⟩
    exact (z.own M.length _ _ last_at).2
theorem z_yes (q : QB true H) : tYes σ H QB := q
/-! what a for or a comprehension begins with -/
def ItL (K : PySem.W.Frag) (x : V) (H : Hp) (R : It → Hp → Prop) : Prop := ∃ a, x = .ref a ∧ (∃ xs, SqL K H a xs) ∧ R (Itl K a) H
def ItT (K : PySem.W.Frag) (x : V) (H : Hp) (R : It → Hp → Prop) : Prop := ∃ a, x = .ref a ∧ (∃ xs, SqT K H a xs) ∧ R (Itt K a) H
def ItS (x : V) (H : Hp) (R : It → Hp → Prop) : Prop := ∃ s, x = .str s ∧ R (Its s) H
def ItR (vs : List V) (H : Hp) (R : It → Hp → Prop) : Prop := ∃ j : Int, vs = [.int j] ∧ -(2 ^ 62) ≤ j ∧ j < 2 ^ 62 ∧ R (Itr 0 j.toNat) H
variable {R : It → Hp → Prop}
theorem z_iL (h : te σ H fun x H1 => ItL K x H1 R) : iList K te σ H R := h
theorem z_iT (h : te σ H fun x H1 => ItT K x H1 R) : iTup K te σ H R := h
theorem z_iS (h : te σ H fun x H1 => ItS x H1 R) : iStr te σ H R := h
theorem z_iR (h : t σ H fun vs H1 => ItR vs H1 R) : iRng1 t σ H R := h
theorem z_itL (z : Zp G M H) (h : SqL K G a xs) (q : R (Itl K a) H) : ItL K (.ref a) H R := ⟨a, rfl, ⟨xs, z.seqL h⟩, q⟩
theorem z_itT (z : Zp G M H) (h : SqT K G a xs) (q : R (Itt K a) H) : ItT K (.ref a) H R := ⟨a, rfl, ⟨xs, z.seqT h⟩, q⟩
theorem z_itS {s : Str} (q : R (Its s) H) : ItS (.str s) H R := ⟨s, rfl, q⟩
theorem z_itR {j : Int} (h0 : -(2 ^ 62) ≤ j) (h1 : j < 2 ^ 62) (q : R (Itr 0 j.toNat) H) : ItR [.int j] H R := ⟨j, rfl, h0, h1, q⟩
/-! ### a call of a def of the module -/
structure Own (P : Program) (w : World) (K : PySem.W.Frag) (mg : Str → Option Value) (base : Heap) (CX : CXT) (k : Nat) (x : Str) (ps : List Str) (sp : Sp) : Prop where
  ex : ∃ f fd, FnOk P w K mg base CX k f fd ps sp ∧ mg x = some (.ref f) ∧ PySem.W.keepIn K (.ref f) = true ∧ Binds K fd ps []
theorem pe_own {X : Cx} {CX : CXT} {k : Nat} {x : Str} {ps : List Str} {sp : Sp} {E : XK} {p pos : Pos} {e : Expr} {es : List Expr} {t : TA} (C : Own X.prog X.w X.K X.mg X.base CX k x ps sp) (hr : Room k X.A) (hg : Gl X x) (hx : Passes CX X E) (ha : PA X (e :: es) t)
    (hdb : (x == ("__debug__" : Str)) = false := by decide) (he : starEach (e :: es) X.env = (false, eval e X.env) :: starEach es X.env := by rfl) (hpl : (backTo pos (starEach es X.env)).any (·.1) = false := by rfl) :
    PE X (.Call (.Name x p) (e :: es) [] pos) (tCall sp [] E t) := by
  refine ⟨fun pins s σ H Q I h => ?_⟩
  obtain ⟨f, fd, F, hm, hk, hb⟩ := C.ex
  exact (pe_call F hr hg hm hk hb .nil hx ha hdb he hpl).run pins s σ H Q I h
end
end Ys
namespace Ys
open PySem PySem.Spec PyProof.Rows L2
section
variable {K : PySem.W.Frag} {P : Program} {w : World} {G G1 H : Hp} {M M1 : List (Addr × HO)} {σ : L2.St} {Q : VK} {QB : Bool → Hp → Prop} {D : Ends} {tc : TT} {tb t1 t2 : TS} {A B : Prop} {v x y : V} {i j : Int} {a b p : Addr} {xs ys vs : List V} {o : HO} {u : Addr × HO}
theorem Zp.perm (z : Zp G M H) (h : M.Perm M1) : Zp G M1 H where
  sub := z.sub
  own := fun i q o e => by
    obtain ⟨j, hj⟩ := List.getElem?_of_mem (h.mem_iff.mpr (List.mem_of_getElem? e))
    exact z.own j q o hj
  nd := (h.map _).nodup_iff.mp z.nd
theorem Zp.keep (z : Zp G M H) (h : M1.Sublist M) : Zp G M1 H where
  sub := z.sub
  own := fun i q o e => by
    obtain ⟨j, hj⟩ := List.getElem?_of_mem (h.subset (List.mem_of_getElem? e))
    exact z.own j q o hj
  nd := (h.map _).nodup z.nd
theorem Zp.addP (z : Zp G (u :: M) H) (h : H p = none) (o : HO) : Zp G (u :: (p, o) :: M) (upd H p o) :=
  (z.add h o).perm (by
    rw [List.cons_append]
    exact List.Perm.cons _ (List.perm_append_comm (l₁ := M) (l₂ := [(p, o)])))
theorem Zp.drop2 (z : Zp G (u :: (p, o) :: M) H) : Zp G (u :: M) H :=
  Zp.cut (M := u :: M) (M1 := [(p, o)]) (z.perm (by
    rw [List.cons_append]
    exact List.Perm.cons _ (List.perm_append_comm (l₁ := [(p, o)]) (l₂ := M))))
theorem Zp.fix2 (z : Zp G (u :: (p, o) :: M) H) : Zp (upd G p o) (u :: M) H ∧ G p = none :=
  have z2 : Zp G ((u :: M) ++ [(p, o)]) H := z.perm (by
    rw [List.cons_append]
    exact List.Perm.cons _ (List.perm_append_comm (l₁ := [(p, o)]) (l₂ := M)))
  ⟨z2.fix, (z2.own (u :: M).length p o (by simp)).2⟩
theorem z_listP (z : Zp G (u :: M) H) (h : SqL K G a xs ∨ SqT K G a xs) (q : ∀ p H1, Zp G (u :: (p, .lst xs) :: M) H1 → Q (.ref p) H1) : rListG K [.ref a] H Q :=
  ⟨a, xs, rfl, h.imp z.seqL z.seqT, fun p hp => q p _ (z.addP hp _)⟩
theorem z_ownP (z : Zp G (u :: M) H) (hl : xs.length ≤ 100000) (q : ∀ p H1, Zp G (u :: (p, .lst xs) :: M) H1 → Q (.ref p) H1) : NewL xs H Q :=
  ⟨Nat.le_trans hl (by decide), fun p hp => q p _ (z.addP hp _)⟩
theorem z_bd {p : Prop} {i : Decidable p} (h1 : p → A) (h2 : ¬ p → B) : Bif (@decide p i) A B := z_bD h1 h2
theorem z_cut (I : L2.St → Hp → Prop) (h1 : ∀ nx, (∀ σ H, I σ H → nx σ H) → t1 ⟨nx, D.rt, D.bk, D.ct⟩ σ H) (h2 : ∀ σ H, I σ H → t2 D σ H) : tSeq t1 t2 D σ H := h1 (t2 D) h2
theorem mw (h1 : -18446744073709551616 < i) (h2 : i < 18446744073709551616) (h3 : -18446744073709551616 < j) (h4 : j < 18446744073709551616) : CMulW i j := wide_mul (a := 64) (b := 64) (by omega) (by omega) (by decide) (by decide) (by decide)
theorem dw (h1 : 0 < j) (h2 : j ≤ 1000000000) : CDivW i j := wide_div (b := 30) h1 (by omega) (by decide) (by decide)
def Par2 (k l : Nat) (D : Ends) (σ : L2.St) (vs : List V) (H1 : Hp) : Prop := ∃ v w, vs = [v, w] ∧ D.nx ((σ.set k (some v)).set l (some w)) H1
theorem z_pr {k l : Nat} {t : TA} (h : t σ H (Par2 k l D σ)) : tPar k l t D σ H := h
theorem z_pr2 {k l : Nat} (q : D.nx ((σ.set k (some x)).set l (some y)) H) : Par2 k l D σ [x, y] H := ⟨x, y, rfl, q⟩
theorem rng_at {lo : Int} {n k : Nat} {x : V} (h : (rngV lo n)[k]? = some x) : k < n ∧ x = .int (lo + (k : Int)) := by
  have hi := (List.getElem?_eq_some_iff.mp h).1
  rw [rngV_len] at hi
  refine ⟨hi, ?_⟩
  unfold rngV at h
  rw [List.getElem?_map, List.getElem?_range hi] at h
  exact (Option.some.inj h).symm
/-! ### while -/
def WhB (I : Nat → L2.St → Hp → List (Addr × HO) → Prop) (n : Nat) (tb : TS) (D : Ends) (σ : L2.St) (b : Bool) (H1 : Hp) : Prop :=
  if b = true then ∃ N : L2.St → Hp → Prop, (∀ σ' H', N σ' H' → ∃ m', m' < n ∧ ∃ G M, Zp G M H' ∧ I m' σ' G M) ∧ tb { D with nx := N, ct := N, bk := D.nx } σ H1 else D.nx σ H1
theorem z_while (I : Nat → L2.St → Hp → List (Addr × HO) → Prop) (n : Nat) (z : Zp G M H) (h0 : I n σ G M) (turn : ∀ n σ G M H, I n σ G M → Zp G M H → tc σ H (WhB I n tb D σ)) : tWhile tc tb D σ H :=
  ⟨fun m σ H => ∃ G M, Zp G M H ∧ I m σ G M, ⟨n, G, M, z, h0⟩, fun m σ H ⟨G, M, z, h⟩ => turn m σ G M H h z⟩
theorem z_whT {I : Nat → L2.St → Hp → List (Addr × HO) → Prop} {n : Nat} (h : tb ⟨fun σ' H' => ∃ m', m' < n ∧ ∃ G M, Zp G M H' ∧ I m' σ' G M, D.rt, D.nx, fun σ' H' => ∃ m', m' < n ∧ ∃ G M, Zp G M H' ∧ I m' σ' G M⟩ σ H) : WhB I n tb D σ true H := by
  unfold WhB
  rw [if_pos rfl]
  exact ⟨_, fun _ _ h => h, h⟩
theorem z_whF {I : Nat → L2.St → Hp → List (Addr × HO) → Prop} {n : Nat} (h : D.nx σ H) : WhB I n tb D σ false H := by
  unfold WhB
  rw [if_neg Bool.false_ne_true]
  exact h
/-! ### data -/
theorem dts_int : ∀ cells : List Int, Dts K G (cells.map V.int) (cells.map PyData.int)
  | [] => .nil
  | c :: cs => .cons (.int c) (dts_int cs)
theorem dts_str : ∀ ss : List Str, Dts K G (ss.map V.str) (ss.map PyData.str)
  | [] => .nil
  | c :: cs => .cons (.str c) (dts_str cs)
def El (K : PySem.W.Frag) (G : Hp) (v : V) : Prop := ∃ d, Dt K G v d ∧ d.canLay0 = true ∧ d.depth ≤ 60
theorem El.up (s : Same G G1) : El K G v → El K G1 v := fun ⟨d, h, c⟩ => ⟨d, h.up s, c⟩
theorem El.str {s : Str} (h : PyData.strOk s = true) : El K G (.str s) := ⟨.str s, .str s, h, Nat.zero_le _⟩
theorem El.int (i : Int) : El K G (.int i) := ⟨.int i, .int i, rfl, Nat.zero_le _⟩
theorem El.non : El K G .non := ⟨.none, .non, rfl, Nat.zero_le _⟩
theorem El.all : ∀ {xs : List V}, (∀ v ∈ xs, El K G v) → ∃ ds, Dts K G xs ds ∧ PyData.canLayAll0 ds = true ∧ PyData.depthAll ds ≤ 60 ∧ (ds = [] ↔ xs = [])
  | [], _ => ⟨[], .nil, rfl, by decide, by simp⟩
  | x :: xs, h => by
    obtain ⟨d, h1, h2, h3⟩ := h x (List.mem_cons_self ..)
    obtain ⟨ds, g1, g2, g3, _⟩ := El.all (xs := xs) fun v hv => h v (List.mem_cons_of_mem _ hv)
    refine ⟨d :: ds, .cons h1 g1, ?_, ?_, by simp⟩
    · show (d.canLay0 && PyData.canLayAll0 ds) = true
      rw [h2, g2]
      rfl
    · show max d.depth (PyData.depthAll ds) ≤ 60
      omega
theorem shp {ds : List PyData} (c : PyData.canLayAll0 ds = true) (d : PyData.depthAll ds ≤ 60) : SeqAt.shaped (.list ds) = true := by
  unfold SeqAt.shaped
  have e : PyData.canLay0 (.list ds) = true := c
  have e2 : PyData.depth (.list ds) = PyData.depthAll ds + 1 := rfl
  rw [e, e2]
  simp
  omega
theorem shpT {ds : List PyData} (c : PyData.canLayAll0 ds = true) (d : PyData.depthAll ds ≤ 60) : SeqAt.shaped (.tuple ds) = true := by
  unfold SeqAt.shaped
  have e : PyData.canLay0 (.tuple ds) = true := c
  have e2 : PyData.depth (.tuple ds) = PyData.depthAll ds + 1 := rfl
  rw [e, e2]
  simp
  omega
theorem z_neNil (hl : SqL K H a xs) (h2 : H b = some (.lst [])) (q : Q (.bl (decide (xs ≠ []))) H) : rNeG K (.ref a) (.ref b) H Q := by
  cases xs with
  | nil => exact .inr (.inl ⟨.list [], .list [], Dt.dp _ _ rfl (.lst hl .nil), Dt.dp _ _ rfl (.lst (SqL.of h2) .nil), rfl, rfl, q⟩)
  | cons x xs => exact .inr (.inr ⟨a, b, _, [], rfl, rfl, hl, SqL.of h2, by simp, q⟩)
theorem z_eqNil (hl : SqL K H a xs) (h2 : H b = some (.lst [])) (q : Q (.bl (decide (xs = []))) H) : rEqG K (.ref a) (.ref b) H Q := by
  cases xs with
  | nil => exact .inr (.inl ⟨.list [], .list [], Dt.dp _ _ rfl (.lst hl .nil), Dt.dp _ _ rfl (.lst (SqL.of h2) .nil), rfl, rfl, q⟩)
  | cons x xs => exact .inr (.inr ⟨a, b, _, [], rfl, rfl, hl, SqL.of h2, by simp, q⟩)
/-! ### a dict that is written down -/
variable {ps : List (V × V)} {tk tv : TE} {trs : List (TE × TE)} {QP : List (V × V) → Hp → Prop}
def DispE (p : Addr) (ps : List (V × V)) (H : Hp) (Q : VK) : Prop := H p = some (.dK []) ∧ ∃ kvs : List (Key × V), ps = kvs.map (fun kv => (kV kv.1, kv.2)) ∧ kvs.length ≤ 15 ∧ Q (.ref p) (upd H p (.dK (mergeK [] kvs)))
theorem z_disp (z : Zp G M H) (h : ∀ p H1, Zp G (M ++ [(p, .dK [])]) H1 → tPairs trs σ H1 fun ps H2 => DispE p ps H2 Q) : tDisp trs σ H Q := fun p hp => h p _ (z.add hp _)
theorem z_pn (q : QP [] H) : tPairs [] σ H QP := q
theorem z_pc (h : tk σ H fun x H1 => tv σ H1 fun y H2 => tPairs trs σ H2 fun ps H3 => QP ((x, y) :: ps) H3) : tPairs ((tk, tv) :: trs) σ H QP := h
theorem z_dispE (z : Zp G (M ++ [(p, .dK [])]) H) (kvs : List (Key × V)) (e : ps = kvs.map (fun kv => (kV kv.1, kv.2))) (hl : kvs.length ≤ 15) (q : ∀ H3, Zp G (M ++ [(p, .dK (mergeK [] kvs))]) H3 → Q (.ref p) H3) : DispE p ps H Q := by
  refine ⟨z.at_ M.length last_at, kvs, e, hl, q _ ?_⟩
  have := z.put M.length last_at (.dK (mergeK [] kvs))
  rw [List.set_append_right _ _ (Nat.le_refl _), Nat.sub_self] at this
  exact this
/-! ### looks into lists -/
theorem at_in {α : Type} {xs : List α} {i : Int} (h0 : 0 ≤ i) (h1 : i < xs.length) : ∃ v, v ∈ xs ∧ atI xs i = some v := by
  obtain ⟨k, rfl⟩ := Int.eq_ofNat_of_zero_le h0
  have hk : k < xs.length := by omega
  exact ⟨xs[k], List.getElem_mem hk, atI_nat (by simp [hk])⟩
theorem cut_map {α : Type} (f : α → V) (xs : List α) (lo hi : Option Int) : cutV (xs.map f) lo hi = ((xs.drop (HT.sIx xs.length 0 lo)).take (HT.sIx xs.length xs.length hi - HT.sIx xs.length 0 lo)).map f := by
  unfold cutV
  rw [List.length_map, List.map_take, List.map_drop]
end
end Ys
namespace Ys
open PySem PySem.Spec PyProof.Rows L2 TL
theorem erase_perm {α : Type} : ∀ {zs : List α} {k : Nat} (h : k < zs.length), (zs[k] :: zs.eraseIdx k).Perm zs
  | x :: xs, 0, _ => List.Perm.refl _
  | x :: xs, k + 1, h => by
    show (xs[k]'(by simpa using h) :: x :: xs.eraseIdx k).Perm (x :: xs)
    exact (List.Perm.swap _ _ _).trans (List.Perm.cons _ (erase_perm (by simpa using h)))
/-! ### words -/
def Lt (s : Str) : Prop := ∀ c ∈ s.cps.toList, 97 ≤ c ∧ c ≤ 122
def Wd (s : Str) : Prop := 1 ≤ s.length ∧ s.length ≤ 8 ∧ Lt s
theorem Lt.app {x y : Str} (hx : Lt x) (hy : Lt y) : Lt (x ++ y) := fun c hc => by
  have e : (x ++ y).cps.toList = x.cps.toList ++ y.cps.toList := by
    show (x.cps ++ y.cps).toList = _
    rw [Array.toList_append]
  rw [e] at hc
  rcases List.mem_append.mp hc with h | h
  · exact hx c h
  · exact hy c h
theorem Lt.cut {x : Str} (hx : Lt x) (lo hi : Option Int) : Lt (cutS x lo hi) := fun c hc => hx c (List.mem_of_mem_drop (List.mem_of_mem_take (by simpa [cutS] using hc)))
theorem len_app (x y : Str) : (x ++ y).length = x.length + y.length := PySem.Str.length_append x y
theorem Lt.one {c : Nat} (h : 97 ≤ c ∧ c ≤ 122) : Lt ⟨#[c]⟩ := fun d hd => by
  obtain rfl : d = c := by simpa using hd
  exact h
theorem Lt.ok {s : Str} (h : Lt s) : PyData.strOk s = true := by
  unfold PyData.strOk
  rw [Array.all_eq_true_iff_forall_mem]
  intro c hc
  have := (h c (by simpa using hc)).2
  exact decide_eq_true (by omega)
theorem abc_mem {c : Nat} (h : c ∈ (("abcdefghijklmnopqrstuvwxyz" : Str)).cps.toList) : 97 ≤ c ∧ c ≤ 122 := by
  have e : (("abcdefghijklmnopqrstuvwxyz" : Str)).cps.toList = (List.range 26).map (· + 97) := by decide +kernel
  rw [e] at h
  obtain ⟨k, hk, rfl⟩ := List.mem_map.mp h
  have := List.mem_range.mp hk
  omega
theorem abc_len : (("abcdefghijklmnopqrstuvwxyz" : Str)).length = 26 := by decide +kernel
theorem joinL0 : ∀ {ps : List (List Nat)} {c : Nat}, c ∈ joinL [] ps → ∃ p ∈ ps, c ∈ p
  | [], _, h => by simp [joinL] at h
  | [p], _, h => ⟨p, by simp, by simpa [joinL] using h⟩
  | p :: q :: r, c, h => by
    have h' : c ∈ p ++ ([] ++ joinL [] (q :: r)) := by simpa [joinL] using h
    rcases List.mem_append.mp h' with h | h
    · exact ⟨p, by simp, h⟩
    · obtain ⟨x, hx, hc⟩ := joinL0 (ps := q :: r) (by simpa using h)
      exact ⟨x, List.mem_cons_of_mem _ hx, hc⟩
theorem Lt.join {ss : List Str} (h : ∀ s ∈ ss, Lt s) : Lt (Txt.join "" ss) := fun c hc => by
  have e : (Txt.join "" ss).cps.toList = joinL (tl ("" : Str)) (ss.map tl) := by
    rw [join_eq]
    exact tl_join "" ss
  have e0 : tl ("" : Str) = [] := by decide +kernel
  rw [e, e0] at hc
  obtain ⟨p, hp, hc⟩ := joinL0 hc
  obtain ⟨s, hs, rfl⟩ := List.mem_map.mp hp
  exact h s hs c hc
theorem cutS_len (x : Str) (lo hi : Option Int) : (cutS x lo hi).length = HT.sIx x.length x.length hi - HT.sIx x.length 0 lo := by
  have h2 := HT.sIx_le x.length x.length (Nat.le_refl _) hi
  show ((((x.cps.toList.drop (HT.sIx x.length 0 lo)).take (HT.sIx x.length x.length hi - HT.sIx x.length 0 lo)).toArray).size) = _
  rw [List.size_toArray, List.length_take, List.length_drop, Array.length_toList]
  show min _ (x.length - _) = _
  omega
section
variable {X : Cx} {o e : Expr} {to te : TE}
theorem pe_joinG {apos pos : Pos} (ho : PE X o to) (he : PE X e te) (hs : starEach [e] X.env = [(false, eval e X.env)] := by rfl) (hbase : attributeBase o "join" X.env (eval o X.env) = eval o X.env := by rfl) (hline : (apos.endLine == pos.line) = true := by rfl) :
    PE X (.Call (.Attribute o "join" apos) [e] [] pos) (tM1 (rJoin X.K) to te) := pe_join ho he hs hbase hline
end
end Ys
namespace Ys
open PySem PySem.Spec PyProof.Rows L2
section
variable {M : Model} {prog : Program} {w : World} {A : Around} {E : Value → Shared → Prop} {s : Shared} {K : PySem.W.Frag} {x C f : Addr} {ox : Obj} {od : Option Obj} {b tb : Value}
theorem ifBound_objNe {args : List Value} {Q : Option Value → Shared → Prop} (X : K.In s.heap) (I : PySem.W.InstAt s.heap x ox C od) (hs : PySem.W.findIn K (.ref C) "__ne__" = some (some (.builtin "object.__ne__")))
    (h : wpAny M A (call (.builtin "object.__ne__") (.ref x :: args)) (fun v => Q (some v)) E s) : wpAny M A (callSpecialIfBound? (.ref x) "__ne__" args) Q E s := by
  simp only [callSpecialIfBound?, bindSpecialIfBound?]
  refine wpAny_holding (wpAny_bind (wpAny_bind (wpAny_bind (I.type.here ((PySem.W.looks_findIn X hs).here ?_)))))
  refine wpAny_bind (wpAny_askSetting (wpAny_ite ?_))
  have fin : wpAny M A (call (.builtin "object.__ne__") ([.ref x] ++ args) >>= fun v => pure (some v)) Q E s := wpAny_bind (wpAny_mono h (fun v s' h' => wpAny_pure h') fun _ _ h' => h')
  split
  · exact wpAny_bind (wpAny_of_eq (F.cmp_object.ne.bind _) (wpAny_pure (by exact fin)))
  · exact wpAny_tryCatch (wpAny_bind (wpAny_of_eq (F.cmp_object.ne.bind _) (wpAny_pure (by exact fin))))
def BackB (Q : Bool → Shared → Prop) (v : Value) (s' : Shared) : Prop := ∃ r, v = .bool r ∧ Q r s'
theorem ne_K {Q : Value → Shared → Prop} (hu : A.units + 1 < cLine) (X : K.In s.heap) (I : PySem.W.InstAt s.heap x ox C od) (hb : PySem.W.Looks (model prog w) s.heap (typeOf b) tb) (hn : PySem.W.notFirst K C tb = true)
    (hm : PySem.W.mroIn K C (.type "object") = some true) (hs : PySem.W.findIn K (.ref C) "__ne__" = some (some (.builtin "object.__ne__"))) (he : PySem.W.findIn K (.ref C) "__eq__" = some (some (.ref f))) (hf : PySem.W.isFn K (.ref f) = true)
    (h : wpAny (model prog w) A.in1 (call (.ref f) [.ref x, b]) (BackB fun r s' => Q (.bool (!r)) s') E s) : wpAny (model prog w) A (richCompare .NotEq (.ref x) b) Q E s := by
  have ent : wpAny (model prog w) A.in1 (Builtin.«object.__ne__» ⟨[.ref x, b], []⟩) (fun r s' => ∃ v, r = .done (.ret (.bool v)) ∧ Q (.bool v) s') E s := by
    unfold Builtin.«object.__ne__»
    repeat (first
      | with_reducible refine wpAny_cRoomFor hu ?_
      | (refine wpAny_bind (m := callSpecialIfBound? (.ref x) (Str.ofString "__eq__") [b])
          (PySem.W.ifBound_K X I he hf (wpAny_mono h (fun r s' hr => by
            obtain ⟨b, rfl, hq⟩ := hr
            repeat (first | exact ⟨_, rfl, hq⟩ | exact wpAny_pure ⟨_, rfl, hq⟩ | (refine wpAny_bind (m := truthy (.bool _)) (wpAny_truthy_bool ?_)) | wp_step)) fun _ _ e => e)))
      | wp_step)
  have one : wpAny (model prog w) A (tryCompare (.ref x) "__ne__" b) (fun r s' => ∃ v, r = some v ∧ Q v s') E s := by
    unfold tryCompare
    refine wpAny_bind (ifBound_objNe X I hs ?_)
    refine wpAny_call (codeAny_call_builtin F.cmp_object.ne.plain F.cmpEntry_ne (PySem.W.check_slot F.cmpKind_ne F.cmpSplit_ne (I.type.andThen (PySem.W.looks_mroIn X hm)) (F.cmpArgs_ne _ _) ?_))
    refine wpAny_mono ent (fun r s' hq => ?_) fun _ _ e => e
    obtain ⟨v, rfl, hq⟩ := hq
    first
      | exact wpAny_pure ⟨_, rfl, hq⟩
      | exact ⟨_, rfl, wpAny_pure ⟨_, rfl, hq⟩⟩
  unfold richCompare
  simp only [oneThing_ref]
  refine wpAny_holding (wpAny_bind (wpAny_cRoomFor (Nat.lt_of_succ_lt hu) ?_))
  refine wpAny_bind (I.type.here (wpAny_bind (hb.here ?_)))
  split
  · rename_i q
    have e : PySem.W.subIn K tb (.ref C) = some false := by
      rcases Bool.or_eq_true_iff.mp hn with e | e
      · rw [beq_iff_eq.mp e] at q; simp at q
      · exact beq_iff_eq.mp e
    refine wpAny_bind ((PySem.W.looks_subIn X e).here ?_)
    simp only [Bool.false_eq_true, if_false]
    refine wpAny_bind (wpAny_mono one (fun r s' z => ?_) fun _ _ e => e)
    obtain ⟨v, rfl, hq⟩ := z
    exact wpAny_pure hq
  · refine wpAny_bind (wpAny_pure ?_)
    simp only [Bool.false_eq_true, if_false]
    refine wpAny_bind (wpAny_mono one (fun r s' z => ?_) fun _ _ e => e)
    obtain ⟨v, rfl, hq⟩ := z
    exact wpAny_pure hq
end
section
variable {X : Cx} {CX : CXT} {n : Nat} {C f : Addr} {fd : FuncData} {ps : List Str} {sp : Sp} {E : XK}
def rEqI (K : PySem.W.Frag) (C : Addr) (sp : Sp) (E : XK) : R2 := fun x y H Q => ∃ a dx fs t, x = .ref a ∧ H a = some (.ins C dx fs) ∧ TyX K H y t ∧ PySem.W.notFirst K C t = true ∧ sp [x, y] H (fun v H' => ∃ b, v = .bl b ∧ Q (.bl b) H') E
def rNeI (K : PySem.W.Frag) (C : Addr) (sp : Sp) (E : XK) : R2 := fun x y H Q => ∃ a dx fs t, x = .ref a ∧ H a = some (.ins C dx fs) ∧ TyX K H y t ∧ PySem.W.notFirst K C t = true ∧ sp [x, y] H (fun v H' => ∃ b, v = .bl b ∧ Q (.bl (!b)) H') E
theorem op_eqI (F : FnOk X.prog X.w X.K X.mg X.base CX n f fd ps sp) (hs : PySem.W.findIn X.K (.ref C) "__eq__" = some (some (.ref f))) (hf : PySem.W.isFn X.K (.ref f) = true) (hb : Binds X.K fd ps []) (hx : Passes CX X E) (hr : Room n X.A) :
    OpR X (compareOp .Eq) (rEqI X.K C sp E) := by
  intro pins s σ H x y v u Q I rx ry ⟨a, dx, fs, t, e1, ha, ty, nf, q⟩
  subst e1
  cases rx
  obtain ⟨mA, J, _⟩ := ins_get I.hok ha
  obtain ⟨od, J, _⟩ := J.look
  obtain ⟨P, Z, p, _⟩ := kit_of I ry ty
  obtain ⟨m, hF⟩ := I.fr
  show wpAny (model X.prog X.w) X.A (richCompare .Eq (.ref a) u) (EP X pins σ Q) X.xe s
  refine PySem.W.cmp_K (op := .Eq) (tb := t) hr.units0 hF I.ok.mod.kin J (Z.ty _ _ I.kIn p) nf hs hf ?_
  have hl := F.len _ _ _ _ q
  refine wpAny_call (codeAny_mono (F.run X.A X.stack s H ⟨[.ref a, u], []⟩ [.ref a, u] [.ref a, y] _ E hr I.env0 (by
    have := hb s [.ref a, u] I.kIn (by simpa using hl)
    simpa using this) (.cons rfl (.cons ry .nil)) q) fun r s' hq => ?_)
  cases r with
  | error e => exact hx pins σ H s e s' I hq
  | ok fl =>
    cases fl with
    | ret w =>
      obtain ⟨z, H', I', rz, b, rfl, q2⟩ := I.after hq
      cases rz
      exact ⟨.bl b, H', I', rfl, q2⟩
    | next => exact False.elim hq
    | brk => exact False.elim hq
    | cont => exact False.elim hq
theorem op_neI (F : FnOk X.prog X.w X.K X.mg X.base CX n f fd ps sp) (he : PySem.W.findIn X.K (.ref C) "__eq__" = some (some (.ref f))) (hs : PySem.W.findIn X.K (.ref C) "__ne__" = some (some (.builtin "object.__ne__"))) (hm : PySem.W.mroIn X.K C (.type "object") = some true)
    (hf : PySem.W.isFn X.K (.ref f) = true) (hb : Binds X.K fd ps []) (hx : Passes CX X E) (hr : Room (n + 1) X.A) : OpR X (compareOp .NotEq) (rNeI X.K C sp E) := by
  intro pins s σ H x y v u Q I rx ry ⟨a, dx, fs, t, e1, ha, ty, nf, q⟩
  subst e1
  cases rx
  obtain ⟨mA, J, _⟩ := ins_get I.hok ha
  obtain ⟨od, J, _⟩ := J.look
  obtain ⟨P, Z, p, _⟩ := kit_of I ry ty
  show wpAny (model X.prog X.w) X.A (richCompare .NotEq (.ref a) u) (EP X pins σ Q) X.xe s
  refine ne_K (by have := hr.units; omega) I.kIn J (Z.ty _ _ I.kIn p) nf hm hs he hf ?_
  have hl := F.len _ _ _ _ q
  refine wpAny_call (codeAny_mono (F.run X.A.in1 X.stack s H ⟨[.ref a, u], []⟩ [.ref a, u] [.ref a, y] _ E hr.in1 I.env0.in1 (by
    have := hb s [.ref a, u] I.kIn (by simpa using hl)
    simpa using this) (.cons rfl (.cons ry .nil)) q) fun r s' hq => ?_)
  cases r with
  | error e => exact hx pins σ H s e s' I hq
  | ok fl =>
    cases fl with
    | ret w =>
      obtain ⟨z, H', I', rz, b, rfl, q2⟩ := I.after hq
      cases rz
      exact ⟨b, rfl, .bl (!b), H', I', rfl, q2⟩
    | next => exact False.elim hq
    | brk => exact False.elim hq
    | cont => exact False.elim hq
end
end Ys
namespace Ys
open PySem PySem.Spec PyProof.Rows L2
section
variable {X : Cx} {K : PySem.W.Frag} {P : Program} {w : World} {G G1 H : Hp} {M M1 : List (Addr × HO)} {σ : L2.St} {Q : VK} {QB : Bool → Hp → Prop} {D : Ends} {tc : TT} {ta te tb : TE} {t : TA} {A B : Prop} {v x y : V} {i j : Int} {a b p : Addr} {xs ys vs : List V} {o : HO} {d : PyData} {R : It → Hp → Prop}
/-! ### what is walked: a list, a tuple or a text -/
def iOr (i1 i2 : TI) : TI := fun σ H R => i1 σ H R ∨ i2 σ H R
theorem pi_or {tg e : Expr} {i1 i2 : TI} (h1 : PI X tg e i1) (h2 : PI X tg e i2) : PI X tg e (iOr i1 i2) := ⟨fun pins s σ H R I h => h.elim (h1.run pins s σ H R I) (h2.run pins s σ H R I)⟩
def iAny (K : PySem.W.Frag) (te : TE) : TI := iOr (iList K te) (iOr (iTup K te) (iStr te))
theorem pi_any {tg e : Expr} (h : PE X e te) : PI X tg e (iAny X.K te) := pi_or (pi_list h) (pi_or (pi_tup h) (pi_str h))
theorem z_anyL (h : te σ H fun x H1 => ItL K x H1 R) : iAny K te σ H R := .inl h
theorem z_anyT (h : te σ H fun x H1 => ItT K x H1 R) : iAny K te σ H R := .inr (.inl h)
theorem z_anyS (h : te σ H fun x H1 => ItS x H1 R) : iAny K te σ H R := .inr (.inr h)
/-! ### isinstance -/
def rIsiG (K : PySem.W.Frag) : List V → Hp → VK → Prop := fun xs H Q => rIsi K xs H Q ∨ rIsiT K xs H Q
theorem c_isi : CallR X (.builtin "isinstance") (rIsiG X.K) := CallR.or call_isi call_isiT
theorem z_isi {t u : Value} {r : Bool} {c : V} (k : ClsV c u) (ty : TyX K H x t) (e : PySem.W.kitOne K t u = some r) (q : Q (.bl r) H) : rIsiG K [x, c] H Q := .inl ⟨x, c, t, u, r, rfl, k, ty, e, q⟩
theorem z_isi2 {cs : List V} {t : Value} {us : List Value} {r : Bool} (z : Zp G M H) (h : G a = some (.tup cs)) (k : Paired ClsV cs us) (ty : TyX K H x t) (e : PySem.W.kitAny K t us = some r) (q : Q (.bl r) H) : rIsiG K [x, .ref a] H Q :=
  .inr ⟨x, a, cs, t, us, r, rfl, z.sub _ _ h, k, ty, e, q⟩
def tyD : PyData → String
  | .none => "NoneType"
  | .bool _ => "bool"
  | .int _ => "int"
  | .str _ => "str"
  | .list _ => "list"
  | .tuple _ => "tuple"
  | .dict _ => "dict"
theorem tyL (h : SqL K H a xs) : TyX K H (.ref a) (.type "list") := by
  rcases h with (h | ⟨o, h⟩) | ⟨o, its, n, hk, hc, _⟩
  · exact .base (.lst h)
  · exact .base (.frz h)
  · exact .kList hk hc
theorem tyT (h : SqT K H a xs) : TyX K H (.ref a) (.type "tuple") := by
  rcases h with (h | ⟨o, h⟩) | ⟨o, its, n, hk, hc, _⟩
  · exact .base (.tup h)
  · exact .fTuple h
  · exact .kTuple hk hc
theorem Dt.ty (h : Dt K H v d) : TyX K H v (.type (tyD d)) := by
  cases h with
  | non => exact .base .non
  | bl b => exact .base (.bl b)
  | int i => exact .base (.int i)
  | str x => exact .base (.str x)
  | lst h _ => exact tyL h
  | tup h _ => exact tyT h
  | dct h _ _ =>
    rcases h with h | ⟨o, h⟩
    · exact .base (.dK h)
    · exact .fDict h
def Ar (K : PySem.W.Frag) (G : Hp) (M : List (Addr × HO)) (v : V) (d : PyData) : Prop := Dt K G v d ∨ ∃ a xs ds, v = .ref a ∧ (a, .lst xs) ∈ M ∧ Dts K G xs ds ∧ d = .list ds
theorem Ar.up (s : Same G G1) (h : Ar K G M v d) : Ar K G1 M v d := h.imp (fun h => h.up s) fun ⟨a, xs, ds, e, m, h, e2⟩ => ⟨a, xs, ds, e, m, h.up s, e2⟩
theorem Ar.sub (s : ∀ u ∈ M, u ∈ M1) (h : Ar K G M v d) : Ar K G M1 v d := h.imp id fun ⟨a, xs, ds, e, m, h, e2⟩ => ⟨a, xs, ds, e, s _ m, h, e2⟩
theorem Zp.mem (z : Zp G M H) (h : (a, o) ∈ M) : H a = some o := by
  obtain ⟨i, hi⟩ := List.getElem?_of_mem h
  exact (z.own i a o hi).1
theorem Ar.dt (z : Zp G M H) (h : Ar K G M v d) : Dt K H v d := by
  rcases h with h | ⟨a, xs, ds, rfl, m, h, rfl⟩
  · exact z.dt h
  · exact .lst (SqL.of (z.mem m)) (h.up z.sub)
theorem Ar.ty (z : Zp G M H) (h : Ar K G M v d) : TyX K H v (.type (tyD d)) := (h.dt z).ty
theorem Ar.list {ds : List PyData} (z : Zp G M H) (h : Ar K G M v (.list ds)) : ∃ a xs, v = .ref a ∧ SqL K H a xs ∧ Dts K G xs ds ∧ ∀ G1 H1, Zp G1 M H1 → Same G G1 → SqL K H1 a xs := by
  rcases h with h | ⟨a, xs, ds', rfl, m, h, e⟩
  · cases h with
    | lst h1 h2 => exact ⟨_, _, rfl, z.seqL h1, h2, fun G1 H1 z1 s1 => z1.seqL (upL s1 h1)⟩
  · cases e
    exact ⟨a, xs, rfl, SqL.of (z.mem m), h, fun G1 H1 z1 s1 => SqL.of (z1.mem m)⟩
theorem Ar.tup {ds : List PyData} (h : Ar K G M v (.tuple ds)) : ∃ a xs, v = .ref a ∧ SqT K G a xs ∧ Dts K G xs ds := by
  rcases h with h | ⟨a, xs, ds', rfl, m, h, e⟩
  · cases h with
    | tup h1 h2 => exact ⟨_, _, rfl, h1, h2⟩
  · cases e
theorem Ar.str {s : Str} (h : Ar K G M v (.str s)) : v = .str s := by
  rcases h with h | ⟨a, xs, ds', rfl, m, h, e⟩
  · cases h; rfl
  · cases e
theorem Dts.len {ds : List PyData} : ∀ {xs : List V} {ds : List PyData}, Dts K G xs ds → xs.length = ds.length
  | _, _, .nil => rfl
  | _, _, .cons _ h => congrArg Nat.succ (Dts.len (ds := ds) h)
theorem Dts.at_ : ∀ {xs : List V} {ds : List PyData} {k : Nat} {x : V}, Dts K G xs ds → xs[k]? = some x → ∃ d, ds[k]? = some d ∧ Dt K G x d
  | _, _, 0, x, .cons h _, e => by
    simp at e
    exact ⟨_, rfl, e ▸ h⟩
  | _, _, k + 1, x, .cons _ h, e => by
    have := Dts.at_ (k := k) h (by simpa using e)
    simpa using this
/-! ### constants of the module -/
def GC (mg : Str → Option Value) (x : Str) (v : V) : Prop := ∃ u, mg x = some u ∧ RelV v u
theorem pe_gC {x : Str} {pos : Pos} (h : GC X.mg x v) (hg : Gl X x) (hd : (x == ("__debug__" : Str)) = false := by decide) : PE X (.Name x pos) (tC v) := by
  obtain ⟨u, hm, r⟩ := h
  exact ⟨fun pins s σ H Q I h => (pe_glob (v := v) hg hm r hd).run pins s σ H Q I h⟩
/-! ### calls with defaults, properties, methods, making -/
structure OwnA (P : Program) (w : World) (K : PySem.W.Frag) (mg : Str → Option Value) (base : Heap) (CX : CXT) (k : Nat) (x : Str) (ps : List Str) (dvs : List V) (sp : Sp) : Prop where
  ex : ∃ f fd ds, FnOk P w K mg base CX k f fd ps sp ∧ mg x = some (.ref f) ∧ PySem.W.keepIn K (.ref f) = true ∧ Binds K fd ps ds ∧ Vals dvs ds
theorem pe_ownA {CX : CXT} {k : Nat} {x : Str} {ps : List Str} {dvs : List V} {sp : Sp} {E : XK} {p pos : Pos} {e : Expr} {es : List Expr} {t : TA} (C : OwnA X.prog X.w X.K X.mg X.base CX k x ps dvs sp) (hr : Room k X.A) (hg : Gl X x) (hx : Passes CX X E) (ha : PA X (e :: es) t)
    (hdb : (x == ("__debug__" : Str)) = false := by decide) (he : starEach (e :: es) X.env = (false, eval e X.env) :: starEach es X.env := by rfl) (hpl : (backTo pos (starEach es X.env)).any (·.1) = false := by rfl) :
    PE X (.Call (.Name x p) (e :: es) [] pos) (tCall sp dvs E t) := by
  obtain ⟨f, fd, ds, F, hm, hk, hb, hv⟩ := C.ex
  exact ⟨fun pins s σ H Q I h => (pe_call F hr hg hm hk hb hv hx ha hdb he hpl).run pins s σ H Q I h⟩
structure Prp (P : Program) (w : World) (K : PySem.W.Frag) (mg : Str → Option Value) (base : Heap) (CX : CXT) (k : Nat) (C : Addr) (x : Str) (sp : Sp) : Prop where
  ex : ∃ p g fd, PropOf K C x p g ∧ FnOk P w K mg base CX k g fd ["self"] sp ∧ Binds K fd ["self"] []
  cl : Cls K C
theorem pe_pr {CX : CXT} {k : Nat} {C : Addr} {x : Str} {sp : Sp} {E : XK} {e : Expr} {pos : Pos} (R : Prp X.prog X.w X.K X.mg X.base CX k C x sp) (hr : Room (k + 1) X.A) (hx : Passes CX X.nox E) (he : PE X e ta) (hb : attributeBase e x X.env (eval e X.env) = eval e X.env := by rfl) :
    PE X (.Attribute e x pos) (tProp C sp [] E ta) := by
  obtain ⟨p, g, fd, hp, F, hd⟩ := R.ex
  exact ⟨fun pins s σ H Q I h => (pe_prop he R.cl hp F hr hd .nil hx hb).run pins s σ H Q I h⟩
def InsW (C : Addr) (x : V) (H : Hp) (A : Prop) : Prop := ∃ a dx fs, x = .ref a ∧ H a = some (.ins C dx fs) ∧ A
end
end Ys
namespace Ys
open PySem PySem.Spec PyProof.Rows L2
section
variable {X : Cx} {K : PySem.W.Frag} {P : Program} {w : World} {G G1 H : Hp} {M M1 : List (Addr × HO)} {σ : L2.St} {Q : VK} {QB : Bool → Hp → Prop} {QA : List V → Hp → Prop} {D : Ends} {ta te tb tv : TE} {t tk : TA} {A B : Prop} {v x y : V} {i j : Int} {a b p : Addr} {xs ys vs zs : List V} {o : HO} {d : PyData}
variable {CX : CXT} {k n m : Nat} {C dx : Addr} {nm f : Str} {ps ks : List Str} {dvs : List V} {sp : Sp} {E : XK} {fs : List (Str × V)} {gV : List V → List V → List V}
structure Mth (P : Program) (w : World) (K : PySem.W.Frag) (mg : Str → Option Value) (base : Heap) (CX : CXT) (k : Nat) (C : Addr) (m : Str) (ps : List Str) (dvs : List V) (sp : Sp) : Prop where
  ex : ∃ f fd ds, Meth K C m f ∧ FnOk P w K mg base CX k f fd ps sp ∧ Binds K fd ps ds ∧ Vals dvs ds
  cl : Cls K C
theorem pe_mt0 {m : Str} {e : Expr} {pos apos : Pos} {pl : Sem Bool} (R : Mth X.prog X.w X.K X.mg X.base CX k C m ps dvs sp) (hr : Room k X.A) (hx : Passes CX X E) (he : PE X e ta)
    (ht : eval (.Call (.Attribute e m apos) [] [] pos) X.env = (do
      let ov ← eval e X.env
      standAt apos.atName
      let (f, first) ← holding [ov] (getMethod ov m pl)
      callWith pos f first (backTo pos (starEach [] X.env)) (backToKw pos (keywordEach [] X.env))) := by rfl) : PE X (.Call (.Attribute e m apos) [] [] pos) (tMeth C m sp dvs E ta tNil) := by
  obtain ⟨f, fd, ds, hm, F, hb, hv⟩ := R.ex
  exact ⟨fun pins s σ H Q I h => (pe_meth0 he R.cl hm F hr hb hv hx ht).run pins s σ H Q I h⟩
theorem pe_mt {m : Str} {e e1 : Expr} {es : List Expr} {pos apos : Pos} {pl : Sem Bool} (R : Mth X.prog X.w X.K X.mg X.base CX k C m ps dvs sp) (hr : Room k X.A) (hx : Passes CX X E) (he : PE X e ta) (ha : PA X (e1 :: es) t)
    (hst : starEach (e1 :: es) X.env = (false, eval e1 X.env) :: starEach es X.env := by rfl) (hpl : (backTo pos (starEach es X.env)).any (·.1) = false := by rfl)
    (ht : eval (.Call (.Attribute e m apos) (e1 :: es) [] pos) X.env = (do
      let ov ← eval e X.env
      standAt apos.atName
      let (f, first) ← holding [ov] (getMethod ov m pl)
      callWith pos f first (backTo pos (starEach (e1 :: es) X.env)) (backToKw pos (keywordEach [] X.env))) := by rfl) : PE X (.Call (.Attribute e m apos) (e1 :: es) [] pos) (tMeth C m sp dvs E ta t) := by
  obtain ⟨f, fd, ds, hm, F, hb, hv⟩ := R.ex
  exact ⟨fun pins s σ H Q I h => (pe_meth he R.cl hm F hr hb hv hx ha hst hpl ht).run pins s σ H Q I h⟩
structure MkS (P : Program) (w : World) (K : PySem.W.Frag) (mg : Str → Option Value) (base : Heap) (CX : CXT) (k : Nat) (C : Addr) (x : Str) (n : Nat) (ks : List Str) (gV : List V → List V → List V) (sp : Sp) : Prop where
  ex : ∃ f fd ps g, Mk K C f ∧ FnOk P w K mg base CX k f fd ps sp ∧ mg x = some (.ref C) ∧ KBn K fd ps (n + 1) ks g gV
theorem pe_mk0 {x : Str} {p pos : Pos} {kws : List Keyword} (R : MkS X.prog X.w X.K X.mg X.base CX k C x 0 ks gV sp) (hr : Room (k + 1) X.A) (hg : Gl X x) (hx : Passes CX X E) (hkw : PK X kws tk)
    (hall : (backToKw pos (keywordEach kws X.env)).all (·.1.isSome) = true := by rfl) (hks : (backToKw pos (keywordEach kws X.env)).filterMap (·.1) = ks := by rfl) (hdb : (x == ("__debug__" : Str)) = false := by decide)
    (hpl : ((backTo pos (starEach [] X.env)).any (·.1) || (backToKw pos (keywordEach kws X.env)).any (·.1.isNone)) = false := by rfl) :
    PE X (.Call (.Name x p) [] kws pos) (tMakeK C 0 ks.length sp gV E tNil tk) := by
  obtain ⟨f, fd, ps, g, hm, F, hmg, hb⟩ := R.ex
  exact ⟨fun pins s σ H Q I h => (pe_makeK0 hm F hr hg hmg hb hx hkw hall hks hdb hpl).run pins s σ H Q I h⟩
theorem pe_mk {x : Str} {p pos : Pos} {kws : List Keyword} {e : Expr} {es : List Expr} (R : MkS X.prog X.w X.K X.mg X.base CX k C x n ks gV sp) (hr : Room (k + 1) X.A) (hg : Gl X x) (hx : Passes CX X E) (ha : PA X (e :: es) t) (hkw : PK X kws tk)
    (hall : (backToKw pos (keywordEach kws X.env)).all (·.1.isSome) = true := by rfl) (hks : (backToKw pos (keywordEach kws X.env)).filterMap (·.1) = ks := by rfl) (hdb : (x == ("__debug__" : Str)) = false := by decide)
    (he : starEach (e :: es) X.env = (false, eval e X.env) :: starEach es X.env := by rfl) (hpl : ((backTo pos (starEach (e :: es) X.env)).any (·.1) || (backToKw pos (keywordEach kws X.env)).any (·.1.isNone)) = false := by rfl) :
    PE X (.Call (.Name x p) (e :: es) kws pos) (tMakeK C n ks.length sp gV E t tk) := by
  obtain ⟨f, fd, ps, g, hm, F, hmg, hb⟩ := R.ex
  exact ⟨fun pins s σ H Q I h => (pe_makeK hm F hr hg hmg hb hx ha hkw hall hks hdb he hpl).run pins s σ H Q I h⟩
/-! the steps -/
def PrW (C : Addr) (sp : Sp) (dvs : List V) (E : XK) (x : V) (H : Hp) (Q : VK) : Prop := ∃ a dx fs, x = .ref a ∧ H a = some (.ins C dx fs) ∧ sp (.ref a :: dvs) H Q E
theorem z_prop (h : ta σ H fun x H1 => PrW C sp dvs E x H1 Q) : tProp C sp dvs E ta σ H Q := h
theorem z_prI (z : Zp G M H) (h : G a = some (.ins C dx fs)) (q : sp (.ref a :: dvs) H Q E) : PrW C sp dvs E (.ref a) H Q := ⟨a, dx, fs, rfl, z.sub _ _ h, q⟩
def MtW (C : Addr) (f : Str) (x : V) (H : Hp) (A : Prop) : Prop := ∃ a dx fs, x = .ref a ∧ H a = some (.ins C dx fs) ∧ fs.lookup f = none ∧ A
theorem z_mt (h : ta σ H fun x H1 => MtW C f x H1 (t σ H1 fun vs H2 => sp (x :: (vs ++ dvs)) H2 Q E)) : tMeth C f sp dvs E ta t σ H Q := h
theorem z_mtI (z : Zp G M H) (h : G a = some (.ins C dx fs)) (l : fs.lookup f = none) (q : A) : MtW C f (.ref a) H A := ⟨a, dx, fs, rfl, z.sub _ _ h, l, q⟩
def MkW (C : Addr) (n m : Nat) (sp : Sp) (gV : List V → List V → List V) (E : XK) (vs zs : List V) (H2 : Hp) (Q : VK) : Prop := vs.length = n ∧ zs.length = m ∧ ∀ x dx, H2 x = none → H2 dx = none → dx ≠ x →
  sp (gV (.ref x :: vs) zs) (upd (upd H2 dx (.own x)) x (.ins C dx [])) (fun v H3 => v = .non ∧ Q (.ref x) H3) E
theorem z_mk (h : t σ H fun vs H1 => tk σ H1 fun zs H2 => MkW C n m sp gV E vs zs H2 Q) : tMakeK C n m sp gV E t tk σ H Q := h
theorem z_mkI (z : Zp G M H) (l1 : vs.length = n) (l2 : zs.length = m) (q : ∀ x dx H1, Zp (upd G dx (.own x)) (M ++ [(x, .ins C dx [])]) H1 → Same G (upd G dx (.own x)) → sp (gV (.ref x :: vs) zs) H1 (fun v H3 => v = .non ∧ Q (.ref x) H3) E) : MkW C n m sp gV E vs zs H Q :=
  ⟨l1, l2, fun x dx hx hd ne => q x dx _ ((z.new hd _).add (by rw [upd_ne (Ne.symm ne)]; exact hx) _) (Same.new (z.free hd))⟩
def FlW (K : PySem.W.Frag) (f : Str) (x : V) (H : Hp) (Q : VK) : Prop := ∃ a C dx fs v, x = .ref a ∧ H a = some (.ins C dx fs) ∧ Cls K C ∧ NoAttr K C f ∧ fs.lookup f = some v ∧ Q v H
theorem z_fl (h : ta σ H fun x H1 => FlW K f x H1 Q) : tFld K ta f σ H Q := h
theorem z_flI (z : Zp G M H) (h : G a = some (.ins C dx fs)) (c : Cls K C) (n : NoAttr K C f) (l : fs.lookup f = some v) (q : Q v H) : FlW K f (.ref a) H Q := ⟨a, C, dx, fs, v, rfl, z.sub _ _ h, c, n, l, q⟩
def FsW (K : PySem.W.Frag) (f : Str) (x y : V) (H2 : Hp) (R : Hp → Prop) : Prop := ∃ a C dx fs, x = .ref a ∧ H2 a = some (.ins C dx fs) ∧ Cls K C ∧ NoAttr K C f ∧ fs.length < 1000 ∧ R (upd H2 a (.ins C dx (putF f y fs)))
theorem z_fs (h : tv σ H fun y H1 => ta σ H1 fun x H2 => FsW K f x y H2 (D.nx σ)) : sFld K ta tv f D σ H := h
theorem z_fsI {R : Hp → Prop} (z : Zp G M H) (i : Nat) (e : M[i]? = some (a, .ins C dx fs)) (c : Cls K C) (n : NoAttr K C f) (l : fs.length < 1000) (q : ∀ H1, Zp G (M.set i (a, .ins C dx (putF f y fs))) H1 → R H1) : FsW K f (.ref a) y H R :=
  ⟨a, C, dx, fs, rfl, z.at_ i e, c, n, l, q _ (z.put i e _)⟩
theorem z_nN (q : Q (.bl (!decide (x = .non))) H) : rNotNon x .non H Q := ⟨rfl, q⟩
theorem z_iN (q : Q (.bl (decide (x = .non))) H) : rIsNon x .non H Q := ⟨rfl, q⟩
theorem z_itLH {R : It → Hp → Prop} (h : SqL K H a xs) (q : R (Itl K a) H) : ItL K (.ref a) H R := ⟨a, rfl, ⟨xs, h⟩, q⟩
theorem z_itTH {R : It → Hp → Prop} (h : SqT K H a xs) (q : R (Itt K a) H) : ItT K (.ref a) H R := ⟨a, rfl, ⟨xs, h⟩, q⟩
theorem z_lenH (h : SqL K H a xs ∨ SqT K H a xs) (q : Q (.int xs.length) H) : rLenG K P w [.ref a] H Q := h.elim (fun h => .inl ⟨_, _, rfl, .inl ⟨xs, h, rfl⟩, q⟩) fun h => .inl ⟨_, _, rfl, .inr ⟨xs, h, rfl⟩, q⟩
theorem z_setH {ss : List Str} (z : Zp G M H) (h : SqL K H a (ss.map V.str) ∨ SqT K H a (ss.map V.str)) (hl : ss.length < 1000)
    (q : ∀ p l G1 H1, Zp G1 M H1 → Same G G1 → G1 p = some (TxO P w p l) → (∀ x, x ∈ l ↔ x ∈ ss) → l.Nodup → l.length ≤ ss.length → Q (.ref p) H1) : rSetTx K P w [.ref a] H Q :=
  ⟨a, ss, rfl, h, hl, fun p l m nd len hp => q p l _ _ (z.new hp _) (Same.new (z.free hp)) upd_same m nd len⟩
theorem z_tI {R : It → Hp → Prop} (h : te σ H fun x H1 => ItT K x H1 R) : iTup K te σ H R := h
theorem z_fsL {R : Hp → Prop} (z : Zp G (M ++ [(a, .ins C dx fs)]) H) (c : Cls K C) (n : NoAttr K C f) (l : fs.length < 1000) (q : ∀ H1, Zp G (M ++ [(a, .ins C dx (putF f y fs))]) H1 → R H1) : FsW K f (.ref a) y H R := by
  refine z_fsI z M.length last_at c n l fun H1 z1 => q H1 ?_
  rw [List.set_append_right _ _ (Nat.le_refl _), Nat.sub_self] at z1
  exact z1
theorem putF_lt {n : Nat} : ∀ {fs : List (Str × V)}, fs.length < n → (putF f y fs).length < n + 1
  | [], h => by show 1 < n + 1; have : 0 < n := h; omega
  | (g, v) :: r, h => by
    unfold putF
    split
    · exact Nat.lt_succ_of_lt h
    · have h' : r.length + 1 < n := h
      cases n with
      | zero => omega
      | succ n =>
        have := putF_lt (n := n) (fs := r) (by omega)
        show (putF f y r).length + 1 < n + 1 + 1
        omega
def ItR2 (vs : List V) (H : Hp) (R : It → Hp → Prop) : Prop := ∃ i j : Int, vs = [.int i, .int j] ∧ (-(2 ^ 62) ≤ i ∧ i < 2 ^ 62 ∧ -(2 ^ 62) ≤ j ∧ j < 2 ^ 62) ∧ R (Itr i (j - i).toNat) H
theorem z_iR2 {R : It → Hp → Prop} (h : t σ H fun vs H1 => ItR2 vs H1 R) : iRng2 t σ H R := h
theorem z_itR2 {R : It → Hp → Prop} (h : -(2 ^ 62) ≤ i ∧ i < 2 ^ 62 ∧ -(2 ^ 62) ≤ j ∧ j < 2 ^ 62) (q : R (Itr i (j - i).toNat) H) : ItR2 [.int i, .int j] H R := ⟨i, j, rfl, h, q⟩
theorem z_gsub {ti : TE} {ts : TSet} {R : L2.St → Hp → Prop} (h : ta σ H fun o H1 => ti σ H1 fun i H2 => ts o i v H2 fun H3 => R σ H3) : gSub ta ti ts v σ H R := h
theorem z_slO {lo hi : Option Int} (z : Zp G M H) (k : Nat) (e : M[k]? = some (a, .lst xs)) (q : ∀ p G1 H1, Zp G1 M H1 → Same G G1 → G1 p = some (.lst (cutV xs lo hi)) → Q (.ref p) H1) : rSlG K (.ref a) lo hi H Q :=
  .inl ⟨a, xs, rfl, SqL.of (z.at_ k e), fun p hp => q p _ _ (z.new hp _) (Same.new (z.free hp)) upd_same⟩
theorem z_setO {R : Hp → Prop} {j : Nat} (z : Zp G M H) (k : Nat) (e : M[k]? = some (a, .lst xs)) (hj : ixN xs.length i = some j) (q : ∀ H1, Zp G (M.set k (a, .lst (xs.set j v))) H1 → R H1) : rSetL (.ref a) (.int i) v H R :=
  ⟨a, xs, i, j, rfl, rfl, z.at_ k e, hj, q _ (z.put k e _)⟩
theorem Dts.snoc : ∀ {xs : List V} {ds : List PyData} {x : V} {d : PyData}, Dts K G xs ds → Dt K G x d → Dts K G (xs ++ [x]) (ds ++ [d])
  | _, _, _, _, .nil, h => .cons h .nil
  | _, _, _, _, .cons a b, h => .cons a (Dts.snoc b h)
theorem Dts.set : ∀ {xs : List V} {ds : List PyData} {x : V} {d : PyData} (j : Nat), Dts K G xs ds → Dt K G x d → Dts K G (xs.set j x) (ds.set j d)
  | _, _, _, _, _, .nil, _ => .nil
  | _, _, _, _, 0, .cons a b, h => .cons h b
  | _, _, _, _, j + 1, .cons a b, h => .cons a (Dts.set j b h)
theorem perm_strs {ys : List V} {ss : List Str} (h : ys.Perm (ss.map V.str)) : ∃ ts : List Str, ys = ts.map V.str ∧ ts.Perm ss := by
  let un : V → Str := fun v => match v with | .str s => s | _ => ""
  have e : (ss.map V.str).map un = ss := by rw [List.map_map]; exact List.map_id'' (fun _ => rfl) ss
  refine ⟨ys.map un, ?_, ?_⟩
  · rw [List.map_map]
    have : ∀ v ∈ ys, (V.str ∘ un) v = v := fun v hv => by
      obtain ⟨s, _, rfl⟩ := List.mem_map.mp (h.mem_iff.mp hv)
      rfl
    rw [List.map_congr_left this]
    exact (List.map_id ys).symm
  · have := h.map un
    rw [e] at this
    exact this
/-! chains -/
theorem z_chain {r r' : R2} {tc : TE} (h : ta σ H fun x H1 => tb σ H1 fun y H2 => r x y H2 fun z H3 => IsB z H3 fun k H3 => Bif k (tc σ H3 fun w' H4 => r' y w' H4 Q) (Q (.bl false) H3)) : tChain r r' ta tb tc σ H Q := h
theorem z_inS {c : Nat} {z : Str} (q : Q (.bl (decide (c ∈ z.cps.toList))) H) : rInG K false (.str ⟨#[c]⟩) (.str z) H Q := .inl ⟨c, z, rfl, rfl, by simpa using q⟩
theorem z_eqI {sp : Sp} {t : Value} (z : Zp G M H) (h : G a = some (.ins C dx fs)) (ty : TyX K H y t) (nf : PySem.W.notFirst K C t = true) (q : sp [.ref a, y] H (fun v H' => ∃ b, v = .bl b ∧ Q (.bl b) H') E) : rEqI K C sp E (.ref a) y H Q :=
  ⟨a, dx, fs, t, rfl, z.sub _ _ h, ty, nf, q⟩
theorem z_neI {sp : Sp} {t : Value} (z : Zp G M H) (h : G a = some (.ins C dx fs)) (ty : TyX K H y t) (nf : PySem.W.notFirst K C t = true) (q : sp [.ref a, y] H (fun v H' => ∃ b, v = .bl b ∧ Q (.bl (!b)) H') E) : rNeI K C sp E (.ref a) y H Q :=
  ⟨a, dx, fs, t, rfl, z.sub _ _ h, ty, nf, q⟩
end
end Ys
namespace Ys
open PySem PySem.Spec PyProof.Rows L2
/-! the rules with the written part told -/
section
variable {X : Cx} {K : PySem.W.Frag} {P : Program} {w : World}
theorem k_add (e : X.K = K := by rfl) : OpR X (binaryOp .Add) (rAddG K) := e ▸ op_addG
theorem k_eq (hu : X.A.units + 64 < cLine) (e : X.K = K := by rfl) : OpR X (compareOp .Eq) (rEqG K) := e ▸ op_eqG hu
theorem k_ne (hu : X.A.units + 64 < cLine) (e : X.K = K := by rfl) : OpR X (compareOp .NotEq) (rNeG K) := e ▸ op_neG hu
theorem k_in (e : X.K = K := by rfl) : OpR X (compareOp .In) (rInG K false) := e ▸ o_in
theorem k_notIn (e : X.K = K := by rfl) : OpR X (compareOp .NotIn) (rInG K true) := e ▸ o_notIn
theorem k_sl (e : X.K = K := by rfl) : SlR X (rSlG K) := e ▸ sl_any
theorem kc_len (e : X.K = K := by rfl) (e1 : X.prog = P := by rfl) (e2 : X.w = w := by rfl) : CallR X (.builtin "len") (rLenG K P w) := by subst e; subst e1; subst e2; exact c_len
theorem kc_list (e : X.K = K := by rfl) : CallR X (.type "list") (rListG K) := e ▸ c_list
theorem kc_tuple (e : X.K = K := by rfl) : CallR X (.type "tuple") (rTupG K) := e ▸ c_tuple
theorem kc_all (hc : X.calm = true) (e : X.K = K := by rfl) : CallR X (.builtin "all") (rAllG K) := e ▸ c_all hc
theorem kc_sorted (hc : X.calm = true) (e : X.K = K := by rfl) (e1 : X.prog = P := by rfl) (e2 : X.w = w := by rfl) : CallR X (.builtin "sorted") (rSortG K P w) := by subst e; subst e1; subst e2; exact c_sorted hc
theorem kc_set (hc : X.calm = true) (e : X.K = K := by rfl) (e1 : X.prog = P := by rfl) (e2 : X.w = w := by rfl) : CallR X (.type "set") (rSetTx K P w) := by subst e; subst e1; subst e2; exact cr_setTx hc
theorem kc_repr (hg : X.A.guards = some []) (S : SysIn X.K) (hu : X.A.units + 64 < cLine) (e : X.K = K := by rfl) : CallR X (.builtin "repr") (rRepr K) := e ▸ cr_repr hg S hu
theorem kc_isi (e : X.K = K := by rfl) : CallR X (.builtin "isinstance") (rIsiG K) := e ▸ c_isi
theorem k_any {tg e : Expr} {te : TE} (h : PE X e te) (q : X.K = K := by rfl) : PI X tg e (iAny K te) := q ▸ pi_any h
theorem k_ix (e : X.K = K := by rfl) : IxR X (rIx K) := e ▸ ix_seq
theorem k_fld {o : Expr} {f : Str} {pos : Pos} {ta : TE} (h : PE X o ta) (hb : attributeBase o f X.env (eval o X.env) = eval o X.env) (e : X.K = K := by rfl) : PE X (.Attribute o f pos) (tFld K ta f) := e ▸ pe_fld h hb
theorem kg_tup {es : List Expr} {k : Nat} {t : TGs} {n : Nat} {pos : Pos} (hc : X.calm = true) (h : PGs X es t) (e : X.K = K := by rfl)
    (hn : (assignEach es X.env).length = n := by rfl) (hst : (assignEach es X.env).findIdx? (·.1) = none := by rfl) : PG X (.Tuple es k pos) (gTup K n t) := e ▸ pg_tup hc h hn hst
theorem kg_unl {es : List Expr} {k : Nat} {t : TGs} {n : Nat} {pos : Pos} (hc : X.calm = true) (h : PGs X es t) (e : X.K = K := by rfl)
    (hn : (assignEach es X.env).length = n := by rfl) (hst : (assignEach es X.env).findIdx? (·.1) = none := by rfl) : PG X (.Tuple es k pos) (gUnl K n t) := e ▸ pg_unl hc h hn hst
theorem k_tup {tg e : Expr} {te : TE} (h : PE X e te) (q : X.K = K := by rfl) : PI X tg e (iTup K te) := q ▸ pi_tup h
end
end Ys
namespace Ys
open PySem PySem.Spec PyProof.Rows L2
/-! ### defs that stand anywhere -/
theorem DefY.funD {K : PySem.W.Frag} {d : DefY} (e : fnY K (d.ad K) = d.val) (c : d.ok K = true) : ∃ fd, FunD K d.name d.qual d.params d.body d.scope (d.dvs K) (d.kws K) (d.ad K) fd := by
  obtain ⟨kp, c2⟩ := Bool.and_eq_true_iff.mp c
  cases hq : K.lookup (d.ad K) with
  | none => rw [hq] at c2; exact absurd c2 (by simp)
  | some ob =>
    rw [hq] at c2
    unfold fnY at e
    rw [hq] at e
    obtain ⟨o1, o2, o3, o4⟩ := ob
    cases o3 with
    | func g =>
      obtain ⟨g1, g2, g3, g4, g5, g6, g7, g8, g9, g10, g11, g12, g13, g14, g15⟩ := g
      obtain ⟨i1, i2, i3, i4, i5, i6, i7, i8⟩ : g1 = d.name ∧ g2 = d.qual ∧ g3 = d.params ∧ g4 = .stmts d.body ∧ g5 = d.scope ∧ g6 = mainGlobals ∧ g7 = [] ∧ g15 = builtinsNs := by
        have e' : (some (g1, g2, g3, g4, g5, g6, g7, g15) : He.FnW) = some (d.name, d.qual, d.params, .stmts d.body, d.scope, mainGlobals, [], builtinsNs) := e
        simpa only [Option.some.injEq, Prod.mk.injEq] using e'
      subst i1 i2 i3 i4 i5 i6 i7 i8
      obtain ⟨j1, j2⟩ := Bool.and_eq_true_iff.mp (show (PySem.W.codeIn K g13 d.qual && (He.dflB K g8 (d.dvs K) && He.kwdB K g9 (d.kws K))) = true from c2)
      obtain ⟨j3, j4⟩ := Bool.and_eq_true_iff.mp j2
      exact ⟨_, ⟨o1, o2, g8, g9, g10, g11, g12, g13, g14, o4, rfl, hq, j1, He.dflB_ok j3, He.kwdB_ok j4⟩, kp⟩
    | _ => exact absurd c2 (by simp)
/-! ### the Hook over facts of any kind -/
theorem obZ_eq {n : Nat} {fb : List (PySem.W.Frag → Bool)} {fn : List DefY} (s : PySem.W.SharedT) : obZ n fb fn s = (hookZ n fb fn).obs s.abs := by
  unfold obZ
  rw [show HandSHeadRun.getT s = s.abs.heap.get? from funext (HandSHeadRun.getT_eq s)]
  rfl
section
variable {fb : List (PySem.W.Frag → Bool)} {fn : List DefY} {K : PySem.W.Frag}
theorem SaysZ.at_ (c : SaysZ fb fn K) (i : Nat) {f : PySem.W.Frag → Bool} (h : fb[i]? = some f := by rfl) : f K = true := by
  have h1 : ((fb.all fun f => f K) && fn.all fun d => d.ok K) = true := congrArg Prod.fst c
  exact List.all_eq_true.mp (Bool.and_eq_true_iff.mp h1).1 f (List.mem_of_getElem? h)
theorem SaysZ.def_ (c : SaysZ fb fn K) (i : Nat) {d : DefY} (h : fn[i]? = some d := by rfl) : ∃ fd, FunD K d.name d.qual d.params d.body d.scope (d.dvs K) (d.kws K) (d.ad K) fd := by
  have h1 : ((fb.all fun f => f K) && fn.all fun d => d.ok K) = true := congrArg Prod.fst c
  have h2 : (fn.map fun d => fnY K (d.ad K)) = fn.map DefY.val := congrArg Prod.snd c
  refine DefY.funD ?_ (List.all_eq_true.mp (Bool.and_eq_true_iff.mp h1).2 d (List.mem_of_getElem? h))
  have h3 := congrArg (fun l : List He.FnW => l[i]?) h2
  simp only [List.getElem?_map, h, Option.map_some] at h3
  exact Option.some.inj h3
end
/-! ### facts -/
theorem fProp_ok {x m : Str} {K : PySem.W.Frag} (h : fProp x m K = true) : PropOf K (He.ga K x) m (cA x m K) (pA x m K) := by
  obtain ⟨h1, h⟩ := Bool.and_eq_true_iff.mp h
  obtain ⟨h2, h⟩ := Bool.and_eq_true_iff.mp h
  obtain ⟨h3, h4⟩ := Bool.and_eq_true_iff.mp h
  refine ⟨of_decide_eq_true h1, of_decide_eq_true h2, of_decide_eq_true h3, ?_⟩
  cases q : PySem.W.recIn K (cA x m K) "property" with
  | none => rw [q] at h4; cases h4
  | some l =>
    rw [q] at h4
    cases l with
    | nil => cases h4
    | cons v r =>
      cases v with
      | ref g => exact ⟨r, by rw [of_decide_eq_true h4]⟩
      | _ => cases h4
theorem fNil_ok {a : PySem.W.Frag → Addr} {K : PySem.W.Frag} (h : fNil a K = true) (G : Hp) : SqT K G (a K) [] := by
  unfold fNil at h
  cases q : K.lookup (a K) with
  | none => rw [q] at h; cases h
  | some ob =>
    rw [q] at h
    obtain ⟨o1, o2, o3, o4⟩ := ob
    cases o1 with
    | type c =>
      cases o3 with
      | seq its n =>
        obtain ⟨h1, h2⟩ := Bool.and_eq_true_iff.mp (show (decide (c = "tuple") && decide (its.size = 0)) = true from h)
        have hz := of_decide_eq_true h2
        have he : its.toList = [] := by
          apply List.eq_nil_of_length_eq_zero
          rw [Array.length_toList]
          exact hz
        exact .inr ⟨_, its, n, q, congrArg Value.type (of_decide_eq_true h1), rfl, by rw [hz]; exact Nat.zero_le _, by rw [he]; exact .nil⟩
      | _ => cases h
    | _ => cases o3 <;> cases h
end Ys
namespace Ys
open PySem PySem.Spec PyProof.Rows L2
/-! ### an own exception's __init__ that says super().__init__(x), self.f = x -/
structure SupF (P : Program) (K : PySem.W.Frag) (C fI : Addr) (fld qual : Str) (params : Arguments) (body : List Stmt) (scope : Scope) (fd : FuncData) : Prop where
  ex : ∃ oc od osl dV kV doc pm an cda ct cc, fd = PySem.W.ksFn "__init__" qual params body scope dV kV doc pm an (.ref cda) ct cc ∧ K.lookup fI = some ⟨oc, od, .func fd, osl⟩ ∧ PySem.W.codeIn K (.ref cda) qual = true ∧
    (∃ ccl cdd vs ccs file tf, K.lookup cda = some ⟨ccl, cdd, .fields vs, ccs⟩ ∧ vs[2]? = some (.str file tf) ∧ ((P.main.file : Str) == file) = true) ∧ ∃ cl cld csl, K.lookup cc = some ⟨cl, cld, .cell (some (.ref C)), csl⟩
  sup : PySem.W.ks_superIn K C C "__init__" = some (some (.builtin "ValueError.__init__"))
  subV : PySem.W.subIn K (.ref C) (.type "ValueError") = some true
  opq : PySem.W.nsIn K cStatics "thirdparty.any" = some none
  gs : PySem.W.nsIn K mainGlobals "super" = some none
  no : PySem.W.findIn K (.ref C) fld = some none
  mro : PySem.W.mroIn K C (.ref C) = some true
structure SupS (x : Str) (params : Arguments) (scope : Scope) : Prop where
  nc : ∀ y ∈ scope.names, y.2 ≠ .cell
  ns : scope.names.lookup ("super" : Str) = some .globalImplicit
  nk : scope.names.lookup ("__class__" : Str) = some .free
  n1 : scope.names.lookup ("self" : Str) = some .local
  n2 : scope.names.lookup x = some .local
  co : scope.isCoroutine = false
  ge : scope.isGenerator = false
  ki : scope.kind = .function
  hd : ∃ ar, (params.posonlyargs ++ params.args).head? = some ar ∧ ar.arg = "self"
  ne : ("self" : Str) ≠ x
  nd : (x == ("__debug__" : Str)) = false
section
variable {P : Program} {w : World} {K : PySem.W.Frag} {C fI a t0 : Addr} {x fld qual : Str} {params : Arguments} {scope : Scope} {p0 p1 p2 p3 p4 p5 p6 p7 p8 p9 : Pos} {A : Around} {mg mb : Str → Option Value} {v : Value} {R : Result → Shared → Prop} {fd : FuncData} {hp : Heap} {g : Array GenState} {d : Drawn} {t : Nat} {os : OsState}
theorem call_mwV {mw : Addr} {us : List Value} {nm q : Str} {N : Addr} {bs bm : List Value} {hd : Bool} {sn : List Str} {sub : List Value} {ab : Bool} {col : Option Bool} {dd : Option Addr} {k0 k1 k2 k3 k5 : Option Value} {Q : Value → Shared → Prop} {E : Value → Shared → Prop}
    (hC : hp.get? C = some (excClassObj nm q C N bs bm hd sn sub ab col dd k0 k1 k2 k3 k5 "ValueError.__new__")) (_hT : ∀ Y : String, bm.contains (.type Y) = PySem.HandSPX.veTail.contains (.type Y)) (hx : hp.get? a = some (PySem.HandSPX.excO C t0)) (hu : hp.get? mw = some (PySem.W.kxs_mw "ValueError.__init__" a)) (hz : us.length ≤ sizeLine)
    (hq : ∀ h' t1, (∀ b o, b ≠ a → hp.get? b = some o → h'.get? b = some o) → h'.get? a = some (PySem.HandSPX.excO C t1) → Q .none ⟨h', g, d, t, os⟩) : wpAny (model P w) A (call (.ref mw) us) Q E ⟨hp, g, d, t, os⟩ := by
  refine wpAny_call (codeAny_of_tree ?_)
  show wpAny _ A.in1 (callAny (.ref mw) ⟨us, []⟩) _ _ _; simp only [callAny]
  refine wpAny_bind (wpAny_load hu ?_)
  have q1 : (Value.type "method-wrapper" == Value.type "method" || Value.type "method-wrapper" == Value.type "builtin_function_or_method" || Value.type "method-wrapper" == Value.type "method-wrapper") = true := by decide
  simp only [PySem.W.kxs_mw, q1, if_true]
  refine PySem.W.KFB.if_so (by decide) (wpAny_bind (PySem.W.check_bound_init F.excBase_ValueError.toExcCallFacts hC hx rfl ?_))
  refine wpAny_bind (wpAny_pure (wpAny_pure ⟨plainId_quiet F.excBase_ValueError.init.plain _, codeAny_builtin F.excBase_ValueError.initEntry ?_⟩))
  exact PySem.W.exc_init_tree (cls := .ref C) (t0 := t0) (dv := none) (c2 := .none) (c3 := .none) (b4 := .bool false) hx hz fun h' k e _ => hq h' _ k e
def supBody (x fld : Str) (p0 p1 p2 p3 p4 p5 p6 p7 p8 p9 : Pos) : List Stmt := [.Expr (.Call (.Attribute (.Call (.Name "super" p0) [] [] p1) "__init__" p2) [.Name x p3] [] p4) p5, .Assign [.Attribute (.Name "self" p6) fld p7] (.Name x p8) p9]
theorem run_sup (S : SupF P K C fI fld qual params (supBody x fld p0 p1 p2 p3 p4 p5 p6 p7 p8 p9) scope fd) (Z : SupS x params scope) (T : OexC K C) (X : K.In hp) (hg : hp.Ns mainGlobals mg) (hb : hp.Ns builtinsNs mb) (hbb : ∀ y : Str, y ≠ "__name__" → mb y = bootBuiltins y) (hlim : hp.NoLimit) (hroom : A.depth < recursionLimit) (hun : A.units + 64 < cLine)
    (hev : ∀ env : Env, env.scope = scope → ∃ pl : Sem Bool, eval (.Call (.Attribute (.Call (.Name "super" p0) [] [] p1) "__init__" p2) [.Name x p3] [] p4) env = (do
      let ov ← attributeBase (.Call (.Name "super" p0) [] [] p1) "__init__" env (eval (.Call (.Name "super" p0) [] [] p1) env)
      standAt p2.atName
      let (f, first) ← holding [ov] (getMethod ov "__init__" pl)
      callWith p4 f first (backTo p4 (starEach [.Name x p3] env)) []))
    (hint : ∀ env : Env, env.scope = scope → interactive env = false) (hsw1 : ∀ env : Env, env.scope = scope → swapsWith (.Call (.Attribute (.Call (.Name "super" p0) [] [] p1) "__init__" p2) [.Name x p3] [] p4) none p5.line env = pure false)
    (hsw2 : ∀ env : Env, env.scope = scope → swapsWith (.Name x p8) (some (.Attribute (.Name "self" p6) fld p7)) p9.line env = pure false)
    (htop : (P.main.scope.names.lookup ("super" : Str)).isSome = false)
    (haK : K.lookup a = none) (hx : hp.get? a = some (PySem.HandSPX.excO C t0)) (args : Args) (hbind : BindsTo ⟨hp, g, d, t, os⟩ fd args [("self", .ref a), (x, v)])
    (hR : ∀ h' tk dx t1, (∀ b o, b ≠ a → hp.get? b = some o → h'.get? b = some o) → hp.objs.size ≤ dx → dx ≠ a → h'.get? a = some ({ cls := .ref C, dict := some dx, data := .fields #[.ref t1, .none, .none, .none, .bool false, .none] } : Obj) →
      h'.Ns1 dx (fun y => if y = fld then some v else none) → R (.ok (.ret .none)) ⟨h', g, d, tk, os⟩) :
    codeAny (model P w) A (.call (.ref fI) args) R ⟨hp, g, d, t, os⟩ := by
  obtain ⟨oc, od, osl, dV, kV, doc, pm, an, cda, ct, cc, rfl, lk, hcd, ⟨ccl, cdd, vs, ccs, file, tf, lcd, hvs, hfile⟩, cl, cld, csl, lcc⟩ := S.ex
  obtain ⟨ar, har, hars⟩ := Z.hd
  obtain ⟨nm, q, N, bs, bm, sn, sub, ab, col, dd, k0, k1, k2, k3, k5, hC, hbm⟩ := T.cls
  have hcl : PySem.W.clsIn K C = some { name := nm, bases := bs, mro := .ref C :: bm, ns := N, qualname := q, hasDict := true, slotNames := sn, subclasses := sub, abstract := ab, collection := col, hasDel := false } := by unfold PySem.W.clsIn; rw [hC] <;> rfl
  refine ks_codeAny_call_defAt (body := supBody x fld p0 p1 p2 p3 p4 p5 p6 p7 p8 p9) (binds := [("self", .ref a), (x, v)]) hroom (X _ _ lk) rfl hlim (PySem.W.codeRec_of X hcd) rfl hbind Z.nc (fun y hy => ?_) (fun h0 hns hk => ?_) Z.co Z.ge Z.ki
  · rcases List.mem_cons.mp hy with rfl | hy
    · exact Z.n1
    · obtain rfl : y = (x, v) := by simpa using hy
      exact Z.n2
  have X0 : K.In h0 := X.keeps hk
  have ns_ : ∀ {L : Addr} {m : Str → Option Value}, hp.Ns L m → h0.Ns L m := fun ⟨o, es, ep, e, d, r⟩ => ⟨o, es, ep, hk _ _ e, d, r⟩
  have hn2 : h0.Ns hp.objs.size (fun y => [(("self" : Str), Value.ref a), (x, v)].reverse.lookup y) := hns
  have lself : ([(("self" : Str), Value.ref a), (x, v)].reverse.lookup ("self" : Str)) = some (.ref a) := by
    show List.lookup ("self" : Str) [(x, v), (("self" : Str), Value.ref a)] = _
    rw [List.lookup_cons, show (("self" : Str) == x) = false from by simpa using Z.ne]
    simp [List.lookup]
  have lx : ([(("self" : Str), Value.ref a), (x, v)].reverse.lookup x) = some v := by
    show List.lookup x [(x, v), (("self" : Str), Value.ref a)] = _
    rw [List.lookup_cons]
    simp
  obtain ⟨pl, hev⟩ := hev (callEnv (PySem.W.ksFn "__init__" qual params (supBody x fld p0 p1 p2 p3 p4 p5 p6 p7 p8 p9) scope dV kV doc pm an (.ref cda) ct cc) hp.objs.size fI) rfl
  refine ks_wpAt_execs_cons (ks_wpAt_Expr_any (ks_wpAt_MethodCall (pl := pl) ?_ hev) (hint _ rfl) (hsw1 _ rfl))
  refine ks_wpAt_super_base Z.ns Z.nk (by decide +kernel) rfl (X0 _ _ lk) rfl har rfl (X0 _ _ lcd) rfl hvs hfile htop ?_
  refine PySem.W.ks_loadName_global Z.ki Z.ns (PySem.Calls.loadGlobal_builtin (ns_ hg) (PySem.W.mg_none_of X hg S.gs) (ns_ hb) ((hbb _ (by decide +kernel)).trans (by first | rfl | kernel_rfl)) ⟨rfl, ?_⟩)
  refine wpAny_loadName_free Z.ki Z.nk rfl ⟨_, X0 _ _ lcc, rfl⟩ ?_
  rw [hars]
  refine wpAny_loadName_local Z.ki Z.n1 hn2 lself ?_
  refine ks_wpAny_isType_cls (X0 _ _ hC) rfl ⟨rfl, ?_⟩
  have hxa := hk _ _ hx
  refine ks_wpAny_call_super (X0 _ _ hC) rfl hxa rfl (fun c e => by cases e) (PySem.W.looks_mroIn X0 S.mro) (fun h1 e1 k1 => ?_)
  have X1 : K.In h1 := X0.keeps k1
  have I1 : PySem.W.InstAt h1 a (PySem.HandSPX.excO C t0) C none := ⟨k1 _ _ hxa, rfl, rfl, trivial⟩
  have hsup : PySem.W.alongIn K "__init__" ((((Value.ref C :: bm).dropWhile (· != .ref C)).drop 1)) = some (some (.builtin "ValueError.__init__")) := by
    have := S.sup
    unfold PySem.W.ks_superIn at this
    rw [hcl] at this
    exact this
  refine PySem.W.kxs_getMethod PySem.W.kxs_ValueError e1 (PySem.W.looks_opaque X1 S.opq) (l₀ := .ref C :: bm) (fun A Q E s k q => wpAny_bind ((PySem.W.looks_clsIn X1 hcl) A _ E s k (wpAny_pure q))) rfl X1 hsup (I1.type.andThen (PySem.W.looks_subIn X1 S.subV)) (PySem.W.ks_ne X1 I1 hcl) (by decide +kernel) ?_
  refine PySem.W.kxs_callWith (i := "ValueError.__init__") (x := a) (u := h1.objs.size) rfl (PySem.Calls.evalArgs_plain (PySem.Calls.spliced_cons ?_))
  show wpAny _ _ (eval (.Name x p3) _) _ _ _
  have hk1 : ∀ b o, hp.get? b = some o → h1.get? b = some o := fun b o e => k1 _ _ (hk _ _ e)
  have hn3 : h1.Ns hp.objs.size (fun y => [(("self" : Str), Value.ref a), (x, v)].reverse.lookup y) := let ⟨o, es, ep, e, d, r⟩ := hn2; ⟨o, es, ep, k1 _ _ e, d, r⟩
  refine PySem.ESX.ldL (m := fun y => [(("self" : Str), Value.ref a), (x, v)].reverse.lookup y) ?_ lx ?_ Z.ki Z.n2 Z.nd
  · let ⟨o, es, ep, e, d, r⟩ := hn3
    exact ⟨o, es, ep, Heap.get?_push_of_some _ e, d, r⟩
  refine wpAny_pure ⟨Heap.get?_push_at rfl rfl, ?_⟩
  show wpAny _ _ (call (.ref h1.objs.size) [v]) _ _ _
  have kp : ∀ b o, h1.get? b = some o → (h1.push (PySem.W.kxs_mw "ValueError.__init__" a)).get? b = some o := fun b o e => Heap.get?_push_of_some _ e
  refine call_mwV (kp _ _ (X1 _ _ hC)) (fun Y => PySem.HandSPX.refsVE_contains Y bm hbm) (kp _ _ (hk1 _ _ hx)) (Heap.get?_push_at rfl rfl) (by show 1 ≤ sizeLine; decide) (fun h2 t1 k2 hx2 => ?_)
  have k02 : ∀ b o, b ≠ a → hp.get? b = some o → h2.get? b = some o := fun b o nb e => k2 b o nb (kp _ _ (hk1 _ _ e))
  have nC : C ≠ a := fun z => by have := X _ _ hC; rw [z, hx] at this; cases this
  have X2 : K.In h2 := fun b o e => k02 b o (fun z => by rw [z, haK] at e; cases e) (X _ _ e)
  have hL : hp.objs.size ≠ a := Nat.ne_of_gt (Heap.lt_size hx)
  have hn4 : h2.Ns hp.objs.size (fun y => [(("self" : Str), Value.ref a), (x, v)].reverse.lookup y) := by
    obtain ⟨o, es, ep, e, d, r⟩ := hn3
    exact ⟨o, es, ep, k2 _ _ hL (kp _ _ e), d, r⟩
  refine ks_wpAt_execs_cons (ks_wpAt_Assign_Attr (wpAt_of_wpAny (PySem.ESX.ldL hn4 lx (PySem.ESX.ldL hn4 lself ?_ Z.ki Z.n1 (by decide)) Z.ki Z.n2 Z.nd)) (hsw2 _ rfl))
  refine PySem.W.set_plain X2 (ox := PySem.HandSPX.excO C t1) (od := none) ⟨hx2, rfl, rfl, trivial⟩ T.sa ?_
  refine PySem.HandSPX.exc_osa X2 hx2 hcl (show PySem.HandSPX.refsVE (.ref C :: bm) = true from hbm) rfl S.no (fun h3 tk3 dx k3 hd3 ne3 hx3 hn5 => ?_)
  refine wpAt_of_wpAny (wpAny_pure ?_)
  have hsz : hp.objs.size < h2.objs.size := let ⟨o, es, ep, e, d, r⟩ := hn4; Heap.lt_size e
  exact hR h3 tk3 dx t1 (fun b o nb e => k3 b o nb (k02 b o nb e)) (Nat.le_trans (Nat.le_of_lt hsz) hd3) ne3 hx3 hn5
def spSup (K : PySem.W.Frag) (C : Addr) (fld : Str) : Sp := fun vs H Q _ => ∃ a y, vs = [.ref a, y] ∧ H a = some (exo a C none) ∧ ∀ dx, H dx = none → dx ≠ a → Q .non (upd (upd H dx (exd dx [(fld, y)])) a (exo a C (some dx)))
theorem ok_sup {base : Heap} {CX : CXT} (S : SupF P K C fI fld qual params (supBody x fld p0 p1 p2 p3 p4 p5 p6 p7 p8 p9) scope fd) (Z : SupS x params scope) (T : OexC K C)
    (hev : ∀ env : Env, env.scope = scope → ∃ pl : Sem Bool, eval (.Call (.Attribute (.Call (.Name "super" p0) [] [] p1) "__init__" p2) [.Name x p3] [] p4) env = (do
      let ov ← attributeBase (.Call (.Name "super" p0) [] [] p1) "__init__" env (eval (.Call (.Name "super" p0) [] [] p1) env)
      standAt p2.atName
      let (f, first) ← holding [ov] (getMethod ov "__init__" pl)
      callWith p4 f first (backTo p4 (starEach [.Name x p3] env)) []))
    (hint : ∀ env : Env, env.scope = scope → interactive env = false) (hsw1 : ∀ env : Env, env.scope = scope → swapsWith (.Call (.Attribute (.Call (.Name "super" p0) [] [] p1) "__init__" p2) [.Name x p3] [] p4) none p5.line env = pure false)
    (hsw2 : ∀ env : Env, env.scope = scope → swapsWith (.Name x p8) (some (.Attribute (.Name "self" p6) fld p7)) p9.line env = pure false)
    (htop : (P.main.scope.names.lookup ("super" : Str)).isSome = false) : FnOk P w K mg base CX 1 fI fd ["self", x] (spSup K C fld) := by
  refine ⟨fun vs H Q E h => ?_, fun A outer s H args us vs Q E hr e0 hbd r hsp => ?_⟩
  · obtain ⟨a, y, rfl, _⟩ := h
    rfl
  obtain ⟨a, y, rfl, ha, q⟩ := hsp
  obtain ⟨u1, u2, rfl, r1, r2⟩ := vals2 r
  obtain rfl : u1 = Value.ref a := r1
  obtain ⟨t0, hx⟩ := exo_at e0.hok ha
  have KX : K.In s.heap := e0.mod.kin.keeps fun b o e => (e0.bs b o e).1
  have haK : K.lookup a = none := by
    cases z : K.lookup a with
    | none => rfl
    | some o =>
      have := (e0.bs _ _ (e0.mod.kin _ _ z)).2
      rw [ha] at this
      cases this
  obtain ⟨mb, hmb, hbb⟩ := e0.mod.blt
  have ns_ : ∀ {L : Addr} {m : Str → Option Value}, base.Ns L m → s.heap.Ns L m := fun ⟨o, es, ep, e, d, r⟩ => ⟨o, es, ep, (e0.bs _ _ e).1, d, r⟩
  have lim : s.heap.NoLimit := e0.mod.nolimit.keeps fun b o e => (e0.bs b o e).1
  obtain ⟨hp, g, d, t, os⟩ := s
  refine run_sup S Z T KX (ns_ e0.mod.glob) (ns_ hmb) hbb lim hr.depth hr.units hev hint hsw1 hsw2 htop haK hx args hbd (fun h' tk dx t1 k hd ne hx' hn => ?_)
  have nH : H dx = none := e0.hok.fresh hd
  have old : ∀ {b : Addr} {o : Obj}, hp.get? b = some o → b ≠ dx := fun e z => absurd (Heap.lt_size (z ▸ e)) (Nat.not_lt.mpr hd)
  have sep : ∀ {b : Addr}, H b = none → b ≠ a := fun n z => by rw [z, ha] at n; cases n
  refine ⟨.non, upd (upd H dx (exd dx [(fld, y)])) a (exo a C (some dx)), rfl, e0.bare, ⟨fun b o e n _ _ => k b o (sep n) e, fun b o e n _ _ => ⟨o.slots, k b o (sep n) e⟩, fun b o e n _ => ?_, fun b o e _ => ?_, fun b xs e => ?_, fun b o u e => ?_, fun b ps e => ?_⟩, fun b o e => ?_, rfl, q dx nH ne⟩
  · rw [upd_ne (sep n), upd_ne (old e)]
    exact n
  · by_cases c : b = a
    · exact ⟨_, by rw [c]; exact hx'⟩
    · exact ⟨o, k b o c e⟩
  · rw [upd_ne (at_ne ha e exo_tup), upd_ne (ne_of_none e nH)]
    exact e
  · rw [upd_ne (at_ne ha e exo_frz), upd_ne (ne_of_none e nH)]
    exact e
  · exact ⟨#[], by rw [upd_ne (at_ne ha e exo_tbl), upd_ne (ne_of_none e nH), e]; simp⟩
  · by_cases c : b = a
    · subst c
      rw [upd_same] at e
      cases e
      exact exo_ok hx'
    rw [upd_ne c] at e
    by_cases c2 : b = dx
    · subst c2
      rw [upd_same] at e
      cases e
      exact exd_ok hn (relO_put (fs := []) r2 fun _ => True.intro)
    rw [upd_ne c2] at e
    refine (e0.hok b o e).stay (fun c' v' hc z => k c' v' ?_ z) (fun c' hc => ?_) (fun c' xs hc => ?_)
    · rcases hc with hc | hc
      · rw [hc]; exact c
      · exact at_ne ha hc exo_own
    · rw [upd_ne (at_ne ha hc exo_own), upd_ne (ne_of_none hc nH)]
      exact hc
    · rw [upd_ne (at_ne ha hc exo_tup), upd_ne (ne_of_none hc nH)]
      exact hc
end
end Ys
namespace Ys
open PySem PySem.Spec PyProof.Rows L2 PySem.W PySem.Calls
section
variable {prog : Program} {w : World} {A : Around} {E : Value → Shared → Prop} {s : Shared} {K : Frag} {x D : Addr} {ox : Obj} {od : Option Obj}
theorem exc_class {Q : Option Value → Shared → Prop} (C : ExcC K D) (X : K.In s.heap) (I : InstAt s.heap x ox D od) (h : Q (some (.ref D)) { s with toks := s.toks + 1 }) : wpAny (model prog w) A (getAttr? (.ref x) "__class__") Q E s := by
  obtain ⟨hga, hgt, hsub, hdct, ha, hn, htk, hm⟩ := C
  have hc1 : (clsIn K D).isSome = true := by obtain ⟨cd, hc, _⟩ := any_some hdct; rw [hc]; rfl
  have hf : findObj K D od "__class__" = some (.bind (.builtin "getset_descriptor.__get__") (.builtin "object.__class__")) := by
    cases od with
    | none => exact findObj_dataN hc1 ha hn htk
    | some od => exact findObj_data hc1 ha hn htk
  obtain ⟨hp, g, d, t, os⟩ := s
  have M0 := I.type (M := model prog w); have M1 := looks_findIn (M := model prog w) X hga; have M2 := looks_findIn (M := model prog w) X hgt; have M3 := looks_find (M := model prog w) X I hf
  have isB : Looks (model prog w) hp (isInstance (.ref x) (.type "BaseException")) true := M0.andThen (looks_subIn X hsub)
  have n2 : (Value.builtin "BaseException.__getattribute__" == Value.builtin "object.__getattribute__") = false := by decide +kernel
  have n1 : (onTheHeap (Value.ref D) && Value.builtin "BaseException.__getattribute__" == Value.builtin "object.__getattribute__") = false := by rw [n2]; rfl
  unfold getAttr? getAttrBy? getAttrBy; refine wpAny_bind (wpAny_mkText (wpAny_bind (wpAny_attempt (wpAny_holding (wpAny_bind (M0.at (wpAny_bind (M1.at ?_))))))))
  refine (show wpAny _ _ (if (onTheHeap (Value.ref D) && Value.builtin "BaseException.__getattribute__" == Value.builtin "object.__getattribute__") = true then _ else _) _ _ _ from ?_)
  rw [n1, if_neg Bool.false_ne_true]; unfold getAttrByItsOwn hookBefore; refine wpAny_bind ?_
  rw [if_pos (show onTheHeap (Value.ref D) = true from rfl)]; refine M2.at (wpAny_bind (wpAny_attempt (wpAny_holding ?_)))
  unfold callGetattribute; rw [show (false && onTheHeap (Value.builtin "BaseException.__getattribute__")) = false from rfl, if_neg Bool.false_ne_true]
  unfold boundAndCalled; rw [PySem.F.excAttr_ValueError.ga.bind (.ref x)]; refine wpAny_bind (wpAny_pure ?_)
  refine (show wpAny _ _ (call (.builtin "BaseException.__getattribute__") [.ref x, .str "__class__" t]) _ _ _ from wpAny_call (codeAny_call_builtin PySem.F.excAttr_ValueError.ga.plain PySem.F.entry_bexc_ga ?_))
  refine @check_slot (model prog w) _ _ ⟨hp, g, d, t + 1, os⟩ "BaseException.__getattribute__" "BaseException" "__getattribute__" (.ref x) [.str "__class__" t] [] _ (by decide +kernel) (by decide +kernel) isB (PySem.F.args_bexc_ga (.ref x) (.str "__class__" t)) ?_
  unfold Builtin.«object.__getattribute__»; refine wpAny_bind (wpAny_of_eq (a := ((Value.ref x : Value), [Value.str "__class__" t])) (by first | rfl | (simp only [slotArgs]; rfl)) (wpAny_bind (wpAny_pure (wpAny_bind (M0.at (wpAny_bind (M3.at ?_)))))))
  refine (show wpAny _ _ (holding [Value.builtin "object.__class__"] (call (.builtin "getset_descriptor.__get__") [.builtin "object.__class__", .ref x, .ref D]) >>= ret) _ _ _ from wpAny_bind (wpAny_holding (wpAny_call (class_get (s := ⟨hp, g, d, t + 1, os⟩) (ox := ox) (od := od) X I hm (wpAny_pure ?_)))))
  refine (show wpAny _ _ (handedOut (.ref D)) _ _ _ from ?_)
  rw [handedOut_of (v := .ref D) rfl]
  first | exact wpAny_pure (wpAny_pure h) | exact wpAny_pure h | exact wpAny_pure (wpAny_bind (wpAny_pure (wpAny_pure h)))
theorem kitx_exc (C : ExcC K D) : KitX K (.ref x) (.ref D) (fun h => InstAt h x ox D od) :=
  ⟨fun _ _ _ I => I.type, (fun M h X _ A' Q' E' s' k q => by obtain ⟨cdD, hcD, _⟩ := any_some C.hd; unfold clsIn at hcD; split at hcD; (· rename_i ho; unfold isType loadHead; exact wpAny_bind (wpAny_loadPart (k _ _ (X _ _ ho)) (wpAny_pure q))); (· cases hcD)), (fun h tp dd its n sl X htp => by
    obtain ⟨cdD, hcD, _⟩ := any_some C.hd
    refine Bool.eq_false_iff.mpr fun q => ?_
    obtain rfl : D = tp := Value.ref.inj (beq_iff_eq.mp q)
    unfold clsIn at hcD
    split at hcD
    · rename_i ho
      have z := (X _ _ ho).symm.trans htp
      cases z
    · cases hcD), fun X I k => exc_class C X I k⟩
end
section
def rIsX (K : Frag) (D a : Addr) (cls : Value) (d : Option Addr) : List V → Hp → VK → Prop := fun xs H Q => ∃ (c : V) (cv : Value) (b : Bool) (dd : Addr) (fs : List (Str × V)), xs = [.ref a, c] ∧ cls = .ref D ∧ ClsV c cv ∧ kitOne K (.ref D) cv = some b ∧ d = some dd ∧ H dd = some (.xd fs) ∧ Q (.bl b) H
theorem call_isX {X : Cx} {a D : Addr} {cls : Value} {d : Option Addr} {oe : Obj} {pn : List (Addr × Obj)} (C : ExcC X.K D) (hz : Zc cls d oe) (hf : ∃ vs, oe.data = .fields vs) : CallR (X.suite a ((a, oe) :: pn)) (.builtin "isinstance") (rIsX X.K D a cls d) := by
  intro pins s σ H xs us Q I r ⟨c, cv, b, dd, fs, e1, e0, hc, e2, e3, hd, q⟩
  subst e1 e0
  obtain ⟨u1, u2, rfl, r1, r2⟩ := vals2 r
  obtain rfl : u1 = Value.ref a := r1
  obtain rfl := hc.eq r2
  subst e3
  obtain ⟨hget, _⟩ := I.pin (a, oe) (List.mem_append_left _ List.mem_cons_self)
  obtain ⟨mA, hns, _⟩ := (show ObjOk X.prog X.w H s.heap dd (.xd fs) from I.hok dd _ hd)
  obtain ⟨od, ho, _⟩ := lookIn_ns hns
  obtain ⟨vs, hv⟩ := hf
  have J : InstAt s.heap a oe D (some od) := ⟨hget, hz.1, (by unfold notCls; rw [hv]), by rw [hz.2]; exact ho⟩
  exact kia_one (kitx_exc (ox := oe) (od := some od) C) I.kIn J e2 (fun z => nomatch z) fun tk => ⟨.bl b, H, I.kept (t' := tk) fun _ _ z => z, rfl, q⟩
end
end Ys
namespace Ys
open PySem PySem.Spec PyProof.Rows L2
/-! ### raise C(e), C an own class with super().__init__(x), self.fld = x -/
structure ExcS (P : Program) (w : World) (K : PySem.W.Frag) (mg : Str → Option Value) (base : Heap) (C : Addr) (x fld : Str) : Prop where
  T : OexC K C
  ex : ∃ fI fd pn, PySem.W.findIn K (.ref C) "__init__" = some (some (.ref fI)) ∧ PySem.W.typeIn K (.ref fI) = some (.type "function") ∧ FnOk P w K mg base CX0 1 fI fd ["self", pn] (spSup K C fld) ∧ Binds K fd ["self", pn] []
  gC : mg x = some (.ref C)
section
variable {X : Cx} {K : PySem.W.Frag} {P : Program} {w : World} {G G1 H : Hp} {M : List (Addr × HO)} {σ : L2.St} {D : Ends} {te : TE} {C : Addr} {x fld : Str} {W : WX} {y : V} {e : Expr} {p pos pos' : Pos} {q : XK}
def RsW (K : PySem.W.Frag) (C : Addr) (fld : Str) (y : V) (H1 : Hp) (q : XK) : Prop := [y].length ≤ 1000 ∧ ∀ a, H1 a = none → spSup K C fld (.ref a :: ([y] ++ [])) (upd H1 a (exo a C none))
  (fun v H2 => v = .non ∧ ∃ (d : Addr) (fs : List (Str × V)), H2 a = some (exo a C (some d)) ∧ H2 d = some (exd d fs) ∧ H1 d = none ∧ q (.ref C) (some d) (upd (del H2 a) d (.xd fs))) (fun _ _ _ => False)
def sRs (K : PySem.W.Frag) (C : Addr) (fld : Str) (te : TE) (W : WX) : TS := fun _ σ H => te σ H fun y H1 => RsW K C fld y H1 fun cls d H' => W cls d σ H'
theorem ps_rs (S : ExcS X.prog X.w X.K X.mg X.base C x fld) (hc : X.calm = true) (tk : Takes X W) (hr : Room 2 X.A) (hg : Gl X x) (he : PE X e te)
    (hdb : (x == ("__debug__" : Str)) = false := by decide) (hst : starEach [e] X.env = (false, eval e X.env) :: starEach [] X.env := by rfl) (hpl : (backTo pos (starEach [] X.env)).any (·.1) = false := by rfl) :
    PS X (.Raise (some (.Call (.Name x p) [e] [] pos)) none pos') (sRs X.K C fld te W) := by
  obtain ⟨fI, fd, pn, iC, tI, F, hb⟩ := S.ex
  exact ps_raise hc tk (pmk_oex (ta := tCons te tNil) S.T iC tI F hr hb .nil pass0 hg S.gC (pa_cons he pa_nil hst) hdb hst hpl)
theorem z_rs (h : te σ H fun y H1 => RsW K C fld y H1 fun cls d H' => W cls d σ H') : sRs K C fld te W D σ H := h
theorem z_rsI (h : ∀ dx, H dx = none → q (.ref C) (some dx) (upd H dx (.xd [(fld, y)]))) : RsW K C fld y H q := by
  refine ⟨by show 1 ≤ 1000; decide, fun a ha => ⟨a, y, rfl, upd_same, fun dx hdx ne => ⟨rfl, dx, [(fld, y)], upd_same, ?_, ?_, ?_⟩⟩⟩
  · rw [upd_ne ne, upd_same]
  · rw [upd_ne ne] at hdx
    exact hdx
  · rw [upd_ne ne] at hdx
    have e1 : upd (del (upd (upd (upd H a (exo a C none)) dx (exd dx [(fld, y)])) a (exo a C (some dx))) a) dx (.xd [(fld, y)]) = upd H dx (.xd [(fld, y)]) := by
      funext b
      by_cases c : b = dx
      · rw [c, upd_same, upd_same]
      · rw [upd_ne c, upd_ne c]
        by_cases c2 : b = a
        · rw [c2, del_same, ha]
        · rw [del_ne c2, upd_ne c2, upd_ne c, upd_ne c2]
    rw [e1]
    exact h dx hdx
end
end Ys
namespace Ys
open PySem PySem.Spec PyProof.Rows L2
section
variable {X : Cx} {K : PySem.W.Frag} {G G1 H : Hp} {M : List (Addr × HO)} {σ : L2.St} {Q : VK} {te : TE} {t : TA} {d : PyData} {ds : List PyData} {v : V} {xs : List V} {a : Addr} {i : Int}
def rStr1 : List V → Hp → VK → Prop := fun xs H Q => ∃ s, xs = [.str s] ∧ Q (.str s) H
theorem c_str : CallR X (.type "str") rStr1 := SkE.call_str_str
theorem z_str1 {s : Str} (q : Q (.str s) H) : rStr1 [.str s] H Q := ⟨s, rfl, q⟩
theorem z_rep {n : Int} (z : Zp G M H) (h : G a = some (.lst xs)) (h0 : 0 ≤ n) (h1 : n ≤ 1000) (hl : xs.length * n.toNat ≤ 100000) (q : ∀ p G1 H1, Zp G1 M H1 → Same G G1 → G1 p = some (.lst (List.replicate n.toNat xs).flatten) → Q (.ref p) H1) : rRep (.ref a) (.int n) H Q :=
  ⟨a, n, xs, rfl, rfl, z.sub _ _ h, by omega, by omega, Nat.le_trans hl (by decide), fun p hp => q p _ _ (z.new hp _) (Same.new (z.free hp)) upd_same⟩
theorem z_neg (q : Q (.int (-i)) H) : rU (fun i => V.int (-i)) (.int i) H Q := ⟨i, rfl, q⟩
/-! ### literals, as data -/
def LitW (K : PySem.W.Frag) (te : TE) (d : PyData) : Prop := ∀ σ G M H Q, Zp G M H → (∀ v G1 H1, Zp G1 M H1 → Same G G1 → Dt K G1 v d → Q v H1) → te σ H Q
def LitA (K : PySem.W.Frag) (t : TA) (ds : List PyData) : Prop := ∀ σ G M H Q, Zp G M H → (∀ vs G1 H1, Zp G1 M H1 → Same G G1 → Dts K G1 vs ds → Q vs H1) → t σ H Q
theorem lit_c (h : ∀ G, Dt K G v d) : LitW K (tC v) d := fun _ G _ H _ z q => q v G H z (Same.refl G) (h G)
theorem lit_int (i : Int) : LitW K (tC (.int i)) (.int i) := lit_c fun _ => .int i
theorem lit_str (s : Str) : LitW K (tC (.str s)) (.str s) := lit_c fun _ => .str s
theorem lit_bl (b : Bool) : LitW K (tC (.bl b)) (.bool b) := lit_c fun _ => .bl b
theorem lit_non : LitW K (tC .non) .none := lit_c fun _ => .non
theorem lit_nil : LitA K tNil [] := fun _ G _ H _ z q => q [] G H z (Same.refl G) .nil
theorem lit_cons (h1 : LitW K te d) (h2 : LitA K t ds) : LitA K (tCons te t) (d :: ds) := fun σ G M H Q z q =>
  h1 σ G M H _ z fun v G1 H1 z1 s1 d1 => h2 σ G1 M H1 _ z1 fun vs G2 H2 z2 s2 d2 => q (v :: vs) G2 H2 z2 (s1.trans s2) (.cons (d1.up s2) d2)
theorem lit_tup (h : LitA K t ds) (hl : ds.length ≤ 1000) : LitW K (tTup t) (.tuple ds) := fun σ G M H Q z q =>
  h σ G M H _ z fun vs G1 H1 z1 s1 d1 => z_newT z1 (by rw [d1.len (ds := [])]; omega) fun p G2 H2 z2 s2 e2 => q _ G2 H2 z2 (s1.trans s2) (.tup (SqT.of e2) (d1.up s2))
theorem lit_lst (h : LitA K t ds) (hl : ds.length ≤ 1000) : LitW K (tLst t) (.list ds) := fun σ G M H Q z q =>
  h σ G M H _ z fun vs G1 H1 z1 s1 d1 => z_newL z1 (by rw [d1.len (ds := [])]; omega) fun p G2 H2 z2 s2 e2 => q _ G2 H2 z2 (s1.trans s2) (.lst (SqL.of e2) (d1.up s2))
theorem lit_neg (h : LitW K te (.int i)) : LitW K (tUn (rU fun i => V.int (-i)) te) (.int (-i)) := fun σ G M H Q z q =>
  h σ G M H _ z fun v G1 H1 z1 s1 d1 => by cases d1; exact z_neg (q _ G1 H1 z1 s1 (.int _))
theorem lit_pow (i j : Int) (h : CPow i j) : LitW K (tOp rPowG (tC (.int i)) (tC (.int j))) (.int (i ^ j.toNat)) := fun σ G M H Q z q => z_op (z_c (z_c (z_I h (q _ G H z (Same.refl G) (.int _)))))
theorem lit_dict0 : LitW K tDNewK (.dict []) := fun σ G M H Q z q p hp => q _ _ _ (z.new hp _) (Same.new (z.free hp)) (.dct (.inl upd_same) rfl .nil)
theorem lit_dict1 {k : Str} (h : LitW K te d) : LitW K (tDisp [(tC (.str k), te)]) (.dict [(.str k, d)]) := fun σ G M H Q z q =>
  z_disp z fun p H1 z1 => z_pc (z_c (h σ G _ H1 _ z1 fun v G2 H2 z2 s2 d2 => z_pn (z_dispE z2 [(.inr k, v)] rfl (by show 1 ≤ 15; decide) fun H3 z3 => by
    have fr : G2 p = none := (z3.own M.length p _ last_at).2
    exact q _ _ H3 z3.fix (s2.trans (Same.new fr)) (.dct (.inl upd_same) rfl (.cons (d2.up (Same.new fr)) .nil)))))
theorem lit_list (h : LitA K t ds) (hl : ds.length ≤ 1000) (z : Zp G M H) (q : ∀ p xs G1 H1, Zp G1 M H1 → Same G G1 → G1 p = some (.lst xs) → Dts K G1 xs ds → Q (.ref p) H1) : tLst t σ H Q :=
  h σ G M H _ z fun vs G1 H1 z1 s1 d1 => z_newL z1 (by rw [d1.len (ds := [])]; omega) fun p G2 H2 z2 s2 e2 => q p _ G2 H2 z2 (s1.trans s2) e2 (d1.up s2)
theorem Dts.app : ∀ {xs ys : List V} {ds es : List PyData}, Dts K G xs ds → Dts K G ys es → Dts K G (xs ++ ys) (ds ++ es)
  | _, _, _, _, .nil, h => h
  | _, _, _, _, .cons a b, h => .cons a (Dts.app b h)
theorem Dts.mem : ∀ {xs : List V} {ds : List PyData} {v : V}, Dts K G xs ds → v ∈ xs → ∃ d, d ∈ ds ∧ Dt K G v d
  | _, _, _, .nil, h => by cases h
  | _, _, _, .cons a b, h => by
    rcases List.mem_cons.mp h with rfl | h
    · exact ⟨_, List.mem_cons_self .., a⟩
    · obtain ⟨d, h1, h2⟩ := Dts.mem b h
      exact ⟨d, List.mem_cons_of_mem _ h1, h2⟩
end
end Ys
namespace Ys
open PySem PySem.Spec PyProof.Rows L2
/-! ### a class made, which may raise -/
section
variable {X : Cx} {k n m : Nat} {C dx : Addr} {x : Str} {ks : List Str} {gV : List V → List V → List V} {sp : Sp} {W : WX} {t tk : TA} {p pos : Pos} {e : Expr} {es : List Expr} {kws : List Keyword} {G H : Hp} {M : List (Addr × HO)} {σ : L2.St} {Q : VK} {vs zs : List V}
def MkWS (C : Addr) (n m : Nat) (sp : Sp) (gV : List V → List V → List V) (E : XK) (vs zs : List V) (H2 : Hp) (Q : VK) : Prop := vs.length = n ∧ zs.length = m ∧ ∀ x dx, H2 x = none → H2 dx = none → dx ≠ x →
  sp (gV (.ref x :: vs) zs) (upd (upd H2 dx (.own x)) x (.ins C dx [])) (fun v H3 => v = .non ∧ Q (.ref x) H3) E
def tMkS (C : Addr) (n m : Nat) (sp : Sp) (gV : List V → List V → List V) (W : WX) (t tk : TA) : TE := fun σ H Q => t σ H fun vs H1 => tk σ H1 fun zs H2 => MkWS C n m sp gV (WE W σ) vs zs H2 Q
theorem pe_mkX (R : MkS X.prog X.w X.K X.mg X.base (L2.CX X.prog X.w) k C x n ks gV sp) (hr : Room (k + 1) X.A) (hg : Gl X x) (tx : Takes X W) (ha : PA X (e :: es) t) (hkw : PK X kws tk)
    (hall : (backToKw pos (keywordEach kws X.env)).all (·.1.isSome) = true := by rfl) (hks : (backToKw pos (keywordEach kws X.env)).filterMap (·.1) = ks := by rfl) (hdb : (x == ("__debug__" : Str)) = false := by decide)
    (he : starEach (e :: es) X.env = (false, eval e X.env) :: starEach es X.env := by rfl) (hpl : ((backTo pos (starEach (e :: es) X.env)).any (·.1) || (backToKw pos (keywordEach kws X.env)).any (·.1.isNone)) = false := by rfl) :
    PE X (.Call (.Name x p) (e :: es) kws pos) (tMkS C n ks.length sp gV W t tk) := by
  obtain ⟨f, fd, ps, g, mk, F, hm, hb⟩ := R.ex
  refine ⟨fun pins s σ H Q I h => wpAny_Call_Name_kw (ld_glob I hg hm ?_ hdb)⟩
  refine PySem.W.callWith_KW (h₀ := X.base) I.ok.mod.kin mk.kp hall (thn (ha.run pos pins s σ H _ I h) fun us s1 ⟨vs, H1, I1, r, q⟩ => ?_) hpl he
  refine thn (hkw.run pos pins s1 σ H1 _ I1 q) fun ws s2 ⟨zs, H2, I2, rz, l1, l2, q2⟩ => ⟨I2.kIn, ?_⟩
  rw [hks]
  -- the object, its dict, then __init__
  have fx := I2.hok.fresh (Nat.le_succ s2.heap.objs.size); have fd := I2.hok.fresh (Nat.le_refl s2.heap.objs.size)
  have hq := q2 (s2.heap.objs.size + 1) s2.heap.objs.size fx fd (Nat.ne_of_lt (Nat.lt_succ_self _))
  have J := Inv.made (C := C) I2
  have ra : Vals (V.ref (s2.heap.objs.size + 1) :: vs) (Value.ref (s2.heap.objs.size + 1) :: us) := .cons rfl r
  have na : (Value.ref (s2.heap.objs.size + 1) :: us).length = n + 1 := by rw [List.length_cons, ← r.length, l1]
  refine wpAny_call (make_map (f := f) I2.kIn mk.makes mk.init (beq_iff_eq.mp mk.fn) (codeAny_mono (F.run _ X.stack _ _ ⟨Value.ref (s2.heap.objs.size + 1) :: us, ks.zip ws⟩ (g (Value.ref (s2.heap.objs.size + 1) :: us) ws) _ _ (WE W σ) (hr.make C us (ks.zip ws))
    (J.env0.make C us (ks.zip ws)) (hb.to _ _ ws J.kIn na (rz.length.symm.trans l2)) (hb.rel ra rz) hq) fun rr s' hz => ?_))
  match rr, hz with
  | .error er, hz => exact passAt tx σ pins _ _ er s' J hz
  | .ok (.ret u), hz =>
    obtain ⟨v, H', I3, rv, ev, q3⟩ := J.after hz
    subst ev
    exact ⟨rv, ⟨V.ref (s2.heap.objs.size + 1), H', I3, rfl, q3⟩⟩
  | .ok .next, hz => exact hz.elim
  | .ok .brk, hz => exact hz.elim
  | .ok .cont, hz => exact hz.elim
theorem z_mkS (h : t σ H fun vs H1 => tk σ H1 fun zs H2 => MkWS C n m sp gV (WE W σ) vs zs H2 Q) : tMkS C n m sp gV W t tk σ H Q := h
theorem z_mkSI {E : XK} (z : Zp G M H) (l1 : vs.length = n) (l2 : zs.length = m) (q : ∀ x dx H1, Zp (upd G dx (.own x)) (M ++ [(x, .ins C dx [])]) H1 → Same G (upd G dx (.own x)) → sp (gV (.ref x :: vs) zs) H1 (fun v H3 => v = .non ∧ Q (.ref x) H3) E) : MkWS C n m sp gV E vs zs H Q :=
  ⟨l1, l2, fun x dx hx hd ne => q x dx _ ((z.new hd _).add (by rw [upd_ne (Ne.symm ne)]; exact hx) _) (Same.new (z.free hd))⟩
end
end Ys
namespace Ys
open PySem PySem.Spec PyProof.Rows L2 StX
section
variable {X : Cx} {K : PySem.W.Frag} {P : Program} {w : World} {G G1 H : Hp} {M M1 : List (Addr × HO)} {σ : L2.St} {Q : VK} {QB : Bool → Hp → Prop} {QA : List V → Hp → Prop} {D : Ends} {ta te tb tv : TE} {t tk : TA} {A B : Prop} {v x y : V} {i j : Int} {a b p : Addr} {xs ys vs zs : List V} {o : HO} {d : PyData}
/-! ### a list or tuple, spread -/
def StW (K : PySem.W.Frag) (x : V) (H : Hp) (R : List V → Prop) : Prop := ∃ p xs, x = V.ref p ∧ (SqT K H p xs ∨ SqL K H p xs) ∧ R xs
theorem z_star (h : te σ H fun x H1 => StW K x H1 fun xs => t σ H1 fun ys H2 => QA (xs ++ ys) H2) : tStar K te t σ H QA := h
theorem z_stL {R : List V → Prop} (h : SqL K H a xs) (q : R xs) : StW K (.ref a) H R := ⟨a, xs, rfl, .inr h, q⟩
theorem z_stT {R : List V → Prop} (h : SqT K H a xs) (q : R xs) : StW K (.ref a) H R := ⟨a, xs, rfl, .inl h, q⟩
theorem k_star {e : Expr} {pos : Pos} {es : List Expr} (he : PE X e te) (hr : PA X es t) (q : X.K = K := by rfl) (hs : starEach (.Starred e pos :: es) X.env = (true, eval e X.env) :: starEach es X.env := by rfl) : PA X (.Starred e pos :: es) (tStar K te t) := q ▸ pa_star he hr hs
/-! ### dicts of the written part, with text keys -/
structure TabD (K : PySem.W.Frag) (w : World) (a : Addr) (kvs : List (Str × V)) : Prop where
  kd : ∃ es n, KDict K w a es n
  hit : ∀ z v, kvs.lookup z = some v → ∃ u, PySem.W.nsIn K a z = some (some u) ∧ RelV v u
  miss : ∀ z, kvs.lookup z = none → PySem.W.nsIn K a z = some none
def rInKD (K : PySem.W.Frag) (w : World) (neg : Bool) : R2 := fun x y H Q => ∃ (z : Str) (a : Addr) (kvs : List (Str × V)), x = .str z ∧ y = .ref a ∧ TabD K w a kvs ∧ Q (.bl (if neg then !(kvs.lookup z).isSome else (kvs.lookup z).isSome)) H
theorem op_inKD : OpR X (compareOp .In) (rInKD X.K X.w false) := by
  intro pins s σ H x y v u Q I rx ry ⟨z, a, kvs, e1, e2, T, q⟩
  subst e1 e2
  obtain ⟨es, n, D⟩ := T.kd
  cases c : kvs.lookup z with
  | none =>
    rw [c] at q
    exact op_in_kd D pins s σ H _ _ v u Q I rx ry ⟨z, none, rfl, rfl, T.miss z c, q⟩
  | some v0 =>
    rw [c] at q
    obtain ⟨u0, e, _⟩ := T.hit z v0 c
    exact op_in_kd D pins s σ H _ _ v u Q I rx ry ⟨z, some u0, rfl, rfl, e, q⟩
theorem op_notInKD : OpR X (compareOp .NotIn) (rInKD X.K X.w true) := by
  intro pins s σ H x y v u Q I rx ry ⟨z, a, kvs, e1, e2, T, q⟩
  subst e1 e2
  obtain ⟨es, n, D⟩ := T.kd
  cases c : kvs.lookup z with
  | none =>
    rw [c] at q
    exact op_notIn_kd D pins s σ H _ _ v u Q I rx ry ⟨z, none, rfl, rfl, T.miss z c, q⟩
  | some v0 =>
    rw [c] at q
    obtain ⟨u0, e, _⟩ := T.hit z v0 c
    exact op_notIn_kd D pins s σ H _ _ v u Q I rx ry ⟨z, some u0, rfl, rfl, e, q⟩
theorem k_inD (e : X.K = K := by rfl) (e2 : X.w = w := by rfl) : OpR X (compareOp .In) (fun x y H Q => rInG K false x y H Q ∨ rInKD K w false x y H Q) := by
  subst e; subst e2
  exact o_in.or op_inKD
theorem k_notInD (e : X.K = K := by rfl) (e2 : X.w = w := by rfl) : OpR X (compareOp .NotIn) (fun x y H Q => rInG K true x y H Q ∨ rInKD K w true x y H Q) := by
  subst e; subst e2
  exact o_notIn.or op_notInKD
theorem k_ixD (e : X.K = K := by rfl) (e2 : X.w = w := by rfl) : IxR X (rIxD K w) := by
  subst e; subst e2
  exact ix_kdict
theorem z_inKD {z : Str} {kvs : List (Str × V)} (T : TabD K w a kvs) (q : Q (.bl (kvs.lookup z).isSome) H) : rInG K false (.str z) (.ref a) H Q ∨ rInKD K w false (.str z) (.ref a) H Q := .inr ⟨z, a, kvs, rfl, rfl, T, q⟩
theorem z_notInKD {z : Str} {kvs : List (Str × V)} (T : TabD K w a kvs) (q : Q (.bl (!(kvs.lookup z).isSome)) H) : rInG K true (.str z) (.ref a) H Q ∨ rInKD K w true (.str z) (.ref a) H Q := .inr ⟨z, a, kvs, rfl, rfl, T, q⟩
theorem z_ixKD {z : Str} {kvs : List (Str × V)} (T : TabD K w a kvs) (l : kvs.lookup z = some v) (q : Q v H) : rIxD K w (.ref a) (.str z) H Q := by
  obtain ⟨es, n, D⟩ := T.kd
  obtain ⟨u, e, r⟩ := T.hit z v l
  exact ⟨a, z, v, rfl, rfl, ⟨es, n, u, D.at_, D.lit, e, r⟩, q⟩
/-! ### is False -/
theorem k_isB (e : X.K = K := by rfl) : OpR X (compareOp .Is) rIsB := op_isBl
theorem k_notB (e : X.K = K := by rfl) : OpR X (compareOp .IsNot) rNotB := op_notBl
theorem z_isBl {a b : Bool} (q : Q (.bl (decide (a = b))) H) : rIsB (.bl a) (.bl b) H Q := ⟨a, b, rfl, rfl, q⟩
theorem z_notBl {a b : Bool} (q : Q (.bl (!decide (a = b))) H) : rNotB (.bl a) (.bl b) H Q := ⟨a, b, rfl, rfl, q⟩
/-! ### any -/
def rAnyG (K : PySem.W.Frag) : List V → Hp → VK → Prop := fun vs H Q => ∃ (a : Addr) (bs : List Bool), vs = [V.ref a] ∧ SqL K H a (bs.map V.bl) ∧ Q (.bl (bs.any id)) H
theorem kc_any (hc : X.calm = true) (e : X.K = K := by rfl) : CallR X (.builtin "any") (rAnyG K) := by subst e; exact cr_any hc
theorem z_any {bs : List Bool} (h : SqL K H a (bs.map V.bl)) (q : Q (.bl (bs.any id)) H) : rAnyG K [.ref a] H Q := ⟨a, bs, rfl, h, q⟩
/-! ### what may raise, called within what takes it -/
theorem passX0 : Passes (L2.CX X.prog X.w) X E0 := fun _ _ _ _ _ _ _ ⟨_, _, _, _, _, _, _, _, _, _, _, _, z⟩ => z.elim
theorem pe_ownX {k : Nat} {x : Str} {ps : List Str} {sp : Sp} {W : WX} {p pos : Pos} {e : Expr} {es : List Expr} {t : TA} (C : Own X.prog X.w X.K X.mg X.base (L2.CX X.prog X.w) k x ps sp) (hr : Room k X.A) (hg : Gl X x) (tx : Takes X W) (ha : PA X (e :: es) t)
    (hdb : (x == ("__debug__" : Str)) = false := by decide) (he : starEach (e :: es) X.env = (false, eval e X.env) :: starEach es X.env := by rfl) (hpl : (backTo pos (starEach es X.env)).any (·.1) = false := by rfl) :
    PE X (.Call (.Name x p) (e :: es) [] pos) (tCallS sp (WE W) t) := by
  obtain ⟨f, fd, F, hm, hk, hb⟩ := C.ex
  exact ⟨fun pins s σ H Q I h => (pe_callS F hr hg hm hk hb (fun σ => passAt tx σ) ha hdb he hpl).run pins s σ H Q I h⟩
theorem z_callS {sp : Sp} {E : L2.St → XK} (h : t σ H fun vs H1 => sp vs H1 Q (E σ)) : tCallS sp E t σ H Q := h
structure OwnK (P : Program) (w : World) (K : PySem.W.Frag) (mg : Str → Option Value) (base : Heap) (CX : CXT) (k : Nat) (x : Str) (ps ks : List Str) (sp : Sp) : Prop where
  ex : ∃ f fd g, FnOk P w K mg base CX k f fd ps sp ∧ mg x = some (.ref f) ∧ PySem.W.keepIn K (.ref f) = true ∧ KBn K fd ps 0 ks g fun vs zs => vs ++ zs
def tOwnK (n : Nat) (sp : Sp) (E : XK) (tk : TA) : TE := fun σ H Q => tk σ H fun zs H1 => zs.length = n ∧ sp zs H1 Q E
theorem pe_ownK0 {CX : CXT} {k : Nat} {x : Str} {ps ks : List Str} {sp : Sp} {E : XK} {p pos : Pos} {kws : List Keyword} (C : OwnK X.prog X.w X.K X.mg X.base CX k x ps ks sp) (hr : Room k X.A) (hg : Gl X x) (hx : Passes CX X E) (hkw : PK X kws tk)
    (hall : (backToKw pos (keywordEach kws X.env)).all (·.1.isSome) = true := by rfl) (hks : (backToKw pos (keywordEach kws X.env)).filterMap (·.1) = ks := by rfl) (hdb : (x == ("__debug__" : Str)) = false := by decide)
    (hpl : ((backTo pos (starEach [] X.env)).any (·.1) || (backToKw pos (keywordEach kws X.env)).any (·.1.isNone)) = false := by rfl) : PE X (.Call (.Name x p) [] kws pos) (tOwnK ks.length sp E tk) := by
  obtain ⟨f, fd, g, F, hm, hk, hb⟩ := C.ex
  refine ⟨fun pins s σ H Q I h => wpAny_Call_Name_kw (ld_glob I hg hm ?_ hdb)⟩
  refine PySem.W.callWith_KW0 (h₀ := X.base) I.ok.mod.kin hk hall ?_ hpl
  refine thn (hkw.run pos pins s σ H _ I h) fun ws s2 ⟨zs, H2, I2, rz, l2, q2⟩ => ⟨I2.kIn, ?_⟩
  rw [hks]
  refine wpAny_call (codeAny_mono (F.run X.A X.stack s2 H2 ⟨[], ks.zip ws⟩ (g [] ws) ([] ++ zs) Q E hr I2.env0 (hb.to s2 [] ws I2.kIn rfl (rz.length.symm.trans l2)) (hb.rel .nil rz) q2) fun rr s' hq => ?_)
  match rr, hq with
  | .error er, hq => exact hx pins σ H2 s2 er s' I2 hq
  | .ok (.ret u), hq => exact I2.after hq
  | .ok .next, hq => exact hq.elim
  | .ok .brk, hq => exact hq.elim
  | .ok .cont, hq => exact hq.elim
theorem z_ownK {n : Nat} {sp : Sp} {E : XK} (h : tk σ H fun zs H1 => zs.length = n ∧ sp zs H1 Q E) : tOwnK n sp E tk σ H Q := h
end
end Ys
namespace Ys
open PySem PySem.Spec PyProof.Rows L2
/-! ### set(dict): the keys are texts -/
section
variable {P : Program} {w : World} {A : Around} {E : Value → Shared → Prop} {s : Shared}
theorem laid_nil (m f mv : Nat) (led pl : Bool) : SetTable.laid m f mv led pl #[] = some ({ mask := m, place := #[], dummies := #[], finger := f, led, moves := mv, plain := pl }, #[]) := by
  have e : SetTable.layClean m #[] = some (Array.replicate (m + 1) none) := rfl
  have e2 : ((List.range (m + 1)).filterMap fun j => ((Array.replicate (m + 1) (none : Option Nat)).getD j none).map (j, ·)) = [] := by
    rw [List.filterMap_eq_nil_iff]
    intro j _
    have : (Array.replicate (m + 1) (none : Option Nat)).getD j none = none := by
      simp [Array.getD]
    rw [this]
    rfl
  unfold SetTable.laid
  rw [e]
  show some (_, _) = _
  simp only [e2]
  rfl
theorem room_txt {a : Addr} {n : Nat} {Q : Unit → Shared → Prop} (ho : s.heap.get? a = some (Froz.sObj "set" (#[], 0, .fresh 0 0 (!w.params.followText "set-order")))) (hn : n ≤ 1000)
    (h : ∀ h' : Heap, Heap.SameBut a s.heap h' → TxSet P w h' a [] → Q () { s with heap := h' }) : wpAny (model P w) A (setRoomFor a n) Q E s := by
  have e1 : (Froz.sObj "set" (#[], 0, SetTable.fresh 0 0 (!w.params.followText "set-order"))).data = .set #[] 0 (.fresh 0 0 (!w.params.followText "set-order")) := rfl
  have hl : ∀ t : SetTable, t.led = (!w.params.followText "set-order") → (w.params.followText "set-order" = true ∨ t.led = true) := fun t e => by
    rw [e]
    cases w.params.followText "set-order"
    · exact .inr rfl
    · exact .inl rfl
  have tx : ∀ t : SetTable, t.place = #[] → t.led = (!w.params.followText "set-order") → t.fits 0 = true → TxSet P w (s.heap.update a (Obj.putSet #[] t)) a [] := fun t hp hl' hf =>
    ⟨(#[], 1, t), Heap.get?_update_self _ ho rfl, Froz.TxOk.nil hf, List.nodup_nil, (by show Ris t.place.toList; rw [hp]; exact List.Pairwise.nil), hl t hl'⟩
  unfold setRoomFor
  refine wpAny_bind (wpAny_setState_of ho e1 rfl ?_)
  dsimp only
  unfold SetTable.roomFor
  split
  · rename_i wanted hw
    split at hw
    · have hw := Option.some.inj hw
      have hw2 : wanted = (0 + n) * 2 := hw.symm
      have hsz : ¬ SetTable.sizeAbove wanted > sizeLine := by
        have key : (List.range 2002).all (fun k => decide (¬ SetTable.sizeAbove k > sizeLine)) = true := by decide +kernel
        exact of_decide_eq_true (List.all_eq_true.mp key wanted (List.mem_range.mpr (by omega)))
      rw [L2.setRelay_eq]
      refine wpAny_bind (wpAny_setState_of ho e1 rfl ?_)
      dsimp only
      rw [if_neg hsz]
      unfold SetTable.relaid
      have em : (#[] : Array (Int × Value)).map (·.1) = #[] := by simp
      rw [em, laid_nil]
      dsimp only
      have ef : ((#[] : Array Nat).filterMap fun i => (#[] : Array (Int × Value))[i]?) = #[] := by simp
      rw [ef]
      simp only [bne_self_eq_false, Bool.false_eq_true, if_false]
      refine wpAny_bind (wpAny_pure ?_)
      dsimp only
      exact wpAny_storeSet_of ho e1 (h _ (Heap.SameBut.update s.heap a _) (tx _ rfl rfl (by simp [SetTable.fits, SetTable.fill])))
    · cases hw
  · exact wpAny_pure (h s.heap (Heap.SameBut.refl a s.heap) ⟨_, ho, Froz.TxOk.nil rfl, List.nodup_nil, List.Pairwise.nil, hl _ rfl⟩)
theorem from_dict {id : String} {a d : Addr} {kvs : List (Key × Value)} {ep : Nat} {ks : List Str} {Q : Unit → Shared → Prop} (ho : s.heap.get? a = some (bare w)) (hd : s.heap.DictAt (mixKind P w) d kvs ep) (hk : kvs.map (·.1) = ks.map Sum.inr) (hs : (d == sysModules) = false) (few : ks.length ≤ 900)
    (h : ∀ (h' : Heap) (l' : List Str), Heap.SameBut a s.heap h' → TxSet P w h' a l' → (∀ x, x ∈ l' ↔ x ∈ ks) → l'.length ≤ ks.length → Q () { s with heap := h' }) : wpAny (model P w) A (Builtin.Frozenset.updateFrom id a (.ref d)) Q E s := by
  have hda := hd
  obtain ⟨o, es, e0, ex, e1, K1, K2, nd⟩ := hd
  have ne : d ≠ a := fun z => by
    rw [z, ho] at e0
    cases e0
    cases e1
  have ty : s.TypeIs (.ref d) "dict" := hda.dictOf.typeIs
  have hlen : es.size = ks.length := by
    have := K2.length
    rw [Array.length_toList] at this
    have h2 := congrArg List.length hk
    rw [List.length_map, List.length_map] at h2
    omega
  unfold Builtin.Frozenset.updateFrom
  have c1 := F.sub_dict_set
  have c2 : isSubtype (.type "dict") (.type "frozenset") = pure false := by rw [isSubtype_type]; kernel_rfl
  generalize hSR : setRoomFor = SR
  generalize hSA : setAddHashed = SA
  repeat (any_goals (first | assumption | wp_step))
  rw [e1]
  refine wpAny_pure ?_
  refine wpAny_bind (wpAny_dictEntries e0 e1 ?_)
  subst hSR
  refine wpAny_bind (room_txt ho (by omega) fun h1 sb1 T1 => ?_)
  have g1 : h1.get? d = some o := (sb1.2 d ne).trans e0
  refine wpAny_bind (wpAny_dictEntries g1 e1 ?_)
  refine wpAny_bind ?_
  rw [Std.Legacy.Range.forIn_eq_forIn_range']
  simp only [Std.Legacy.Range.size, Nat.sub_zero, Nat.add_sub_cancel, Nat.div_one]
  refine wpAny_forIn_list _ (fun rest _ s' => ∃ h2 i l2, s' = { s with heap := h2 } ∧ rest = List.range' i (es.size - i) ∧ i ≤ es.size ∧ Heap.SameBut a s.heap h2 ∧ TxSet P w h2 a l2 ∧ (∀ x, x ∈ l2 ↔ x ∈ ks.take i) ∧ l2.length ≤ i) _ ?_ ?_ _ _
    ⟨h1, 0, [], rfl, by simp, Nat.zero_le _, sb1, T1, by simp, Nat.le_refl _⟩
  · rintro x rest b s' ⟨h2, i, l2, rfl, hr, hi, sb2, T2, m2, len2⟩
    have hlt : i < es.size := by
      rcases Nat.lt_or_ge i es.size with q | q
      · exact q
      · rw [Nat.sub_eq_zero_of_le q] at hr
        cases hr
    have er : es.size - i = (es.size - (i + 1)) + 1 := by omega
    rw [er, List.range'_succ] at hr
    injection hr with r1 r2
    subst r1
    have g2 : h2.get? d = some o := (sb2.2 d ne).trans e0
    refine wpAny_bind (wpAny_dictEntries g2 e1 ?_)
    obtain ⟨k, hk1⟩ : ∃ k, ks[x]? = some k := ⟨ks[x]'(by omega), List.getElem?_eq_getElem _⟩
    obtain ⟨v, hv⟩ : ∃ v, kvs[x]? = some (Sum.inr k, v) := by
      have := congrArg (fun l : List Key => l[x]?) hk
      simp only [List.getElem?_map, hk1, Option.map_some] at this
      cases q : kvs[x]? with
      | none => rw [q] at this; cases this
      | some p =>
        rw [q] at this
        obtain ⟨p1, p2⟩ := p
        exact ⟨p2, by rw [show p1 = Sum.inr k from Option.some.inj this]⟩
    obtain ⟨key, hval⟩ := K2.get? (i := x) (e := es[x]) (by rw [Array.getElem?_toList]; exact Array.getElem?_eq_getElem hlt) hv
    obtain ⟨k', kk, hh⟩ := K1 es[x] (Array.getElem_mem hlt)
    have ek : k' = Sum.inr k := (mixKind P w).inj _ _ _ kk key
    rw [ek] at hh
    rw [Array.getElem?_eq_getElem hlt]
    dsimp only
    obtain ⟨u, eu⟩ : ∃ u, es[x].key = .str k u := by
      rcases keyIs_shape (show keyIs (Sum.inr k) es[x].key = true from key) with ⟨_, _, z, _⟩ | ⟨_, t, z, z2⟩
      · cases z
      · cases z
        exact ⟨t, z2⟩
    rw [eu, hh]
    subst hSA
    refine wpAny_bind (wpAny_holding ?_)
    refine add_txt (s := { s with heap := h2 }) T2 (by have : scanBound = scanBound := rfl; unfold scanBound; omega) fun b3 h3 l3 sb3 T3 m3 len3 => ?_
    have g3 : h3.get? d = some o := (sb3.2 d ne).trans g2
    refine wpAny_bind (wpAny_dictEpoch g3 e1 ?_)
    rw [if_neg (by simp)]
    refine wpAny_pure ⟨h3, x + 1, l3, rfl, r2, hlt, sb2.trans sb3, T3, fun y => ?_, by omega⟩
    rw [m3 y, m2 y, List.take_add_one, hk1]
    simp
  · rintro b s' ⟨h2, i, l2, rfl, hr, hi, sb2, T2, m2, len2⟩
    have : i = es.size := by
      rcases Nat.lt_or_ge i es.size with q | q
      · rw [show es.size - i = (es.size - (i + 1)) + 1 by omega, List.range'_succ] at hr
        cases hr
      · omega
    refine wpAny_pure (h h2 l2 sb2 T2 (fun y => ?_) (by omega))
    rw [m2 y, this, hlen, List.take_length]
end
end Ys
namespace Ys
open PySem PySem.Spec PyProof.Rows L2
section
variable {P : Program} {w : World} {A : Around} {E : Value → Shared → Prop} {s : Shared}
theorem make_dict {d : Addr} {kvs : List (Key × Value)} {ep : Nat} {ks : List Str} {Q : Value → Shared → Prop} (hh : A.handled = none) (hd : s.heap.DictAt (mixKind P w) d kvs ep) (hk : kvs.map (·.1) = ks.map Sum.inr) (hs : (d == sysModules) = false) (few : ks.length ≤ 900)
    (h : ∀ (h' : Heap) (tk : Nat) (l' : List Str), TxSet P w h' s.heap.objs.size l' → (∀ x, x ∈ l' ↔ x ∈ ks) → l'.length ≤ ks.length → (∀ b o, s.heap.get? b = some o → h'.get? b = some o) →
      Q (.ref s.heap.objs.size) { s with heap := h', toks := tk }) : wpAny (model P w) A (call (.type "set") [.ref d]) Q E s := by
  have a1 := F.called_set.made
  have a2 := F.called_set.sub
  have a3 := F.called_set.notType
  have a4 := F.called_set.canCreate
  have a5 := F.typeCall_set_1 (.ref d)
  obtain ⟨c, tl, a6⟩ := F.called_set.mro
  refine wpAny_call (codeAny_of_tree ?_)
  show wpAny _ _ (callAny (.type "set") _) _ _ _
  refine wpAny_pure ⟨Code.quiet_builtin _ (by decide +kernel), codeAny_builtin F.entry_type_call ?_⟩
  rw [Around.under_plain (weight_type_call_type "set" [.ref d] []) rfl]
  repeat (any_goals (first | assumption | wp_step))
  refine codeAny_mono (L2.code_set_led1 (.ref d) (E := E) (Q₁ := fun v z => v = .ref s.heap.objs.size ∧ z = { s with heap := s.heap.push (bare w) }) ⟨rfl, rfl⟩) fun r s1 hr => ?_
  cases r with
  | error e => exact hr
  | ok fl =>
    cases fl with
    | next => exact hr.elim
    | brk => exact hr.elim
    | cont => exact hr.elim
    | ret v =>
      obtain ⟨rfl, rfl⟩ := hr
      have b0 : (s.heap.push (bare w)).get? s.heap.objs.size = some (bare w) := Heap.get?_push_size _ rfl
      have b1 : Shared.TypeIs { s with heap := s.heap.push (bare w) } (.ref s.heap.objs.size) "set" := ⟨_, b0, rfl⟩
      have b2 := F.called_set.init.lookup
      have b3 := F.called_set.init.bind (.ref s.heap.objs.size)
      repeat (any_goals (first | assumption | wp_step))
      refine codeAny_mono (codeAny_call_builtin (R := wants (fun r z => r = .none ∧ ∃ h' tk l', z = { s with heap := h', toks := tk } ∧ TxSet P w h' s.heap.objs.size l' ∧ (∀ x, x ∈ l' ↔ x ∈ ks) ∧ l'.length ≤ ks.length ∧
          (∀ b o, s.heap.get? b = some o → h'.get? b = some o)) E) F.called_set.init.plain F.entry_set_init (check_set_init_1 b1 ?_)) fun r2 s2 hr2 => ?_
      · have k1 : ∀ b o, s.heap.get? b = some o → (s.heap.push (bare w)).get? b = some o := fun b o e => Heap.get?_push_of_some _ e
        unfold Builtin.«set.__init__» noKeywords
        generalize hU : @Builtin.Frozenset.updateFrom = U
        wp_walk
        subst hU
        refine from_dict (s := { s with heap := s.heap.push (bare w) }) b0 (hd.push _) hk hs few fun h' l' sb T' m len => ?_
        repeat (first
          | exact ⟨rfl, h', s.toks, l', rfl, T', m, len, fun b o e => (sb.2 b (Nat.ne_of_lt (Heap.lt_size e))).trans (Heap.get?_push_of_some _ e)⟩
          | refine wpAny_pure ?_
          | wp_step)
      · cases r2 with
        | error e => exact hr2
        | ok f2 =>
          cases f2 with
          | next => exact hr2.elim
          | brk => exact hr2.elim
          | cont => exact hr2.elim
          | ret r =>
            obtain ⟨rfl, h', tk, l', rfl, T', m, len, k⟩ := hr2
            repeat (any_goals (first | assumption | wp_step))
            exact h _ _ _ T' m len k
end
end Ys
/-! dicts: kept for good, walked, looked into, made -/
namespace Ys
open PySem PySem.Spec PyProof.Rows L2
section
variable {X : Cx} {K : PySem.W.Frag} {P : Program} {w : World} {G G1 H : Hp} {M M1 : List (Addr × HO)} {σ : L2.St} {Q : VK} {QB : Bool → Hp → Prop} {D : Ends} {ta tb te td tyy tk tv : TE} {t : TA} {g : TG} {tt : TT} {A B : Prop} {v x y : V} {i j : Int} {a b d p : Addr} {xs ys vs : List V} {o : HO} {od : Obj} {kvs : List (Key × V)} {k : Key} {R : It → Hp → Prop}
/-! ### a dict that is changed no more -/
def tFrz (t : TE) : TE := fun σ H Q => t σ H fun x H1 => ∃ d u, x = .ref d ∧ H1 d = some u ∧ Mut (some u) ∧ ∀ od, Q x (upd H1 d (.frz od u))
theorem pe_frz {e : Expr} (h : PE X e te) : PE X e (tFrz te) := by
  refine ⟨fun pins s σ H Q I q => ?_⟩
  refine wpAny_mono (h.run pins s σ H _ I q) (fun u s1 z => ?_) fun _ _ z => z
  obtain ⟨x, H1, I1, rx, d, ob, ex, hd, mu, q⟩ := z
  obtain ⟨od, I2⟩ := I1.lock hd mu
  exact ⟨x, _, I2, rx, q od⟩
def FzD (G : Hp) (d : Addr) (kvs : List (Key × V)) : Prop := ∃ od, G d = some (.frz od (.dK kvs))
theorem FzD.up (h : FzD G d kvs) (s : Same G G1) : FzD G1 d kvs := let ⟨o, e⟩ := h; ⟨o, s _ _ e⟩
theorem FzD.rd (h : FzD G d kvs) (z : Zp G M H) : Rd H d (.dK kvs) := let ⟨o, e⟩ := h; .inr ⟨o, z.sub _ _ e⟩
theorem FzD.ty (h : FzD G d kvs) : TyX K G (.ref d) (.type "dict") := let ⟨o, e⟩ := h; .fDict e
def FrzW (x : V) (H1 : Hp) (Q : VK) : Prop := ∃ d u, x = .ref d ∧ H1 d = some u ∧ Mut (some u) ∧ ∀ od, Q x (upd H1 d (.frz od u))
theorem z_frz (h : te σ H fun x H1 => FrzW x H1 Q) : tFrz te σ H Q := h
theorem z_frzL (z : Zp G (M ++ [(d, .dK kvs)]) H) (q : ∀ G1 H1, Zp G1 M H1 → Same G G1 → FzD G1 d kvs → Q (.ref d) H1) : FrzW (.ref d) H Q := by
  refine ⟨d, _, rfl, z.at_ M.length last_at, trivial, fun od => ?_⟩
  have fr : G d = none := (z.own M.length _ _ last_at).2
  have z1 := z.put M.length last_at (.frz od (.dK kvs))
  rw [List.set_append_right _ _ (Nat.le_refl _), Nat.sub_self] at z1
  exact q _ _ z1.fix (Same.new fr) ⟨od, upd_same⟩
/-! ### walks -/
theorem src_K : Src (Itk d od kvs) (kvs.map (fun p => kV p.1)) (fun H => H d = some (.frz od (.dK kvs))) where
  go := fun i H h hi => ⟨h, by simpa using hi⟩
  stop := fun i H h hi => ⟨h, by simpa using hi⟩
  yld := fun i H x H' h hi y => by
    obtain ⟨e, k, v, e1, rfl⟩ := y
    exact ⟨e, by rw [List.getElem?_map, e1]; rfl⟩
theorem src_V : Src (Itd d od kvs) (kvs.map (·.2)) (fun H => H d = some (.frz od (.dK kvs))) where
  go := fun i H h hi => ⟨h, by simpa using hi⟩
  stop := fun i H h hi => ⟨h, by simpa using hi⟩
  yld := fun i H x H' h hi y => by
    obtain ⟨e, k, e1⟩ := y
    exact ⟨e, by rw [List.getElem?_map, e1]; rfl⟩
def ItKW (x : V) (H1 : Hp) (R : It → Hp → Prop) : Prop := ∃ d o, x = .ref d ∧ ((∃ kvs, H1 d = some (.frz o (.dK kvs)) ∧ R (Itk d o kvs) H1) ∨ ∃ kvs, H1 d = some (.frz o (.dT kvs)) ∧ R (Itkt d o kvs) H1)
theorem z_iK (h : td σ H fun x H1 => ItKW x H1 R) : iKeys td σ H R := h
theorem z_itK (z : Zp G M H) (h : G d = some (.frz od (.dK kvs))) (q : R (Itk d od kvs) H) : ItKW (.ref d) H R := ⟨d, od, rfl, .inl ⟨kvs, z.sub _ _ h, q⟩⟩
def ItVW (x : V) (H1 : Hp) (R : It → Hp → Prop) : Prop := ∃ d o kvs, x = .ref d ∧ H1 d = some (.frz o (.dK kvs)) ∧ R (Itd d o kvs) H1
theorem z_iV (h : td σ H fun x H1 => ItVW x H1 R) : iVals td σ H R := h
theorem z_itV (z : Zp G M H) (h : G d = some (.frz od (.dK kvs))) (q : R (Itd d od kvs) H) : ItVW (.ref d) H R := ⟨d, od, kvs, rfl, z.sub _ _ h, q⟩
def ItIW (x : V) (H1 : Hp) (R : It → Hp → Prop) : Prop := ∃ d o kvs, x = .ref d ∧ H1 d = some (.frz o (.dK kvs)) ∧ R (Iti d o kvs) H1
theorem z_iI (h : td σ H fun x H1 => ItIW x H1 R) : iItems td σ H R := h
theorem z_itI (z : Zp G M H) (h : G d = some (.frz od (.dK kvs))) (q : R (Iti d od kvs) H) : ItIW (.ref d) H R := ⟨d, od, kvs, rfl, z.sub _ _ h, q⟩
theorem for_items {ts : TS} (I : Nat → L2.St → Hp → List (Addr × HO) → Prop) (z : Zp G M H) (h0 : I 0 σ G M) (fz : ∀ i σ G' M', I i σ G' M' → G' d = some (.frz od (.dK kvs)))
    (turn : ∀ i k v T σ G' M' G2 H', kvs[i]? = some (k, v) → I i σ G' M' → Zp G2 M' H' → Same G' G2 → G2 T = some (.tup [kV k, v]) →
      g (.ref T) σ H' fun σ2 H2 => ts ⟨fun σ' H' => ∃ G' M', Zp G' M' H' ∧ I (i + 1) σ' G' M', D.rt, D.nx, fun σ' H' => ∃ G' M', Zp G' M' H' ∧ I (i + 1) σ' G' M'⟩ σ2 H2)
    (done : ∀ σ G M H, I kvs.length σ G M → Zp G M H → D.nx σ H) : ForW (Iti d od kvs) g ts D σ H := by
  refine ⟨fun i m σ H => m = kvs.length - i ∧ i ≤ kvs.length ∧ ∃ G M, Zp G M H ∧ I i σ G M, ⟨kvs.length, by simp, Nat.zero_le _, G, M, z, h0⟩, ?_⟩
  rintro i m σ H ⟨rfl, hi, G, M, z, h⟩
  have o := z.sub _ _ (fz i σ G M h)
  by_cases c : i < kvs.length
  · refine .inr ⟨⟨o, c⟩, fun σ' H' => ∃ G' M', Zp G' M' H' ∧ I (i + 1) σ' G' M', fun σ' H' q => ⟨kvs.length - (i + 1), by omega, rfl, c, q⟩, fun x H' y => ?_⟩
    obtain ⟨T, k, v, e, rfl, hT, rfl⟩ := y
    exact turn i k v T σ G M _ _ e h (z.new hT _) (Same.new (z.free hT)) upd_same
  · obtain rfl : i = kvs.length := by omega
    exact .inl ⟨⟨o, Nat.le_refl _⟩, done σ G M H h z⟩
/-! ### looks -/
def DgW (x y : V) (H2 : Hp) (Q : VK) : Prop := ∃ a v, x = .ref a ∧ DGet H2 a y (some v) ∧ Q v H2
theorem z_dgt (h : td σ H fun x H1 => tyy σ H1 fun y H2 => DgW x y H2 Q) : tDGet td tyy σ H Q := h
theorem z_dgF (z : Zp G M H) (h : FzD G d kvs) (e : valV kvs k = some v) (q : Q v H) : DgW (.ref d) (kV k) H Q := ⟨d, v, rfl, .inl ⟨kvs, k, h.rd z, rfl, e.symm⟩, q⟩
def DiW (neg : Bool) (y x : V) (H2 : Hp) (Q : VK) : Prop := ∃ a o, x = .ref a ∧ DGet H2 a y o ∧ Q (.bl (if neg then !o.isSome else o.isSome)) H2
theorem z_din (h : tyy σ H fun y H1 => td σ H1 fun x H2 => DiW false y x H2 Q) : tDIn tyy td σ H Q := h
theorem z_dnin (h : tyy σ H fun y H1 => td σ H1 fun x H2 => DiW true y x H2 Q) : tDNotIn tyy td σ H Q := h
theorem z_diF {neg : Bool} (z : Zp G M H) (h : FzD G d kvs) (q : Q (.bl (if neg then !(valV kvs k).isSome else (valV kvs k).isSome)) H) : DiW neg (kV k) (.ref d) H Q := ⟨d, _, rfl, .inl ⟨kvs, k, h.rd z, rfl, rfl⟩, q⟩
/-! ### dicts that are made -/
def DcW (J : It) (g : TG) (tt : TT) (tk tv : TE) (ws : List Nat) (σ : L2.St) (H1 : Hp) (Q : VK) : Prop := ∀ D, H1 D = none → ∃ W : Nat → Nat → Hp → Prop, (∃ m, W 0 m (upd H1 D (.dK []))) ∧ ∀ i m H, W i m H →
  (J.stop i H ∧ Q (.ref D) H) ∨ (J.go i H ∧ ∃ Nx : Hp → Prop, (∀ H', Nx H' → ∃ m', m' < m ∧ W (i + 1) m' H') ∧ ∀ x H', J.yld i H x H' → g x (wipe σ ws) H' fun σ2 H2 => wipe σ2 ws = wipe σ ws ∧ tt σ2 H2 fun b H3 =>
    if b = true then tk σ2 H3 fun y H4 => tv σ2 H4 fun z H5 => ∃ kvs k, y = kV k ∧ H5 D = some (.dK kvs) ∧ kvs.length < sizeLine ∧ Nx (upd H5 D (.dK (putK kvs k z))) else Nx H3)
theorem z_dc {wi : TI} {ws : List Nat} (h : wi σ H fun J H1 => DcW J g tt tk tv ws σ H1 Q) : tDc wi g tt tk tv ws σ H Q := h
def KeptD (I : Hp → List (Addr × HO) → List (Key × V) → Prop) (D : Addr) (H : Hp) : Prop := ∃ G M acc, Zp G (M ++ [(D, .dK acc)]) H ∧ I G M acc
def LaidD (I : Hp → List (Addr × HO) → List (Key × V) → Prop) (D : Addr) (y z : V) (H : Hp) : Prop := ∃ acc k, y = kV k ∧ H D = some (.dK acc) ∧ acc.length < sizeLine ∧ KeptD I D (upd H D (.dK (putK acc k z)))
theorem z_laidD {I : Hp → List (Addr × HO) → List (Key × V) → Prop} {Dl : Addr} {acc : List (Key × V)} (z : Zp G (M ++ [(Dl, .dK acc)]) H) (hl : acc.length ≤ 100000) (q : I G M (putK acc k y)) : LaidD I Dl (kV k) y H := by
  refine ⟨acc, k, rfl, z.at_ M.length last_at, Nat.lt_of_le_of_lt hl (by decide), G, M, _, ?_, q⟩
  have := z.put M.length last_at (.dK (putK acc k y))
  rw [List.set_append_right _ _ (Nat.le_refl _), Nat.sub_self] at this
  exact this
theorem z_leftD {I : Hp → List (Addr × HO) → List (Key × V) → Prop} {Dl : Addr} {acc : List (Key × V)} (z : Zp G (M ++ [(Dl, .dK acc)]) H) (q : I G M acc) : KeptD I Dl H := ⟨G, M, acc, z, q⟩
theorem dc_src {J : It} {ws : List Nat} {OK : Hp → Prop} (S : Src J xs OK) (I : Nat → Hp → List (Addr × HO) → List (Key × V) → Prop) (z : Zp G M H) (h0 : I 0 G M []) (ok : ∀ i G M M1 acc H, I i G M acc → Zp G (M ++ M1) H → OK H)
    (turn : ∀ i x G M acc Dl H, xs[i]? = some x → I i G M acc → Zp G (M ++ [(Dl, .dK acc)]) H → g x (wipe σ ws) H fun σ2 H2 => wipe σ2 ws = wipe σ ws ∧ tt σ2 H2 fun b H3 =>
      Bif b (tk σ2 H3 fun y H4 => tv σ2 H4 fun z H5 => LaidD (I (i + 1)) Dl y z H5) (KeptD (I (i + 1)) Dl H3))
    (done : ∀ p G M acc H1, I xs.length G M acc → Zp G (M ++ [(p, .dK acc)]) H1 → Q (.ref p) H1) : DcW J g tt tk tv ws σ H Q := by
  intro Dl hD
  refine ⟨fun i m H => m = xs.length - i ∧ i ≤ xs.length ∧ KeptD (I i) Dl H, ⟨xs.length, by simp, Nat.zero_le _, G, M, [], z.add hD _, h0⟩, ?_⟩
  rintro i m H ⟨rfl, hi, G, M, acc, z, h⟩
  have o := ok i G M _ acc H h z
  by_cases c : i < xs.length
  · refine .inr ⟨S.go i H o c, KeptD (I (i + 1)) Dl, fun H' q => ⟨xs.length - (i + 1), by omega, rfl, c, q⟩, fun x H' y => ?_⟩
    obtain ⟨rfl, e⟩ := S.yld i H x H' o c y
    exact turn i x G M acc Dl H' e h z
  · obtain rfl : i = xs.length := by omega
    exact .inl ⟨S.stop _ H o (Nat.le_refl _), done Dl G M acc _ h z⟩
/-! ### two fors in one comprehension -/
def Lc2T (J1 : It) (g1 : TG) (tt1 : TT) (te : TE) (vs1 : List Nat) (D : Addr) (Nx : Hp → Prop) (σ2 : L2.St) (H4 : Hp) : Prop := ∃ W1 : Nat → Nat → Hp → Prop, (∃ m, W1 0 m H4) ∧ ∀ j k H, W1 j k H →
  (J1.stop j H ∧ Nx H) ∨ (J1.go j H ∧ ∃ Nx1 : Hp → Prop, (∀ H', Nx1 H' → ∃ k', k' < k ∧ W1 (j + 1) k' H') ∧ ∀ x H', J1.yld j H x H' → g1 x (wipe σ2 vs1) H' fun σ3 H5 => wipe σ3 vs1 = wipe σ2 vs1 ∧ tt1 σ3 H5 fun b H6 =>
    if b = true then te σ3 H6 fun y H7 => ∃ acc, H7 D = some (.lst acc) ∧ acc.length < sizeLine ∧ Nx1 (upd H7 D (.lst (acc ++ [y]))) else Nx1 H6)
def Lc2W (J : It) (g : TG) (tt : TT) (wi1 : TI) (g1 : TG) (tt1 : TT) (te : TE) (ws ws1 : List Nat) (σ : L2.St) (H1 : Hp) (Q : VK) : Prop := ∀ D, H1 D = none → ∃ W : Nat → Nat → Hp → Prop, (∃ m, W 0 m (upd H1 D (.lst []))) ∧ ∀ i m H, W i m H →
  (J.stop i H ∧ Q (.ref D) H) ∨ (J.go i H ∧ ∃ Nx : Hp → Prop, (∀ H', Nx H' → ∃ m', m' < m ∧ W (i + 1) m' H') ∧ ∀ x H', J.yld i H x H' → g x (wipe σ ws) H' fun σ2 H2 => wipe σ2 ws = wipe σ ws ∧ tt σ2 H2 fun b H3 =>
    if b = true then wi1 σ2 H3 fun J1 H4 => Lc2T J1 g1 tt1 te ws1 D Nx σ2 H4 else Nx H3)
theorem z_lc2 {wi wi1 : TI} {g1 : TG} {tt1 : TT} {ws ws1 : List Nat} (h : wi σ H fun J H1 => Lc2W J g tt wi1 g1 tt1 te ws ws1 σ H1 Q) : tLc2 wi g tt wi1 g1 tt1 te ws ws1 σ H Q := h
theorem lc2_src {wi1 : TI} {g1 : TG} {tt1 : TT} {J : It} {ws ws1 : List Nat} {OK : Hp → Prop} (S : Src J xs OK) (I : Nat → Hp → List (Addr × HO) → List V → Prop) (z : Zp G M H) (h0 : I 0 G M []) (ok : ∀ i G M M1 acc H, I i G M acc → Zp G (M ++ M1) H → OK H)
    (turn : ∀ i x G M acc Dl H, xs[i]? = some x → I i G M acc → Zp G (M ++ [(Dl, .lst acc)]) H → g x (wipe σ ws) H fun σ2 H2 => wipe σ2 ws = wipe σ ws ∧ tt σ2 H2 fun b H3 =>
      Bif b (wi1 σ2 H3 fun J1 H4 => Lc2T J1 g1 tt1 te ws1 Dl (Kept (I (i + 1)) Dl) σ2 H4) (Kept (I (i + 1)) Dl H3))
    (done : ∀ p G M acc G1 H1, I xs.length G M acc → Same G G1 → Zp G1 M H1 → G1 p = some (.lst acc) → Q (.ref p) H1) : Lc2W J g tt wi1 g1 tt1 te ws ws1 σ H Q := by
  intro Dl hD
  refine ⟨fun i m H => m = xs.length - i ∧ i ≤ xs.length ∧ Kept (I i) Dl H, ⟨xs.length, by simp, Nat.zero_le _, G, M, [], z.add hD _, h0⟩, ?_⟩
  rintro i m H ⟨rfl, hi, G, M, acc, z, h⟩
  have o := ok i G M _ acc H h z
  by_cases c : i < xs.length
  · refine .inr ⟨S.go i H o c, Kept (I (i + 1)) Dl, fun H' q => ⟨xs.length - (i + 1), by omega, rfl, c, q⟩, fun x H' y => ?_⟩
    obtain ⟨rfl, e⟩ := S.yld i H x H' o c y
    exact turn i x G M acc Dl H' e h z
  · obtain rfl : i = xs.length := by omega
    refine .inl ⟨S.stop _ H o (Nat.le_refl _), done Dl G M acc _ H h (Same.new ?_) z.fix upd_same⟩
    exact (z.own M.length _ _ last_at).2
theorem lc2_in {g1 : TG} {tt1 : TT} {J1 : It} {ws1 : List Nat} {OK : Hp → Prop} {Dl : Addr} {acc : List V} {Nx : Hp → Prop} (S : Src J1 ys OK) (I : Nat → Hp → List (Addr × HO) → List V → Prop) (z : Zp G (M ++ [(Dl, .lst acc)]) H) (h0 : I 0 G M acc) (ok : ∀ i G M M1 acc H, I i G M acc → Zp G (M ++ M1) H → OK H)
    (turn : ∀ i x G M acc H, ys[i]? = some x → I i G M acc → Zp G (M ++ [(Dl, .lst acc)]) H → g1 x (wipe σ ws1) H fun σ2 H2 => wipe σ2 ws1 = wipe σ ws1 ∧ tt1 σ2 H2 fun b H3 =>
      Bif b (te σ2 H3 fun y H4 => Laid (I (i + 1)) Dl y H4) (Kept (I (i + 1)) Dl H3))
    (done : ∀ G M acc H1, I ys.length G M acc → Zp G (M ++ [(Dl, .lst acc)]) H1 → Nx H1) : Lc2T J1 g1 tt1 te ws1 Dl Nx σ H := by
  refine ⟨fun i m H => m = ys.length - i ∧ i ≤ ys.length ∧ Kept (I i) Dl H, ⟨ys.length, by simp, Nat.zero_le _, G, M, acc, z, h0⟩, ?_⟩
  rintro i m H ⟨rfl, hi, G, M, acc, z, h⟩
  have o := ok i G M _ acc H h z
  by_cases c : i < ys.length
  · refine .inr ⟨S.go i H o c, Kept (I (i + 1)) Dl, fun H' q => ⟨ys.length - (i + 1), by omega, rfl, c, q⟩, fun x H' y => ?_⟩
    obtain ⟨rfl, e⟩ := S.yld i H x H' o c y
    exact turn i x G M acc H' e h z
  · obtain rfl : i = ys.length := by omega
    exact .inl ⟨S.stop _ H o (Nat.le_refl _), done G M acc H h z⟩
/-! ### what is built in, of dicts -/
def rDictP (K : PySem.W.Frag) : List V → Hp → VK → Prop := fun xs H Q => ∃ (a : Addr) (ps : List Addr) (kvs : List (Key × V)), xs = [.ref a] ∧ SqL K H a (ps.map V.ref) ∧ Paired (fun p kv => SqT K H p [kV kv.1, kv.2]) ps kvs ∧
  ∀ p, H p = none → Q (.ref p) (upd H p (.dK (mergeK [] kvs)))
theorem c_dictP (hcalm : X.calm = true) (e : X.K = K := by rfl) : CallR X (.type "dict") (rDictP K) := e ▸ call_dictP hcalm
theorem z_dictP {ps : List Addr} (z : Zp G M H) (h : SqL K G a (ps.map V.ref)) (hp : Paired (fun p (kv : Key × V) => SqT K G p [kV kv.1, kv.2]) ps kvs) (q : ∀ p H1, Zp G (M ++ [(p, .dK (mergeK [] kvs))]) H1 → Q (.ref p) H1) : rDictP K [.ref a] H Q :=
  ⟨a, ps, kvs, rfl, z.seqL h, L2.Paired.mapP hp fun _ _ h => z.seqT h, fun p hp => q p _ (z.add hp _)⟩
def rDictD : List V → Hp → VK → Prop := fun xs H Q => ∃ (a : Addr) (kvs : List (Key × V)), xs = [.ref a] ∧ Rd H a (.dK kvs) ∧ ∀ p, H p = none → Q (.ref p) (upd H p (.dK kvs))
theorem c_dictD : CallR X (.type "dict") rDictD := call_dictD
theorem z_dictD (z : Zp G M H) (h : FzD G d kvs) (q : ∀ p H1, Zp G (M ++ [(p, .dK kvs)]) H1 → Q (.ref p) H1) : rDictD [.ref d] H Q := ⟨d, kvs, rfl, h.rd z, fun p hp => q p _ (z.add hp _)⟩
def rLenD : List V → Hp → VK → Prop := fun xs H Q => ∃ (a : Addr) (kvs : List (Key × V)), xs = [.ref a] ∧ Rd H a (.dK kvs) ∧ Q (.int kvs.length) H
theorem c_lenD : CallR X (.builtin "len") rLenD := by
  intro pins s σ H vs us Q I r h
  obtain ⟨a, kvs, rfl, ha, q⟩ := h
  rw [Vals.ref1 r]
  exact d_len I ha fun t s' I' => ⟨.int kvs.length, H, I', ⟨t, rfl⟩, q⟩
theorem z_lenD (z : Zp G M H) (h : FzD G d kvs) (q : Q (.int kvs.length) H) : rLenD [.ref d] H Q := ⟨d, kvs, rfl, h.rd z, q⟩
def rSetD (P : Program) (w : World) : List V → Hp → VK → Prop := fun vs H Q => ∃ (d : Addr) (od : Obj) (kvs : List (Key × V)) (ks : List Str), vs = [V.ref d] ∧ H d = some (.frz od (.dK kvs)) ∧ kvs.map (·.1) = ks.map .inr ∧ ks.length ≤ 900 ∧
  ∀ a l, (∀ x, x ∈ l ↔ x ∈ ks) → l.Nodup → l.length ≤ ks.length → H a = none → Q (.ref a) (upd H a (TxO P w a l))
theorem cr_setD (hc : X.calm = true) : CallR X (.type "set") (rSetD X.prog X.w) := by
  intro pins s σ H vs us Q I r h
  obtain ⟨d, od, kvs, ks, rfl, hd, hk, few, q⟩ := h
  rw [Vals.ref1 r]
  obtain ⟨hs, hgd, hx, es, ep, vs, hdt, hsz, kv, hm⟩ := I.frzK hd
  refine make_dict (I.ok.hd hc) hm ((KV.keys kv).symm.trans hk) hs few fun h' tk l' T' m len k => ?_
  have nd : l'.Nodup := let ⟨_, _, _, nd, _⟩ := T'; nd
  exact ⟨.ref s.heap.objs.size, upd H s.heap.objs.size (TxO X.prog X.w s.heap.objs.size l'), I.laid (t' := tk) k (Nat.le_refl _) (txO_ok T'), rfl, q _ l' m nd len (I.hok.fresh (Nat.le_refl _))⟩
theorem kc_setD (hc : X.calm = true) (e1 : X.prog = P := by rfl) (e2 : X.w = w := by rfl) : CallR X (.type "set") (rSetD P w) := by subst e1; subst e2; exact cr_setD hc
theorem z_setD {ks : List Str} (z : Zp G M H) (h : FzD G d kvs) (hk : kvs.map (·.1) = ks.map .inr) (hl : ks.length ≤ 900)
    (q : ∀ p l G1 H1, Zp G1 M H1 → Same G G1 → G1 p = some (TxO P w p l) → (∀ x, x ∈ l ↔ x ∈ ks) → l.Nodup → l.length ≤ ks.length → Q (.ref p) H1) : rSetD P w [.ref d] H Q := by
  obtain ⟨od, e⟩ := h
  exact ⟨d, od, kvs, ks, rfl, z.sub _ _ e, hk, hl, fun p l m nd len hp => q p l _ _ (z.new hp _) (Same.new (z.free hp)) upd_same m nd len⟩
theorem kc_sum (hc : X.calm = true) (e : X.K = K := by rfl) : CallR X (.builtin "sum") (rSum K) := e ▸ cr_sum hc
theorem kc_max (hc : X.calm = true) (e : X.K = K := by rfl) : CallR X (.builtin "max") (rMax K) := e ▸ cr_max hc
theorem z_sum {ns : List Int} (z : Zp G M H) (h : SqL K G a (ns.map V.int)) (q : Q (.int ns.sum) H) : rSum K [.ref a] H Q := ⟨a, ns, rfl, z.seqL h, q⟩
theorem z_max {ns : List Int} {m : Int} (z : Zp G M H) (h : SqL K G a (ns.map V.int)) (hm : m ∈ ns) (h1 : ∀ y ∈ ns, y ≤ m) (q : Q (.int m) H) : rMax K [.ref a] H Q :=
  ⟨a, ns, rfl, z.seqL h, List.length_pos_of_mem hm, fun m' hm' h2 => by
    obtain rfl : m = m' := Int.le_antisymm (h2 m hm) (h1 m' hm')
    exact q⟩
/-! ### keys and values -/
theorem valV_ix : ∀ {kvs : List (Key × V)} {i : Nat} {k : Key} {v : V}, (kvs.map (·.1)).Nodup → kvs[i]? = some (k, v) → valV kvs k = some v
  | [], _, _, _, _, h => by simp at h
  | p :: r, 0, k, v, nd, h => by
    obtain rfl : p = (k, v) := by simpa using h
    exact valV_pos rfl
  | p :: r, i + 1, k, v, nd, h => by
    have h' : r[i]? = some (k, v) := by simpa using h
    obtain ⟨n1, n2⟩ := List.nodup_cons.mp nd
    rw [valV_neg (p := p) fun e : p.1 = k => n1 (List.mem_map.mpr ⟨(k, v), List.mem_of_getElem? h', e.symm⟩)]
    exact valV_ix n2 h'
theorem valV_out {kvs : List (Key × V)} {k : Key} (h : k ∉ kvs.map (·.1)) : valV kvs k = none := by
  cases e : valV kvs k with
  | none => rfl
  | some v => exact absurd (valV_in e) h
theorem valV_isin {kvs : List (Key × V)} {k : Key} (h : k ∈ kvs.map (·.1)) : (valV kvs k).isSome = true := by
  cases e : valV kvs k with
  | some v => rfl
  | none => exact absurd h (valV_not e)
end
end Ys
/-! tuple(d): the keys of a dict -/
namespace PySem
open AutoSeq1 (wpAny_loadPart')
open PySem PySem.Spec PyProof.Rows
theorem meets_tuple_new_raw (d : Addr) (o : Obj) (es : Array DictEntry) (ep : Nat) (lo : (d == sysModules) = false) (hx : o.ExactDict) (hd : o.data = .dict es ep) (hsz : es.size ≤ sizeLine) :
    Meets (Builtin.«tuple.__new__» ⟨[.type "tuple", .ref d], []⟩)
      (fun A R s => A.handled = none ∧ s.heap.get? d = some o ∧ ∀ (h' : Heap) (tk : Nat) (acc : Array Value), (∀ b o', s.heap.get? b = some o' → h'.get? b = some o') → ItemsOf (fun i v => ∃ en : DictEntry, es[i]? = some en ∧ v = en.key) acc es.size →
        R (.ok (.ret (.ref h'.objs.size))) { s with heap := h'.push { cls := .type "tuple", data := .seq acc }, toks := tk }) :=
  .of_wp fun prog w A R s h => by
    obtain ⟨hp, g, dr, tk, os⟩ := s; obtain ⟨hh, ht, h⟩ := h
    have hsub := sub_tuple_self
    have hinit := init_tuple_lookup
    have hmh := madeHere_tuple
    have hT : Shared.TypeIs ⟨hp, g, dr, tk, os⟩ (.ref d) "dict" := ⟨o, ht, hx.1⟩
    wp_walk using wpAny_loadPart' ht, wpAny_typeOf hT, PySem.W.kdu_collect (A := A.in1) (L2.kdl_raw lo hx hd) (show A.in1.handled = none from hh) ht hsz
    intro h' tk' acc hk hi
    show wpAny _ _ (Builtin.Tuple.tupleExact acc.toList.toArray >>= fun v => ret v) _ _ _
    unfold Builtin.Tuple.tupleExact
    have e : acc.toList.toArray = acc := by simp
    refine wpAny_bind (wpAny_newObj_type ?_ (by show acc.toList.toArray.size ≤ sizeLine; rw [e, hi.1]; exact hsz))
    refine wpAny_pure ⟨_, rfl, ?_⟩
    rw [e]
    exact h h' tk' acc hk hi
end PySem
namespace PySem
open PySem PySem.Spec PyProof.Rows
section
variable {prog : Program} {w : World} {A : Around} {E : Value → Shared → Prop} {s : Shared}
theorem call_tuple_raw {d : Addr} {o : Obj} {es : Array DictEntry} {ep : Nat} {Q : Value → Shared → Prop} (hh : A.handled = none) (lo : (d == sysModules) = false) (ho : s.heap.get? d = some o) (hx : o.ExactDict) (hd : o.data = .dict es ep) (hsz : es.size ≤ sizeLine)
    (h : ∀ (h' : Heap) (tk : Nat) (acc : Array Value), (∀ b o', s.heap.get? b = some o' → h'.get? b = some o') → ItemsOf (fun i v => ∃ en : DictEntry, es[i]? = some en ∧ v = en.key) acc es.size → Q (.ref h'.objs.size) { s with heap := h'.push { cls := .type "tuple", data := .seq acc }, toks := tk }) :
    wpAny (model prog w) A (call (.type "tuple") [.ref d]) Q E s := by
  exact callType_new F.called_tuple (by decide) (F.typeCall_tuple_1 _) (F.newCall_tuple_1 _) (fun obj => F.args_object_init_2 obj _) F.entry_tuple_new
    (meets_tuple_new_raw d o es ep lo hx hd hsz) ⟨hh, ho, fun h' tk acc hk hi => ⟨⟨_, Heap.get?_push_size _ rfl, rfl⟩, h h' tk acc hk hi⟩⟩
end
end PySem
namespace Ys
open PySem PySem.Spec PyProof.Rows L2
section
variable {X : Cx} {K : PySem.W.Frag} {G H : Hp} {M : List (Addr × HO)} {d : Addr} {kvs : List (Key × V)} {Q : VK}
def rTupK : List V → Hp → VK → Prop := fun xs H Q => ∃ d kvs, xs = [.ref d] ∧ Rd H d (.dK kvs) ∧ ∀ p, H p = none → Q (.ref p) (upd H p (.tup (kvs.map fun q => kV q.1)))
theorem c_tupK (hc : X.calm = true) : CallR X (.type "tuple") rTupK := by
  intro pins s σ H xs us Q I r h
  obtain ⟨d, kvs, rfl, hd, q⟩ := h
  obtain ⟨u, rfl, rx⟩ := r.one
  cases rx
  obtain ⟨z, hs, vs, rv, o, es, ep, ho, hx, hdt, hk, hp, hn⟩ := (show ObjOk X.prog X.w H s.heap d (.dK kvs) from hd.ok I.hok)
  have l1 : es.size = vs.length := by rw [← hp.length]; exact Array.length_toList.symm
  have l2 : kvs.length = vs.length := rv.length
  refine call_tuple_raw (I.ok.hd hc) hs ho hx hdt (by omega) fun h' tk acc kp it => ?_
  have I1 : Inv X pins σ H { s with heap := h', toks := tk } := I.kept (t' := tk) kp
  have ks : Vals (kvs.map fun q => kV q.1) acc.toList := by
    have hl : acc.toList.length = vs.length := by rw [Array.length_toList, it.1]; exact l1
    refine vals_of_at (by rw [List.length_map]; omega) fun j x w h1 h2 => ?_
    obtain ⟨en, hen, hw⟩ := it.2 j w (by rw [← Array.getElem?_toList]; exact h2)
    have hj : j < vs.length := by have := (List.getElem?_eq_some_iff.mp h2).1; omega
    obtain ⟨k, y, hky⟩ : ∃ k y, vs[j]? = some (k, y) := ⟨_, _, List.getElem?_eq_getElem hj⟩
    have e1 : (kvs.map (·.1))[j]? = some k := by
      rw [KV.keys rv, List.getElem?_map, hky] <;> rfl
    have e2 : (kvs.map fun kv => kV kv.1)[j]? = some (kV k) := by
      have e3 : (kvs.map fun kv => kV kv.1) = (kvs.map (·.1)).map kV := by rw [List.map_map] <;> rfl
      rw [e3, List.getElem?_map, e1] <;> rfl
    rw [e2] at h1
    cases h1
    rw [hw]
    exact keyIs_rel (hp.get? (by rw [Array.getElem?_toList]; exact hen) hky).1
  have I2 : Inv X pins σ (upd H h'.objs.size (.tup (kvs.map fun q => kV q.1))) { s with heap := h'.push { cls := .type "tuple", data := .seq acc }, toks := tk } :=
    I1.laid (t' := tk) (fun b o e => Heap.get?_push_of_some _ e) (Nat.le_refl _) (show ObjOk X.prog X.w _ _ _ (.tup _) from ⟨by rw [List.length_map]; exact z, acc.toList, ks, by rw [Array.toArray_toList]; exact IsTup.new _ _⟩)
  exact ⟨.ref h'.objs.size, _, I2, rfl, q _ (I1.hok.fresh (Nat.le_refl _))⟩
def kcTupK (K : PySem.W.Frag) : List V → Hp → VK → Prop := fun xs H Q => rTupG K xs H Q ∨ rTupK xs H Q
theorem kc_tupK (hc : X.calm = true) (e : X.K = K := by rfl) : CallR X (.type "tuple") (kcTupK K) := (kc_tuple (K := K) e).or (c_tupK hc)
theorem z_tupK (z : Zp G M H) (h : FzD G d kvs) (q : ∀ p G1 H1, Zp G1 M H1 → Same G G1 → SqT K G1 p (kvs.map fun q => kV q.1) → Q (.ref p) H1) : kcTupK K [.ref d] H Q :=
  .inr ⟨d, kvs, rfl, h.rd z, fun p hp => q p _ _ (z.new hp _) (Same.new (z.free hp)) (SqT.of upd_same)⟩
end
end Ys
/-! != of dicts of data -/
namespace PySem.W
open Lean Elab Tactic Meta PySem PySem.Calls PyProof.Rows PyProof.V PySem.Spec
section
variable {prog : Program} {w : World} {K : Type} [DecidableEq K] {knd : KeyKind prog w K} {A : Around} {E : Value → Shared → Prop} {s : Shared}
theorem rcPn_dicts {a b : Addr} {ka kb : List (K × Value)} {r : Bool} (ha : (a == sysModules) = false) (hb : (b == sysModules) = false)
    (da : s.heap.DictOf knd a ka) (db : s.heap.DictOf knd b kb) (hu : A.units < cLine) (hits : ka.length = kb.length → KeqHitsP prog w A.in1 s kb ka r) (E Q : Value → Shared → Prop) (h : Q (.bool (!(ka.length == kb.length && r))) s) : wpAny (model prog w) A (richCompare .NotEq (.ref a) (.ref b)) Q E s := by
  refine wpAny_richCompare_same_room (op := .NotEq) da.typeIs db.typeIs PySem.F.slot_dict_ne (wpAny_call_entry PySem.F.slot_dict_ne da.typeIs PySem.F.entry_dict_ne ?_ (PySem.F.args_dict_ne_2 _ _)) hu
  show wpAny _ _ (Builtin.Dict.dictSlotArgs "__ne__" ⟨[.ref a, .ref b], []⟩ >>= _) _ _ s
  refine wpAny_bind ?_
  unfold Builtin.Dict.dictSlotArgs
  refine wpAny_bind (wpAny_notOrdered_dict da.typeIs ?_)
  show wpAny _ _ (pure (Value.ref a, Value.ref b)) _ _ s
  refine wpAny_pure ?_
  refine wpAny_bind (wpAny_isInstance (T := "dict") db.typeIs PySem.F.sub_dict_dict ?_)
  simp only [Bool.not_true, Bool.false_eq_true, if_false]
  refine wpAny_bind (wpAny_pure (wpAny_bind (wpAny_pure ?_)))
  refine wpAny_bind (samePairsP ha hb da db hits ?_)
  refine wpAny_pure ⟨_, rfl, ?_, ?_⟩
  · exact fun x => nomatch x
  · have e : ((ka.length == kb.length && r) == false) = !(ka.length == kb.length && r) := by cases (ka.length == kb.length && r) <;> rfl
    rw [e]
    exact h
end
end PySem.W
namespace Ys
open PySem PySem.Spec PyProof.Rows L2
def DtK (K : PySem.W.Frag) (H : Hp) : List (Key × V) → List (Str × PyData) → Prop := Paired fun p q => p.1 = .inr q.1 ∧ Dt K H p.2 q.2
def lookD : List (Str × PyData) → Str → Option PyData
  | [], _ => none
  | q :: l, k => if q.1 = k then some q.2 else lookD l k
def eqDD (l1 l2 : List (Str × PyData)) : Bool := l1.length == l2.length && l1.all fun q => match lookD l2 q.1 with
  | some d => PyData.eqv q.2 d
  | none => false
theorem DtK.up {K : PySem.W.Frag} {G H : Hp} {kvs l} (h : DtK K G kvs l) (s : ∀ a o, G a = some o → H a = some o) : DtK K H kvs l := L2.Paired.mapP h fun _ _ ⟨e, d⟩ => ⟨e, d.up s⟩
theorem dtk_look {K : PySem.W.Frag} {H : Hp} {k : Str} : ∀ {kvs : List (Key × V)} {l : List (Str × PyData)}, DtK K H kvs l → (lookD l k = none → valV kvs (.inr k) = none) ∧ ∀ d, lookD l k = some d → ∃ v, valV kvs (.inr k) = some v ∧ Dt K H v d
  | _, _, .nil => ⟨fun _ => rfl, fun d h => by cases h⟩
  | p :: r, q :: l, .cons h t => by
    obtain ⟨i1, i2⟩ := dtk_look (k := k) t
    obtain ⟨e, d0⟩ := h
    unfold lookD
    by_cases c : q.1 = k
    · rw [if_pos c]
      refine ⟨fun z => (nomatch z), fun d z => ?_⟩
      cases z
      exact ⟨p.2, valV_pos (by rw [e, c]), d0⟩
    · rw [if_neg c, valV_neg (fun z => c (Sum.inr.inj (e.symm.trans z)))]
      exact ⟨i1, i2⟩
section
variable {X : Cx}
def rNeDK (K : PySem.W.Frag) : R2 := fun x y H Q => ∃ a b ka kb la lb, x = .ref a ∧ y = .ref b ∧ Rd H a (.dK ka) ∧ Rd H b (.dK kb) ∧ DtK K H ka la ∧ DtK K H kb lb ∧ (∀ q ∈ la, SeqAt.shaped q.2 = true) ∧ (∀ q ∈ lb, SeqAt.shaped q.2 = true) ∧ Q (.bl (!eqDD la lb)) H
theorem lookD_mem {k : Str} {d : PyData} : ∀ {l : List (Str × PyData)}, lookD l k = some d → ∃ q ∈ l, q.2 = d
  | [], h => by cases h
  | q :: l, h => by
    unfold lookD at h
    split at h
    · cases h
      exact ⟨q, by simp, rfl⟩
    · obtain ⟨q', h1, h2⟩ := lookD_mem h
      exact ⟨q', List.mem_cons_of_mem _ h1, h2⟩
theorem hitsK {pins : List (Addr × Obj)} {σ : L2.St} {H : Hp} {s : Shared} {A : Around} {kb : List (Key × V)} {vb : List (Key × Value)} {lb : List (Str × PyData)} (I : Inv X pins σ H s) (S : SysIn X.K) (hu : A.units + 64 < cLine) (rb : KV kb vb) (hb : DtK X.K H kb lb) (sb : ∀ q ∈ lb, SeqAt.shaped q.2 = true) :
    ∀ {ka : List (Key × V)} {va : List (Key × Value)} {la : List (Str × PyData)}, KV ka va → DtK X.K H ka la → (∀ q ∈ la, SeqAt.shaped q.2 = true) → PySem.W.KeqHitsP X.prog X.w A s vb va (la.all fun q => match lookD lb q.1 with
      | some d => PyData.eqv q.2 d
      | none => false)
  | _, _, _, .nil, .nil, _ => .nil
  | p :: ka, u :: va, q :: la, .cons ru ra, .cons hq hl, sa => by
    obtain ⟨e, d0⟩ := hq
    obtain ⟨eu, rv⟩ := ru
    have ih := hitsK I S hu rb hb sb ra hl fun x hx => sa x (List.mem_cons_of_mem _ hx)
    obtain ⟨i1, i2⟩ := dtk_look (k := q.1) hb
    have hk := rb.val (.inr q.1)
    obtain ⟨uk, uv⟩ := u
    have eu : uk = .inr q.1 := by rw [← e]; exact eu.symm
    subst eu
    rw [List.all_cons]
    cases c : lookD lb q.1 with
    | none =>
      rw [i1 c] at hk
      have : valueAt vb (.inr q.1) = none := RelO.none_of hk
      simp only [Bool.false_and]
      exact .miss this
    | some d =>
      obtain ⟨v, hv, hd⟩ := i2 d c
      rw [hv] at hk
      obtain ⟨w', hw, rw'⟩ := RelO.some_of hk
      obtain ⟨as1, R1, _⟩ := Dt.reads I S q.2 p.2 uv d0 rv
      obtain ⟨as2, R2, _⟩ := Dt.reads I S d v w' hd rw'
      obtain ⟨q', hq', eq'⟩ := lookD_mem c
      have s1 := sa q (by simp)
      have s2 : SeqAt.shaped d = true := by rw [← eq']; exact sb q' hq'
      refine .hit hw (SeqAt.EqAt.eqP (SeqAt.eqAt_reads _ _ _ _ _ _ _ _ R1 R2 (SeqAt.canLay_of_shaped s1) (SeqAt.canLay_of_shaped s2) (SeqAt.room_of_shaped s1 hu))) ih
theorem op_neDK (S : SysIn X.K) (hu : X.A.units + 128 < cLine) : OpR X (compareOp .NotEq) (rNeDK X.K) := by
  intro pins s σ H x y v u Q I rx ry h
  obtain ⟨a, b, ka, kb, la, lb, rfl, rfl, ha, hb, da, db, sa, sb, q⟩ := h
  cases (show v = Value.ref a from rx)
  cases (show u = Value.ref b from ry)
  obtain ⟨za, hda, va, ra, dda⟩ := dk_rd I.hok ha
  obtain ⟨zb, hdb, vb, rb, ddb⟩ := dk_rd I.hok hb
  refine PySem.W.rcPn_dicts (beq_false_of_ne (sys_ne I S ha)) (beq_false_of_ne (sys_ne I S hb)) dda ddb (by omega) (fun _ => hitsK I S (by show X.A.in1.units + 64 < cLine; have : X.A.in1.units = X.A.units + 1 := rfl; omega) rb db sb ra da sa) _ _ ⟨.bl _, H, I, rfl, ?_⟩
  have l1 : va.length = la.length := by rw [← Paired.length ra, Paired.length da]
  have l2 : vb.length = lb.length := by rw [← Paired.length rb, Paired.length db]
  rw [l1, l2]
  exact q
theorem k_neDK {K : PySem.W.Frag} (S : SysIn K) (hu : X.A.units + 128 < cLine) (e : X.K = K := by rfl) : OpR X (compareOp .NotEq) (rNeDK K) := by
  subst e
  exact op_neDK S hu
end
end Ys
/-! classes with *known, **numbers; classmethods; stars of dicts; methods by keywords; == of dicts of data -/
namespace Ys
open PySem PySem.Spec PyProof.Rows L2
section
variable {X : Cx} {CX : CXT} {K : PySem.W.Frag} {k n i : Nat} {C a d f g p : Addr} {fd : FuncData} {ps ks : List Str} {sp : Sp} {E : XK} {x m : Str} {nm pos apos : Pos} {e o : Expr} {es : List Expr} {kws : List Keyword} {ta te : TE} {t tk : TA} {G H : Hp} {M : List (Addr × HO)} {σ : L2.St} {Q : VK} {QA : List V → Hp → Prop} {kvs : List (Key × V)}
/-! ### made by a positional promise -/
structure MkR (P : Program) (w : World) (K : PySem.W.Frag) (mg : Str → Option Value) (base : Heap) (CX : CXT) (k : Nat) (C : Addr) (sp : Sp) : Prop where
  ex : ∃ f, Mk K C f ∧ FnR P w K mg base CX k f sp
def MkRW (C : Addr) (sp : Sp) (E : XK) (vs : List V) (H1 : Hp) (Q : VK) : Prop := ∀ x dx, H1 x = none → H1 dx = none → dx ≠ x → sp (V.ref x :: vs) (upd (upd H1 dx (.own x)) x (.ins C dx [])) (fun v H2 => v = .non ∧ Q (.ref x) H2) E
theorem pe_mkR (R : MkR X.prog X.w X.K X.mg X.base CX k C sp) (hm : X.mg x = some (.ref C)) (hr : Room (k + 1) X.A) (hg : Gl X x) (hx : Passes CX X E) (ha : PA X (e :: es) t) (hdb : (x == ("__debug__" : Str)) = false := by decide)
    (he : starEach (e :: es) X.env = (false, eval e X.env) :: starEach es X.env := by rfl) (hpl : (backTo pos (starEach es X.env)).any (·.1) = false := by rfl) : PE X (.Call (.Name x nm) (e :: es) [] pos) (StX.tMakeR C sp E t) := by
  obtain ⟨f, M, F⟩ := R.ex
  exact StX.pe_makeR M F hr hg hm hx ha hdb he hpl
theorem z_mkR (h : t σ H fun vs H1 => MkRW C sp E vs H1 Q) : StX.tMakeR C sp E t σ H Q := h
theorem z_mkRI {vs : List V} (z : Zp G M H) (q : ∀ x dx H1, Zp (upd G dx (.own x)) (M ++ [(x, .ins C dx [])]) H1 → Same G (upd G dx (.own x)) → sp (.ref x :: vs) H1 (fun v H3 => v = .non ∧ Q (.ref x) H3) E) : MkRW C sp E vs H Q :=
  fun x dx hx hd ne => q x dx _ ((z.new hd _).add (by rw [upd_ne (Ne.symm ne)]; exact hx) _) (Same.new (z.free hd))
def tMkL (i : Nat) (C : Addr) (sp : Sp) (E : XK) (t : TA) : TE := fun σ H Q => σ[i]? = some (some (.ref C)) ∧ t σ H fun vs H1 => MkRW C sp E vs H1 Q
theorem pe_mkL (R : MkR X.prog X.w X.K X.mg X.base CX k C sp) (hr : Room (k + 1) X.A) (hN : X.N[i]? = some x) (hv : Vis X.env.scope x) (hx : Passes CX X E) (ha : PA X (e :: es) t) (hdb : (x == ("__debug__" : Str)) = false := by decide) (hcd : (x == ("__classdict__" : Str)) = false := by decide)
    (he : starEach (e :: es) X.env = (false, eval e X.env) :: starEach es X.env := by rfl) (hpl : (backTo pos (starEach es X.env)).any (·.1) = false := by rfl) : PE X (.Call (.Name x nm) (e :: es) [] pos) (tMkL i C sp E t) := by
  obtain ⟨f, M, F⟩ := R.ex
  refine ⟨fun pins s σ H Q I h => ?_⟩
  obtain ⟨hs, ht⟩ := h
  refine wpAny_Call_Name_kw (thn ((pe_var (pos := nm) hN hv hdb hcd).run pins s σ H (fun v H1 => v = .ref C ∧ H1 = H) I ⟨.ref C, hs, rfl, rfl⟩) fun u s1 ⟨v, H1, I1, r1, q1⟩ => ?_)
  obtain ⟨rfl, rfl⟩ := q1
  cases r1
  refine PySem.W.callWith_K (h₀ := X.base) I.ok.mod.kin M.kp (thn (ha.run pos pins s1 σ _ _ I1 ht) fun us s2 ⟨vs, H2, I2, r, q⟩ => ⟨I2.kIn, ?_⟩) he hpl
  exact StX.run_makeR M F hr hx I2 r q
theorem z_mkL (hs : σ[i]? = some (some (.ref C))) (h : t σ H fun vs H1 => MkRW C sp E vs H1 Q) : tMkL i C sp E t σ H Q := ⟨hs, h⟩
theorem fnR_of {P : Program} {w : World} {mg : Str → Option Value} {base : Heap} (F : FnOk P w K mg base CX k f fd ps sp) (hb : Binds K fd ps []) : FnR P w K mg base CX k f sp := (F.raw hb .nil).imp fun vs H Q E h => by
  show sp (vs ++ []) H Q E
  rw [List.append_nil]
  exact h
/-! ### a classmethod -/
theorem z_cm (h : ta σ H fun x H1 => x = .ref C ∧ t σ H1 fun vs H2 => sp (.ref C :: vs) H2 Q E) : ClX.tCMeth C sp E ta t σ H Q := h
/-! ### stars of dicts -/
theorem star_dict {pins : List (Addr × Obj)} {s : Shared} {Ev : Value → Shared → Prop} {Qs : List Value → Shared → Prop} (hc : X.calm = true) (I : Inv X pins σ H s) (h : Rd H d (.dK kvs)) (hQ : ∀ us s', Inv X pins σ H s' → Vals (kvs.map fun q => kV q.1) us → Qs us s') : PySem.W.StarOf (model X.prog X.w) X.A Ev (.ref d) Qs s := by
  obtain ⟨z, hs, vs, rv, o, es, ep, ho, hx, hdt, hk, hp, hn⟩ := (show ObjOk X.prog X.w H s.heap d (.dK kvs) from h.ok I.hok)
  have l1 : es.size = vs.length := by rw [← hp.length]; exact Array.length_toList.symm
  have l2 : kvs.length = vs.length := rv.length
  have hT : s.TypeIs (.ref d) "dict" := ⟨o, ho, hx.1⟩
  have zz : wpAny (model X.prog X.w) X.A (collect (.ref d)) Qs Ev s := by
    refine PySem.W.kdu_collect (L2.kdl_raw hs hx hdt) (I.ok.hd hc) ho (by omega) fun h' tk acc kp it => ?_
    have I1 : Inv X pins σ H { s with heap := h', toks := tk } := I.kept (t' := tk) kp
    refine hQ acc.toList _ I1 ?_
    have hl : acc.toList.length = vs.length := by rw [Array.length_toList, it.1]; exact l1
    refine vals_of_at (by rw [List.length_map]; omega) fun j x w h1 h2 => ?_
    obtain ⟨en, hen, hw⟩ := it.2 j w (by rw [← Array.getElem?_toList]; exact h2)
    have hj : j < vs.length := by have := (List.getElem?_eq_some_iff.mp h2).1; omega
    obtain ⟨k, y, hky⟩ : ∃ k y, vs[j]? = some (k, y) := ⟨_, _, List.getElem?_eq_getElem hj⟩
    have e1 : (kvs.map (·.1))[j]? = some k := by
      rw [KV.keys rv, List.getElem?_map, hky] <;> rfl
    have e2 : (kvs.map fun kv => kV kv.1)[j]? = some (kV k) := by
      have e3 : (kvs.map fun kv => kV kv.1) = (kvs.map (·.1)).map kV := by rw [List.map_map] <;> rfl
      rw [e3, List.getElem?_map, e1] <;> rfl
    rw [e2] at h1
    cases h1
    rw [hw]
    exact keyIs_rel (hp.get? (by rw [Array.getElem?_toList]; exact hen) hky).1
  unfold PySem.W.StarOf notIterableAtAll
  exact wpAny_bind (wpAny_specialOf hT PySem.F.slot_dict_iter.lookup (wpAny_pure ⟨rfl, zz⟩))
def tStarD (te : TE) (t : TA) : TA := fun σ H Q => te σ H fun x H1 => ∃ d kvs, x = V.ref d ∧ Rd H1 d (.dK kvs) ∧ t σ H1 fun ys H2 => Q ((kvs.map fun q => kV q.1) ++ ys) H2
theorem pa_starD (hc : X.calm = true) (he : PE X e te) (hr : PA X es t) (hs : starEach (.Starred e nm :: es) X.env = (true, eval e X.env) :: starEach es X.env := by rfl) : PA X (.Starred e nm :: es) (tStarD te t) := by
  refine ⟨fun pos pins s σ H Q I h => ?_⟩
  refine PySem.W.items_star (thn (he.run pins s σ H _ I h) fun v s1 ⟨y, H1, I1, ry, d, kvs, ey, hx, q⟩ => ?_) hs
  subst ey
  obtain rfl : v = Value.ref d := ry
  refine star_dict hc I1 hx fun us s2 I2 rv => ?_
  exact thn (hr.run pos pins s2 σ H1 _ I2 q) fun ws s3 ⟨vs, H3, I3, r3, q3⟩ => ⟨_, H3, I3, rv.append r3, q3⟩
def SdW (x : V) (H1 : Hp) (A : List (Key × V) → Prop) : Prop := ∃ d kvs, x = V.ref d ∧ Rd H1 d (.dK kvs) ∧ A kvs
theorem z_starD (h : te σ H fun x H1 => SdW x H1 fun kvs => t σ H1 fun ys H2 => QA ((kvs.map fun q => kV q.1) ++ ys) H2) : tStarD te t σ H QA := h
theorem z_sdF {A : List (Key × V) → Prop} (z : Zp G M H) (h : FzD G d kvs) (q : A kvs) : SdW (.ref d) H A := ⟨d, kvs, rfl, h.rd z, q⟩
/-! ### methods by keywords alone -/
structure MthK (P : Program) (w : World) (K : PySem.W.Frag) (mg : Str → Option Value) (base : Heap) (CX : CXT) (k : Nat) (C : Addr) (m : Str) (ps ks : List Str) (sp : Sp) : Prop where
  ex : ∃ f fd g, Meth K C m f ∧ FnOk P w K mg base CX k f fd ps sp ∧ KBn K fd ps 1 ks g fun vs zs => vs ++ zs
  cl : Cls K C
def MtKW (C : Addr) (m : Str) (x : V) (H1 : Hp) (A : Prop) : Prop := ∃ a dx fs, x = .ref a ∧ H1 a = some (.ins C dx fs) ∧ fs.lookup m = none ∧ A
def tMtK (C : Addr) (m : Str) (n : Nat) (sp : Sp) (E : XK) (ta : TE) (tk : TA) : TE := fun σ H Q => ta σ H fun x H1 => MtKW C m x H1 (tk σ H1 fun zs H2 => zs.length = n ∧ sp (x :: zs) H2 Q E)
theorem pe_mtK {pl : Sem Bool} (R : MthK X.prog X.w X.K X.mg X.base CX k C m ps ks sp) (hr : Room k X.A) (hx : Passes CX X E) (he : PE X o ta) (hkw : PK X kws tk)
    (hall : (backToKw pos (keywordEach kws X.env)).all (·.1.isSome) = true := by rfl) (hks : (backToKw pos (keywordEach kws X.env)).filterMap (·.1) = ks := by rfl)
    (hpl : ((backTo pos (starEach [] X.env)).any (·.1) || (backToKw pos (keywordEach kws X.env)).any (·.1.isNone)) = false := by rfl)
    (ht : eval (.Call (.Attribute o m apos) [] kws pos) X.env = (do
      let ov ← eval o X.env
      standAt apos.atName
      let (f, first) ← holding [ov] (getMethod ov m pl)
      callWith pos f first (backTo pos (starEach [] X.env)) (backToKw pos (keywordEach kws X.env))) := by rfl) : PE X (.Call (.Attribute o m apos) [] kws pos) (tMtK C m ks.length sp E ta tk) := by
  obtain ⟨f, fd, g, hm, F, hb⟩ := R.ex
  refine ⟨fun pins s σ H Q I h => ?_⟩
  refine PySem.W.methodCall_KW (pl := pl) (thn (he.run pins s σ H _ I h) fun u s1 ⟨x, H1, I1, rx, a, dx, fs, ex, ea, l, q⟩ => ?_) ht
  subst ex
  obtain rfl : u = Value.ref a := rx
  refine getmeth_ok I1 ea R.cl hm l ?_
  refine PySem.W.callWith_KW0 (h₀ := X.base) (first := [.ref a]) I1.ok.mod.kin hm.kp hall ?_ hpl
  refine thn (hkw.run pos pins s1 σ H1 _ I1 q) fun ws s2 ⟨zs, H2, I2, rz, l2, q2⟩ => ⟨I2.kIn, ?_⟩
  rw [hks]
  refine wpAny_call (codeAny_mono (F.run X.A X.stack s2 H2 ⟨[.ref a], ks.zip ws⟩ (g [.ref a] ws) ([.ref a] ++ zs) Q E hr I2.env0 (hb.to s2 [.ref a] ws I2.kIn rfl (rz.length.symm.trans l2)) (hb.rel (vs := [V.ref a]) (us := [Value.ref a]) (.cons rfl .nil) rz) q2) fun rr s' hq => ?_)
  match rr, hq with
  | .error er, hq => exact hx pins σ H2 s2 er s' I2 hq
  | .ok (.ret u), hq => exact I2.after hq
  | .ok .next, hq => exact hq.elim
  | .ok .brk, hq => exact hq.elim
  | .ok .cont, hq => exact hq.elim
theorem z_mtK {n : Nat} (h : ta σ H fun x H1 => MtKW C m x H1 (tk σ H1 fun zs H2 => zs.length = n ∧ sp (x :: zs) H2 Q E)) : tMtK C m n sp E ta tk σ H Q := h
theorem z_mtKI {dx : Addr} {fs : List (Str × V)} {A : Prop} (z : Zp G M H) (h : G a = some (.ins C dx fs)) (l : fs.lookup m = none) (q : A) : MtKW C m (.ref a) H A := ⟨a, dx, fs, rfl, z.sub _ _ h, l, q⟩
/-! ### a tuple != () -/
def rNeT0 (K : PySem.W.Frag) : R2 := fun x y H Q => ∃ a b xs, x = V.ref a ∧ y = V.ref b ∧ SqT K H a xs ∧ SqT K H b [] ∧ Q (.bl (decide (xs ≠ []))) H
theorem op_neT0 (hu : X.A.units + 64 < cLine) : OpR X (compareOp .NotEq) (rNeT0 X.K) := by
  intro pins s σ H x y v u Q I rx ry ⟨a, b, xs, e1, e2, h1, h2, q⟩
  subst e1 e2
  cases rx
  cases ry
  obtain ⟨i1, r1, ⟨o1, ho1, hc1, n1, hd1⟩, _⟩ := I.tuple h1
  obtain ⟨i2, r2, ⟨o2, ho2, hc2, n2, hd2⟩, _⟩ := I.tuple h2
  have l1 := r1.length
  have l2 := r2.length
  have e2 : i2 = [] := List.length_eq_zero_iff.mp l2.symm
  subst e2
  refine PySem.SeqAt.RcNeAt.tuples (e := fun _ => true) ⟨o1, ho1, hc1, n1, hd1⟩ ⟨o2, ho2, hc2, n2, hd2⟩ (by omega) (fun j j1 j2 => absurd j2 (by simp)) X.prog X.w X.xe _ ⟨.bl _, H, I, rfl, ?_⟩
  cases xs with
  | nil =>
    have : i1 = [] := List.length_eq_zero_iff.mp l1.symm
    subst this
    exact q
  | cons x r =>
    cases i1 with
    | nil => simp at l1
    | cons _ _ => exact q
theorem k_neT0 (hu : X.A.units + 64 < cLine) (e : X.K = K := by rfl) : OpR X (compareOp .NotEq) (rNeT0 K) := by
  subst e
  exact op_neT0 hu
theorem z_neT0 {b : Addr} {xs : List V} (z : Zp G M H) (h1 : G a = some (.tup xs)) (h2 : G b = some (.tup [])) (q : Q (.bl (decide (xs ≠ []))) H) : rNeT0 K (.ref a) (.ref b) H Q := ⟨a, b, xs, rfl, rfl, SqT.of (z.sub _ _ h1), SqT.of (z.sub _ _ h2), q⟩
/-! ### == of dicts of data -/
def rEqDK (K : PySem.W.Frag) : R2 := fun x y H Q => ∃ a b ka kb la lb, x = .ref a ∧ y = .ref b ∧ Rd H a (.dK ka) ∧ Rd H b (.dK kb) ∧ DtK K H ka la ∧ DtK K H kb lb ∧ (∀ q ∈ la, SeqAt.shaped q.2 = true) ∧ (∀ q ∈ lb, SeqAt.shaped q.2 = true) ∧ Q (.bl (eqDD la lb)) H
theorem op_eqDK (S : SysIn X.K) (hu : X.A.units + 128 < cLine) : OpR X (compareOp .Eq) (rEqDK X.K) := by
  intro pins s σ H x y v u Q I rx ry h
  obtain ⟨a, b, ka, kb, la, lb, rfl, rfl, ha, hb, da, db, sa, sb, q⟩ := h
  cases (show v = Value.ref a from rx)
  cases (show u = Value.ref b from ry)
  obtain ⟨za, hda, va, ra, dda⟩ := dk_rd I.hok ha
  obtain ⟨zb, hdb, vb, rb, ddb⟩ := dk_rd I.hok hb
  refine PySem.W.rcP_dicts (beq_false_of_ne (sys_ne I S ha)) (beq_false_of_ne (sys_ne I S hb)) dda ddb (by omega) (fun _ => hitsK I S (by show X.A.in1.units + 64 < cLine; have : X.A.in1.units = X.A.units + 1 := rfl; omega) rb db sb ra da sa) _ _ ⟨.bl _, H, I, rfl, ?_⟩
  have l1 : va.length = la.length := by rw [← Paired.length ra, Paired.length da]
  have l2 : vb.length = lb.length := by rw [← Paired.length rb, Paired.length db]
  rw [l1, l2]
  exact q
theorem k_eqDK (S : SysIn K) (hu : X.A.units + 128 < cLine) (e : X.K = K := by rfl) : OpR X (compareOp .Eq) (rEqDK K) := by
  subst e
  exact op_eqDK S hu
/-! ### d.get(x, y) -/
theorem z_dgT {s : Str} {v : V} (z : Zp G M H) (h : FzD G d kvs) (e : valV kvs (.inr s) = some v) (q : Q v H) : DgW (.ref d) (.str s) H Q := z_dgF (k := .inr s) z h e q
def Dg2A (x : V) (H1 : Hp) (A : Addr → Prop) : Prop := ∃ a, x = .ref a ∧ IsD H1 a ∧ A a
def Dg2B (a : Addr) (y z : V) (H3 : Hp) (Q : VK) : Prop := ∃ o, DGet H3 a y o ∧ Q (o.getD z) H3
theorem z_dg2 {td ty tx : TE} (h : td σ H fun x H1 => Dg2A x H1 fun a => ty σ H1 fun y H2 => tx σ H2 fun z H3 => Dg2B a y z H3 Q) : tDGet2 td ty tx σ H Q := h
theorem z_dg2A {A : Addr → Prop} (z : Zp G M H) (h : FzD G d kvs) (q : A d) : Dg2A (.ref d) H A := ⟨d, rfl, .inl ⟨kvs, h.rd z⟩, q⟩
theorem z_dg2B {key : Key} {y : V} (z : Zp G M H) (h : FzD G d kvs) (q : Q ((valV kvs key).getD y) H) : Dg2B d (kV key) y H Q := ⟨_, .inl ⟨kvs, key, h.rd z, rfl, rfl⟩, q⟩
theorem z_dg2S {s : Str} {y : V} (z : Zp G M H) (h : FzD G d kvs) (q : Q ((valV kvs (.inr s)).getD y) H) : Dg2B d (.str s) y H Q := ⟨_, .inl ⟨kvs, .inr s, h.rd z, rfl, rfl⟩, q⟩
/-! ### a comprehension over the pairs of a dict: each a new tuple -/
theorem lc_items {g : TG} {tt : TT} {te : TE} {od : Obj} {ws : List Nat} (I : Nat → Hp → List (Addr × HO) → List V → Prop) (z : Zp G M H) (h0 : I 0 G M []) (fz : ∀ i G' M' acc, I i G' M' acc → G' d = some (.frz od (.dK kvs)))
    (turn : ∀ i k v T G' M' acc Dl G2 H', kvs[i]? = some (k, v) → I i G' M' acc → Zp G2 (M' ++ [(Dl, .lst acc)]) H' → Same G' G2 → G2 T = some (.tup [kV k, v]) → g (.ref T) (wipe σ ws) H' fun σ2 H2 => wipe σ2 ws = wipe σ ws ∧ tt σ2 H2 fun b H3 =>
      Bif b (te σ2 H3 fun y H4 => Laid (I (i + 1)) Dl y H4) (Kept (I (i + 1)) Dl H3))
    (done : ∀ p G M acc G1 H1, I kvs.length G M acc → Same G G1 → Zp G1 M H1 → G1 p = some (.lst acc) → Q (.ref p) H1) : LcW (Iti d od kvs) g tt te ws σ H Q := by
  intro Dl hD
  refine ⟨fun i m H => m = kvs.length - i ∧ i ≤ kvs.length ∧ Kept (I i) Dl H, ⟨kvs.length, by simp, Nat.zero_le _, G, M, [], z.add hD _, h0⟩, ?_⟩
  rintro i m H ⟨rfl, hi, G, M, acc, z, h⟩
  have o := z.sub _ _ (fz i G M acc h)
  by_cases c : i < kvs.length
  · refine .inr ⟨⟨o, c⟩, Kept (I (i + 1)) Dl, fun H' q => ⟨kvs.length - (i + 1), by omega, rfl, c, q⟩, fun x H' y => ?_⟩
    obtain ⟨T, k, v, e, rfl, hT, rfl⟩ := y
    exact turn i k v T G M acc Dl _ _ e h (z.new hT _) (Same.new (z.free hT)) upd_same
  · obtain rfl : i = kvs.length := by omega
    refine .inl ⟨⟨o, Nat.le_refl _⟩, done Dl G M acc _ H h (Same.new ?_) z.fix upd_same⟩
    exact (z.own M.length _ _ last_at).2
end
end Ys
/-! a def whose last statement is super().__init__(..), in a class below an own plain one -/
namespace Ys
open PySem PySem.Spec PyProof.Rows L2 NdefX
structure SupC (P : Program) (K : PySem.W.Frag) (C fI fT cc : Addr) (F : NF) (fd : FuncData) : Prop where
  ex : ∃ oc od osl dV kV doc pm an ct, fd = PySem.W.ksFn F.name F.qual F.params F.body F.scope dV kV doc pm an (.ref F.c) ct cc ∧ K.lookup fI = some ⟨oc, od, .func fd, osl⟩
  cl : F.cl = [(("__class__" : Str), cc)]
  cell : ∃ cl cld csl, K.lookup cc = some ⟨cl, cld, .cell (some (.ref C)), csl⟩
  code : PySem.W.codeIn K (.ref F.c) F.qual = true
  file : ∃ ccl cdd vs ccs file tf, K.lookup F.c = some ⟨ccl, cdd, .fields vs, ccs⟩ ∧ vs[2]? = some (.str file tf) ∧ ((P.main.file : Str) == file) = true
  hd : ∃ ar, (F.params.posonlyargs ++ F.params.args).head? = some ar ∧ ar.arg = "self"
  cls : ∃ cd, PySem.W.clsIn K C = some cd
  mro : PySem.W.mroIn K C (.ref C) = some true
  sup : PySem.W.ks_superIn K C C "__init__" = some (some (.ref fT))
  ty : PySem.W.typeIn K (.ref fT) = some (.type "function")
  fi : PySem.W.fnIn K fT = true
  opq : PySem.W.nsIn K cStatics "thirdparty.any" = some none
  top : (P.main.scope.names.lookup ("super" : Str)).isSome = false
structure PSw (X : Cx) (body st : List Stmt) (t : TS) : Prop where
  run : ∀ (pins : List (Addr × Obj)) (s : Shared) (σ : L2.St) (H : Hp) (D : Ends), Inv X pins σ H s → t D σ H → _root_.PySem.wpAt (model X.prog X.w) X.A (.func body X.env) (execs st X.env) (SP X pins D) X.xe s
section
variable {X : Cx} {body rest : List Stmt} {st : Stmt} {t u : TS}
theorem psw_cons (h1 : PS X st t) (h2 : PSw X body rest u) : PSw X body (st :: rest) (tSeq t u) := by
  refine ⟨fun pins s σ H D I h => ?_⟩
  refine ks_wpAt_execs_cons (ks_wpAt_mono (wpAt_of_wpAny (h1.run pins s σ H { D with nx := u D } I h)) (fun f s1 q => ?_) fun _ _ x => x)
  cases f with
  | next =>
    obtain ⟨σ', H', I', q⟩ := q
    exact h2.run pins s1 σ' H' D I' q
  | ret v => exact q
  | brk => exact q
  | cont => exact q
def tSup (C : Addr) (n m : Nat) (gV : List V → List V → List V) (sp : Sp) (E : XK) (t tk : TA) : TS := fun D σ H => ∃ x dx fs, σ[0]? = some (some (V.ref x)) ∧ H x = some (.ins C dx fs) ∧
  t σ H fun vs H1 => vs.length = n ∧ tk σ H1 fun zs H2 => zs.length = m ∧ sp (gV (V.ref x :: vs) zs) H2 (fun _ H3 => D.nx σ H3) E
theorem psw_super {C fI fT cc L : Addr} {F : NF} {fd fdT : FuncData} {CX : CXT} {k n : Nat} {psT ks : List Str} {sp : Sp} {E : XK} {g : List Value → List Value → List Value} {gV : List V → List V → List V} {e : Expr} {es : List Expr} {kws : List Keyword} {p0 p1 p2 p4 p5 : Pos} {ta tk : TA} {pl : Sem Bool}
    (S : SupC X.prog X.K C fI fT cc F fd) (hE : X.env = envF F fI L) (hks : F.scope.names.lookup ("super" : Str) = some .globalImplicit) (hkc : F.scope.names.lookup ("__class__" : Str) = some .free) (hsl : F.scope.names.lookup ("self" : Str) = some .local)
    (hN : X.N[0]? = some ("self" : Str)) (hm : X.mg "super" = none)
    (T : FnOk X.prog X.w X.K X.mg X.base CX k fT fdT psT sp) (hb : KBn X.K fdT psT (n + 1) ks g gV) (hr : Room k X.A) (hx : Passes CX X E) (ha : PA X (e :: es) ta) (hkw : PK X kws tk)
    (hall : (backToKw p4 (keywordEach kws X.env)).all (·.1.isSome) = true) (hkk : (backToKw p4 (keywordEach kws X.env)).filterMap (·.1) = ks)
    (hpl : ((backTo p4 (starEach (e :: es) X.env)).any (·.1) || (backToKw p4 (keywordEach kws X.env)).any (·.1.isNone)) = false)
    (hst : starEach (e :: es) X.env = (false, eval e X.env) :: starEach es X.env)
    (hsw : swapsWith (.Call (.Attribute (.Call (.Name "super" p0) [] [] p1) "__init__" p2) (e :: es) kws p4) none p5.line X.env = pure false)
    (ht : eval (.Call (.Attribute (.Call (.Name "super" p0) [] [] p1) "__init__" p2) (e :: es) kws p4) X.env = (do
      let ov ← attributeBase (.Call (.Name "super" p0) [] [] p1) "__init__" X.env (eval (.Call (.Name "super" p0) [] [] p1) X.env)
      standAt p2.atName
      let (f, first) ← holding [ov] (getMethod ov "__init__" pl)
      callWith p4 f first (backTo p4 (starEach (e :: es) X.env)) (backToKw p4 (keywordEach kws X.env)))) :
    PSw X body [.Expr (.Call (.Attribute (.Call (.Name "super" p0) [] [] p1) "__init__" p2) (e :: es) kws p4) p5] (tSup C n ks.length gV sp E ta tk) := by
  refine ⟨fun pins s σ H D I h => ?_⟩
  obtain ⟨x, dx, fs, h0, hins, h⟩ := h
  obtain ⟨oc, od, osl, dV, kV, doc, pm, an, ct, hfd, lk⟩ := S.ex
  obtain ⟨cl, cld, csl, lcc⟩ := S.cell
  obtain ⟨ccl, cdd, vs0, ccs, file, tf, lcd, hvs, hfile⟩ := S.file
  obtain ⟨ar, har, hars⟩ := S.hd
  obtain ⟨cd, hcls⟩ := S.cls
  have KX : X.K.In s.heap := I.kIn
  obtain ⟨oD, hD1, hD2⟩ : ∃ oD, s.heap.get? C = some oD ∧ oD.data = .cls cd := by
    have hc := hcls
    unfold PySem.W.clsIn at hc
    split at hc
    · rename_i c d cd' sl ho
      cases hc
      exact ⟨_, KX _ _ ho, rfl⟩
    · cases hc
  obtain ⟨mA, J0, _⟩ := ins_get I.hok hins
  obtain ⟨odd, J, _⟩ := J0.look
  refine ks_wpAt_execs_cons (ks_wpAt_Expr_any ?_ I.quiet hsw)
  rw [ht]
  refine _root_.PySem.wpAt_bind (ks_wpAt_mono (Q := fun so s1 => ∃ h', so = Value.ref s.heap.objs.size ∧ s1 = { s with heap := h' } ∧ h'.get? s.heap.objs.size = some { cls := .type "super", dict := none, data := .fields #[.ref C, .ref x, .ref C], slots := #[] } ∧ ∀ y o, s.heap.get? y = some o → h'.get? y = some o) ?_ (fun so s1 hso => ?_) fun _ _ z => z)
  · have hk1 : X.env.kindOf "super" = some .globalImplicit := by rw [hE]; exact hks
    have hk2 : X.env.kindOf "__class__" = some .free := by rw [hE]; exact hkc
    have hk3 : X.env.kindOf "self" = some .local := by rw [hE]; exact hsl
    refine ks_wpAt_super_base (fd := fd) (f := fI) hk1 hk2 (by decide +kernel) (by rw [hE]) (KX _ _ lk) rfl (by rw [hfd]; exact har) (by rw [hE]) (KX _ _ lcd) rfl hvs hfile S.top ?_
    obtain ⟨mb, b1, b2⟩ := I.mod.blt
    refine PySem.W.ks_loadName_global I.ok.kind hk1 (PySem.Calls.loadGlobal_builtin (by rw [I.ok.glob]; exact I.mod.glob.keeps I.bk) hm (by rw [I.ok.blt]; exact b1.keeps I.bk) ((b2 _ (by decide +kernel)).trans (by first | rfl | kernel_rfl)) ⟨rfl, ?_⟩)
    refine wpAny_loadName_free I.ok.kind hk2 (by rw [hE]; show List.lookup _ F.cl = _; rw [S.cl]; rfl) ⟨_, KX _ _ lcc, rfl⟩ ?_
    obtain ⟨m, hn, hl⟩ := I.loc
    obtain ⟨u, r, l⟩ := hl 0 _ _ hN h0 (.inl hk3)
    obtain rfl : u = Value.ref x := r
    rw [hars]
    have hm2 : m "self" = some (.ref x) := by
      rcases l with ⟨_, hmm⟩ | ⟨hk, _⟩
      · exact hmm
      · have e3 : X.env.kindOf "self" = some .local := hk3
        rcases hk with hk | hk <;> (rw [show X.env.kindOf "self" = _ from hk] at e3; cases e3)
    refine wpAny_loadName_local I.ok.kind hk3 hn hm2 ?_
    obtain ⟨hh, gg, d, tt, os⟩ := s
    refine ks_wpAny_isType_cls hD1 hD2 ⟨rfl, ?_⟩
    refine ks_wpAny_call_super hD1 hD2 J.at_ J.cls (fun c e => ?_) (PySem.W.looks_mroIn KX S.mro) (fun h' e k => ⟨h', rfl, rfl, e, k⟩)
    have := J.no
    unfold PySem.W.notCls at this
    rw [e] at this
    exact Bool.noConfusion this
  obtain ⟨h', rfl, rfl, hso, kp⟩ := hso
  refine wpAt_of_wpAny (wpAny_bind (wpAny_standAt (wpAny_bind (wpAny_holding ?_))))
  have I1 : Inv X pins σ H { s with heap := h' } := I.kept (t' := s.toks) kp
  have KX1 : X.K.In h' := I1.kIn
  have hsup := S.sup
  unfold PySem.W.ks_superIn at hsup
  rw [hcls] at hsup
  obtain ⟨of, hof, hofc⟩ : ∃ of, h'.get? fT = some of ∧ of.cls = .type "function" := by
    have ht' : (X.K.lookup fT).map (·.cls) = some (.type "function") := S.ty
    cases z : X.K.lookup fT with
    | none => rw [z] at ht'; cases ht'
    | some of => rw [z] at ht'; exact ⟨of, KX1 _ _ z, Option.some.inj ht'⟩
  have hxC : x ≠ C := PySem.W.ks_ne KX J hcls
  refine thn (Q := fun fx s2 => fx = (Value.ref h'.objs.size, []) ∧ s2 = { s with heap := h'.push (PySem.W.methodObj (.ref fT) (.ref x)), toks := s.toks + 1 }) ?_ fun fx s2 hfx => ?_
  · obtain ⟨hh, gg, d, tt, os⟩ := s
    exact ks_wpAny_getMethod_super hso (PySem.W.looks_opaque KX1 S.opq) (l₀ := cd.mro) (fun A Q E s k q => wpAny_bind ((PySem.W.looks_clsIn KX1 hcls) A _ E s k (wpAny_pure q))) rfl KX1 hsup hof hofc hxC (by decide +kernel) ⟨rfl, rfl⟩
  obtain ⟨rfl, rfl⟩ := hfx
  have I2 : Inv X ((h'.objs.size, PySem.W.methodObj (.ref fT) (.ref x)) :: pins) σ H { s with heap := h'.push (PySem.W.methodObj (.ref fT) (.ref x)), toks := s.toks + 1 } :=
    ClX.pin_new (s := { s with heap := h' }) I1 (fun _ _ z => Heap.get?_push_of_some _ z) (Nat.le_refl _) (Heap.get?_push_size h' rfl) (fun v z => nomatch z)
  refine PySem.W.callWith_of (P := PySem.W.MethP X.K h'.objs.size fT (.ref x)) hpl (PySem.W.keeps_M (q := h'.objs.size) (self := .ref x) S.fi) (evalArgs_kw2 hall (thn (ha.run p4 _ _ σ H _ I2 h) fun us s3 ⟨vs, H1, I3, rv, l1, q1⟩ => thn (hkw.run p4 _ s3 σ H1 _ I3 q1) fun ws s4 ⟨zs, H2, I4, rz, l3, q2⟩ => ⟨⟨ClX.pin_at I4, I4.kIn⟩, ?_⟩) hst)
  rw [hkk]
  refine wpAny_call (PySem.W.method_call (ClX.pin_at I4) (codeAny_mono (T.run X.A X.stack s4 H2 ⟨.ref x :: us, ks.zip ws⟩ (g (.ref x :: us) ws) (gV (V.ref x :: vs) zs) _ E hr I4.env0 (hb.to s4 (.ref x :: us) ws I4.kIn (by rw [List.length_cons, ← rv.length, l1]) (by rw [← rz.length, l3])) (hb.rel (vs := V.ref x :: vs) (us := Value.ref x :: us) (.cons rfl rv) rz) q2) fun rr s' hq => ?_))
  match rr, hq with
  | .error er, hq => exact hx _ σ H2 s4 er s' I4 hq
  | .ok (.ret u), hq =>
    obtain ⟨v, H3, I5, _, q5⟩ := I4.after hq
    exact wpAt_of_wpAny (pss_nil.run pins s' σ H3 D (ClX.unpin I5) q5)
  | .ok .next, hq => exact hq.elim
  | .ok .brk, hq => exact hq.elim
  | .ok .cont, hq => exact hq.elim
end
theorem fnok_sup {P : Program} {w : World} {K : PySem.W.Frag} {mg : Str → Option Value} {base : Heap} {CX : CXT} {k : Nat} {C fI fT cc : Addr} {F : NF} {fd : FuncData} {N ps : List Str} {sp : Sp} (S : SupC P K C fI fT cc F fd) (NS : NScope N ps ["__class__"] F.scope)
    (len : ∀ vs H Q E, sp vs H Q E → vs.length = ps.length)
    (hbody : ∀ (A : Around) (outer : List Env) (s : Shared) (H : Hp) (vs : List V) (Q : VK) (E : XK), Room k (A.deeper (envF F fI s.heap.objs.size)) → sp vs H Q E →
      ∃ t, PSw (ncx CX P w K mg base N F fI A outer s H E) F.body F.body t ∧ t { nx := fun _ H' => Q .non H', rt := Q } (startF N vs [some (V.ref C)]) H) : FnOk P w K mg base CX (k + 1) fI fd ps sp := by
  refine ⟨len, fun A outer s H args us vs Q E hr e0 hb r hsp => ?_⟩
  have hl := len _ _ _ _ hsp
  obtain ⟨oc, od, osl, dV, kV, doc, pm, an, ct, rfl, lk⟩ := S.ex
  obtain ⟨cl, cld, csl, lcc⟩ := S.cell
  have KX : K.In s.heap := e0.mod.kin.keeps fun b o e => (e0.bs b o e).1
  have lim : s.heap.NoLimit := e0.mod.nolimit.keeps fun b o e => (e0.bs b o e).1
  have hcell : s.heap.IsCell cc (some (.ref C)) := ⟨_, KX _ _ lcc, rfl⟩
  have hun : H cc = none := (e0.bs _ _ (e0.mod.kin _ _ lcc)).2
  have CA : CellsAt F.cl ["__class__"] [some (V.ref C)] s.heap H := by
    rw [S.cl]
    have hlk : ∀ (y : Str) (c : Addr), List.lookup y [(("__class__" : Str), cc)] = some c → y = "__class__" ∧ cc = c := fun y c e => by
      rw [List.lookup_cons] at e
      by_cases h : y = "__class__"
      · subst h
        simp at e
        exact ⟨rfl, e⟩
      · have : (y == ("__class__" : Str)) = false := by simpa using h
        rw [this] at e
        cases e
    refine ⟨rfl, fun y c e => ?_, fun x y c a1 a2 => by rw [(hlk _ _ a1).1, (hlk _ _ a2).1], fun i y e => ?_⟩
    · obtain ⟨_, rfl⟩ := hlk _ _ e
      exact ⟨hun, _, hcell⟩
    · cases i with
      | zero =>
        obtain rfl : ("__class__" : Str) = y := by simpa using e
        refine ⟨cc, by simp, fun v hv => ⟨.ref C, ?_, hcell⟩⟩
        obtain rfl : V.ref C = v := by simpa using hv
        rfl
      | succ j => simp at e
  refine codeAny_call_function hr.depth (KX _ _ lk) rfl NS.co NS.gen rfl (PySem.W.codeRec_of KX S.code) (hb _ _ _ _ (wpAny_newFunctionEnv NS.nocell (fun ⟨n, _⟩ hy => NS.par n (List.of_mem_zip hy).1) (fun h₁ hns hsb => ⟨lim.fresh _ hsb, ?_⟩) NS.kind))
  have hcl := S.cl
  have henv : callEnv (PySem.W.ksFn F.name F.qual F.params F.body F.scope dV kV doc pm an (.ref F.c) ct cc) s.heap.objs.size fI = envF F fI s.heap.objs.size := by
    show PySem.W.envX F.qual F.scope s.heap.objs.size fI (.ref F.c) [("__class__", cc)] = _
    unfold envF
    rw [hcl]
  show codeAny _ _ (.func F.body (callEnv (PySem.W.ksFn F.name F.qual F.params F.body F.scope dV kV doc pm an (.ref F.c) ct cc) s.heap.objs.size fI)) _ _
  rw [henv]
  refine ks_codeAny_funcAt ?_
  have kp : ∀ b o, s.heap.get? b = some o → h₁.get? b = some o := fun b o e => hsb.extBut b o (Nat.ne_of_lt (Heap.lt_size e)) (Heap.get?_push_of_some _ e)
  obtain ⟨t, ht, hq⟩ := hbody A outer s H vs Q E (hr.deeper _) hsp
  have I : Inv (ncx CX P w K mg base N F fI A outer s H E) [] (startF N vs [some (V.ref C)]) H { s with heap := h₁, toks := s.toks + (ps.zip us).length } := inv_startN NS hr.hd e0 hl r CA hns kp
  refine ks_wpAt_mono (ht.run [] _ (startF N vs [some (V.ref C)]) H _ I hq) (fun fl s' hs => ?_) fun e s' hs => hs
  have fin : ∀ {σ' : L2.St} {H' : Hp} {v : V} {u : Value}, Inv (ncx CX P w K mg base N F fI A outer s H E) [] σ' H' s' → L2.RelV v u → Q v H' → CE outer P w H s Q u s' :=
    fun {σ' H' v u} J rv q => ⟨v, H', J.os, J.bare, J.base, J.hok, rv, q⟩
  cases fl with
  | ret u =>
    obtain ⟨v, σ', H', J, rv, q⟩ := hs
    exact fin J rv q
  | next =>
    obtain ⟨σ', H', J, q⟩ := hs
    exact fin (v := V.non) (u := Value.none) J rfl q
  | brk =>
    obtain ⟨_, _, _, q⟩ := hs
    exact False.elim q
  | cont =>
    obtain ⟨_, _, _, q⟩ := hs
    exact False.elim q
end Ys
/-! defs with *v, **d called by keywords; classes made so; classmethods by keywords -/
namespace Ys
open PySem PySem.Spec PyProof.Rows L2
theorem noneOf {G G1 : Hp} {a : Addr} (s : Same G G1) (h : G1 a = none) : G a = none := by
  cases e : G a with
  | none => rfl
  | some o => rw [s a o e] at h; cases h
def FnRK (P : Program) (w : World) (K : PySem.W.Frag) (mg : Str → Option Value) (base : Heap) (CX : CXT) (k : Nat) (f : Addr) (n : Nat) (ks : List Str) (sp : Sp) : Prop :=
  ∀ (A : Around) (outer : List Env) (s : Shared) (H : Hp) (us ws : List Value) (vs zs : List V) (Q : VK) (E : XK), Room k A → Env0 P w K mg base A outer s H → Vals vs us → Vals zs ws → vs.length = n → zs.length = ks.length → sp (vs ++ zs) H Q E →
    codeAny (model P w) A (.call (.ref f) ⟨us, ks.zip ws⟩) (CR CX outer P w H s Q E) s
theorem FnRK.imp {P : Program} {w : World} {K : PySem.W.Frag} {mg : Str → Option Value} {base : Heap} {CX : CXT} {k : Nat} {f : Addr} {n : Nat} {ks : List Str} {sp sp' : Sp} (F : FnRK P w K mg base CX k f n ks sp) (h : ∀ vs H Q E, sp' vs H Q E → sp vs H Q E) : FnRK P w K mg base CX k f n ks sp' :=
  fun A outer s H us ws vs zs Q E hr e0 r rz l1 l2 hs => F A outer s H us ws vs zs Q E hr e0 r rz l1 l2 (h _ _ _ _ hs)
theorem fnRK_of {P : Program} {w : World} {K : PySem.W.Frag} {mg : Str → Option Value} {base : Heap} {CX : CXT} {k : Nat} {f : Addr} {n : Nat} {ks ps : List Str} {sp : Sp} {fd : FuncData} {g : List Value → List Value → List Value} (F : FnOk P w K mg base CX k f fd ps sp) (hb : KBn K fd ps n ks g fun vs zs => vs ++ zs) : FnRK P w K mg base CX k f n ks sp :=
  fun A outer s H us ws vs zs Q E hr e0 r rz l1 l2 hs => F.run A outer s H ⟨us, ks.zip ws⟩ (g us ws) (vs ++ zs) Q E hr e0 (hb.to s us ws (e0.mod.kin.keeps fun b o e => (e0.bs b o e).1) (r.length.symm.trans l1) (rz.length.symm.trans l2)) (hb.rel r rz) hs
section
variable {P : Program} {w : World}
/-! ### the dict of the keywords -/
theorem push_update (h : Heap) (o : Obj) (f : Obj → Obj) : (h.push o).update h.objs.size f = h.push (f o) := by
  obtain ⟨objs, l⟩ := h
  show (⟨(objs.push o).modify objs.size f, l⟩ : Heap) = ⟨objs.push (f o), l⟩
  congr 1
  apply Array.ext
  · simp
  · intro i h1 h2
    rw [Array.getElem_modify]
    simp only [Array.getElem_push]
    by_cases c : i = objs.size
    · subst c
      simp
    · rw [if_neg (fun e => c e.symm)]
      have hlt : i < objs.size := by
        have h2' : i < objs.size + 1 := by simpa using h2
        omega
      rw [dif_pos hlt, dif_pos hlt]
theorem kwd_set {A : Around} {E : Value → Shared → Prop} {h : Heap} {g : Array GenState} {dr : Drawn} {t : Nat} {os : OsState} {es : List DictEntry} {n : Nat} {k : Str} {v : Value} {Q : Unit → Shared → Prop} (hs : ∀ e ∈ es, e.key.isStr k = false) (hr : ∀ e ∈ es, e.refKey = false)
    (q : Q () ⟨h.push (PySem.W.dictOf (es ++ [⟨PyData.keyHash w.params k, .str k t, v⟩]) (n + 1)), g, dr, t + 1, os⟩) : wpAny (model P w) A (nsSet h.objs.size k v) Q E ⟨h.push (PySem.W.dictOf es n), g, dr, t, os⟩ := by
  have e1 : es.any (·.key.isStr k) = false := by
    cases q : es.any (·.key.isStr k) with
    | false => rfl
    | true => obtain ⟨e, he, z⟩ := List.any_eq_true.mp q; rw [hs e he] at z; cases z
  have e2 : es.any (·.refKey) = false := by
    cases q : es.any (·.refKey) with
    | false => rfl
    | true => obtain ⟨e, he, z⟩ := List.any_eq_true.mp q; rw [hr e he] at z; cases z
  have e : Obj.putName k (PyData.keyHash w.params k) (.str k t) v (PySem.W.dictOf es n) = PySem.W.dictOf (es ++ [⟨PyData.keyHash w.params k, .str k t, v⟩]) (n + 1) := by
    rw [PySem.W.putName_dict, PySem.W.putL_new hs]
    show PySem.W.dictOf _ (if es.any (·.key.isStr k) then n else n + 1) = _
    rw [e1, if_neg Bool.false_ne_true]
  have D : (h.push (PySem.W.dictOf es n)).get? h.objs.size = some (PySem.W.dictOf es n) := Heap.get?_push_size h rfl
  have c : aRefKeyMayBeTheName k es.toArray = false := by
    rw [aRefKeyMayBeTheName_at, ← Array.any_toList, ← Array.any_toList]
    show (!es.any (·.key.isStr k) && es.any (·.refKey)) = false
    rw [e2, Bool.and_false]
  unfold nsSet
  refine wpAny_bind (wpAny_bind (wpAny_askSetting (wpAny_pure (wpAny_bind (wpAny_mkText (wpAny_bind (wpAny_loadPart D ?_)))))))
  dsimp only
  rw [c]
  refine wpAny_updatePart D ?_
  show Q () ⟨(h.push (PySem.W.dictOf es n)).update h.objs.size (Obj.putName k (PyData.keyHash w.params k) (.str k t) v), g, dr, t + 1, os⟩
  rw [push_update, e]
  exact q
theorem kwd_fill {A : Around} {E : Value → Shared → Prop} {h : Heap} {g : Array GenState} {dr : Drawn} {os : OsState} {Q : PUnit → Shared → Prop} : ∀ (ex : List (Str × Value)) (t : Nat) (es : List DictEntry) (n : Nat), (∀ e ∈ es, ∀ x ∈ ex, e.key.isStr x.1 = false) → (∀ e ∈ es, e.refKey = false) → (ex.map (·.1)).Nodup →
    Q ⟨⟩ ⟨h.push (PySem.W.dictOf (es ++ PySem.W.kwEs w.params t ex) (n + ex.length)), g, dr, t + ex.length, os⟩ →
    wpAny (model P w) A (forIn ex PUnit.unit fun x _ => (nsSet h.objs.size x.1 x.2 >>= fun _ => pure (ForInStep.yield PUnit.unit))) Q E ⟨h.push (PySem.W.dictOf es n), g, dr, t, os⟩
  | [], t, es, n, _, _, _, q => by
    rw [List.forIn_nil]
    refine wpAny_pure ?_
    have q : Q ⟨⟩ ⟨h.push (PySem.W.dictOf (es ++ []) n), g, dr, t, os⟩ := q
    rw [List.append_nil] at q
    exact q
  | x :: r, t, es, n, hs, hr, hn, q => by
    obtain ⟨hn1, hn2⟩ := List.nodup_cons.mp (show (x.1 :: r.map (·.1)).Nodup from hn)
    rw [List.forIn_cons]
    refine wpAny_bind (wpAny_bind (kwd_set (fun e he => hs e he x (.head _)) hr (wpAny_pure ?_)))
    refine kwd_fill r (t + 1) _ _ (fun e he y hy => ?_) (fun e he => ?_) hn2 ?_
    · rcases List.mem_append.mp he with he | he
      · exact hs e he y (.tail _ hy)
      · obtain rfl := List.mem_singleton.mp he
        show (x.1 == y.1) = false
        exact beq_eq_false_iff_ne.mpr fun q => hn1 (by rw [q]; exact List.mem_map_of_mem hy)
    · rcases List.mem_append.mp he with he | he
      · exact hr e he
      · obtain rfl := List.mem_singleton.mp he
        rfl
    · have t1 : t + 1 + r.length = t + (r.length + 1) := by omega
      have t2 : n + 1 + r.length = n + (r.length + 1) := by omega
      rw [t1, t2, List.append_assoc]
      exact q
theorem kwd_pairs : ∀ (ks : List Str) (ws : List Value) (t : Tok), Pairs (mixKind P w) (PySem.W.kwEs w.params t (ks.zip ws)) ((ks.map (Sum.inr : Str → Key)).zip ws)
  | [], _, _ => .nil
  | _ :: _, [], _ => .nil
  | k :: ks, x :: ws, t => .cons (kV_is (k := .inr k) (show RelV (.str k) (.str k t) from ⟨t, rfl⟩)) rfl (kwd_pairs ks ws (t + 1))
theorem kwd_keys (ks : List Str) (ws : List Value) (t : Tok) : KeysOf (mixKind P w) (PySem.W.kwEs w.params t (ks.zip ws)).toArray := fun e he => by
  obtain ⟨k, u, hk, hh⟩ := PySem.W.kwEs_key _ t e (List.mem_toArray.mp he)
  exact ⟨.inr k, by rw [hk]; exact kV_is (k := .inr k) (show RelV (.str k) (.str k u) from ⟨u, rfl⟩), hh⟩
def kwD (ks : List Str) (zs : List V) : List (Key × V) := (ks.map Sum.inr).zip zs
theorem kwd_kv : ∀ {ks : List Str} {zs : List V} {ws : List Value}, Vals zs ws → KV (kwD ks zs) ((ks.map (Sum.inr : Str → Key)).zip ws)
  | [], _, _, _ => .nil
  | _ :: _, [], _, .nil => .nil
  | _ :: _, _ :: _, _, .cons r rs => .cons ⟨rfl, r⟩ (kwd_kv rs)
theorem kwd_nodup : ∀ {ks : List Str} {ws : List Value}, ks.Nodup → (((ks.map (Sum.inr : Str → Key)).zip ws).map (·.1)).Nodup ∧ ((ks.zip ws).map (·.1)).Nodup
  | [], _, _ => ⟨.nil, .nil⟩
  | _ :: _, [], _ => ⟨.nil, .nil⟩
  | k :: ks, x :: ws, h => by
    obtain ⟨h1, h2⟩ := List.nodup_cons.mp h
    obtain ⟨a, b⟩ := kwd_nodup (ws := ws) h2
    refine ⟨List.nodup_cons.mpr ⟨fun m => ?_, a⟩, List.nodup_cons.mpr ⟨fun m => ?_, b⟩⟩
    · obtain ⟨y, hy, e⟩ := List.mem_map.mp m
      have := (List.of_mem_zip hy).1
      rw [e] at this
      obtain ⟨k', hk, e'⟩ := List.mem_map.mp this
      exact h1 (Sum.inr.inj e' ▸ hk)
    · obtain ⟨y, hy, e⟩ := List.mem_map.mp m
      have := (List.of_mem_zip hy).1
      rw [e] at this
      exact h1 this
theorem kwd_ok {H : Hp} {h : Heap} {ks : List Str} {ws : List Value} {zs : List V} (hn : ks.Nodup) (hl : ks.length ≤ sizeLine) (hb : sysModules < h.objs.size) (r : Vals zs ws) (t : Tok) (n : Nat) : ObjOk P w H (h.push (PySem.W.dictOf (PySem.W.kwEs w.params t (ks.zip ws)) n)) h.objs.size (.dK (kwD ks zs)) := by
  refine ⟨?_, beq_eq_false_iff_ne.mpr (Ne.symm (Nat.ne_of_lt hb)), _, kwd_kv r, _, _, n, Heap.get?_push_size h rfl, ⟨rfl, rfl, rfl⟩, rfl, kwd_keys ks ws t, kwd_pairs ks ws t, (kwd_nodup hn).1⟩
  unfold kwD
  rw [List.length_zip, List.length_map]
  omega
end
section
variable {CX : CXT} {P : Program} {w : World} {K : PySem.W.Frag} {mg : Str → Option Value} {base : Heap} {k : Nat} {f : Addr} {name qual : Str} {params : Arguments} {body : List Stmt} {scope : Scope} {dV kV doc pm cdv ct oc : Value} {an od : Option Addr}
  {osl : Array (Option Value)} {N ps ks : List Str} {sp : Sp}
def kwFill (ps ks : List Str) (pv pd : Str) (us ws : List Value) : Sem (List (Str × Value)) :=
  newTuple [] >>= fun t => (alloc ({ cls := .type "dict", data := .dict #[] } : Obj) : Sem Addr) >>= fun d => (forIn (ks.zip ws) PUnit.unit fun x _ => (nsSet d x.1 x.2 >>= fun _ => pure (ForInStep.yield PUnit.unit))) >>= fun _ => pure (ps.zip us ++ [(pv, t), (pd, Value.ref d)])
theorem fn_starK {pv pd : Str} (lk : K.lookup f = some ⟨oc, od, .func (PySem.W.fnOf name qual params body scope dV kV doc pm an cdv ct), osl⟩) (hcd : PySem.W.codeIn K cdv qual = true) (S : FnScope N (ps ++ [pv, pd]) scope) (hCX : StX.CXUp CX) (hks : ks.Nodup) (hkl : ks.length ≤ sizeLine)
    (hb : ∀ us ws : List Value, us.length = ps.length → ws.length = ks.length → bindArgs (PySem.W.fnOf name qual params body scope dV kV doc pm an cdv ct) ⟨us, ks.zip ws⟩ =
      kwFill ps ks pv pd us ws)
    (hbody : ∀ (A : Around) (outer : List Env) (s : Shared) (H : Hp) (vs : List V) (Q : VK) (E : XK), Room k (A.deeper (envOfC qual scope s.heap.objs.size f cdv)) → sp vs H Q E →
      ∃ t, PSs (cxOf CX P w K mg base N qual scope f cdv A outer s H E) body t ∧ t { nx := fun _ H' => Q .non H', rt := Q } (start N vs) H) :
    FnRK P w K mg base CX (k + 1) f ps.length ks (fun vs H Q E => ∃ xs zs, vs = xs ++ zs ∧ xs.length = ps.length ∧ ∀ p d, H p = Option.none → H d = Option.none → d ≠ p → sp (xs ++ [V.ref p, V.ref d]) (upd (upd H p (.tup [])) d (.dK (kwD ks zs))) Q E) := by
  intro A outer s H us ws vs zs Q E hr e0 r rz l1 l2 hsp
  obtain ⟨xs, zs', ev, hl, hq⟩ := hsp
  obtain ⟨rfl, rfl⟩ := List.append_inj ev (l1.trans hl.symm)
  have hn : H s.heap.objs.size = Option.none := e0.hok.fresh (Nat.le_refl _)
  refine StX.run_bnd lk hcd S hr e0 (G := fun ys H2 => ∃ p d, H p = Option.none ∧ H d = Option.none ∧ d ≠ p ∧ ys = vs ++ [V.ref p, V.ref d] ∧ H2 = upd (upd H p (.tup [])) d (.dK (kwD ks zs))) (fun A' Ex Q' h => ?_) fun s2 H2 ys ⟨p, d, hp, hd, hne, ex, eH⟩ hr' => ?_
  · rw [hb us ws (r.length.symm.trans l1) (rz.length.symm.trans l2)]
    unfold kwFill
    have new : ObjOk P w (upd H s.heap.objs.size (.tup [])) (s.heap.push ({ cls := .type "tuple", data := .seq [].toArray } : Obj)) s.heap.objs.size (.tup []) := ⟨by decide, [], .nil, ⟨_, Heap.get?_push_size _ rfl, rfl, _, rfl⟩⟩
    have e1 := StX.env0_laid e0 new
    have un1 := StX.un_laid (fs := frs outer) (s := s) (o := ({ cls := .type "tuple", data := .seq [].toArray } : Obj)) (u := .tup []) hn
    have hn2 := e1.hok.fresh (Nat.le_refl _)
    have hb2 := StX.env0_big e1
    refine wpAny_bind (wpAny_newTuple (wpAny_bind (wpAny_alloc (wpAny_bind ?_))) (by decide))
    refine kwd_fill (h := s.heap.push ({ cls := .type "tuple", data := .seq [].toArray } : Obj)) (ks.zip ws) s.toks [] 0 (fun _ he => nomatch he) (fun _ he => nomatch he) (kwd_nodup hks).2 (wpAny_pure ?_)
    have ok := kwd_ok (P := P) (w := w) (H := upd (upd H s.heap.objs.size (.tup [])) (s.heap.push ({ cls := .type "tuple", data := .seq [].toArray } : Obj)).objs.size (.dK (kwD ks zs))) hks hkl hb2 rz s.toks (0 + (ks.zip ws).length)
    have e2 := StX.env0_laid e1 ok
    have un2 := un1.trans (StX.un_laid (fs := frs outer) (s := { s with heap := s.heap.push ({ cls := .type "tuple", data := .seq [].toArray } : Obj) }) (o := PySem.W.dictOf (PySem.W.kwEs w.params s.toks (ks.zip ws)) (0 + (ks.zip ws).length)) (u := .dK (kwD ks zs)) hn2)
    have sz : (s.heap.push ({ cls := .type "tuple", data := .seq [].toArray } : Obj)).objs.size = s.heap.objs.size + 1 := Heap.size_push _ _
    have ne : (s.heap.push ({ cls := .type "tuple", data := .seq [].toArray } : Obj)).objs.size ≠ s.heap.objs.size := by
      rw [sz]
      exact Nat.succ_ne_self _
    have hd : H (s.heap.push ({ cls := .type "tuple", data := .seq [].toArray } : Obj)).objs.size = Option.none := e0.hok.fresh (by rw [sz]; exact Nat.le_succ _)
    have z := h ⟨(s.heap.push ({ cls := .type "tuple", data := .seq [].toArray } : Obj)).push (PySem.W.dictOf (PySem.W.kwEs w.params s.toks (ks.zip ws)) (0 + (ks.zip ws).length)), s.gens, s.drawn, s.toks + (ks.zip ws).length, s.os⟩ _ (vs ++ [V.ref s.heap.objs.size, V.ref (s.heap.push ({ cls := .type "tuple", data := .seq [].toArray } : Obj)).objs.size]) (us ++ [Value.ref s.heap.objs.size, Value.ref (s.heap.push ({ cls := .type "tuple", data := .seq [].toArray } : Obj)).objs.size]) ⟨e2.frames, e2.mod, e2.bs, e2.bsz, e2.funs, e2.frf, e2.hok, e2.bare⟩ un2 rfl
      (fun e s' => hCX outer s H _ _ E e s' un2 (fun b o q => Heap.get?_push_of_some _ (Heap.get?_push_of_some _ q)) rfl) (r.append (.cons rfl (.cons rfl .nil))) (by rw [List.length_append, List.length_append, hl] <;> rfl) ⟨_, _, hn, hd, ne, rfl, rfl⟩
    rw [List.zip_append (r.length.symm.trans l1).symm] at z
    exact z
  · subst ex eH
    exact hbody A outer s2 _ _ Q E hr' (hq p d hp hd hne)
end
section
variable {X : Cx} {CX : CXT} {K : PySem.W.Frag} {k n i : Nat} {C a d f g p : Addr} {fd : FuncData} {ps ks : List Str} {sp : Sp} {E : XK} {x m : Str} {nm pos apos : Pos} {e o : Expr} {kws : List Keyword} {ta te : TE} {t tk : TA} {G H : Hp} {M : List (Addr × HO)} {σ : L2.St} {Q : VK} {mc : Value}
/-! ### a class made by keywords alone -/
structure MkRK (P : Program) (w : World) (K : PySem.W.Frag) (mg : Str → Option Value) (base : Heap) (CX : CXT) (k : Nat) (C : Addr) (ks : List Str) (sp : Sp) : Prop where
  ex : ∃ f, Mk K C f ∧ FnRK P w K mg base CX k f 1 ks sp
def MkRKW (C : Addr) (m : Nat) (sp : Sp) (E : XK) (zs : List V) (H1 : Hp) (Q : VK) : Prop := zs.length = m ∧ ∀ x dx, H1 x = none → H1 dx = none → dx ≠ x → sp (V.ref x :: zs) (upd (upd H1 dx (.own x)) x (.ins C dx [])) (fun v H2 => v = .non ∧ Q (.ref x) H2) E
def tMakeRK (C : Addr) (m : Nat) (sp : Sp) (E : XK) (tk : TA) : TE := fun σ H Q => tk σ H fun zs H1 => MkRKW C m sp E zs H1 Q
theorem run_makeRK {pins : List (Addr × Obj)} {s : Shared} {ws : List Value} {zs : List V} (M : Mk X.K C f) (F : FnRK X.prog X.w X.K X.mg X.base CX k f 1 ks sp) (hr : Room (k + 1) X.A) (hx : Passes CX X E) (I : Inv X pins σ H s) (rz : Vals zs ws) (h : MkRKW C ks.length sp E zs H Q) :
    wpAny (model X.prog X.w) X.A (call (.ref C) [] (ks.zip ws)) (EP X pins σ Q) X.xe s := by
  obtain ⟨l2, h⟩ := h
  have hq := h (s.heap.objs.size + 1) s.heap.objs.size (I.hok.fresh (Nat.le_succ _)) (I.hok.fresh (Nat.le_refl _)) (Nat.ne_of_lt (Nat.lt_succ_self _))
  have I2 := Inv.made (C := C) I
  refine wpAny_call (make_map (f := f) I.kIn M.makes M.init (beq_iff_eq.mp M.fn) (codeAny_mono (F _ X.stack _ _ [Value.ref (s.heap.objs.size + 1)] ws [V.ref (s.heap.objs.size + 1)] zs _ E (hr.make C [] (ks.zip ws))
    (I2.env0.make C [] (ks.zip ws)) (.cons rfl .nil) rz rfl l2 hq) fun r s' hq' => ?_))
  cases r with
  | error e => exact hx pins σ _ _ e s' I2 hq'
  | ok fl =>
    cases fl with
    | ret u =>
      obtain ⟨v, H', I3, rv, ev, q3⟩ := I2.after hq'
      subst ev
      exact ⟨rv, ⟨V.ref (s.heap.objs.size + 1), H', I3, rfl, q3⟩⟩
    | next => exact False.elim hq'
    | brk => exact False.elim hq'
    | cont => exact False.elim hq'
theorem pe_mkRK (R : MkRK X.prog X.w X.K X.mg X.base CX k C ks sp) (hm : X.mg x = some (.ref C)) (hr : Room (k + 1) X.A) (hg : Gl X x) (hx : Passes CX X E) (hkw : PK X kws tk)
    (hall : (backToKw pos (keywordEach kws X.env)).all (·.1.isSome) = true := by rfl) (hks : (backToKw pos (keywordEach kws X.env)).filterMap (·.1) = ks := by rfl) (hdb : (x == ("__debug__" : Str)) = false := by decide)
    (hpl : ((backTo pos (starEach [] X.env)).any (·.1) || (backToKw pos (keywordEach kws X.env)).any (·.1.isNone)) = false := by rfl) : PE X (.Call (.Name x nm) [] kws pos) (tMakeRK C ks.length sp E tk) := by
  obtain ⟨f, M, F⟩ := R.ex
  refine ⟨fun pins s σ H Q I h => ?_⟩
  refine wpAny_Call_Name_kw (ld_glob I hg hm ?_ hdb)
  refine PySem.W.callWith_KW0 (h₀ := X.base) I.ok.mod.kin M.kp hall ?_ hpl
  refine thn (hkw.run pos pins s σ H _ I h) fun ws s2 ⟨zs, H2, I2, rz, q2⟩ => ⟨I2.kIn, ?_⟩
  rw [hks]
  exact run_makeRK M F hr hx I2 rz q2
theorem z_mkRK {m : Nat} (h : tk σ H fun zs H1 => MkRKW C m sp E zs H1 Q) : tMakeRK C m sp E tk σ H Q := h
theorem z_mkRKI {m : Nat} {zs : List V} (l : zs.length = m) (z : Zp G M H) (q : ∀ x dx H1, Zp (upd G dx (.own x)) (M ++ [(x, .ins C dx [])]) H1 → Same G (upd G dx (.own x)) → sp (.ref x :: zs) H1 (fun v H3 => v = .non ∧ Q (.ref x) H3) E) : MkRKW C m sp E zs H Q :=
  ⟨l, fun x dx hx hd ne => q x dx _ ((z.new hd _).add (by rw [upd_ne (Ne.symm ne)]; exact hx) _) (Same.new (z.free hd))⟩
/-! ### a classmethod by keywords alone -/
def tCMethK (C : Addr) (m : Nat) (sp : Sp) (E : XK) (ta : TE) (tk : TA) : TE := fun σ H Q => ta σ H fun x H1 => x = .ref C ∧ tk σ H1 fun zs H2 => zs.length = m ∧ sp (.ref C :: zs) H2 Q E
theorem pe_cmethK {pl : Sem Bool} (he : PE X o ta) (r : ClX.CRead X.K C mc) (c : ClX.CMet X.K C mc m p g) (F : FnRK X.prog X.w X.K X.mg X.base CX k g 1 ks sp) (hr : Room k X.A) (hx : Passes CX X E) (hkw : PK X kws tk)
    (hall : (backToKw pos (keywordEach kws X.env)).all (·.1.isSome) = true := by rfl) (hks : (backToKw pos (keywordEach kws X.env)).filterMap (·.1) = ks := by rfl)
    (hpl : ((backTo pos (starEach [] X.env)).any (·.1) || (backToKw pos (keywordEach kws X.env)).any (·.1.isNone)) = false := by rfl)
    (ht : eval (.Call (.Attribute o m apos) [] kws pos) X.env = (do
      let ov ← eval o X.env
      standAt apos.atName
      let (f, first) ← holding [ov] (getMethod ov m pl)
      callWith pos f first (backTo pos (starEach [] X.env)) (backToKw pos (keywordEach kws X.env))) := by rfl) :
    PE X (.Call (.Attribute o m apos) [] kws pos) (tCMethK C ks.length sp E ta tk) := by
  refine ⟨fun pins s σ H Q I h => ?_⟩
  refine PySem.W.methodCall_KW (pl := pl) (thn (he.run pins s σ H _ I h) fun u s1 ⟨x, H1, I1, rx, ex, q⟩ => ?_) ht
  subst ex
  obtain rfl : u = Value.ref C := rx
  refine ClX.getmethcm_ok I1 r c fun s2 I2 => ?_
  refine PySem.W.callWith_of (P := PySem.W.MethP X.K s1.heap.objs.size g (.ref C)) hpl (PySem.W.keeps_M (q := s1.heap.objs.size) (self := .ref C) c.fi) (evalArgs_kw2_nil hall (thn (hkw.run pos _ s2 σ H1 _ I2 q) fun ws s3 ⟨zs, H2, I3, rz, l2, q2⟩ => ⟨⟨ClX.pin_at I3, I3.kIn⟩, ?_⟩))
  rw [hks]
  have z : wpAny (model X.prog X.w) X.A (call (.ref s1.heap.objs.size) [] (ks.zip ws)) (EP X ((s1.heap.objs.size, PySem.W.methodObj (.ref g) (.ref C)) :: pins) σ Q) X.xe s3 := by
    refine wpAny_call (PySem.W.method_call (ClX.pin_at I3) (codeAny_mono (F X.A X.stack s3 H2 [.ref C] ws [.ref C] zs Q E hr I3.env0 (.cons rfl .nil) rz rfl l2 q2) fun rr s' hq => ?_))
    match rr, hq with
    | .error er, hq => exact hx _ σ H2 s3 er s' I3 hq
    | .ok (.ret u), hq => exact I3.after hq
    | .ok .next, hq => exact hq.elim
    | .ok .brk, hq => exact hq.elim
    | .ok .cont, hq => exact hq.elim
  exact thn z fun _ _ y => ClX.unpinE y
theorem z_cmK {m : Nat} (h : ta σ H fun x H1 => x = .ref C ∧ tk σ H1 fun zs H2 => zs.length = m ∧ sp (.ref C :: zs) H2 Q E) : tCMethK C m sp E ta tk σ H Q := h
end
end Ys
/-! defs with super() and *names; classes made by values and keywords through them -/
namespace Ys
open PySem PySem.Spec PyProof.Rows L2 NdefX
theorem run_bndS {P : Program} {w : World} {K : PySem.W.Frag} {mg : Str → Option Value} {base : Heap} {CX : CXT} {k : Nat} {C fI fT cc : Addr} {F : NF} {fd : FuncData} {N ps : List Str} {A : Around} {outer : List Env} {s : Shared} {H : Hp} {args : Args} {Q : VK} {E : XK} {G : List V → Hp → Prop}
    (S : SupC P K C fI fT cc F fd) (NS : NScope N ps ["__class__"] F.scope) (hr : Room (k + 1) A) (e0 : Env0 P w K mg base A outer s H) (hb : StX.Bnd CX P w K mg base fd args ps A outer s H E G)
    (hbody : ∀ (s2 : Shared) (H2 : Hp) (vs : List V), G vs H2 → Room k (A.deeper (envF F fI s2.heap.objs.size)) →
      ∃ t, PSw (ncx CX P w K mg base N F fI A outer s2 H2 E) F.body F.body t ∧ t { nx := fun _ H' => Q .non H', rt := Q } (startF N vs [some (V.ref C)]) H2) :
    codeAny (model P w) A (.call (.ref fI) args) (CR CX outer P w H s Q E) s := by
  obtain ⟨oc, od, osl, dV, kV, doc, pm, an, ct, rfl, lk⟩ := S.ex
  obtain ⟨cl, cld, csl, lcc⟩ := S.cell
  have KX : K.In s.heap := e0.mod.kin.keeps fun b o e => (e0.bs b o e).1
  refine codeAny_call_function hr.depth (KX _ _ lk) rfl NS.co NS.gen rfl (PySem.W.codeRec_of KX S.code) ?_
  refine hb _ _ _ fun s2 H2 vs us e2 un ho hx r hl g => ?_
  have lim : s2.heap.NoLimit := e0.mod.nolimit.keeps fun b o e => (e2.bs b o e).1
  have KX2 : K.In s2.heap := e2.mod.kin.keeps fun b o e => (e2.bs b o e).1
  have hcell : s2.heap.IsCell cc (some (.ref C)) := ⟨_, KX2 _ _ lcc, rfl⟩
  have hun : H2 cc = none := (e2.bs _ _ (e2.mod.kin _ _ lcc)).2
  have CA : CellsAt F.cl ["__class__"] [some (V.ref C)] s2.heap H2 := by
    rw [S.cl]
    have hlk : ∀ (y : Str) (c : Addr), List.lookup y [(("__class__" : Str), cc)] = some c → y = "__class__" ∧ cc = c := fun y c e => by
      rw [List.lookup_cons] at e
      by_cases h : y = "__class__"
      · subst h
        simp at e
        exact ⟨rfl, e⟩
      · have : (y == ("__class__" : Str)) = false := by simpa using h
        rw [this] at e
        cases e
    refine ⟨rfl, fun y c e => ?_, fun x y c a1 a2 => by rw [(hlk _ _ a1).1, (hlk _ _ a2).1], fun i y e => ?_⟩
    · obtain ⟨_, rfl⟩ := hlk _ _ e
      exact ⟨hun, _, hcell⟩
    · cases i with
      | zero =>
        obtain rfl : ("__class__" : Str) = y := by simpa using e
        refine ⟨cc, by simp, fun v hv => ⟨.ref C, ?_, hcell⟩⟩
        obtain rfl : V.ref C = v := by simpa using hv
        rfl
      | succ j => simp at e
  refine wpAny_newFunctionEnv NS.nocell (fun ⟨n, _⟩ hy => NS.par n (List.of_mem_zip hy).1) (fun h₁ hns hsb => ⟨lim.fresh _ hsb, ?_⟩) NS.kind
  have hcl := S.cl
  have henv : callEnv (PySem.W.ksFn F.name F.qual F.params F.body F.scope dV kV doc pm an (.ref F.c) ct cc) s2.heap.objs.size fI = envF F fI s2.heap.objs.size := by
    show PySem.W.envX F.qual F.scope s2.heap.objs.size fI (.ref F.c) [("__class__", cc)] = _
    unfold envF
    rw [hcl]
  show codeAny _ _ (.func F.body (callEnv (PySem.W.ksFn F.name F.qual F.params F.body F.scope dV kV doc pm an (.ref F.c) ct cc) s2.heap.objs.size fI)) _ _
  rw [henv]
  refine ks_codeAny_funcAt ?_
  have kp : ∀ b o, s2.heap.get? b = some o → h₁.get? b = some o := fun b o e => hsb.extBut b o (Nat.ne_of_lt (Heap.lt_size e)) (Heap.get?_push_of_some _ e)
  obtain ⟨t, ht, hq⟩ := hbody s2 H2 vs g (hr.deeper _)
  have I : Inv (ncx CX P w K mg base N F fI A outer s2 H2 E) [] (startF N vs [some (V.ref C)]) H2 { s2 with heap := h₁, toks := s2.toks + (ps.zip us).length } := inv_startN NS hr.hd e2 hl r CA hns kp
  refine ks_wpAt_mono (ht.run [] _ (startF N vs [some (V.ref C)]) H2 _ I hq) (fun fl s' hs => ?_) fun e s' hs => _root_.PySem.wpAny_mono hs (fun _ s'' z => hx _ _ z) fun _ _ z => hx _ _ z
  have fin : ∀ {σ' : L2.St} {H' : Hp} {v : V} {u : Value}, Inv (ncx CX P w K mg base N F fI A outer s2 H2 E) [] σ' H' s' → L2.RelV v u → Q v H' → CE outer P w H s Q u s' :=
    fun {σ' H' v u} J rv q => ⟨v, H', J.os.trans ho, J.bare, un.trans J.base, J.hok, rv, q⟩
  cases fl with
  | ret u =>
    obtain ⟨v, σ', H', J, rv, q⟩ := hs
    exact fin J rv q
  | next =>
    obtain ⟨σ', H', J, q⟩ := hs
    exact fin (v := V.non) (u := Value.none) J rfl q
  | brk =>
    obtain ⟨_, _, _, q⟩ := hs
    exact False.elim q
  | cont =>
    obtain ⟨_, _, _, q⟩ := hs
    exact False.elim q
theorem fn_starS {P : Program} {w : World} {K : PySem.W.Frag} {mg : Str → Option Value} {base : Heap} {CX : CXT} {k j : Nat} {C fI fT cc : Addr} {F : NF} {fd : FuncData} {N : List Str} {sp : Sp} {a kw pv : Str}
    (S : SupC P K C fI fT cc F fd) (NS : NScope N [a, kw, pv] ["__class__"] F.scope) (hCX : StX.CXUp CX) (hj : j ≤ sizeLine)
    (hb : ∀ (x v0 : Value) (rest : List Value), rest.length = j → bindArgs fd ⟨x :: rest, [(kw, v0)]⟩ = (newTuple rest >>= fun t => pure [(a, x), (kw, v0), (pv, t)]))
    (hbody : ∀ (A : Around) (outer : List Env) (s : Shared) (H : Hp) (vs : List V) (Q : VK) (E : XK), Room k (A.deeper (envF F fI s.heap.objs.size)) → sp vs H Q E →
      ∃ t, PSw (ncx CX P w K mg base N F fI A outer s H E) F.body F.body t ∧ t { nx := fun _ H' => Q .non H', rt := Q } (startF N vs [some (V.ref C)]) H) :
    FnRK P w K mg base CX (k + 1) fI (j + 1) [kw] (fun vs H Q E => ∃ x rest v0, vs = x :: rest ++ [v0] ∧ rest.length = j ∧ ∀ p, H p = Option.none → sp [x, v0, V.ref p] (upd H p (.tup rest)) Q E) := by
  intro A outer s H us ws vs zs Q E hr e0 r rz l1 l2 hsp
  obtain ⟨x, rest, v0, ev, hl, hq⟩ := hsp
  obtain ⟨rfl, rfl⟩ := List.append_inj (show vs ++ zs = (x :: rest) ++ [v0] from ev) (by rw [l1, List.length_cons, hl])
  cases r with
  | @cons _ u _ us2 rx r2 =>
  cases rz with
  | @cons _ u0 _ _ r0 rn =>
  cases rn
  have hn : H s.heap.objs.size = Option.none := e0.hok.fresh (Nat.le_refl _)
  have hl2 : us2.length = j := by rw [← r2.length, hl]
  refine run_bndS S NS hr e0 (G := fun xs H2 => ∃ p, H p = Option.none ∧ xs = [x, v0, V.ref p] ∧ H2 = upd H p (.tup rest)) (fun A' Ex Q' h => ?_) fun s2 H2 xs ⟨p, hp, ex, eH⟩ hr' => ?_
  · have e2 : ([kw] : List Str).zip [u0] = [(kw, u0)] := rfl
    rw [e2, hb _ _ us2 hl2]
    refine wpAny_bind (wpAny_newTuple (wpAny_pure ?_) (by rw [hl2]; exact hj))
    have new : ObjOk P w (upd H s.heap.objs.size (.tup rest)) (s.heap.push ({ cls := .type "tuple", data := .seq us2.toArray } : Obj)) s.heap.objs.size (.tup rest) := ⟨by rw [hl]; exact hj, us2, r2, ⟨_, Heap.get?_push_size _ rfl, rfl, _, rfl⟩⟩
    have un := StX.un_laid (fs := frs outer) (s := s) (o := ({ cls := .type "tuple", data := .seq us2.toArray } : Obj)) (u := .tup rest) hn
    exact h _ _ [x, v0, V.ref s.heap.objs.size] [_, _, Value.ref s.heap.objs.size] (StX.env0_laid e0 new) un rfl (fun e s' => hCX outer s H _ _ E e s' un (fun b o q => Heap.get?_push_of_some _ q) rfl) (.cons rx (.cons r0 (.cons rfl .nil)))
      rfl ⟨_, hn, rfl, rfl⟩
  · subst ex eH
    exact hbody A outer s2 _ _ Q E hr' (hq p hp)
section
variable {X : Cx} {CX : CXT} {K : PySem.W.Frag} {k n i : Nat} {C a d f g p : Addr} {ps ks : List Str} {sp : Sp} {E : XK} {x m : Str} {nm pos apos : Pos} {e o : Expr} {es : List Expr} {kws : List Keyword} {ta te : TE} {t tk : TA} {G H : Hp} {σ : L2.St} {Q : VK}
structure MkN (P : Program) (w : World) (K : PySem.W.Frag) (mg : Str → Option Value) (base : Heap) (CX : CXT) (k : Nat) (C : Addr) (x : Str) (n : Nat) (ks : List Str) (sp : Sp) : Prop where
  ex : ∃ f, Mk K C f ∧ FnRK P w K mg base CX k f (n + 1) ks sp ∧ mg x = some (.ref C)
abbrev gCat (vs zs : List V) : List V := vs ++ zs
theorem run_makeN' {pins : List (Addr × Obj)} {s : Shared} {us ws : List Value} {vs zs : List V} (M : Mk X.K C f) (F : FnRK X.prog X.w X.K X.mg X.base CX k f (n + 1) ks sp) (hr : Room (k + 1) X.A) (hx : Passes CX X E) (I : Inv X pins σ H s) (r : Vals vs us) (rz : Vals zs ws) (l1 : vs.length = n) (l2 : zs.length = ks.length)
    (h : ∀ x dx, H x = none → H dx = none → dx ≠ x → sp (gCat (.ref x :: vs) zs) (upd (upd H dx (.own x)) x (.ins C dx [])) (fun v H2 => v = .non ∧ Q (.ref x) H2) E) :
    wpAny (model X.prog X.w) X.A (call (.ref C) us (ks.zip ws)) (EP X pins σ Q) X.xe s := by
  have hq := h (s.heap.objs.size + 1) s.heap.objs.size (I.hok.fresh (Nat.le_succ _)) (I.hok.fresh (Nat.le_refl _)) (Nat.ne_of_lt (Nat.lt_succ_self _))
  have I2 := Inv.made (C := C) I
  refine wpAny_call (make_map (f := f) I.kIn M.makes M.init (beq_iff_eq.mp M.fn) (codeAny_mono (F _ X.stack _ _ (Value.ref (s.heap.objs.size + 1) :: us) ws (V.ref (s.heap.objs.size + 1) :: vs) zs _ E (hr.make C us (ks.zip ws))
    (I2.env0.make C us (ks.zip ws)) (.cons rfl r) rz (by rw [List.length_cons, l1]) l2 hq) fun r s' hq' => ?_))
  cases r with
  | error e => exact hx pins σ _ _ e s' I2 hq'
  | ok fl =>
    cases fl with
    | ret u =>
      obtain ⟨v, H', I3, rv, ev, q3⟩ := I2.after hq'
      subst ev
      exact ⟨rv, ⟨V.ref (s.heap.objs.size + 1), H', I3, rfl, q3⟩⟩
    | next => exact False.elim hq'
    | brk => exact False.elim hq'
    | cont => exact False.elim hq'
theorem pe_mkN0 (R : MkN X.prog X.w X.K X.mg X.base CX k C x 0 ks sp) (hr : Room (k + 1) X.A) (hg : Gl X x) (hx : Passes CX X E) (hkw : PK X kws tk)
    (hall : (backToKw pos (keywordEach kws X.env)).all (·.1.isSome) = true := by rfl) (hks : (backToKw pos (keywordEach kws X.env)).filterMap (·.1) = ks := by rfl) (hdb : (x == ("__debug__" : Str)) = false := by decide)
    (hpl : ((backTo pos (starEach [] X.env)).any (·.1) || (backToKw pos (keywordEach kws X.env)).any (·.1.isNone)) = false := by rfl) :
    PE X (.Call (.Name x nm) [] kws pos) (tMakeK C 0 ks.length sp gCat E tNil tk) := by
  obtain ⟨f, M, F, hm⟩ := R.ex
  refine ⟨fun pins s σ H Q I h => ?_⟩
  refine wpAny_Call_Name_kw (ld_glob I hg hm ?_ hdb)
  refine PySem.W.callWith_KW0 (h₀ := X.base) I.ok.mod.kin M.kp hall ?_ hpl
  refine thn (hkw.run pos pins s σ H _ I h) fun ws s2 ⟨zs, H2, I2, rz, l1, l2, q2⟩ => ⟨I2.kIn, ?_⟩
  rw [hks]
  exact run_makeN' (us := []) (vs := []) M F hr hx I2 .nil rz rfl l2 q2
theorem pe_mkN (R : MkN X.prog X.w X.K X.mg X.base CX k C x n ks sp) (hr : Room (k + 1) X.A) (hg : Gl X x) (hx : Passes CX X E) (ha : PA X (e :: es) t) (hkw : PK X kws tk)
    (hall : (backToKw pos (keywordEach kws X.env)).all (·.1.isSome) = true := by rfl) (hks : (backToKw pos (keywordEach kws X.env)).filterMap (·.1) = ks := by rfl) (hdb : (x == ("__debug__" : Str)) = false := by decide)
    (he : starEach (e :: es) X.env = (false, eval e X.env) :: starEach es X.env := by rfl) (hpl : ((backTo pos (starEach (e :: es) X.env)).any (·.1) || (backToKw pos (keywordEach kws X.env)).any (·.1.isNone)) = false := by rfl) :
    PE X (.Call (.Name x nm) (e :: es) kws pos) (tMakeK C n ks.length sp gCat E t tk) := by
  obtain ⟨f, M, F, hm⟩ := R.ex
  refine ⟨fun pins s σ H Q I h => ?_⟩
  refine wpAny_Call_Name_kw (ld_glob I hg hm ?_ hdb)
  refine PySem.W.callWith_KW (h₀ := X.base) I.ok.mod.kin M.kp hall (thn (ha.run pos pins s σ H _ I h) fun us s1 ⟨vs, H1, I1, r, q⟩ => ?_) hpl he
  refine thn (hkw.run pos pins s1 σ H1 _ I1 q) fun ws s2 ⟨zs, H2, I2, rz, l1, l2, q2⟩ => ⟨I2.kIn, ?_⟩
  rw [hks]
  exact run_makeN' M F hr hx I2 r rz l1 l2 q2
end
end Ys
/-! x != y where y's class stands below x's: y is asked first -/
namespace Ys
open PySem PySem.Spec PyProof.Rows L2
section
variable {prog : Program} {w : World} {A : Around} {E : Value → Shared → Prop} {s : Shared} {K : PySem.W.Frag} {x y : Addr} {ox oy : Obj} {C D f : Addr} {od od2 : Option Obj}
theorem ne_R {Q : Value → Shared → Prop} (hu : A.units + 1 < cLine) (X : K.In s.heap) (I : PySem.W.InstAt s.heap x ox C od) (J : PySem.W.InstAt s.heap y oy D od2) (hne : C ≠ D) (hsub : PySem.W.subIn K (.ref D) (.ref C) = some true)
    (hm : PySem.W.mroIn K D (.type "object") = some true) (hs : PySem.W.findIn K (.ref D) "__ne__" = some (some (.builtin "object.__ne__"))) (he : PySem.W.findIn K (.ref D) "__eq__" = some (some (.ref f))) (hf : PySem.W.isFn K (.ref f) = true)
    (h : wpAny (model prog w) A.in1 (call (.ref f) [.ref y, .ref x]) (BackB fun r s' => Q (.bool (!r)) s') E s) : wpAny (model prog w) A (richCompare .NotEq (.ref x) (.ref y)) Q E s := by
  have ent : wpAny (model prog w) A.in1 (Builtin.«object.__ne__» ⟨[.ref y, .ref x], []⟩) (fun r s' => ∃ v, r = .done (.ret (.bool v)) ∧ Q (.bool v) s') E s := by
    unfold Builtin.«object.__ne__»
    repeat (first
      | with_reducible refine wpAny_cRoomFor hu ?_
      | (refine wpAny_bind (m := callSpecialIfBound? (.ref y) (Str.ofString "__eq__") [.ref x])
          (PySem.W.ifBound_K X J he hf (wpAny_mono h (fun r s' hr => by
            obtain ⟨b, rfl, hq⟩ := hr
            repeat (first | exact ⟨_, rfl, hq⟩ | exact wpAny_pure ⟨_, rfl, hq⟩ | (refine wpAny_bind (m := truthy (.bool _)) (wpAny_truthy_bool ?_)) | wp_step)) fun _ _ e => e)))
      | wp_step)
  have one : wpAny (model prog w) A (tryCompare (.ref y) "__ne__" (.ref x)) (fun r s' => ∃ v, r = some v ∧ Q v s') E s := by
    unfold tryCompare
    refine wpAny_bind (ifBound_objNe X J hs ?_)
    refine wpAny_call (codeAny_call_builtin F.cmp_object.ne.plain F.cmpEntry_ne (PySem.W.check_slot F.cmpKind_ne F.cmpSplit_ne (J.type.andThen (PySem.W.looks_mroIn X hm)) (F.cmpArgs_ne _ _) ?_))
    refine wpAny_mono ent (fun r s' hq => ?_) fun _ _ e => e
    obtain ⟨v, rfl, hq⟩ := hq
    first
      | exact wpAny_pure ⟨_, rfl, hq⟩
      | exact ⟨_, rfl, wpAny_pure ⟨_, rfl, hq⟩⟩
  unfold richCompare
  simp only [oneThing_ref]
  refine wpAny_holding (wpAny_bind (wpAny_cRoomFor (Nat.lt_of_succ_lt hu) ?_))
  refine wpAny_bind (I.type.here (wpAny_bind (J.type.here ?_)))
  split
  · refine wpAny_bind ((PySem.W.looks_subIn X hsub).here ?_)
    simp only [if_true]
    refine wpAny_bind (wpAny_mono one (fun r s' z => ?_) fun _ _ e => e)
    obtain ⟨v, rfl, hq⟩ := z
    repeat (first | exact hq | exact wpAny_pure hq | wp_step)
  · rename_i q
    exact absurd (by simpa using q) hne
end
section
variable {X : Cx} {CX : CXT} {n : Nat} {D f : Addr} {fd : FuncData} {ps : List Str} {sp : Sp} {E : XK}
def rNeR (K : PySem.W.Frag) (D : Addr) (sp : Sp) (E : XK) : R2 := fun x y H Q => ∃ a C dx fs b dy gs, x = .ref a ∧ H a = some (.ins C dx fs) ∧ y = .ref b ∧ H b = some (.ins D dy gs) ∧ C ≠ D ∧ PySem.W.subIn K (.ref D) (.ref C) = some true ∧ sp [y, x] H (fun v H' => ∃ b, v = .bl b ∧ Q (.bl (!b)) H') E
theorem op_neR (F : FnOk X.prog X.w X.K X.mg X.base CX n f fd ps sp) (he : PySem.W.findIn X.K (.ref D) "__eq__" = some (some (.ref f))) (hs : PySem.W.findIn X.K (.ref D) "__ne__" = some (some (.builtin "object.__ne__"))) (hm : PySem.W.mroIn X.K D (.type "object") = some true)
    (hf : PySem.W.isFn X.K (.ref f) = true) (hb : Binds X.K fd ps []) (hx : Passes CX X E) (hr : Room (n + 1) X.A) : OpR X (compareOp .NotEq) (rNeR X.K D sp E) := by
  intro pins s σ H x y v u Q I rx ry ⟨a, C, dx, fs, b, dy, gs, e1, ha, e2, hb2, hne, hsub, q⟩
  subst e1
  subst e2
  cases rx
  cases ry
  obtain ⟨mA, I1, _⟩ := ins_get I.hok ha
  obtain ⟨od, I1, _⟩ := I1.look
  obtain ⟨mB, J1, _⟩ := ins_get I.hok hb2
  obtain ⟨od2, J1, _⟩ := J1.look
  show wpAny (model X.prog X.w) X.A (richCompare .NotEq (.ref a) (.ref b)) (EP X pins σ Q) X.xe s
  refine ne_R (by have := hr.units; omega) I.kIn I1 J1 hne hsub hm hs he hf ?_
  have hl := F.len _ _ _ _ q
  refine wpAny_call (codeAny_mono (F.run X.A.in1 X.stack s H ⟨[.ref b, .ref a], []⟩ [.ref b, .ref a] [.ref b, .ref a] _ E hr.in1 I.env0.in1 (by
    have := hb s [.ref b, .ref a] I.kIn (by simpa using hl)
    simpa using this) (.cons rfl (.cons rfl .nil)) q) fun r s' hq => ?_)
  cases r with
  | error e => exact hx pins σ H s e s' I hq
  | ok fl =>
    cases fl with
    | ret w =>
      obtain ⟨z, H', I', rz, b, rfl, q2⟩ := I.after hq
      cases rz
      exact ⟨b, rfl, .bl (!b), H', I', rfl, q2⟩
    | next => exact False.elim hq
    | brk => exact False.elim hq
    | cont => exact False.elim hq
end
end Ys
namespace Ys
open PySem PySem.Spec PyProof.Rows L2
/-! ### a lambda as a value, never called -/
def TbOk (G : Hp) (q : Str) (ps : Array Value) : Prop := TriplesOk ps.toList ∧ ∀ (pos : Pos) (cv : Value), codeAmong pos ps.toList = some cv → ∃ c, cv = .ref c ∧ G c = some (LamX.CodeO c q)
theorem TbOk.nil {G : Hp} {q : Str} : TbOk G q #[] := ⟨trivial, fun pos cv h => by
  have h : codeAmong pos [] = some cv := h
  simp [codeAmong] at h⟩
theorem TbOk.up {G G1 : Hp} {q : Str} {ps : Array Value} (h : TbOk G q ps) (s : Same G G1) : TbOk G1 q ps := ⟨h.1, fun pos cv e => by
  obtain ⟨c, e1, e2⟩ := h.2 pos cv e
  exact ⟨c, e1, s _ _ e2⟩⟩
def tLamV (P : Addr) (q : Str) : TE := fun σ H Q => ∃ ps, H P = some (.tbl ps) ∧ TbOk H q ps ∧ ∀ f ps' H1, (H1 = H ∧ ps' = ps ∨ ∃ c, H c = none ∧ H1 = upd (upd H P (.tbl ps')) c (LamX.CodeO c q) ∧ TriplesOk ps'.toList ∧ ∀ (pos : Pos) (cv : Value), codeAmong pos ps'.toList = some cv → codeAmong pos ps.toList = some cv ∨ cv = .ref c) → Q (.ref f) H1
def freeB (sc scope : Scope) : Bool := scope.names.all fun y => !decide (y.2 = .free) || (decide (sc.names.lookup y.1 = some .cell) || decide (sc.names.lookup y.1 = some .free))
theorem freeB_ok {sc scope : Scope} (h : freeB sc scope = true) : ∀ y ∈ scope.names, y.2 = .free → sc.names.lookup y.1 = some .cell ∨ sc.names.lookup y.1 = some .free := fun y hy e => by
  have z := List.all_eq_true.mp h y hy
  simp only [Bool.or_eq_true, Bool.not_eq_true', decide_eq_true_eq, decide_eq_false_iff_not] at z
  exact z.resolve_left fun n => n e
theorem pe_lamV {X : Cx} {P c : Addr} {q : Str} {params : Arguments} {body : Expr} {scope : Scope} {pos : Pos} (TB : LamX.TabB X.base X.mg c P) (hcd : X.env.code = .ref c) (hq : X.env.qual ++ "<lambda>" = q) (hd : defaultsOf params X.env = ([], [])) (hf : freeB X.env.scope scope = true) :
    PE X (.Lambda params body scope pos) (tLamV P q) := by
  constructor
  intro pins s σ H Q I ⟨ps, hP, T, hk⟩
  subst hq
  have hfr : ∀ y ∈ scope.names, y.2 = .free → ∃ a, X.env.cells.lookup y.1 = some a := fun y hy e => I.ok.has _ (freeB_ok hf y hy e)
  have at_ : s.heap.get? P = some { cls := .none, data := .fields ps } := I.hok P _ hP
  have cl := closure_ok hfr
  have gl := I.mod.glob.keeps I.bk
  have hb := TB.bm.keeps I.bk
  have hh := TB.code.keeps I.bk
  apply PySem.W.kla_eval hd
  cases e : codeAmong pos ps.toList with
  | some cv =>
    obtain ⟨c1, rfl, _⟩ := T.2 pos cv e
    exact PySem.W.kla_makeFunctionHit (mg := X.mg) (c := c) (P := P) (ps := ps) cl I.ok.glob gl hcd hh at_ T.1 e hb fun ctv h1 tk hx _ =>
      ⟨.ref _, H, I.kept (t' := tk) fun b o z => Heap.get?_push_of_some _ (hx b o z), rfl, hk _ ps H (.inl ⟨rfl, rfl⟩)⟩
  | none =>
    refine PySem.W.kla_makeFunction (mg := X.mg) (c := c) (P := P) (ps := ps) cl I.ok.glob gl hcd hh at_ T.1 e TB.gP hb fun c1 ctv h1 tk hx hge hlt hrec htb => ?_
    obtain ⟨c2, oc, vs, t, ec, hoc, hdt, hv⟩ := hrec
    cases ec
    have n1 : H c1 = none := I.hok.fresh hge
    have el : (ps ++ #[rawInt pos.line, rawInt pos.col, Value.ref c1]).toList = ps.toList ++ [rawInt pos.line, rawInt pos.col, .ref c1] := by simp
    refine ⟨.ref _, _, LamX.inv_table (t' := tk) (q := X.env.qual ++ "<lambda>") (c := c1) (more := #[rawInt pos.line, rawInt pos.col, .ref c1]) I hP (fun b o nb z => Heap.get?_push_of_some _ (hx b o nb z)) (Heap.get?_push_of_some _ htb) hge ⟨oc, vs, t, Heap.get?_push_of_some _ hoc, hdt, hv⟩, rfl, hk _ _ _ (.inr ⟨c1, n1, rfl, ?_, fun p' cv hc => ?_⟩)⟩
    · rw [el]
      exact TriplesOk_snoc _ _ _ _ T.1
    · rw [el] at hc
      exact LamX.among_app _ T.1 hc
theorem z_lamV {G H : Hp} {M : List (Addr × HO)} {P : Addr} {q : Str} {σ : L2.St} {Q : VK} {ps : Array Value} (z : Zp G M H) (k : Nat) (e : M[k]? = some (P, .tbl ps)) (t : TbOk G q ps) (h : ∀ f G1 H1 ps', Zp G1 (M.set k (P, .tbl ps')) H1 → Same G G1 → TbOk G1 q ps' → Q (.ref f) H1) : tLamV P q σ H Q := by
  refine ⟨ps, z.at_ k e, t.up z.sub, fun f ps' H1 w => ?_⟩
  rcases w with ⟨rfl, rfl⟩ | ⟨c, hc, rfl, t1, t2⟩
  · have es : M.set k (P, HO.tbl ps') = M := by
      apply List.ext_getElem?
      intro i
      rw [List.getElem?_set]
      split
      · rename_i hi
        subst hi
        rw [e, if_pos (List.getElem?_eq_some_iff.mp e).1]
      · rfl
    exact h f G _ ps' (by rw [es]; exact z) (Same.refl _) t
  · have gc : G c = none := z.free hc
    have z1 := z.put k e (.tbl ps')
    have hc1 : upd H P (.tbl ps') c = none := by
      rw [upd_ne]
      · exact hc
      · intro h0
        have := z.at_ k e
        rw [← h0, hc] at this
        cases this
    refine h f _ _ ps' (z1.new hc1 _) (Same.new gc) ⟨t1, fun pos cv hcv => ?_⟩
    rcases t2 pos cv hcv with y | y
    · obtain ⟨c0, e1, e2⟩ := t.2 pos cv y
      exact ⟨c0, e1, Same.new gc _ _ e2⟩
    · exact ⟨c, y, upd_same⟩
end Ys
namespace Ys
open PySem PySem.Spec PyProof.Rows L2
theorem okC {P : Program} {w : World} {K : PySem.W.Frag} {mg : Str → Option Value} {base : Heap} {f c : Addr} {fd : FuncData} {x qual : Str} {params : Arguments} {body : List Stmt} {scope : Scope} {dvs : List V} {kws : List (Str × V)} {CX : CXT} {N ps : List Str} {k : Nat} {sp : Sp} (F : FunD K x qual params body scope dvs kws f fd) (hc : fd.code = .ref c) (S : FnScope N ps scope) (len : ∀ vs H Q E, sp vs H Q E → vs.length = ps.length)
    (hb : ∀ (A : Around) (outer : List Env) (s : Shared) (H : Hp) (vs : List V) (Q : VK) (E : XK), Room k (A.deeper (envOfC qual scope s.heap.objs.size f (.ref c))) → sp vs H Q E →
      ∃ t, PSs (cxOf CX P w K mg base N qual scope f (.ref c) A outer s H E) body t ∧ t { nx := fun _ H' => Q .non H', rt := Q } (start N vs) H) : FnOk P w K mg base CX (k + 1) f fd ps sp := by
  obtain ⟨oc, od, dV, kV, doc, pm, an, cdv, ct, osl, rfl, lk, hcd, _, _⟩ := F.ex
  have e : cdv = .ref c := hc
  subst e
  exact fn_of lk hcd S len hb
/-! ### the end of a law, with tables of code objects -/
abbrev tabsM (cs : List (Addr × Addr)) : List (Addr × HO) := cs.map fun p => (p.2, HO.tbl #[])
theorem law_callGT {P : Program} {w : World} {K : PySem.W.Frag} {mg mb : Str → Option Value} {CX : CXT} {k : Nat} {fa a : Addr} {cs : List (Addr × Addr)} {fd : FuncData} {x : Str} {sp : Sp} {s1 : Shared} {vs : List Value} {ns : List Int}
    (KX : K.In s1.heap) (hns : s1.heap.Ns mainGlobals mg) (hb : s1.heap.Ns builtinsNs mb) (hbb : ∀ x : Str, x ≠ "__name__" → mb x = bootBuiltins x) (hlim : s1.heap.NoLimit) (hg : s1.gens = #[])
    (hT : ∀ p ∈ cs, s1.heap.get? p.2 = some noObj) (nT : ∀ p ∈ cs, K.lookup p.2 = none) (hC : ∀ p ∈ cs, PySem.W.CodeHd s1.heap p.1 p.2) (nd : (cs.map (·.2)).Nodup)
    (bmn : ∃ (bm : Addr) (ob : Obj), mg "__builtins__" = some (.ref bm) ∧ bm ≠ builtinsNs ∧ s1.heap.get? bm = some ob ∧ ob.cls = .type "module" ∧ ob.dict = some builtinsNs ∧ ob.data = .plain)
    (ha : s1.heap.get? a = some { cls := .type "list", data := .seq vs.toArray }) (hi : IntsAre vs ns) (hl : ns.length ≤ sizeLine) (hr : Room k callerA)
    (F : ∀ base : Heap, K.In base → base.Ns mainGlobals mg → (∀ p ∈ cs, LamX.TabB base mg p.1 p.2) → FnG P w K mg base CX k fa fd [x] sp) (hbind : ∀ (s : Shared) (u : Value), BindsTo s fd ⟨[u], []⟩ [(x, u)])
    (hsp : ∀ G H : Hp, Zp G (tabsM cs) H → SqL K G a (ns.map V.int) → sp [.ref a] H (fun v _ => v = .bl true) fun _ _ _ => False) (hCX : ∀ H e s', CX [] H s1 (fun _ _ _ => False) e s' → False) :
    codeAny (model P w) callerA (.call (.ref fa) ⟨[.ref a], []⟩) (fun r s' => r = .ok (.ret (.bool true)) ∧ OldK s1.heap s'.heap ∧ s'.os = s1.os ∧ AllBare s'.gens) s1 := by
  have rv := vals_ints hi
  have len := hi.length
  generalize hTs : cs.map (·.2) = Ts at nd
  have inT : ∀ {b : Addr}, b ∈ Ts → s1.heap.get? b = some noObj := fun {b} q => by
    rw [← hTs] at q
    obtain ⟨p, hp, rfl⟩ := List.mem_map.mp q
    exact hT p hp
  have notT : ∀ {b : Addr} {o : Obj}, s1.heap.get? b = some o → o.data ≠ .fields #[] → b ∉ Ts := fun {b o} e n q => by
    rw [inT q] at e
    exact n (by rw [← Option.some.inj e])
  have aT : a ∉ Ts := notT ha (fun q => nomatch q)
  -- what is tracked: the script, where the written part does not hold it
  obtain ⟨G, hO, hS, hok, hA, hK⟩ : ∃ G : Hp, Only G ∧ SqL K G a (ns.map V.int) ∧ HOk P w G s1.heap ∧ (∀ b u, G b = some u → b = a) ∧ (∀ u, G a = some u → K.lookup a = none) := by
    cases hk : K.lookup a with
    | some o =>
      have e := KX a o hk
      rw [ha] at e
      cases e
      exact ⟨fun _ => none, fun _ => .inl rfl, .inr ⟨_, vs.toArray, _, hk, rfl, rfl, rfl, by rw [List.size_toArray, len]; exact hl, by simpa using rv⟩, (fun b u (z : (none : Option HO) = some u) => by cases z), (fun b u (z : (none : Option HO) = some u) => by cases z), (fun u (z : (none : Option HO) = some u) => by cases z)⟩
    | none =>
      have at_ : ∀ b u, (if b = a then some (HO.frz { cls := .type "list", data := .seq vs.toArray } (.lst (ns.map V.int))) else none) = some u → b = a ∧ u = .frz { cls := .type "list", data := .seq vs.toArray } (.lst (ns.map V.int)) := fun b u z => by
        by_cases c : b = a
        · rw [if_pos c] at z
          exact ⟨c, (Option.some.inj z).symm⟩
        · rw [if_neg c] at z
          cases z
      refine ⟨fun b => if b = a then some (.frz { cls := .type "list", data := .seq vs.toArray } (.lst (ns.map V.int))) else none, fun b => ?_, .inl (.inr ⟨_, if_pos rfl⟩), fun b u z => ?_, fun b u z => (at_ b u z).1, fun _ _ => rfl⟩
      · by_cases c : b = a
        · exact .inr ⟨_, _, if_pos c⟩
        · exact .inl (if_neg c)
      · obtain ⟨rfl, rfl⟩ := at_ b u z
        exact ⟨ha, by rw [List.length_map]; exact hl, vs, _, rv, ha⟩
  have gT : ∀ b ∈ Ts, G b = none := fun b hb => by
    cases q : G b with
    | none => rfl
    | some u => exact absurd (hA b u q ▸ hb) aT
  -- beside it, the tables
  generalize hH : (fun b : Addr => if b ∈ Ts then some (HO.tbl #[]) else G b) = H
  have onT : ∀ b ∈ Ts, H b = some (.tbl #[]) := fun b hb => by rw [← hH]; exact if_pos hb
  have offT : ∀ b, b ∉ Ts → H b = G b := fun b hb => by rw [← hH]; exact if_neg hb
  have z : Zp G (tabsM cs) H := by
    refine ⟨fun b u e => ?_, fun i p o e => ?_, ?_⟩
    · rw [offT b fun q => by rw [gT b q] at e; cases e]
      exact e
    · rw [List.getElem?_map] at e
      cases q : cs[i]? with
      | none => rw [q] at e; cases e
      | some p0 =>
        rw [q] at e
        cases e
        have m : p0.2 ∈ Ts := by rw [← hTs]; exact List.mem_map.mpr ⟨p0, List.mem_of_getElem? q, rfl⟩
        exact ⟨onT _ m, gT _ m⟩
    · rw [List.map_map]
      have : ((fun p : Addr × HO => p.1) ∘ fun p : Addr × Addr => (p.2, HO.tbl #[])) = fun p => p.2 := rfl
      rw [this, hTs]
      exact nd
  have hokH : HOk P w H s1.heap := fun b u e => by
    by_cases hb : b ∈ Ts
    · rw [onT b hb] at e
      cases e
      exact inT hb
    · rw [offT b hb] at e
      have := hok b u e
      obtain rfl := hA b u e
      rcases hO b with q | ⟨o, xs, q⟩
      · rw [q] at e; cases e
      · rw [q] at e
        cases e
        exact this
  have out : ∀ {b : Addr} {o : Obj}, s1.heap.get? b = some o → o.data ≠ .fields #[] → (∀ vs n, o.data ≠ .seq vs n) → H b = none := fun {b o} e n1 n2 => by
    rw [offT b (notT e n1)]
    cases q : G b with
    | none => rfl
    | some u =>
      obtain rfl := hA b u q
      rw [ha] at e
      cases e
      exact absurd rfl (n2 _ _)
  have free : ∀ {b : Addr} {o : Obj} {es : Array DictEntry} {ep : Nat}, s1.heap.get? b = some o → o.data = .dict es ep → H b = none := fun {b o es ep} e d => out e (fun q => by rw [d] at q; cases q) fun vs n q => by rw [d] at q; cases q
  have ns_ : ∀ {b : Addr} {m : Str → Option Value}, s1.heap.Ns b m → (hidT s1.heap H).Ns b m := fun {b m} ⟨o, es, ep, e, d, r⟩ => ⟨o, es, ep, hidT_get e (free e d), d, r⟩
  have kb : K.In (hidT s1.heap H) := fun b o e => hidT_get (KX b o e) (by
    by_cases hb : b ∈ Ts
    · rw [← hTs] at hb
      obtain ⟨p, hp, rfl⟩ := List.mem_map.mp hb
      rw [nT p hp] at e
      cases e
    · rw [offT b hb]
      cases q : G b with
      | none => rfl
      | some u =>
        obtain rfl := hA b u q
        rw [hK u q] at e
        cases e)
  have md : Mod K mg (hidT s1.heap H) := ⟨kb, ns_ hns, ⟨mb, ns_ hb, hbb⟩, let ⟨mc, h1, h2⟩ := hlim; ⟨mc, ns_ h1, h2⟩⟩
  have TB : ∀ p ∈ cs, LamX.TabB (hidT s1.heap H) mg p.1 p.2 := fun p hp => by
    have hp2 := hT p hp
    constructor
    · obtain ⟨o, us, file, tf, flags, tg, inF, text, tt, e1, r1, r2, r3, rr⟩ := hC p hp
      have l : us ≠ #[] := fun q => by rw [q] at r3; simp at r3
      exact ⟨o, us, file, tf, flags, tg, inF, text, tt, hidT_get e1 (out e1 (fun q => l (by rw [r2] at q; cases q; rfl)) fun vs n q => by rw [r2] at q; cases q), r1, r2, r3, rr⟩
    · obtain ⟨bm, ob, b1, b2, b3, b4, b5, b6⟩ := bmn
      refine ⟨bm, ob, b1, b2, fun q => ?_, fun q => ?_, hidT_get b3 (out b3 (fun q => by rw [b6] at q; cases q) fun vs n q => by rw [b6] at q; cases q), b4, b5, b6⟩
      · obtain ⟨o, es, ep, e, hd, _⟩ := hns
        rw [← q, b3] at e
        rw [← Option.some.inj e, b6] at hd
        cases hd
      · rw [q, hp2] at b3
        rw [← Option.some.inj b3] at b6
        cases b6
    · intro q
      obtain ⟨o, es, ep, e, hd, _⟩ := hns
      rw [q, hp2] at e
      rw [← Option.some.inj e] at hd
      cases hd
  have e0 : Env0 P w K mg (hidT s1.heap H) callerA [] s1 H := ⟨rfl, md, fun b o e => of_hidT e, Nat.le_of_eq (hidT_size _ _), trivial, fun b hb => absurd (show b ∈ ([] : List Addr) from hb) (by simp), hokH, .of_eq hg⟩
  refine codeAny_mono ((F _ kb (ns_ hns) TB).run callerA [] s1 H ⟨[.ref a], []⟩ [.ref a] [.ref a] _ _ rfl hr e0 (hbind s1 (.ref a)) (.cons rfl .nil) (hsp G H z hS)) fun r s' h => ?_
  cases r with
  | error e => exact (hCX H e s' h).elim
  | ok fl =>
    cases fl with
    | next => exact False.elim h
    | brk => exact False.elim h
    | cont => exact False.elim h
    | ret u =>
      obtain ⟨v, H', os, bare, un, hok', r', q⟩ := h
      obtain rfl : v = .bl true := q
      obtain rfl : u = Value.bool true := r'
      have tabs : ∀ p ∈ cs, ∃ more : Array Value, s'.heap.get? p.2 = some { cls := .none, data := .fields more } := fun p hp => by
        obtain ⟨more, e⟩ := un.tbls p.2 #[] (onT _ (by rw [← hTs]; exact List.mem_map.mpr ⟨p, hp, rfl⟩))
        exact ⟨_, hok' p.2 _ e⟩
      have rest : ∀ b o, b ∉ Ts → s1.heap.get? b = some o → s'.heap.get? b = some o := fun b o nb e => by
        cases q : H b with
        | none => exact un.keep b o e q (fun z => absurd (show b ∈ ([] : List Addr) from z) (by simp)) (by simp)
        | some u =>
          have q' := q
          rw [offT b nb] at q'
          rcases hO b with z | ⟨ob, xs, z⟩
          · rw [q'] at z; cases z
          · rw [z] at q'
            cases q'
            obtain ⟨e1, _⟩ := hokH b _ q
            obtain ⟨e2, _⟩ := hok' b _ (un.frzs b ob _ q)
            rw [e] at e1
            cases e1
            exact e2
      refine ⟨rfl, ⟨fun b o e => ?_, fun b o e => ?_⟩, os, bare⟩
      · by_cases hb : b ∈ Ts
        · have hb2 := hb
          rw [← hTs] at hb2
          obtain ⟨p, hp, rfl⟩ := List.mem_map.mp hb2
          obtain ⟨more, hm⟩ := tabs p hp
          rw [inT hb] at e
          obtain rfl := Option.some.inj e
          exact .inr (.inl ⟨((hC p hp).tab (hT p hp)).isCodeTable, rfl, #[], more, rfl, by rw [Array.empty_append]; exact hm⟩)
        · exact .inl (rest b o hb e)
      · by_cases hb : b ∈ Ts
        · rw [← hTs] at hb
          obtain ⟨p, hp, rfl⟩ := List.mem_map.mp hb
          obtain ⟨more, hm⟩ := tabs p hp
          exact ⟨_, hm⟩
        · exact ⟨o, rest b o hb e⟩
theorem walk_ofGT {l : PySem.W.OpenLaw} {n k : Nat} {q : Program} {loose : List Str} {XP : (Str → Option Value) → Heap → Prop} {YP : World → Heap → Prop} {d : DefRec} {CX : World → CXT} {x : Str}
    (hn : l.most = some n) (hn2 : n ≤ sizeLine) (hdf : d.params.defaults = []) (hr : Room k callerA)
    (F : ∀ (w : World) (mg : Str → Option Value) (fa : Addr) (h : Heap), YP w h → h.Ns mainGlobals mg → mg d.name = some (.ref fa) →
      ∃ (K : PySem.W.Frag) (fd : FuncData) (cs : List (Addr × Addr)) (sp : Sp), K.In h ∧ ((∀ p ∈ cs, h.get? p.2 = some noObj) ∧ (∀ p ∈ cs, K.lookup p.2 = none) ∧ (∀ p ∈ cs, PySem.W.CodeHd h p.1 p.2) ∧ (cs.map (·.2)).Nodup) ∧ (∀ (s : Shared) (u : Value), BindsTo s fd ⟨[u], []⟩ [(x, u)]) ∧
        (∀ (G H : Hp) (a : Addr) (ns : List Int), ns.length ≤ n → Zp G (tabsM cs) H → SqL K G a (ns.map V.int) → sp [.ref a] H (fun v _ => v = .bl true) fun _ _ _ => False) ∧
        ∀ base : Heap, K.In base → base.Ns mainGlobals mg → (∀ p ∈ cs, LamX.TabB base mg p.1 p.2) → FnG l.prog w K mg base (CX w) k fa fd [x] sp)
    (hCX : ∀ (w : World) (H : Hp) (s : Shared) (e : Value) (s' : Shared), CX w [] H s (fun _ _ _ => False) e s' → False) :
    PySem.W.WalkO q loose XP YP l.row.toRowW d [] (fun f vs => PySem.call f vs) := by
  refine Att.attach_call hn hdf fun w s0 s1 mg mb fa o pm cd doc a vs ns G Y ho hd hcd hmg hobj hints hlen hg => ?_
  obtain ⟨K, fd, cs, sp, KX, ⟨h1, h2, h3, h4⟩, hb, hsp, hF⟩ := F w mg fa _ Y G.T.g hmg
  exact law_callGT KX G.T.g G.T.b G.T.builtins G.T.nolimit hg h1 h2 h3 h4 G.T.bmain hobj hints (Nat.le_trans hlen hn2) hr hF hb (fun G H z hS => hsp G H a ns hlen z hS) fun H e s' => hCX w H s1 e s'
end Ys
/-! a lambda handed to a def that calls it -/
namespace Ys
open PySem PySem.Spec PyProof.Rows L2
theorem okGC {P : Program} {w : World} {K : PySem.W.Frag} {mg : Str → Option Value} {base : Heap} {x qual : Str} {params : Arguments} {body : List Stmt} {scope : Scope} {dvs : List V} {kws : List (Str × V)} {f c : Addr} {fd : FuncData} {CX : CXT} {N ps : List Str} {k : Nat} {sp : Sp} (F : FunD K x qual params body scope dvs kws f fd) (hc : fd.code = .ref c) (S : FnScope N ps scope) (len : ∀ vs H Q E, sp vs H Q E → vs.length = ps.length)
    (hb : ∀ (A : Around) (outer : List Env) (s : Shared) (H : Hp) (vs : List V) (Q : VK) (E : XK), A.guards = some [] → Room k (A.deeper (envOfC qual scope s.heap.objs.size f (.ref c))) → sp vs H Q E →
      ∃ t, PSs (cxOf CX P w K mg base N qual scope f (.ref c) A outer s H E) body t ∧ t { nx := fun _ H' => Q .non H', rt := Q } (start N vs) H) : FnG P w K mg base CX (k + 1) f fd ps sp := by
  obtain ⟨oc, od, dV, kV, doc, pm, an, cdv, ct, osl, rfl, lk, hcd, _, _⟩ := F.ex
  have e : cdv = .ref c := hc
  subst e
  refine ⟨len, fun A outer s H args us vs Q E hg hr e0 hbd r hsp => ?_⟩
  have KX : K.In s.heap := e0.mod.kin.keeps fun b o e => (e0.bs b o e).1
  have lim : s.heap.NoLimit := e0.mod.nolimit.keeps fun b o e => (e0.bs b o e).1
  refine codeAny_call_function hr.depth (KX _ _ lk) rfl S.co S.gen rfl (PySem.W.codeRec_of KX hcd) (hbd _ _ _ _ (wpAny_newFunctionEnv_cells S.kind (fun y hy => ?_) fun env he s1 z => ?_))
  · rcases S.par y.1 (List.of_mem_zip (show (y.1, y.2) ∈ ps.zip us from hy)).1 with q | q
    · exact .inl q
    · exact .inr ⟨q, PySem.W.cellsFrom_some _ _ _ (.inl q)⟩
  · subst he
    refine ⟨lim.keeps z.toInCall.keep, codeAny_func ?_⟩
    obtain ⟨t, ht, hq⟩ := hb A outer s H vs Q E hg (hr.deeper _) hsp
    have I : Inv (cxOf CX P w K mg base N qual scope f (.ref c) A outer s H E) [] (start N vs) H s1 := inv_start S hr.hd e0 (len _ _ _ _ hsp) r z
    refine wpAny_mono (ht.run [] s1 (start N vs) H _ I hq) (fun fl s' hs => ?_) fun e s' hs => hs
    cases fl with
    | ret u =>
      obtain ⟨v, σ', H', I', r', q⟩ := hs
      exact ⟨v, H', I'.os, I'.bare, I'.base, I'.hok, r', q⟩
    | next =>
      obtain ⟨σ', H', I', q⟩ := hs
      exact ⟨.non, H', I'.os, I'.bare, I'.base, I'.hok, rfl, q⟩
    | brk =>
      obtain ⟨_, _, _, q⟩ := hs
      exact False.elim q
    | cont =>
      obtain ⟨_, _, _, q⟩ := hs
      exact False.elim q
def TbNew (H H1 : Hp) (P : Addr) (q : Str) (ps ps' : Array Value) : Prop := (H1 = H ∧ ps' = ps) ∨ ∃ c, H c = none ∧ H1 = upd (upd H P (.tbl ps')) c (LamX.CodeO c q) ∧ TriplesOk ps'.toList ∧ ∀ (pos : Pos) (cv : Value), codeAmong pos ps'.toList = some cv → codeAmong pos ps.toList = some cv ∨ cv = .ref c
section
variable {X : Cx} {pins : List (Addr × Obj)} {σ : L2.St} {H : Hp} {s : Shared}
theorem lam_makeX {c P : Addr} {q : Str} {params : Arguments} {body : Expr} {scope : Scope} {pos : Pos} {E : Value → Shared → Prop} {Q : Value → Shared → Prop} {ps : Array Value} (I : Inv X pins σ H s) (TB : LamX.TabB X.base X.mg c P) (hcd : X.env.code = .ref c) (hq : X.env.qual ++ "<lambda>" = q)
    (hd : defaultsOf params X.env = ([], [])) (hfr : ∀ y ∈ scope.names, y.2 = .free → ∃ c, X.env.cells.lookup y.1 = some c) (hP : H P = some (.tbl ps)) (T : TbOk H q ps)
    (h : ∀ (f c' : Addr) (pm ctv : Value) (ps' : Array Value) (H1 : Hp) (s' : Shared), Inv X pins σ H1 s' → TbNew H H1 P q ps ps' →
      s'.heap.get? f = some (PySem.W.kla_obj "<lambda>" (X.env.qual ++ "<lambda>") params body scope (cloFrom X.env.cells scope.names []) pm c' ctv) → H1 f = none → f ∉ frs X.stack → H1 c' = some (LamX.CodeO c' (X.env.qual ++ "<lambda>")) → Q (.ref f) s') :
    wpAny (model X.prog X.w) X.A (eval (.Lambda params body scope pos) X.env) Q E s := by
  subst hq
  have at_ : s.heap.get? P = some { cls := .none, data := .fields ps } := I.hok P _ hP
  have cl := closure_ok hfr
  have gl := I.mod.glob.keeps I.bk
  have hb := TB.bm.keeps I.bk
  have hh := TB.code.keeps I.bk
  have nofr : ∀ f, s.heap.objs.size ≤ f → f ∉ frs X.stack := fun f hf z => by
    rcases List.mem_cons.mp (I.stkSub _ z) with e | e
    · have h1 := I.lt
      rw [← e] at h1
      exact Nat.lt_irrefl _ (Nat.lt_of_lt_of_le h1 hf)
    · exact I.nofs hf e
  apply PySem.W.kla_eval hd
  cases e : codeAmong pos ps.toList with
  | some cv =>
    obtain ⟨c1, rfl, hc1⟩ := T.2 pos cv e
    refine PySem.W.kla_makeFunctionHit (mg := X.mg) (c := c) (P := P) (ps := ps) cl I.ok.glob gl hcd hh at_ T.1 e hb fun ctv h1 tk hx hsz => ?_
    exact h _ c1 _ ctv ps H _ (I.kept (t' := tk) fun b o z => Heap.get?_push_of_some _ (hx b o z)) (.inl ⟨rfl, rfl⟩) (Heap.get?_push_size _ rfl) (I.hok.fresh hsz) (nofr _ hsz) hc1
  | none =>
    refine PySem.W.kla_makeFunction (mg := X.mg) (c := c) (P := P) (ps := ps) cl I.ok.glob gl hcd hh at_ T.1 e TB.gP hb fun c1 ctv h1 tk hx hge hlt hrec htb => ?_
    obtain ⟨c2, oc, vs, t, ec, hoc, hdt, hv⟩ := hrec
    cases ec
    have n1 : H c1 = none := I.hok.fresh hge
    have hsz : s.heap.objs.size ≤ h1.objs.size := Nat.le_trans hge (Nat.le_of_lt hlt)
    have el : (ps ++ #[rawInt pos.line, rawInt pos.col, Value.ref c1]).toList = ps.toList ++ [rawInt pos.line, rawInt pos.col, .ref c1] := by simp
    have n3 : h1.objs.size ≠ c1 := Nat.ne_of_gt hlt
    have n2 : h1.objs.size ≠ P := Nat.ne_of_gt (Nat.lt_of_lt_of_le (Heap.lt_size at_) hsz)
    refine h _ c1 _ ctv _ _ _ (LamX.inv_table (t' := tk) (q := X.env.qual ++ "<lambda>") (c := c1) (more := #[rawInt pos.line, rawInt pos.col, .ref c1]) I hP (fun b o nb z => Heap.get?_push_of_some _ (hx b o nb z)) (Heap.get?_push_of_some _ htb) hge ⟨oc, vs, t, Heap.get?_push_of_some _ hoc, hdt, hv⟩)
      (.inr ⟨c1, n1, rfl, ?_, fun p' cv hc => ?_⟩) (Heap.get?_push_size _ rfl) ?_ (nofr _ hsz) upd_same
    · rw [el]
      exact TriplesOk_snoc _ _ _ _ T.1
    · rw [el] at hc
      exact LamX.among_app _ T.1 hc
    · rw [upd_ne n3, upd_ne n2]
      exact I.hok.fresh hsz
end
section
open LamX
variable {X : Cx} {pins : List (Addr × Obj)} {σ : L2.St} {H HZ : Hp} {s s1 : Shared}
theorem pe_act2 {CXg : CXT} {Eg : XK} {Ng : List Str} {qg : Str} {sg : Scope} {g f c' : Addr} {cdg pm ctv : Value} {params : Arguments} {body : Expr} {scope : Scope} {k i : Nat} {a : Str} {pn : List (Addr × Obj)} {xe : Value → Shared → Prop} {W : WX} {tb : XK → TE} {p1 p2 : Pos}
    (I : Inv X pins σ H s) (L : LamS X.env.scope scope) (hf : s.heap.get? f = some (PySem.W.kla_obj "<lambda>" (X.env.qual ++ "<lambda>") params body scope (cloFrom X.env.cells scope.names []) pm c' ctv)) (hfn : H f = none) (hfr : f ∉ frs X.stack)
    (hbind : bindArgs (PySem.W.kla_fn "<lambda>" (X.env.qual ++ "<lambda>") params body scope (cloFrom X.env.cells scope.names []) pm (.ref c') ctv) ⟨[], []⟩ = pure [])
    (tk : Takes ((cxOf CXg X.prog X.w X.K X.mg X.base Ng qg sg g cdg X.A X.stack s H Eg).tr pn xe) W) (hr : Room (k + 1) (X.A.deeper (envOfC qg sg s.heap.objs.size g cdg)))
    (hbody : ∀ (E : XK) (A : Around) (outer : List Env) (s : Shared) (H : Hp), Room k (A.deeper (lamEnv X scope s.heap.objs.size f c')) → PE (lamCx X A outer s H E scope f c') body (tb E))
    (hN : Ng[i]? = some a) (hv : Vis sg a) (hd : (a == ("__debug__" : Str)) = false := by decide) (hcd : (a == ("__classdict__" : Str)) = false := by decide) :
    PE ((cxOf CXg X.prog X.w X.K X.mg X.base Ng qg sg g cdg X.A X.stack s H Eg).tr pn xe) (.Call (.Name a p1) [] [] p2)
      (fun σZ HZ Q => σZ[i]? = some (some (.ref f)) ∧ HZ c' = some (CodeO c' (X.env.qual ++ "<lambda>")) ∧ tb (WE W σZ) σ HZ Q) := by
  refine ⟨fun pinsZ sZ σZ HZ Q IZ h => ?_⟩
  obtain ⟨hs, hc, ht⟩ := h
  generalize hE : WE W σZ = E at ht
  refine wpAny_Call_Name_kw (thn ((pe_var (pos := p1) (i := i) hN hv hd hcd).run pinsZ sZ σZ HZ (fun v H1 => v = .ref f ∧ H1 = HZ) IZ ⟨.ref f, hs, rfl, rfl⟩) fun u s1 ⟨v, H1, I1, r1, q1⟩ => ?_)
  obtain ⟨ev, eH⟩ := q1
  subst ev
  rw [eH] at I1
  obtain rfl : u = Value.ref f := r1
  have of1 : s1.heap.get? f = some (PySem.W.kla_obj "<lambda>" (X.env.qual ++ "<lambda>") params body scope (cloFrom X.env.cells scope.names []) pm c' ctv) := I1.base.keep f _ hf hfn hfr (fun z => nomatch (show f ∈ ([] : List Addr) from z))
  refine PySem.W.callWith_F0 ⟨_, _, _, _, of1⟩ ?_
  have un : Un (frs X.stack) [] H HZ s.heap s1.heap := I1.base
  obtain ⟨⟨oc, vs, t, hoc, hdc, hvc⟩, _, _⟩ := I1.hok c' _ hc
  have rc : codeAny (model X.prog X.w) (X.A.deeper (envOfC qg sg s.heap.objs.size g cdg)) (.call (.ref f) ⟨[], []⟩) (CR (L2.CX X.prog X.w) (envOfC qg sg s.heap.objs.size g cdg :: X.stack) X.prog X.w HZ s1 Q E) s1 := by
    refine PySem.W.kla_callFunE hr.depth of1 rfl L.co L.gen rfl ⟨c', oc, vs, t, rfl, hoc, hdc, hvc⟩ ?_
    rw [hbind]
    refine wpAny_pure (wpAny_newFunctionEnv (fun y hy => (L.own y hy).2) (fun y hy => absurd hy (by simp)) (fun h₁ hns hsb => ⟨I1.nolimit.fresh _ hsb, ?_⟩) L.kind)
    show codeAny _ _ (.expr body (lamEnv X scope s1.heap.objs.size f c')) _ _
    have kp : ∀ b o, s1.heap.get? b = some o → h₁.get? b = some o := fun b o e => hsb.extBut b o (Nat.ne_of_lt (Heap.lt_size e)) (Heap.get?_push_of_some _ e)
    have J : Inv (lamCx X (X.A.deeper (envOfC qg sg s.heap.objs.size g cdg)) (envOfC qg sg s.heap.objs.size g cdg :: X.stack) s1 HZ E scope f c') [] σ HZ { s1 with heap := h₁, toks := s1.toks + ([] : List (Str × Value)).length } :=
      lam_start2 I L I1.env0 hr.hd un hns kp
    refine PySem.W.kla_codeExpr (wpAny_mono ((hbody E _ _ s1 HZ (hr.deeper _)).run [] _ _ HZ Q J ht) (fun v s' hq => ?_) fun e s' hq => hq)
    obtain ⟨w', H', J', rv, q⟩ := hq
    exact ⟨w', H', J'.os, J'.bare, J'.base, J'.hok, rv, q⟩
  have hx : PassesAt (L2.CX X.prog X.w) ((cxOf CXg X.prog X.w X.K X.mg X.base Ng qg sg g cdg X.A X.stack s H Eg).tr pn xe) σZ E := hE ▸ passAt tk σZ
  refine wpAny_call (codeAny_mono rc fun r s' hq => ?_)
  cases r with
  | error e => exact hx pinsZ HZ s1 e s' I1 hq
  | ok fl =>
    cases fl with
    | ret u => exact I1.after hq
    | next => exact False.elim hq
    | brk => exact False.elim hq
    | cont => exact False.elim hq

def GivesTo2 (X : Cx) (Ng : List Str) (x : Str) (sg : Scope) (g : Addr) (cdg : Value) (bg : List Stmt) (a : Str) (q : Str) (TT : (XK → Hp → VK → Prop) → Hp → VK → Prop) : Prop :=
  ∀ (f c' : Addr) (s : Shared) (H : Hp) (Q : VK) (tl : XK → Hp → VK → Prop),
    (∀ (W : WX) (pn : List (Addr × Obj)) (xe : Value → Shared → Prop) (p1 p2 : Pos), Takes ((cxOf C8.CX0 X.prog X.w X.K X.mg X.base Ng x sg g cdg X.A X.stack s H C8.E0).tr pn xe) W →
      PE ((cxOf C8.CX0 X.prog X.w X.K X.mg X.base Ng x sg g cdg X.A X.stack s H C8.E0).tr pn xe) (.Call (.Name a p1) [] [] p2) (fun σZ HZ Q => σZ[0]? = some (some (.ref f)) ∧ HZ c' = some (CodeO c' q) ∧ tl (WE W σZ) HZ Q)) →
    H c' = some (CodeO c' q) → TT tl H Q →
    ∃ t, PSs (cxOf C8.CX0 X.prog X.w X.K X.mg X.base Ng x sg g cdg X.A X.stack s H C8.E0).nox bg t ∧ t { nx := fun _ H' => Q .non H', rt := Q } (L2.start Ng [.ref f]) H
end
def tLamC (P : Addr) (q : Str) (TT : (XK → Hp → VK → Prop) → Hp → VK → Prop) (t : XK → TE) : TE := fun σ H Q => ∃ ps, H P = some (.tbl ps) ∧ TbOk H q ps ∧ ∀ ps' H1, TbNew H H1 P q ps ps' → TT (fun E H' Q' => t E σ H' Q') H1 Q
theorem pe_lamC {X : Cx} {TT : (XK → Hp → VK → Prop) → Hp → VK → Prop} {x a q : Str} {g c P : Addr} {k : Nat} {pg : Arguments} {bg : List Stmt} {sg : Scope} {fd : FuncData} {Ng : List Str}
    {params : Arguments} {body : Expr} {scope : Scope} {t : XK → TE} {p lpos pos : Pos} (hg : Gl X x) (hm : X.mg x = some (.ref g)) (hk : PySem.W.keepIn X.K (.ref g) = true)
    (F : FunD X.K x x pg bg sg [] [] g fd) (hb : L2.Binds X.K fd [a] []) (Sg : FnScope Ng [a] sg) (hNg : Ng[0]? = some a) (hva : Vis sg a)
    (hG : ∀ cdv, GivesTo2 X Ng x sg g cdv bg a (X.env.qual ++ "<lambda>") TT)
    (TB : LamX.TabB X.base X.mg c P) (hcode : X.env.code = .ref c) (hq : X.env.qual ++ "<lambda>" = q) (hr : Room (k + 2) X.A) (L : LamX.LamS X.env.scope scope) (hdef : defaultsOf params X.env = ([], []))
    (hbind : ∀ (q : Str) (cl : List (Str × Addr)) (pm cv ctv : Value), bindArgs (PySem.W.kla_fn "<lambda>" q params body scope cl pm cv ctv) ⟨[], []⟩ = pure [])
    (hbody : ∀ (A : Around) (outer : List Env) (s : Shared) (H : Hp) (E : XK) (f c' : Addr), Room k (A.deeper (LamX.lamEnv X scope s.heap.objs.size f c')) → PE (LamX.lamCx X A outer s H E scope f c') body (t E))
    (hdb : (x == ("__debug__" : Str)) = false := by decide) (hd : (a == ("__debug__" : Str)) = false := by decide) (hcd : (a == ("__classdict__" : Str)) = false := by decide) :
    PE X (.Call (.Name x p) [.Lambda params body scope lpos] [] pos) (tLamC P q TT t) := by
  obtain ⟨oc, od, dV, kV, doc, pm, an, cdv, ct, osl, rfl, lk, hcg, _, _⟩ := F.ex
  refine ⟨fun pins s σ H Q I h => ?_⟩
  obtain ⟨ps, hP, hT, h⟩ := h
  refine wpAny_Call_Name_kw (ld_glob I hg hm ?_ hdb)
  refine PySem.W.callWith_K (h₀ := X.base) I.ok.mod.kin hk ?_ (by rfl) (by rfl)
  show wpAny _ _ (spliced ((false, eval (.Lambda params body scope lpos) X.env) :: backTo pos (starEach [] X.env))) _ _ s
  refine Calls.spliced_cons (lam_makeX I TB hcode hq hdef (L.has I.ok) hP hT fun f c' pm' ctv ps' H1 s' I1 nT hf hfn hfr hco => ?_)
  refine Calls.spliced_nil ⟨I1.kIn, ?_⟩
  have rc : codeAny (model X.prog X.w) X.A (.call (.ref g) ⟨[.ref f], []⟩) (CR C8.CX0 X.stack X.prog X.w H1 s' Q C8.E0) s' := by
    refine LamX.run_ofS (N := Ng) (ps := [a]) (us := [.ref f]) (vs := [.ref f]) lk hcg Sg hr I1.env0 (hb s' [.ref f] I1.kIn rfl) (.cons rfl .nil) rfl fun hr' => ?_
    obtain ⟨t', ht', hq'⟩ := hG cdv f c' s' H1 Q (fun E H' Q' => t E σ H' Q') (fun W pn xe p1 p2 tk => pe_act2 (i := 0) (tb := t) I1 L hf hfn hfr (hbind _ _ _ _ _) tk hr' (fun E A outer s H hr2 => hbody A outer s H E f c' hr2) hNg hva hd hcd) hco (h ps' H1 nT)
    exact ⟨t', ht'.nox, hq'⟩
  refine wpAny_call (codeAny_mono rc fun r s2 hq => ?_)
  cases r with
  | error e => exact (show False from hq).elim
  | ok fl =>
    cases fl with
    | ret u => exact I1.after hq
    | next => exact False.elim hq
    | brk => exact False.elim hq
    | cont => exact False.elim hq
theorem z_lamC {G H : Hp} {M : List (Addr × HO)} {P : Addr} {q : Str} {σ : L2.St} {Q : VK} {ps : Array Value} {TT : (XK → Hp → VK → Prop) → Hp → VK → Prop} {te : XK → TE} (z : Zp G M H) (k : Nat) (e : M[k]? = some (P, .tbl ps)) (t : TbOk G q ps) (h : ∀ G1 H1 ps', Zp G1 (M.set k (P, .tbl ps')) H1 → Same G G1 → TbOk G1 q ps' → TT (fun E H' Q' => te E σ H' Q') H1 Q) : tLamC P q TT te σ H Q := by
  refine ⟨ps, z.at_ k e, t.up z.sub, fun ps' H1 w => ?_⟩
  rcases w with ⟨rfl, rfl⟩ | ⟨c, hc, rfl, t1, t2⟩
  · have es : M.set k (P, HO.tbl ps') = M := by
      apply List.ext_getElem?
      intro i
      rw [List.getElem?_set]
      split
      · rename_i hi
        subst hi
        rw [e, if_pos (List.getElem?_eq_some_iff.mp e).1]
      · rfl
    exact h G _ ps' (by rw [es]; exact z) (Same.refl _) t
  · have gc : G c = none := z.free hc
    have z1 := z.put k e (.tbl ps')
    have hc1 : upd H P (.tbl ps') c = none := by
      rw [upd_ne]
      · exact hc
      · intro h0
        have := z.at_ k e
        rw [← h0, hc] at this
        cases this
    refine h _ _ ps' (z1.new hc1 _) (Same.new gc) ⟨t1, fun pos cv hcv => ?_⟩
    rcases t2 pos cv hcv with y | y
    · obtain ⟨c0, e1, e2⟩ := t.2 pos cv y
      exact ⟨c0, e1, Same.new gc _ _ e2⟩
    · exact ⟨c, y, upd_same⟩
end Ys
/-! try with several clauses, each with a name for what it caught -/
namespace Ys
open PySem PySem.Spec PyProof.Rows L2
def wNames (K : PySem.W.Frag) (Wout : WX) (D : Ends) : List (Value × Nat × (Addr → Value → Option Addr → TS)) → WX
  | [] => Wout
  | (c, i, ts) :: r => wAs K c i ts (wNames K Wout D r) D
inductive Named (X : Cx) : List ExceptHandler → List (Value × Nat × (Addr → Value → Option Addr → TS)) → Prop
  | nil : Named X [] []
  | cons {x n : Str} {c : Value} {i : Nat} {ts : Addr → Value → Option Addr → TS} {b₀ : Stmt} {suite : List Stmt} {np pos' : Pos} {hds : List ExceptHandler} {l : List (Value × Nat × (Addr → Value → Option Addr → TS))} (hi : X.N[i]? = some n) (hln : X.env.kindOf n = some .local) (hc : Names X x c)
      (hsu : ∀ (a : Addr) (oe : Obj) (cls : Value) (d : Option Addr) (pn : List (Addr × Obj)), Zc cls d oe → (∃ vs, oe.data = .fields vs) → PSs (X.suite a ((a, oe) :: pn)) (b₀ :: suite) (ts a cls d)) (r : Named X hds l) :
      Named X (.ExceptHandler (some (.Name x np)) (some n) (b₀ :: suite) pos' :: hds) ((c, i, ts) :: l)
section
variable {X : Cx} {Wout : WX} {D : Ends} {a : Addr} {B : Heap} {sI s' : Shared} {pins : List (Addr × Obj)} {σ : L2.St} {H : Hp} {cls : Value} {d : Option Addr} {h3 : Heap}
theorem meets (hs : X.stack = X.env :: X.outer) (hf : X.env.frame = some X.env.locals) (hN : X.N.Nodup) (tk : Takes X Wout) (ok : X.Ok) (J : Inv X pins σ H sI) (nb : ∀ b o, sI.heap.get? b = some o → b ∉ frs X.stack → B.get? b = some o) (up : sI.heap.UpToSlots s'.heap) (up3 : s'.heap.UpToSlots h3)
    (fl3 : HandSPX.FlyingZ B (X.env :: X.outer) a (Zc cls d) h3) (na : H a = none) (os : s'.os = sI.os) (ag : AllBare s'.gens) {hds : List ExceptHandler} {l : List (Value × Nat × (Addr → Value → Option Addr → TS))} (hk : Named X hds l) (w : wNames X.K Wout D l cls d σ H) :
    wpAny (model X.prog X.w) X.A (handleBy (.ref a) X.env hds) (SP X pins D) X.xe { s' with heap := h3 } := by
  induction hk with
  | nil =>
    refine wpAny_handleBy_nil ?_
    obtain ⟨_, _, _, _, vs, T, _, _, he, _, hd, h1, _⟩ := id fl3
    unfold PySem.passOn
    refine wpAny_bind (wpAny_field he hd h1 ?_)
    rw [if_neg (show ¬ ((Value.ref T == Value.none) = true) from by simp)]
    have away : wpAny (model X.prog X.w) X.A (setFlight (.ref a) X.env.frame) (fun _ s4 => wpAny (model X.prog X.w) X.A (throw (.ref a) : Sem Flow) (SP X pins D) X.xe s4) X.xe { s' with heap := h3 } := by
      rw [hf]
      exact HandSPX.setFlight_upZ fl3 fun h4 hh4 up4 => wpAny_throw (tk _ _ ⟨a, B, sI, pins, σ, H, cls, d, rfl, J, nb, (up.trans up3).trans up4, .inr (.inr (by rw [hs]; exact hh4)), na, os, ag, w⟩)
    first
      | exact wpAny_bind (wpAny_pure (wpAny_bind away))
      | exact wpAny_bind away
  | @cons x n c i ts b₀ suite np pos' hds l hi hln hc hsu r ih =>
    obtain ⟨b, hb1, hyes, hno⟩ := w
    have there : ∀ {h : Heap}, HandSPX.FlyingZ B (X.env :: X.outer) a (Zc cls d) h → s'.heap.UpToSlots h → ∃ oe vs, h.get? a = some oe ∧ Zc cls d oe ∧ oe.data = .fields vs ∧ Inv (X.suite a ((a, oe) :: (X.pn ++ pins))) [] σ H { s' with heap := h } := fun {h} fl u => by
      obtain ⟨oe, vs, he, hz, hd⟩ := fl.there
      have nfr : a ∉ frs (X.env :: X.outer) := fun hm => by
        obtain ⟨_, o', e', hnf⟩ := fl.2.2.1.mem hm
        rw [he] at e'
        cases e'
        exact hnf _ hd
      have JL : Inv X pins σ H { s' with heap := h } := J.landed nb fl.1 (up.trans u) os ag
      refine ⟨oe, vs, he, hz, hd, JL.suite he hd na (fun z => nfr (List.mem_filterMap.mpr ⟨X.env, List.mem_cons_self, by rw [hf, z]⟩)) fun hm => ?_⟩
      obtain ⟨e, he, q⟩ := List.mem_filterMap.mp hm
      exact nfr (List.mem_filterMap.mpr ⟨e, List.mem_cons_of_mem _ he, q⟩)
    obtain ⟨oe3, vs3, he3, hz3, hd3, S3⟩ := there fl3 up3
    refine wpAny_handleBy_cons (codeAny_handlers_test ?_) (by intro q; cases q)
    have JL3 : Inv X pins σ H { s' with heap := h3 } := J.landed nb fl3.1 (up.trans up3) os ag
    have LT : PySem.W.Looks (model X.prog X.w) h3 (typeOf (.ref a)) cls := fun A Q E s k q => wpAny_typeOf_ref (k _ _ he3) (by rw [hz3.1]; exact q)
    have LM := PySem.W.exm_one (M := model X.prog X.w) JL3.kIn LT hb1
    have test : ∀ {Q : Value → Shared → Prop} {E : Value → Shared → Prop}, Q c { s' with heap := h3 } → wpAny (model X.prog X.w) (X.A.mark (some (.ref a))) (eval (.Name x np) X.env) Q E { s' with heap := h3 } := fun {Q E} q => by
      obtain ⟨hg, hdbg, hm | ⟨hm, hv, hnn⟩⟩ := hc
      · exact ld_glob (X := X.suite a ((a, oe3) :: (X.pn ++ pins))) S3 hg hm q hdbg
      · exact ld_blt (X := X.suite a ((a, oe3) :: (X.pn ++ pins))) S3 hg hm hv q hnn hdbg
    refine test (LM.here ?_)
    cases b with
    | true =>
      refine codeAny_handlers_suite_as (HandSPX.lands_againZ fl3 fun h4 fl4 up4 => ?_)
      obtain ⟨oe4, vs4, he4, hz4, hd4, S4⟩ := there fl4 (up3.trans up4)
      refine store_ok (X := X.suite a ((a, oe4) :: (X.pn ++ pins))) (v := .ref a) S4 hN hi (.inl hln) rfl (fun s5 S5 => wpAny_mono ((hsu a oe4 cls d (X.pn ++ pins) hz4 ⟨_, hd4⟩).run [] s5 _ H _ S5 (hyes rfl a na)) (fun f s6 hsp => ?_) (fun _ _ z => False.elim z)) (.inr hln)
      have fin : ∀ {σ6 : L2.St} {H6 : Hp} {Q : Shared → Prop}, Inv (X.suite a ((a, oe4) :: (X.pn ++ pins))) [] σ6 H6 s6 → (∀ s7, Inv X pins (σ6.set i none) H6 s7 → Q s7) →
          wpAny (model X.prog X.w) X.A (do bindName X.env n .none; unbindBehindTheSuite X.env n pos') (fun _ s7 => Q s7) X.xe s6 := fun {σ6 H6 Q} S6 hq => gone_ok (S6.unsuite ok) hN hi hln hq
      cases f with
      | ret u =>
        obtain ⟨v6, σ6, H6, S6, r6, q6⟩ := hsp
        exact fin S6 fun s7 J7 => ⟨_, _, _, J7, r6, q6⟩
      | _ =>
        obtain ⟨σ6, H6, S6, q6⟩ := hsp
        exact fin S6 fun s7 J7 => ⟨_, _, J7, q6⟩
    | false => exact ih (hno rfl)
end
section
variable {X : Cx} {body : List Stmt} {h₀ : ExceptHandler} {hds : List ExceptHandler} {l : List (Value × Nat × (Addr → Value → Option Addr → TS))} {pos : Pos} {tb : WX → TS} {Wout : WX}
theorem ps_try_names (hs : X.stack = X.env :: X.outer) (hf : X.env.frame = some X.env.locals) (hN : X.N.Nodup) (tk : Takes X Wout)
    (hb : ∀ (W : WX) (pn : List (Addr × Obj)) (xe : Value → Shared → Prop), Takes (X.tr pn xe) W → PassesOwn (model X.prog X.w) X.A X.env xe → PSs (X.tr pn xe) body (tb W))
    (hh : Named X (h₀ :: hds) l) : PS X (.Try body (h₀ :: hds) [] [] pos) (fun D σ H => tb (wNames X.K Wout D l) D σ H) := by
  refine ⟨fun pins s σ H D I h => ?_⟩
  have hfr : X.A.frames = some (X.env :: X.outer) := by rw [I.ok.frames, hs]
  refine wpAny_Try_except ?_
  refine wpAny_mono ((hb (wNames X.K Wout D l) (X.pn ++ pins) (fun e s₁ => wpAny (model X.prog X.w) X.A (noteFrame e X.env) (fun _ s₂ => wpAny (model X.prog X.w) X.A (setFlight e none) (fun _ s₃ =>
    wpAny (model X.prog X.w) X.A (handleBy e X.env (h₀ :: hds)) (SP X pins D) X.xe s₃) X.xe s₂) X.xe s₁) (fun u s' xx => ?_) PassesOwn.looking).run [] s σ H D (I.toTry _) h) (fun f s1 hsp => ?_) (fun e s1 he => he)
  · obtain ⟨a, B, sI, pins', σ', H', cls, d, rfl, J', nb, up, sky, na, os, ag, w⟩ := xx
    show wpAny (model X.prog X.w) X.A (noteFrame (.ref a) X.env) _ _ _
    exact Sky.land Zc.steady hfr hf (by rw [← hs]; exact sky) fun h3 fl3 up3 => meets hs hf hN tk I.ok (J'.ofTry I.ok) nb up up3 fl3 na os ag hh w
  · cases f with
    | next =>
      obtain ⟨σ', H', J', q⟩ := hsp
      exact wpAny_execs_nil ⟨σ', H', J'.ofTry I.ok, q⟩
    | ret u =>
      obtain ⟨v, σ', H', J', r, q⟩ := hsp
      exact ⟨v, σ', H', J'.ofTry I.ok, r, q⟩
    | _ =>
      obtain ⟨σ', H', J', q⟩ := hsp
      exact ⟨σ', H', J'.ofTry I.ok, q⟩
end
end Ys
namespace Ys
open PySem PySem.Spec PyProof.Rows L2
/-! ### the Hook, with methods that say super() -/
theorem obC_eq {n : Nat} {fb : List (PySem.W.Frag → Bool)} {fn fc : List DefY} (s : PySem.W.SharedT) : obC n fb fn fc s = (hookC n fb fn fc).obs s.abs := by
  have e : HandSHeadRun.getT s = s.abs.heap.get? := funext (HandSHeadRun.getT_eq s)
  unfold obC
  rw [e]
  rfl
section
variable {fb : List (PySem.W.Frag → Bool)} {fn fc : List DefY} {K : PySem.W.Frag}
theorem SaysC.both (c : SaysC fb fn fc K) : SaysZ fb fn K ∧ (fc.map fun d => fnC K (d.ad K)) = fc.map DefY.val := by
  have h2 : (fn.map fun d => fnY K (d.ad K)) ++ (fc.map fun d => fnC K (d.ad K)) = fn.map DefY.val ++ fc.map DefY.val := congrArg Prod.snd c
  obtain ⟨h3, h4⟩ := List.append_inj h2 (by rw [List.length_map, List.length_map])
  have h1 : ((fb.all fun f => f K) && fn.all fun d => d.ok K) = true := congrArg Prod.fst c
  exact ⟨Prod.ext h1 h3, h4⟩
theorem SaysC.sup (c : SaysC fb fn fc K) (i : Nat) {d : DefY} (h : fc[i]? = some d := by rfl) : fnC K (d.ad K) = d.val := by
  have := congrArg (fun l : List He.FnW => l[i]?) c.both.2
  simp only [List.getElem?_map, h, Option.map_some] at this
  exact Option.some.inj this
end
/-! ### an own error's class -/
theorem oexB_ok {K : PySem.W.Frag} {C : Addr} (h : oexB K C = true) : ∃ nm q N bs bm sn sub ab col dd k0 k1 k2 k3 k5, K.lookup C = some (excClassObj nm q C N bs bm true sn sub ab col dd k0 k1 k2 k3 k5 "ValueError.__new__") ∧ PySem.HandSPX.refsVE bm = true := by
  unfold oexB at h
  split at h
  · rename_i t dd c sl look
    split at h
    · rename_i D bm k0 k1 k2 k3 m k5 hm hl
      obtain ⟨j, i⟩ := Bool.and_eq_true_iff.mp h
      obtain ⟨j1, j⟩ := Bool.and_eq_true_iff.mp j
      obtain ⟨j2, j3⟩ := Bool.and_eq_true_iff.mp j
      obtain ⟨i1, i⟩ := Bool.and_eq_true_iff.mp i
      obtain ⟨i2, i3⟩ := Bool.and_eq_true_iff.mp i
      have e1 := of_decide_eq_true j1
      have e2 := of_decide_eq_true j2
      have e3 := of_decide_eq_true j3
      obtain ⟨y1, y2, y3, y4, y5, y6, y7, y8, y9, y10, y11⟩ := c
      dsimp only at hm i2 i3
      have z3 : y11 = false := by cases y11 <;> simp_all
      have es : sl = #[k0, k1, k2, k3, some (.builtin m), k5] := Array.toList_inj.mp (by rw [hl])
      subst e1 e2 e3 hm es i2 z3
      exact ⟨y1, y5, y4, y2, bm, y7, y8, y9, y10, dd, k0, k1, k2, k3, k5, look, i1⟩
    · cases h
  · cases h
theorem oexA_ok {x : Str} {K : PySem.W.Frag} (h : oexA x K = true) : OexC K (He.ga K x) := by
  obtain ⟨h1, h⟩ := Bool.and_eq_true_iff.mp h
  obtain ⟨h2, h⟩ := Bool.and_eq_true_iff.mp h
  obtain ⟨h3, h⟩ := Bool.and_eq_true_iff.mp h
  obtain ⟨h4, h5⟩ := Bool.and_eq_true_iff.mp h
  exact { cls := oexB_ok h1, sa := of_decide_eq_true h2, exC := of_decide_eq_true h3, tyC := of_decide_eq_true h4, kC := h5 }
structure ExcA (K : PySem.W.Frag) (C : Addr) (fld : Str) : Prop where
  xf : XfC K C
  xc : ExcC K C
  no : PySem.W.findIn K (.ref C) fld = some none
  ex : PySem.W.exmOne K (.ref C) (.ref C) = some true
  kt : PySem.W.kitOne K (.ref C) (.type "ValueError") = some true
theorem excA_ok {x fld : Str} {K : PySem.W.Frag} (h : excA x fld K = true) : ExcA K (He.ga K x) fld := by
  obtain ⟨h1, h⟩ := Bool.and_eq_true_iff.mp h
  obtain ⟨h2, h⟩ := Bool.and_eq_true_iff.mp h
  obtain ⟨h3, h⟩ := Bool.and_eq_true_iff.mp h
  obtain ⟨h4, h⟩ := Bool.and_eq_true_iff.mp h
  obtain ⟨h5, h⟩ := Bool.and_eq_true_iff.mp h
  obtain ⟨h6, h⟩ := Bool.and_eq_true_iff.mp h
  obtain ⟨h7, h8⟩ := Bool.and_eq_true_iff.mp h
  have X := xfB_ok h1
  exact ⟨X, ⟨X.ga, X.gg, X.exC, X.hdC, of_decide_eq_true h2, of_decide_eq_true h3, of_decide_eq_true h4, of_decide_eq_true h5⟩, of_decide_eq_true h6, of_decide_eq_true h7, of_decide_eq_true h8⟩
/-! ### its __init__ -/
theorem fileB_ok {K : PySem.W.Frag} {cd : Value} {file : Str} (h : fileB K cd file = true) : ∃ a, cd = .ref a ∧ ∃ ccl cdd vs ccs z tf, K.lookup a = some ⟨ccl, cdd, .fields vs, ccs⟩ ∧ vs[2]? = some (.str z tf) ∧ (file == z) = true := by
  unfold fileB at h
  split at h
  · rename_i a
    split at h
    · rename_i c1 c2 vs c3 lk
      split at h
      · rename_i z tf hv
        exact ⟨a, rfl, c1, c2, vs, c3, z, tf, lk, hv, h⟩
      · cases h
    · cases h
  · cases h
theorem cloB_ok {K : PySem.W.Frag} {clo : List (Str × Addr)} {C : Addr} (h : cloB K clo C = true) : ∃ c, clo = [(("__class__" : Str), c)] ∧ ∃ cl cld csl, K.lookup c = some ⟨cl, cld, .cell (some (.ref C)), csl⟩ := by
  unfold cloB at h
  split at h
  · rename_i n c
    obtain ⟨h1, h2⟩ := Bool.and_eq_true_iff.mp h
    split at h2
    · rename_i c1 c2 D c3 lk
      have e1 := of_decide_eq_true h1
      have e2 := of_decide_eq_true h2
      subst e1 e2
      exact ⟨c, rfl, _, _, _, lk⟩
    · cases h2
  · cases h
theorem supA_ok {P : Program} {x fld : Str} {K : PySem.W.Frag} {d : DefY} (hf : d.ad K = cA x "__init__" K) (hn : d.name = "__init__") (e : fnC K (d.ad K) = d.val) (h : supA x d.qual fld P.main.file K = true) :
    ∃ fd, SupF P K (gA x K) (cA x "__init__" K) fld d.qual d.params d.body d.scope fd ∧ (∃ kV doc pm an cdv ct cc, fd = PySem.W.ksFn "__init__" d.qual d.params d.body d.scope .none kV doc pm an cdv ct cc) ∧
      PySem.W.findIn K (.ref (gA x K)) "__init__" = some (some (.ref (cA x "__init__" K))) ∧ PySem.W.typeIn K (.ref (cA x "__init__" K)) = some (.type "function") := by
  obtain ⟨h0, h⟩ := Bool.and_eq_true_iff.mp h
  obtain ⟨h1, h⟩ := Bool.and_eq_true_iff.mp h
  obtain ⟨h2, h⟩ := Bool.and_eq_true_iff.mp h
  obtain ⟨h3, h⟩ := Bool.and_eq_true_iff.mp h
  obtain ⟨h4, h⟩ := Bool.and_eq_true_iff.mp h
  obtain ⟨h5, h⟩ := Bool.and_eq_true_iff.mp h
  obtain ⟨h6, h⟩ := Bool.and_eq_true_iff.mp h
  obtain ⟨h7, h8⟩ := Bool.and_eq_true_iff.mp h
  rw [hf] at e
  split at h0
  · rename_i oc od g osl lk
    obtain ⟨j1, j⟩ := Bool.and_eq_true_iff.mp h0
    obtain ⟨j2, j⟩ := Bool.and_eq_true_iff.mp j
    obtain ⟨j3, j4⟩ := Bool.and_eq_true_iff.mp j
    obtain ⟨a, ha, jf⟩ := fileB_ok j2
    obtain ⟨c, hc, jc⟩ := cloB_ok j3
    have j4 := of_decide_eq_true j4
    unfold fnC at e
    rw [lk] at e
    obtain ⟨g1, g2, g3, g4, g5, g6, g7, g8, g9, g10, g11, g12, g13, g14, g15⟩ := g
    obtain ⟨i1, i2, i3, i4, i5, i6, i7⟩ : g1 = d.name ∧ g2 = d.qual ∧ g3 = d.params ∧ g4 = .stmts d.body ∧ g5 = d.scope ∧ g6 = mainGlobals ∧ g15 = builtinsNs := by
      have e' : (some (g1, g2, g3, g4, g5, g6, [], g15) : He.FnW) = some (d.name, d.qual, d.params, .stmts d.body, d.scope, mainGlobals, [], builtinsNs) := e
      simpa only [Option.some.injEq, Prod.mk.injEq, true_and] using e'
    have hc : g7 = [(("__class__" : Str), c)] := hc
    have ha : g13 = .ref a := ha
    have j4 : g8 = .none := j4
    rw [hn] at i1
    subst i1 i2 i3 i4 i5 i6 i7 hc ha j4
    exact ⟨_, ⟨⟨oc, od, osl, .none, g9, g10, g11, g12, a, g14, c, rfl, lk, j1, jf, jc⟩, of_decide_eq_true h1, of_decide_eq_true h2, of_decide_eq_true h3, of_decide_eq_true h4, of_decide_eq_true h5, of_decide_eq_true h6⟩, ⟨_, _, _, _, _, _, _, rfl⟩, of_decide_eq_true h7, of_decide_eq_true h8⟩
  · cases h0
end Ys
namespace Ys
theorem z_bT' {c : Bool} {A B : Prop} (h : c = true) (q : A) : Bif c A B := by rw [h]; exact z_bT q
theorem z_bF' {c : Bool} {A B : Prop} (h : c = false) (q : B) : Bif c A B := by rw [h]; exact z_bF q
end Ys
/-! the head's facts of a class with super() below an own plain one; what its __init__ binds -/
namespace Ys
open PySem PySem.Spec PyProof.Rows L2 NdefX
theorem supT_ok {P : Program} {x up : Str} {dvs : PySem.W.Frag → List V} {kws : PySem.W.Frag → List (Str × V)} {K : PySem.W.Frag} {d : DefY} (hf : d.ad K = cA x "__init__" K) (hn : d.name = "__init__") (e : fnC K (d.ad K) = d.val) (h : supT x up d.qual P.main.file dvs kws K = true)
    (hd : ∃ ar, (d.params.posonlyargs ++ d.params.args).head? = some ar ∧ ar.arg = "self") (tp : (P.main.scope.names.lookup ("super" : Str)).isSome = false) :
    ∃ dV kV doc pm an cc cda ct, SupC P K (gA x K) (cA x "__init__" K) (cA up "__init__" K) cc ⟨"__init__", d.qual, d.params, d.body, d.scope, [(("__class__" : Str), cc)], cda⟩ (PySem.W.ksFn "__init__" d.qual d.params d.body d.scope dV kV doc pm an (.ref cda) ct cc) ∧ DflV K dV (dvs K) ∧ KwdV K kV (kws K) ∧ PySem.W.nsIn K mainGlobals "super" = some none := by
  obtain ⟨h0, h⟩ := Bool.and_eq_true_iff.mp h
  obtain ⟨h1, h⟩ := Bool.and_eq_true_iff.mp h
  obtain ⟨h2, h⟩ := Bool.and_eq_true_iff.mp h
  obtain ⟨h3, h⟩ := Bool.and_eq_true_iff.mp h
  obtain ⟨h4, h⟩ := Bool.and_eq_true_iff.mp h
  obtain ⟨h5, h⟩ := Bool.and_eq_true_iff.mp h
  obtain ⟨h6, h7⟩ := Bool.and_eq_true_iff.mp h
  rw [hf] at e
  split at h0
  · rename_i oc od g osl lk
    obtain ⟨j1, j⟩ := Bool.and_eq_true_iff.mp h0
    obtain ⟨j2, j⟩ := Bool.and_eq_true_iff.mp j
    obtain ⟨j3, j⟩ := Bool.and_eq_true_iff.mp j
    obtain ⟨j4, j5⟩ := Bool.and_eq_true_iff.mp j
    obtain ⟨a, ha, jf⟩ := fileB_ok j2
    obtain ⟨c, hc, jc⟩ := cloB_ok j3
    have j4 := He.dflB_ok j4
    have j5 := He.kwdB_ok j5
    unfold fnC at e
    rw [lk] at e
    obtain ⟨g1, g2, g3, g4, g5, g6, g7, g8, g9, g10, g11, g12, g13, g14, g15⟩ := g
    obtain ⟨i1, i2, i3, i4, i5, i6, i7⟩ : g1 = d.name ∧ g2 = d.qual ∧ g3 = d.params ∧ g4 = .stmts d.body ∧ g5 = d.scope ∧ g6 = mainGlobals ∧ g15 = builtinsNs := by
      have e' : (some (g1, g2, g3, g4, g5, g6, [], g15) : He.FnW) = some (d.name, d.qual, d.params, .stmts d.body, d.scope, mainGlobals, [], builtinsNs) := e
      simpa only [Option.some.injEq, Prod.mk.injEq, true_and] using e'
    have hc : g7 = [(("__class__" : Str), c)] := hc
    have ha : g13 = .ref a := ha
    rw [hn] at i1
    subst i1 i2 i3 i4 i5 i6 i7 hc ha
    refine ⟨g8, g9, g10, g11, g12, c, a, g14, ⟨⟨oc, od, osl, _, _, _, _, _, _, rfl, lk⟩, rfl, jc, j1, jf, hd, Option.isSome_iff_exists.mp h2, of_decide_eq_true h6, of_decide_eq_true h1, of_decide_eq_true h7, h5, of_decide_eq_true h3, tp⟩, j4, j5, of_decide_eq_true h4⟩
  · cases h0
section
variable {K : PySem.W.Frag} {x qual : Str} {params : Arguments} {body : List Stmt} {scope : Scope} {dvs : List V} {kws : List (Str × V)} {ps : List Str} {dV kV doc pm cdv ct : Value} {an : Option Addr} {cc : Addr}
theorem kbindsK (hD : DflV K dV dvs) (hK : KwdV K kV kws) (n : Nat) (ks : List Str) (ms : List (Str × V)) (g : {α : Type} → List α → List α → List α → List α → List α) (hd : dvs ≠ []) (hk : kws ≠ []) (hms : ∀ q ∈ ms, q ∈ kws)
    (hrel : ∀ {vs ds mz zs : List V} {us its mv ws : List Value}, Vals vs us → Vals ds its → Vals mz mv → Vals zs ws → Vals (g vs ds mz zs) (g us its mv ws))
    (h : ∀ (T D : Addr) (us its mv ws : List Value), us.length = n → its.length = dvs.length → mv.length = ms.length → ws.length = ks.length →
      ∃ k, bindArgs (PySem.W.ksFn x qual params body scope (.ref T) (.ref D) doc pm an cdv ct cc) ⟨us, ks.zip ws⟩ = seqItems? (.ref T) >>= k ∧ KwChain D ((ms.map (·.1)).zip mv) (k (some its.toArray)) (ps.zip (g us its mv ws))) :
    ∃ g', KBn K (PySem.W.ksFn x qual params body scope dV kV doc pm an cdv ct cc) ps n ks g' (fun vs zs => g vs dvs (ms.map (·.2)) zs) := by
  rcases hD with ⟨e, _⟩ | ⟨_, T, o, its, m, rfl, lT, oT, rT⟩
  · exact absurd e hd
  · rcases hK with e | ⟨D, rfl, hq⟩
    · exact absurd e hk
    · obtain ⟨mv, hl, rk, hks⟩ := kwd_vals (ms := ms) fun q hm => hq q (hms q hm)
      refine ⟨fun us ws => g us its mv ws, ⟨fun s us ws X l1 l2 => ?_, fun r1 r2 => hrel r1 rT rk r2⟩⟩
      obtain ⟨k, e1, e2⟩ := h T D us its mv ws l1 rT.length.symm hl l2
      refine BindsTo.of_looks fun M => ?_
      rw [e1]
      exact looks_items X lT oT (KwChain.looks X hks e2)
end
end Ys
/-! own items, own setters, == of kept dicts -/
namespace Ys
open PySem PySem.Spec PyProof.Rows L2
section
variable {X : Cx} {CX : CXT} {n : Nat} {C f : Addr} {fd : FuncData} {ps : List Str} {sp : Sp} {E : XK} {a b : Expr} {ta tb tv : TE} {pos pos' : Pos} {o value : Expr}
/-! ### x[y], by the class's own -/
def rItI (C : Addr) (sp : Sp) (E : XK) : R2 := fun x y H Q => ∃ a dx fs, x = .ref a ∧ H a = some (.ins C dx fs) ∧ sp [x, y] H Q E
theorem pe_itI (F : FnOk X.prog X.w X.K X.mg X.base CX n f fd ps sp) (ha : PE X a ta) (hb : PE X b tb) (hs : PySem.W.findIn X.K (.ref C) "__getitem__" = some (some (.ref f))) (hf : PySem.W.fnIn X.K f = true) (hfn : PySem.W.isFn X.K (.ref f) = true) (hbd : Binds X.K fd ps []) (hx : Passes CX X E) (hr : Room (n + 1) X.A)
    (hsl : ∀ c i, subscripted b true (.ref c) i = runValue (.builtin "lifetime.subscript" ⟨[.ref c, i], []⟩) := by intro c i; with_unfolding_all rfl) : PE X (.Subscript a b pos) (tOp (rItI C sp E) ta tb) := by
  refine ⟨fun pins s σ H Q I h => ?_⟩
  refine Subscript_ (binT ha hb I h fun v u s2 x y H2 I2 rx ry q => ?_)
  obtain ⟨c, dx, fs, rfl, ea, q⟩ := q
  cases rx
  obtain ⟨mA, J, _⟩ := ins_get I2.hok ea
  obtain ⟨od, J, _⟩ := J.look
  obtain ⟨m, hF⟩ := I2.fr
  refine PySem.W.sub_K hF I2.ok.mod.kin J hs hf hfn ?_ (hsl _ _)
  have hl := F.len _ _ _ _ q
  refine wpAny_call (codeAny_mono (F.run X.A.in1 X.stack s2 H2 ⟨[.ref c, u], []⟩ [.ref c, u] [.ref c, y] _ E hr.in1 I2.env0.in1 (by
    have := hbd s2 [.ref c, u] I2.kIn (by simpa using hl)
    simpa using this) (.cons rfl (.cons ry .nil)) q) fun r s' hq => ?_)
  cases r with
  | error e => exact hx pins σ H2 s2 e s' I2 hq
  | ok fl =>
    cases fl with
    | ret w => exact I2.after hq
    | next => exact False.elim hq
    | brk => exact False.elim hq
    | cont => exact False.elim hq
/-! ### x.f = y, f a property with a setter -/
structure PropSet (K : PySem.W.Frag) (C : Addr) (nm : Str) (g : Addr) : Prop where
  ex : ∃ p a rest, PySem.W.takerIn K C nm = some (some (.ref p)) ∧ PySem.W.typeIn K (.ref p) = some (.type "property") ∧ PySem.W.recIn K p "property" = some (a :: .ref g :: rest)
def sPset (C : Addr) (sp : Sp) (E : XK) (ta tv : TE) : TS := fun D σ H => tv σ H fun y H1 => ta σ H1 fun x H2 => ∃ c dx fs, x = .ref c ∧ H2 c = some (.ins C dx fs) ∧ sp [x, y] H2 (fun _ H3 => D.nx σ H3) E
theorem ps_pset {nm : Str} (F : FnOk X.prog X.w X.K X.mg X.base CX n f fd ps sp) (ha : PE X o ta) (hv : PE X value tv) (c : Cls X.K C) (hp : PropSet X.K C nm f) (hbd : Binds X.K fd ps []) (hx : Passes CX X E) (hr : Room (n + 2) X.A)
    (hs : swapsWith value (some (.Attribute o nm pos')) pos.line X.env = pure false) : PS X (.Assign [.Attribute o nm pos'] value pos) (sPset C sp E ta tv) := by
  refine ⟨fun pins s σ H D I h => ?_⟩
  refine plainObj_wpAny_Assign_Attribute (thn (hv.run pins s σ H _ I h) fun u s1 ⟨y, H1, I1, ry, q⟩ => thn (ha.run pins s1 σ H1 _ I1 q) fun ov s2 ⟨x, H2, I2, rx, k, dx, fs, ex, ea, q2⟩ => ?_) hs
  subst ex
  obtain rfl : ov = Value.ref k := rx
  obtain ⟨mA, J, _⟩ := ins_get I2.hok ea
  obtain ⟨od, J, _⟩ := J.look
  obtain ⟨m, hF⟩ := I2.fr
  obtain ⟨p, a0, rest, h1, h2, h3⟩ := hp.ex
  have I3 := I2.tok (s2.toks + 1)
  refine PySem.W.set_prop hF I2.ok.mod.kin J c.sa c.po h1 h2 h3 ?_
  have hl := F.len _ _ _ _ q2
  refine codeAny_mono (F.run X.A.in1.in1 X.stack _ H2 ⟨[.ref k, u], []⟩ [.ref k, u] [.ref k, y] _ E hr.in1.in1 I3.env0.in1.in1 (by
    have := hbd _ [.ref k, u] I3.kIn (by simpa using hl)
    simpa using this) (.cons rfl (.cons ry .nil)) q2) fun r s' hq => ?_
  cases r with
  | error e => exact hx pins σ H2 _ e s' I3 hq
  | ok fl =>
    cases fl with
    | ret w =>
      obtain ⟨v, H4, I4, _, q4⟩ := I3.after hq
      exact ⟨σ, H4, I4, q4⟩
    | next => exact False.elim hq
    | brk => exact False.elim hq
    | cont => exact False.elim hq
end
end Ys
namespace PySem.W
open Lean Elab Tactic Meta PySem PySem.Calls PyProof.Rows PyProof.V PySem.Spec
section
variable {prog : Program} {w : World} {K : Type} [DecidableEq K] {knd : KeyKind prog w K} {A : Around} {E : Value → Shared → Prop} {s : Shared}
theorem samePairsG {nm : String} {a b : Addr} {ka kb : List (K × Value)} {Q : Bool → Shared → Prop} (I : Shared → Prop) (ha : (a == sysModules) = false) (hb : (b == sysModules) = false)
    (da : s.heap.DictOf knd a ka) (db : s.heap.DictOf knd b kb) (same : ∀ s', I s' → s'.heap.get? a = s.heap.get? a ∧ s'.heap.get? b = s.heap.get? b) (hl : ka.length = kb.length)
    (turn : ∀ (i : Nat) (k : K) (v : Value) s', ka[i]? = some (k, v) → I s' → ∃ y, valueAt kb k = some y ∧ wpAny (model prog w) A (eqBool v y) (fun r s2 => r = true ∧ I s2) E s') (h0 : I s) (h : ∀ s', I s' → Q true s') :
    wpAny (model prog w) A (Builtin.Dict.samePairs nm a b) Q E s := by
  obtain ⟨oa, es, ep, hoa, _, hda, hka, hpa, _⟩ := da
  obtain ⟨ob, es', ep', hob, _, hdb, hkb, hpb, _⟩ := db
  have hla : ka.length = es.size := by rw [← hpa.length]; exact Array.length_toList
  have hlb : kb.length = es'.size := by rw [← hpb.length]; exact Array.length_toList
  have hfind : ∀ k, findBy knd.is es' k = valueAt kb k := fun k => by
    rw [← hpb.find k]
    clear hlb hpb hkb hdb hob same
    obtain ⟨l⟩ := es'
    simp [findBy]
  have hsz : es.size = es'.size := by omega
  unfold Builtin.Dict.samePairs Builtin.Dict.showsAll
  rw [if_neg (show ¬ (a == sysModules) = true by rw [ha]; exact Bool.false_ne_true), if_neg (show ¬ (b == sysModules) = true by rw [hb]; exact Bool.false_ne_true)]
  refine wpAny_bind (wpAny_pure (wpAny_bind (wpAny_pure ?_)))
  refine wpAny_bind (wpAny_dictEntries hoa hda ?_)
  dsimp only
  refine wpAny_bind (wpAny_dictEntries hob hdb ?_)
  rw [if_neg (by rw [hsz]; simp)]
  refine wpAny_bind (wpAny_dictEpoch hoa hda ?_)
  refine wpAny_bind ?_
  rw [Std.Legacy.Range.forIn_eq_forIn_range']
  simp only [Std.Legacy.Range.size, Nat.sub_zero, Nat.add_sub_cancel, Nat.div_one]
  refine wpAny_forIn_list _
    (fun rest q s' => I s' ∧ q = (none, ()) ∧ ∃ i, rest = List.range' i (es.size - i) ∧ i ≤ es.size)
    _ ?_ ?_ _ _ ⟨h0, rfl, 0, by simp, Nat.zero_le _⟩
  · rintro x rest q s' ⟨hI, rfl, i, hr, hi⟩
    obtain ⟨sa, sb⟩ := same s' hI
    have hoa' := sa.trans hoa
    have hob' := sb.trans hob
    have hlt : i < es.size := by
      rcases Nat.lt_or_ge i es.size with h | h
      · exact h
      · rw [Nat.sub_eq_zero_of_le h] at hr; simp at hr
    obtain ⟨rfl, hrest⟩ : x = i ∧ rest = List.range' (i + 1) (es.size - (i + 1)) := by
      have e : es.size - i = (es.size - (i + 1)) + 1 := by omega
      rw [e, List.range'_succ] at hr
      injection hr with h1 h2
      exact ⟨h1, h2⟩
    refine wpAny_bind (wpAny_dictEntries hoa' hda ?_)
    rw [Array.getElem?_eq_getElem hlt]
    have hlt' : x < ka.length := by rw [hla]; exact hlt
    obtain ⟨k, v, hkv⟩ : ∃ k v, ka[x] = (k, v) := ⟨_, _, rfl⟩
    have hkx : ka[x]? = some (k, v) := by rw [List.getElem?_eq_getElem hlt', hkv]
    obtain ⟨hkey, hval⟩ := hpa.get? (i := x) (e := es[x]) (k := k) (v := v) (by rw [Array.getElem?_toList]; exact Array.getElem?_eq_getElem hlt) hkx
    obtain ⟨k', hk', hh⟩ := hka es[x] (Array.getElem_mem hlt)
    have ekk : k' = k := knd.inj _ _ _ hk' hkey
    rw [ekk] at hh
    obtain ⟨y, hy, he⟩ := turn x k v s' hkx hI
    show wpAny _ _ (holding [es[x].key, es[x].val] _ >>= _) _ _ _
    rw [hh]
    refine wpAny_bind (wpAny_holding (wpAny_bind (wpAny_dictFind_of hkey hob' hdb hkb ?_)))
    cases hj : es'.findIdx? fun e => knd.is k e.key with
    | none =>
      have hn : valueAt kb k = none := by rw [← hfind k, findBy_of_findIdx?, hj]
      rw [hn] at hy; exact nomatch hy
    | some j =>
      obtain ⟨hjlt, _, _⟩ := Array.findIdx?_eq_some_iff_getElem.mp hj
      have hv' : valueAt kb k = some es'[j].val := by
        rw [← hfind k, findBy_of_findIdx?, hj]
        simp [Array.getElem?_eq_getElem hjlt]
      refine wpAny_bind (wpAny_dictEntries hob' hdb ?_)
      rw [Array.getElem?_eq_getElem hjlt]
      have ey : es'[j].val = y := Option.some.inj (hv'.symm.trans hy)
      rw [← ey, ← hval] at he
      refine wpAny_holding (wpAny_mono he (fun r s2 z => ?_) fun _ _ z => z)
      obtain ⟨rfl, hI2⟩ := z
      show wpAny _ _ (if (!true) = true then _ else _) _ _ _
      rw [if_neg (by decide)]
      refine wpAny_bind (wpAny_dictEpoch ((same s2 hI2).1.trans hoa) hda ?_)
      rw [if_neg (by simp)]
      exact wpAny_pure ⟨hI2, rfl, x + 1, hrest, hlt⟩
  · rintro q s' ⟨hI, rfl, i, hr, hi⟩
    exact wpAny_pure (h s' hI)
theorem rcG_dicts {a b : Addr} {ka kb : List (K × Value)} {Q : Value → Shared → Prop} (I : Shared → Prop) (ha : (a == sysModules) = false) (hb : (b == sysModules) = false)
    (da : s.heap.DictOf knd a ka) (db : s.heap.DictOf knd b kb) (same : ∀ s', I s' → s'.heap.get? a = s.heap.get? a ∧ s'.heap.get? b = s.heap.get? b) (hl : ka.length = kb.length) (hu : A.units < cLine)
    (turn : ∀ (i : Nat) (k : K) (v : Value) s', ka[i]? = some (k, v) → I s' → ∃ y, valueAt kb k = some y ∧ wpAny (model prog w) A.in1 (eqBool v y) (fun r s2 => r = true ∧ I s2) E s') (h0 : I s) (h : ∀ s', I s' → Q (.bool true) s') : wpAny (model prog w) A (richCompare .Eq (.ref a) (.ref b)) Q E s := by
  refine wpAny_richCompare_same_room (op := .Eq) da.typeIs db.typeIs PySem.F.slot_dict_eq (GQ.call_here PySem.F.slot_dict_eq da.typeIs PySem.F.entry_dict_eq (PySem.F.args_dict_eq_2 _ _) ?_) hu
  show wpAny _ _ (Builtin.Dict.dictSlotArgs "__eq__" ⟨[.ref a, .ref b], []⟩ >>= _) _ _ s
  refine wpAny_bind ?_
  unfold Builtin.Dict.dictSlotArgs
  refine wpAny_bind (wpAny_notOrdered_dict da.typeIs ?_)
  show wpAny _ _ (pure (Value.ref a, Value.ref b)) _ _ s
  refine wpAny_pure ?_
  refine wpAny_bind (wpAny_isInstance (T := "dict") db.typeIs PySem.F.sub_dict_dict ?_)
  simp only [Bool.not_true, Bool.false_eq_true, if_false]
  refine wpAny_bind (wpAny_pure (wpAny_bind (wpAny_pure ?_)))
  refine wpAny_bind (samePairsG I ha hb da db same hl (fun i k v s' e hI => ?_) h0 fun s' hI => ?_)
  · obtain ⟨y, hy, he⟩ := turn i k v s' e hI
    refine ⟨y, hy, wpAny_mono he (fun _ _ z => z) fun _ _ z => ?_⟩
    exact z
  · refine wpAny_pure ⟨?_, ?_⟩
    · exact fun x => nomatch x
    · simpa using h s' hI
end
end PySem.W
namespace Ys
open PySem PySem.Spec PyProof.Rows L2
/-! ### == of kept dicts whose values have an == of their own -/
section
variable {X : Cx} {n m : Nat} {D D' : Eqv} {K : PySem.W.Frag}
def DSame : Eqv := fun x y _ => ∃ a, x = .ref a ∧ y = .ref a
theorem mon_same : Mon DSame := fun _ _ _ _ _ d => d
theorem eqG_same : EqG X 0 DSame := by
  intro A pins s σ H x y u v sb I rx ry d
  obtain ⟨a, rfl, rfl⟩ := d
  cases rx
  cases ry
  exact SeqAt.EqAt.same (A := A) (s := s) (.ref a) X.prog X.w X.xe _ ⟨rfl, H, I, Ext.rfl'⟩
def DData (K : PySem.W.Frag) : Eqv := fun x y H => ∃ d, Dp K H x d ∧ Dp K H y d ∧ SeqAt.shaped d = true ∧ PyData.eqv d d = true
mutual
theorem dp_ext {H H' : Hp} (e : Ext H H') : ∀ (d : PyData) (v : V), Dp K H v d → Dp K H' v d
  | .none, _, h => by cases h; exact .non
  | .bool b, _, h => by cases h; exact .bl b
  | .int i, _, h => by cases h; exact .int i
  | .str x, _, h => by cases h; exact .str x
  | .list ds, _, h => by
    cases h with
    | lst hs ha => exact .lst (hs.ext e) (dpAll_ext e ds _ ha)
  | .tuple ds, _, h => by
    cases h with
    | tup hs ha => exact .tup (hs.ext e) (dpAll_ext e ds _ ha)
  | .dict _, _, h => by cases h
theorem dpAll_ext {H H' : Hp} (e : Ext H H') : ∀ (ds : List PyData) (vs : List V), DpAll K H vs ds → DpAll K H' vs ds
  | [], _, h => by cases h; exact .nil
  | d :: ds, _, h => by
    cases h with
    | cons h1 h2 => exact .cons (dp_ext e d _ h1) (dpAll_ext e ds _ h2)
end
theorem mon_data : Mon (DData K) := fun x y H H' e ⟨d, h1, h2, h3⟩ => ⟨d, dp_ext e d x h1, dp_ext e d y h2, h3⟩
theorem eqG_data : EqG X 0 (DData X.K) := by
  intro A pins s σ H x y u v sb I rx ry ⟨d, h1, h2, h3, h4⟩
  obtain ⟨as, r1⟩ := Dp.reads I d x u h1 rx
  obtain ⟨bs, r2⟩ := Dp.reads I d y v h2 ry
  have hu := sb.room.un
  have := SeqAt.eqAt_reads d d A s u v as bs r1 r2 (SeqAt.canLay_of_shaped h3) (SeqAt.canLay_of_shaped h3) (SeqAt.room_of_shaped h3 (by omega))
  rw [h4] at this
  exact this X.prog X.w X.xe _ ⟨rfl, H, I, Ext.rfl'⟩
def DDict (D : Eqv) : Eqv := fun x y H => ∃ a b oa ob ks ls, x = .ref a ∧ y = .ref b ∧ H a = some (.frz oa (.dK ks)) ∧ H b = some (.frz ob (.dK ls)) ∧ ks.length = ls.length ∧ ∀ (i : Nat) (p : Key × V), ks[i]? = some p → ∃ u, valV ls p.1 = some u ∧ D p.2 u H
theorem mon_dict (hD : Mon D) : Mon (DDict D) := fun x y H H' e d => by
  obtain ⟨a, b, oa, ob, ks, ls, hx, hy, h1, h2, hl, p⟩ := d
  exact ⟨a, b, oa, ob, ks, ls, hx, hy, e _ _ h1, e _ _ h2, hl, fun i q hq => let ⟨u, e1, e2⟩ := p i q hq; ⟨u, e1, hD _ _ _ _ e e2⟩⟩
theorem rcG_dict (hD : Mon D) (h : EqG X n D) : RcG X (n + 1) (DDict D) := by
  intro A pins s σ H x y u v sb I rx ry d
  obtain ⟨a, b, oa, ob, ks, ls, rfl, rfl, ha, hb, hl, hp⟩ := d
  cases rx
  cases ry
  obtain ⟨ga, _, ya, va, ra, da⟩ := (show ObjOk X.prog X.w H s.heap a (.frz oa (.dK ks)) from I.hok a _ ha)
  obtain ⟨gb, _, yb, vb, rb, db⟩ := (show ObjOk X.prog X.w H s.heap b (.frz ob (.dK ls)) from I.hok b _ hb)
  refine PySem.W.rcG_dicts (knd := mixKind X.prog X.w) (fun s' => LoopI X pins σ H s') ya yb da db (fun s' q => ?_) (by rw [← ra.length, ← rb.length]; exact hl) sb.room.units0 (fun i k w s' e q => ?_) ⟨H, I, Ext.rfl'⟩ fun s' q => ⟨rfl, q⟩
  · obtain ⟨H1, I1, e1⟩ := q
    obtain ⟨g1, _⟩ := (show ObjOk X.prog X.w H1 s'.heap a (.frz oa (.dK ks)) from I1.hok a _ (e1 _ _ ha))
    obtain ⟨g2, _⟩ := (show ObjOk X.prog X.w H1 s'.heap b (.frz ob (.dK ls)) from I1.hok b _ (e1 _ _ hb))
    exact ⟨g1.trans ga.symm, g2.trans gb.symm⟩
  · obtain ⟨H1, I1, e1⟩ := q
    have hi : i < ks.length := by
      have := (List.getElem?_eq_some_iff.mp e).1
      rw [ra.length]; exact this
    obtain ⟨p, hpk⟩ : ∃ p, ks[i]? = some p := ⟨_, List.getElem?_eq_getElem hi⟩
    obtain ⟨w', hw, rw'⟩ := paired_get ra hpk
    rw [e] at hw
    obtain rfl : (k, w) = w' := Option.some.inj hw
    obtain ⟨rk, rv⟩ := rw'
    have rk : p.1 = k := rk
    obtain ⟨z, hz, hd⟩ := hp i p hpk
    have rr : RelO (some z) (valueAt vb p.1) := by rw [← hz]; exact rb.val p.1
    obtain ⟨y, hy, ry⟩ := rr.some_of
    refine ⟨y, by rw [← rk]; exact hy, ?_⟩
    refine wpAny_mono (h A.in1 pins s' σ H1 _ _ w y sb.in1 I1 rv ry (hD _ _ _ _ e1 hd)) (fun r s2 q => ?_) fun _ _ z => z
    obtain ⟨hr, H2, I2, e2⟩ := q
    exact ⟨hr, H2, I2, e1.trans e2⟩
theorem eqG_dict (hD : Mon D) (h : EqG X n D) : EqG X (n + 1) (DDict D) := (rcG_dict hD h).eqG fun _ _ _ d => let ⟨a, b, _, _, _, _, hx, hy, _⟩ := d; ⟨a, b, hx, hy⟩
theorem Zp.ext {G H H' : Hp} {M : List (Addr × HO)} (z : Zp G M H) (e : Ext H H') : Zp G M H' := ⟨fun a o h => e _ _ (z.sub a o h), fun i p o h => ⟨e _ _ (z.own i p o h).1, (z.own i p o h).2⟩, z.nd⟩
end
end Ys
/-! facts of the written part: setters, own items -/
namespace Ys
open PySem PySem.Spec PyProof.Rows L2
theorem fPset_ok {x m : Str} {K : PySem.W.Frag} (h : fPset x m K = true) : PropSet K (He.ga K x) m (sA x m K) := by
  obtain ⟨h1, h⟩ := Bool.and_eq_true_iff.mp h
  obtain ⟨h2, h4⟩ := Bool.and_eq_true_iff.mp h
  refine ⟨cA x m K, ?_⟩
  cases q : PySem.W.recIn K (cA x m K) "property" with
  | none => rw [q] at h4; cases h4
  | some l =>
    rw [q] at h4
    cases l with
    | nil => cases h4
    | cons v r =>
      cases r with
      | nil => cases h4
      | cons u r =>
        cases u with
        | ref g => exact ⟨v, r, of_decide_eq_true h1, of_decide_eq_true h2, by rw [of_decide_eq_true h4]⟩
        | _ => cases h4
end Ys
namespace Ys
open PySem PySem.Spec PyProof.Rows L2
/-! ### the Hook, with tables -/
theorem obCT_eq {n : Nat} {fb : List (PySem.W.Frag → Bool)} {fn fc : List DefY} {ts : List He.Tab} (s : PySem.W.SharedT) : obCT n fb fn fc ts s = (hookCT n fb fn fc ts).obs s.abs := by
  have e : HandSHeadRun.getT s = s.abs.heap.get? := funext (HandSHeadRun.getT_eq s)
  unfold obCT
  rw [e]
  rfl
section
variable {fb : List (PySem.W.Frag → Bool)} {fn fc : List DefY} {ts : List He.Tab} {w : World} {K : PySem.W.Frag}
theorem SaysCT.c (c : SaysCT fb fn fc ts w K) : SaysC fb fn fc K := congrArg (fun z : AlCT => z.1) c
theorem SaysCT.tab (c : SaysCT fb fn fc ts w K) (i : Nat) {t : He.Tab} (h : ts[i]? = some t := by rfl) : He.dicW K (t.1 K) = some (He.keysIn w.params t.2) := by
  have e : ts.map (fun t => He.dicW K (t.1 K)) = ts.map fun t => some (He.keysIn w.params t.2) := congrArg (fun z : AlCT => z.2) c
  have e2 : (ts.map fun t => He.dicW K (t.1 K))[i]? = (ts.map fun t => some (He.keysIn w.params t.2))[i]? := by rw [e]
  rw [List.getElem?_map, List.getElem?_map, h] at e2
  exact Option.some.inj e2
end
theorem lookup_mem {z : Str} {v : V} : ∀ {kvs : List (Str × V)}, kvs.lookup z = some v → (z, v) ∈ kvs
  | (k, x) :: r, h => by
    rw [List.lookup_cons] at h
    split at h
    · rename_i e
      have e := eq_of_beq e
      subst e
      rw [Option.some.inj h]
      exact List.mem_cons_self ..
    · exact List.mem_cons_of_mem _ (lookup_mem h)
theorem lookup_no {z : Str} : ∀ {kvs : List (Str × V)}, kvs.lookup z = none → z ∉ kvs.map (·.1)
  | [], _ => by simp
  | (k, x) :: r, h => by
    rw [List.lookup_cons] at h
    split at h
    · cases h
    · rename_i e
      have := lookup_no h
      simp only [List.map_cons, List.mem_cons, not_or]
      refine ⟨fun e2 => ?_, this⟩
      rw [e2, beq_self_eq_true] at e
      cases e
theorem keysLit_mem {P : Params} : ∀ {l : List DictEntry} {ks : List Str}, l.map He.keyOf = He.keysIn P ks → ∀ e ∈ l, ∃ x t, e.key = .str x t ∧ x ∈ ks
  | [], _, _, _, h => by cases h
  | e :: r, [], h, _, _ => by cases h
  | e :: r, k :: ks, h, e', he => by
    have h1 : He.keyOf e :: r.map He.keyOf = some (k, PyData.keyHash P k) :: He.keysIn P ks := h
    injection h1 with h2 h3
    rcases List.mem_cons.mp he with rfl | he
    · unfold He.keyOf at h2
      split at h2
      · rename_i x t q
        have h4 := Option.some.inj h2
        obtain ⟨h5, h6⟩ := Prod.mk.inj h4
        exact ⟨x, t, q, by rw [h5]; exact List.mem_cons_self ..⟩
      · cases h2
    · obtain ⟨x, t, q, m⟩ := keysLit_mem h3 e' he
      exact ⟨x, t, q, List.mem_cons_of_mem _ m⟩
theorem dicW_at {K : PySem.W.Frag} {w : World} {a : Addr} {ks : List Str} (h : He.dicW K a = some (He.keysIn w.params ks)) : ∃ es n, KDict K w a es n ∧ es.toList.map He.keyOf = He.keysIn w.params ks := by
  obtain ⟨es, n, D⟩ := He.dicW_ok h
  refine ⟨es, n, D, ?_⟩
  unfold He.dicW at h
  rw [D.at_] at h
  dsimp only at h
  split at h
  · exact Option.some.inj h
  · cases h
theorem tabD_of {K : PySem.W.Frag} {w : World} {a : PySem.W.Frag → Addr} {kvs : List (Str × V)} (h : He.dicW K (a K) = some (He.keysIn w.params (kvs.map (·.1)))) (hv : valsV kvs a K = true) : TabD K w (a K) kvs := by
  obtain ⟨es, n, D, hk⟩ := dicW_at h
  refine ⟨⟨es, n, D⟩, fun z v l => ?_, fun z l => ?_⟩
  · have h2 := List.all_eq_true.mp hv _ (lookup_mem l)
    cases e : PySem.W.nsIn K (a K) z with
    | none =>
      simp only [e] at h2
      cases h2
    | some r =>
      simp only [e] at h2
      cases r with
      | none => cases h2
      | some u => exact ⟨u, rfl, He.relB_ok h2⟩
  · have hn := lookup_no l
    unfold PySem.W.nsIn
    rw [D.at_]
    have f0 : es.toList.find? (·.key.isStr z) = none := by
      refine List.find?_eq_none.mpr fun e he c => ?_
      obtain ⟨x, t, q, m⟩ := keysLit_mem hk e he
      rw [q] at c
      have e2 : x = z := eq_of_beq (show (x == z) = true from c)
      exact hn (e2 ▸ m)
    have f1 : es.toList.any (·.refKey) = false := by
      refine Bool.eq_false_iff.mpr fun c => ?_
      obtain ⟨e, he, c⟩ := List.any_eq_true.mp c
      obtain ⟨x, t, q, m⟩ := keysLit_mem hk e he
      unfold DictEntry.refKey at c
      rw [q] at c
      cases c
    simp only [f0, f1]
    rfl
end Ys
namespace Ys
open PySem PySem.Spec PyProof.Rows L2
/-! ### the Hook, with tables of code objects -/
theorem obL_eq {n : Nat} {fb : List (PySem.W.Frag → Bool)} {fn fc : List DefY} {ts : List He.Tab} {tf : List (PySem.W.Frag → Addr)} (s : PySem.W.SharedT) : obL n fb fn fc ts tf s = (hookL n fb fn fc ts tf).obs s.abs := by
  have e : HandSHeadRun.getT s = s.abs.heap.get? := funext (HandSHeadRun.getT_eq s)
  unfold obL
  rw [e]
  rfl
theorem cdOf_eq {K : PySem.W.Frag} {x qual : Str} {params : Arguments} {body : List Stmt} {scope : Scope} {dvs : List V} {kws : List (Str × V)} {f : Addr} {fd : FuncData} (F : FunD K x qual params body scope dvs kws f fd) : fd.code = .ref (cdOf K f) := by
  obtain ⟨oc, od, dV, kV, doc, pm, an, cdv, ct, osl, rfl, lk, hcd, _, _⟩ := F.ex
  obtain ⟨c, rfl⟩ := He.codeIn_ref hcd
  unfold cdOf
  rw [lk]
end Ys
/-! the Hook with tables of code objects, over all objects up to an address -/
namespace Ys
open PySem PySem.Spec PyProof.Rows L2
theorem obRL_eq {n : Nat} {fb : List (PySem.W.Frag → Bool)} {fn fc : List DefY} {ts : List He.Tab} {tf : List (PySem.W.Frag → Addr)} (s : PySem.W.SharedT) : obRL n fb fn fc ts tf s = (hookRL n fb fn fc ts tf).obs s.abs := by
  have e : HandSHeadRun.getT s = s.abs.heap.get? := funext (HandSHeadRun.getT_eq s)
  unfold obRL
  rw [e]
  rfl
end Ys
namespace LW
open PySem PySem.Spec PyProof.Rows L2 Ys
/-! ### names -/
structure Nm (K : PySem.W.Frag) (mg : Str → Option Value) : Prop where
  sys : SysIn K
  b_len : mg "len" = none
  b_int : mg "int" = none
  b_list : mg "list" = none
  b_tuple : mg "tuple" = none
  b_set : mg "set" = none
  b_dict : mg "dict" = none
  b_str : mg "str" = none
  b_bool : mg "bool" = none
  b_sorted : mg "sorted" = none
  b_min : mg "min" = none
  b_max : mg "max" = none
  b_sum : mg "sum" = none
  b_all : mg "all" = none
  b_any : mg "any" = none
  b_repr : mg "repr" = none
  b_range : mg "range" = none
  b_isinstance : mg "isinstance" = none
  g_LETTERS : GC mg "LETTERS" (.str "abcdefghijklmnopqrstuvwxyz")
  g_LONGEST_WORD : GC mg "LONGEST_WORD" (.int 8)
  g_MANY : GC mg "MANY" (.int 3)
abbrev FnP (K : PySem.W.Frag) (x : Str) (st : Stmt) (f : Addr) (fd : FuncData) : Prop := FunD K x x (defArgs st) (defBody st) (defScope st) [] [] f fd
/-! ### the defs -/
abbrev N_is_word : List Str := ["value", "letter"]
theorem sc_is_word : FnScope N_is_word ["value"] (defScope s_is_word) := ⟨rfl, rfl, rfl, by decide +kernel, rfl, by decide +kernel, by decide +kernel⟩
abbrev N_is_integer : List Str := ["value"]
theorem sc_is_integer : FnScope N_is_integer ["value"] (defScope s_is_integer) := ⟨rfl, rfl, rfl, by decide +kernel, rfl, by decide +kernel, by decide +kernel⟩
abbrev N_is_within : List Str := ["value", "least", "most"]
theorem sc_is_within : FnScope N_is_within ["value", "least", "most"] (defScope s_is_within) := ⟨rfl, rfl, rfl, by decide +kernel, rfl, by decide +kernel, by decide +kernel⟩
abbrev N_is_list : List Str := ["value"]
theorem sc_is_list : FnScope N_is_list ["value"] (defScope s_is_list) := ⟨rfl, rfl, rfl, by decide +kernel, rfl, by decide +kernel, by decide +kernel⟩
abbrev N_are_words : List Str := ["value", "most", "word"]
theorem sc_are_words : FnScope N_are_words ["value", "most"] (defScope s_are_words) := ⟨rfl, rfl, rfl, by decide +kernel, rfl, by decide +kernel, by decide +kernel⟩
abbrev N_are_different_words : List Str := ["value", "most"]
theorem sc_are_different_words : FnScope N_are_different_words ["value", "most"] (defScope s_are_different_words) := ⟨rfl, rfl, rfl, by decide +kernel, rfl, by decide +kernel, by decide +kernel⟩
abbrev N_ascending : List Str := ["words"]
theorem sc_ascending : FnScope N_ascending ["words"] (defScope s_ascending) := ⟨rfl, rfl, rfl, by decide +kernel, rfl, by decide +kernel, by decide +kernel⟩
abbrev N_Task_init : List Str := ["self", "role", "many", "other", "same", "takes", "forgets", "field", "names"]
theorem sc_Task_init : FnScope N_Task_init ["self", "role", "many", "other", "same", "takes", "forgets"] (defScope s_Task_init) := ⟨rfl, rfl, rfl, by decide +kernel, rfl, by decide +kernel, by decide +kernel⟩
abbrev N_Task_role : List Str := ["self"]
theorem sc_Task_role : FnScope N_Task_role ["self"] (defScope s_Task_role) := ⟨rfl, rfl, rfl, by decide +kernel, rfl, by decide +kernel, by decide +kernel⟩
abbrev N_Task_many : List Str := ["self"]
theorem sc_Task_many : FnScope N_Task_many ["self"] (defScope s_Task_many) := ⟨rfl, rfl, rfl, by decide +kernel, rfl, by decide +kernel, by decide +kernel⟩
abbrev N_Task_other : List Str := ["self"]
theorem sc_Task_other : FnScope N_Task_other ["self"] (defScope s_Task_other) := ⟨rfl, rfl, rfl, by decide +kernel, rfl, by decide +kernel, by decide +kernel⟩
abbrev N_Task_same : List Str := ["self"]
theorem sc_Task_same : FnScope N_Task_same ["self"] (defScope s_Task_same) := ⟨rfl, rfl, rfl, by decide +kernel, rfl, by decide +kernel, by decide +kernel⟩
abbrev N_Task_takes : List Str := ["self"]
theorem sc_Task_takes : FnScope N_Task_takes ["self"] (defScope s_Task_takes) := ⟨rfl, rfl, rfl, by decide +kernel, rfl, by decide +kernel, by decide +kernel⟩
abbrev N_Task_forgets : List Str := ["self"]
theorem sc_Task_forgets : FnScope N_Task_forgets ["self"] (defScope s_Task_forgets) := ⟨rfl, rfl, rfl, by decide +kernel, rfl, by decide +kernel, by decide +kernel⟩
abbrev N_Task_likeness : List Str := ["self", "lists"]
theorem sc_Task_likeness : FnScope N_Task_likeness ["self"] (defScope s_Task_likeness) := ⟨rfl, rfl, rfl, by decide +kernel, rfl, by decide +kernel, by decide +kernel⟩
abbrev N_Task_eq : List Str := ["self", "other"]
theorem sc_Task_eq : FnScope N_Task_eq ["self", "other"] (defScope s_Task_eq) := ⟨rfl, rfl, rfl, by decide +kernel, rfl, by decide +kernel, by decide +kernel⟩
abbrev N_law_pen : List Str := ["_law_script"]
theorem sc_law_pen : FnScope N_law_pen ["_law_script"] (defScope s_law_pen) := ⟨rfl, rfl, rfl, by decide +kernel, rfl, by decide +kernel, by decide +kernel⟩
abbrev N_law_draw : List Str := ["_law_pen_here", "_law_size", "_law_spot", "_law_cell", "_law_mixed", "_law_digit"]
theorem sc_law_draw : FnScope N_law_draw ["_law_pen_here", "_law_size"] (defScope s_law_draw) := ⟨rfl, rfl, rfl, by decide +kernel, rfl, by decide +kernel, by decide +kernel⟩
abbrev N_law_pick : List Str := ["_law_pen_here", "_law_items"]
theorem sc_law_pick : FnScope N_law_pick ["_law_pen_here", "_law_items"] (defScope s_law_pick) := ⟨rfl, rfl, rfl, by decide +kernel, rfl, by decide +kernel, by decide +kernel⟩
abbrev N_law_shuffled : List Str := ["_law_pen_here", "_law_items", "_law_left", "_law_found"]
theorem sc_law_shuffled : FnScope N_law_shuffled ["_law_pen_here", "_law_items"] (defScope s_law_shuffled) := ⟨rfl, rfl, rfl, by decide +kernel, rfl, by decide +kernel, by decide +kernel⟩
abbrev N_law_words : List Str := ["_law_pen_here", "_law_count", "_law_letters", "_law_stem", "_law_found", "_law_k", "_law_at", "_law_front", "_law_step", "_law_tail", "_law_word"]
theorem sc_law_words : FnScope N_law_words ["_law_pen_here", "_law_count"] (defScope s_law_words) := ⟨rfl, rfl, rfl, by decide +kernel, rfl, by decide +kernel, by decide +kernel⟩
abbrev N_law_any_value : List Str := ["_law_pen_here", "_law_some"]
theorem sc_law_any_value : FnScope N_law_any_value ["_law_pen_here"] (defScope s_law_any_value) := ⟨rfl, rfl, rfl, by decide +kernel, rfl, by decide +kernel, by decide +kernel⟩
abbrev N_law_is_word : List Str := ["_law_value", "_law_letters", "_law_sign"]
theorem sc_law_is_word : FnScope N_law_is_word ["_law_value"] (defScope s_law_is_word) := ⟨rfl, rfl, rfl, by decide +kernel, rfl, by decide +kernel, by decide +kernel⟩
abbrev N_law_shown : List Str := ["_law_one"]
theorem sc_law_shown : FnScope N_law_shown ["_law_one"] (defScope s_law_shown) := ⟨rfl, rfl, rfl, by decide +kernel, rfl, by decide +kernel, by decide +kernel⟩
abbrev N_law_told : List Str := ["_law_call", "e"]
theorem sc_law_told : FnScope N_law_told ["_law_call"] (defScope s_law_told) := ⟨rfl, rfl, rfl, by decide +kernel, rfl, by decide +kernel, by decide +kernel⟩
abbrev N_law_called : List Str := ["_law_sort", "_law_some", "_law_duty"]
theorem sc_law_called : FnScope N_law_called ["_law_sort", "_law_some", "_law_duty"] (defScope s_law_called) := ⟨rfl, rfl, rfl, by decide +kernel, rfl, by decide +kernel, by decide +kernel⟩
abbrev N_law_due : List Str := ["_law_sort", "_law_some", "_law_duty", "_law_odd", "_law_one"]
theorem sc_law_due : FnScope N_law_due ["_law_sort", "_law_some", "_law_duty"] (defScope s_law_due) := ⟨rfl, rfl, rfl, by decide +kernel, rfl, by decide +kernel, by decide +kernel⟩
abbrev N_law : List Str := ["_law_script", "_law_pen_here", "_law_lap", "_law_titles", "_law_some", "_law_duty", "_law_sort", "_law_size", "_law_one", "_law_due_here", "_law_twin"]
theorem sc_law : FnScope N_law ["_law_script"] (defScope s_law) := ⟨rfl, rfl, rfl, by decide +kernel, rfl, by decide +kernel, by decide +kernel⟩
/-! ### the pen -/
def penO (L : Addr) (spot rest : Int) : HO := .dK [(.inr ("cells" : Str), .ref L), (.inr ("spot" : Str), .int spot), (.inr ("rest" : Str), .int rest)]
def Pen (K : PySem.W.Frag) (G : Hp) (b : Nat) (o : HO) : Prop := ∃ (L : Addr) (spot rest : Int) (cells : List Int), o = penO L spot rest ∧ SqL K G L (cells.map V.int) ∧ cells.length ≤ 63 ∧ 0 ≤ spot ∧ spot ≤ b ∧ 0 ≤ rest
theorem Pen.up {K : PySem.W.Frag} {G G1 : Hp} {b : Nat} {o : HO} (s : Same G G1) (p : Pen K G b o) : Pen K G1 b o := by
  obtain ⟨L, sp, r, cs, e, h, x⟩ := p
  exact ⟨L, sp, r, cs, e, upL s h, x⟩
theorem Pen.mono {K : PySem.W.Frag} {G : Hp} {b c : Nat} {o : HO} (h : b ≤ c) (p : Pen K G b o) : Pen K G c o := by
  obtain ⟨L, sp, r, cs, e, h1, h2, h3, h4, h5⟩ := p
  exact ⟨L, sp, r, cs, e, h1, h2, h3, by omega, h5⟩
theorem k_cr : ¬ (Sum.inr ("cells" : Str) : Key) = Sum.inr ("rest" : Str) := by decide +kernel
theorem k_sr : ¬ (Sum.inr ("spot" : Str) : Key) = Sum.inr ("rest" : Str) := by decide +kernel
theorem k_cs : ¬ (Sum.inr ("cells" : Str) : Key) = Sum.inr ("spot" : Str) := by decide +kernel
theorem k_sc : ¬ (Sum.inr ("spot" : Str) : Key) = Sum.inr ("cells" : Str) := by decide +kernel
theorem k_rs : ¬ (Sum.inr ("rest" : Str) : Key) = Sum.inr ("spot" : Str) := by decide +kernel
theorem k_rc : ¬ (Sum.inr ("rest" : Str) : Key) = Sum.inr ("cells" : Str) := by decide +kernel
section
variable {L : Addr} {spot rest x : Int} {H : Hp} {P : Addr} {Q : VK} {G : Hp} {M : List (Addr × HO)} {R : Hp → Prop}
abbrev pk (L : Addr) (spot rest : Int) : List (Key × V) := [(.inr ("cells" : Str), .ref L), (.inr ("spot" : Str), .int spot), (.inr ("rest" : Str), .int rest)]
theorem v_cells : valV (pk L spot rest) (.inr ("cells" : Str)) = some (.ref L) := valV_pos rfl
theorem v_spot : valV (pk L spot rest) (.inr ("spot" : Str)) = some (.int spot) := by rw [valV_neg k_cs]; exact valV_pos rfl
theorem v_rest : valV (pk L spot rest) (.inr ("rest" : Str)) = some (.int rest) := by rw [valV_neg k_cr, valV_neg k_sr]; exact valV_pos rfl
theorem p_spot : putK (pk L spot rest) (.inr ("spot" : Str)) (.int x) = pk L x rest := by
  have e1 : ¬ Str.ofString "cells" = Str.ofString "spot" := by decide +kernel
  have e2 : ¬ Str.ofString "rest" = Str.ofString "spot" := by decide +kernel
  simp [putK, e1, e2]
theorem p_rest : putK (pk L spot rest) (.inr ("rest" : Str)) (.int x) = pk L spot x := by
  have e1 : ¬ Str.ofString "cells" = Str.ofString "rest" := by decide +kernel
  have e2 : ¬ Str.ofString "spot" = Str.ofString "rest" := by decide +kernel
  simp [putK, e1, e2]
def DgW (x y : V) (H : Hp) (Q : VK) : Prop := ∃ a v, x = V.ref a ∧ DGet H a y (some v) ∧ Q v H
def DpW (x y v : V) (H : Hp) (R : Hp → Prop) : Prop := ∃ a H4, x = V.ref a ∧ DPut H a y v H4 ∧ R H4
theorem z_dg {ta tb : TE} {σ : L2.St} (h : ta σ H fun x H1 => tb σ H1 fun y H2 => DgW x y H2 Q) : tDGet ta tb σ H Q := h
theorem g_cells (z : Zp G ((P, penO L spot rest) :: M) H) (q : Q (.ref L) H) : DgW (.ref P) (.str ("cells" : Str)) H Q :=
  ⟨P, _, rfl, by have := DGet.k (k := .inr ("cells" : Str)) (z.at_ 0 rfl); rw [v_cells] at this; exact this, q⟩
theorem g_spot (z : Zp G ((P, penO L spot rest) :: M) H) (q : Q (.int spot) H) : DgW (.ref P) (.str ("spot" : Str)) H Q :=
  ⟨P, _, rfl, by have := DGet.k (k := .inr ("spot" : Str)) (z.at_ 0 rfl); rw [v_spot] at this; exact this, q⟩
theorem g_rest (z : Zp G ((P, penO L spot rest) :: M) H) (q : Q (.int rest) H) : DgW (.ref P) (.str ("rest" : Str)) H Q :=
  ⟨P, _, rfl, by have := DGet.k (k := .inr ("rest" : Str)) (z.at_ 0 rfl); rw [v_rest] at this; exact this, q⟩
theorem s_spot (z : Zp G ((P, penO L spot rest) :: M) H) (q : ∀ H1, Zp G ((P, penO L x rest) :: M) H1 → R H1) : DpW (.ref P) (.str ("spot" : Str)) (.int x) H R :=
  ⟨P, _, rfl, DPut.k (k := .inr ("spot" : Str)) (z.at_ 0 rfl) (by show 3 < sizeLine; decide), by rw [p_spot]; exact q _ (z.put 0 rfl _)⟩
theorem s_rest (z : Zp G ((P, penO L spot rest) :: M) H) (q : ∀ H1, Zp G ((P, penO L spot x) :: M) H1 → R H1) : DpW (.ref P) (.str ("rest" : Str)) (.int x) H R :=
  ⟨P, _, rfl, DPut.k (k := .inr ("rest" : Str)) (z.at_ 0 rfl) (by show 3 < sizeLine; decide), by rw [p_rest]; exact q _ (z.put 0 rfl _)⟩
theorem m_penput {D : Ends} {td ty tv : TE} {σ : L2.St} (h : tv σ H fun v H1 => td σ H1 fun x H2 => ty σ H2 fun y H3 => DpW x y v H3 (D.nx σ)) : sDPut td ty tv D σ H := h
end
end LW
open PySem PySem.Spec PyProof.Rows L2 Ys LW
local macro_rules | `(tactic| walk_at "z") => `(tactic| first
  | with_reducible refine z_seq ?_
  | with_reducible refine z_asg ?_
  | with_reducible refine z_name ?_
  | ((with_reducible apply z_var); (focus rfl))
  | with_reducible refine z_c ?_
  | with_reducible refine z_op ?_
  | with_reducible refine z_cons ?_
  | with_reducible refine z_nil ?_
  | with_reducible refine z_cb ?_
  | with_reducible refine z_call ?_
  | with_reducible refine z_ifS ?_
  | with_reducible refine z_ret ?_
  | with_reducible refine z_test ?_
  | with_reducible refine z_isB ?_
  | with_reducible refine z_tup ?_
  | with_reducible refine z_lst ?_
  | with_reducible refine z_I0 ?_
  | with_reducible refine z_addI ?_
  | with_reducible refine z_int ?_
  | with_reducible refine z_bT ?_
  | with_reducible refine z_bF ?_
  | with_reducible refine z_bN ?_
  | with_reducible refine z_and ?_
  | with_reducible refine z_or ?_
  | with_reducible refine z_not ?_
  | with_reducible refine z_if ?_
  | with_reducible refine z_andV ?_
  | with_reducible refine z_orV ?_
  | with_reducible refine z_notV ?_
  | with_reducible refine z_sl ?_
  | with_reducible refine z_np ?_
  | with_reducible refine z_part ?_
  | with_reducible refine z_isP ?_
  | with_reducible refine z_drop ?_
  | with_reducible refine z_next ?_
  | with_reducible refine z_retN ?_
  | with_reducible refine z_tB ?_
  | with_reducible refine z_bm ?_
  | with_reducible refine z_bm0 ?_
  | with_reducible refine z_m1 ?_
  | with_reducible refine z_isS ?_
  | with_reducible refine z_for ?_
  | with_reducible refine z_lc ?_
  | with_reducible refine z_yes ?_
  | with_reducible refine z_iL ?_
  | with_reducible refine z_iT ?_
  | with_reducible refine z_iS ?_
  | with_reducible refine z_iR ?_
  | with_reducible refine z_gcons ?_
  | with_reducible refine z_gnil ?_
  | with_reducible refine z_pr ?_
  | with_reducible refine z_pr2 ?_
  | with_reducible refine z_un ?_
  | with_reducible refine z_prop ?_
  | with_reducible refine z_mt ?_
  | with_reducible refine z_mk ?_
  | with_reducible refine z_fl ?_
  | with_reducible refine z_fs ?_
  | with_reducible refine z_chain ?_
  | with_reducible refine z_rs ?_
  | with_reducible refine z_mkS ?_
  | with_reducible refine z_gsub ?_
  | with_reducible refine z_iR2 ?_
  | with_reducible refine z_pc ?_
  | with_reducible refine z_pn ?_
  | with_reducible refine z_dg ?_
  | with_reducible refine m_penput ?_
  | with_reducible refine g_rest (by assumption) ?_
  | with_reducible refine g_spot (by assumption) ?_
  | with_reducible refine g_cells (by assumption) ?_
  | with_reducible refine s_spot (by assumption) ?_
  | with_reducible refine s_rest (by assumption) ?_)
local macro_rules | `(tactic| walk_at "y") => `(tactic| first
  | with_reducible refine z_asg ?_
  | with_reducible refine z_name ?_
  | ((with_reducible apply z_var); (focus rfl))
  | with_reducible refine z_c ?_
  | with_reducible refine z_op ?_
  | with_reducible refine z_cons ?_
  | with_reducible refine z_nil ?_
  | with_reducible refine z_cb ?_
  | with_reducible refine z_call ?_
  | with_reducible refine z_ifS ?_
  | with_reducible refine z_ret ?_
  | with_reducible refine z_test ?_
  | with_reducible refine z_isB ?_
  | with_reducible refine z_tup ?_
  | with_reducible refine z_lst ?_
  | with_reducible refine z_I0 ?_
  | with_reducible refine z_addI ?_
  | with_reducible refine z_int ?_
  | with_reducible refine z_bT ?_
  | with_reducible refine z_bF ?_
  | with_reducible refine z_bN ?_
  | with_reducible refine z_and ?_
  | with_reducible refine z_or ?_
  | with_reducible refine z_not ?_
  | with_reducible refine z_if ?_
  | with_reducible refine z_andV ?_
  | with_reducible refine z_orV ?_
  | with_reducible refine z_notV ?_
  | with_reducible refine z_sl ?_
  | with_reducible refine z_np ?_
  | with_reducible refine z_part ?_
  | with_reducible refine z_isP ?_
  | with_reducible refine z_drop ?_
  | with_reducible refine z_next ?_
  | with_reducible refine z_retN ?_
  | with_reducible refine z_tB ?_
  | with_reducible refine z_bm ?_
  | with_reducible refine z_bm0 ?_
  | with_reducible refine z_m1 ?_
  | with_reducible refine z_isS ?_
  | with_reducible refine z_for ?_
  | with_reducible refine z_lc ?_
  | with_reducible refine z_yes ?_
  | with_reducible refine z_iL ?_
  | with_reducible refine z_iT ?_
  | with_reducible refine z_iS ?_
  | with_reducible refine z_iR ?_
  | with_reducible refine z_gcons ?_
  | with_reducible refine z_gnil ?_
  | with_reducible refine z_pr ?_
  | with_reducible refine z_pr2 ?_
  | with_reducible refine z_un ?_
  | with_reducible refine z_prop ?_
  | with_reducible refine z_mt ?_
  | with_reducible refine z_mk ?_
  | with_reducible refine z_fl ?_
  | with_reducible refine z_fs ?_
  | with_reducible refine z_chain ?_
  | with_reducible refine z_rs ?_
  | with_reducible refine z_mkS ?_
  | with_reducible refine z_gsub ?_
  | with_reducible refine z_iR2 ?_
  | with_reducible refine z_pc ?_
  | with_reducible refine z_pn ?_
  | with_reducible refine z_dg ?_
  | with_reducible refine m_penput ?_
  | with_reducible refine g_rest (by assumption) ?_
  | with_reducible refine g_spot (by assumption) ?_
  | with_reducible refine g_cells (by assumption) ?_
  | with_reducible refine s_spot (by assumption) ?_
  | with_reducible refine s_rest (by assumption) ?_)
namespace LW
open PySem PySem.Spec PyProof.Rows L2 Ys

theorem can_ints : ∀ cells : List Int, PyData.canLayAll0 (cells.map PyData.int) = true
  | [] => rfl
  | c :: cs => by
    show (PyData.canLay0 (.int c) && PyData.canLayAll0 (cs.map PyData.int)) = true
    rw [can_ints cs]
    rfl
theorem dep_ints : ∀ cells : List Int, PyData.depthAll (cells.map PyData.int) ≤ 1
  | [] => by decide
  | c :: cs => by
    show max (PyData.depth (.int c)) (PyData.depthAll (cs.map PyData.int)) ≤ 1
    have := dep_ints cs
    have e : PyData.depth (.int c) = 0 := rfl
    omega
theorem sh_ints (cells : List Int) : SeqAt.shaped (.list (cells.map PyData.int)) = true := by
  unfold SeqAt.shaped
  have e : PyData.canLay0 (.list (cells.map PyData.int)) = true := can_ints cells
  have d : PyData.depth (.list (cells.map PyData.int)) = PyData.depthAll (cells.map PyData.int) + 1 := rfl
  rw [e, d]
  have := dep_ints cells
  simp
  omega
theorem cells_eq (cells : List Int) : PyData.eqv (.list (cells.map PyData.int)) (.list []) = decide (cells = []) := by
  cases cells with
  | nil => rfl
  | cons c cs => rfl
section
variable {P : Program} {w : World} {K : PySem.W.Frag} {mg : Str → Option Value} {base : Heap} {f : Addr} {fd : FuncData}
def spDraw (K : PySem.W.Frag) : Sp := fun vs H Q _ => ∃ p o G M b n, vs = [.ref p, .int n] ∧ Zp G ((p, o) :: M) H ∧ Pen K G b o ∧ b ≤ 1000000000000 ∧ 0 < n ∧ n ≤ 1000000000 ∧
  ∀ r G1 H1 o1, Zp G1 ((p, o1) :: M) H1 → Same G G1 → Pen K G1 (b + 1) o1 → 0 ≤ r → r < n → Q (.int r) H1
theorem ok_draw (T : Nm K mg) (F : FnP K "_law_draw" s_law_draw f fd) : FnOk P w K mg base CX0 1 f fd ["_law_pen_here", "_law_size"] (spDraw K) := by
  have nd : N_law_draw.Nodup := sc_law_draw.nd
  refine F.ok sc_law_draw (fun vs H Q E h => ?_) (fun cdv A outer s H vs Q E hr h => ?_)
  · obtain ⟨p, o, G, M, b, n, rfl, _⟩ := h
    rfl
  have hu := hr.units
  refine ⟨_, PSs.nox   (pss_cons (ps_if (pt_cmpR o_ge (pe_dget (hu_of hr) (pv 0) pe_str (fun _ _ => rfl)) (pv 1) (nomark _)) (pss_cons (ps_asg (pe_op o_mod (pe_callTy c_int (by rfl) T.b_int boot_int (pa_cons (pe_dget (hu_of hr) (pv 0) pe_str (fun _ _ => rfl)) pa_nil)) (pv 1)) (pg_name (i := 5) nd rfl (by first | exact .inl rfl | exact .inr rfl)))
    (pss_cons (ps_dput (hu_of hr) (pv 0) pe_str (pe_op o_div (pe_dget (hu_of hr) (pv 0) pe_str (fun _ _ => rfl)) (pv 1)) rfl)
    (pss_one (ps_ret (pv 5))))) pss_nil)
    (pss_cons (ps_asg (pe_dget (hu_of hr) (pv 0) pe_str (fun _ _ => rfl)) (pg_name (i := 2) nd rfl (by first | exact .inl rfl | exact .inr rfl)))
    (pss_cons (ps_dput (hu_of hr) (pv 0) pe_str (pe_op op_addG (pv 2) pe_int) rfl)
    (pss_cons (ps_asg (pe_op op_addG (pe_op o_mul pe_int (pv 2)) pe_int) (pg_name (i := 3) nd rfl (by first | exact .inl rfl | exact .inr rfl)))
    (pss_cons (ps_if (pt_cmpR (op_neG hu) (pe_dget (hu_of hr) (pv 0) pe_str (fun _ _ => rfl)) (pe_lst pa_nil) (nomark _)) (pss_one (ps_asg (pe_ix ix_seq (pe_dget (hu_of hr) (pv 0) pe_str (fun _ _ => rfl)) (pe_op o_mod (pe_callTy c_int (by rfl) T.b_int boot_int (pa_cons (pv 2) pa_nil)) (pe_callB c_len (by rfl) T.b_len PySem.boot_len (pa_cons (pe_dget (hu_of hr) (pv 0) pe_str (fun _ _ => rfl)) pa_nil))) (fun _ _ => rfl)) (pg_name (i := 3) nd rfl (by first | exact .inl rfl | exact .inr rfl)))) pss_nil)
    (pss_cons (ps_if (PW.pt (pw_and (pt_cmpR o_lt (pv 2) (pe_callB c_len (by rfl) T.b_len PySem.boot_len (pa_cons (pe_dget (hu_of hr) (pv 0) pe_str (fun _ _ => rfl)) pa_nil)) (nomark _)) (pw_and1 (pt_cmpR o_ge (pv 3) (pe_op o_pow pe_int pe_int) (nomark _))))) (pss_cons (ps_dput (hu_of hr) (pv 0) pe_str (pe_op o_div (pe_op o_sub (pv 3) (pe_op o_pow pe_int pe_int)) (pv 1)) rfl)
    (pss_one (ps_ret (pe_op o_mod (pe_callTy c_int (by rfl) T.b_int boot_int (pa_cons (pe_op o_sub (pv 3) (pe_op o_pow pe_int pe_int)) pa_nil)) (pv 1))))) pss_nil)
    (pss_cons (ps_asg (pe_op o_mul (pe_op o_mod (pe_callTy c_int (by rfl) T.b_int boot_int (pa_cons (pv 3) pa_nil)) pe_int) pe_int) (pg_name (i := 4) nd rfl (by first | exact .inl rfl | exact .inr rfl)))
    (pss_cons (ps_asg (pe_op o_mod (pe_callTy c_int (by rfl) T.b_int boot_int (pa_cons (pe_op op_addG (pe_op op_addG (pe_op op_addG (pv 4) (pe_op o_mul (pe_op o_mul pe_int (pv 2)) (pv 2))) (pe_op o_mul pe_int (pv 2))) pe_int) pa_nil)) pe_int) (pg_name (i := 4) nd rfl (by first | exact .inl rfl | exact .inr rfl)))
    (pss_cons (ps_asg (pe_op o_mod (pe_callTy c_int (by rfl) T.b_int boot_int (pa_cons (pe_op o_mul (pv 4) (pe_op op_addG (pv 4) pe_int)) pa_nil)) pe_int) (pg_name (i := 4) nd rfl (by first | exact .inl rfl | exact .inr rfl)))
    (pss_one (ps_ret (pe_op o_mod (pe_callTy c_int (by rfl) T.b_int boot_int (pa_cons (pe_op o_div (pe_op o_mod (pe_callTy c_int (by rfl) T.b_int boot_int (pa_cons (pe_op op_addG (pe_op o_mul (pv 4) (pv 4)) (pe_op o_mul pe_int (pv 4))) pa_nil)) pe_int) pe_int) pa_nil)) (pv 1))))))))))))), ?_⟩
  obtain ⟨p, o, G, M, b, n, rfl, z, ⟨L, spot, rest, cells, rfl, hL, hc, h0, hb, hr0⟩, hb2, n0, n1, q⟩ := h
  repeat (walk_at "z")
  refine z_bd (fun hrn => ?_) (fun hrn => ?_)
  · repeat (walk_at "z")
    refine z_I n0 ?_
    repeat (walk_at "z")
    refine z_I (dw n0 n1) ?_
    repeat (walk_at "z")
    intro H1 z1
    repeat (walk_at "z")
    refine q _ G H1 _ z1 (Same.refl G) ⟨L, spot, rest / n, cells, rfl, hL, hc, h0, by omega, Int.ediv_nonneg hr0 (by omega)⟩ (Int.emod_nonneg _ (by omega)) (Int.emod_lt_of_pos _ n0)
  · repeat (walk_at "z")
    intro H1 z1
    repeat (walk_at "z")
    refine z_I (mw (by omega) (by omega) (by omega) (by omega)) ?_
    repeat (walk_at "y")
    with_reducible refine z_cut (fun σ H => ∃ cell G3, Zp G3 ((p, penO L (spot + 1) rest) :: M) H ∧ Same G G3 ∧ σ = [some (.ref p), some (.int n), some (.int spot), some (.int cell), none, none]) (fun nx hnx => ?_) (fun σ H2 h2 => ?_)
    · repeat (walk_at "z")
      refine z_newL z1 (by decide) fun p2 G2 H2 z2 s2 e2 => ?_
      have hL2 := upL s2 hL
      refine z_neD (d := .list (cells.map PyData.int)) (e := .list []) z2 (.lst hL2 (dts_int cells)) (.lst (SqL.of e2) .nil) (sh_ints _) rfl ?_
      repeat (walk_at "z")
      rw [cells_eq]
      refine z_bd (fun c => ?_) (fun c => ?_)
      · refine z_next (hnx _ _ ⟨_, _, z2, s2, rfl⟩)
      · have c0 : 0 < cells.length := by cases cells with | nil => exact absurd rfl c | cons _ _ => exact Nat.succ_pos _
        repeat (walk_at "z")
        refine z_lenL z2 hL2 ?_
        rw [List.length_map]
        refine z_I (by omega) ?_
        have hm := Int.emod_lt_of_pos spot (show (0 : Int) < cells.length by omega)
        have hm0 := Int.emod_nonneg spot (show (cells.length : Int) ≠ 0 by omega)
        obtain ⟨k, hk⟩ := Int.eq_ofNat_of_zero_le hm0
        refine z_ixL z2 hL2 (v := .int (cells.getD k 0)) ?_ ?_
        · rw [hk]
          refine atI_nat ?_
          have : k < cells.length := by omega
          simp [List.getD, this]
        repeat (walk_at "z")
        exact hnx _ _ ⟨_, _, z2, s2, rfl⟩
    obtain ⟨cell, G3, z3, s3, rfl⟩ := h2
    have hL3 := upL s3 hL
    have e18 : (10 : Int) ^ (18 : Int).toNat = 1000000000000000000 := by decide +kernel
    with_reducible refine z_cut (fun σ H => H = H2 ∧ σ = [some (.ref p), some (.int n), some (.int spot), some (.int cell), none, none]) (fun nx hnx => ?_) (fun σ H3 h3 => ?_)
    · repeat (walk_at "z")
      refine z_lenL z3 hL3 ?_
      repeat (walk_at "z")
      refine z_b2 (fun c1 => ?_) (fun c1 => ?_)
      · repeat (walk_at "z")
        refine z_I ⟨by decide, by decide, by decide⟩ ?_
        repeat (walk_at "z")
        rw [e18]
        refine z_bd (fun c2 => ?_) (fun c2 => ?_)
        · repeat (walk_at "z")
          refine z_I ⟨by decide, by decide, by decide⟩ ?_
          repeat (walk_at "z")
          rw [e18]
          refine z_I (dw n0 n1) ?_
          repeat (walk_at "z")
          intro H4 z4
          repeat (walk_at "z")
          refine z_I ⟨by decide, by decide, by decide⟩ ?_
          repeat (walk_at "z")
          refine z_I n0 ?_
          exact q _ G3 H4 _ z4 s3 ⟨L, spot + 1, _, cells, rfl, hL3, hc, by omega, by omega, Int.ediv_nonneg (by omega) (by omega)⟩ (Int.emod_nonneg _ (by omega)) (Int.emod_lt_of_pos _ n0)
        · exact hnx _ _ ⟨rfl, rfl⟩
      · repeat (walk_at "z")
        exact hnx _ _ ⟨rfl, rfl⟩
    obtain ⟨rfl, rfl⟩ := h3
    repeat (walk_at "z")
    refine z_I (by decide) ?_
    repeat (walk_at "z")
    refine z_I (mw (by omega) (by omega) (by omega) (by omega)) ?_
    repeat (walk_at "z")
    have h1 := Int.emod_nonneg cell (show (2147483353 : Int) ≠ 0 by decide)
    have h2 := Int.emod_lt_of_pos cell (show (0 : Int) < 2147483353 by decide)
    refine z_I (mw (by omega) (by omega) (by omega) (by omega)) ?_
    repeat (walk_at "z")
    refine z_I (wide_mul (a := 64) (b := 64) (by omega) (by omega) (by decide) (by decide) (by decide)) ?_
    repeat (walk_at "z")
    refine z_I (mw (by omega) (by omega) (by omega) (by omega)) ?_
    repeat (walk_at "z")
    refine z_I (by decide) ?_
    repeat (walk_at "z")
    generalize hm1 : (cell % 2147483353 * 40127 + 52433 * spot * spot + 101 * spot + 31) % 2147483399 = m1
    have a1 : 0 ≤ m1 := by rw [← hm1]; exact Int.emod_nonneg _ (by decide)
    have a2 : m1 < 2147483399 := by rw [← hm1]; exact Int.emod_lt_of_pos _ (by decide)
    refine z_I (mw (by omega) (by omega) (by omega) (by omega)) ?_
    repeat (walk_at "z")
    refine z_I (by decide) ?_
    repeat (walk_at "z")
    generalize hm2 : m1 * (m1 + 70009) % 2147483423 = m2
    have b1 : 0 ≤ m2 := by rw [← hm2]; exact Int.emod_nonneg _ (by decide)
    have b2 : m2 < 2147483423 := by rw [← hm2]; exact Int.emod_lt_of_pos _ (by decide)
    refine z_I (mw (by omega) (by omega) (by omega) (by omega)) ?_
    repeat (walk_at "z")
    refine z_I (mw (by omega) (by omega) (by omega) (by omega)) ?_
    repeat (walk_at "z")
    refine z_I (by decide) ?_
    repeat (walk_at "z")
    refine z_I (dw (by decide) (by decide)) ?_
    repeat (walk_at "z")
    refine z_I n0 ?_
    exact q _ G3 _ _ z3 s3 ⟨L, spot + 1, _, cells, rfl, hL3, hc, by omega, by omega, hr0⟩ (Int.emod_nonneg _ (by omega)) (Int.emod_lt_of_pos _ n0)
end
end LW
namespace LW
open PySem PySem.Spec PyProof.Rows L2 Ys

section
variable {P : Program} {w : World} {K : PySem.W.Frag} {mg : Str → Option Value} {base : Heap} {f : Addr} {fd : FuncData}
def spPen (K : PySem.W.Frag) : Sp := fun vs H Q _ => ∃ (a : Addr) (G : Hp) (ns : List Int), vs = [.ref a] ∧ Zp G [] H ∧ SqL K G a (ns.map V.int) ∧
  ∀ p G1 H1 o1, Zp G1 [(p, o1)] H1 → Same G G1 → Pen K G1 0 o1 → Q (.ref p) H1
theorem ok_pen (T : Nm K mg) (F : FnP K "_law_pen" s_law_pen f fd) : FnOk P w K mg base CX0 1 f fd ["_law_script"] (spPen K) := by
  have nd : N_law_pen.Nodup := sc_law_pen.nd
  refine F.ok sc_law_pen (fun vs H Q E h => ?_) (fun cdv A outer s H vs Q E hr h => ?_)
  · obtain ⟨a, G, ns, rfl, _⟩ := h
    rfl
  have hu := hr.units
  refine ⟨_, PSs.nox   (pss_one (ps_ret (pe_disp (pps_cons pe_str (pe_callTy (kc_list (K := K)) (by rfl) T.b_list boot_list (pa_cons (pe_slice (k_sl (K := K)) (pv 0) po_none (po_some pe_int)) pa_nil)) (pps_cons pe_str pe_int (pps_cons pe_str pe_int pps_nil))) (by rfl) (by rfl) (fun z => by cases z) (by decide)))), ?_⟩
  obtain ⟨a, G, ns, rfl, z, hS, q⟩ := h
  repeat (walk_at "z")
  refine z_disp z fun p H1 z1 => ?_
  repeat (walk_at "z")
  refine z_slL z1 hS fun a2 G2 H2 z2 s2 e2 => ?_
  rw [cut_map] at e2
  repeat (walk_at "z")
  refine z_listG z2 (.inl (SqL.of e2)) fun a3 G3 H3 z3 s3 e3 => ?_
  repeat (walk_at "z")
  refine z_dispE (M := []) z3 [(.inr ("cells" : Str), .ref a3), (.inr ("spot" : Str), .int 0), (.inr ("rest" : Str), .int 0)] rfl (by show 3 ≤ 15; decide) fun H4 z4 => ?_
  refine q p G3 H4 _ z4 (s2.trans s3) ⟨a3, 0, 0, _, ?_, SqL.of e3, ?_, by decide, by decide, by decide⟩
  · have e1 : ¬ Str.ofString "cells" = Str.ofString "rest" := by decide +kernel
    have e2 : ¬ Str.ofString "spot" = Str.ofString "rest" := by decide +kernel
    have e3 : ¬ Str.ofString "cells" = Str.ofString "spot" := by decide +kernel
    simp [mergeK, putK, e1, e2, e3, penO]
  · rw [List.length_take]
    have : HT.sIx ns.length ns.length (some 63) = min 63 ns.length := HT.sIx_nat ns.length ns.length 63
    rw [this]
    omega
def spPick (K : PySem.W.Frag) : Sp := fun vs H Q _ => ∃ p o G M b x, vs = [.ref p, x] ∧ Zp G ((p, o) :: M) H ∧ Pen K G b o ∧ b ≤ 1000000000000 ∧
  ((∃ a xs, x = .ref a ∧ (SqL K G a xs ∨ SqT K G a xs) ∧ xs ≠ [] ∧ xs.length ≤ 100000 ∧ ∀ v G1 H1 o1, v ∈ xs → Zp G1 ((p, o1) :: M) H1 → Same G G1 → Pen K G1 (b + 1) o1 → Q v H1) ∨
   (∃ s : Str, x = .str s ∧ 0 < s.length ∧ s.length ≤ 100000 ∧ ∀ ch G1 H1 o1, ch ∈ s.cps.toList → Zp G1 ((p, o1) :: M) H1 → Same G G1 → Pen K G1 (b + 1) o1 → Q (.str ⟨#[ch]⟩) H1))
theorem ok_pick (T : Nm K mg) (C_law_draw : Own P w K mg base CX0 1 "_law_draw" ["_law_pen_here", "_law_size"] (spDraw K)) (F : FnP K "_law_pick" s_law_pick f fd) : FnOk P w K mg base CX0 2 f fd ["_law_pen_here", "_law_items"] (spPick K) := by
  have nd : N_law_pick.Nodup := sc_law_pick.nd
  refine F.ok sc_law_pick (fun vs H Q E h => ?_) (fun cdv A outer s H vs Q E hr h => ?_)
  · obtain ⟨p, o, G, M, b, x, rfl, _⟩ := h
    rfl
  have hu := hr.units
  refine ⟨_, PSs.nox   (pss_one (ps_ret (pe_ix (k_ix (K := K)) (pv 1) (pe_own C_law_draw (hr.mono (by decide)) (by rfl) pass0 (pa_cons (pv 0) (pa_cons (pe_callB (kc_len (K := K) (P := P) (w := w)) (by rfl) T.b_len PySem.boot_len (pa_cons (pv 1) pa_nil)) pa_nil))) (fun _ _ => rfl)))), ?_⟩
  obtain ⟨p, o, G, M, b, x, rfl, z, hp, hb, h⟩ := h
  repeat (walk_at "z")
  rcases h with ⟨a, xs, rfl, hS, h0, h1, q⟩ | ⟨t, rfl, h0, h1, q⟩
  · have h00 : 0 < xs.length := by cases xs with | nil => exact absurd rfl h0 | cons _ _ => exact Nat.succ_pos _
    rcases hS with hS | hS
    · refine z_lenL z hS ?_
      repeat (walk_at "z")
      refine ⟨p, o, G, M, b, _, rfl, z, hp, hb, by omega, by omega, fun r G1 H1 o1 z1 s1 hp1 r0 r1 => ?_⟩
      obtain ⟨v, hv, e⟩ := at_in r0 r1
      exact z_ixL z1 (upL s1 hS) e (q v G1 H1 o1 hv z1 s1 hp1)
    · refine z_lenT z hS ?_
      repeat (walk_at "z")
      refine ⟨p, o, G, M, b, _, rfl, z, hp, hb, by omega, by omega, fun r G1 H1 o1 z1 s1 hp1 r0 r1 => ?_⟩
      obtain ⟨v, hv, e⟩ := at_in r0 r1
      exact z_ixT z1 (upT s1 hS) e (q v G1 H1 o1 hv z1 s1 hp1)
  · refine z_lenS h1 ?_
    repeat (walk_at "z")
    refine ⟨p, o, G, M, b, _, rfl, z, hp, hb, by omega, by omega, fun r G1 H1 o1 z1 s1 hp1 r0 r1 => ?_⟩
    obtain ⟨v, hv, e⟩ := at_in (xs := t.cps.toList) r0 (by rw [Array.length_toList]; exact r1)
    exact z_ixS h1 e (q v G1 H1 o1 hv z1 s1 hp1)
end
end LW
namespace LW
open PySem PySem.Spec PyProof.Rows L2 Ys

section
variable {P : Program} {w : World} {K : PySem.W.Frag} {mg : Str → Option Value} {base : Heap} {f : Addr} {fd : FuncData}
def spShuf (K : PySem.W.Frag) : Sp := fun vs H Q _ => ∃ p o G M b a, ∃ xs : List V, vs = [.ref p, .ref a] ∧ Zp G ((p, o) :: M) H ∧ Pen K G b o ∧ b + xs.length ≤ 1000000000000 ∧ (SqL K G a xs ∨ SqT K G a xs) ∧ (∀ v ∈ xs, El K G v) ∧ xs.length ≤ 1000 ∧
  ∀ l ys G1 H1 o1, Zp G1 ((p, o1) :: (l, .lst ys) :: M) H1 → Same G G1 → Pen K G1 (b + xs.length) o1 → ys.Perm xs → Q (.ref l) H1
theorem ok_shuf (T : Nm K mg) (C_law_draw : Own P w K mg base CX0 1 "_law_draw" ["_law_pen_here", "_law_size"] (spDraw K)) (F : FnP K "_law_shuffled" s_law_shuffled f fd) : FnOk P w K mg base CX0 2 f fd ["_law_pen_here", "_law_items"] (spShuf K) := by
  have nd : N_law_shuffled.Nodup := sc_law_shuffled.nd
  refine F.ok sc_law_shuffled (fun vs H Q E h => ?_) (fun cdv A outer s H vs Q E hr h => ?_)
  · obtain ⟨p, o, G, M, b, x, xs, rfl, _⟩ := h
    rfl
  have hu := hr.units
  refine ⟨_, PSs.nox   (pss_cons (ps_par (i := 2) (j := 3) (by rfl) nd rfl rfl (by decide) rfl rfl (pa_cons (pe_callTy (kc_list (K := K)) (by rfl) T.b_list boot_list (pa_cons (pv 1) pa_nil)) (pa_cons (pe_lst pa_nil) pa_nil)) (by rfl))
    (pss_cons (ps_while PassesOwn.never (pt_cmpR (k_ne (K := K) hu) (pv 2) (pe_lst pa_nil) (nomark _)) (pss_one (ps_expr (pe_bm PySem.F.plainAttrs_list PySem.F.slot_list_append PySem.F.type_list_append mt_append (pv 3) (pa_cons (pe_bm PySem.F.plainAttrs_list PySem.F.slot_list_pop PySem.F.type_list_pop mt_popAt (pv 2) (pa_cons (pe_own C_law_draw (hr.mono (by decide)) (by rfl) pass0 (pa_cons (pv 0) (pa_cons (pe_callB (kc_len (K := K) (P := P) (w := w)) (by rfl) T.b_len PySem.boot_len (pa_cons (pv 2) pa_nil)) pa_nil))) pa_nil)) pa_nil)))))
    (pss_one (ps_ret (pv 3))))), ?_⟩
  obtain ⟨p, o, G, M, b, a, xs, rfl, z, hp, hb, hS, hE, hl, q⟩ := h
  repeat (walk_at "z")
  refine z_listP z hS fun l H1 z1 => ?_
  repeat (walk_at "z")
  refine z_ownP z1 (by decide) fun u H2 z2 => ?_
  repeat (walk_at "z")
  refine z_while (fun n σ G2 M2 => ∃ o2 ys zs, σ = [some (.ref p), some (.ref a), some (.ref l), some (.ref u)] ∧ M2 = (p, o2) :: (u, .lst ys) :: (l, .lst zs) :: M ∧ Same G G2 ∧ Pen K G2 (b + ys.length) o2 ∧ n = zs.length ∧ (ys ++ zs).Perm xs)
    xs.length z2 ⟨o, [], xs, rfl, rfl, Same.refl G, hp, rfl, List.Perm.refl _⟩ ?_
  rintro n σ G2 M2 H3 ⟨o2, ys, zs, rfl, rfl, s2, hp2, rfl, hperm⟩ z3
  have hlen : ys.length + zs.length = xs.length := by rw [← List.length_append]; exact hperm.length_eq
  repeat (walk_at "z")
  refine z_newL z3 (by decide) fun p4 G4 H4 z4 s4 e4 => ?_
  have hE4 : ∀ v ∈ zs, El K H4 v := fun v hv => ((hE v (hperm.mem_iff.mp (List.mem_append_right _ hv))).up (s2.trans s4)).up z4.sub
  refine z_neNil (xs := zs) (SqL.of (z4.at_ 2 rfl)) (z4.sub _ _ e4) ?_
  repeat (walk_at "z")
  by_cases c : zs = []
  · subst c
    rw [show decide (([] : List V) ≠ []) = false from rfl]
    refine z_whF ?_
    repeat (walk_at "z")
    refine q u ys G4 _ o2 (z4.keep (.cons_cons _ (.cons_cons _ (.cons _ (List.Sublist.refl _))))) (s2.trans s4) ?_ ?_
    · have e : xs.length = ys.length := by rw [← hlen]; rfl
      rw [e]
      exact hp2.up s4
    · rw [List.append_nil] at hperm
      exact hperm
  · rw [decide_eq_true c]
    have h00 : 0 < zs.length := by cases zs with | nil => exact absurd rfl c | cons _ _ => exact Nat.succ_pos _
    refine z_whT ?_
    repeat (walk_at "z")
    refine z_tyO z4 1 rfl ?_
    repeat (walk_at "z")
    refine z_tyO z4 2 rfl ?_
    repeat (walk_at "z")
    refine z_lenO z4 2 rfl ?_
    repeat (walk_at "z")
    refine ⟨p, o2, G4, _, _, _, rfl, z4, hp2.up s4, by omega, by omega, by omega, fun r G5 H5 o5 z5 s5 hp5 r0 r1 => ?_⟩
    obtain ⟨k, rfl⟩ := Int.eq_ofNat_of_zero_le r0
    have hk : k < zs.length := by omega
    repeat (walk_at "z")
    refine z_popAt z5 2 rfl r0 r1 (by omega) (v := zs[k]) (by simp [hk]) fun H6 z6 => ?_
    repeat (walk_at "z")
    refine z_append z6 1 rfl (by omega) fun H7 z7 => ?_
    repeat (walk_at "z")
    refine ⟨(zs.eraseIdx k).length, by rw [List.length_eraseIdx_of_lt hk]; omega, _, _, z7, _, ys ++ [zs[k]], zs.eraseIdx k, rfl, rfl, (s2.trans s4).trans s5, ?_, rfl, ?_⟩
    · rw [List.length_append]
      exact hp5
    · rw [List.append_assoc, List.singleton_append]
      refine List.Perm.trans (List.Perm.append_left _ ?_) hperm
      exact erase_perm hk
end
end LW
namespace LW
open PySem PySem.Spec PyProof.Rows L2 Ys

/-! ### drawn words are different ones -/
def Cop (st : Int) : Prop := ∀ a b m : Int, st * (a - b) = 26 * m → a - b < 20 → b - a < 20 → a = b
theorem toList_app (x y : Str) : (x ++ y).cps.toList = x.cps.toList ++ y.cps.toList := by
  show (x.cps ++ y.cps).toList = _
  simp
theorem mid_at {x y : Str} {c n : Nat} (h : x.length = n) : (x ++ ⟨#[c]⟩ ++ y).cps.toList[n]? = some c := by
  rw [toList_app, toList_app]
  have hx : x.cps.toList.length = n := by rw [← h]; simp [Str.length]
  rw [List.append_assoc, List.getElem?_append_right (by omega), hx, Nat.sub_self]
  rfl
theorem app_at {x y : Str} {c n : Nat} (h : x.cps.toList[n]? = some c) : (x ++ y).cps.toList[n]? = some c := by
  rw [toList_app, List.getElem?_append_left (List.getElem?_eq_some_iff.mp h).1]
  exact h
theorem snoc_at {fs : List Str} {word : Str} {ch n : Nat} {fr st : Int} (hat : ∀ (i : Nat) (t : Str), fs[i]? = some t → ∃ ch, t.cps.toList[n]? = some ch ∧ atI ("abcdefghijklmnopqrstuvwxyz" : Str).cps.toList ((fr + st * i) % 26) = some ch) (h1 : word.cps.toList[n]? = some ch) (h2 : atI ("abcdefghijklmnopqrstuvwxyz" : Str).cps.toList ((fr + st * (fs.length : Int)) % 26) = some ch) :
    ∀ (i : Nat) (t : Str), (fs ++ [word])[i]? = some t → ∃ ch, t.cps.toList[n]? = some ch ∧ atI ("abcdefghijklmnopqrstuvwxyz" : Str).cps.toList ((fr + st * i) % 26) = some ch := fun i t h => by
  by_cases c : i < fs.length
  · rw [List.getElem?_append_left c] at h
    exact hat i t h
  · rw [List.getElem?_append_right (by omega)] at h
    have hi : i = fs.length := by
      have := (List.getElem?_eq_some_iff.mp h).1
      simp at this
      omega
    subst hi
    rw [Nat.sub_self] at h
    obtain rfl : word = t := by simpa using h
    exact ⟨ch, h1, h2⟩
theorem abc_inj : ∀ i < 26, ∀ j < 26, ("abcdefghijklmnopqrstuvwxyz" : Str).cps.toList[i]? = ("abcdefghijklmnopqrstuvwxyz" : Str).cps.toList[j]? → i = j := by decide +kernel
theorem words_nd {fs : List Str} {n : Nat} {fr st : Int} (hl : fs.length ≤ 20) (f0 : 0 ≤ fr) (hc : Cop st) (hat : ∀ (i : Nat) (t : Str), fs[i]? = some t → ∃ ch, t.cps.toList[n]? = some ch ∧ atI ("abcdefghijklmnopqrstuvwxyz" : Str).cps.toList ((fr + st * i) % 26) = some ch) : fs.Nodup := by
  show List.Pairwise (· ≠ ·) fs
  refine List.pairwise_iff_getElem.mpr fun i j hi hj hij e => ?_
  have h1 : fs[i]? = some fs[i] := List.getElem?_eq_getElem hi
  obtain ⟨c1, g1, a1⟩ := hat i _ h1
  obtain ⟨c2, g2, a2⟩ := hat j fs[i] (by rw [List.getElem?_eq_getElem hj, e])
  rw [g1] at g2
  cases g2
  have m1 := Int.emod_nonneg (fr + st * i) (show (26 : Int) ≠ 0 by decide)
  have m2 := Int.emod_nonneg (fr + st * j) (show (26 : Int) ≠ 0 by decide)
  have l1 := Int.emod_lt_of_pos (fr + st * i) (show (0 : Int) < 26 by decide)
  have l2 := Int.emod_lt_of_pos (fr + st * j) (show (0 : Int) < 26 by decide)
  have key : ∀ {x : Int}, 0 ≤ x → x < 26 → atI ("abcdefghijklmnopqrstuvwxyz" : Str).cps.toList x = ("abcdefghijklmnopqrstuvwxyz" : Str).cps.toList[x.toNat]? := fun {x} h0 h1 => by
    have : ixN ("abcdefghijklmnopqrstuvwxyz" : Str).cps.toList.length x = some x.toNat := by
      unfold ixN
      rw [if_pos h0, if_pos (by rw [show ("abcdefghijklmnopqrstuvwxyz" : Str).cps.toList.length = 26 by decide +kernel]; omega)]
    unfold atI
    rw [this]
    rfl
  rw [key m1 l1] at a1
  rw [key m2 l2] at a2
  have := abc_inj _ (by omega) _ (by omega) (a1.trans a2.symm)
  have he : (fr + st * (i : Int)) % 26 = (fr + st * (j : Int)) % 26 := by omega
  have d1 := Int.emod_add_mul_ediv (fr + st * (i : Int)) 26
  have d2 := Int.emod_add_mul_ediv (fr + st * (j : Int)) 26
  have hm : st * ((i : Int) - (j : Int)) = 26 * ((fr + st * (i : Int)) / 26 - (fr + st * (j : Int)) / 26) := by
    rw [Int.mul_sub]
    omega
  have := hc _ _ _ hm (by omega) (by omega)
  omega
section
variable {P : Program} {w : World} {K : PySem.W.Frag} {mg : Str → Option Value} {base : Heap} {f : Addr} {fd : FuncData}
abbrev OwnD (P : Program) (w : World) (K : PySem.W.Frag) (mg : Str → Option Value) (base : Heap) : Prop := Own P w K mg base CX0 1 "_law_draw" ["_law_pen_here", "_law_size"] (spDraw K)
abbrev OwnP (P : Program) (w : World) (K : PySem.W.Frag) (mg : Str → Option Value) (base : Heap) : Prop := Own P w K mg base CX0 2 "_law_pick" ["_law_pen_here", "_law_items"] (spPick K)
def spWords (K : PySem.W.Frag) : Sp := fun vs H Q _ => ∃ p o G M b, ∃ n : Nat, vs = [.ref p, .int n] ∧ Zp G ((p, o) :: M) H ∧ Pen K G b o ∧ b ≤ 100000000000 ∧ n ≤ 20 ∧
  ∀ l G1 H1 o1, ∀ ss : List Str, Zp G1 ((p, o1) :: M) H1 → Same G G1 → Pen K G1 (b + 10) o1 → G1 l = some (.lst (ss.map V.str)) → ss.length = n → (∀ s ∈ ss, Wd s) → ss.Nodup → Q (.ref l) H1
theorem ok_words (T : Nm K mg) (C_law_draw : OwnD P w K mg base) (C_law_pick : OwnP P w K mg base) (F : FnP K "_law_words" s_law_words f fd) : FnOk P w K mg base CX0 3 f fd ["_law_pen_here", "_law_count"] (spWords K) := by
  have nd : N_law_words.Nodup := sc_law_words.nd
  refine F.ok sc_law_words (fun vs H Q E h => ?_) (fun cdv A outer s H vs Q E hr h => ?_)
  · obtain ⟨p, o, G, M, b, n, rfl, _⟩ := h
    rfl
  have hu := hr.units
  refine ⟨_, PSs.nox   (pss_cons (ps_asg pe_str (pg_name (i := 2) nd rfl (by first | exact .inl rfl | exact .inr rfl)))
    (pss_cons (ps_asg (pe_joinG pe_str (pe_lc (own := [("_law_k", 5)]) (tt := tYes) rfl nd (pi_range1 (by rfl) (T.b_range) (pa_cons (pe_own C_law_draw (hr.mono (by decide)) (by rfl) pass0 (pa_cons (pv 0) (pa_cons pe_int pa_nil))) pa_nil)) (blkOk_by (N := N_law_words) (sc := defScope s_law_words) (by decide +kernel)) (fun _ _ _ _ _ => (pg_name (i := 5) nd rfl (by first | exact .inl rfl | exact .inr rfl))) (fun _ _ _ _ _ => pts_nil) (fun _ _ _ _ _ => (pe_own C_law_pick (hr.mono (by decide)) (by rfl) pass0 (pa_cons (pv 0) (pa_cons (pv 2) pa_nil)))))) (pg_name (i := 3) nd rfl (by first | exact .inl rfl | exact .inr rfl)))
    (pss_cons (ps_par (i := 6) (j := 7) (by rfl) nd rfl rfl (by decide) rfl rfl (pa_cons (pe_own C_law_draw (hr.mono (by decide)) (by rfl) pass0 (pa_cons (pv 0) (pa_cons (pe_op (k_add (K := K)) (pe_callB (kc_len (K := K) (P := P) (w := w)) (by rfl) T.b_len PySem.boot_len (pa_cons (pv 3) pa_nil)) pe_int) pa_nil))) (pa_cons (pe_own C_law_draw (hr.mono (by decide)) (by rfl) pass0 (pa_cons (pv 0) (pa_cons pe_int pa_nil))) pa_nil)) (by rfl))
    (pss_cons (ps_par (i := 8) (j := 9) (by rfl) nd rfl rfl (by decide) rfl rfl (pa_cons (pe_own C_law_pick (hr.mono (by decide)) (by rfl) pass0 (pa_cons (pv 0) (pa_cons (pe_lst (pa_cons pe_int (pa_cons pe_int (pa_cons pe_int (pa_cons pe_int (pa_cons pe_int (pa_cons pe_int (pa_cons pe_int (pa_cons pe_int pa_nil))))))))) pa_nil))) (pa_cons (pe_own C_law_pick (hr.mono (by decide)) (by rfl) pass0 (pa_cons (pv 0) (pa_cons (pe_lst (pa_cons pe_str (pa_cons pe_str (pa_cons pe_str (pa_cons pe_str pa_nil))))) pa_nil))) pa_nil)) (by rfl))
    (pss_cons (ps_asg (pe_lst pa_nil) (pg_name (i := 4) nd rfl (by first | exact .inl rfl | exact .inr rfl)))
    (pss_cons (ps_for PassesOwn.never rfl (pi_range1 (by rfl) (T.b_range) (pa_cons (pv 1) pa_nil)) (pg_name (i := 5) nd rfl (by first | exact .inl rfl | exact .inr rfl)) (pss_cons (ps_asg (pe_op (k_add (K := K)) (pe_op (k_add (K := K)) (pe_slice (k_sl (K := K)) (pv 3) po_none (po_some (pv 6))) (pe_ix (k_ix (K := K)) (pv 2) (pe_op o_mod (pe_callTy c_int (by rfl) T.b_int boot_int (pa_cons (pe_op (k_add (K := K)) (pv 7) (pe_op o_mul (pv 8) (pv 5))) pa_nil)) pe_int) (fun _ _ => rfl))) (pe_slice (k_sl (K := K)) (pv 3) (po_some (pv 6)) po_none)) (pg_name (i := 10) nd rfl (by first | exact .inl rfl | exact .inr rfl)))
    (pss_one (ps_expr (pe_bm PySem.F.plainAttrs_list PySem.F.slot_list_append PySem.F.type_list_append mt_append (pv 4) (pa_cons (pe_ifExp (pt_cmpR (k_eq (K := K) hu) (pe_op o_mod (pe_callTy c_int (by rfl) T.b_int boot_int (pa_cons (pv 5) pa_nil)) pe_int) pe_int (nomark _)) (pe_op (k_add (K := K)) (pv 10) (pv 9)) (pv 10)) pa_nil))))))
    (pss_one (ps_ret (pv 4))))))))), ?_⟩
  obtain ⟨p, o, G, M, b, n, rfl, z, hp, hb, hn, q⟩ := h
  repeat (walk_at "z")
  refine ⟨p, o, G, M, b, _, rfl, z, hp, by omega, by decide, by decide, fun c1 G1 H1 o1 z1 s1 hp1 c0 c6 => ?_⟩
  repeat (walk_at "z")
  refine z_itR (by omega) (by omega) ?_
  refine lc_src src_R (fun i G' M' acc => ∃ o', ∃ ss : List Str, M' = (p, o') :: M ∧ Same G G' ∧ Pen K G' (b + 1 + i) o' ∧ acc = ss.map V.str ∧ ss.length = i ∧ ∀ t ∈ ss, Lt t ∧ t.length = 1) z1 ⟨o1, [], rfl, s1, hp1, rfl, rfl, by simp⟩ (fun _ _ _ _ _ _ _ _ => trivial) ?_ ?_
  · rintro i x G2 M2 acc Dl H2 hx ⟨o2, ss, rfl, s2, hp2, rfl, rfl, hss⟩ z2
    have hi : ss.length < 6 := by
      have := (List.getElem?_eq_some_iff.mp hx).1
      rw [rngV_len] at this
      omega
    repeat (walk_at "z")
    refine ⟨by rfl, ?_⟩
    repeat (walk_at "z")
    refine ⟨p, o2, G2, _, _, _, rfl, z2, hp2, by omega, .inr ⟨_, rfl, by rw [abc_len]; decide, by rw [abc_len]; decide, fun ch G3 H3 o3 hch z3 s3 hp3 => ?_⟩⟩
    refine z_laid (M := (p, o3) :: M) z3 (by rw [List.length_map]; omega) ⟨o3, ss ++ [⟨#[ch]⟩], rfl, s2.trans s3, hp3, by simp, by simp, fun t ht => ?_⟩
    rcases List.mem_append.mp ht with ht | ht
    · exact hss t ht
    · obtain rfl : t = ⟨#[ch]⟩ := by simpa using ht
      exact ⟨Lt.one (abc_mem hch), rfl⟩
  · rintro p2 G2 M2 acc G3 H3 ⟨o2, ss, rfl, s2, hp2, rfl, hlen, hss⟩ s3 z3 e3
    rw [rngV_len] at hlen hp2
    have hl6 : ss.length ≤ 5 := by omega
    have hsum : (Txt.join "" ss).length = ss.length := PySem.W.KT.join_ones ss fun t ht => (hss t ht).2
    have hsm : ∀ l : List Str, (∀ t ∈ l, t.length = 1) → (l.map (·.length)).sum = l.length := by
      intro l
      induction l with
      | nil => intro _; rfl
      | cons a r ih =>
        intro h
        rw [List.map_cons, List.sum_cons, ih fun t ht => h t (List.mem_cons_of_mem _ ht), h a (List.mem_cons_self ..), List.length_cons]
        omega
    refine z_join z3 (SqL.of e3) ?_ ?_
    · rw [hsm ss fun t ht => (hss t ht).2]
      have : ("" : Str).length = 0 := by decide
      rw [this]
      omega
    have hstem : Lt (Txt.join "" ss) := Lt.join fun t ht => (hss t ht).1
    generalize Txt.join "" ss = stem at hstem hsum ⊢
    have hp2 := hp2.mono (c := b + 6) (by omega)
    rw [← hsum] at hlen hl6
    repeat (walk_at "z")
    refine z_lenS (by omega) ?_
    repeat (walk_at "z")
    refine ⟨p, o2, G3, _, _, _, rfl, z3, hp2.up s3, by omega, by omega, by omega, fun at_ G4 H4 o4 z4 s4 hp4 a0 a1 => ?_⟩
    repeat (walk_at "z")
    refine ⟨p, o4, G4, _, _, _, rfl, z4, hp4, by omega, by omega, by omega, fun fr G5 H5 o5 z5 s5 hp5 f0 f1 => ?_⟩
    repeat (walk_at "z")
    refine z_newL z5 (by simp) fun q6 G6 H6 z6 s6 e6 => ?_
    repeat (walk_at "z")
    refine ⟨p, o5, G6, _, _, _, rfl, z6, hp5.up s6, by omega, .inl ⟨q6, _, rfl, .inl (SqL.of e6), by simp, by simp, fun v G7 H7 o7 hv z7 s7 hp7 => ?_⟩⟩
    obtain ⟨st, rfl, st0, st1, stc⟩ : ∃ i, v = V.int i ∧ 0 < i ∧ i < 20 ∧ Cop i := by
      simp at hv
      rcases hv with rfl | rfl | rfl | rfl | rfl | rfl | rfl | rfl <;> exact ⟨_, rfl, by decide, by decide, fun a b m e h1 h2 => by omega⟩
    repeat (walk_at "z")
    refine z_newL z7 (by simp) fun q8 G8 H8 z8 s8 e8 => ?_
    repeat (walk_at "z")
    refine ⟨p, o7, G8, _, _, _, rfl, z8, hp7.up s8, by omega, .inl ⟨q8, _, rfl, .inl (SqL.of e8), by simp, by simp, fun v G9 H9 o9 hv z9 s9 hp9 => ?_⟩⟩
    obtain ⟨tail, rfl, tl0, tl1⟩ : ∃ t : Str, v = V.str t ∧ t.length ≤ 2 ∧ Lt t := by
      have k0 : ("" : Str).length ≤ 2 ∧ ∀ c ∈ ("" : Str).cps.toList, 97 ≤ c ∧ c ≤ 122 := by decide +kernel
      have k1 : ("w" : Str).length ≤ 2 ∧ ∀ c ∈ ("w" : Str).cps.toList, 97 ≤ c ∧ c ≤ 122 := by decide +kernel
      have k2 : ("ww" : Str).length ≤ 2 ∧ ∀ c ∈ ("ww" : Str).cps.toList, 97 ≤ c ∧ c ≤ 122 := by decide +kernel
      rcases List.mem_cons.mp hv with rfl | hv
      · exact ⟨_, rfl, k0⟩
      rcases List.mem_cons.mp hv with rfl | hv
      · exact ⟨_, rfl, k0⟩
      rcases List.mem_cons.mp hv with rfl | hv
      · exact ⟨_, rfl, k1⟩
      rcases List.mem_cons.mp hv with rfl | hv
      · exact ⟨_, rfl, k2⟩
      · cases hv
    have hpz := hp9.mono (c := b + 10) (by omega)
    have sz : Same G G9 := (s2.trans s3).trans ((s4.trans s5).trans ((s6.trans s7).trans (s8.trans s9)))
    clear hp9 hp7 hp5 hp4 hp2 hp1 hp z8 z7 z6 z5 z4 z3 z1 z e3 e6 e8 s9 s8 s7 s6 s5 s4 s3 s2 s1
    repeat (walk_at "z")
    refine z_ownP z9 (by simp) fun fa H10 z10 => ?_
    repeat (walk_at "z")
    refine z_itR (by omega) (by omega) ?_
    refine for_src src_R (fun i σ G' M' => ∃ fs : List Str, ∃ k5 k10 : Option V, M' = (p, o9) :: (fa, .lst (fs.map V.str)) :: M ∧ G' = G9 ∧ fs.length = i ∧ (∀ t ∈ fs, Wd t) ∧ (∀ (i : Nat) (t : Str), fs[i]? = some t → ∃ ch, t.cps.toList[at_.toNat]? = some ch ∧ atI ("abcdefghijklmnopqrstuvwxyz" : Str).cps.toList ((fr + st * i) % 26) = some ch) ∧
      σ = [some (.ref p), some (.int n), some (.str ("abcdefghijklmnopqrstuvwxyz" : Str)), some (.str stem), some (.ref fa), k5, some (.int at_), some (.int fr), some (.int st), some (.str tail), k10])
      z10 ⟨[], _, _, rfl, rfl, rfl, by simp, (fun i t h => by simp at h), rfl⟩ (fun _ _ _ _ _ _ _ => trivial) ?_ ?_
    · rintro i x σ G' M' H' hx ⟨fs, k5, k10, rfl, rfl, rfl, hfs, hat, rfl⟩ z'
      obtain ⟨hi, rfl⟩ := rng_at hx
      generalize hk : (0 : Int) + (fs.length : Int) = k
      repeat (walk_at "z")
      refine z_slS (by omega) ?_
      repeat (walk_at "z")
      refine z_I (mw (by omega) (by omega) (by omega) (by omega)) ?_
      repeat (walk_at "z")
      refine z_I (by decide) ?_
      repeat (walk_at "z")
      obtain ⟨ch, hch, ech⟩ := at_in (xs := ("abcdefghijklmnopqrstuvwxyz" : Str).cps.toList) (i := (fr + st * k) % 26) (Int.emod_nonneg _ (by decide)) (by rw [Array.length_toList]; exact Int.emod_lt_of_pos _ (by decide))
      refine z_ixS (by rw [abc_len]; decide) ech ?_
      have l1 : (cutS stem none (some at_)).length ≤ stem.length := by rw [cutS_len]; have := HT.sIx_le stem.length stem.length (Nat.le_refl _) (some at_); omega
      have hch1 := Lt.one (abc_mem hch)
      have hc1 : (⟨#[ch]⟩ : Str).length = 1 := rfl
      refine z_addS (by omega) ?_
      repeat (walk_at "z")
      refine z_slS (by omega) ?_
      have e1 : (cutS stem none (some at_)).length = at_.toNat := by
        rw [cutS_len]
        show (if at_ < 0 then (at_ + (stem.length : Int)).toNat else min at_.toNat stem.length) - 0 = at_.toNat
        rw [if_neg (by omega)]
        omega
      have e2 : (cutS stem (some at_) none).length = stem.length - at_.toNat := by
        rw [cutS_len]
        show stem.length - (if at_ < 0 then (at_ + (stem.length : Int)).toNat else min at_.toNat stem.length) = stem.length - at_.toNat
        rw [if_neg (by omega)]
        omega
      have e3 : (cutS stem none (some at_) ++ ⟨#[ch]⟩).length = at_.toNat + 1 := by rw [len_app, e1]; rfl
      refine z_addS (by omega) ?_
      have e4 : (cutS stem none (some at_) ++ ⟨#[ch]⟩ ++ cutS stem (some at_) none).length = stem.length + 1 := by rw [len_app, e3, e2]; omega
      have e5 : Lt (cutS stem none (some at_) ++ ⟨#[ch]⟩ ++ cutS stem (some at_) none) := ((hstem.cut _ _).app hch1).app (hstem.cut _ _)
      have e6 : (cutS stem none (some at_) ++ ⟨#[ch]⟩ ++ cutS stem (some at_) none).cps.toList[at_.toNat]? = some ch := mid_at e1
      have ech' : atI ("abcdefghijklmnopqrstuvwxyz" : Str).cps.toList ((fr + st * (fs.length : Int)) % 26) = some ch := by rw [← ech, ← hk, Int.zero_add]
      generalize cutS stem none (some at_) ++ ⟨#[ch]⟩ ++ cutS stem (some at_) none = word at e4 e5 e6
      repeat (walk_at "z")
      refine z_tyO z' 1 rfl ?_
      repeat (walk_at "z")
      refine z_I (by decide) ?_
      repeat (walk_at "z")
      refine z_eqS rfl ?_
      repeat (walk_at "z")
      refine z_b2 (fun _ => ?_) (fun _ => ?_)
      · repeat (walk_at "z")
        refine z_addS (by omega) ?_
        repeat (walk_at "z")
        refine z_append z' 1 rfl (by rw [List.length_map]; omega) fun H'' z'' => ?_
        repeat (walk_at "z")
        refine ⟨_, _, z'', fs ++ [word ++ tail], _, _, by simp, rfl, by simp, fun t ht => ?_, ?hat, rfl⟩
        case hat => exact snoc_at hat (by rw [app_at e6]) ech'
        rcases List.mem_append.mp ht with ht | ht
        · exact hfs t ht
        · obtain rfl : t = word ++ tail := by simpa using ht
          exact ⟨by rw [len_app]; omega, by rw [len_app]; omega, e5.app tl1⟩
      · repeat (walk_at "z")
        refine z_append z' 1 rfl (by rw [List.length_map]; omega) fun H'' z'' => ?_
        repeat (walk_at "z")
        refine ⟨_, _, z'', fs ++ [word], _, _, by simp, rfl, by simp, fun t ht => ?_, ?hat, rfl⟩
        case hat => exact snoc_at hat e6 ech'
        rcases List.mem_append.mp ht with ht | ht
        · exact hfs t ht
        · obtain rfl : t = word := by simpa using ht
          exact ⟨by omega, by omega, e5⟩
    · rintro σ G' M' H' ⟨fs, k5, k10, rfl, rfl, hfl, hfs, hat, rfl⟩ z'
      rw [rngV_len] at hfl
      repeat (walk_at "z")
      obtain ⟨z'', n''⟩ := z'.fix2
      exact q fa _ _ o9 fs z'' (sz.trans (Same.new n'')) (hpz.up (Same.new n'')) upd_same (by omega) hfs (words_nd (by omega) f0 stc hat)
end
end LW
namespace LW
open PySem PySem.Spec PyProof.Rows L2 Ys

/-! ### what the words' functions tell -/
def abcL : List Nat := (("abcdefghijklmnopqrstuvwxyz" : Str)).cps.toList
def wordS (s : Str) : Bool := decide (1 ≤ s.length) && (decide (s.length ≤ 8) && s.cps.toList.all fun c => decide (c ∈ abcL))
def isStrD : PyData → Bool
  | .str _ => true
  | _ => false
def wordD : PyData → Bool
  | .str s => wordS s
  | _ => false
def intD : PyData → Bool
  | .int _ => true
  | _ => false
def listD : PyData → Bool
  | .list _ => true
  | .tuple _ => true
  | _ => false
theorem wordD_ns {d : PyData} (h : isStrD d = false) : wordD d = false := by cases d <;> first | rfl | cases h
theorem kit_str (d : PyData) : kitB (tyD d) "str" = some (isStrD d) := by cases d <;> (simp only [tyD, isStrD]; decide +kernel)
theorem all_map_bl {α : Type} (f : α → Bool) (l : List α) : (l.map f).all id = l.all f := by rw [List.all_map]; rfl
def ShortD (d : PyData) : Prop := ∀ s, d = .str s → s.length ≤ 100000
section
variable {P : Program} {w : World} {K : PySem.W.Frag} {mg : Str → Option Value} {base : Heap} {f : Addr} {fd : FuncData}
def spWord (K : PySem.W.Frag) : Sp := fun vs H Q _ => ∃ G M v d, vs = [v] ∧ Zp G M H ∧ Dt K G v d ∧ ShortD d ∧ ∀ G1 H1, Zp G1 M H1 → Same G G1 → Q (.bl (wordD d)) H1
theorem ok_is_word (T : Nm K mg) (F : FnP K "is_word" s_is_word f fd) : FnOk P w K mg base CX0 1 f fd ["value"] (spWord K) := by
  have nd : N_is_word.Nodup := sc_is_word.nd
  refine F.ok sc_is_word (fun vs H Q E h => ?_) (fun cdv A outer s H vs Q E hr h => ?_)
  · obtain ⟨G, M, v, d, rfl, _⟩ := h
    rfl
  have hu := hr.units
  refine ⟨_, PSs.nox   (pss_cons (ps_if (PW.pt (pw_or (pt_not (pt_val (pe_callB (kc_isi (K := K)) (by rfl) T.b_isinstance boot_isinstance (pa_cons (pv 0) (pa_cons (pe_bltn (v := .ty "str") (by rfl) T.b_str boot_str rfl) pa_nil))))) (pw_or1 (pt_not (pt_chain o_le o_le pe_int (pe_callB (kc_len (K := K) (P := P) (w := w)) (by rfl) T.b_len PySem.boot_len (pa_cons (pv 0) pa_nil)) (pe_gC T.g_LONGEST_WORD (by rfl))))))) (pss_one (ps_ret pe_bl)) pss_nil)
    (pss_one (ps_ret (pe_callB (kc_all (K := K) rfl) (by rfl) T.b_all boot_all (pa_cons (pe_lc (own := [("letter", 1)]) (tt := tYes) rfl nd (k_any (K := K) (pv 0)) (blkOk_by (N := N_is_word) (sc := defScope s_is_word) (by decide +kernel)) (fun _ _ _ _ _ => (pg_name (i := 1) nd rfl (by first | exact .inl rfl | exact .inr rfl))) (fun _ _ _ _ _ => pts_nil) (fun _ _ _ _ _ => (pe_cmpR (k_in (K := K)) (pv 1) (pe_gC T.g_LETTERS (by rfl)) (by rfl)))) pa_nil))))), ?_⟩
  obtain ⟨G, M, v, d, rfl, z, hd, hs, q⟩ := h
  repeat (walk_at "z")
  refine z_isi (.ty "str") (hd.up z.sub).ty (kit_ty (kit_str d)) ?_
  cases hi : isStrD d with
  | false =>
    repeat (walk_at "z")
    have := q G H z (Same.refl G)
    rw [wordD_ns hi] at this
    exact this
  | true =>
    cases hd with
    | str t =>
      have hl := hs t rfl
      repeat (walk_at "z")
      refine z_lenS hl ?_
      repeat (walk_at "z")
      by_cases c1 : 1 ≤ t.length
      · rw [decide_eq_true (show (1 : Int) ≤ (t.length : Int) by omega)]
        repeat (walk_at "z")
        by_cases c2 : t.length ≤ 8
        · rw [decide_eq_true (show (t.length : Int) ≤ 8 by omega)]
          repeat (walk_at "z")
          refine z_anyS ?_
          repeat (walk_at "z")
          refine z_itS ?_
          refine lc_src src_S (fun i G' M' acc => M' = M ∧ G' = G ∧ acc = ((t.cps.toList.take i).map fun c => V.bl (decide (c ∈ abcL)))) z ⟨rfl, rfl, rfl⟩ (fun _ _ _ _ _ _ _ _ => trivial) ?_ ?_
          · rintro i x G2 M2 acc Dl H2 hx ⟨rfl, rfl, rfl⟩ z2
            obtain ⟨c, hc, rfl⟩ : ∃ c, t.cps.toList[i]? = some c ∧ x = V.str ⟨#[c]⟩ := by
              unfold chrV at hx
              rw [List.getElem?_map] at hx
              cases e : t.cps.toList[i]? with
              | none => rw [e] at hx; cases hx
              | some c => rw [e] at hx; exact ⟨c, rfl, (Option.some.inj hx).symm⟩
            repeat (walk_at "z")
            refine ⟨by rfl, ?_⟩
            repeat (walk_at "z")
            refine z_inS ?_
            refine z_laid z2 (by rw [List.length_map, List.length_take, Array.length_toList]; show min _ t.length ≤ _; omega) ⟨rfl, rfl, ?_⟩
            rw [List.take_add_one, hc]
            simp [abcL]
          · rintro p2 G2 M2 acc G3 H3 ⟨rfl, rfl, rfl⟩ s3 z3 e3
            rw [chrV_len, show t.length = t.cps.toList.length from (Array.length_toList).symm, List.take_length] at e3
            repeat (walk_at "z")
            refine z_all (bs := t.cps.toList.map fun c => decide (c ∈ abcL)) z3 (SqL.of (by rw [List.map_map]; exact e3)) ?_
            have := q G3 H3 z3 s3
            rw [all_map_bl]
            have e : wordD (.str t) = t.cps.toList.all fun c => decide (c ∈ abcL) := by
              show (decide _ && (decide _ && _)) = _
              rw [decide_eq_true c1, decide_eq_true c2]
              rfl
            rw [e] at this
            exact this
        · rw [decide_eq_false (show ¬ (t.length : Int) ≤ 8 by omega)]
          repeat (walk_at "z")
          have := q G H z (Same.refl G)
          have e : wordD (.str t) = false := by
            show (decide _ && (decide _ && _)) = _
            rw [decide_eq_false c2, Bool.false_and, Bool.and_false]
          rw [e] at this
          exact this
      · rw [decide_eq_false (show ¬ (1 : Int) ≤ (t.length : Int) by omega)]
        repeat (walk_at "z")
        have := q G H z (Same.refl G)
        have e : wordD (.str t) = false := by
          show (decide _ && (decide _ && _)) = _
          rw [decide_eq_false c1, Bool.false_and]
        rw [e] at this
        exact this
    | _ => cases hi
end
end LW
namespace LW
open PySem PySem.Spec PyProof.Rows L2 Ys

def boolD : PyData → Bool
  | .bool _ => true
  | _ => false
theorem kit_int (d : PyData) : kitB (tyD d) "int" = some (intD d || boolD d) := by cases d <;> (simp only [tyD, intD, boolD]; decide +kernel)
theorem kit_bool (d : PyData) : kitB (tyD d) "bool" = some (boolD d) := by cases d <;> (simp only [tyD, boolD]; decide +kernel)
def isLD : PyData → Bool
  | .list _ => true
  | _ => false
def isTD : PyData → Bool
  | .tuple _ => true
  | _ => false
theorem kit_list {K : PySem.W.Frag} (d : PyData) : PySem.W.kitAny K (.type (tyD d)) [.type "list", .type "tuple"] = some (listD d) := by
  have k1 : kitB (tyD d) "list" = some (isLD d) := by cases d <;> (simp only [tyD, isLD]; decide +kernel)
  have k2 : kitB (tyD d) "tuple" = some (isTD d) := by cases d <;> (simp only [tyD, isTD]; decide +kernel)
  refine kitAny_cons (kit_ty k1) (fun h => kitAny_cons (kit_ty k2) (fun h2 => ?_) fun h2 => ?_) fun h => ?_
  · rw [kitAny_nil]
    cases d <;> first | rfl | (cases h2; done) | (cases h; done)
  · cases d <;> first | rfl | cases h2
  · cases d <;> first | rfl | cases h
def withinD (a b : Int) : PyData → Bool
  | .int i => decide (a ≤ i) && decide (i ≤ b)
  | _ => false
def itemsD : PyData → List PyData
  | .list ds => ds
  | .tuple ds => ds
  | _ => []
def moreD (m : Option Int) (ds : List PyData) : Bool := match m with
  | none => true
  | some m => decide ((ds.length : Int) ≤ m)
def wordsD (m : Option Int) (d : PyData) : Bool := listD d && (moreD m (itemsD d) && (itemsD d).all wordD)
def strOf : PyData → Str
  | .str s => s
  | _ => ""
def diffD (m : Option Int) (d : PyData) : Bool := wordsD m d && decide ((dd ((itemsD d).map strOf)).length = (itemsD d).length)
def mV : Option Int → V
  | none => .non
  | some i => .int i
section
variable {P : Program} {w : World} {K : PySem.W.Frag} {mg : Str → Option Value} {base : Heap} {f : Addr} {fd : FuncData}
def spInt (K : PySem.W.Frag) : Sp := fun vs H Q _ => ∃ G M v d, vs = [v] ∧ Zp G M H ∧ Dt K G v d ∧ Q (.bl (intD d)) H
theorem ok_is_integer (T : Nm K mg) (F : FnP K "is_integer" s_is_integer f fd) : FnOk P w K mg base CX0 1 f fd ["value"] (spInt K) := by
  have nd : N_is_integer.Nodup := sc_is_integer.nd
  refine F.ok sc_is_integer (fun vs H Q E h => ?_) (fun cdv A outer s H vs Q E hr h => ?_)
  · obtain ⟨G, M, v, d, rfl, _⟩ := h
    rfl
  have hu := hr.units
  refine ⟨_, PSs.nox   (pss_one (ps_ret (pe_and (pe_callB (kc_isi (K := K)) (by rfl) T.b_isinstance boot_isinstance (pa_cons (pv 0) (pa_cons (pe_bltn (v := .ty "int") (by rfl) T.b_int boot_int rfl) pa_nil))) (pe_one (pe_not (pe_callB (kc_isi (K := K)) (by rfl) T.b_isinstance boot_isinstance (pa_cons (pv 0) (pa_cons (pe_bltn (v := .ty "bool") (by rfl) T.b_bool boot_bool rfl) pa_nil)))))))), ?_⟩
  obtain ⟨G, M, v, d, rfl, z, hd, q⟩ := h
  repeat (walk_at "z")
  refine z_isi (.ty "int") (hd.up z.sub).ty (kit_ty (kit_int d)) ?_
  repeat (walk_at "z")
  have e : intD d = ((intD d || boolD d) && !boolD d) := by cases d <;> rfl
  cases h1 : (intD d || boolD d) with
  | false =>
    repeat (walk_at "z")
    rw [e, h1] at q
    exact q
  | true =>
    repeat (walk_at "z")
    refine z_isi (.ty "bool") (hd.up z.sub).ty (kit_ty (kit_bool d)) ?_
    repeat (walk_at "z")
    rw [e, h1, Bool.true_and] at q
    exact q
def spWithin (K : PySem.W.Frag) : Sp := fun vs H Q _ => ∃ G M v d a b, vs = [v, .int a, .int b] ∧ Zp G M H ∧ Dt K G v d ∧ Q (.bl (withinD a b d)) H
theorem ok_is_within (T : Nm K mg) (C_is_integer : Own P w K mg base CX0 1 "is_integer" ["value"] (spInt K)) (F : FnP K "is_within" s_is_within f fd) : FnOk P w K mg base CX0 2 f fd ["value", "least", "most"] (spWithin K) := by
  have nd : N_is_within.Nodup := sc_is_within.nd
  refine F.ok sc_is_within (fun vs H Q E h => ?_) (fun cdv A outer s H vs Q E hr h => ?_)
  · obtain ⟨G, M, v, d, a, b, rfl, _⟩ := h
    rfl
  have hu := hr.units
  refine ⟨_, PSs.nox   (pss_one (ps_ret (pe_and (pe_own C_is_integer (hr.mono (by decide)) (by rfl) pass0 (pa_cons (pv 0) pa_nil)) (pe_one (pe_chain o_le o_le (pv 1) (pv 0) (pv 2)))))), ?_⟩
  obtain ⟨G, M, v, d, a, b, rfl, z, hd, q⟩ := h
  repeat (walk_at "z")
  refine ⟨G, M, v, d, rfl, z, hd, ?_⟩
  repeat (walk_at "z")
  cases hi : intD d with
  | false =>
    repeat (walk_at "z")
    have e : withinD a b d = false := by cases d <;> first | rfl | cases hi
    rw [e] at q
    exact q
  | true =>
    cases hd with
    | int i =>
      repeat (walk_at "z")
      refine z_b2 (fun c => ?_) (fun c => ?_)
      · repeat (walk_at "z")
        have e : withinD a b (.int i) = decide (i ≤ b) := by
          show (decide (a ≤ i) && _) = _
          rw [c]
          rfl
        rw [e] at q
        exact q
      · have e : withinD a b (.int i) = false := by
          show (decide (a ≤ i) && _) = _
          rw [c]
          rfl
        rw [e] at q
        exact q
    | _ => cases hi
def spIsList (K : PySem.W.Frag) : Sp := fun vs H Q _ => ∃ G M v d, vs = [v] ∧ Zp G M H ∧ Ar K G M v d ∧ ∀ G1 H1, Zp G1 M H1 → Same G G1 → Q (.bl (listD d)) H1
theorem ok_is_list (T : Nm K mg) (F : FnP K "is_list" s_is_list f fd) : FnOk P w K mg base CX0 1 f fd ["value"] (spIsList K) := by
  have nd : N_is_list.Nodup := sc_is_list.nd
  refine F.ok sc_is_list (fun vs H Q E h => ?_) (fun cdv A outer s H vs Q E hr h => ?_)
  · obtain ⟨G, M, v, d, rfl, _⟩ := h
    rfl
  have hu := hr.units
  refine ⟨_, PSs.nox   (pss_one (ps_ret (pe_callB (kc_isi (K := K)) (by rfl) T.b_isinstance boot_isinstance (pa_cons (pv 0) (pa_cons (pe_tup (pa_cons (pe_bltn (v := .ty "list") (by rfl) T.b_list boot_list rfl) (pa_cons (pe_bltn (v := .ty "tuple") (by rfl) T.b_tuple boot_tuple rfl) pa_nil))) pa_nil))))), ?_⟩
  obtain ⟨G, M, v, d, rfl, z, hd, q⟩ := h
  repeat (walk_at "z")
  refine z_newT z (by simp) fun p1 G1 H1 z1 s1 e1 => ?_
  repeat (walk_at "z")
  refine z_isi2 z1 e1 (.cons (.ty "list") (.cons (.ty "tuple") .nil)) ((hd.up s1).ty z1) (kit_list d) ?_
  exact q G1 _ z1 s1
abbrev OwnW (P : Program) (w : World) (K : PySem.W.Frag) (mg : Str → Option Value) (base : Heap) : Prop := Own P w K mg base CX0 1 "is_word" ["value"] (spWord K)
abbrev OwnL (P : Program) (w : World) (K : PySem.W.Frag) (mg : Str → Option Value) (base : Heap) : Prop := Own P w K mg base CX0 1 "is_list" ["value"] (spIsList K)
def FineD (d : PyData) : Prop := (itemsD d).length ≤ 500 ∧ ∀ e ∈ itemsD d, ShortD e
def spAreWords (K : PySem.W.Frag) : Sp := fun vs H Q _ => ∃ G M v d m, vs = [v, mV m] ∧ Zp G M H ∧ Ar K G M v d ∧ FineD d ∧ ∀ G1 H1, Zp G1 M H1 → Same G G1 → Q (.bl (wordsD m d)) H1
theorem words_lc {G : Hp} {M : List (Addr × HO)} {H : Hp} {J : It} {xs : List V} {ds : List PyData} {OK : Hp → Prop} {σ : L2.St} {Q : VK} {v mv : V} (S : Src J xs OK) (hd : Dts K G xs ds) (z : Zp G M H) (hf : ds.length ≤ 500) (hs : ∀ e ∈ ds, ShortD e)
    (ok : ∀ G' M1 H', Same G G' → Zp G' (M ++ M1) H' → OK H') (q : ∀ p G1 H1, Zp G1 M H1 → Same G G1 → G1 p = some (.lst ((ds.map wordD).map V.bl)) → Q (.ref p) H1) (hσ : σ = [some v, some mv, none]) :
    LcW J (gName 2) tYes (tCall (spWord K) [] E0 (tCons (tVar 2) tNil)) [2] σ H Q := by
  subst hσ
  have hl := hd.len (ds := ds)
  refine lc_src S (fun i G' M' acc => M' = M ∧ Same G G' ∧ acc = ((ds.take i).map wordD).map V.bl) z ⟨rfl, Same.refl G, rfl⟩ ?_ ?_ ?_
  · rintro i G' M' M1 acc H' ⟨rfl, s1, _⟩ z'
    exact ok G' M1 H' s1 z'
  · rintro i x G2 M2 acc Dl H2 hx ⟨rfl, s2, rfl⟩ z2
    obtain ⟨d, h1, h2⟩ := hd.at_ hx
    repeat (walk_at "z")
    refine ⟨by rfl, ?_⟩
    repeat (walk_at "z")
    refine ⟨G2, _, x, d, rfl, z2, h2.up s2, hs d (List.mem_of_getElem? h1), fun G3 H3 z3 s3 => ?_⟩
    refine z_laid z3 (by rw [List.length_map, List.length_map, List.length_take]; omega) ⟨rfl, s2.trans s3, ?_⟩
    rw [List.take_add_one, h1]
    simp
  · rintro p2 G2 M2 acc G3 H3 ⟨rfl, s2, rfl⟩ s3 z3 e3
    rw [hl, List.take_length] at e3
    exact q p2 G3 H3 z3 (s2.trans s3) e3
theorem ok_are_words (T : Nm K mg) (C_is_word : OwnW P w K mg base) (C_is_list : OwnL P w K mg base) (F : FunD K "are_words" "are_words" (defArgs s_are_words) (defBody s_are_words) (defScope s_are_words) [.non] [] f fd) : FnOk P w K mg base CX0 2 f fd ["value", "most"] (spAreWords K) := by
  have nd : N_are_words.Nodup := sc_are_words.nd
  refine F.ok sc_are_words (fun vs H Q E h => ?_) (fun cdv A outer s H vs Q E hr h => ?_)
  · obtain ⟨G, M, v, d, m, rfl, _⟩ := h
    rfl
  have hu := hr.units
  refine ⟨_, PSs.nox   (pss_cons (ps_if (PW.pt (pw_or (pt_not (pt_val (pe_own C_is_list (hr.mono (by decide)) (by rfl) pass0 (pa_cons (pv 0) pa_nil)))) (pw_or1 (PW.pt (pw_and (pt_cmpR o_notN (pv 1) pe_non (nomark _)) (pw_and1 (pt_cmpR o_gt (pe_callB (kc_len (K := K) (P := P) (w := w)) (by rfl) T.b_len PySem.boot_len (pa_cons (pv 0) pa_nil)) (pv 1) (nomark _)))))))) (pss_one (ps_ret pe_bl)) pss_nil)
    (pss_one (ps_ret (pe_callB (kc_all (K := K) rfl) (by rfl) T.b_all boot_all (pa_cons (pe_lc (own := [("word", 2)]) (tt := tYes) rfl nd (k_any (K := K) (pv 0)) (blkOk_by (N := N_are_words) (sc := defScope s_are_words) (by decide +kernel)) (fun _ _ _ _ _ => (pg_name (i := 2) nd rfl (by first | exact .inl rfl | exact .inr rfl))) (fun _ _ _ _ _ => pts_nil) (fun _ _ _ _ _ => (pe_own C_is_word (hr.mono (by decide)) (by rfl) pass0 (pa_cons (pv 2) pa_nil)))) pa_nil))))), ?_⟩
  obtain ⟨G, M, v, d, m, rfl, z, hd, ⟨hf, hs⟩, q⟩ := h
  repeat (walk_at "z")
  refine ⟨G, M, v, d, rfl, z, hd, fun G1 H1 z1 s1 => ?_⟩
  repeat (walk_at "z")
  cases hl : listD d with
  | false =>
    repeat (walk_at "z")
    have e : wordsD m d = false := by
      unfold wordsD
      rw [hl]
      rfl
    have := q G1 H1 z1 s1
    rw [e] at this
    exact this
  | true =>
    have big : ∀ (J : It) (a : Addr) (xs : List V) (OK : Hp → Prop), Src J xs OK → Dts K G xs (itemsD d) → (∀ G' M1 H', Same G G' → Zp G' (M ++ M1) H' → OK H') →
        ∀ Q2 : VK, (moreD m (itemsD d) = true → (∀ p G2 H2, Zp G2 M H2 → Same G1 G2 → G2 p = some (.lst (((itemsD d).map wordD).map V.bl)) → Q2 (.ref p) H2) → LcW J (gName 2) tYes (tCall (spWord K) [] E0 (tCons (tVar 2) tNil)) [2] (L2.start N_are_words [v, mV m]) H1 Q2) :=
      fun J a xs OK S hD ok Q2 hm q2 => words_lc S (hD.up s1) z1 hf hs (fun G' M1 H' s' z' => ok G' M1 H' (s1.trans s') z') (fun p G2 H2 z2 s2 e2 => q2 p G2 H2 z2 s2 e2) rfl
    have no : moreD m (itemsD d) = false → Q (.bl false) H1 := fun hm => by
      have e : wordsD m d = false := by
        unfold wordsD
        rw [hm, Bool.false_and, Bool.and_false]
      have := q G1 H1 z1 s1
      rw [e] at this
      exact this
    have yes : moreD m (itemsD d) = true → ∀ p G2 H2, Zp G2 M H2 → Same G1 G2 → G2 p = some (.lst (((itemsD d).map wordD).map V.bl)) → rAllG K [.ref p] H2 Q := fun hm p G2 H2 z2 s2 e2 => by
      refine z_all z2 (SqL.of e2) ?_
      have e : wordsD m d = ((itemsD d).map wordD).all id := by
        unfold wordsD
        rw [hl, hm, all_map_bl]
        rfl
      have := q G2 H2 z2 (s1.trans s2)
      rw [e] at this
      exact this
    cases d with
    | list ds =>
      obtain ⟨a, xs, rfl, k1, k2, k3⟩ := hd.list z
      have h1 := k3 G1 H1 z1 s1
      have h2 := k2.up s1
      cases m with
      | none =>
        repeat (walk_at "z")
        refine z_nN ?_
        repeat (walk_at "z")
        rw [show decide (mV none = V.non) = true from rfl]
        repeat (walk_at "z")
        refine z_anyL ?_
        repeat (walk_at "z")
        refine z_itLH h1 ?_
        refine big _ a xs _ src_L k2 (fun G' M1 H' s' z' => k3 G' H' z'.cut s') _ rfl (fun p G2 H2 z2 s2 e2 => ?_)
        repeat (walk_at "z")
        exact yes rfl p G2 H2 z2 s2 e2
      | some m =>
        repeat (walk_at "z")
        refine z_nN ?_
        repeat (walk_at "z")
        rw [show decide (mV (some m) = V.non) = false from rfl]
        repeat (walk_at "z")
        refine z_lenH (.inl h1) ?_
        rw [h2.len (ds := ds)]
        repeat (walk_at "z")
        refine z_I0 (j := m) ?_
        repeat (walk_at "z")
        cases hm : moreD (some m) ds with
        | false =>
          have : m < (ds.length : Int) := by have := of_decide_eq_false hm; omega
          rw [decide_eq_true this]
          repeat (walk_at "z")
          exact no hm
        | true =>
          have : ¬ m < (ds.length : Int) := by have := of_decide_eq_true hm; omega
          rw [decide_eq_false this]
          repeat (walk_at "z")
          refine z_anyL ?_
          repeat (walk_at "z")
          refine z_itLH h1 ?_
          refine big _ a xs _ src_L k2 (fun G' M1 H' s' z' => k3 G' H' z'.cut s') _ hm (fun p G2 H2 z2 s2 e2 => ?_)
          repeat (walk_at "z")
          exact yes hm p G2 H2 z2 s2 e2
    | tuple ds =>
      obtain ⟨a, xs, rfl, h1, h2⟩ := hd.tup
      cases m with
      | none =>
        repeat (walk_at "z")
        refine z_nN ?_
        repeat (walk_at "z")
        rw [show decide (mV none = V.non) = true from rfl]
        repeat (walk_at "z")
        refine z_anyT ?_
        repeat (walk_at "z")
        refine z_itT z1 (upT s1 h1) ?_
        refine big _ a xs _ src_T h2 (fun G' M1 H' s' z' => z'.seqT (upT s' h1)) _ rfl (fun p G2 H2 z2 s2 e2 => ?_)
        repeat (walk_at "z")
        exact yes rfl p G2 H2 z2 s2 e2
      | some m =>
        repeat (walk_at "z")
        refine z_nN ?_
        repeat (walk_at "z")
        rw [show decide (mV (some m) = V.non) = false from rfl]
        repeat (walk_at "z")
        refine z_lenT z1 (upT s1 h1) ?_
        rw [h2.len (ds := ds)]
        repeat (walk_at "z")
        refine z_I0 (j := m) ?_
        repeat (walk_at "z")
        cases hm : moreD (some m) ds with
        | false =>
          have : m < (ds.length : Int) := by have := of_decide_eq_false hm; omega
          rw [decide_eq_true this]
          repeat (walk_at "z")
          exact no hm
        | true =>
          have : ¬ m < (ds.length : Int) := by have := of_decide_eq_true hm; omega
          rw [decide_eq_false this]
          repeat (walk_at "z")
          refine z_anyT ?_
          repeat (walk_at "z")
          refine z_itT z1 (upT s1 h1) ?_
          refine big _ a xs _ src_T h2 (fun G' M1 H' s' z' => z'.seqT (upT s' h1)) _ hm (fun p G2 H2 z2 s2 e2 => ?_)
          repeat (walk_at "z")
          exact yes hm p G2 H2 z2 s2 e2
    | _ => cases hl
end
end LW
namespace LW
open PySem PySem.Spec PyProof.Rows L2 Ys

theorem strs_of : ∀ {ds : List PyData}, ds.all wordD = true → ds = (ds.map strOf).map PyData.str
  | [], _ => rfl
  | d :: ds, h => by
    obtain ⟨h1, h2⟩ := Bool.and_eq_true_iff.mp (show (wordD d && ds.all wordD) = true from h)
    rw [List.map_cons, List.map_cons, ← strs_of h2]
    cases d <;> first | rfl | cases h1
theorem dts_strs {K : PySem.W.Frag} {G : Hp} : ∀ {xs : List V} {ss : List Str}, Dts K G xs (ss.map PyData.str) → xs = ss.map V.str
  | [], [], _ => rfl
  | _, s :: ss, h => by
    cases h with
    | cons h1 h2 =>
      cases h1
      rw [List.map_cons, ← dts_strs h2]
  | _ :: _, [], h => by cases h
theorem ar_strs {K : PySem.W.Frag} {G H : Hp} {M : List (Addr × HO)} {v : V} {d : PyData} {ss : List Str} (z : Zp G M H) (h : Ar K G M v d) (hl : listD d = true) (hi : itemsD d = ss.map PyData.str) :
    ∃ a, v = .ref a ∧ ∀ G1 H1, Zp G1 M H1 → Same G G1 → SqL K H1 a (ss.map V.str) ∨ SqT K H1 a (ss.map V.str) := by
  cases d with
  | list ds =>
    obtain ⟨a, xs, rfl, h1, h2, h3⟩ := h.list z
    rw [show ds = ss.map PyData.str from hi] at h2
    obtain rfl := dts_strs h2
    exact ⟨a, rfl, fun G1 H1 z1 s1 => .inl (h3 G1 H1 z1 s1)⟩
  | tuple ds =>
    obtain ⟨a, xs, rfl, h1, h2⟩ := h.tup
    rw [show ds = ss.map PyData.str from hi] at h2
    obtain rfl := dts_strs h2
    exact ⟨a, rfl, fun G1 H1 z1 s1 => .inr (z1.seqT (upT s1 h1))⟩
  | _ => cases hl
theorem dd_len {l ss : List Str} (h : ∀ x, x ∈ l ↔ x ∈ ss) (nd : l.Nodup) : l.length = (dd ss).length :=
  ((List.perm_ext_iff_of_nodup nd (dd_nodup ss)).mpr fun x => (h x).trans mem_dd.symm).length_eq
section
variable {P : Program} {w : World} {K : PySem.W.Frag} {mg : Str → Option Value} {base : Heap} {f : Addr} {fd : FuncData}
def spDiff (K : PySem.W.Frag) : Sp := fun vs H Q _ => ∃ G M v d m, vs = [v, mV m] ∧ Zp G M H ∧ Ar K G M v d ∧ FineD d ∧ ∀ G1 H1, Zp G1 M H1 → Same G G1 → Q (.bl (diffD m d)) H1
theorem ok_diff (T : Nm K mg) (C_are_words : Own P w K mg base CX0 2 "are_words" ["value", "most"] (spAreWords K)) (F : FunD K "are_different_words" "are_different_words" (defArgs s_are_different_words) (defBody s_are_different_words) (defScope s_are_different_words) [.non] [] f fd) :
    FnOk P w K mg base CX0 3 f fd ["value", "most"] (spDiff K) := by
  have nd : N_are_different_words.Nodup := sc_are_different_words.nd
  refine F.ok sc_are_different_words (fun vs H Q E h => ?_) (fun cdv A outer s H vs Q E hr h => ?_)
  · obtain ⟨G, M, v, d, m, rfl, _⟩ := h
    rfl
  have hu := hr.units
  refine ⟨_, PSs.nox   (pss_one (ps_ret (pe_and (pe_own C_are_words (hr.mono (by decide)) (by rfl) pass0 (pa_cons (pv 0) (pa_cons (pv 1) pa_nil))) (pe_one (pe_cmpR (k_eq (K := K) hu) (pe_callB (kc_len (K := K) (P := P) (w := w)) (by rfl) T.b_len PySem.boot_len (pa_cons (pe_callTy (kc_set (K := K) (P := P) (w := w) rfl) (by rfl) T.b_set boot_set (pa_cons (pv 0) pa_nil)) pa_nil)) (pe_callB (kc_len (K := K) (P := P) (w := w)) (by rfl) T.b_len PySem.boot_len (pa_cons (pv 0) pa_nil)) (nomark _)))))), ?_⟩
  obtain ⟨G, M, v, d, m, rfl, z, hd, hf, q⟩ := h
  repeat (walk_at "z")
  refine ⟨G, M, v, d, m, rfl, z, hd, hf, fun G1 H1 z1 s1 => ?_⟩
  repeat (walk_at "z")
  cases hw : wordsD m d with
  | false =>
    repeat (walk_at "z")
    have := q G1 H1 z1 s1
    unfold diffD at this
    rw [hw] at this
    exact this
  | true =>
    obtain ⟨hl, h2⟩ := Bool.and_eq_true_iff.mp hw
    obtain ⟨_, h3⟩ := Bool.and_eq_true_iff.mp h2
    have hi := strs_of h3
    obtain ⟨a, rfl, hS⟩ := ar_strs z hd hl hi
    have hlen : ((itemsD d).map strOf).length = (itemsD d).length := List.length_map ..
    have hfl := hf.1
    repeat (walk_at "z")
    refine z_setH z1 (hS G1 H1 z1 s1) (by omega) fun p l G2 H2 z2 s2 e2 m2 nd2 l2 => ?_
    repeat (walk_at "z")
    refine z_lenX z2 e2 (by omega) ?_
    repeat (walk_at "z")
    refine z_lenH (hS G2 _ z2 (s1.trans s2)) ?_
    repeat (walk_at "z")
    refine z_eqS rfl ?_
    have := q G2 _ z2 (s1.trans s2)
    unfold diffD at this
    rw [hw, Bool.true_and, ← dd_len m2 nd2] at this
    rw [List.length_map, hlen]
    have e : decide (V.int (l.length : Int) = V.int ((itemsD d).length : Int)) = decide (l.length = (itemsD d).length) := by
      by_cases c : l.length = (itemsD d).length
      · rw [decide_eq_true c, c]
        exact decide_eq_true rfl
      · rw [decide_eq_false c]
        exact decide_eq_false fun h => c (by have := V.int.inj h; omega)
    rw [e]
    exact this
def spAsc (K : PySem.W.Frag) : Sp := fun vs H Q _ => ∃ G M v d, ∃ ss : List Str, vs = [v] ∧ Zp G M H ∧ Ar K G M v d ∧ listD d = true ∧ itemsD d = ss.map PyData.str ∧ ss.length < 64 ∧
  ∀ p G1 H1, Zp G1 M H1 → Same G G1 → SqT K G1 p ((asc ss).map V.str) → Q (.ref p) H1
theorem ok_asc (T : Nm K mg) (F : FnP K "ascending" s_ascending f fd) : FnOk P w K mg base CX0 1 f fd ["words"] (spAsc K) := by
  have nd : N_ascending.Nodup := sc_ascending.nd
  refine F.ok sc_ascending (fun vs H Q E h => ?_) (fun cdv A outer s H vs Q E hr h => ?_)
  · obtain ⟨G, M, v, d, ss, rfl, _⟩ := h
    rfl
  have hu := hr.units
  refine ⟨_, PSs.nox   (pss_one (ps_ret (pe_callTy (kc_tuple (K := K)) (by rfl) T.b_tuple boot_tuple (pa_cons (pe_callB (kc_sorted (K := K) (P := P) (w := w) rfl) (by rfl) T.b_sorted boot_sorted (pa_cons (pe_callTy (kc_set (K := K) (P := P) (w := w) rfl) (by rfl) T.b_set boot_set (pa_cons (pv 0) pa_nil)) pa_nil)) pa_nil)))), ?_⟩
  obtain ⟨G, M, v, d, ss, rfl, z, hd, hl, hi, hs, q⟩ := h
  obtain ⟨a, rfl, hS⟩ := ar_strs z hd hl hi
  repeat (walk_at "z")
  refine z_setH z (hS G H z (Same.refl G)) (by omega) fun p l G2 H2 z2 s2 e2 m2 nd2 l2 => ?_
  repeat (walk_at "z")
  refine z_sortX z2 e2 m2 nd2 (by omega) fun p3 G3 H3 z3 s3 e3 => ?_
  repeat (walk_at "z")
  exact z_tupL z3 (SqL.of e3) fun p4 G4 H4 z4 s4 h4 => q p4 G4 H4 z4 ((s2.trans s3).trans s4) h4
end
end LW
namespace LW
open PySem PySem.Spec PyProof.Rows L2 Ys

/-! ### tasks -/
structure TkD where
  role : Option Str
  many : Int
  l1 : List Str
  l2 : List Str
  l3 : List Str
  l4 : List Str
def rV : Option Str → V
  | none => .non
  | some s => .str s
def rP : Option Str → PyData
  | none => .none
  | some s => .str s
theorem rDt {K : PySem.W.Frag} {G : Hp} (r : Option Str) : Dt K G (rV r) (rP r) := by cases r <;> constructor
structure TaskC (K : PySem.W.Frag) (C : Addr) : Prop where
  cl : Cls K C
  n1 : NoAttr K C "own_role"
  n2 : NoAttr K C "own_many"
  n3 : NoAttr K C "own_other"
  n4 : NoAttr K C "own_same"
  n5 : NoAttr K C "own_takes"
  n6 : NoAttr K C "own_forgets"
def tfs (t : TkD) (t1 t2 t3 t4 : Addr) : List (Str × V) := [("own_role", rV t.role), ("own_many", .int t.many), ("own_other", .ref t1), ("own_same", .ref t2), ("own_takes", .ref t3), ("own_forgets", .ref t4)]
def TkI (K : PySem.W.Frag) (G : Hp) (C a : Addr) (t : TkD) : Prop := ∃ dx t1 t2 t3 t4, G a = some (.ins C dx (tfs t t1 t2 t3 t4)) ∧ SqT K G t1 (t.l1.map V.str) ∧ SqT K G t2 (t.l2.map V.str) ∧ SqT K G t3 (t.l3.map V.str) ∧ SqT K G t4 (t.l4.map V.str)
theorem TkI.up {K : PySem.W.Frag} {G G1 : Hp} {C a : Addr} {t : TkD} (s : Same G G1) (h : TkI K G C a t) : TkI K G1 C a t := by
  obtain ⟨dx, t1, t2, t3, t4, h0, h1, h2, h3, h4⟩ := h
  exact ⟨dx, t1, t2, t3, t4, s _ _ h0, upT s h1, upT s h2, upT s h3, upT s h4⟩
structure OkL (d : PyData) (ss : List Str) : Prop where
  li : listD d = true
  it : itemsD d = ss.map PyData.str
  wd : ∀ s ∈ ss, wordS s = true
  nd : ss.Nodup
  le : ss.length ≤ 60
theorem strOf_map : ∀ ss : List Str, (ss.map PyData.str).map strOf = ss
  | [] => rfl
  | s :: ss => congrArg (s :: ·) (strOf_map ss)
theorem wordS_len {s : Str} (h : wordS s = true) : s.length ≤ 8 := by
  obtain ⟨_, h2⟩ := Bool.and_eq_true_iff.mp h
  obtain ⟨h3, _⟩ := Bool.and_eq_true_iff.mp h2
  exact of_decide_eq_true h3
theorem OkL.fine {d : PyData} {ss : List Str} (h : OkL d ss) : FineD d := by
  refine ⟨by rw [h.it, List.length_map]; have := h.le; omega, fun e he => ?_⟩
  rw [h.it] at he
  obtain ⟨s, hs, rfl⟩ := List.mem_map.mp he
  rintro s' e'
  cases e'
  have := wordS_len (h.wd s hs)
  omega
theorem OkL.diff {d : PyData} {ss : List Str} (h : OkL d ss) : diffD none d = true := by
  unfold diffD wordsD
  rw [h.li, h.it, strOf_map, List.length_map]
  have e : (ss.map PyData.str).all wordD = true := by
    rw [List.all_eq_true]
    intro x hx
    obtain ⟨s, hs, rfl⟩ := List.mem_map.mp hx
    exact h.wd s hs
  rw [e, ← dd_len (fun x => Iff.rfl) h.nd]
  simp [moreD]
theorem ar_up {K : PySem.W.Frag} {G G1 : Hp} {M M1 : List (Addr × HO)} {v : V} {d : PyData} (h : Ar K G M v d) (s : Same G G1) (t : ∀ u ∈ M, u ∈ M1) : Ar K G1 M1 v d := (h.up s).sub t
section
variable {P : Program} {w : World} {K : PySem.W.Frag} {mg : Str → Option Value} {base : Heap} {f : Addr} {fd : FuncData} {C : Addr}
def OkRole (r : Option Str) : Prop := ∀ s, r = some s → wordS s = true
def spInit (K : PySem.W.Frag) (C : Addr) : Sp := fun vs H Q _ => ∃ x dx G M r m v1 v2 v3 v4 d1 d2 d3 d4, ∃ s1 s2 s3 s4 : List Str, vs = [.ref x, rV r, .int m, v1, v2, v3, v4] ∧ Zp G (M ++ [(x, .ins C dx [])]) H ∧ OkRole r ∧ 1 ≤ m ∧ m ≤ 3 ∧
  (Ar K G M v1 d1 ∧ OkL d1 s1) ∧ (Ar K G M v2 d2 ∧ OkL d2 s2) ∧ (Ar K G M v3 d3 ∧ OkL d3 s3) ∧ (Ar K G M v4 d4 ∧ OkL d4 s4) ∧
  ∀ G1 H1, Zp G1 M H1 → Same G G1 → TkI K G1 C x ⟨r, m, asc s1, asc s2, asc s3, asc s4⟩ → Q .non H1
theorem ok_init (T : Nm K mg) (TC : TaskC K C) (C_is_word : OwnW P w K mg base) (C_is_within : Own P w K mg base CX0 2 "is_within" ["value", "least", "most"] (spWithin K))
    (C_are_different_words_1 : OwnA P w K mg base CX0 3 "are_different_words" ["value", "most"] [.non] (spDiff K)) (C_ascending : Own P w K mg base CX0 1 "ascending" ["words"] (spAsc K))
    {kws : List (Str × V)} (F : FunD K "__init__" "Task.__init__" (defArgs s_Task_init) (defBody s_Task_init) (defScope s_Task_init) [.non] kws f fd) :
    FnOk P w K mg base CX0 4 f fd ["self", "role", "many", "other", "same", "takes", "forgets"] (spInit K C) := by
  have nd : N_Task_init.Nodup := sc_Task_init.nd
  refine F.ok sc_Task_init (fun vs H Q E h => ?_) (fun cdv A outer s H vs Q E hr h => ?_)
  · obtain ⟨x, dx, G, M, r, m, v1, v2, v3, v4, d1, d2, d3, d4, s1, s2, s3, s4, rfl, _⟩ := h
    rfl
  have hu := hr.units
  refine ⟨_, PSs.nox   (pss_cons (ps_if (PW.pt (pw_and (pt_cmpR o_notN (pv 1) pe_non (nomark _)) (pw_and1 (pt_not (pt_val (pe_own C_is_word (hr.mono (by decide)) (by rfl) pass0 (pa_cons (pv 1) pa_nil))))))) (pss_one ps_never) pss_nil)
    (pss_cons (ps_if (pt_not (pt_val (pe_own C_is_within (hr.mono (by decide)) (by rfl) pass0 (pa_cons (pv 2) (pa_cons pe_int (pa_cons (pe_gC T.g_MANY (by rfl)) pa_nil)))))) (pss_one ps_never) pss_nil)
    (pss_cons (ps_for PassesOwn.never rfl (k_tup (K := K) (pe_tup (pa_cons (pe_tup (pa_cons pe_str (pa_cons (pv 3) pa_nil))) (pa_cons (pe_tup (pa_cons pe_str (pa_cons (pv 4) pa_nil))) (pa_cons (pe_tup (pa_cons pe_str (pa_cons (pv 5) pa_nil))) (pa_cons (pe_tup (pa_cons pe_str (pa_cons (pv 6) pa_nil))) pa_nil)))))) (kg_tup (K := K) (n := 2) rfl (pgs_cons (pg_name (i := 7) nd rfl (by first | exact .inl rfl | exact .inr rfl)) (pgs_cons (pg_name (i := 8) nd rfl (by first | exact .inl rfl | exact .inr rfl)) pgs_nil))) (pss_one (ps_if (pt_not (pt_val (pe_ownA C_are_different_words_1 (hr.mono (by decide)) (by rfl) pass0 (pa_cons (pv 8) pa_nil)))) (pss_one ps_never) pss_nil)))
    (pss_cons (ps_fld (pv 0) (pv 1) rfl)
    (pss_cons (ps_fld (pv 0) (pv 2) rfl)
    (pss_cons (ps_fld (pv 0) (pe_own C_ascending (hr.mono (by decide)) (by rfl) pass0 (pa_cons (pv 3) pa_nil)) rfl)
    (pss_cons (ps_fld (pv 0) (pe_own C_ascending (hr.mono (by decide)) (by rfl) pass0 (pa_cons (pv 4) pa_nil)) rfl)
    (pss_cons (ps_fld (pv 0) (pe_own C_ascending (hr.mono (by decide)) (by rfl) pass0 (pa_cons (pv 5) pa_nil)) rfl)
    (pss_one (ps_fld (pv 0) (pe_own C_ascending (hr.mono (by decide)) (by rfl) pass0 (pa_cons (pv 6) pa_nil)) rfl)))))))))), ?_⟩
  obtain ⟨x, dx, G, M, r, m, v1, v2, v3, v4, d1, d2, d3, d4, ss1, ss2, ss3, ss4, rfl, z, hr1, hm1, hm2, ⟨a1, o1⟩, ⟨a2, o2⟩, ⟨a3, o3⟩, ⟨a4, o4⟩, q⟩ := h
  have up : ∀ {G : Hp} {v : V} {d : PyData}, Ar K G M v d → Ar K G (M ++ [(x, .ins C dx [])]) v d := fun h => h.sub fun u hu => List.mem_append_left _ hu
  have up2 : ∀ (fs : List (Str × V)), ∀ u ∈ M, u ∈ M ++ [(x, HO.ins C dx fs)] := fun fs u hu => List.mem_append_left _ hu
  with_reducible refine z_cut (fun σ H1 => ∃ G1, Zp G1 (M ++ [(x, .ins C dx [])]) H1 ∧ Same G G1 ∧ σ = L2.start N_Task_init [.ref x, rV r, .int m, v1, v2, v3, v4]) (fun nx hnx => ?_) (fun σ H1 h1 => ?_)
  · repeat (walk_at "z")
    refine z_nN ?_
    repeat (walk_at "z")
    cases r with
    | none =>
      rw [show decide (rV none = V.non) = true from rfl]
      repeat (walk_at "z")
      exact hnx _ _ ⟨G, z, Same.refl G, rfl⟩
    | some rs =>
      rw [show decide (rV (some rs) = V.non) = false from rfl]
      repeat (walk_at "z")
      have hw := hr1 rs rfl
      refine ⟨G, _, .str rs, .str rs, rfl, z, .str rs, ?_, fun G1 H1 z1 s1 => ?_⟩
      · rintro s' e'
        cases e'
        have := wordS_len hw
        omega
      rw [show wordD (.str rs) = true from hw]
      repeat (walk_at "z")
      exact hnx _ _ ⟨G1, z1, s1, rfl⟩
  obtain ⟨G1, z1, s1, rfl⟩ := h1
  with_reducible refine z_cut (fun σ H2 => H2 = H1 ∧ σ = L2.start N_Task_init [.ref x, rV r, .int m, v1, v2, v3, v4]) (fun nx hnx => ?_) (fun σ H2 h2 => ?_)
  · repeat (walk_at "z")
    refine ⟨G1, _, _, .int m, 1, 3, rfl, z1, .int m, ?_⟩
    repeat (walk_at "z")
    rw [show withinD 1 3 (.int m) = true by show (decide (1 ≤ m) && decide (m ≤ 3)) = true; rw [decide_eq_true hm1, decide_eq_true hm2]; rfl]
    repeat (walk_at "z")
    exact hnx _ _ ⟨rfl, rfl⟩
  obtain ⟨rfl, rfl⟩ := h2
  with_reducible refine z_cut (fun σ H3 => ∃ G2 k7 k8, Zp G2 (M ++ [(x, .ins C dx [])]) H3 ∧ Same G1 G2 ∧ σ = [some (.ref x), some (rV r), some (.int m), some v1, some v2, some v3, some v4, k7, k8]) (fun nx hnx => ?_) (fun σ H3 h3 => ?_)
  · repeat (walk_at "z")
    refine z_newT z1 (by simp) fun p2 G2 H2 z2 s2 e2 => ?_
    repeat (walk_at "z")
    refine z_newT z2 (by simp) fun p3 G3 H3 z3 s3 e3 => ?_
    repeat (walk_at "z")
    refine z_newT z3 (by simp) fun p4 G4 H4 z4 s4 e4 => ?_
    repeat (walk_at "z")
    refine z_newT z4 (by simp) fun p5 G5 H5 z5 s5 e5 => ?_
    repeat (walk_at "z")
    refine z_newT z5 (by simp) fun p6 G6 H6 z6 s6 e6 => ?_
    repeat (walk_at "z")
    refine z_itT z6 (SqT.of e6) ?_
    have t0 : Same G G6 := s1.trans (s2.trans (s3.trans (s4.trans (s5.trans s6))))
    refine for_src src_T (fun i σ G' M' => ∃ k7 k8, M' = M ++ [(x, .ins C dx [])] ∧ Same G6 G' ∧ σ = [some (.ref x), some (rV r), some (.int m), some v1, some v2, some v3, some v4, k7, k8]) z6 ⟨_, _, rfl, Same.refl _, rfl⟩
      (fun i σ G' M' H' ⟨_, _, _, s', _⟩ z' => z'.seqT (upT s' (SqT.of e6))) ?_ ?_
    · rintro i x1 σ G' M' H' hx ⟨k7, k8, rfl, s', rfl⟩ z'
      have hmem : x1 ∈ [V.ref p2, V.ref p3, V.ref p4, V.ref p5] := List.mem_of_getElem? hx
      obtain ⟨pp, fl, v, d, ss, rfl, hp, ha, ho⟩ : ∃ pp, ∃ fl : Str, ∃ v d ss, x1 = .ref pp ∧ G6 pp = some (.tup [.str fl, v]) ∧ Ar K G M v d ∧ OkL d ss := by
        simp at hmem
        rcases hmem with rfl | rfl | rfl | rfl
        · exact ⟨p2, _, v1, d1, ss1, rfl, s6 _ _ (s5 _ _ (s4 _ _ (s3 _ _ e2))), a1, o1⟩
        · exact ⟨p3, _, v2, d2, ss2, rfl, s6 _ _ (s5 _ _ (s4 _ _ e3)), a2, o2⟩
        · exact ⟨p4, _, v3, d3, ss3, rfl, s6 _ _ (s5 _ _ e4), a3, o3⟩
        · exact ⟨p5, _, v4, d4, ss4, rfl, s6 _ _ e5, a4, o4⟩
      refine z_gtup z' (SqT.of (s' _ _ hp)) rfl ?_
      repeat (walk_at "z")
      refine ⟨G', _, v, d, none, rfl, z', up (ha.up (t0.trans s')), ho.fine, fun G7 H7 z7 s7 => ?_⟩
      repeat (walk_at "z")
      rw [ho.diff]
      repeat (walk_at "z")
      exact ⟨G7, _, z7, _, _, rfl, s'.trans s7, rfl⟩
    · rintro σ G' M' H' ⟨k7, k8, rfl, s', rfl⟩ z'
      exact hnx _ _ ⟨G', k7, k8, z', s2.trans (s3.trans (s4.trans (s5.trans (s6.trans s')))), rfl⟩
  obtain ⟨G2, k7, k8, z2, s2, rfl⟩ := h3
  have s12 := s1.trans s2
  repeat (walk_at "z")
  refine z_fsL z2 TC.cl TC.n1 (by decide) fun H4 z4 => ?_
  repeat (walk_at "z")
  refine z_fsL z4 TC.cl TC.n2 (by repeat (first | decide | refine putF_lt ?_)) fun H5 z5 => ?_
  repeat (walk_at "z")
  refine ⟨G2, _, v1, d1, ss1, rfl, z5, ar_up a1 s12 (up2 _), o1.li, o1.it, by have := o1.le; omega, fun p6 G6 H6 z6 s6 h6 => ?_⟩
  repeat (walk_at "z")
  refine z_fsL z6 TC.cl TC.n3 (by repeat (first | decide | refine putF_lt ?_)) fun H7 z7 => ?_
  repeat (walk_at "z")
  refine ⟨G6, _, v2, d2, ss2, rfl, z7, ar_up a2 (s12.trans s6) (up2 _), o2.li, o2.it, by have := o2.le; omega, fun p8 G8 H8 z8 s8 h8 => ?_⟩
  repeat (walk_at "z")
  refine z_fsL z8 TC.cl TC.n4 (by repeat (first | decide | refine putF_lt ?_)) fun H9 z9 => ?_
  repeat (walk_at "z")
  refine ⟨G8, _, v3, d3, ss3, rfl, z9, ar_up a3 (s12.trans (s6.trans s8)) (up2 _), o3.li, o3.it, by have := o3.le; omega, fun p10 G10 H10 z10 s10 h10 => ?_⟩
  repeat (walk_at "z")
  refine z_fsL z10 TC.cl TC.n5 (by repeat (first | decide | refine putF_lt ?_)) fun H11 z11 => ?_
  repeat (walk_at "z")
  refine ⟨G10, _, v4, d4, ss4, rfl, z11, ar_up a4 (s12.trans (s6.trans (s8.trans s10))) (up2 _), o4.li, o4.it, by have := o4.le; omega, fun p12 G12 H12 z12 s12' h12 => ?_⟩
  repeat (walk_at "z")
  refine z_fsL z12 TC.cl TC.n6 (by repeat (first | decide | refine putF_lt ?_)) fun H13 z13 => ?_
  have fr : G12 x = none := (z13.own M.length _ _ last_at).2
  have sN := Same.new (o := HO.ins C dx (tfs ⟨r, m, asc ss1, asc ss2, asc ss3, asc ss4⟩ p6 p8 p10 p12)) fr
  refine q _ _ z13.fix (s12.trans (s6.trans (s8.trans (s10.trans (s12'.trans sN))))) ⟨dx, p6, p8, p10, p12, upd_same, upT (s8.trans (s10.trans (s12'.trans sN))) h6, upT (s10.trans (s12'.trans sN)) h8, upT (s12'.trans sN) h10, upT sN h12⟩
end
end LW
namespace LW
open PySem PySem.Spec PyProof.Rows L2 Ys

def strsP (l : List Str) : PyData := .tuple (l.map PyData.str)
def likeP (t : TkD) : PyData := .tuple [rP t.role, .int t.many, .tuple [strsP t.l1, strsP t.l2, strsP t.l3, strsP t.l4]]
def plainP (t : TkD) : PyData := .tuple [rP t.role, .int t.many, strsP t.l1, strsP t.l2, strsP t.l3, strsP t.l4]
structure GoodL (l : List Str) : Prop where
  wd : ∀ s ∈ l, wordS s = true
  le : l.length ≤ 60
structure GoodT (t : TkD) : Prop where
  ro : OkRole t.role
  g1 : GoodL t.l1
  g2 : GoodL t.l2
  g3 : GoodL t.l3
  g4 : GoodL t.l4
theorem wordS_lt {s : Str} (h : wordS s = true) : Lt s := fun c hc => by
  obtain ⟨_, h2⟩ := Bool.and_eq_true_iff.mp h
  obtain ⟨_, h3⟩ := Bool.and_eq_true_iff.mp h2
  exact abc_mem (of_decide_eq_true (List.all_eq_true.mp h3 c hc))
theorem wd_word {s : Str} (h : Wd s) : wordS s = true := by
  unfold wordS
  rw [decide_eq_true h.1, decide_eq_true h.2.1]
  show s.cps.toList.all _ = true
  rw [List.all_eq_true]
  intro c hc
  refine decide_eq_true ?_
  have := h.2.2 c hc
  have e : abcL = (List.range 26).map (· + 97) := by decide +kernel
  rw [e, List.mem_map]
  exact ⟨c - 97, List.mem_range.mpr (by omega), by omega⟩
structure Fin (d : PyData) (n : Nat) : Prop where
  cl : d.canLay0 = true
  dp : d.depth ≤ n
theorem Fin.sh {d : PyData} {n : Nat} (h : Fin d n) (hn : n ≤ 60) : SeqAt.shaped d = true := by
  unfold SeqAt.shaped
  rw [h.cl]
  have := h.dp
  simp
  omega
theorem fin_all {n : Nat} : ∀ {ds : List PyData}, (∀ d ∈ ds, Fin d n) → PyData.canLayAll0 ds = true ∧ PyData.depthAll ds ≤ n
  | [], _ => ⟨rfl, Nat.zero_le _⟩
  | d :: ds, h => by
    obtain ⟨h1, h2⟩ := fin_all (ds := ds) fun e he => h e (List.mem_cons_of_mem _ he)
    have h0 := h d (List.mem_cons_self ..)
    refine ⟨?_, ?_⟩
    · show (d.canLay0 && PyData.canLayAll0 ds) = true
      rw [h0.cl, h1]
      rfl
    · show max d.depth (PyData.depthAll ds) ≤ n
      have := h0.dp
      omega
theorem fin_tup {n : Nat} {ds : List PyData} (h : ∀ d ∈ ds, Fin d n) : Fin (.tuple ds) (n + 1) := ⟨(fin_all h).1, Nat.succ_le_succ (fin_all h).2⟩
theorem fin_mono {n m : Nat} {d : PyData} (h : Fin d n) (hn : n ≤ m) : Fin d m := ⟨h.cl, Nat.le_trans h.dp hn⟩
theorem fin_str {s : Str} (h : wordS s = true) : Fin (.str s) 0 := ⟨(wordS_lt h).ok, Nat.zero_le _⟩
theorem fin_int (i : Int) : Fin (.int i) 0 := ⟨rfl, Nat.zero_le _⟩
theorem fin_role {r : Option Str} (h : OkRole r) : Fin (rP r) 0 := by
  cases r with
  | none => exact ⟨rfl, Nat.zero_le _⟩
  | some s => exact fin_str (h s rfl)
theorem fin_strs {l : List Str} (h : GoodL l) : Fin (strsP l) 1 := fin_tup fun d hd => by
  obtain ⟨s, hs, rfl⟩ := List.mem_map.mp hd
  exact fin_str (h.wd s hs)
theorem fin_like {t : TkD} (h : GoodT t) : Fin (likeP t) 3 := by
  refine fin_tup (n := 2) fun d hd => ?_
  rcases List.mem_cons.mp hd with rfl | hd
  · exact fin_mono (fin_role h.ro) (by decide)
  rcases List.mem_cons.mp hd with rfl | hd
  · exact fin_mono (fin_int _) (by decide)
  rcases List.mem_cons.mp hd with rfl | hd
  · refine fin_tup (n := 1) fun d hd => ?_
    rcases List.mem_cons.mp hd with rfl | hd
    · exact fin_strs h.g1
    rcases List.mem_cons.mp hd with rfl | hd
    · exact fin_strs h.g2
    rcases List.mem_cons.mp hd with rfl | hd
    · exact fin_strs h.g3
    rcases List.mem_cons.mp hd with rfl | hd
    · exact fin_strs h.g4
    · cases hd
  · cases hd
theorem fin_plain {t : TkD} (h : GoodT t) : Fin (plainP t) 2 := by
  refine fin_tup (n := 1) fun d hd => ?_
  rcases List.mem_cons.mp hd with rfl | hd
  · exact fin_mono (fin_role h.ro) (by decide)
  rcases List.mem_cons.mp hd with rfl | hd
  · exact fin_mono (fin_int _) (by decide)
  rcases List.mem_cons.mp hd with rfl | hd
  · exact fin_strs h.g1
  rcases List.mem_cons.mp hd with rfl | hd
  · exact fin_strs h.g2
  rcases List.mem_cons.mp hd with rfl | hd
  · exact fin_strs h.g3
  rcases List.mem_cons.mp hd with rfl | hd
  · exact fin_strs h.g4
  · cases hd
structure TaskT (K : PySem.W.Frag) (C : Addr) : Prop where
  cl : Cls K C
  ha : PySem.W.findIn K (.ref C) "__class__" = some (some (.builtin "object.__class__"))
  hn : PySem.W.specialIn K (.builtin "object.__class__") "__get__" = some (some (.builtin "getset_descriptor.__get__"))
  ht : PySem.W.takesIn K (.builtin "object.__class__") = some true
  hm : PySem.W.mroIn K C (.type "object") = some true
  own : ((PySem.W.clsIn K C).isSome && PySem.W.typeIn K (.ref C) == some (.type "type")) = true
theorem TaskT.ty {K : PySem.W.Frag} {C : Addr} (h : TaskT K C) {H : Hp} {a dx : Addr} {fs : List (Str × V)} (e : H a = some (.ins C dx fs)) : TyX K H (.ref a) (.ref C) := .base (.ins e h.cl h.ha h.hn h.ht h.hm)
theorem TkI.obj {K : PySem.W.Frag} {G : Hp} {C a : Addr} {t : TkD} (h : TkI K G C a t) : ∃ dx fs, G a = some (.ins C dx fs) := let ⟨dx, t1, t2, t3, t4, h0, _⟩ := h; ⟨dx, _, h0⟩
section
variable {P : Program} {w : World} {K : PySem.W.Frag} {mg : Str → Option Value} {base : Heap} {f : Addr} {fd : FuncData} {C : Addr}
def spGet (x : Str) (C : Addr) : Sp := fun vs H Q _ => ∃ a dx fs v, vs = [.ref a] ∧ H a = some (.ins C dx fs) ∧ fs.lookup x = some v ∧ Q v H

theorem ok_g1 (TC : TaskC K C) (F : FunD K "role" "Task.role" (defArgs s_Task_role) (defBody s_Task_role) (defScope s_Task_role) [] [] f fd) : FnOk P w K mg base CX0 1 f fd ["self"] (spGet "own_role" C) := by
  have nd : N_Task_role.Nodup := sc_Task_role.nd
  refine F.ok sc_Task_role (fun vs H Q E h => ?_) (fun cdv A outer s H vs Q E hr h => ?_)
  · obtain ⟨a, dx, fs, v, rfl, _⟩ := h
    rfl
  have hu := hr.units
  refine ⟨_, PSs.nox   (pss_one (ps_ret (k_fld (K := K) (pv 0) rfl))), ?_⟩
  obtain ⟨a, dx, fs, v, rfl, ha, l, q⟩ := h
  repeat (walk_at "z")
  exact ⟨a, C, dx, fs, v, rfl, ha, TC.cl, TC.n1, l, q⟩

theorem ok_g2 (TC : TaskC K C) (F : FunD K "many" "Task.many" (defArgs s_Task_many) (defBody s_Task_many) (defScope s_Task_many) [] [] f fd) : FnOk P w K mg base CX0 1 f fd ["self"] (spGet "own_many" C) := by
  have nd : N_Task_many.Nodup := sc_Task_many.nd
  refine F.ok sc_Task_many (fun vs H Q E h => ?_) (fun cdv A outer s H vs Q E hr h => ?_)
  · obtain ⟨a, dx, fs, v, rfl, _⟩ := h
    rfl
  have hu := hr.units
  refine ⟨_, PSs.nox   (pss_one (ps_ret (k_fld (K := K) (pv 0) rfl))), ?_⟩
  obtain ⟨a, dx, fs, v, rfl, ha, l, q⟩ := h
  repeat (walk_at "z")
  exact ⟨a, C, dx, fs, v, rfl, ha, TC.cl, TC.n2, l, q⟩

theorem ok_g3 (TC : TaskC K C) (F : FunD K "other" "Task.other" (defArgs s_Task_other) (defBody s_Task_other) (defScope s_Task_other) [] [] f fd) : FnOk P w K mg base CX0 1 f fd ["self"] (spGet "own_other" C) := by
  have nd : N_Task_other.Nodup := sc_Task_other.nd
  refine F.ok sc_Task_other (fun vs H Q E h => ?_) (fun cdv A outer s H vs Q E hr h => ?_)
  · obtain ⟨a, dx, fs, v, rfl, _⟩ := h
    rfl
  have hu := hr.units
  refine ⟨_, PSs.nox   (pss_one (ps_ret (k_fld (K := K) (pv 0) rfl))), ?_⟩
  obtain ⟨a, dx, fs, v, rfl, ha, l, q⟩ := h
  repeat (walk_at "z")
  exact ⟨a, C, dx, fs, v, rfl, ha, TC.cl, TC.n3, l, q⟩

theorem ok_g4 (TC : TaskC K C) (F : FunD K "same" "Task.same" (defArgs s_Task_same) (defBody s_Task_same) (defScope s_Task_same) [] [] f fd) : FnOk P w K mg base CX0 1 f fd ["self"] (spGet "own_same" C) := by
  have nd : N_Task_same.Nodup := sc_Task_same.nd
  refine F.ok sc_Task_same (fun vs H Q E h => ?_) (fun cdv A outer s H vs Q E hr h => ?_)
  · obtain ⟨a, dx, fs, v, rfl, _⟩ := h
    rfl
  have hu := hr.units
  refine ⟨_, PSs.nox   (pss_one (ps_ret (k_fld (K := K) (pv 0) rfl))), ?_⟩
  obtain ⟨a, dx, fs, v, rfl, ha, l, q⟩ := h
  repeat (walk_at "z")
  exact ⟨a, C, dx, fs, v, rfl, ha, TC.cl, TC.n4, l, q⟩

theorem ok_g5 (TC : TaskC K C) (F : FunD K "takes" "Task.takes" (defArgs s_Task_takes) (defBody s_Task_takes) (defScope s_Task_takes) [] [] f fd) : FnOk P w K mg base CX0 1 f fd ["self"] (spGet "own_takes" C) := by
  have nd : N_Task_takes.Nodup := sc_Task_takes.nd
  refine F.ok sc_Task_takes (fun vs H Q E h => ?_) (fun cdv A outer s H vs Q E hr h => ?_)
  · obtain ⟨a, dx, fs, v, rfl, _⟩ := h
    rfl
  have hu := hr.units
  refine ⟨_, PSs.nox   (pss_one (ps_ret (k_fld (K := K) (pv 0) rfl))), ?_⟩
  obtain ⟨a, dx, fs, v, rfl, ha, l, q⟩ := h
  repeat (walk_at "z")
  exact ⟨a, C, dx, fs, v, rfl, ha, TC.cl, TC.n5, l, q⟩

theorem ok_g6 (TC : TaskC K C) (F : FunD K "forgets" "Task.forgets" (defArgs s_Task_forgets) (defBody s_Task_forgets) (defScope s_Task_forgets) [] [] f fd) : FnOk P w K mg base CX0 1 f fd ["self"] (spGet "own_forgets" C) := by
  have nd : N_Task_forgets.Nodup := sc_Task_forgets.nd
  refine F.ok sc_Task_forgets (fun vs H Q E h => ?_) (fun cdv A outer s H vs Q E hr h => ?_)
  · obtain ⟨a, dx, fs, v, rfl, _⟩ := h
    rfl
  have hu := hr.units
  refine ⟨_, PSs.nox   (pss_one (ps_ret (k_fld (K := K) (pv 0) rfl))), ?_⟩
  obtain ⟨a, dx, fs, v, rfl, ha, l, q⟩ := h
  repeat (walk_at "z")
  exact ⟨a, C, dx, fs, v, rfl, ha, TC.cl, TC.n6, l, q⟩

def spLike (K : PySem.W.Frag) (C : Addr) : Sp := fun vs H Q _ => ∃ G M a t, vs = [.ref a] ∧ Zp G M H ∧ TkI K G C a t ∧ ∀ p G1 H1, Zp G1 M H1 → Same G G1 → Dt K G1 (.ref p) (likeP t) → Q (.ref p) H1
theorem ok_like (TC : TaskC K C) (F : FunD K "likeness" "Task.likeness" (defArgs s_Task_likeness) (defBody s_Task_likeness) (defScope s_Task_likeness) [] [] f fd) : FnOk P w K mg base CX0 1 f fd ["self"] (spLike K C) := by
  have nd : N_Task_likeness.Nodup := sc_Task_likeness.nd
  refine F.ok sc_Task_likeness (fun vs H Q E h => ?_) (fun cdv A outer s H vs Q E hr h => ?_)
  · obtain ⟨G, M, a, t, rfl, _⟩ := h
    rfl
  have hu := hr.units
  refine ⟨_, PSs.nox   (pss_cons (ps_asg (pe_tup (pa_cons (k_fld (K := K) (pv 0) rfl) (pa_cons (k_fld (K := K) (pv 0) rfl) (pa_cons (k_fld (K := K) (pv 0) rfl) (pa_cons (k_fld (K := K) (pv 0) rfl) pa_nil))))) (pg_name (i := 1) nd rfl (by first | exact .inl rfl | exact .inr rfl)))
    (pss_one (ps_ret (pe_tup (pa_cons (k_fld (K := K) (pv 0) rfl) (pa_cons (k_fld (K := K) (pv 0) rfl) (pa_cons (pv 1) pa_nil))))))), ?_⟩
  obtain ⟨G, M, a, t, rfl, z, ⟨dx, t1, t2, t3, t4, h0, h1, h2, h3, h4⟩, q⟩ := h
  repeat (walk_at "z")
  refine z_flI z h0 TC.cl TC.n3 (by rfl) ?_
  repeat (walk_at "z")
  refine z_flI z h0 TC.cl TC.n4 (by rfl) ?_
  repeat (walk_at "z")
  refine z_flI z h0 TC.cl TC.n5 (by rfl) ?_
  repeat (walk_at "z")
  refine z_flI z h0 TC.cl TC.n6 (by rfl) ?_
  repeat (walk_at "z")
  refine z_newT z (by simp) fun p1 G1 H1 z1 s1 e1 => ?_
  repeat (walk_at "z")
  refine z_flI z1 (s1 _ _ h0) TC.cl TC.n1 (by rfl) ?_
  repeat (walk_at "z")
  refine z_flI z1 (s1 _ _ h0) TC.cl TC.n2 (by rfl) ?_
  repeat (walk_at "z")
  refine z_newT z1 (by simp) fun p2 G2 H2 z2 s2 e2 => ?_
  have s12 := s1.trans s2
  exact q p2 G2 _ z2 s12 (.tup (SqT.of e2) (.cons (rDt _) (.cons (.int _) (.cons (.tup (SqT.of (s2 _ _ e1)) (.cons (.tup (upT s12 h1) (dts_str _)) (.cons (.tup (upT s12 h2) (dts_str _)) (.cons (.tup (upT s12 h3) (dts_str _)) (.cons (.tup (upT s12 h4) (dts_str _)) .nil))))) .nil))))
def spEqT (K : PySem.W.Frag) (C : Addr) : Sp := fun vs H Q _ => ∃ G M a t v, vs = [.ref a, v] ∧ Zp G M H ∧ TkI K G C a t ∧ GoodT t ∧
  ((∃ b u, v = .ref b ∧ TkI K G C b u ∧ GoodT u ∧ ∀ G1 H1, Zp G1 M H1 → Same G G1 → Q (.bl (PyData.eqv (likeP t) (likeP u))) H1) ∨ ∃ d, Dt K G v d ∧ Q (.bl false) H)
theorem sub_own (K : PySem.W.Frag) (C : Addr) (d : PyData) : PySem.W.subIn K (.type (tyD d)) (.ref C) = some false := by
  have go : ∀ (T : String) (l : List Value), fastBuiltinMro T = some l → (∀ v ∈ l, ∃ n, v = .type n) → PySem.W.subIn K (.type T) (.ref C) = some false := by
    intro T l e h
    show (fastBuiltinMro T).map (·.contains (.ref C)) = some false
    rw [e]
    show some (l.contains (.ref C)) = some false
    congr 1
    rw [List.contains_eq_any_beq, List.any_eq_false]
    intro v hv
    obtain ⟨n, rfl⟩ := h v hv
    simp
  have h1 : ∀ (a : String), ∀ v ∈ [Value.type a, Value.type "object"], ∃ n, v = .type n := fun a v hv => by
    simp at hv
    rcases hv with rfl | rfl <;> exact ⟨_, rfl⟩
  have h3 : ∀ v ∈ [Value.type "bool", Value.type "int", Value.type "object"], ∃ n, v = .type n := fun v hv => by
    simp at hv
    rcases hv with rfl | rfl | rfl <;> exact ⟨_, rfl⟩
  cases d with
  | none => exact go "NoneType" [.type "NoneType", .type "object"] (by decide +kernel) (h1 _)
  | bool _ => exact go "bool" [.type "bool", .type "int", .type "object"] (by decide +kernel) h3
  | int _ => exact go "int" [.type "int", .type "object"] (by decide +kernel) (h1 _)
  | str _ => exact go "str" [.type "str", .type "object"] (by decide +kernel) (h1 _)
  | list _ => exact go "list" [.type "list", .type "object"] (by decide +kernel) (h1 _)
  | tuple _ => exact go "tuple" [.type "tuple", .type "object"] (by decide +kernel) (h1 _)
  | dict _ => exact go "dict" [.type "dict", .type "object"] (by decide +kernel) (h1 _)
theorem kit_own {K : PySem.W.Frag} {C : Addr} (h : ((PySem.W.clsIn K C).isSome && PySem.W.typeIn K (.ref C) == some (.type "type")) = true) (d : PyData) : PySem.W.kitOne K (.type (tyD d)) (.ref C) = some false := by
  show (if (Value.type (tyD d) == Value.ref C) = true then some true else (if ((PySem.W.clsIn K C).isSome && PySem.W.typeIn K (.ref C) == some (.type "type")) = true then PySem.W.subIn K (.type (tyD d)) (.ref C) else none)) = some false
  rw [if_neg (by simp), if_pos h, sub_own]
theorem nf_own (K : PySem.W.Frag) (C : Addr) (d : PyData) : PySem.W.notFirst K C (.type (tyD d)) = true := by
  unfold PySem.W.notFirst
  rw [sub_own]
  simp
theorem ok_eq (T : Nm K mg) (TT : TaskT K C) (g_Task : mg "Task" = some (.ref C)) (M_likeness : Mth P w K mg base CX0 1 C "likeness" ["self"] [] (spLike K C)) (F : FunD K "__eq__" "Task.__eq__" (defArgs s_Task_eq) (defBody s_Task_eq) (defScope s_Task_eq) [] [] f fd) :
    FnOk P w K mg base CX0 2 f fd ["self", "other"] (spEqT K C) := by
  have nd : N_Task_eq.Nodup := sc_Task_eq.nd
  refine F.ok sc_Task_eq (fun vs H Q E h => ?_) (fun cdv A outer s H vs Q E hr h => ?_)
  · obtain ⟨G, M, a, t, v, rfl, _⟩ := h
    rfl
  have hu := hr.units
  refine ⟨_, PSs.nox   (pss_one (ps_ret (pe_and (pe_callB (kc_isi (K := K)) (by rfl) T.b_isinstance boot_isinstance (pa_cons (pv 1) (pa_cons (pe_glob (v := .ref C) (by rfl) g_Task rfl) pa_nil))) (pe_one (pe_cmpR (k_eq (K := K) hu) (pe_mt0 M_likeness (hr.mono (by decide)) pass0 (pv 0)) (pe_mt0 M_likeness (hr.mono (by decide)) pass0 (pv 1)) (nomark _)))))), ?_⟩
  obtain ⟨G, M, a, t, v, rfl, z, ht, gt, h⟩ := h
  obtain ⟨da, fa, ea⟩ := ht.obj
  rcases h with ⟨b, u, rfl, hu2, gu, q⟩ | ⟨d, hd, q⟩
  · obtain ⟨db, fb, eb⟩ := hu2.obj
    repeat (walk_at "z")
    refine z_isi (.own C) (TT.ty (z.sub _ _ eb)) (if_pos (by simp)) ?_
    repeat (walk_at "z")
    obtain ⟨dx, t1, t2, t3, t4, h0, _⟩ := ht
    refine z_mtI z h0 (by rfl) ?_
    repeat (walk_at "z")
    refine ⟨G, M, a, t, rfl, z, ⟨dx, t1, t2, t3, t4, h0, ‹_›⟩, fun p1 G1 H1 z1 s1 e1 => ?_⟩
    repeat (walk_at "z")
    obtain ⟨dy, u1, u2, u3, u4, k0, k1⟩ := hu2
    refine z_mtI z1 (s1 _ _ k0) (by rfl) ?_
    repeat (walk_at "z")
    refine ⟨G1, M, b, u, rfl, z1, TkI.up s1 ⟨dy, u1, u2, u3, u4, k0, k1⟩, fun p2 G2 H2 z2 s2 e2 => ?_⟩
    repeat (walk_at "z")
    refine z_eqD z2 (e1.up s2) e2 ((fin_like gt).sh (by decide)) ((fin_like gu).sh (by decide)) ?_
    exact q G2 _ z2 (s1.trans s2)
  · repeat (walk_at "z")
    refine z_isi (.own C) (hd.up z.sub).ty (kit_own TT.own d) ?_
    repeat (walk_at "z")
    exact q
end
end LW
namespace LW
open PySem PySem.Spec PyProof.Rows L2 Ys

/-! ### tasks that may be refused -/
def noneD : PyData → Bool
  | .none => true
  | _ => false
def badRole (d : PyData) : Bool := !noneD d && !wordD d
def dueD (d0 d1 d2 d3 d4 d5 : PyData) : Option Str :=
  if badRole d0 then some "role" else if withinD 1 3 d1 = false then some "many" else if diffD none d2 = false then some "other" else if diffD none d3 = false then some "same" else if diffD none d4 = false then some "takes" else if diffD none d5 = false then some "forgets" else none
theorem non_iff {K : PySem.W.Frag} {G : Hp} {v : V} {d : PyData} (h : Dt K G v d) : decide (v = .non) = noneD d := by cases h <;> rfl
structure Fn60 (d : PyData) : Prop where
  fi : FineD d
  le : (itemsD d).length ≤ 60
theorem diff_strs {d : PyData} (h : diffD none d = true) : listD d = true ∧ itemsD d = ((itemsD d).map strOf).map PyData.str := by
  obtain ⟨h1, _⟩ := Bool.and_eq_true_iff.mp h
  obtain ⟨h2, h3⟩ := Bool.and_eq_true_iff.mp h1
  obtain ⟨_, h4⟩ := Bool.and_eq_true_iff.mp h3
  exact ⟨h2, strs_of h4⟩
section
variable {P : Program} {w : World} {K : PySem.W.Frag} {mg : Str → Option Value} {base : Heap} {f : Addr} {fd : FuncData} {C CI : Addr}
def spInitX (K : PySem.W.Frag) (C CI : Addr) : Sp := fun vs H Q E => ∃ x dx G M v0 v1 v2 v3 v4 v5 d0 d1 d2 d3 d4 d5, vs = [.ref x, v0, v1, v2, v3, v4, v5] ∧ Zp G (M ++ [(x, .ins C dx [])]) H ∧ (Dt K G v0 d0 ∧ ShortD d0) ∧ Dt K G v1 d1 ∧
  (Ar K G M v2 d2 ∧ Fn60 d2) ∧ (Ar K G M v3 d3 ∧ Fn60 d3) ∧ (Ar K G M v4 d4 ∧ Fn60 d4) ∧ (Ar K G M v5 d5 ∧ Fn60 d5) ∧
  (dueD d0 d1 d2 d3 d4 d5 = none → ∀ G1 H1, Zp G1 M H1 → Same G G1 → Q .non H1) ∧
  ∀ fl, dueD d0 d1 d2 d3 d4 d5 = some fl → ∀ dd G1 H1, Zp G1 M H1 → Same G G1 → G1 dd = some (.xd [("field", .str fl)]) → E (.ref CI) (some dd) H1
theorem ok_initX (T : Nm K mg) (TC : TaskC K C) (C_is_word : OwnW P w K mg base) (C_is_within : Own P w K mg base CX0 2 "is_within" ["value", "least", "most"] (spWithin K))
    (C_are_different_words_1 : OwnA P w K mg base CX0 3 "are_different_words" ["value", "most"] [.non] (spDiff K)) (C_ascending : Own P w K mg base CX0 1 "ascending" ["words"] (spAsc K)) (S_InvalidTask : ExcS P w K mg base CI "InvalidTask" "field")
    {kws : List (Str × V)} (F : FunD K "__init__" "Task.__init__" (defArgs s_Task_init) (defBody s_Task_init) (defScope s_Task_init) [.non] kws f fd) :
    FnOk P w K mg base (L2.CX P w) 4 f fd ["self", "role", "many", "other", "same", "takes", "forgets"] (spInitX K C CI) := by
  have nd : N_Task_init.Nodup := sc_Task_init.nd
  refine F.ok sc_Task_init (fun vs H Q E h => ?_) (fun cdv A outer s H vs Q E hr h => ?_)
  · obtain ⟨x, dx, G, M, v0, v1, v2, v3, v4, v5, d0, d1, d2, d3, d4, d5, rfl, _⟩ := h
    rfl
  have hu := hr.units
  refine ⟨_,   (pss_cons (ps_if (PW.pt (pw_and (pt_cmpR o_notN (pv 1) pe_non (nomark _)) (pw_and1 (pt_not (pt_val (pe_own C_is_word (hr.mono (by decide)) (by rfl) pass0 (pa_cons (pv 1) pa_nil))))))) (pss_one (ps_rs S_InvalidTask rfl (takes_of rfl rfl rfl rfl) (hr.mono (by decide)) (by rfl) pe_str)) pss_nil)
    (pss_cons (ps_if (pt_not (pt_val (pe_own C_is_within (hr.mono (by decide)) (by rfl) pass0 (pa_cons (pv 2) (pa_cons pe_int (pa_cons (pe_gC T.g_MANY (by rfl)) pa_nil)))))) (pss_one (ps_rs S_InvalidTask rfl (takes_of rfl rfl rfl rfl) (hr.mono (by decide)) (by rfl) pe_str)) pss_nil)
    (pss_cons (ps_for (passes_of rfl) rfl (k_tup (K := K) (pe_tup (pa_cons (pe_tup (pa_cons pe_str (pa_cons (pv 3) pa_nil))) (pa_cons (pe_tup (pa_cons pe_str (pa_cons (pv 4) pa_nil))) (pa_cons (pe_tup (pa_cons pe_str (pa_cons (pv 5) pa_nil))) (pa_cons (pe_tup (pa_cons pe_str (pa_cons (pv 6) pa_nil))) pa_nil)))))) (kg_tup (K := K) (n := 2) rfl (pgs_cons (pg_name (i := 7) nd rfl (by first | exact .inl rfl | exact .inr rfl)) (pgs_cons (pg_name (i := 8) nd rfl (by first | exact .inl rfl | exact .inr rfl)) pgs_nil))) (pss_one (ps_if (pt_not (pt_val (pe_ownA C_are_different_words_1 (hr.mono (by decide)) (by rfl) pass0 (pa_cons (pv 8) pa_nil)))) (pss_one (ps_rs S_InvalidTask rfl (takes_of rfl rfl rfl rfl) (hr.mono (by decide)) (by rfl) (pv 7))) pss_nil)))
    (pss_cons (ps_fld (pv 0) (pv 1) rfl)
    (pss_cons (ps_fld (pv 0) (pv 2) rfl)
    (pss_cons (ps_fld (pv 0) (pe_own C_ascending (hr.mono (by decide)) (by rfl) pass0 (pa_cons (pv 3) pa_nil)) rfl)
    (pss_cons (ps_fld (pv 0) (pe_own C_ascending (hr.mono (by decide)) (by rfl) pass0 (pa_cons (pv 4) pa_nil)) rfl)
    (pss_cons (ps_fld (pv 0) (pe_own C_ascending (hr.mono (by decide)) (by rfl) pass0 (pa_cons (pv 5) pa_nil)) rfl)
    (pss_one (ps_fld (pv 0) (pe_own C_ascending (hr.mono (by decide)) (by rfl) pass0 (pa_cons (pv 6) pa_nil)) rfl)))))))))), ?_⟩
  obtain ⟨x, dx, G, M, v0, v1, v2, v3, v4, v5, d0, d1, d2, d3, d4, d5, rfl, z, ⟨a0, sh0⟩, a1, ⟨a2, f2⟩, ⟨a3, f3⟩, ⟨a4, f4⟩, ⟨a5, f5⟩, q, qx⟩ := h
  have up2 : ∀ (fs : List (Str × V)), ∀ u ∈ M, u ∈ M ++ [(x, HO.ins C dx fs)] := fun fs u hu => List.mem_append_left _ hu
  have rz : ∀ {G1 : Hp} {H1 : Hp} (fl : Str), Zp G1 (M ++ [(x, .ins C dx [])]) H1 → Same G G1 → dueD d0 d1 d2 d3 d4 d5 = some fl → RsW K CI "field" (.str fl) H1 fun cls d H' => E cls d H' := fun fl z1 s1 e => z_rsI fun dd hd => qx fl e dd _ _ (z1.new hd _).cut (s1.trans (Same.new (z1.free hd))) upd_same
  with_reducible refine z_cut (fun σ H1 => ∃ G1, Zp G1 (M ++ [(x, .ins C dx [])]) H1 ∧ Same G G1 ∧ badRole d0 = false ∧ σ = L2.start N_Task_init [.ref x, v0, v1, v2, v3, v4, v5]) (fun nx hnx => ?_) (fun σ H1 h1 => ?_)
  · repeat (walk_at "z")
    refine z_nN ?_
    rw [non_iff a0]
    repeat (walk_at "z")
    cases hn : noneD d0 with
    | true =>
      repeat (walk_at "z")
      exact hnx _ _ ⟨G, z, Same.refl G, by unfold badRole; rw [hn]; rfl, rfl⟩
    | false =>
      repeat (walk_at "z")
      refine ⟨G, _, v0, d0, rfl, z, a0, sh0, fun G1 H1 z1 s1 => ?_⟩
      repeat (walk_at "z")
      cases hw : wordD d0 with
      | true =>
        repeat (walk_at "z")
        exact hnx _ _ ⟨G1, z1, s1, by unfold badRole; rw [hw, hn]; rfl, rfl⟩
      | false =>
        repeat (walk_at "z")
        exact rz "role" z1 s1 (by unfold dueD badRole; rw [hw, hn]; rfl)
  obtain ⟨G1, z1, s1, b0, rfl⟩ := h1
  with_reducible refine z_cut (fun σ H2 => H2 = H1 ∧ withinD 1 3 d1 = true ∧ σ = L2.start N_Task_init [.ref x, v0, v1, v2, v3, v4, v5]) (fun nx hnx => ?_) (fun σ H2 h2 => ?_)
  · repeat (walk_at "z")
    refine ⟨G1, _, _, d1, 1, 3, rfl, z1, a1.up s1, ?_⟩
    repeat (walk_at "z")
    cases hw : withinD 1 3 d1 with
    | true =>
      repeat (walk_at "z")
      exact hnx _ _ ⟨rfl, hw, rfl⟩
    | false =>
      repeat (walk_at "z")
      exact rz "many" z1 s1 (by unfold dueD; rw [b0, hw]; rfl)
  obtain ⟨rfl, b1, rfl⟩ := h2
  -- the lists
  let dsL : List PyData := [d2, d3, d4, d5]
  with_reducible refine z_cut (fun σ H3 => ∃ G2 k7 k8, Zp G2 (M ++ [(x, .ins C dx [])]) H3 ∧ Same G1 G2 ∧ (∀ d ∈ dsL, diffD none d = true) ∧ σ = [some (.ref x), some v0, some v1, some v2, some v3, some v4, some v5, k7, k8]) (fun nx hnx => ?_) (fun σ H3 h3 => ?_)
  · repeat (walk_at "z")
    refine z_newT z1 (by simp) fun p2 G2 H2 z2 s2 e2 => ?_
    repeat (walk_at "z")
    refine z_newT z2 (by simp) fun p3 G3 H3 z3 s3 e3 => ?_
    repeat (walk_at "z")
    refine z_newT z3 (by simp) fun p4 G4 H4 z4 s4 e4 => ?_
    repeat (walk_at "z")
    refine z_newT z4 (by simp) fun p5 G5 H5 z5 s5 e5 => ?_
    repeat (walk_at "z")
    refine z_newT z5 (by simp) fun p6 G6 H6 z6 s6 e6 => ?_
    repeat (walk_at "z")
    refine z_itT z6 (SqT.of e6) ?_
    have t0 : Same G G6 := s1.trans (s2.trans (s3.trans (s4.trans (s5.trans s6))))
    refine for_src src_T (fun i σ G' M' => ∃ k7 k8, M' = M ++ [(x, .ins C dx [])] ∧ Same G6 G' ∧ (∀ d ∈ dsL.take i, diffD none d = true) ∧ σ = [some (.ref x), some v0, some v1, some v2, some v3, some v4, some v5, k7, k8]) z6 ⟨_, _, rfl, Same.refl _, by simp, rfl⟩
      (fun i σ G' M' H' ⟨_, _, _, s', _⟩ z' => z'.seqT (upT s' (SqT.of e6))) ?_ ?_
    · rintro i x1 σ G' M' H' hx ⟨k7, k8, rfl, s', hdi, rfl⟩ z'
      have hi : i < 4 := (List.getElem?_eq_some_iff.mp hx).1
      obtain ⟨pp, fl, v, d, rfl, hp, ha, ho, hd, hdue⟩ : ∃ pp, ∃ fl : Str, ∃ v d, x1 = .ref pp ∧ G6 pp = some (.tup [.str fl, v]) ∧ Ar K G M v d ∧ Fn60 d ∧ dsL[i]? = some d ∧ (diffD none d = false → dueD d0 d1 d2 d3 d4 d5 = some fl) := by
        rcases (show i = 0 ∨ i = 1 ∨ i = 2 ∨ i = 3 by omega) with rfl | rfl | rfl | rfl
        all_goals (obtain rfl := Option.some.inj hx)
        · exact ⟨p2, _, v2, d2, rfl, s6 _ _ (s5 _ _ (s4 _ _ (s3 _ _ e2))), a2, f2, rfl, fun h => by unfold dueD; rw [b0, b1, h]; rfl⟩
        · have g2 := hdi d2 (by simp [dsL])
          exact ⟨p3, _, v3, d3, rfl, s6 _ _ (s5 _ _ (s4 _ _ e3)), a3, f3, rfl, fun h => by unfold dueD; rw [b0, b1, g2, h]; rfl⟩
        · have g2 := hdi d2 (by simp [dsL])
          have g3 := hdi d3 (by simp [dsL])
          exact ⟨p4, _, v4, d4, rfl, s6 _ _ (s5 _ _ e4), a4, f4, rfl, fun h => by unfold dueD; rw [b0, b1, g2, g3, h]; rfl⟩
        · have g2 := hdi d2 (by simp [dsL])
          have g3 := hdi d3 (by simp [dsL])
          have g4 := hdi d4 (by simp [dsL])
          exact ⟨p5, _, v5, d5, rfl, s6 _ _ e5, a5, f5, rfl, fun h => by unfold dueD; rw [b0, b1, g2, g3, g4, h]; rfl⟩
      refine z_gtup z' (SqT.of (s' _ _ hp)) rfl ?_
      repeat (walk_at "z")
      refine ⟨G', _, v, d, none, rfl, z', ar_up ha (t0.trans s') (up2 _), ho.fi, fun G7 H7 z7 s7 => ?_⟩
      repeat (walk_at "z")
      cases hw : diffD none d with
      | true =>
        repeat (walk_at "z")
        refine ⟨G7, _, z7, _, _, rfl, s'.trans s7, ?_, rfl⟩
        intro e he
        rw [List.take_add_one, hd] at he
        rcases List.mem_append.mp he with he | he
        · exact hdi e he
        · obtain rfl : e = d := by simpa using he
          exact hw
      | false =>
        repeat (walk_at "z")
        exact rz fl z7 (t0.trans (s'.trans s7)) (hdue hw)
    · rintro σ G' M' H' ⟨k7, k8, rfl, s', hdi, rfl⟩ z'
      exact hnx _ _ ⟨G', k7, k8, z', s2.trans (s3.trans (s4.trans (s5.trans (s6.trans s')))), hdi, rfl⟩
  obtain ⟨G2, k7, k8, z2, s2, hall, rfl⟩ := h3
  have g2 := hall d2 (by simp [dsL])
  have g3 := hall d3 (by simp [dsL])
  have g4 := hall d4 (by simp [dsL])
  have g5 := hall d5 (by simp [dsL])
  have hdue : dueD d0 d1 d2 d3 d4 d5 = none := by unfold dueD; rw [b0, b1, g2, g3, g4, g5]; rfl
  have s12 := s1.trans s2
  obtain ⟨l2, i2⟩ := diff_strs g2
  obtain ⟨l3, i3⟩ := diff_strs g3
  obtain ⟨l4, i4⟩ := diff_strs g4
  obtain ⟨l5, i5⟩ := diff_strs g5
  repeat (walk_at "z")
  refine z_fsL z2 TC.cl TC.n1 (by decide) fun H4 z4 => ?_
  repeat (walk_at "z")
  refine z_fsL z4 TC.cl TC.n2 (by repeat (first | decide | refine putF_lt ?_)) fun H5 z5 => ?_
  repeat (walk_at "z")
  refine ⟨G2, _, v2, d2, _, rfl, z5, ar_up a2 s12 (up2 _), l2, i2, by rw [List.length_map]; have := f2.le; omega, fun p6 G6 H6 z6 s6 h6 => ?_⟩
  repeat (walk_at "z")
  refine z_fsL z6 TC.cl TC.n3 (by repeat (first | decide | refine putF_lt ?_)) fun H7 z7 => ?_
  repeat (walk_at "z")
  refine ⟨G6, _, v3, d3, _, rfl, z7, ar_up a3 (s12.trans s6) (up2 _), l3, i3, by rw [List.length_map]; have := f3.le; omega, fun p8 G8 H8 z8 s8 h8 => ?_⟩
  repeat (walk_at "z")
  refine z_fsL z8 TC.cl TC.n4 (by repeat (first | decide | refine putF_lt ?_)) fun H9 z9 => ?_
  repeat (walk_at "z")
  refine ⟨G8, _, v4, d4, _, rfl, z9, ar_up a4 (s12.trans (s6.trans s8)) (up2 _), l4, i4, by rw [List.length_map]; have := f4.le; omega, fun p10 G10 H10 z10 s10 h10 => ?_⟩
  repeat (walk_at "z")
  refine z_fsL z10 TC.cl TC.n5 (by repeat (first | decide | refine putF_lt ?_)) fun H11 z11 => ?_
  repeat (walk_at "z")
  refine ⟨G10, _, v5, d5, _, rfl, z11, ar_up a5 (s12.trans (s6.trans (s8.trans s10))) (up2 _), l5, i5, by rw [List.length_map]; have := f5.le; omega, fun p12 G12 H12 z12 s12' h12 => ?_⟩
  repeat (walk_at "z")
  refine z_fsL z12 TC.cl TC.n6 (by repeat (first | decide | refine putF_lt ?_)) fun H13 z13 => ?_
  have fr : G12 x = none := (z13.own M.length _ _ last_at).2
  exact q hdue _ _ z13.fix (s12.trans (s6.trans (s8.trans (s10.trans (s12'.trans (Same.new fr))))))
theorem FnOk_cx {P : Program} {w : World} {K : PySem.W.Frag} {mg : Str → Option Value} {base : Heap} {CX : CXT} {k : Nat} {f : Addr} {fd : FuncData} {ps : List Str} {sp : Sp} (F : FnOk P w K mg base CX0 k f fd ps sp) : FnOk P w K mg base CX k f fd ps sp :=
  ⟨F.len, fun A outer s H args us vs Q E hr e0 hb r q => codeAny_mono (F.run A outer s H args us vs Q E hr e0 hb r q) fun rr s' h => match rr, h with
    | .error e, h => h.elim
    | .ok (.ret _), h => h
    | .ok .next, h => h
    | .ok .brk, h => h
    | .ok .cont, h => h⟩
theorem FnOk_or {P : Program} {w : World} {K : PySem.W.Frag} {mg : Str → Option Value} {base : Heap} {CX : CXT} {k : Nat} {f : Addr} {fd : FuncData} {ps : List Str} {s1 s2 : Sp} (F1 : FnOk P w K mg base CX k f fd ps s1) (F2 : FnOk P w K mg base CX k f fd ps s2) : FnOk P w K mg base CX k f fd ps (fun vs H Q E => s1 vs H Q E ∨ s2 vs H Q E) :=
  ⟨fun vs H Q E h => h.elim (F1.len vs H Q E) (F2.len vs H Q E), fun A outer s H args us vs Q E hr e0 hb r q => q.elim (F1.run A outer s H args us vs Q E hr e0 hb r) (F2.run A outer s H args us vs Q E hr e0 hb r)⟩
def spTk (K : PySem.W.Frag) (C CI : Addr) : Sp := fun vs H Q E => spInit K C vs H Q E ∨ spInitX K C CI vs H Q E
end
end LW
namespace LW
open PySem PySem.Spec PyProof.Rows L2 Ys

/-! ### tasks made by super().__init__ -/
open NdefX
abbrev nfI (qual : Str) (s : Stmt) (cc c : Addr) : NF := ⟨"__init__", qual, defArgs s, defBody s, defScope s, [(("__class__" : Str), cc)], c⟩
abbrev psI : List Str := ["self", "role", "many", "other", "same", "takes", "forgets"]
theorem passXU {X : Cx} {E : XK} (tk : Takes X (fun cls d _ H => E cls d H)) : Passes (L2.CX X.prog X.w) X E := passes_call tk fun _ _ _ _ h => h
def gMO (es vs zs : List V) : List V := vs ++ (zs ++ es)
section
variable {P : Program} {w : World} {K : PySem.W.Frag} {mg : Str → Option Value} {base : Heap} {C CI fI fT cc cda : Addr} {fd fdT : FuncData} {g : List Value → List Value → List Value}
def spVote (K : PySem.W.Frag) (C CI : Addr) (es : List V) : Sp := fun vs H Q E => ∃ x dx fs v0 v1 v2, vs = [.ref x, v1, v0, v2] ∧ H x = some (.ins C dx fs) ∧ spTk K C CI (.ref x :: v0 :: v1 :: v2 :: es) H (fun _ H3 => Q .non H3) E
theorem ok_vote {es : List V} (T : Nm K mg) (hsup : mg "super" = none) (S : SupC P K C fI fT cc (nfI "Vote.__init__" s_Vote_init cc cda) fd) (TI : FnOk P w K mg base (L2.CX P w) 4 fT fdT psI (spTk K C CI)) (hb : KBn K fdT psI 2 ["many", "other"] g (gMO es)) :
    FnOk P w K mg base (L2.CX P w) 6 fI fd ["self", "many", "role", "other"] (spVote K C CI es) := by
  refine fnok_sup (N := ["self", "many", "role", "other", "__class__"]) S (nscope_by (sc := defScope s_Vote_init) (by decide +kernel)) (fun vs H Q E h => ?_) (fun A outer s H vs Q E hr h => ?_)
  · obtain ⟨x, dx, fs, v0, v1, v2, rfl, _⟩ := h
    rfl
  refine ⟨_, psw_super (n := 1) (ks := ["many", "other"]) (pl := _) S rfl (by rfl) (by rfl) (by rfl) rfl hsup TI hb (hr.mono (by omega)) (passXU (takes_of rfl rfl rfl rfl)) (pa_cons (pv 2) pa_nil) (pk_cons (pv 1) (pk_cons (pv 3) pk_nil)) (by rfl) (by rfl) (by rfl) (by rfl) (by rfl) (by rfl), ?_⟩
  obtain ⟨x, dx, fs, v0, v1, v2, rfl, hx, h⟩ := h
  refine ⟨x, dx, fs, rfl, hx, ?_⟩
  repeat (walk_at "z")
  refine ⟨rfl, ?_⟩
  repeat (walk_at "z")
  exact ⟨rfl, h⟩
end
end LW
namespace LW
open PySem PySem.Spec PyProof.Rows L2 Ys

/-! ### tasks whose names stand side by side -/
open NdefX
def rEqT0 (K : PySem.W.Frag) : R2 := fun x y H Q => ∃ a b xs, x = V.ref a ∧ y = V.ref b ∧ SqT K H a xs ∧ SqT K H b [] ∧ Q (.bl (decide (xs = []))) H
theorem op_eqT0 {X : Cx} (hu : X.A.units + 64 < cLine) : OpR X (compareOp .Eq) (rEqT0 X.K) := by
  intro pins s σ H x y v u Q I rx ry ⟨a, b, xs, e1, e2, h1, h2, q⟩
  subst e1 e2
  cases rx
  cases ry
  obtain ⟨i1, r1, ⟨o1, ho1, hc1, n1, hd1⟩, _⟩ := I.tuple h1
  obtain ⟨i2, r2, ⟨o2, ho2, hc2, n2, hd2⟩, _⟩ := I.tuple h2
  have l1 := r1.length
  have l2 := r2.length
  have e2 : i2 = [] := List.length_eq_zero_iff.mp l2.symm
  subst e2
  refine PySem.SeqAt.RcAt.tuples (e := fun _ => true) ⟨o1, ho1, hc1, n1, hd1⟩ ⟨o2, ho2, hc2, n2, hd2⟩ (by omega) (fun j j1 j2 => absurd j2 (by simp)) X.prog X.w X.xe _ ⟨.bl _, H, I, rfl, ?_⟩
  cases xs with
  | nil =>
    have : i1 = [] := List.length_eq_zero_iff.mp l1.symm
    subst this
    exact q
  | cons x r =>
    cases i1 with
    | nil => simp at l1
    | cons _ _ => exact q
theorem k_eqT0 {X : Cx} {K : PySem.W.Frag} (hu : X.A.units + 64 < cLine) (e : X.K = K := by rfl) : OpR X (compareOp .Eq) (rEqT0 K) := by
  subst e
  exact op_eqT0 hu
theorem z_eqT0 {K : PySem.W.Frag} {G H : Hp} {M : List (Addr × HO)} {Q : VK} {a b : Addr} {xs : List V} (z : Zp G M H) (h1 : G a = some (.tup xs)) (h2 : G b = some (.tup [])) (q : Q (.bl (decide (xs = []))) H) : rEqT0 K (.ref a) (.ref b) H Q := ⟨a, b, xs, rfl, rfl, SqT.of (z.sub _ _ h1), SqT.of (z.sub _ _ h2), q⟩
def gW (e1 e2 vs zs : List V) : List V := vs ++ (e1 ++ (zs ++ e2))
section
variable {P : Program} {w : World} {K : PySem.W.Frag} {mg : Str → Option Value} {base : Heap} {C CI fI fT cc cda : Addr} {fd fdT : FuncData} {g : List Value → List Value → List Value}
def spHand (K : PySem.W.Frag) (C CI : Addr) (fl : Str) (e1 e2 : List V) : Sp := fun vs H Q E => ∃ x dx G M v0 p rest ds, vs = [.ref x, v0, .ref p] ∧ Zp G (M ++ [(x, .ins C dx [])]) H ∧ G p = some (.tup rest) ∧ Dts K G rest ds ∧ FineD (.tuple ds) ∧
  ((ds = [] ∨ diffD none (.tuple ds) = false) → ∀ dd G1 H1, Zp G1 M H1 → Same G G1 → G1 dd = some (.xd [("field", .str fl)]) → E (.ref CI) (some dd) H1) ∧
  (diffD none (.tuple ds) = true → ds ≠ [] → ∀ G1 H1, Zp G1 (M ++ [(x, .ins C dx [])]) H1 → Same G G1 → spTk K C CI (gW e1 e2 [.ref x, v0] [.ref p]) H1 (fun _ H3 => Q .non H3) E)

theorem ok_handon {j : Nat} {e1 e2 : List V} (T : Nm K mg) (hsup : mg "super" = none) (C_diff1 : OwnA P w K mg base CX0 3 "are_different_words" ["value", "most"] [.non] (spDiff K)) (S_InvalidTask : ExcS P w K mg base CI "InvalidTask" "field")
    (S : SupC P K C fI fT cc (nfI "HandOn.__init__" s_HandOn_init cc cda) fd) (TI : FnOk P w K mg base (L2.CX P w) 4 fT fdT psI (spTk K C CI)) (hb : KBn K fdT psI 2 ["takes"] g (gW e1 e2)) (hj : j ≤ sizeLine)
    (hbd : ∀ (x v0 : Value) (rest : List Value), rest.length = j → bindArgs fd ⟨x :: rest, [(("role" : Str), v0)]⟩ = (newTuple rest >>= fun t => pure [(("self" : Str), x), (("role" : Str), v0), (("names" : Str), t)])) :
    FnRK P w K mg base (L2.CX P w) 6 fI (j + 1) ["role"] (fun vs H Q E => ∃ x rest v0, vs = x :: rest ++ [v0] ∧ rest.length = j ∧ ∀ p, H p = Option.none → spHand K C CI "takes" e1 e2 [x, v0, V.ref p] (upd H p (.tup rest)) Q E) := by
  refine fn_starS (k := 5) (N := ["self", "role", "names", "__class__"]) S (nscope_by (sc := defScope s_HandOn_init) (by decide +kernel)) StX.cxUp hj hbd (fun A outer s H vs Q E hr h => ?_)
  have hu := hr.units
  refine ⟨_, psw_cons (ps_if (PW.pt (pw_or (pt_cmpR (k_eqT0 (K := K) hu) (pv 2) (pe_tup pa_nil) (nomark _)) (pw_or1 (pt_not (pt_val (pe_ownA C_diff1 (hr.mono (by decide)) (by rfl) pass0 (pa_cons (pv 2) pa_nil))))))) (pss_one (ps_rs S_InvalidTask rfl (takes_of rfl rfl rfl rfl) (hr.mono (by decide)) (by rfl) pe_str)) pss_nil)
    (psw_super (n := 1) (ks := ["takes"]) (pl := _) S rfl (by rfl) (by rfl) (by rfl) rfl hsup TI hb (hr.mono (by omega)) (passXU (takes_of rfl rfl rfl rfl)) (pa_cons (pv 1) pa_nil) (pk_cons (pv 2) pk_nil) (by rfl) (by rfl) (by rfl) (by rfl) (by rfl) (by rfl)), ?_⟩
  obtain ⟨x, dx, G, M, v0, p, rest, ds, rfl, z, hp, hd, hf, qx, q⟩ := h
  have rz : ∀ {G1 : Hp} {H1 : Hp}, Zp G1 (M ++ [(x, .ins C dx [])]) H1 → Same G G1 → (ds = [] ∨ diffD none (.tuple ds) = false) → RsW K CI "field" (.str "takes") H1 fun cls d H' => E cls d H' := fun z1 s1 e => z_rsI fun dd hd => qx e dd _ _ (z1.new hd _).cut (s1.trans (Same.new (z1.free hd))) upd_same
  have hl : rest.length = ds.length := hd.len (ds := ds)
  repeat (walk_at "z")
  refine z_newT z (by simp) fun p1 G1 H1 z1 s1 e1 => ?_
  refine z_eqT0 z1 (s1 _ _ hp) e1 ?_
  cases ds with
  | nil =>
    have e : rest = [] := List.length_eq_zero_iff.mp hl
    subst e
    rw [decide_eq_true rfl]
    repeat (walk_at "z")
    exact rz z1 s1 (.inl rfl)
  | cons d ds =>
    rw [decide_eq_false (by rintro rfl; simp at hl)]
    repeat (walk_at "z")
    refine ⟨G1, _, _, .tuple (d :: ds), none, rfl, z1, .inl (.tup (SqT.of (s1 _ _ hp)) (hd.up s1)), hf, fun G2 H2 z2 s2 => ?_⟩
    repeat (walk_at "z")
    cases hw : diffD none (.tuple (d :: ds)) with
    | true =>
      repeat (walk_at "z")
      refine ⟨x, dx, [], rfl, z2.at_ M.length last_at, ?_⟩
      repeat (walk_at "z")
      refine ⟨rfl, ?_⟩
      repeat (walk_at "z")
      exact ⟨rfl, q hw (by simp) G2 H2 z2 (s1.trans s2)⟩
    | false =>
      repeat (walk_at "z")
      exact rz z2 (s1.trans s2) (.inr hw)

theorem ok_reopen {j : Nat} {e1 e2 : List V} (T : Nm K mg) (hsup : mg "super" = none) (C_diff1 : OwnA P w K mg base CX0 3 "are_different_words" ["value", "most"] [.non] (spDiff K)) (S_InvalidTask : ExcS P w K mg base CI "InvalidTask" "field")
    (S : SupC P K C fI fT cc (nfI "Reopen.__init__" s_Reopen_init cc cda) fd) (TI : FnOk P w K mg base (L2.CX P w) 4 fT fdT psI (spTk K C CI)) (hb : KBn K fdT psI 2 ["forgets"] g (gW e1 e2)) (hj : j ≤ sizeLine)
    (hbd : ∀ (x v0 : Value) (rest : List Value), rest.length = j → bindArgs fd ⟨x :: rest, [(("role" : Str), v0)]⟩ = (newTuple rest >>= fun t => pure [(("self" : Str), x), (("role" : Str), v0), (("names" : Str), t)])) :
    FnRK P w K mg base (L2.CX P w) 6 fI (j + 1) ["role"] (fun vs H Q E => ∃ x rest v0, vs = x :: rest ++ [v0] ∧ rest.length = j ∧ ∀ p, H p = Option.none → spHand K C CI "forgets" e1 e2 [x, v0, V.ref p] (upd H p (.tup rest)) Q E) := by
  refine fn_starS (k := 5) (N := ["self", "role", "names", "__class__"]) S (nscope_by (sc := defScope s_Reopen_init) (by decide +kernel)) StX.cxUp hj hbd (fun A outer s H vs Q E hr h => ?_)
  have hu := hr.units
  refine ⟨_, psw_cons (ps_if (PW.pt (pw_or (pt_cmpR (k_eqT0 (K := K) hu) (pv 2) (pe_tup pa_nil) (nomark _)) (pw_or1 (pt_not (pt_val (pe_ownA C_diff1 (hr.mono (by decide)) (by rfl) pass0 (pa_cons (pv 2) pa_nil))))))) (pss_one (ps_rs S_InvalidTask rfl (takes_of rfl rfl rfl rfl) (hr.mono (by decide)) (by rfl) pe_str)) pss_nil)
    (psw_super (n := 1) (ks := ["forgets"]) (pl := _) S rfl (by rfl) (by rfl) (by rfl) rfl hsup TI hb (hr.mono (by omega)) (passXU (takes_of rfl rfl rfl rfl)) (pa_cons (pv 1) pa_nil) (pk_cons (pv 2) pk_nil) (by rfl) (by rfl) (by rfl) (by rfl) (by rfl) (by rfl)), ?_⟩
  obtain ⟨x, dx, G, M, v0, p, rest, ds, rfl, z, hp, hd, hf, qx, q⟩ := h
  have rz : ∀ {G1 : Hp} {H1 : Hp}, Zp G1 (M ++ [(x, .ins C dx [])]) H1 → Same G G1 → (ds = [] ∨ diffD none (.tuple ds) = false) → RsW K CI "field" (.str "forgets") H1 fun cls d H' => E cls d H' := fun z1 s1 e => z_rsI fun dd hd => qx e dd _ _ (z1.new hd _).cut (s1.trans (Same.new (z1.free hd))) upd_same
  have hl : rest.length = ds.length := hd.len (ds := ds)
  repeat (walk_at "z")
  refine z_newT z (by simp) fun p1 G1 H1 z1 s1 e1 => ?_
  refine z_eqT0 z1 (s1 _ _ hp) e1 ?_
  cases ds with
  | nil =>
    have e : rest = [] := List.length_eq_zero_iff.mp hl
    subst e
    rw [decide_eq_true rfl]
    repeat (walk_at "z")
    exact rz z1 s1 (.inl rfl)
  | cons d ds =>
    rw [decide_eq_false (by rintro rfl; simp at hl)]
    repeat (walk_at "z")
    refine ⟨G1, _, _, .tuple (d :: ds), none, rfl, z1, .inl (.tup (SqT.of (s1 _ _ hp)) (hd.up s1)), hf, fun G2 H2 z2 s2 => ?_⟩
    repeat (walk_at "z")
    cases hw : diffD none (.tuple (d :: ds)) with
    | true =>
      repeat (walk_at "z")
      refine ⟨x, dx, [], rfl, z2.at_ M.length last_at, ?_⟩
      repeat (walk_at "z")
      refine ⟨rfl, ?_⟩
      repeat (walk_at "z")
      exact ⟨rfl, q hw (by simp) G2 H2 z2 (s1.trans s2)⟩
    | false =>
      repeat (walk_at "z")
      exact rz z2 (s1.trans s2) (.inr hw)

end
end LW
namespace LW
open PySem PySem.Spec PyProof.Rows L2 Ys

def dT (x : String) : PyData := .tuple [.str x]
def any1 : List PyData := [.none, .bool true, .bool false, .int 0, .int 1, .int 2, .int 3, .int 4, .int (-1), .int (10 ^ (60 : Int).toNat), .str "", .str "a", .str "A", .str "ab", .str "abcdefghi", .str "a b", .tuple [], dT "a"]
def any2 : List PyData := [.list [], .list [.str "a"], .list [.int 1], .dict [], .dict [(.str "a", .int 1)], .tuple [.int 1, .int 2], dT "then", .tuple [.none], .tuple [.str "a", .int 1], .list [.list [.str "a"]], .tuple [dT "a"]]
def any3 : List PyData := [.str "then", .dict [(.str "p", .list [])], .list [.str "a", .str "a"], dT "either"]
def shortB : PyData → Bool
  | .str s => decide (s.length ≤ 100000)
  | _ => true
def okAB (d : PyData) : Bool := shortB d && (decide ((itemsD d).length ≤ 20) && (itemsD d).all shortB)
theorem shortB_ok {d : PyData} (h : shortB d = true) : ShortD d := fun s e => by
  subst e
  exact of_decide_eq_true h
structure OkA (d : PyData) : Prop where
  sh : ShortD d
  le : (itemsD d).length ≤ 20
  it : ∀ e ∈ itemsD d, ShortD e
theorem OkA.of {d : PyData} (h : okAB d = true) : OkA d := by
  obtain ⟨h1, h2⟩ := Bool.and_eq_true_iff.mp h
  obtain ⟨h3, h4⟩ := Bool.and_eq_true_iff.mp h2
  exact ⟨shortB_ok h1, of_decide_eq_true h3, fun e he => shortB_ok (List.all_eq_true.mp h4 e he)⟩
theorem OkA.fn {d : PyData} (h : OkA d) : Fn60 d := ⟨⟨by have := h.le; omega, h.it⟩, by have := h.le; omega⟩
theorem any_ok : ∀ d ∈ any1 ++ any2 ++ any3, OkA d := by
  have h : (any1 ++ any2 ++ any3).all okAB = true := by decide +kernel
  exact fun d hd => OkA.of (List.all_eq_true.mp h d hd)
section
variable {P : Program} {w : World} {K : PySem.W.Frag} {mg : Str → Option Value} {base : Heap} {f : Addr} {fd : FuncData}
def spAny (K : PySem.W.Frag) : Sp := fun vs H Q _ => ∃ p o G M b, vs = [.ref p] ∧ Zp G ((p, o) :: M) H ∧ Pen K G b o ∧ b ≤ 100000000000 ∧
  ∀ v d G1 H1 o1, Zp G1 ((p, o1) :: M) H1 → Same G G1 → Pen K G1 (b + 1) o1 → Dt K G1 v d → OkA d → Q v H1
theorem ok_any (T : Nm K mg) (C_law_pick : OwnP P w K mg base) (F : FnP K "_law_any_value" s_law_any_value f fd) : FnOk P w K mg base CX0 3 f fd ["_law_pen_here"] (spAny K) := by
  have nd : N_law_any_value.Nodup := sc_law_any_value.nd
  refine F.ok sc_law_any_value (fun vs H Q E h => ?_) (fun cdv A outer s H vs Q E hr h => ?_)
  · obtain ⟨p, o, G, M, b, rfl, _⟩ := h
    rfl
  have hu := hr.units
  refine ⟨_, PSs.nox   (pss_cons (ps_asg (pe_lst (pa_cons pe_non (pa_cons pe_bl (pa_cons pe_bl (pa_cons pe_int (pa_cons pe_int (pa_cons pe_int (pa_cons pe_int (pa_cons pe_int (pa_cons (pe_un un_neg pe_int) (pa_cons (pe_op o_pow pe_int pe_int) (pa_cons pe_str (pa_cons pe_str (pa_cons pe_str (pa_cons pe_str (pa_cons pe_str (pa_cons pe_str (pa_cons (pe_tup pa_nil) (pa_cons (pe_tup (pa_cons pe_str pa_nil)) pa_nil))))))))))))))))))) (pg_name (i := 1) nd rfl (by first | exact .inl rfl | exact .inr rfl)))
    (pss_cons (ps_asg (pe_op (k_add (K := K)) (pv 1) (pe_lst (pa_cons (pe_lst pa_nil) (pa_cons (pe_lst (pa_cons pe_str pa_nil)) (pa_cons (pe_lst (pa_cons pe_int pa_nil)) (pa_cons pe_dnewK (pa_cons (pe_disp (pps_cons pe_str pe_int pps_nil) (by rfl) (by rfl) (fun z => by cases z) (by decide)) (pa_cons (pe_tup (pa_cons pe_int (pa_cons pe_int pa_nil))) (pa_cons (pe_tup (pa_cons pe_str pa_nil)) (pa_cons (pe_tup (pa_cons pe_non pa_nil)) (pa_cons (pe_tup (pa_cons pe_str (pa_cons pe_int pa_nil))) (pa_cons (pe_lst (pa_cons (pe_lst (pa_cons pe_str pa_nil)) pa_nil)) (pa_cons (pe_tup (pa_cons (pe_tup (pa_cons pe_str pa_nil)) pa_nil)) pa_nil))))))))))))) (pg_name (i := 1) nd rfl (by first | exact .inl rfl | exact .inr rfl)))
    (pss_cons (ps_asg (pe_op (k_add (K := K)) (pv 1) (pe_lst (pa_cons pe_str (pa_cons (pe_disp (pps_cons pe_str (pe_lst pa_nil) pps_nil) (by rfl) (by rfl) (fun z => by cases z) (by decide)) (pa_cons (pe_lst (pa_cons pe_str (pa_cons pe_str pa_nil))) (pa_cons (pe_tup (pa_cons pe_str pa_nil)) pa_nil)))))) (pg_name (i := 1) nd rfl (by first | exact .inl rfl | exact .inr rfl)))
    (pss_one (ps_ret (pe_own C_law_pick (hr.mono (by decide)) (by rfl) pass0 (pa_cons (pv 0) (pa_cons (pv 1) pa_nil)))))))), ?_⟩
  obtain ⟨p, o, G, M, b, rfl, z, hp, hb, q⟩ := h
  with_reducible refine z_seq ?_
  with_reducible refine z_asg ?_
  refine lit_list (ds := any1) (K := K) (by
    refine lit_cons lit_non (lit_cons (lit_bl _) (lit_cons (lit_bl _) (lit_cons (lit_int _) (lit_cons (lit_int _) (lit_cons (lit_int _) (lit_cons (lit_int _) (lit_cons (lit_int _) (lit_cons (lit_neg (lit_int 1)) (lit_cons (lit_pow 10 60 ⟨by decide, by decide, by decide⟩) ?_)))))))))
    exact lit_cons (lit_str _) (lit_cons (lit_str _) (lit_cons (lit_str _) (lit_cons (lit_str _) (lit_cons (lit_str _) (lit_cons (lit_str _) (lit_cons (lit_tup lit_nil (by decide)) (lit_cons (lit_tup (lit_cons (lit_str _) lit_nil) (by decide)) lit_nil)))))))) (by decide) z fun p1 x1 G1 H1 z1 s1 e1 d1 => ?_
  with_reducible refine z_name ?_
  with_reducible refine z_seq ?_
  with_reducible refine z_asg ?_
  with_reducible refine z_op ?_
  (with_reducible apply z_var); (focus rfl)
  refine lit_list (ds := any2) (K := K) (by
    exact lit_cons (lit_lst lit_nil (by decide)) (lit_cons (lit_lst (lit_cons (lit_str _) lit_nil) (by decide)) (lit_cons (lit_lst (lit_cons (lit_int _) lit_nil) (by decide)) (lit_cons lit_dict0 (lit_cons (lit_dict1 (lit_int _)) (lit_cons (lit_tup (lit_cons (lit_int _) (lit_cons (lit_int _) lit_nil)) (by decide)) (lit_cons (lit_tup (lit_cons (lit_str _) lit_nil) (by decide)) (lit_cons (lit_tup (lit_cons lit_non lit_nil) (by decide)) (lit_cons (lit_tup (lit_cons (lit_str _) (lit_cons (lit_int _) lit_nil)) (by decide)) (lit_cons (lit_lst (lit_cons (lit_lst (lit_cons (lit_str _) lit_nil) (by decide)) lit_nil) (by decide)) (lit_cons (lit_tup (lit_cons (lit_tup (lit_cons (lit_str _) lit_nil) (by decide)) lit_nil) (by decide)) lit_nil))))))))))) (by decide) z1 fun p2 x2 G2 H2 z2 s2 e2 d2 => ?_
  have l1 : x1.length = 18 := d1.len (ds := [])
  have l2 : x2.length = 11 := d2.len (ds := [])
  refine z_addL z2 (s2 _ _ e1) e2 (by omega) fun p3 G3 H3 z3 s3 e3 => ?_
  with_reducible refine z_name ?_
  with_reducible refine z_seq ?_
  with_reducible refine z_asg ?_
  with_reducible refine z_op ?_
  (with_reducible apply z_var); (focus rfl)
  refine lit_list (ds := any3) (K := K) (by
    exact lit_cons (lit_str _) (lit_cons (lit_dict1 (lit_lst lit_nil (by decide))) (lit_cons (lit_lst (lit_cons (lit_str _) (lit_cons (lit_str _) lit_nil)) (by decide)) (lit_cons (lit_tup (lit_cons (lit_str _) lit_nil) (by decide)) lit_nil)))) (by decide) z3 fun p4 x4 G4 H4 z4 s4 e4 d4 => ?_
  have l4 : x4.length = 4 := d4.len (ds := [])
  have l3 : (x1 ++ x2).length = 29 := by rw [List.length_append, l1, l2]
  refine z_addL z4 (s4 _ _ e3) e4 (by omega) fun p5 G5 H5 z5 s5 e5 => ?_
  repeat (walk_at "z")
  have s15 := s1.trans (s2.trans (s3.trans (s4.trans s5)))
  have l5 : (x1 ++ x2 ++ x4).length = 33 := by rw [List.length_append, l3, l4]
  refine ⟨p, o, G5, M, b, _, rfl, z5, hp.up s15, by omega, .inl ⟨p5, _, rfl, .inl (SqL.of e5), (fun e => by rw [e] at l5; cases l5), by omega, fun v G6 H6 o6 hv z6 s6 hp6 => ?_⟩⟩
  have dd : Dts K G5 (x1 ++ x2 ++ x4) (any1 ++ any2 ++ any3) := ((d1.up (s2.trans (s3.trans (s4.trans s5)))).app (d2.up (s3.trans (s4.trans s5)))).app (d4.up s5)
  obtain ⟨d, hd, hv⟩ := dd.mem hv
  exact q v d G6 H6 o6 z6 (s15.trans s6) hp6 (hv.up s6) (any_ok d hd)
/-! ### the law's own looks -/
def spWordL (K : PySem.W.Frag) : Sp := spWord K
theorem ok_lword (T : Nm K mg) (F : FnP K "_law_is_word" s_law_is_word f fd) : FnOk P w K mg base CX0 1 f fd ["_law_value"] (spWord K) := by
  have nd : N_law_is_word.Nodup := sc_law_is_word.nd
  refine F.ok sc_law_is_word (fun vs H Q E h => ?_) (fun cdv A outer s H vs Q E hr h => ?_)
  · obtain ⟨G, M, v, d, rfl, _⟩ := h
    rfl
  have hu := hr.units
  refine ⟨_, PSs.nox   (pss_cons (ps_asg pe_str (pg_name (i := 1) nd rfl (by first | exact .inl rfl | exact .inr rfl)))
    (pss_cons (ps_if (PW.pt (pw_or (pt_not (pt_val (pe_callB (kc_isi (K := K)) (by rfl) T.b_isinstance boot_isinstance (pa_cons (pv 0) (pa_cons (pe_bltn (v := .ty "str") (by rfl) T.b_str boot_str rfl) pa_nil))))) (pw_or1 (pt_not (pt_chain o_le o_le pe_int (pe_callB (kc_len (K := K) (P := P) (w := w)) (by rfl) T.b_len PySem.boot_len (pa_cons (pv 0) pa_nil)) pe_int))))) (pss_one (ps_ret pe_bl)) pss_nil)
    (pss_one (ps_ret (pe_cmpR (k_eq (K := K) hu) (pe_lc (own := [("_law_sign", 2)]) rfl nd (k_any (K := K) (pv 0)) (blkOk_by (N := N_law_is_word) (sc := defScope s_law_is_word) (by decide +kernel)) (fun _ _ _ _ _ => (pg_name (i := 2) nd rfl (by first | exact .inl rfl | exact .inr rfl))) (fun _ _ _ _ _ => pts_one (pt_cmpR (k_notIn (K := K)) (pv 2) (pv 1) (by rfl))) (fun _ _ _ _ _ => (pv 2))) (pe_lst pa_nil) (nomark _)))))), ?_⟩
  obtain ⟨G, M, v, d, rfl, z, hd, hs, q⟩ := h
  repeat (walk_at "z")
  refine z_isi (.ty "str") (hd.up z.sub).ty (kit_ty (kit_str d)) ?_
  cases hi : isStrD d with
  | false =>
    repeat (walk_at "z")
    have := q G H z (Same.refl G)
    rw [wordD_ns hi] at this
    exact this
  | true =>
    cases hd with
    | str t =>
      have hl := hs t rfl
      repeat (walk_at "z")
      refine z_lenS hl ?_
      repeat (walk_at "z")
      have fls : ¬ (1 ≤ t.length ∧ t.length ≤ 8) → Q (.bl false) H := fun c => by
        have := q G H z (Same.refl G)
        have e : wordD (.str t) = false := by
          show (decide _ && (decide _ && _)) = _
          by_cases c1 : 1 ≤ t.length
          · rw [decide_eq_false (show ¬ t.length ≤ 8 from fun h => c ⟨c1, h⟩), Bool.false_and, Bool.and_false]
          · rw [decide_eq_false c1, Bool.false_and]
        rw [e] at this
        exact this
      refine z_bd (fun c1 => ?_) (fun c1 => ?_)
      · repeat (walk_at "z")
        refine z_bd (fun c2 => ?_) (fun c2 => ?_)
        · repeat (walk_at "z")
          refine z_anyS ?_
          repeat (walk_at "z")
          refine z_itS ?_
          refine lc_src src_S (fun i G' M' acc => M' = M ∧ G' = G ∧ acc = ((t.cps.toList.take i).filter fun c => !decide (c ∈ abcL)).map fun c => V.str ⟨#[c]⟩) z ⟨rfl, rfl, rfl⟩ (fun _ _ _ _ _ _ _ _ => trivial) ?_ ?_
          · rintro i x G2 M2 acc Dl H2 hx ⟨rfl, rfl, rfl⟩ z2
            obtain ⟨c, hc, rfl⟩ : ∃ c, t.cps.toList[i]? = some c ∧ x = V.str ⟨#[c]⟩ := by
              unfold chrV at hx
              rw [List.getElem?_map] at hx
              cases e : t.cps.toList[i]? with
              | none => rw [e] at hx; cases hx
              | some c => rw [e] at hx; exact ⟨c, rfl, (Option.some.inj hx).symm⟩
            repeat (walk_at "z")
            refine ⟨by rfl, ?_⟩
            repeat (walk_at "z")
            refine .inl ⟨c, _, rfl, rfl, ?_⟩
            refine ⟨_, rfl, ?_⟩
            show Bif (!decide (c ∈ abcL)) _ _
            have tk : ((t.cps.toList.take (i + 1)).filter fun c => !decide (c ∈ abcL)) = ((t.cps.toList.take i).filter fun c => !decide (c ∈ abcL)) ++ if (!decide (c ∈ abcL)) = true then [c] else [] := by
              rw [List.take_add_one, hc, List.filter_append]
              congr 1
              show List.filter _ [c] = _
              rw [List.filter_cons]
              rfl
            refine z_b2 (fun c3 => ?_) (fun c3 => ?_)
            · repeat (walk_at "z")
              refine z_laid z2 ?_ ⟨rfl, rfl, ?_⟩
              · rw [List.length_map]
                have h1 := List.length_filter_le (fun c => !decide (c ∈ abcL)) (t.cps.toList.take i)
                have h2 : (t.cps.toList.take i).length ≤ t.length := by rw [List.length_take, Array.length_toList]; exact Nat.min_le_right _ _
                omega
              · rw [tk, if_pos c3, List.map_append]
                rfl
            · refine z_left z2 ⟨rfl, rfl, ?_⟩
              rw [tk, if_neg (by rw [c3]; exact Bool.false_ne_true), List.append_nil]
          · rintro p2 G2 M2 acc G3 H3 ⟨rfl, rfl, rfl⟩ s3 z3 e3
            rw [chrV_len, show t.length = t.cps.toList.length from (Array.length_toList).symm, List.take_length] at e3
            repeat (walk_at "z")
            refine z_newL z3 (by simp) fun p4 G4 H4 z4 s4 e4 => ?_
            refine z_eqNil (z4.seqL (SqL.of (s4 _ _ e3))) (z4.sub _ _ e4) ?_
            have := q G4 _ z4 (s3.trans s4)
            have e : wordD (.str t) = decide ((((t.cps.toList).filter fun c => !decide (c ∈ abcL)).map fun c => V.str ⟨#[c]⟩) = []) := by
              show (decide _ && (decide _ && _)) = _
              rw [decide_eq_true (show 1 ≤ t.length by omega), decide_eq_true (show t.length ≤ 8 by omega), Bool.true_and, Bool.true_and]
              rw [Bool.eq_iff_iff, List.all_eq_true, decide_eq_true_iff, List.map_eq_nil_iff, List.filter_eq_nil_iff]
              simp
            rw [e] at this
            exact this
        · repeat (walk_at "z")
          exact fls fun h => c2 (by omega)
      · repeat (walk_at "z")
        exact fls fun h => c1 (by omega)
    | _ => cases hi
end
end LW
namespace LW
open PySem PySem.Spec PyProof.Rows L2 Ys

/-! ### == of tasks of several classes -/
structure TkS (K : PySem.W.Frag) (CT C : Addr) : Prop where
  tc : TaskC K C
  tt : TaskT K C
  kit : PySem.W.kitOne K (.ref C) (.ref CT) = some true
section
variable {P : Program} {w : World} {K : PySem.W.Frag} {mg : Str → Option Value} {base : Heap} {f : Addr} {fd : FuncData} {CT : Addr} {Fam : Addr → Prop}
def spEqU (K : PySem.W.Frag) (Fam : Addr → Prop) : Sp := fun vs H Q _ => ∃ G M a b Ca Cb t u, vs = [.ref a, .ref b] ∧ Zp G M H ∧ Fam Ca ∧ Fam Cb ∧ TkI K G Ca a t ∧ TkI K G Cb b u ∧ GoodT t ∧ GoodT u ∧ ∀ G1 H1, Zp G1 M H1 → Same G G1 → Q (.bl (PyData.eqv (likeP t) (likeP u))) H1
theorem ok_eqU (T : Nm K mg) (g_Task : mg "Task" = some (.ref CT)) (fs : ∀ C, Fam C → TkS K CT C) (ML : ∀ C, Fam C → Mth P w K mg base CX0 1 C "likeness" ["self"] [] (spLike K C)) (F : FunD K "__eq__" "Task.__eq__" (defArgs s_Task_eq) (defBody s_Task_eq) (defScope s_Task_eq) [] [] f fd) :
    FnOk P w K mg base CX0 2 f fd ["self", "other"] (spEqU K Fam) := by
  have nd : N_Task_eq.Nodup := sc_Task_eq.nd
  refine F.ok sc_Task_eq (fun vs H Q E h => ?_) (fun cdv A outer s H vs Q E hr h => ?_)
  · obtain ⟨G, M, a, b, Ca, Cb, t, u, rfl, _⟩ := h
    rfl
  have hu := hr.units
  obtain ⟨G, M, a, b, Ca, Cb, t, u, rfl, z, hA, hB, ht, hu2, gt, gu, q⟩ := h
  refine ⟨_, PSs.nox   (pss_one (ps_ret (pe_and (pe_callB (kc_isi (K := K)) (by rfl) T.b_isinstance boot_isinstance (pa_cons (pv 1) (pa_cons (pe_glob (v := .ref CT) (by rfl) g_Task rfl) pa_nil))) (pe_one (pe_cmpR (k_eq (K := K) hu) (pe_mt0 (ML Ca hA) (hr.mono (by decide)) pass0 (pv 0)) (pe_mt0 (ML Cb hB) (hr.mono (by decide)) pass0 (pv 1)) (nomark _)))))), ?_⟩
  obtain ⟨da, fa, ea⟩ := ht.obj
  obtain ⟨db, fb, eb⟩ := hu2.obj
  repeat (walk_at "z")
  refine z_isi (.own CT) ((fs Cb hB).tt.ty (z.sub _ _ eb)) (fs Cb hB).kit ?_
  repeat (walk_at "z")
  obtain ⟨dx, t1, t2, t3, t4, h0, _⟩ := ht
  refine z_mtI z h0 (by rfl) ?_
  repeat (walk_at "z")
  refine ⟨G, M, a, t, rfl, z, ⟨dx, t1, t2, t3, t4, h0, ‹_›⟩, fun p1 G1 H1 z1 s1 e1 => ?_⟩
  repeat (walk_at "z")
  obtain ⟨dy, u1, u2, u3, u4, k0, k1⟩ := hu2
  refine z_mtI z1 (s1 _ _ k0) (by rfl) ?_
  repeat (walk_at "z")
  refine ⟨G1, M, b, u, rfl, z1, TkI.up s1 ⟨dy, u1, u2, u3, u4, k0, k1⟩, fun p2 G2 H2 z2 s2 e2 => ?_⟩
  repeat (walk_at "z")
  refine z_eqD z2 (e1.up s2) e2 ((fin_like gt).sh (by decide)) ((fin_like gu).sh (by decide)) ?_
  exact q G2 _ z2 (s1.trans s2)
structure EqC (P : Program) (w : World) (K : PySem.W.Frag) (mg : Str → Option Value) (base : Heap) (CX : CXT) (k : Nat) (C : Addr) (sp : Sp) : Prop where
  ex : ∃ f fd ps, FnOk P w K mg base CX k f fd ps sp ∧ PySem.W.findIn K (.ref C) "__eq__" = some (some (.ref f)) ∧ PySem.W.isFn K (.ref f) = true ∧ Binds K fd ps []
  ne : PySem.W.findIn K (.ref C) "__ne__" = some (some (.builtin "object.__ne__"))
  hm : PySem.W.mroIn K C (.type "object") = some true
structure FamC (P : Program) (w : World) (K : PySem.W.Frag) (mg : Str → Option Value) (base : Heap) (CT : Addr) (Fam : Addr → Prop) : Prop where
  s : ∀ C, Fam C → TkS K CT C
  eq : ∀ C, Fam C → EqC P w K mg base CX0 2 C (spEqU K Fam)
  ord : ∀ C D, Fam C → Fam D → PySem.W.notFirst K C (.ref D) = true ∨ (C ≠ D ∧ PySem.W.subIn K (.ref D) (.ref C) = some true)
end
section
variable {X : Cx} {K : PySem.W.Frag} {CT : Addr} {Fam : Addr → Prop}
def TkPair (K : PySem.W.Frag) (Fam : Addr → Prop) (x y : V) (H : Hp) (R : Bool → Hp → Prop) : Prop := ∃ G M a b Ca Cb t u, x = .ref a ∧ y = .ref b ∧ Zp G M H ∧ Fam Ca ∧ Fam Cb ∧ TkI K G Ca a t ∧ TkI K G Cb b u ∧ GoodT t ∧ GoodT u ∧ ∀ G1 H1, Zp G1 M H1 → Same G G1 → R (PyData.eqv (likeP t) (likeP u)) H1
def rNeU (K : PySem.W.Frag) (Fam : Addr → Prop) : R2 := fun x y H Q => TkPair K Fam x y H fun b H1 => Q (.bl (!b)) H1
theorem op_neU (FC : FamC X.prog X.w X.K X.mg X.base CT Fam) (hr : Room 3 X.A) : OpR X (compareOp .NotEq) (rNeU X.K Fam) := by
  intro pins s σ H x y v u Q I rx ry ⟨G, M, a, b, Ca, Cb, t, u', e1, e2, z, hA, hB, ht, hu, gt, gu, q⟩
  subst e1
  subst e2
  obtain ⟨da, fa, ea⟩ := ht.obj
  obtain ⟨db, fb, eb⟩ := hu.obj
  rcases FC.ord Ca Cb hA hB with nf | ⟨hne, hsub⟩
  · obtain ⟨f, fd, ps, F, h1, h2, h3⟩ := (FC.eq Ca hA).ex
    exact op_neI F h1 (FC.eq Ca hA).ne (FC.eq Ca hA).hm h2 h3 pass0 hr pins s σ H _ _ v u Q I rx ry ⟨a, da, fa, .ref Cb, rfl, z.sub _ _ ea, (FC.s Cb hB).tt.ty (z.sub _ _ eb), nf, ⟨G, M, a, b, Ca, Cb, t, u', rfl, z, hA, hB, ht, hu, gt, gu, fun G1 H1 z1 s1 => ⟨_, rfl, q G1 H1 z1 s1⟩⟩⟩
  · obtain ⟨f, fd, ps, F, h1, h2, h3⟩ := (FC.eq Cb hB).ex
    refine op_neR F h1 (FC.eq Cb hB).ne (FC.eq Cb hB).hm h2 h3 pass0 hr pins s σ H _ _ v u Q I rx ry ⟨a, Ca, da, fa, b, db, fb, rfl, z.sub _ _ ea, rfl, z.sub _ _ eb, hne, hsub, ⟨G, M, b, a, Cb, Ca, u', t, rfl, z, hB, hA, hu, ht, gu, gt, fun G1 H1 z1 s1 => ⟨_, rfl, ?_⟩⟩⟩
    rw [PySem.W.eqv_comm]
    exact q G1 H1 z1 s1
theorem k_neU (FC : FamC X.prog X.w X.K X.mg X.base CT Fam) (hr : Room 3 X.A) (e : X.K = K := by rfl) : OpR X (compareOp .NotEq) (rNeU K Fam) := by
  subst e
  exact op_neU FC hr
def rEqU (K : PySem.W.Frag) (Fam : Addr → Prop) : R2 := fun x y H Q => ∃ G M a b Ca Cb t u, x = V.ref a ∧ y = V.ref b ∧ Zp G M H ∧ Fam Ca ∧ Fam Cb ∧ PySem.W.notFirst K Ca (.ref Cb) = true ∧ TkI K G Ca a t ∧ TkI K G Cb b u ∧ GoodT t ∧ GoodT u ∧ ∀ G1 H1, Zp G1 M H1 → Same G G1 → Q (.bl (PyData.eqv (likeP t) (likeP u))) H1
theorem k_eqU (FC : FamC X.prog X.w X.K X.mg X.base CT Fam) (hr : Room 2 X.A) (e : X.K = K := by rfl) : OpR X (compareOp .Eq) (rEqU K Fam) := by
  subst e
  intro pins s σ H x y v u Q I rx ry ⟨G, M, a, b, Ca, Cb, t, u', e1, e2, z, hA, hB, nf, ht, hu, gt, gu, q⟩
  subst e1
  subst e2
  obtain ⟨da, fa, ea⟩ := ht.obj
  obtain ⟨db, fb, eb⟩ := hu.obj
  obtain ⟨f, fd, ps, F, h1, h2, h3⟩ := (FC.eq Ca hA).ex
  exact op_eqI F h1 h2 h3 pass0 hr pins s σ H _ _ v u Q I rx ry ⟨a, da, fa, .ref Cb, rfl, z.sub _ _ ea, (FC.s Cb hB).tt.ty (z.sub _ _ eb), nf, ⟨G, M, a, b, Ca, Cb, t, u', rfl, z, hA, hB, ht, hu, gt, gu, fun G1 H1 z1 s1 => ⟨_, rfl, q G1 H1 z1 s1⟩⟩⟩
end
end LW
namespace LW
open PySem PySem.Spec PyProof.Rows L2 Ys

/-! ### what the law sees of a task -/
structure PrsT (P : Program) (w : World) (K : PySem.W.Frag) (mg : Str → Option Value) (base : Heap) (C : Addr) : Prop where
  role : Prp P w K mg base CX0 1 C "role" (spGet "own_role" C)
  many : Prp P w K mg base CX0 1 C "many" (spGet "own_many" C)
  other : Prp P w K mg base CX0 1 C "other" (spGet "own_other" C)
  same : Prp P w K mg base CX0 1 C "same" (spGet "own_same" C)
  takes : Prp P w K mg base CX0 1 C "takes" (spGet "own_takes" C)
  forgets : Prp P w K mg base CX0 1 C "forgets" (spGet "own_forgets" C)
def shownP (t : TkD) : PyData := .tuple [(match t.role with | none => .none | some s => .str s), .int t.many, .tuple (t.l1.map PyData.str), .tuple (t.l2.map PyData.str), .tuple (t.l3.map PyData.str), .tuple (t.l4.map PyData.str)]
section
variable {P : Program} {w : World} {K : PySem.W.Frag} {mg : Str → Option Value} {base : Heap} {f : Addr} {fd : FuncData} {CT : Addr} {Fam : Addr → Prop}
theorem rDtS {K : PySem.W.Frag} {G : Hp} (r : Option Str) : Dt K G (rV r) (match r with | none => .none | some s => .str s) := by
  cases r
  · exact .non
  · exact .str _
def spShownU (K : PySem.W.Frag) (Fam : Addr → Prop) : Sp := fun vs H Q _ => ∃ G M a C t, vs = [.ref a] ∧ Zp G M H ∧ Fam C ∧ TkI K G C a t ∧ ∀ p G1 H1, Zp G1 M H1 → Same G G1 → Dt K G1 (.ref p) (shownP t) → Q (.ref p) H1
theorem ok_shown (R : ∀ C, Fam C → PrsT P w K mg base C) (F : FnP K "_law_shown" s_law_shown f fd) : FnOk P w K mg base CX0 3 f fd ["_law_one"] (spShownU K Fam) := by
  have nd : N_law_shown.Nodup := sc_law_shown.nd
  refine F.ok sc_law_shown (fun vs H Q E h => ?_) (fun cdv A outer s H vs Q E hr h => ?_)
  · obtain ⟨G, M, a, C, t, rfl, _⟩ := h
    rfl
  have hu := hr.units
  obtain ⟨G, M, a, Ca, t, rfl, z, hA, ⟨dx, t1, t2, t3, t4, h0, h1, h2, h3, h4⟩, q⟩ := h
  refine ⟨_, PSs.nox   (pss_one (ps_ret (pe_tup (pa_cons (pe_pr (R Ca hA).role (hr.mono (by decide)) pass0 (pv 0)) (pa_cons (pe_pr (R Ca hA).many (hr.mono (by decide)) pass0 (pv 0)) (pa_cons (pe_pr (R Ca hA).other (hr.mono (by decide)) pass0 (pv 0)) (pa_cons (pe_pr (R Ca hA).same (hr.mono (by decide)) pass0 (pv 0)) (pa_cons (pe_pr (R Ca hA).takes (hr.mono (by decide)) pass0 (pv 0)) (pa_cons (pe_pr (R Ca hA).forgets (hr.mono (by decide)) pass0 (pv 0)) pa_nil))))))))), ?_⟩
  repeat (walk_at "z")
  refine z_prI z h0 ⟨a, dx, _, _, rfl, z.sub _ _ h0, (by rfl), ?_⟩
  repeat (walk_at "z")
  refine z_prI z h0 ⟨a, dx, _, _, rfl, z.sub _ _ h0, (by rfl), ?_⟩
  repeat (walk_at "z")
  refine z_prI z h0 ⟨a, dx, _, _, rfl, z.sub _ _ h0, (by rfl), ?_⟩
  repeat (walk_at "z")
  refine z_prI z h0 ⟨a, dx, _, _, rfl, z.sub _ _ h0, (by rfl), ?_⟩
  repeat (walk_at "z")
  refine z_prI z h0 ⟨a, dx, _, _, rfl, z.sub _ _ h0, (by rfl), ?_⟩
  repeat (walk_at "z")
  refine z_prI z h0 ⟨a, dx, _, _, rfl, z.sub _ _ h0, (by rfl), ?_⟩
  repeat (walk_at "z")
  refine z_newT z (by simp) fun p2 G2 H2 z2 s2 e2 => ?_
  exact q p2 G2 _ z2 s2 (.tup (SqT.of e2) (.cons (rDtS _) (.cons (.int _) (.cons (.tup (upT s2 h1) (dts_str _)) (.cons (.tup (upT s2 h2) (dts_str _)) (.cons (.tup (upT s2 h3) (dts_str _)) (.cons (.tup (upT s2 h4) (dts_str _)) .nil)))))))
end
end LW
namespace LW
open PySem PySem.Spec PyProof.Rows L2 Ys

/-! ### what calls a lambda -/
def Caught (K : PySem.W.Frag) (CI : Addr) (cls : Value) (d : Option Addr) (H' : Hp) (Q : VK) : Prop := cls = .ref CI ∧ ∃ dd v, d = some dd ∧ H' dd = some (.xd [("field", v)]) ∧ Q v H'
def TTtd (K : PySem.W.Frag) (CI : Addr) : (XK → Hp → VK → Prop) → Hp → VK → Prop := fun tl H Q => ∀ E : XK, (∀ cls d H', Caught K CI cls d H' Q → E cls d H') → tl E H fun _ H' => Q .non H'
structure ToC (K : PySem.W.Frag) (mg : Str → Option Value) (CI : Addr) : Prop where
  ex : ∃ g fd, FnP K "_law_told" s_law_told g fd ∧ mg "_law_told" = some (.ref g) ∧ Binds K fd ["_law_call"] []
  gCI : mg "InvalidTask" = some (.ref CI)
  xfI : XfC K CI
  noI : PySem.W.findIn K (.ref CI) "field" = some none
  eII : PySem.W.exmOne K (.ref CI) (.ref CI) = some true
theorem told_gives {X : Cx} {CI g : Addr} {cdg : Value} {q : Str} {k : Nat} (T : Nm X.K X.mg) (TC : ToC X.K X.mg CI) (hr : Room (k + 2) X.A) : GivesTo2 X N_law_told "_law_told" (defScope s_law_told) g cdg (defBody s_law_told) "_law_call" q (TTtd X.K CI) := by
  intro f c' s H Q tl act hc h
  have nd : N_law_told.Nodup := sc_law_told.nd
  have hu := (hr.deeper (envOfC "_law_told" (defScope s_law_told) s.heap.objs.size g cdg)).units
  refine ⟨_, PSs.nox (pss_one (ps_try_names (Wout := fun _ _ _ _ => False) (tb := fun W D σ H => σ[0]? = some (some (.ref f)) ∧ H c' = some (LamX.CodeO c' q) ∧ tl (WE W σ) H fun _ H' => D.rt .non H') rfl rfl nd takes0
    (fun W pn xe tW pW => ⟨fun pins s' σ H' D I h' => (by
      exact (pss_cons (ps_expr (act W pn xe _ _ tW)) (pss_one (ps_ret pe_non))).run pins s' σ H' D I h')⟩)
    (.cons (x := "InvalidTask") (n := "e") (c := .ref CI) (i := 1) rfl rfl ⟨by rfl, by decide, .inl TC.gCI⟩ (fun a oe cls d pn hz hf => pss_one (ps_ret (pe_xf TC.xfI TC.noI hz hf (pv 1)))) .nil))), ?_⟩
  repeat (walk_at "z")
  refine ⟨rfl, hc, h _ fun cls d H' hcau => ?_⟩
  obtain ⟨e, dd, v, ed, hx, qv⟩ := hcau
  subst e ed
  refine ⟨true, TC.eII, fun _ e he => ?_, fun z => by cases z⟩
  repeat (walk_at "z")
  refine ⟨_, rfl, rfl, rfl, dd, _, _, rfl, hx, rfl, ?_⟩
  repeat (walk_at "z")
  exact qv
section
variable {X : Cx} {CI c P : Addr} {k : Nat} {q : Str} {params : Arguments} {body : Expr} {scope : Scope} {t : XK → TE} {p lpos pos : Pos}
theorem pe_told (T : Nm X.K X.mg) (TC : ToC X.K X.mg CI) (hg : Gl X "_law_told") (TB : LamX.TabB X.base X.mg c P) (hcode : X.env.code = .ref c) (hq : X.env.qual ++ "<lambda>" = q) (hr : Room (k + 2) X.A) (L : LamX.LamS X.env.scope scope) (hdef : defaultsOf params X.env = ([], []))
    (hbind : ∀ (q : Str) (cl : List (Str × Addr)) (pm cv ctv : Value), bindArgs (PySem.W.kla_fn "<lambda>" q params body scope cl pm cv ctv) ⟨[], []⟩ = pure [])
    (hbody : ∀ (A : Around) (outer : List Env) (s : Shared) (H : Hp) (E : XK) (f c' : Addr), Room k (A.deeper (LamX.lamEnv X scope s.heap.objs.size f c')) → PE (LamX.lamCx X A outer s H E scope f c') body (t E)) :
    PE X (.Call (.Name "_law_told" p) [.Lambda params body scope lpos] [] pos) (tLamC P q (TTtd X.K CI) t) := by
  obtain ⟨g, fd, F, hm, hb⟩ := TC.ex
  exact pe_lamC hg hm F.kp F hb sc_law_told rfl (.inl rfl) (fun cdv => told_gives T TC hr) TB hcode hq hr L hdef hbind hbody
end
end LW
namespace LW
open PySem PySem.Spec PyProof.Rows L2 Ys

/-! ### hand-ons and reopenings as the law makes them -/
def dueH (fl : Str) (ds : List PyData) (d0 : PyData) : Option Str := if (ds.isEmpty || !diffD none (.tuple ds)) = true then some fl else if badRole d0 then some "role" else none
def roleD : PyData → Option Str
  | .str s => some s
  | _ => none
def tkH (fl : Str) (ds : List PyData) (d0 : PyData) : TkD := if fl = "takes" then ⟨roleD d0, 1, [], [], asc (ds.map strOf), []⟩ else ⟨roleD d0, 1, [], [], [], asc (ds.map strOf)⟩
theorem okl_nil : OkL (.tuple []) [] := ⟨rfl, rfl, (fun _ h => nomatch h), .nil, by decide⟩
theorem fn60_nil : Fn60 (.tuple []) := ⟨⟨by decide, (fun _ h => nomatch h)⟩, by decide⟩
theorem role_of {K : PySem.W.Frag} {G : Hp} {v : V} {d : PyData} (h : Dt K G v d) (hb : badRole d = false) : ∃ r, roleD d = r ∧ v = rV r ∧ OkRole r := by
  unfold badRole at hb
  cases h with
  | non => exact ⟨none, rfl, rfl, fun _ e => by cases e⟩
  | str s => exact ⟨some s, rfl, rfl, fun t e => by cases e; simpa [noneD, wordD] using hb⟩
  | _ => cases hb
theorem dd_le : ∀ l : List Str, (dd l).length ≤ l.length
  | [] => Nat.le_refl _
  | x :: r => by
    unfold dd
    have := dd_le r
    split
    · simp only [List.length_cons]; omega
    · simp only [List.length_cons]; omega
theorem dd_nd : ∀ {l : List Str}, (dd l).length = l.length → l.Nodup
  | [], _ => .nil
  | x :: r, h => by
    unfold dd at h
    have := dd_le r
    split at h
    · simp only [List.length_cons] at h; omega
    · rename_i hx
      simp only [List.length_cons] at h
      exact List.nodup_cons.mpr ⟨by simpa using hx, dd_nd (by omega)⟩
theorem asc_nil : asc [] = [] := by
  unfold asc
  rw [show dd [] = [] from rfl]
  simp
theorem okl_of {ds : List PyData} (h : diffD none (.tuple ds) = true) (hl : ds.length ≤ 60) : OkL (.tuple ds) (ds.map strOf) := by
  obtain ⟨h1, h2⟩ := diff_strs h
  obtain ⟨h3, h4⟩ := Bool.and_eq_true_iff.mp h
  obtain ⟨_, h5⟩ := Bool.and_eq_true_iff.mp h3
  obtain ⟨_, h6⟩ := Bool.and_eq_true_iff.mp h5
  refine ⟨h1, h2, fun s hs => ?_, dd_nd ?_, by rw [List.length_map]; exact hl⟩
  · obtain ⟨d, hd, rfl⟩ := List.mem_map.mp hs
    have := List.all_eq_true.mp h6 d hd
    cases d <;> first | exact this | cases this
  · rw [List.length_map]
    exact of_decide_eq_true h4
section
variable {P : Program} {w : World} {K : PySem.W.Frag} {mg : Str → Option Value} {base : Heap} {f : Addr} {fd : FuncData}

theorem hand_takes {G H : Hp} {M : List (Addr × HO)} {x dx C CI a1 a2 a3 a4 : Addr} {rest : List V} {ds : List PyData} {v0 : V} {d0 : PyData} {Q : VK} {E : XK} (e : ∀ G, SqT K G a1 [] ∧ SqT K G a2 [] ∧ SqT K G a3 [] ∧ SqT K G a4 []) (z : Zp G (M ++ [(x, .ins C dx [])]) H) (hd : Dts K G rest ds) (hl : ds.length ≤ 3) (hf : ∀ e ∈ ds, ShortD e) (h0 : Dt K G v0 d0) (hs : ShortD d0)
    (q1 : ∀ fl, dueH "takes" ds d0 = some fl → ∀ dd G1 H1, Zp G1 M H1 → Same G G1 → G1 dd = some (.xd [("field", .str fl)]) → E (.ref CI) (some dd) H1)
    (q2 : dueH "takes" ds d0 = none → ∀ G1 H1, Zp G1 M H1 → Same G G1 → TkI K G1 C x (tkH "takes" ds d0) → Q .non H1) :
    ∀ p, H p = none → spHand K C CI "takes" [.int 1, .ref a1, .ref a2] [.ref a4] [.ref x, v0, .ref p] (upd H p (.tup rest)) Q E := by
  intro p hp
  have z1 := z.new hp (.tup rest)
  have s1 : Same G (upd G p (.tup rest)) := Same.new (z.free hp)
  have fine : FineD (.tuple ds) := ⟨by show ds.length ≤ _; omega, hf⟩
  have fnN : Fn60 (.tuple ds) := ⟨fine, by show ds.length ≤ _; omega⟩
  refine ⟨x, dx, _, M, v0, p, rest, ds, rfl, z1, upd_same, hd.up s1, fine, fun hb dd G1 H1 z2 s2 hx => q1 _ ?_ dd G1 H1 z2 (s1.trans s2) hx, fun hw hne G1 H1 z2 s2 => ?_⟩
  · unfold dueH
    rw [if_pos]
    rcases hb with rfl | hb
    · rfl
    · rw [hb]
      exact Bool.or_true _
  have nb : ¬ (ds.isEmpty || !diffD none (.tuple ds)) = true := by
    rw [hw]
    cases ds with
    | nil => exact absurd rfl hne
    | cons _ _ => simp
  cases hr : badRole d0 with
  | true =>
    have hd0 : dueH "takes" ds d0 = some "role" := by unfold dueH; rw [if_neg nb, hr]; rfl
    have s12 := s1.trans s2
    have hd := hd.up s12
    have upd_same : G1 p = some (.tup rest) := s2 _ _ upd_same
    have s1 := Same.refl G1
    refine .inr ⟨x, dx, G1, M, v0, .int 1, .ref a1, .ref a2, .ref p, .ref a4, d0, .int 1, .tuple [], .tuple [], .tuple ds, .tuple [], rfl, z2, ⟨h0.up s12, hs⟩, .int _, ⟨.inl (.tup (e _).1 .nil), fn60_nil⟩, ⟨.inl (.tup (e _).2.1 .nil), fn60_nil⟩, ⟨.inl (.tup (SqT.of upd_same) (hd.up s1)), fnN⟩, ⟨.inl (.tup (e _).2.2.2 .nil), fn60_nil⟩, fun hn => ?_, fun fl hfl dd G3 H3 z3 s3 hx => ?_⟩
    · unfold dueD at hn
      rw [hr] at hn
      cases hn
    · unfold dueD at hfl
      rw [hr] at hfl
      exact q1 fl (hd0.trans hfl) dd G3 H3 z3 (s12.trans s3) hx
  | false =>
    have hd0 : dueH "takes" ds d0 = none := by unfold dueH; rw [if_neg nb, hr]; rfl
    have s12 := s1.trans s2
    obtain ⟨r, er, ev, okr⟩ := role_of h0 hr
    subst ev
    have okn := okl_of hw (by omega)
    have hd := hd.up s12
    have upd_same : G1 p = some (.tup rest) := s2 _ _ upd_same
    have s1 := Same.refl G1
    refine .inl ⟨x, dx, G1, M, r, 1, .ref a1, .ref a2, .ref p, .ref a4, .tuple [], .tuple [], .tuple ds, .tuple [], [], [], ds.map strOf, [], rfl, z2, okr, by decide, by decide, ⟨.inl (.tup (e _).1 .nil), okl_nil⟩, ⟨.inl (.tup (e _).2.1 .nil), okl_nil⟩, ⟨.inl (.tup (SqT.of upd_same) (hd.up s1)), okn⟩, ⟨.inl (.tup (e _).2.2.2 .nil), okl_nil⟩, fun G3 H3 z3 s3 ht => ?_⟩
    refine q2 hd0 G3 H3 z3 (s12.trans s3) ?_
    have et : tkH "takes" ds d0 = ⟨r, 1, asc ([]), asc ([]), asc (ds.map strOf), asc ([])⟩ := by
      unfold tkH
      rw [if_pos rfl, er]
      simp only [asc_nil]
    rw [et]
    exact ht

theorem hand_forgets {G H : Hp} {M : List (Addr × HO)} {x dx C CI a1 a2 a3 a4 : Addr} {rest : List V} {ds : List PyData} {v0 : V} {d0 : PyData} {Q : VK} {E : XK} (e : ∀ G, SqT K G a1 [] ∧ SqT K G a2 [] ∧ SqT K G a3 [] ∧ SqT K G a4 []) (z : Zp G (M ++ [(x, .ins C dx [])]) H) (hd : Dts K G rest ds) (hl : ds.length ≤ 3) (hf : ∀ e ∈ ds, ShortD e) (h0 : Dt K G v0 d0) (hs : ShortD d0)
    (q1 : ∀ fl, dueH "forgets" ds d0 = some fl → ∀ dd G1 H1, Zp G1 M H1 → Same G G1 → G1 dd = some (.xd [("field", .str fl)]) → E (.ref CI) (some dd) H1)
    (q2 : dueH "forgets" ds d0 = none → ∀ G1 H1, Zp G1 M H1 → Same G G1 → TkI K G1 C x (tkH "forgets" ds d0) → Q .non H1) :
    ∀ p, H p = none → spHand K C CI "forgets" [.int 1, .ref a1, .ref a2, .ref a3] [] [.ref x, v0, .ref p] (upd H p (.tup rest)) Q E := by
  intro p hp
  have z1 := z.new hp (.tup rest)
  have s1 : Same G (upd G p (.tup rest)) := Same.new (z.free hp)
  have fine : FineD (.tuple ds) := ⟨by show ds.length ≤ _; omega, hf⟩
  have fnN : Fn60 (.tuple ds) := ⟨fine, by show ds.length ≤ _; omega⟩
  refine ⟨x, dx, _, M, v0, p, rest, ds, rfl, z1, upd_same, hd.up s1, fine, fun hb dd G1 H1 z2 s2 hx => q1 _ ?_ dd G1 H1 z2 (s1.trans s2) hx, fun hw hne G1 H1 z2 s2 => ?_⟩
  · unfold dueH
    rw [if_pos]
    rcases hb with rfl | hb
    · rfl
    · rw [hb]
      exact Bool.or_true _
  have nb : ¬ (ds.isEmpty || !diffD none (.tuple ds)) = true := by
    rw [hw]
    cases ds with
    | nil => exact absurd rfl hne
    | cons _ _ => simp
  cases hr : badRole d0 with
  | true =>
    have hd0 : dueH "forgets" ds d0 = some "role" := by unfold dueH; rw [if_neg nb, hr]; rfl
    have s12 := s1.trans s2
    have hd := hd.up s12
    have upd_same : G1 p = some (.tup rest) := s2 _ _ upd_same
    have s1 := Same.refl G1
    refine .inr ⟨x, dx, G1, M, v0, .int 1, .ref a1, .ref a2, .ref a3, .ref p, d0, .int 1, .tuple [], .tuple [], .tuple [], .tuple ds, rfl, z2, ⟨h0.up s12, hs⟩, .int _, ⟨.inl (.tup (e _).1 .nil), fn60_nil⟩, ⟨.inl (.tup (e _).2.1 .nil), fn60_nil⟩, ⟨.inl (.tup (e _).2.2.1 .nil), fn60_nil⟩, ⟨.inl (.tup (SqT.of upd_same) (hd.up s1)), fnN⟩, fun hn => ?_, fun fl hfl dd G3 H3 z3 s3 hx => ?_⟩
    · unfold dueD at hn
      rw [hr] at hn
      cases hn
    · unfold dueD at hfl
      rw [hr] at hfl
      exact q1 fl (hd0.trans hfl) dd G3 H3 z3 (s12.trans s3) hx
  | false =>
    have hd0 : dueH "forgets" ds d0 = none := by unfold dueH; rw [if_neg nb, hr]; rfl
    have s12 := s1.trans s2
    obtain ⟨r, er, ev, okr⟩ := role_of h0 hr
    subst ev
    have okn := okl_of hw (by omega)
    have hd := hd.up s12
    have upd_same : G1 p = some (.tup rest) := s2 _ _ upd_same
    have s1 := Same.refl G1
    refine .inl ⟨x, dx, G1, M, r, 1, .ref a1, .ref a2, .ref a3, .ref p, .tuple [], .tuple [], .tuple [], .tuple ds, [], [], [], ds.map strOf, rfl, z2, okr, by decide, by decide, ⟨.inl (.tup (e _).1 .nil), okl_nil⟩, ⟨.inl (.tup (e _).2.1 .nil), okl_nil⟩, ⟨.inl (.tup (e _).2.2.1 .nil), okl_nil⟩, ⟨.inl (.tup (SqT.of upd_same) (hd.up s1)), okn⟩, fun G3 H3 z3 s3 ht => ?_⟩
    refine q2 hd0 G3 H3 z3 (s12.trans s3) ?_
    have et : tkH "forgets" ds d0 = ⟨r, 1, asc ([]), asc ([]), asc ([]), asc (ds.map strOf)⟩ := by
      unfold tkH
      rw [if_neg (by decide), er]
      simp only [asc_nil]
    rw [et]
    exact ht

end
end LW
namespace LW
open PySem PySem.Spec PyProof.Rows L2 Ys

/-! ### _law_called -/
def spHJ (K : PySem.W.Frag) (C CI : Addr) (fl : Str) (e1 e2 : List V) (j : Nat) : Sp := fun vs H Q E => ∃ x rest v0, vs = x :: rest ++ [v0] ∧ rest.length = j ∧ ∀ p, H p = Option.none → spHand K C CI fl e1 e2 [x, v0, V.ref p] (upd H p (.tup rest)) Q E
structure HdC (P : Program) (w : World) (K : PySem.W.Frag) (mg : Str → Option Value) (base : Heap) (C CI : Addr) (nm fl : Str) (e1 e2 : List V) : Prop where
  b : ∀ j, j ≤ 3 → MkN P w K mg base (L2.CX P w) 6 C nm j ["role"] (spHJ K C CI fl e1 e2 j)
def spCalled (K : PySem.W.Frag) (CH CR CI : Addr) : Sp := fun vs H Q E => ∃ G M a v0 rest ds d0, ∃ fl : Str, ∃ C, vs = [.str fl, .ref a, v0] ∧ Zp G M H ∧ SqL K G a rest ∧ Dts K G rest ds ∧ ds.length ≤ 3 ∧ (∀ e ∈ ds, ShortD e) ∧ Dt K G v0 d0 ∧ ShortD d0 ∧ (fl = "takes" ∧ C = CH ∨ fl = "forgets" ∧ C = CR) ∧
  (∀ g, dueH fl ds d0 = some g → ∀ dd G1 H1, Zp G1 M H1 → Same G G1 → G1 dd = some (.xd [("field", .str g)]) → E (.ref CI) (some dd) H1) ∧
  (dueH fl ds d0 = none → ∀ x G1 H1, Zp G1 M H1 → Same G G1 → TkI K G1 C x (tkH fl ds d0) → Q (.ref x) H1)
section
variable {P : Program} {w : World} {K : PySem.W.Frag} {mg : Str → Option Value} {base : Heap} {f : Addr} {fd : FuncData} {CH CR CI a1 a2 a3 a4 : Addr}
theorem ok_called (T : Nm K mg) (e : ∀ G, SqT K G a1 [] ∧ SqT K G a2 [] ∧ SqT K G a3 [] ∧ SqT K G a4 []) (HH : HdC P w K mg base CH CI "HandOn" "takes" [.int 1, .ref a1, .ref a2] [.ref a4]) (HR : HdC P w K mg base CR CI "Reopen" "forgets" [.int 1, .ref a1, .ref a2, .ref a3] [])
    (F : FnP K "_law_called" s_law_called f fd) : FnOk P w K mg base (L2.CX P w) 8 f fd ["_law_sort", "_law_some", "_law_duty"] (spCalled K CH CR CI) := by
  have nd : N_law_called.Nodup := sc_law_called.nd
  refine F.ok sc_law_called (fun vs H Q E h => ?_) (fun cdv A outer s H vs Q E hr h => ?_)
  · obtain ⟨G, M, a, v0, rest, ds, d0, fl, C, rfl, _⟩ := h
    rfl
  have hu := hr.units
  refine ⟨_,   (pss_cons (ps_if (pt_cmpR (k_eq (K := K) hu) (pv 0) pe_str (nomark _)) (pss_cons (ps_if (pt_cmpR (k_eq (K := K) hu) (pe_callB (kc_len (K := K) (P := P) (w := w)) (by rfl) T.b_len PySem.boot_len (pa_cons (pv 1) pa_nil)) pe_int (nomark _)) (pss_one (ps_ret (pe_mkN0 (HH.b 0 (by decide)) (hr.mono (by decide)) (by rfl) (passXU (takes_of rfl rfl rfl rfl)) (pk_cons (pv 2) pk_nil)))) pss_nil)
    (pss_cons (ps_if (pt_cmpR (k_eq (K := K) hu) (pe_callB (kc_len (K := K) (P := P) (w := w)) (by rfl) T.b_len PySem.boot_len (pa_cons (pv 1) pa_nil)) pe_int (nomark _)) (pss_one (ps_ret (pe_mkN (HH.b 1 (by decide)) (hr.mono (by decide)) (by rfl) (passXU (takes_of rfl rfl rfl rfl)) (pa_cons (pe_ix (k_ix (K := K)) (pv 1) pe_int (fun _ _ => rfl)) pa_nil) (pk_cons (pv 2) pk_nil)))) pss_nil)
    (pss_one (ps_ret (pe_ifExp (pt_cmpR (k_eq (K := K) hu) (pe_callB (kc_len (K := K) (P := P) (w := w)) (by rfl) T.b_len PySem.boot_len (pa_cons (pv 1) pa_nil)) pe_int (nomark _)) (pe_mkN (HH.b 2 (by decide)) (hr.mono (by decide)) (by rfl) (passXU (takes_of rfl rfl rfl rfl)) (pa_cons (pe_ix (k_ix (K := K)) (pv 1) pe_int (fun _ _ => rfl)) (pa_cons (pe_ix (k_ix (K := K)) (pv 1) pe_int (fun _ _ => rfl)) pa_nil)) (pk_cons (pv 2) pk_nil)) (pe_mkN (HH.b 3 (by decide)) (hr.mono (by decide)) (by rfl) (passXU (takes_of rfl rfl rfl rfl)) (pa_cons (pe_ix (k_ix (K := K)) (pv 1) pe_int (fun _ _ => rfl)) (pa_cons (pe_ix (k_ix (K := K)) (pv 1) pe_int (fun _ _ => rfl)) (pa_cons (pe_ix (k_ix (K := K)) (pv 1) pe_int (fun _ _ => rfl)) pa_nil))) (pk_cons (pv 2) pk_nil))))))) pss_nil)
    (pss_cons (ps_if (pt_cmpR (k_eq (K := K) hu) (pe_callB (kc_len (K := K) (P := P) (w := w)) (by rfl) T.b_len PySem.boot_len (pa_cons (pv 1) pa_nil)) pe_int (nomark _)) (pss_one (ps_ret (pe_mkN0 (HR.b 0 (by decide)) (hr.mono (by decide)) (by rfl) (passXU (takes_of rfl rfl rfl rfl)) (pk_cons (pv 2) pk_nil)))) pss_nil)
    (pss_cons (ps_if (pt_cmpR (k_eq (K := K) hu) (pe_callB (kc_len (K := K) (P := P) (w := w)) (by rfl) T.b_len PySem.boot_len (pa_cons (pv 1) pa_nil)) pe_int (nomark _)) (pss_one (ps_ret (pe_mkN (HR.b 1 (by decide)) (hr.mono (by decide)) (by rfl) (passXU (takes_of rfl rfl rfl rfl)) (pa_cons (pe_ix (k_ix (K := K)) (pv 1) pe_int (fun _ _ => rfl)) pa_nil) (pk_cons (pv 2) pk_nil)))) pss_nil)
    (pss_one (ps_ret (pe_ifExp (pt_cmpR (k_eq (K := K) hu) (pe_callB (kc_len (K := K) (P := P) (w := w)) (by rfl) T.b_len PySem.boot_len (pa_cons (pv 1) pa_nil)) pe_int (nomark _)) (pe_mkN (HR.b 2 (by decide)) (hr.mono (by decide)) (by rfl) (passXU (takes_of rfl rfl rfl rfl)) (pa_cons (pe_ix (k_ix (K := K)) (pv 1) pe_int (fun _ _ => rfl)) (pa_cons (pe_ix (k_ix (K := K)) (pv 1) pe_int (fun _ _ => rfl)) pa_nil)) (pk_cons (pv 2) pk_nil)) (pe_mkN (HR.b 3 (by decide)) (hr.mono (by decide)) (by rfl) (passXU (takes_of rfl rfl rfl rfl)) (pa_cons (pe_ix (k_ix (K := K)) (pv 1) pe_int (fun _ _ => rfl)) (pa_cons (pe_ix (k_ix (K := K)) (pv 1) pe_int (fun _ _ => rfl)) (pa_cons (pe_ix (k_ix (K := K)) (pv 1) pe_int (fun _ _ => rfl)) pa_nil))) (pk_cons (pv 2) pk_nil)))))))), ?_⟩
  obtain ⟨G, M, a, v0, rest, ds, d0, fl, C, rfl, z, ha, hd, hl, hf, h0, hs, hfl, q1, q2⟩ := h
  have hlr : rest.length = ds.length := hd.len (ds := ds)
  have fin : ∀ {x dx : Addr} {H1 : Hp}, Zp (upd G dx (.own x)) (M ++ [(x, .ins C dx [])]) H1 → Same G (upd G dx (.own x)) → spHJ K C CI fl (if fl = "takes" then [.int 1, .ref a1, .ref a2] else [.int 1, .ref a1, .ref a2, .ref a3]) (if fl = "takes" then [.ref a4] else []) rest.length (.ref x :: rest ++ [v0]) H1 (fun v H3 => v = .non ∧ Q (.ref x) H3) E := by
    intro x dx H1 z1 s1
    refine ⟨_, rest, v0, rfl, rfl, ?_⟩
    have k1 : ∀ g, dueH fl ds d0 = some g → ∀ dd G1 H1, Zp G1 M H1 → Same (upd G dx (.own x)) G1 → G1 dd = some (.xd [("field", .str g)]) → E (.ref CI) (some dd) H1 := fun g hg dd G1 H1 z2 s2 hx => q1 g hg dd G1 H1 z2 (s1.trans s2) hx
    have k2 : dueH fl ds d0 = none → ∀ G1 H1, Zp G1 M H1 → Same (upd G dx (.own x)) G1 → TkI K G1 C x (tkH fl ds d0) → (fun v H3 => v = V.non ∧ Q (.ref x) H3) .non H1 := fun hg G1 H1 z2 s2 ht => ⟨rfl, q2 hg x G1 H1 z2 (s1.trans s2) ht⟩
    rcases hfl with ⟨rfl, rfl⟩ | ⟨rfl, rfl⟩
    · rw [if_pos rfl, if_pos rfl]
      exact hand_takes e z1 (hd.up s1) hl hf (h0.up s1) hs k1 k2
    · rw [if_neg (by decide), if_neg (by decide)]
      exact hand_forgets e z1 (hd.up s1) hl hf (h0.up s1) hs k1 k2
  rcases hfl with ⟨rfl, rfl⟩ | ⟨rfl, rfl⟩
  all_goals (match rest, ha, hd, hlr, @fin with
  | [], ha, hd, hlr, fin => 
    (repeat (walk_at "z"))
    refine z_eqS rfl ?_
    (repeat (walk_at "z"))
    first | refine z_bT' (by decide +kernel) ?_ | refine z_bF' (by decide +kernel) ?_
    (repeat (walk_at "z"))
    refine z_lenL z ha ?_
    (repeat (walk_at "z"))
    refine z_eqS rfl ?_
    (repeat (walk_at "z"))
    refine z_bT' (by show decide (V.int 0 = V.int 0) = _; decide +kernel) ?_
    (repeat (walk_at "z"))
    exact z_mkI z rfl rfl fun x dx H1 z1 s1 => fin z1 s1
  | [x1], ha, hd, hlr, fin => 
    (repeat (walk_at "z"))
    refine z_eqS rfl ?_
    (repeat (walk_at "z"))
    first | refine z_bT' (by decide +kernel) ?_ | refine z_bF' (by decide +kernel) ?_
    (repeat (walk_at "z"))
    refine z_lenL z ha ?_
    (repeat (walk_at "z"))
    refine z_eqS rfl ?_
    (repeat (walk_at "z"))
    refine z_bF' (by show decide (V.int 1 = V.int 0) = _; decide +kernel) ?_
    (repeat (walk_at "z"))
    refine z_lenL z ha ?_
    (repeat (walk_at "z"))
    refine z_eqS rfl ?_
    (repeat (walk_at "z"))
    refine z_bT' (by show decide (V.int 1 = V.int 1) = _; decide +kernel) ?_
    (repeat (walk_at "z"))
    refine z_ixL z ha (v := x1) rfl ?_
    (repeat (walk_at "z"))
    exact z_mkI z rfl rfl fun x dx H1 z1 s1 => fin z1 s1
  | [x1, x2], ha, hd, hlr, fin => 
    (repeat (walk_at "z"))
    refine z_eqS rfl ?_
    (repeat (walk_at "z"))
    first | refine z_bT' (by decide +kernel) ?_ | refine z_bF' (by decide +kernel) ?_
    (repeat (walk_at "z"))
    refine z_lenL z ha ?_
    (repeat (walk_at "z"))
    refine z_eqS rfl ?_
    (repeat (walk_at "z"))
    refine z_bF' (by show decide (V.int 2 = V.int 0) = _; decide +kernel) ?_
    (repeat (walk_at "z"))
    refine z_lenL z ha ?_
    (repeat (walk_at "z"))
    refine z_eqS rfl ?_
    (repeat (walk_at "z"))
    refine z_bF' (by show decide (V.int 2 = V.int 1) = _; decide +kernel) ?_
    (repeat (walk_at "z"))
    refine z_lenL z ha ?_
    (repeat (walk_at "z"))
    refine z_eqS rfl ?_
    (repeat (walk_at "z"))
    refine z_bT' (by show decide (V.int 2 = V.int 2) = _; decide +kernel) ?_
    (repeat (walk_at "z"))
    refine z_ixL z ha (v := x1) rfl ?_
    (repeat (walk_at "z"))
    refine z_ixL z ha (v := x2) rfl ?_
    (repeat (walk_at "z"))
    exact z_mkI z rfl rfl fun x dx H1 z1 s1 => fin z1 s1
  | [x1, x2, x3], ha, hd, hlr, fin => 
    (repeat (walk_at "z"))
    refine z_eqS rfl ?_
    (repeat (walk_at "z"))
    first | refine z_bT' (by decide +kernel) ?_ | refine z_bF' (by decide +kernel) ?_
    (repeat (walk_at "z"))
    refine z_lenL z ha ?_
    (repeat (walk_at "z"))
    refine z_eqS rfl ?_
    (repeat (walk_at "z"))
    refine z_bF' (by show decide (V.int 3 = V.int 0) = _; decide +kernel) ?_
    (repeat (walk_at "z"))
    refine z_lenL z ha ?_
    (repeat (walk_at "z"))
    refine z_eqS rfl ?_
    (repeat (walk_at "z"))
    refine z_bF' (by show decide (V.int 3 = V.int 1) = _; decide +kernel) ?_
    (repeat (walk_at "z"))
    refine z_lenL z ha ?_
    (repeat (walk_at "z"))
    refine z_eqS rfl ?_
    (repeat (walk_at "z"))
    refine z_bF' (by show decide (V.int 3 = V.int 2) = _; decide +kernel) ?_
    (repeat (walk_at "z"))
    refine z_ixL z ha (v := x1) rfl ?_
    (repeat (walk_at "z"))
    refine z_ixL z ha (v := x2) rfl ?_
    (repeat (walk_at "z"))
    refine z_ixL z ha (v := x3) rfl ?_
    (repeat (walk_at "z"))
    exact z_mkI z rfl rfl fun x dx H1 z1 s1 => fin z1 s1
  | _ :: _ :: _ :: _ :: _, _, _, hlr, _ => simp at hlr; omega)
end
end LW
namespace LW
open PySem PySem.Spec PyProof.Rows L2 Ys

/-! ### _law_due -/
section
variable {P : Program} {w : World} {K : PySem.W.Frag} {mg : Str → Option Value} {base : Heap} {f : Addr} {fd : FuncData}
abbrev OwnLW (P : Program) (w : World) (K : PySem.W.Frag) (mg : Str → Option Value) (base : Heap) : Prop := Own P w K mg base CX0 1 "_law_is_word" ["_law_value"] (spWord K)
theorem seq_src {G : Hp} {v : V} {d : PyData} (h : Dt K G v d) (hl : listD d = true) : ∃ a xs, v = .ref a ∧ Dts K G xs (itemsD d) ∧ ((SqL K G a xs) ∨ (SqT K G a xs)) := by
  cases h with
  | lst h1 h2 => exact ⟨_, _, rfl, h2, .inl h1⟩
  | tup h1 h2 => exact ⟨_, _, rfl, h2, .inr h1⟩
  | _ => cases hl
theorem z_any2 {G H : Hp} {M : List (Addr × HO)} {a : Addr} {xs : List V} {σ : L2.St} {k : Nat} {R : It → Hp → Prop} (z : Zp G M H) (hσ : σ[k]? = some (some (.ref a))) (h : SqL K G a xs ∨ SqT K G a xs)
    (q : ∀ J OK, Src J xs OK → (∀ G1 M1 H1, Same G G1 → Zp G1 M1 H1 → OK H1) → R J H) : iAny K (tVar k) σ H R := by
  rcases h with h | h
  · exact z_anyL (z_var hσ (z_itL z h (q _ _ src_L fun G1 M1 H1 s z1 => z1.seqL (upL s h))))
  · exact z_anyT (z_var hσ (z_itT z h (q _ _ src_T fun G1 M1 H1 s z1 => z1.seqT (upT s h))))
def spDueH (K : PySem.W.Frag) : Sp := fun vs H Q _ => ∃ G M a v0 rest ds d0, ∃ fl : Str, vs = [.str fl, .ref a, v0] ∧ Zp G M H ∧ SqL K G a rest ∧ Dts K G rest ds ∧ ds.length ≤ 3 ∧ (∀ e ∈ ds, ShortD e) ∧ Dt K G v0 d0 ∧ ShortD d0 ∧ ∀ G1 H1, Zp G1 M H1 → Same G G1 → Q (rV (dueH fl ds d0)) H1
theorem ok_dueH (T : Nm K mg) (C_law_is_word : OwnLW P w K mg base) (F : FnP K "_law_due" s_law_due f fd) : FnOk P w K mg base CX0 2 f fd ["_law_sort", "_law_some", "_law_duty"] (spDueH K) := by
  have nd : N_law_due.Nodup := sc_law_due.nd
  refine F.ok sc_law_due (fun vs H Q E h => ?_) (fun cdv A outer s H vs Q E hr h => ?_)
  · obtain ⟨G, M, a, v0, rest, ds, d0, fl, rfl, _⟩ := h
    rfl
  have hu := hr.units
  refine ⟨_, PSs.nox   (pss_cons (ps_setLc (i := 3) (own := [("_law_one", 4)]) rfl nd rfl rfl (sw_true rfl rfl rfl (by decide +kernel)) (k_any (K := K) (pv 1)) (blkOk_by (N := N_law_due) (sc := defScope s_law_due) (by decide +kernel)) (fun _ _ _ _ _ => (pg_name (i := 4) nd rfl (by first | exact .inl rfl | exact .inr rfl))) (fun _ _ _ _ _ => pts_one (pt_not (pt_val (pe_own C_law_is_word (hr.mono (by decide)) (by rfl) pass0 (pa_cons (pv 4) pa_nil))))) (fun _ _ _ _ _ => (pv 4)))
    (pss_cons (ps_if (PW.pt (pw_or (pt_cmpR (k_ne (K := K) hu) (pv 3) (pe_lst pa_nil) (nomark _)) (pw_or (pt_cmpR (k_eq (K := K) hu) (pv 1) (pe_lst pa_nil) (nomark _)) (pw_or1 (pt_cmpR (k_ne (K := K) hu) (pe_callB (kc_len (K := K) (P := P) (w := w)) (by rfl) T.b_len PySem.boot_len (pa_cons (pe_callTy (kc_set (K := K) (P := P) (w := w) rfl) (by rfl) T.b_set boot_set (pa_cons (pe_lc (own := [("_law_one", 4)]) (tt := tYes) rfl nd (k_any (K := K) (pv 1)) (blkOk_by (N := N_law_due) (sc := defScope s_law_due) (by decide +kernel)) (fun _ _ _ _ _ => (pg_name (i := 4) nd rfl (by first | exact .inl rfl | exact .inr rfl))) (fun _ _ _ _ _ => pts_nil) (fun _ _ _ _ _ => (pe_callTy c_str (by rfl) T.b_str boot_str (pa_cons (pv 4) pa_nil)))) pa_nil)) pa_nil)) (pe_callB (kc_len (K := K) (P := P) (w := w)) (by rfl) T.b_len PySem.boot_len (pa_cons (pv 1) pa_nil)) (nomark _)))))) (pss_one (ps_ret (pv 0))) pss_nil)
    (pss_one (ps_ret (pe_ifExp (PW.pt (pw_or (pt_cmpR o_isN (pv 2) pe_non (nomark _)) (pw_or1 (pt_val (pe_own C_law_is_word (hr.mono (by decide)) (by rfl) pass0 (pa_cons (pv 2) pa_nil)))))) pe_non pe_str))))), ?_⟩
  obtain ⟨G, M, a, v0, rest, ds, d0, fl, rfl, z, hS, hxs, hle, hf, h0, hs, q⟩ := h
  have hlen := hxs.len (ds := ds)
  have bad : (ds.isEmpty || !diffD none (.tuple ds)) = true → dueH fl ds d0 = some fl := fun h => by unfold dueH; rw [if_pos h]
  have badW : ds.all wordD = false → dueH fl ds d0 = some fl := fun h => bad (by
    have : diffD none (.tuple ds) = false := by
      unfold diffD wordsD
      show (true && (true && ds.all wordD) && _) = false
      rw [h]
      rfl
    rw [this]
    exact Bool.or_true _)
  repeat (walk_at "z")
  refine z_any2 z rfl (.inl hS) fun J OK S ok => ?_
  refine lc_src S (fun i G' M' acc => M' = M ∧ Same G G' ∧ acc.length ≤ i ∧ (acc = [] ↔ (ds.take i).all wordD = true)) z ⟨rfl, Same.refl _, Nat.le_refl _, by simp⟩ (fun i G' M' M1 acc H' ⟨_, s', _⟩ z' => ok G' _ H' s' z') ?_ ?_
  · rintro i x G' M' acc Dl H' hx ⟨rfl, s', ha, hiff⟩ z'
    obtain ⟨e, h1, h2⟩ := hxs.at_ hx
    have hi := (List.getElem?_eq_some_iff.mp h1).1
    repeat (walk_at "z")
    refine ⟨by rfl, ?_⟩
    repeat (walk_at "z")
    refine ⟨G', _, x, e, rfl, z', h2.up s', hf e (List.mem_of_getElem? h1), fun G3 H3 z3 s3 => ?_⟩
    repeat (walk_at "z")
    have tk : (ds.take (i + 1)).all wordD = ((ds.take i).all wordD && wordD e) := by
      rw [List.take_add_one, h1, List.all_append]
      simp
    cases hw : wordD e with
    | true =>
      repeat (walk_at "z")
      exact z_left z3 ⟨rfl, s'.trans s3, by omega, by rw [tk, hw, Bool.and_true]; exact hiff⟩
    | false =>
      repeat (walk_at "z")
      exact z_laid z3 (by omega) ⟨rfl, s'.trans s3, by rw [List.length_append]; show acc.length + 1 ≤ i + 1; omega, by rw [tk, hw, Bool.and_false]; simp⟩
  rintro p2 G2 M2 acc G3 H3 ⟨rfl, s2, ha, hiff⟩ s3 z3 e3
  rw [hlen, List.take_length] at hiff
  have s03 := s2.trans s3
  repeat (walk_at "z")
  refine z_newL z3 (by simp) fun p4 G4 H4 z4 s4 e4 => ?_
  refine z_neNil (z4.seqL (SqL.of (s4 _ _ e3))) (z4.sub _ _ e4) ?_
  repeat (walk_at "z")
  refine z_bd (fun c => ?_) (fun c => ?_)
  · repeat (walk_at "z")
    have := q G4 _ z4 (s03.trans s4)
    rw [badW (by
      cases h : ds.all wordD with
      | false => rfl
      | true => exact absurd (hiff.mpr h) c)] at this
    exact this
  have hall : ds.all wordD = true := hiff.mp (Classical.not_not.mp c)
  repeat (walk_at "z")
  refine z_newL z4 (by simp) fun p5 G5 H5 z5 s5 e5 => ?_
  have s05 := s03.trans (s4.trans s5)
  refine z_eqNil (z5.seqL (upL s05 hS)) (z5.sub _ _ e5) ?_
  repeat (walk_at "z")
  refine z_bd (fun c2 => ?_) (fun c2 => ?_)
  · repeat (walk_at "z")
    have := q G5 _ z5 s05
    have e : ds = [] := List.length_eq_zero_iff.mp (by rw [← hlen, c2]; rfl)
    rw [bad (by rw [e]; rfl)] at this
    exact this
  have hi := strs_of hall
  generalize hss : ds.map strOf = ss at hi
  rw [hi] at hxs
  have ex := dts_strs hxs
  subst ex
  have hsl : ss.length ≤ 60 := by rw [hi, List.length_map] at hle; omega
  have hS5 : SqL K G5 a (ss.map V.str) ∨ SqT K G5 a (ss.map V.str) := .inl (upL s05 hS)
  repeat (walk_at "z")
  refine z_any2 z5 rfl hS5 fun J OK S ok => ?_
  refine lc_src S (fun i G' M' acc => M' = M2 ∧ Same G5 G' ∧ acc = (ss.take i).map V.str) z5 ⟨rfl, Same.refl _, rfl⟩ (fun i G' M' M1 acc H' ⟨_, s', _⟩ z' => ok G' _ H' s' z') ?_ ?_
  · rintro i x G' M' acc Dl H' hx ⟨rfl, s', rfl⟩ z'
    obtain ⟨u, hu1, rfl⟩ : ∃ u, ss[i]? = some u ∧ x = V.str u := by
      rw [List.getElem?_map] at hx
      cases e : ss[i]? with
      | none => rw [e] at hx; cases hx
      | some u => rw [e] at hx; exact ⟨u, rfl, (Option.some.inj hx).symm⟩
    repeat (walk_at "z")
    refine ⟨by rfl, ?_⟩
    repeat (walk_at "z")
    refine z_str1 (z_laid z' (by rw [List.length_map, List.length_take]; omega) ⟨rfl, s', ?_⟩)
    rw [List.take_add_one, hu1]
    simp
  rintro p6 G6 M6 acc G7 H7 ⟨rfl, s6, rfl⟩ s7 z7 e7
  rw [List.length_map, List.take_length] at e7
  repeat (walk_at "z")
  refine z_set z7 (.inl (SqL.of e7)) (by omega) fun p8 l8 G8 H8 z8 s8 e8 m8 n8 le8 => ?_
  repeat (walk_at "z")
  refine z_lenX z8 e8 (by omega) ?_
  repeat (walk_at "z")
  have s58 := s6.trans (s7.trans s8)
  refine z_lenH (hS5.imp (fun h => z8.seqL (upL s58 h)) fun h => z8.seqT (upT s58 h)) ?_
  repeat (walk_at "z")
  refine .inl ⟨rfl, ?_⟩
  have s08 := s05.trans s58
  have ed : diffD none (.tuple ds) = decide (l8.length = ss.length) := by
    unfold diffD wordsD
    show (true && (true && ds.all wordD) && decide ((dd (ds.map strOf)).length = ds.length)) = _
    rw [hall, hss, ← dd_len m8 n8]
    rw [show ds.length = ss.length by rw [hi, List.length_map]]
    rfl
  have ne : ds.isEmpty = false := by
    cases ds with
    | nil => exact absurd (by have : ss = [] := by rw [← hss]; rfl
                              rw [this]; rfl) c2
    | cons _ _ => rfl
  repeat (walk_at "z")
  refine z_bd (fun c3 => ?_) (fun c3 => ?_)
  · have c4 : l8.length = ss.length := by
      rw [List.length_map] at c3
      have := V.int.inj c3
      omega
    have du : dueH fl ds d0 = (if badRole d0 then some ("role" : Str) else (none : Option Str)) := by
      unfold dueH
      rw [if_neg (by rw [ed, decide_eq_true c4, ne]; decide)]
    rw [du] at q
    repeat (walk_at "z")
    refine z_iN ?_
    rw [non_iff (h0.up s08)]
    repeat (walk_at "z")
    unfold badRole at q
    cases hn : noneD d0 with
    | true =>
      repeat (walk_at "z")
      rw [hn] at q
      exact q G8 _ z8 s08
    | false =>
      repeat (walk_at "z")
      refine ⟨G8, _, v0, d0, rfl, z8, h0.up s08, hs, fun G9 H9 z9 s9 => ?_⟩
      repeat (walk_at "z")
      rw [hn] at q
      cases hw : wordD d0 with
      | true =>
        repeat (walk_at "z")
        rw [hw] at q
        exact q G9 _ z9 (s08.trans s9)
      | false =>
        repeat (walk_at "z")
        rw [hw] at q
        exact q G9 _ z9 (s08.trans s9)
  · repeat (walk_at "z")
    have := q G8 _ z8 s08
    have c4 : ¬ l8.length = ss.length := fun h => c3 (by rw [List.length_map, h])
    rw [bad (by rw [ed, decide_eq_false c4]; exact Bool.or_true _)] at this
    exact this
end
end LW
namespace LW
open PySem PySem.Spec PyProof.Rows L2 Ys

/-! ### the law -/
section
variable {P : Program} {w : World} {K : PySem.W.Frag} {mg : Str → Option Value} {base : Heap} {f : Addr} {fd : FuncData} {CT CV CH CR CI cL pT : Addr}
def spPenM (K : PySem.W.Frag) : Sp := fun vs H Q _ => ∃ (a : Addr) (G : Hp) (M : List (Addr × HO)) (ns : List Int), vs = [.ref a] ∧ Zp G M H ∧ SqL K G a (ns.map V.int) ∧ ∀ p G1 H1 o1, Zp G1 ((p, o1) :: M) H1 → Same G G1 → Pen K G1 0 o1 → Q (.ref p) H1
theorem ok_penM (T : Nm K mg) (F : FnP K "_law_pen" s_law_pen f fd) : FnOk P w K mg base CX0 1 f fd ["_law_script"] (spPenM K) := by
  have nd : N_law_pen.Nodup := sc_law_pen.nd
  refine F.ok sc_law_pen (fun vs H Q E h => ?_) (fun cdv A outer s H vs Q E hr h => ?_)
  · obtain ⟨a, G, M, ns, rfl, _⟩ := h
    rfl
  have hu := hr.units
  refine ⟨_, PSs.nox   (pss_one (ps_ret (pe_disp (pps_cons pe_str (pe_callTy (kc_list (K := K)) (by rfl) T.b_list boot_list (pa_cons (pe_slice (k_sl (K := K)) (pv 0) po_none (po_some pe_int)) pa_nil)) (pps_cons pe_str pe_int (pps_cons pe_str pe_int pps_nil))) (by rfl) (by rfl) (fun z => by cases z) (by decide)))), ?_⟩
  obtain ⟨a, G, M, ns, rfl, z, hS, q⟩ := h
  repeat (walk_at "z")
  refine z_disp z fun p H1 z1 => ?_
  repeat (walk_at "z")
  refine z_slL z1 hS fun a2 G2 H2 z2 s2 e2 => ?_
  rw [cut_map] at e2
  repeat (walk_at "z")
  refine z_listG z2 (.inl (SqL.of e2)) fun a3 G3 H3 z3 s3 e3 => ?_
  repeat (walk_at "z")
  refine z_dispE (M := M) z3 [(.inr ("cells" : Str), .ref a3), (.inr ("spot" : Str), .int 0), (.inr ("rest" : Str), .int 0)] rfl (by show 3 ≤ 15; decide) fun H4 z4 => ?_
  refine q p G3 H4 _ (z4.perm (by exact List.perm_append_comm)) (s2.trans s3) ⟨a3, 0, 0, _, ?_, SqL.of e3, ?_, by decide, by decide, by decide⟩
  · have e1 : ¬ Str.ofString "cells" = Str.ofString "rest" := by decide +kernel
    have e2 : ¬ Str.ofString "spot" = Str.ofString "rest" := by decide +kernel
    have e3 : ¬ Str.ofString "cells" = Str.ofString "spot" := by decide +kernel
    simp [mergeK, putK, e1, e2, e3, penO]
  · rw [List.length_take]
    have : HT.sIx ns.length ns.length (some 63) = min 63 ns.length := HT.sIx_nat ns.length ns.length 63
    rw [this]
    omega

def spLaw (K : PySem.W.Frag) (pT : Addr) : Sp := fun vs H Q _ => ∃ G a, ∃ ns : List Int, vs = [.ref a] ∧ Zp G [(pT, .tbl #[])] H ∧ SqL K G a (ns.map V.int) ∧ ns.length ≤ 63 ∧ ∀ H1, Q (.bl true) H1
abbrev QL : Str := "law.<locals>.<lambda>"
def FamL (CT CV CH CR : Addr) : Addr → Prop := fun C => C = CT ∨ C = CV ∨ C = CH ∨ C = CR
def gVo (o : V) (vs zs : List V) : List V := vs ++ [.non, o]
structure LawC (P : Program) (w : World) (K : PySem.W.Frag) (mg : Str → Option Value) (base : Heap) (CT CV CH CR CI : Addr) (e1 e2 e3 e4 eV : Addr) : Prop where
  pen : Own P w K mg base CX0 1 "_law_pen" ["_law_script"] (spPenM K)
  drw : OwnD P w K mg base
  pick : OwnP P w K mg base
  words : Own P w K mg base CX0 3 "_law_words" ["_law_pen_here", "_law_count"] (spWords K)
  shuf : Own P w K mg base CX0 2 "_law_shuffled" ["_law_pen_here", "_law_items"] (spShuf K)
  any : Own P w K mg base CX0 3 "_law_any_value" ["_law_pen_here"] (spAny K)
  due : Own P w K mg base CX0 2 "_law_due" ["_law_sort", "_law_some", "_law_duty"] (spDueH K)
  shown : Own P w K mg base CX0 3 "_law_shown" ["_law_one"] (spShownU K (FamL CT CV CH CR))
  called : Own P w K mg base (L2.CX P w) 8 "_law_called" ["_law_sort", "_law_some", "_law_duty"] (spCalled K CH CR CI)
  v2o : MkS P w K mg base (L2.CX P w) 6 CV "Vote" 2 ["other"] gCat (spVote K CV CI [.ref e2, .ref e3, .ref e4])
  v0m : MkS P w K mg base (L2.CX P w) 6 CV "Vote" 0 ["many"] (fun vs zs => vs ++ (zs ++ [.non, .ref eV])) (spVote K CV CI [.ref e2, .ref e3, .ref e4])
  v1 : MkS P w K mg base (L2.CX P w) 6 CV "Vote" 1 [] (fun vs zs => vs ++ [.non, .ref eV]) (spVote K CV CI [.ref e2, .ref e3, .ref e4])
  v2 : MkS P w K mg base (L2.CX P w) 6 CV "Vote" 2 [] (fun vs zs => vs ++ [.ref eV]) (spVote K CV CI [.ref e2, .ref e3, .ref e4])
  v1o : MkS P w K mg base (L2.CX P w) 6 CV "Vote" 1 ["other"] (fun vs zs => vs ++ (.non :: zs)) (spVote K CV CI [.ref e2, .ref e3, .ref e4])
  tt : MkS P w K mg base CX0 4 CT "Task" 1 ["takes"] (gW [.int 1, .ref e1, .ref e2] [.ref e4]) (spInit K CT)
  tf : MkS P w K mg base CX0 4 CT "Task" 1 ["forgets"] (gW [.int 1, .ref e1, .ref e2, .ref e3] []) (spInit K CT)
  tmo : MkS P w K mg base CX0 4 CT "Task" 1 ["many", "other"] (gMO [.ref e2, .ref e3, .ref e4]) (spInit K CT)
  t0 : MkS P w K mg base CX0 4 CT "Task" 0 [] (fun vs zs => vs ++ [.non, .int 1, .ref e1, .ref e2, .ref e3, .ref e4]) (spInit K CT)
  gT : mg "Task" = some (.ref CT)
  fam : FamC P w K mg base CT (FamL CT CV CH CR)
  nfV : PySem.W.notFirst K CV (.ref CV) = true
  nfT : PySem.W.notFirst K CV (.ref CT) = true
  to : ToC K mg CI
  es : ∀ G, SqT K G e1 [] ∧ SqT K G e2 [] ∧ SqT K G e3 [] ∧ SqT K G e4 [] ∧ SqT K G eV []
theorem wd_so {s : Str} (h : Wd s) : PyData.strOk s = true := Lt.ok h.2.2
theorem sh_wd {s : Str} (h : Wd s) : ShortD (.str s) := fun t e => by cases e; have := h.2.1; omega
theorem at_last {xs : List V} (h : xs ≠ []) : ∃ v, v ∈ xs ∧ atI xs (-1) = some v := by
  have hl : xs.length ≠ 0 := fun e => h (List.length_eq_zero_iff.mp e)
  have hj : xs.length - 1 < xs.length := by omega
  refine ⟨xs[xs.length - 1], List.getElem_mem hj, ?_⟩
  unfold atI ixN
  rw [if_neg (by decide), if_pos (by omega)]
  show xs[((-1 : Int) + (xs.length : Int)).toNat]? = _
  rw [show ((-1 : Int) + (xs.length : Int)).toNat = xs.length - 1 by omega]
  exact List.getElem?_eq_getElem hj
theorem cut_le {xs : List V} {r : Int} (h0 : 0 ≤ r) (h3 : r < 4) : (cutV xs none (some r)).length ≤ 3 := by
  unfold cutV
  rw [List.length_take]
  have : HT.sIx xs.length xs.length (some r) ≤ 3 := by
    show (if r < 0 then _ else min r.toNat xs.length) ≤ 3
    rw [if_neg (by omega)]
    omega
  omega
theorem cut_mem {xs : List V} {lo hi : Option Int} {v : V} (h : v ∈ cutV xs lo hi) : v ∈ xs := List.mem_of_mem_drop (List.mem_of_mem_take h)
theorem z_slO {G H : Hp} {M : List (Addr × HO)} {a : Addr} {xs : List V} {Q : VK} {lo hi : Option Int} (z : Zp G M H) (h : SqL K H a xs) (q : ∀ p H1, Zp G (M ++ [(p, .lst (cutV xs lo hi))]) H1 → Q (.ref p) H1) : rSlG K (.ref a) lo hi H Q :=
  .inl ⟨a, xs, rfl, h, fun p hp => q p _ (z.add hp _)⟩
theorem z_told {G H : Hp} {M : List (Addr × HO)} {σ : L2.St} {Q : VK} {te : XK → TE} {P : Addr} {q : Str} {ps : Array Value} (z : Zp G M H) (k : Nat) (e : M[k]? = some (P, .tbl ps)) (t : TbOk G q ps) (du : Option Str)
    (body : ∀ E G1 H1 ps1, Zp G1 (M.set k (P, .tbl ps1)) H1 → Same G G1 → (∀ g, du = some g → ∀ dd G2 H2, Zp G2 (M.set k (P, .tbl ps1)) H2 → Same G1 G2 → G2 dd = some (.xd [("field", .str g)]) → E (.ref CI) (some dd) H2) → ∀ Qn : Hp → Prop, (du = none → ∀ G2 H2, Zp G2 (M.set k (P, .tbl ps1)) H2 → Same G1 G2 → Qn H2) → te E σ H1 fun _ H' => Qn H')
    (fin : ∀ G2 H2 ps2, Zp G2 (M.set k (P, .tbl ps2)) H2 → Same G G2 → TbOk G2 q ps2 → Q (rV du) H2) : tLamC P q (TTtd K CI) te σ H Q := by
  refine z_lamC z k e t fun G1 H1 ps' z1 s1 t1 => ?_
  intro E hE
  refine body E G1 H1 ps' z1 s1 (fun g hg dd G2 H2 z2 s2 hx => ?_) (fun H' => Q .non H') (fun hd G2 H2 z2 s2 => ?_)
  · have := fin G2 H2 ps' z2 (s1.trans s2) (t1.up s2)
    rw [hg] at this
    exact hE _ _ _ ⟨rfl, dd, _, rfl, z2.sub _ _ hx, this⟩
  · have := fin G2 H2 ps' z2 (s1.trans s2) (t1.up s2)
    rw [hd] at this
    exact this
theorem z_neRV {H : Hp} {Q : VK} (x : Option Str) (q : Q (.bl false) H) : Ys.rNeG K (rV x) (rV x) H Q := by
  cases x with
  | none => exact .inl ⟨rfl, by rw [decide_eq_true (rfl : rV none = rV none)]; exact q⟩
  | some s => exact .inl ⟨rfl, by rw [decide_eq_true (rfl : rV (some s) = rV (some s))]; exact q⟩
theorem sh_shown {t : TkD} (g : GoodT t) : SeqAt.shaped (shownP t) = true := by
  have := (fin_plain g).sh (by decide)
  obtain ⟨r, m, l1, l2, l3, l4⟩ := t
  cases r <;> exact this
theorem fn60_one : Fn60 (.int 1) := ⟨⟨by decide, (fun _ h => nomatch h)⟩, by decide⟩
theorem fn60_aa : Fn60 (.list [.str "a", .str "a"]) := ⟨⟨by decide, (fun e h => by
  simp only [itemsD, List.mem_cons, List.not_mem_nil, or_false, or_self] at h
  subst h
  intro t e
  cases e
  decide)⟩, by decide⟩
theorem like_many {m n : Int} {a b c d : List Str} {r : Option Str} (h : m ≠ n) : PyData.eqv (likeP ⟨r, m, a, b, c, d⟩) (likeP ⟨r, n, a, b, c, d⟩) = false := by
  show (PyData.eqv _ _ && (PyData.eqv (.int m) (.int n) && _)) = false
  have : PyData.eqv (.int m) (.int n) = false := by simp [PyData.eqv, h]
  rw [this, Bool.false_and, Bool.and_false]
theorem ok_law {e1 e2 e3 e4 eV : Addr} (T : Nm K mg) (L : LawC P w K mg base CT CV CH CR CI e1 e2 e3 e4 eV) (B_law : LamX.TabB base mg cL pT) (F : FnP K "law" s_law f fd) (hcd : fd.code = .ref cL) : FnG P w K mg base CX0 30 f fd ["_law_script"] (spLaw K pT) := by
  have hE := L.es
  have C_law_pen := L.pen
  have C_law_draw := L.drw
  have C_law_pick := L.pick
  have C_law_words := L.words
  have C_law_shuffled := L.shuf
  have C_law_any_value := L.any
  have C_law_due := L.due
  have C_law_shown := L.shown
  have C_law_called := L.called
  have nd : N_law.Nodup := sc_law.nd
  refine okGC F hcd sc_law (fun vs H Q E h => ?_) (fun A outer s H vs Q E hg hr h => ?_)
  · obtain ⟨G, a, ns, rfl, _⟩ := h
    rfl
  have hu := hr.units
  refine ⟨_, PSs.nox   (pss_cons (ps_asg (pe_own C_law_pen (hr.mono (by decide)) (by rfl) pass0 (pa_cons (pv 0) pa_nil)) (pg_name (i := 1) nd rfl (by first | exact .inl rfl | exact .inr rfl)))
    (pss_cons (ps_for PassesOwn.never rfl (pi_range1 (by rfl) (T.b_range) (pa_cons (pe_op (k_add (K := K)) pe_int (pe_callB (c_min2 rfl) (by rfl) T.b_min boot_min (pa_cons pe_int (pa_cons (pe_callB (kc_len (K := K) (P := P) (w := w)) (by rfl) T.b_len PySem.boot_len (pa_cons (pv 0) pa_nil)) pa_nil)))) pa_nil)) (pg_name (i := 2) nd rfl (by first | exact .inl rfl | exact .inr rfl)) (pss_cons (ps_asg (pe_own C_law_words (hr.mono (by decide)) (by rfl) pass0 (pa_cons (pv 1) (pa_cons pe_int pa_nil))) (pg_name (i := 3) nd rfl (by first | exact .inl rfl | exact .inr rfl)))
    (pss_cons (ps_asg (pe_slice (k_sl (K := K)) (pe_own C_law_shuffled (hr.mono (by decide)) (by rfl) pass0 (pa_cons (pv 1) (pa_cons (pv 3) pa_nil))) po_none (po_some (pe_own C_law_draw (hr.mono (by decide)) (by rfl) pass0 (pa_cons (pv 1) (pa_cons pe_int pa_nil))))) (pg_name (i := 4) nd rfl (by first | exact .inl rfl | exact .inr rfl)))
    (pss_cons (ps_if (PW.pt (pw_and (pt_cmpR (k_ne (K := K) hu) (pv 4) (pe_lst pa_nil) (nomark _)) (pw_and1 (pt_cmpR (k_eq (K := K) hu) (pe_own C_law_draw (hr.mono (by decide)) (by rfl) pass0 (pa_cons (pv 1) (pa_cons pe_int pa_nil))) pe_int (nomark _))))) (pss_one (ps_asg (pe_own C_law_pick (hr.mono (by decide)) (by rfl) pass0 (pa_cons (pv 1) (pa_cons (pe_lst (pa_cons (pe_ix (k_ix (K := K)) (pv 4) (pe_un un_neg pe_int) (fun _ _ => rfl)) (pa_cons (pe_own C_law_any_value (hr.mono (by decide)) (by rfl) pass0 (pa_cons (pv 1) pa_nil)) pa_nil))) pa_nil))) (pg_sub (pv 4) pe_int set_list))) pss_nil)
    (pss_cons (ps_asg (pe_own C_law_pick (hr.mono (by decide)) (by rfl) pass0 (pa_cons (pv 1) (pa_cons (pe_lst (pa_cons pe_non (pa_cons (pe_ix (k_ix (K := K)) (pv 3) pe_int (fun _ _ => rfl)) (pa_cons (pe_ix (k_ix (K := K)) (pv 3) pe_int (fun _ _ => rfl)) (pa_cons (pe_own C_law_any_value (hr.mono (by decide)) (by rfl) pass0 (pa_cons (pv 1) pa_nil)) pa_nil))))) pa_nil))) (pg_name (i := 5) nd rfl (by first | exact .inl rfl | exact .inr rfl)))
    (pss_cons (ps_for PassesOwn.never rfl (k_tup (K := K) (pe_tup (pa_cons pe_str (pa_cons pe_str pa_nil)))) (pg_name (i := 6) nd rfl (by first | exact .inl rfl | exact .inr rfl)) (pss_cons (ps_asg (pe_own C_law_due (hr.mono (by decide)) (by rfl) pass0 (pa_cons (pv 6) (pa_cons (pv 4) (pa_cons (pv 5) pa_nil)))) (pg_name (i := 9) nd rfl (by first | exact .inl rfl | exact .inr rfl)))
    (pss_cons (ps_if (pt_cmpR (k_ne (K := K) hu) (pe_told (k := 20) (q := QL) T L.to (by rfl) B_law rfl (by rfl) (hr.mono (by omega)) (LamX.lamS_by (show LamX.lamSB (defScope s_law) _ = true from by decide +kernel)) (by rfl) (fun _ _ _ _ _ => by rfl) (fun A2 o2 s2 H2 E2 f2 c2 hr2 => (pe_ownX C_law_called (hr2.mono (by omega)) (by rfl) (takes_of rfl rfl rfl rfl) (pa_cons (pv 6) (pa_cons (pv 4) (pa_cons (pv 5) pa_nil)))))) (pv 9) (nomark _)) (pss_one (ps_ret pe_bl)) pss_nil)
    (pss_one (ps_if (pt_cmpR o_isN (pv 9) pe_non (nomark _)) (pss_cons (ps_asg (pe_own C_law_called (hr.mono (by omega)) (by rfl) passX0 (pa_cons (pv 6) (pa_cons (pv 4) (pa_cons (pv 5) pa_nil)))) (pg_name (i := 8) nd rfl (by first | exact .inl rfl | exact .inr rfl)))
    (pss_cons (ps_asg (pe_ifExp (pt_cmpR (k_eq (K := K) hu) (pv 6) pe_str (nomark _)) (pe_mk L.tt (hr.mono (by omega)) (by rfl) pass0 (pa_cons (pv 5) pa_nil) (pk_cons (pv 4) pk_nil)) (pe_mk L.tf (hr.mono (by omega)) (by rfl) pass0 (pa_cons (pv 5) pa_nil) (pk_cons (pv 4) pk_nil))) (pg_name (i := 10) nd rfl (by first | exact .inl rfl | exact .inr rfl)))
    (pss_one (ps_if (PW.pt (pw_or (pt_cmpR (k_neU (K := K) L.fam (hr.mono (by omega))) (pv 8) (pv 10) (nomark _)) (pw_or (pt_cmpR (k_neU (K := K) L.fam (hr.mono (by omega))) (pv 10) (pv 8) (nomark _)) (pw_or (pt_not (pt_val (pe_callB (kc_isi (K := K)) (by rfl) T.b_isinstance boot_isinstance (pa_cons (pv 8) (pa_cons (pe_glob (v := .ref CT) (by rfl) L.gT rfl) pa_nil))))) (pw_or1 (pt_cmpR (k_ne (K := K) hu) (pe_own C_law_shown (hr.mono (by decide)) (by rfl) pass0 (pa_cons (pv 8) pa_nil)) (pe_own C_law_shown (hr.mono (by decide)) (by rfl) pass0 (pa_cons (pv 10) pa_nil)) (nomark _))))))) (pss_one (ps_ret pe_bl)) pss_nil)))) pss_nil)))))
    (pss_cons (ps_asg (pe_op (k_add (K := K)) pe_int (pe_own C_law_draw (hr.mono (by decide)) (by rfl) pass0 (pa_cons (pv 1) (pa_cons pe_int pa_nil)))) (pg_name (i := 7) nd rfl (by first | exact .inl rfl | exact .inr rfl)))
    (pss_cons (ps_asg (pe_mk L.v2o (hr.mono (by omega)) (by rfl) passX0 (pa_cons (pv 7) (pa_cons (pe_ix (k_ix (K := K)) (pv 3) pe_int (fun _ _ => rfl)) pa_nil)) (pk_cons (pe_slice (k_sl (K := K)) (pv 3) po_none (po_some pe_int)) pk_nil)) (pg_name (i := 8) nd rfl (by first | exact .inl rfl | exact .inr rfl)))
    (pss_cons (ps_if (PW.pt (pw_or (pt_cmpR (k_neU (K := K) L.fam (hr.mono (by omega))) (pv 8) (pe_mk L.tmo (hr.mono (by omega)) (by rfl) pass0 (pa_cons (pe_ix (k_ix (K := K)) (pv 3) pe_int (fun _ _ => rfl)) pa_nil) (pk_cons (pv 7) (pk_cons (pe_slice (k_sl (K := K)) (pv 3) po_none (po_some pe_int)) pk_nil))) (nomark _)) (pw_or1 (pt_cmpR (k_eqU (K := K) L.fam (hr.mono (by omega))) (pe_mk0 L.v0m (hr.mono (by omega)) (by rfl) passX0 (pk_cons (pv 7) pk_nil)) (pe_mk L.v1 (hr.mono (by omega)) (by rfl) passX0 (pa_cons (pe_op (k_add (K := K)) pe_int (pe_op o_mod (pe_callTy c_int (by rfl) T.b_int boot_int (pa_cons (pv 7) pa_nil)) pe_int)) pa_nil) pk_nil) (nomark _))))) (pss_one (ps_ret pe_bl)) pss_nil)
    (pss_cons (ps_if (pt_cmpR (k_ne (K := K) hu) (pe_told (k := 20) (q := QL) T L.to (by rfl) B_law rfl (by rfl) (hr.mono (by omega)) (LamX.lamS_by (show LamX.lamSB (defScope s_law) _ = true from by decide +kernel)) (by rfl) (fun _ _ _ _ _ => by rfl) (fun A2 o2 s2 H2 E2 f2 c2 hr2 => (pe_mkX L.v2 (hr2.mono (by omega)) (by rfl) (takes_of rfl rfl rfl rfl) (pa_cons pe_int (pa_cons pe_int pa_nil)) pk_nil))) pe_str (nomark _)) (pss_one (ps_ret pe_bl)) pss_nil)
    (pss_one (ps_if (pt_cmpR (k_ne (K := K) hu) (pe_told (k := 20) (q := QL) T L.to (by rfl) B_law rfl (by rfl) (hr.mono (by omega)) (LamX.lamS_by (show LamX.lamSB (defScope s_law) _ = true from by decide +kernel)) (by rfl) (fun _ _ _ _ _ => by rfl) (fun A2 o2 s2 H2 E2 f2 c2 hr2 => (pe_mkX L.v1o (hr2.mono (by omega)) (by rfl) (takes_of rfl rfl rfl rfl) (pa_cons pe_int pa_nil) (pk_cons pe_int pk_nil)))) pe_str (nomark _)) (pss_one (ps_ret pe_bl)) pss_nil))))))))))))
    (pss_one (ps_ret (pe_and (pe_cmpR (k_eqU (K := K) L.fam (hr.mono (by omega))) (pe_mk L.v1 (hr.mono (by omega)) (by rfl) passX0 (pa_cons pe_int pa_nil) pk_nil) (pe_mk0 L.t0 (hr.mono (by omega)) (by rfl) pass0 pk_nil) (nomark _)) (pe_one (pe_cmpR (k_eq (K := K) hu) (pe_told (k := 20) (q := QL) T L.to (by rfl) B_law rfl (by rfl) (hr.mono (by omega)) (LamX.lamS_by (show LamX.lamSB (defScope s_law) _ = true from by decide +kernel)) (by rfl) (fun _ _ _ _ _ => by rfl) (fun A2 o2 s2 H2 E2 f2 c2 hr2 => (pe_mkX L.v1o (hr2.mono (by omega)) (by rfl) (takes_of rfl rfl rfl rfl) (pa_cons pe_int pa_nil) (pk_cons (pe_lst (pa_cons pe_str (pa_cons pe_str pa_nil))) pk_nil)))) pe_str (nomark _)))))))), ?_⟩
  obtain ⟨G, a, ns, rfl, z, hS, hn, q⟩ := h
  repeat (walk_at "z")
  refine ⟨a, G, _, ns, rfl, z, hS, fun p G1 H1 o1 z1 s1 hp1 => ?_⟩
  repeat (walk_at "z")
  refine z_lenH (.inl (z1.seqL (upL s1 hS))) ?_
  rw [List.length_map]
  repeat (walk_at "z")
  refine z_min2 ?_
  generalize hn8 : (if (ns.length : Int) < 8 then (ns.length : Int) else 8) = n8
  have n80 : 0 ≤ n8 ∧ n8 ≤ 8 := by rw [← hn8]; split <;> omega
  repeat (walk_at "z")
  refine z_itR (by omega) (by omega) ?_
  refine for_src src_R (fun i σ G' M' => ∃ o' ps k2 k3 k4 k5 k6 k7 k8 k9 k10, M' = [(p, o'), (pT, .tbl ps)] ∧ TbOk G' QL ps ∧ Same G1 G' ∧ Pen K G' (100 * i) o' ∧ σ = [some (.ref a), some (.ref p), k2, k3, k4, k5, k6, k7, k8, k9, k10])
    z1 ⟨o1, #[], _, _, _, _, _, _, _, _, _, rfl, .nil, Same.refl _, hp1, rfl⟩ (fun _ _ _ _ _ _ _ => trivial) ?_ ?_
  · rintro i x σ G0 M0 H0 hx ⟨o0, ps0, k2, k3, k4, k5, k6, k7, k8, k9, k10, rfl, tb0, sm0, hp0, rfl⟩ z0
    obtain ⟨hi, rfl⟩ := rng_at hx
    have hb : 100 * i ≤ 4000 := by omega
    generalize hbb : 100 * i = b at hp0 hb
    repeat (walk_at "z")
    refine ⟨p, o0, G0, _, b, 4, rfl, z0, hp0, by omega, by decide, fun lw G2 H2 o2 ss z2 s2 hp2 e2 l2 w2 wn2 => ?_⟩
    obtain ⟨t0, t1, t2, t3, hss⟩ : ∃ a b c d, ss = [a, b, c, d] := by
      match ss, l2 with
      | [a, b, c, d], _ => exact ⟨a, b, c, d, rfl⟩
    repeat (walk_at "z")
    refine ⟨p, o2, G2, _, _, lw, _, rfl, z2, hp2, by rw [List.length_map]; omega, .inl (SqL.of e2), fun v hv => ?_, by rw [List.length_map]; omega, fun sl ys G3 H3 o3 z3 s3 hp3 hperm => ?_⟩
    · obtain ⟨s, hs, rfl⟩ := List.mem_map.mp hv
      exact El.str (wd_so (w2 s hs))
    repeat (walk_at "z")
    refine ⟨p, o3, G3, _, _, 4, rfl, z3, hp3, by rw [List.length_map]; omega, by decide, by decide, fun r4 G4 H4 o4 z4 s4 hp4 r40 r44 => ?_⟩
    repeat (walk_at "z")
    refine z_slO z4 (.inl (.inl (z4.at_ 1 rfl))) fun sm H5 z5 => ?_
    have z5 : Zp G4 [(p, o4), (pT, .tbl ps0), (sm, .lst (cutV ys none (some r4)))] H5 := z5.keep (.cons_cons _ (.cons _ (List.Sublist.refl _)))
    have hxs : ∀ v ∈ cutV ys none (some r4), ∃ s ∈ ss, v = V.str s := fun v hv => by
      obtain ⟨s, hs, e⟩ := List.mem_map.mp (hperm.mem_iff.mp (cut_mem hv))
      exact ⟨s, hs, e.symm⟩
    have hx3 := cut_le (xs := ys) r40 r44
    generalize cutV ys none (some r4) = xs at z5 hxs hx3
    have e4 := s4 _ _ (s3 _ _ e2)
    have sm4 := sm0.trans (s2.trans (s3.trans s4))
    have tb4 := tb0.up (s2.trans (s3.trans s4))
    rw [List.length_map, l2] at hp4
    clear z4 z3 z2 z0 hp3 hp2 hp0 e2 tb0 hperm
    -- the names, one of them perhaps another
    with_reducible refine z_name ?_
    with_reducible refine z_cut (fun σ H1 => ∃ G6 o6 xs ds k2, Zp G6 [(p, o6), (pT, .tbl ps0), (sm, .lst xs)] H1 ∧ Same G4 G6 ∧ Pen K G6 (b + 20) o6 ∧ Dts K G6 xs ds ∧ ds.length ≤ 3 ∧ (∀ e ∈ ds, ShortD e) ∧ σ = [some (.ref a), some (.ref p), k2, some (.ref lw), some (.ref sm), k5, k6, k7, k8, k9, k10]) (fun nx hnx => ?_) (fun σ H6 h6 => ?_)
    · have dsv : ∀ {G : Hp} {l : List V}, (∀ v ∈ l, ∃ s ∈ ss, v = V.str s) → ∃ ds : List PyData, Dts K G l ds ∧ ds.length = l.length ∧ ∀ e ∈ ds, ShortD e := fun {G l} => by
        induction l with
        | nil => exact fun _ => ⟨[], .nil, rfl, (fun _ h => nomatch h)⟩
        | cons v r ih =>
          intro h
          obtain ⟨ds, h1, h2, h3⟩ := ih fun v hv => h v (List.mem_cons_of_mem _ hv)
          obtain ⟨s, hs, rfl⟩ := h v (List.mem_cons_self ..)
          refine ⟨.str s :: ds, .cons (.str _) h1, by rw [List.length_cons, List.length_cons, h2], fun e he => ?_⟩
          rcases List.mem_cons.mp he with rfl | he
          · exact sh_wd (w2 s hs)
          · exact h3 e he
      have dts_set : ∀ {G : Hp} {l : List V} {ds : List PyData} {v : V} {d : PyData}, Dts K G l ds → Dt K G v d → ∃ ds', Dts K G (l.set 0 v) ds' ∧ ds'.length = ds.length ∧ ∀ e ∈ ds', e = d ∨ e ∈ ds := fun h hv => by
        cases h with
        | nil => exact ⟨[], .nil, rfl, (fun _ h => nomatch h)⟩
        | @cons _ _ _ ds1 h1 h2 => exact ⟨_ :: ds1, .cons hv h2, rfl, fun e he => (List.mem_cons.mp he).imp id (List.mem_cons_of_mem _)⟩
      repeat (walk_at "z")
      refine z_newL z5 (by simp) fun q6 G6 H6 z6 s6 e6 => ?_
      refine z_neNil (.inl (.inl (z6.at_ 2 rfl))) (z6.sub _ _ e6) ?_
      repeat (walk_at "z")
      obtain ⟨ds, hd, hdl, hsh⟩ := dsv (G := G6) hxs
      refine z_bd (fun c => ?_) (fun c => ?_)
      · repeat (walk_at "z")
        refine ⟨p, o4, G6, _, _, 4, rfl, z6, hp4.up s6, by omega, by decide, by decide, fun r7 G7 H7 o7 z7 s7 hp7 r70 r74 => ?_⟩
        repeat (walk_at "z")
        refine z_eqS rfl ?_
        repeat (walk_at "z")
        refine z_bd (fun c2 => ?_) (fun c2 => ?_)
        · repeat (walk_at "z")
          obtain ⟨v8, hv8, at8⟩ : ∃ v, v ∈ xs ∧ atI xs (-1) = some v := at_last c
          refine ⟨1, rfl, ?_⟩
          repeat (walk_at "z")
          refine .inl ⟨sm, xs, -1, v8, rfl, rfl, .inl (.inl (z7.at_ 2 rfl)), at8, ?_⟩
          repeat (walk_at "z")
          refine ⟨p, o7, G7, _, _, rfl, z7, hp7, by omega, fun v9 d9 G9 H9 o9 z9 s9 hp9 hd9 ok9 => ?_⟩
          repeat (walk_at "z")
          refine z_newL z9 (by simp) fun q10 G10 H10 z10 s10 e10 => ?_
          repeat (walk_at "z")
          refine ⟨p, o9, G10, _, _, _, rfl, z10, hp9.up s10, by omega, .inl ⟨q10, _, rfl, .inl (SqL.of e10), by simp, by simp, fun v11 G11 H11 o11 hv11 z11 s11 hp11 => ?_⟩⟩
          obtain ⟨d11, hd11, sh11⟩ : ∃ d, Dt K G11 v11 d ∧ ShortD d := by
            simp only [List.mem_cons, List.not_mem_nil, or_false] at hv11
            rcases hv11 with rfl | rfl
            · obtain ⟨s, hs, rfl⟩ := hxs _ hv8
              exact ⟨.str s, .str s, sh_wd (w2 s hs)⟩
            · exact ⟨d9, hd9.up (s10.trans s11), ok9.sh⟩
          repeat (walk_at "z")
          refine ⟨sm, xs, 0, 0, rfl, rfl, z11.at_ 2 rfl, ?_, ?_⟩
          · have : xs.length ≠ 0 := fun h => c (List.length_eq_zero_iff.mp h)
            unfold ixN
            rw [if_pos (by decide), if_pos (by omega)]
            rfl
          repeat (walk_at "z")
          obtain ⟨ds', hd', hl', hm'⟩ := dts_set (hd.up (s7.trans (s9.trans (s10.trans s11)))) hd11
          exact hnx _ _ ⟨G11, o11, xs.set 0 v11, ds', _, z11.put 2 rfl _, s6.trans (s7.trans (s9.trans (s10.trans s11))), hp11.mono (by omega), hd', by omega, fun e he => (hm' e he).elim (fun h => h ▸ sh11) (hsh e), rfl⟩
        · repeat (walk_at "z")
          exact hnx _ _ ⟨G7, o7, xs, ds, _, z7, s6.trans s7, hp7.mono (by omega), hd.up s7, by omega, hsh, rfl⟩
      · repeat (walk_at "z")
        exact hnx _ _ ⟨G6, o4, xs, ds, _, z6, s6, (hp4.up s6).mono (by omega), hd, by omega, hsh, rfl⟩
    obtain ⟨G6, o6, xs6, ds6, k2', z6, s6, hp6, hd6, hl6, hsh6, rfl⟩ := h6
    repeat (walk_at "z")
    have e6 := s6 _ _ e4
    refine z_ixL z6 (SqL.of e6) (v := .str t0) (by rw [hss]; rfl) ?_
    repeat (walk_at "z")
    refine z_ixL z6 (SqL.of e6) (v := .str t3) (by rw [hss]; rfl) ?_
    repeat (walk_at "z")
    refine ⟨p, o6, G6, _, _, rfl, z6, hp6, by omega, fun v7 d7 G7 H7 o7 z7 s7 hp7 hd7 ok7 => ?_⟩
    repeat (walk_at "z")
    refine z_newL z7 (by simp) fun q8 G8 H8 z8 s8 e8 => ?_
    repeat (walk_at "z")
    refine ⟨p, o7, G8, _, _, _, rfl, z8, hp7.up s8, by omega, .inl ⟨q8, _, rfl, .inl (SqL.of e8), by simp, by simp, fun v0 G9 H9 o9 hv0 z9 s9 hp9 => ?_⟩⟩
    obtain ⟨d0, hd0, sh0⟩ : ∃ d, Dt K G9 v0 d ∧ ShortD d := by
      simp only [List.mem_cons, List.not_mem_nil, or_false] at hv0
      rcases hv0 with rfl | rfl | rfl | rfl
      · exact ⟨.none, .non, fun s e => by cases e⟩
      · exact ⟨.str t0, .str _, sh_wd (w2 t0 (by rw [hss]; simp))⟩
      · exact ⟨.str t3, .str _, sh_wd (w2 t3 (by rw [hss]; simp))⟩
      · exact ⟨d7, hd7.up (s8.trans s9), ok7.sh⟩
    have s69 := s7.trans (s8.trans s9)
    have hd9 := hd6.up s69
    have e9 := s69 _ _ e6
    have tb9 := tb4.up (s6.trans s69)
    have sm9 := sm4.trans (s6.trans s69)
    -- the names are fixed now
    have z9 : Zp G9 ([(p, o9), (pT, .tbl ps0)] ++ [(sm, .lst xs6)]) H9 := z9
    obtain ⟨G10, z10, s10, e10⟩ : ∃ G1, Zp G1 [(p, o9), (pT, .tbl ps0)] H9 ∧ Same G9 G1 ∧ G1 sm = some (.lst xs6) := ⟨_, z9.fix, Same.new (z9.own 2 sm _ rfl).2, upd_same⟩
    have hd10 := hd9.up s10
    have e10' := s10 _ _ e9
    have tb10 := tb9.up s10
    have sm10 := sm9.trans s10
    have hp10 := hp9.up s10
    have hd0 := hd0.up s10
    clear z9 z8 z7 z6 z5 hp9 hp7 hp6 hp4 e8 e6 e4 hd7 hd6 hd9 tb9 tb4
    repeat (walk_at "z")
    have hl6' : xs6.length = ds6.length := hd10.len (ds := ds6)
    refine z_newT z10 (by simp) fun pw G11 H11 z11 s11 e11 => ?_
    refine z_itT z11 (SqT.of e11) ?_
    refine for_src src_T (fun i σ G' M' => ∃ ps k2 k6 k7 k8 k9 k10, M' = [(p, o9), (pT, .tbl ps)] ∧ TbOk G' QL ps ∧ Same G11 G' ∧ σ = [some (.ref a), some (.ref p), k2, some (.ref lw), some (.ref sm), some v0, k6, k7, k8, k9, k10]) z11 ⟨ps0, _, _, _, _, _, _, rfl, tb10.up s11, Same.refl _, rfl⟩
      (fun i σ G' M' H' ⟨_, _, _, _, _, _, _, _, _, s', _⟩ z' => z'.seqT (upT s' (SqT.of e11))) ?_ ?_
    · rintro i2 x2 σ G12 M12 H12 hx2 ⟨ps12, k2, k6, k7, k8, k9, k10, rfl, tb12, s12, rfl⟩ z12
      obtain ⟨fl, C, rfl, hfl⟩ : ∃ fl : Str, ∃ C, x2 = V.str fl ∧ (fl = "takes" ∧ C = CH ∨ fl = "forgets" ∧ C = CR) := by
        have := List.mem_of_getElem? hx2
        simp only [List.mem_cons, List.not_mem_nil, or_false] at this
        rcases this with rfl | rfl
        · exact ⟨_, CH, rfl, .inl ⟨rfl, rfl⟩⟩
        · exact ⟨_, CR, rfl, .inr ⟨rfl, rfl⟩⟩
      have hd12 := hd10.up (s11.trans s12)
      have e12 := (s11.trans s12) _ _ e10
      have h012 := hd0.up (s11.trans s12)
      repeat (walk_at "z")
      refine ⟨G12, _, sm, v0, xs6, ds6, d0, fl, rfl, z12, SqL.of e12, hd12, hl6, hsh6, h012, sh0, fun G13 H13 z13 s13 => ?_⟩
      repeat (walk_at "z")
      refine z_told (K := K) (CI := CI) z13 1 rfl (tb12.up s13) (dueH fl ds6 d0) (fun E1 G1 H1 ps1 z1 s1 hbad Qn hok => ?_) (fun G14 H14 ps14 z14 s14 tb14 => ?_)
      · repeat (walk_at "z")
        refine z_callS ?_
        repeat (walk_at "z")
        exact ⟨G1, _, sm, v0, xs6, ds6, d0, fl, C, rfl, z1, SqL.of (s1 _ _ (s13 _ _ e12)), hd12.up (s13.trans s1), hl6, hsh6, h012.up (s13.trans s1), sh0, hfl, fun g hg dd G2 H2 z2 s2 hx => hbad g hg dd G2 H2 z2 s2 hx, fun hn x G2 H2 z2 s2 _ => hok hn G2 H2 z2 s2⟩
      have z14 : Zp G14 [(p, o9), (pT, .tbl ps14)] H14 := z14
      have hd14 := hd12.up (s13.trans s14)
      have e14 := (s13.trans s14) _ _ e12
      have h014 := h012.up (s13.trans s14)
      repeat (walk_at "z")
      refine z_neRV _ ?_
      repeat (walk_at "z")
      refine z_iN ?_
      repeat (walk_at "z")
      cases hdu : dueH fl ds6 d0 with
      | some g =>
        rw [decide_eq_false (show ¬ rV (some g) = V.non from fun h => by cases h)]
        repeat (walk_at "z")
        exact ⟨G14, _, z14, ps14, _, _, _, _, _, _, rfl, tb14, s12.trans (s13.trans s14), rfl⟩
      | none =>
        rw [decide_eq_true (show rV none = V.non from rfl)]
        repeat (walk_at "z")
        refine ⟨G14, _, sm, v0, xs6, ds6, d0, fl, C, rfl, z14, SqL.of e14, hd14, hl6, hsh6, h014, sh0, hfl, fun g hg => (by rw [hdu] at hg; cases hg), fun _ x15 G15 H15 z15 s15 ht15 => ?_⟩
        repeat (walk_at "z")
        refine z_eqS rfl ?_
        repeat (walk_at "z")
        -- the twin
        obtain ⟨hw, hb⟩ : diffD none (.tuple ds6) = true ∧ badRole d0 = false := by
          unfold dueH at hdu
          split at hdu
          · cases hdu
          · rename_i hc
            split at hdu
            · cases hdu
            · rename_i hb
              refine ⟨?_, by simpa using hb⟩
              cases h : diffD none (.tuple ds6) with
              | true => rfl
              | false => rw [h] at hc; simp at hc
        have hd15 := hd14.up s15
        have e15 := s15 _ _ e14
        obtain ⟨r, er, rfl, okr⟩ := role_of (h014.up s15) hb
        have okT := okl_of hw (by omega)
        have okn : OkL (.list ds6) (ds6.map strOf) := ⟨rfl, okT.it, okT.wd, okT.nd, okT.le⟩
        have gN : GoodL (asc (ds6.map strOf)) := ⟨fun s hs => okT.wd s (asc_mem.mp hs), by
          have h1 : (asc (ds6.map strOf)).length = (dd (ds6.map strOf)).length := by unfold asc; exact (List.mergeSort_perm _ _).length_eq
          have h2 := dd_le (ds6.map strOf)
          have h3 := okT.le
          omega⟩
        have g0 : GoodL [] := ⟨(fun _ h => nomatch h), by decide⟩
        have gt : GoodT (tkH fl ds6 d0) := by
          unfold tkH
          split
          · exact ⟨by rw [er]; exact okr, g0, g0, gN, g0⟩
          · exact ⟨by rw [er]; exact okr, g0, g0, g0, gN⟩
        rcases hfl with ⟨rfl, rfl⟩ | ⟨rfl, rfl⟩
        · refine z_bT' (by decide +kernel) ?_
          repeat (walk_at "z")
          refine z_mkI z15 rfl rfl fun x16 dx16 H16 z16 s16 => ?_
          have et : tkH "takes" ds6 d0 = ⟨r, 1, asc ([]), asc ([]), asc (ds6.map strOf), asc ([])⟩ := by
            unfold tkH
            rw [if_pos rfl, er]
            simp only [asc_nil]
          rw [et] at ht15 gt
          refine ⟨x16, dx16, _, _, r, 1, .ref e1, .ref e2, .ref sm, .ref e4, .tuple [], .tuple [], .list ds6, .tuple [], [], [], ds6.map strOf, [], rfl, z16, okr, by decide, by decide, ⟨.inl (.tup (hE _).1 .nil), okl_nil⟩, ⟨.inl (.tup (hE _).2.1 .nil), okl_nil⟩, ⟨.inl (.lst (SqL.of (s16 _ _ e15)) (hd15.up s16)), okn⟩, ⟨.inl (.tup (hE _).2.2.2.1 .nil), okl_nil⟩, fun G17 H17 z17 s17 ht17 => ⟨rfl, ?_⟩⟩
          have ht15 := ht15.up (s16.trans s17)
          generalize (⟨r, 1, asc ([]), asc ([]), asc (ds6.map strOf), asc ([])⟩ : TkD) = t at ht15 ht17 gt
          repeat (walk_at "z")
          refine ⟨G17, _, x15, x16, _, CT, t, t, rfl, rfl, z17, .inr (.inr (.inl rfl)), .inl rfl, ht15, ht17, gt, gt, fun G18 H18 z18 s18 => ?_⟩
          rw [SeqAt.eqv_refl _ (SeqAt.canLay_of_shaped ((fin_like gt).sh (by decide)))]
          repeat (walk_at "z")
          refine ⟨G18, _, x16, x15, CT, _, t, t, rfl, rfl, z18, .inl rfl, .inr (.inr (.inl rfl)), ht17.up s18, ht15.up s18, gt, gt, fun G19 H19 z19 s19 => ?_⟩
          rw [SeqAt.eqv_refl _ (SeqAt.canLay_of_shaped ((fin_like gt).sh (by decide)))]
          repeat (walk_at "z")
          have ht15 := ht15.up (s18.trans s19)
          have ht17 := ht17.up (s18.trans s19)
          obtain ⟨dxa, fsa, ea⟩ := ht15.obj
          refine z_isi (.own CT) ((L.fam.s _ (.inr (.inr (.inl rfl)))).tt.ty (z19.sub _ _ ea)) (L.fam.s _ (.inr (.inr (.inl rfl)))).kit ?_
          repeat (walk_at "z")
          refine ⟨G19, _, x15, _, t, rfl, z19, .inr (.inr (.inl rfl)), ht15, fun p20 G20 H20 z20 s20 d20 => ?_⟩
          repeat (walk_at "z")
          refine ⟨G20, _, x16, CT, t, rfl, z20, .inl rfl, ht17.up s20, fun p21 G21 H21 z21 s21 d21 => ?_⟩
          refine z_neD z21 (d20.up s21) d21 (sh_shown gt) (sh_shown gt) ?_
          rw [SeqAt.eqv_refl _ (SeqAt.canLay_of_shaped (sh_shown gt))]
          repeat (walk_at "z")
          exact ⟨G21, _, z21, ps14, _, _, _, _, _, _, rfl, tb14.up (s15.trans (s16.trans (s17.trans (s18.trans (s19.trans (s20.trans s21)))))), s12.trans (s13.trans (s14.trans (s15.trans (s16.trans (s17.trans (s18.trans (s19.trans (s20.trans s21)))))))), rfl⟩
        · refine z_bF' (by decide +kernel) ?_
          repeat (walk_at "z")
          refine z_mkI z15 rfl rfl fun x16 dx16 H16 z16 s16 => ?_
          have et : tkH "forgets" ds6 d0 = ⟨r, 1, asc ([]), asc ([]), asc ([]), asc (ds6.map strOf)⟩ := by
            unfold tkH
            rw [if_neg (by decide), er]
            simp only [asc_nil]
          rw [et] at ht15 gt
          refine ⟨x16, dx16, _, _, r, 1, .ref e1, .ref e2, .ref e3, .ref sm, .tuple [], .tuple [], .tuple [], .list ds6, [], [], [], ds6.map strOf, rfl, z16, okr, by decide, by decide, ⟨.inl (.tup (hE _).1 .nil), okl_nil⟩, ⟨.inl (.tup (hE _).2.1 .nil), okl_nil⟩, ⟨.inl (.tup (hE _).2.2.1 .nil), okl_nil⟩, ⟨.inl (.lst (SqL.of (s16 _ _ e15)) (hd15.up s16)), okn⟩, fun G17 H17 z17 s17 ht17 => ⟨rfl, ?_⟩⟩
          have ht15 := ht15.up (s16.trans s17)
          generalize (⟨r, 1, asc ([]), asc ([]), asc ([]), asc (ds6.map strOf)⟩ : TkD) = t at ht15 ht17 gt
          repeat (walk_at "z")
          refine ⟨G17, _, x15, x16, _, CT, t, t, rfl, rfl, z17, .inr (.inr (.inr rfl)), .inl rfl, ht15, ht17, gt, gt, fun G18 H18 z18 s18 => ?_⟩
          rw [SeqAt.eqv_refl _ (SeqAt.canLay_of_shaped ((fin_like gt).sh (by decide)))]
          repeat (walk_at "z")
          refine ⟨G18, _, x16, x15, CT, _, t, t, rfl, rfl, z18, .inl rfl, .inr (.inr (.inr rfl)), ht17.up s18, ht15.up s18, gt, gt, fun G19 H19 z19 s19 => ?_⟩
          rw [SeqAt.eqv_refl _ (SeqAt.canLay_of_shaped ((fin_like gt).sh (by decide)))]
          repeat (walk_at "z")
          have ht15 := ht15.up (s18.trans s19)
          have ht17 := ht17.up (s18.trans s19)
          obtain ⟨dxa, fsa, ea⟩ := ht15.obj
          refine z_isi (.own CT) ((L.fam.s _ (.inr (.inr (.inr rfl)))).tt.ty (z19.sub _ _ ea)) (L.fam.s _ (.inr (.inr (.inr rfl)))).kit ?_
          repeat (walk_at "z")
          refine ⟨G19, _, x15, _, t, rfl, z19, .inr (.inr (.inr rfl)), ht15, fun p20 G20 H20 z20 s20 d20 => ?_⟩
          repeat (walk_at "z")
          refine ⟨G20, _, x16, CT, t, rfl, z20, .inl rfl, ht17.up s20, fun p21 G21 H21 z21 s21 d21 => ?_⟩
          refine z_neD z21 (d20.up s21) d21 (sh_shown gt) (sh_shown gt) ?_
          rw [SeqAt.eqv_refl _ (SeqAt.canLay_of_shaped (sh_shown gt))]
          repeat (walk_at "z")
          exact ⟨G21, _, z21, ps14, _, _, _, _, _, _, rfl, tb14.up (s15.trans (s16.trans (s17.trans (s18.trans (s19.trans (s20.trans s21)))))), s12.trans (s13.trans (s14.trans (s15.trans (s16.trans (s17.trans (s18.trans (s19.trans (s20.trans s21)))))))), rfl⟩
    · rintro σ G12 M12 H12 ⟨ps12, k2, k6, k7, k8, k9, k10, rfl, tb12, s12, rfl⟩ z12
      repeat (walk_at "z")
      have s1012 := s11.trans s12
      refine ⟨p, o9, G12, _, _, 3, rfl, z12, hp10.up s1012, by omega, by decide, by decide, fun r13 G13 H13 o13 z13 s13 hp13 r130 r133 => ?_⟩
      repeat (walk_at "z")
      have e13 := (s1012.trans s13) _ _ e10'
      refine z_ixL z13 (SqL.of e13) (v := .str t0) (by rw [hss]; rfl) ?_
      repeat (walk_at "z")
      refine z_slL z13 (SqL.of e13) fun q14 G14 H14 z14 s14 e14 => ?_
      have e14 : G14 q14 = some (.lst ([t0, t1].map V.str)) := by rw [e14, hss]; rfl
      repeat (walk_at "z")
      refine z_mkI z14 rfl rfl fun x15 dx15 H15 z15 s15 => ?_
      have e15 := s15 _ _ e14
      have h01 : ([t0, t1] : List Str).Nodup := by
        have := wn2
        rw [hss] at this
        simp only [List.nodup_cons, List.mem_cons, List.not_mem_nil, or_false, not_or] at this ⊢
        exact ⟨this.1.1, fun h => h, .nil⟩
      have ok2 : OkL (.list ([t0, t1].map PyData.str)) [t0, t1] := ⟨rfl, rfl, fun s hs => wd_word (w2 s (by rw [hss]; simp at hs ⊢; exact hs.elim (fun h => .inl h) fun h => .inr (.inl h))), h01, by simp⟩
      refine ⟨x15, dx15, [], _, _, _, rfl, z15.at_ _ last_at, .inl ⟨x15, dx15, _, _, some t0, 1 + r13, .ref q14, .ref e2, .ref e3, .ref e4, _, .tuple [], .tuple [], .tuple [], [t0, t1], [], [], [], rfl, z15, (fun s h => by cases h; exact wd_word (w2 t0 (by rw [hss]; simp))), by omega, by omega, ⟨.inl (.lst (SqL.of e15) (dts_str _)), ok2⟩, ⟨.inl (.tup (hE _).2.1 .nil), okl_nil⟩, ⟨.inl (.tup (hE _).2.2.1 .nil), okl_nil⟩, ⟨.inl (.tup (hE _).2.2.2.1 .nil), okl_nil⟩, fun G16 H16 z16 s16 ht16 => ⟨rfl, ?_⟩⟩⟩
      repeat (walk_at "z")
      have e16 := (s14.trans (s15.trans s16)) _ _ e13
      refine z_ixL z16 (SqL.of e16) (v := .str t0) (by rw [hss]; rfl) ?_
      repeat (walk_at "z")
      refine z_slL z16 (SqL.of e16) fun q17 G17 H17 z17 s17 e17 => ?_
      have e17 : G17 q17 = some (.lst ([t0, t1].map V.str)) := by rw [e17, hss]; rfl
      repeat (walk_at "z")
      refine z_mkI z17 rfl rfl fun x18 dx18 H18 z18 s18 => ?_
      have e18 := s18 _ _ e17
      refine ⟨x18, dx18, _, _, some t0, 1 + r13, .ref q17, .ref e2, .ref e3, .ref e4, _, .tuple [], .tuple [], .tuple [], [t0, t1], [], [], [], rfl, z18, (fun s h => by cases h; exact wd_word (w2 t0 (by rw [hss]; simp))), by omega, by omega, ⟨.inl (.lst (SqL.of e18) (dts_str _)), ok2⟩, ⟨.inl (.tup (hE _).2.1 .nil), okl_nil⟩, ⟨.inl (.tup (hE _).2.2.1 .nil), okl_nil⟩, ⟨.inl (.tup (hE _).2.2.2.1 .nil), okl_nil⟩, fun G19 H19 z19 s19 ht19 => ⟨rfl, ?_⟩⟩
      repeat (walk_at "z")
      have gA : GoodL (asc [t0, t1]) := ⟨fun s hs => ok2.wd s (asc_mem.mp hs), by
          have h1 : (asc [t0, t1]).length = (dd [t0, t1]).length := by unfold asc; exact (List.mergeSort_perm _ _).length_eq
          have h2 := dd_le [t0, t1]
          have h3 := ok2.le
          omega⟩
      have gE : GoodL (asc []) := by rw [asc_nil]; exact ⟨(fun _ h => nomatch h), by decide⟩
      have gt : GoodT ⟨some t0, 1 + r13, asc [t0, t1], asc [], asc [], asc []⟩ := ⟨(fun s h => by cases h; exact wd_word (w2 t0 (by rw [hss]; simp))), gA, gE, gE, gE⟩
      have ht16 := ht16.up (s17.trans (s18.trans s19))
      refine ⟨G19, _, x15, x18, CV, CT, _, _, rfl, rfl, z19, .inr (.inl rfl), .inl rfl, ht16, ht19, gt, gt, fun G20 H20 z20 s20 => ?_⟩
      rw [SeqAt.eqv_refl _ (SeqAt.canLay_of_shaped ((fin_like gt).sh (by decide)))]
      have sA := s13.trans (s14.trans (s15.trans (s16.trans (s17.trans (s18.trans (s19.trans s20))))))
      have tb20 := tb12.up sA
      have hp20 := hp13.up (s14.trans (s15.trans (s16.trans (s17.trans (s18.trans (s19.trans s20))))))
      have sm20 := (sm10.trans s1012).trans sA
      clear z19 z18 z17 z16 z15 z14 z13 ht16 ht19 e18 e17 e16 e15 e14 e13
      repeat (walk_at "z")
      refine z_mkI z20 rfl rfl fun x21 dx21 H21 z21 s21 => ?_
      refine ⟨x21, dx21, [], .non, .int (1 + r13), .ref eV, rfl, z21.at_ _ last_at, .inl ⟨x21, dx21, _, _, none, _, .ref eV, .ref e2, .ref e3, .ref e4, .tuple [], .tuple [], .tuple [], .tuple [], [], [], [], [], rfl, z21, (fun s h => by cases h), by omega, by omega, ⟨.inl (.tup (hE _).2.2.2.2 .nil), okl_nil⟩, ⟨.inl (.tup (hE _).2.1 .nil), okl_nil⟩, ⟨.inl (.tup (hE _).2.2.1 .nil), okl_nil⟩, ⟨.inl (.tup (hE _).2.2.2.1 .nil), okl_nil⟩, fun G22 H22 z22 s22 ht22 => ⟨rfl, ?_⟩⟩⟩
      repeat (walk_at "z")
      refine z_I (by decide) ?_
      repeat (walk_at "z")
      have hm0 : 0 ≤ (1 + r13) % 3 := Int.emod_nonneg _ (by decide)
      have hm3 : (1 + r13) % 3 < 3 := Int.emod_lt_of_pos _ (by decide)
      refine z_mkI z22 rfl rfl fun x23 dx23 H23 z23 s23 => ?_
      refine ⟨x23, dx23, [], .non, .int (1 + (1 + r13) % 3), .ref eV, rfl, z23.at_ _ last_at, .inl ⟨x23, dx23, _, _, none, _, .ref eV, .ref e2, .ref e3, .ref e4, .tuple [], .tuple [], .tuple [], .tuple [], [], [], [], [], rfl, z23, (fun s h => by cases h), by omega, by omega, ⟨.inl (.tup (hE _).2.2.2.2 .nil), okl_nil⟩, ⟨.inl (.tup (hE _).2.1 .nil), okl_nil⟩, ⟨.inl (.tup (hE _).2.2.1 .nil), okl_nil⟩, ⟨.inl (.tup (hE _).2.2.2.1 .nil), okl_nil⟩, fun G24 H24 z24 s24 ht24 => ⟨rfl, ?_⟩⟩⟩
      repeat (walk_at "z")
      have gv : ∀ m, GoodT ⟨none, m, asc [], asc [], asc [], asc []⟩ := fun m => ⟨(fun s h => by cases h), gE, gE, gE, gE⟩
      have ht22 := ht22.up (s23.trans s24)
      refine ⟨G24, _, x21, x23, CV, CV, _, _, rfl, rfl, z24, .inr (.inl rfl), .inr (.inl rfl), L.nfV, ht22, ht24, gv _, gv _, fun G25 H25 z25 s25 => ?_⟩
      rw [like_many (show (1 + r13 : Int) ≠ 1 + (1 + r13) % 3 by omega)]
      have sB := s21.trans (s22.trans (s23.trans (s24.trans s25)))
      have tb25 := tb20.up sB
      have hp25 := hp20.up sB
      have sm25 := sm20.trans sB
      clear z24 z23 z22 z21 z20 ht22 ht24 
      repeat (walk_at "z")
      refine z_told (K := K) (CI := CI) z25 1 rfl tb25 (some "role") (fun E1 G1 H1 ps1 z1 s1 hbad Qn hok => ?_) (fun G26 H26 ps26 z26 s26 tb26 => ?_)
      · repeat (walk_at "z")
        refine z_mkSI z1 rfl rfl fun x dx H2 z2 s2 => ?_
        exact ⟨x, dx, [], .int 1, .int 4, .ref eV, rfl, z2.at_ _ last_at, .inr ⟨x, dx, _, _, .int 1, .int 4, .ref eV, .ref e2, .ref e3, .ref e4, .int 1, .int 4, .tuple [], .tuple [], .tuple [], .tuple [], rfl, z2, ⟨.int 1, fun s h => by cases h⟩, .int 4, ⟨.inl (.tup (hE _).2.2.2.2 .nil), fn60_nil⟩, ⟨.inl (.tup (hE _).2.1 .nil), fn60_nil⟩, ⟨.inl (.tup (hE _).2.2.1 .nil), fn60_nil⟩, ⟨.inl (.tup (hE _).2.2.2.1 .nil), fn60_nil⟩, (fun h => absurd h (by decide)), fun fl hfl dd G3 H3 z3 s3 hx => hbad fl (by rw [← hfl]; rfl) dd G3 H3 z3 (s2.trans s3) hx⟩⟩
      repeat (walk_at "z")
      refine z_neRV (some "role") ?_
      repeat (walk_at "z")
      refine z_told (K := K) (CI := CI) z26 1 rfl tb26 (some "many") (fun E1 G1 H1 ps1 z1 s1 hbad Qn hok => ?_) (fun G27 H27 ps27 z27 s27 tb27 => ?_)
      · repeat (walk_at "z")
        refine z_mkSI z1 rfl rfl fun x dx H2 z2 s2 => ?_
        exact ⟨x, dx, [], .non, .int 4, .int 1, rfl, z2.at_ _ last_at, .inr ⟨x, dx, _, _, .non, .int 4, .int 1, .ref e2, .ref e3, .ref e4, .none, .int 4, .int 1, .tuple [], .tuple [], .tuple [], rfl, z2, ⟨.non, fun s h => by cases h⟩, .int 4, ⟨.inl (.int 1), fn60_one⟩, ⟨.inl (.tup (hE _).2.1 .nil), fn60_nil⟩, ⟨.inl (.tup (hE _).2.2.1 .nil), fn60_nil⟩, ⟨.inl (.tup (hE _).2.2.2.1 .nil), fn60_nil⟩, (fun h => absurd h (by decide)), fun fl hfl dd G3 H3 z3 s3 hx => hbad fl (by rw [← hfl]; rfl) dd G3 H3 z3 (s2.trans s3) hx⟩⟩
      repeat (walk_at "z")
      refine z_neRV (some "many") ?_
      repeat (walk_at "z")
      exact ⟨G27, _, z27, o13, ps27, _, _, _, _, _, _, _, _, _, rfl, tb27, sm25.trans (s26.trans s27), (hp25.up (s26.trans s27)).mono (by omega), rfl⟩
  · rintro σ G0 M0 H0 ⟨o0, ps0, k2, k3, k4, k5, k6, k7, k8, k9, k10, rfl, tb0, sm0, hp0, rfl⟩ z0
    repeat (walk_at "z")
    refine z_mkI z0 rfl rfl fun x1 dx1 H1 z1 s1 => ?_
    have gE : GoodL (asc []) := by rw [asc_nil]; exact ⟨(fun _ h => nomatch h), by decide⟩
    have gv : ∀ m, GoodT ⟨none, m, asc [], asc [], asc [], asc []⟩ := fun m => ⟨(fun s h => by cases h), gE, gE, gE, gE⟩
    refine ⟨x1, dx1, [], .non, .int 1, .ref eV, rfl, z1.at_ _ last_at, .inl ⟨x1, dx1, _, _, none, _, .ref eV, .ref e2, .ref e3, .ref e4, .tuple [], .tuple [], .tuple [], .tuple [], [], [], [], [], rfl, z1, (fun s h => by cases h), by decide, by decide, ⟨.inl (.tup (hE _).2.2.2.2 .nil), okl_nil⟩, ⟨.inl (.tup (hE _).2.1 .nil), okl_nil⟩, ⟨.inl (.tup (hE _).2.2.1 .nil), okl_nil⟩, ⟨.inl (.tup (hE _).2.2.2.1 .nil), okl_nil⟩, fun G2 H2 z2 s2 ht2 => ⟨rfl, ?_⟩⟩⟩
    repeat (walk_at "z")
    refine z_mkI z2 rfl rfl fun x3 dx3 H3 z3 s3 => ?_
    refine ⟨x3, dx3, _, _, none, _, .ref e1, .ref e2, .ref e3, .ref e4, .tuple [], .tuple [], .tuple [], .tuple [], [], [], [], [], rfl, z3, (fun s h => by cases h), by decide, by decide, ⟨.inl (.tup (hE _).1 .nil), okl_nil⟩, ⟨.inl (.tup (hE _).2.1 .nil), okl_nil⟩, ⟨.inl (.tup (hE _).2.2.1 .nil), okl_nil⟩, ⟨.inl (.tup (hE _).2.2.2.1 .nil), okl_nil⟩, fun G4 H4 z4 s4 ht4 => ⟨rfl, ?_⟩⟩
    repeat (walk_at "z")
    have ht2 := ht2.up (s3.trans s4)
    refine ⟨G4, _, x1, x3, CV, CT, _, _, rfl, rfl, z4, .inr (.inl rfl), .inl rfl, L.nfT, ht2, ht4, gv _, gv _, fun G5 H5 z5 s5 => ?_⟩
    rw [SeqAt.eqv_refl _ (SeqAt.canLay_of_shaped ((fin_like (gv 1)).sh (by decide)))]
    repeat (walk_at "z")
    refine z_told (K := K) (CI := CI) z5 1 rfl (tb0.up (s1.trans (s2.trans (s3.trans (s4.trans s5))))) (some "other") (fun E1 G1 H1 ps1 z1 s1 hbad Qn hok => ?_) (fun G6 H6 ps6 z6 s6 tb6 => ?_)
    · repeat (walk_at "z")
      refine z_newL z1 (by simp) fun q2 G2 H2 z2 s2 e2' => ?_
      repeat (walk_at "z")
      refine z_mkSI z2 rfl rfl fun x dx H3 z3 s3 => ?_
      exact ⟨x, dx, [], .non, .int 1, .ref q2, rfl, z3.at_ _ last_at, .inr ⟨x, dx, _, _, .non, .int 1, .ref q2, .ref e2, .ref e3, .ref e4, .none, .int 1, .list [.str "a", .str "a"], .tuple [], .tuple [], .tuple [], rfl, z3, ⟨.non, fun s h => by cases h⟩, .int 1, ⟨.inl (.lst (SqL.of (s3 _ _ e2')) (.cons (.str _) (.cons (.str _) .nil))), fn60_aa⟩, ⟨.inl (.tup (hE _).2.1 .nil), fn60_nil⟩, ⟨.inl (.tup (hE _).2.2.1 .nil), fn60_nil⟩, ⟨.inl (.tup (hE _).2.2.2.1 .nil), fn60_nil⟩, (fun h => absurd h (by decide)), fun fl hfl dd G3 H3 z3 s3' hx => hbad fl (by rw [← hfl]; rfl) dd G3 H3 z3 (s2.trans (s3.trans s3')) hx⟩⟩
    repeat (walk_at "z")
    refine z_eqS rfl ?_
    repeat (walk_at "z")
    exact q _
end
end LW
namespace LW
open PySem PySem.Spec PyProof.Rows L2 Ys

section
variable {K : PySem.W.Frag} {f : Addr} {fd : FuncData}
theorem bd_words2 (F : FunD K "are_words" "are_words" (defArgs s_are_words) (defBody s_are_words) (defScope s_are_words) [.non] [] f fd) : Binds K fd ["value", "most"] [] := by
  obtain ⟨ds, hv, hb⟩ := F.binds1 (ps := ["value", "most"]) 2 1 (by simp) rfl (fun T kV doc pm an cdv ct us its l1 l2 => by
    match us, its, l1, l2 with
    | [u1, u2], [i1], _, _ => exact ⟨_, rfl, rfl⟩)
  cases hv
  exact hb
theorem bd_diff1 (F : FunD K "are_different_words" "are_different_words" (defArgs s_are_different_words) (defBody s_are_different_words) (defScope s_are_different_words) [.non] [] f fd) : ∃ ds, Vals [V.non] ds ∧ Binds K fd ["value", "most"] ds :=
  F.binds1 (ps := ["value", "most"]) 1 0 (by simp) rfl (fun T kV doc pm an cdv ct us its l1 l2 => by
    match us, its, l1, l2 with
    | [u1], [i1], _, _ => exact ⟨_, rfl, rfl⟩)

theorem bd_diff2 (F : FunD K "are_different_words" "are_different_words" (defArgs s_are_different_words) (defBody s_are_different_words) (defScope s_are_different_words) [.non] [] f fd) : Binds K fd ["value", "most"] [] := by
  obtain ⟨ds, hv, hb⟩ := F.binds1 (ps := ["value", "most"]) 2 1 (by simp) rfl (fun T kV doc pm an cdv ct us its l1 l2 => by
    match us, its, l1, l2 with
    | [u1, u2], [i1], _, _ => exact ⟨_, rfl, rfl⟩)
  cases hv
  exact hb
end
section
variable {K : PySem.W.Frag} {f : Addr} {fd : FuncData} {e1 e2 e3 e4 : V}
abbrev kwI (e1 e2 e3 e4 : V) : List (Str × V) := [("many", .int 1), ("other", e1), ("same", e2), ("takes", e3), ("forgets", e4)]
abbrev FI (K : PySem.W.Frag) (e1 e2 e3 e4 : V) (f : Addr) (fd : FuncData) : Prop := FunD K "__init__" "Task.__init__" (defArgs s_Task_init) (defBody s_Task_init) (defScope s_Task_init) [.non] (kwI e1 e2 e3 e4) f fd
theorem kb_tt (F : FI K e1 e2 e3 e4 f fd) : ∃ g, KBn K fd psI 2 ["takes"] g (gW [.int 1, e1, e2] [e4]) := by
  obtain ⟨its, mv, hb⟩ := F.kbinds (ps := psI) 2 ["takes"] [("many", .int 1), ("other", e1), ("same", e2), ("forgets", e4)] (fun us its mv ws => us ++ (mv.take 3 ++ (ws ++ mv.drop 3))) (by simp) (by simp) (fun q hq => by
      simp only [List.mem_cons, List.not_mem_nil, or_false] at hq ⊢
      rcases hq with h | h | h | h
      · exact .inl h
      · exact .inr (.inl h)
      · exact .inr (.inr (.inl h))
      · exact .inr (.inr (.inr (.inr (h)))))
    (fun a b c d => a.append ((c.take 3).append (d.append (c.drop 3))))
    (fun T D doc pm an cdv ct us its mv ws l1 l2 l3 l4 => by
      match us, its, mv, ws, l1, l2, l3, l4 with
      | [u0, u1], [i1], [m0, m1, m2, m3], [w0], _, _, _, _ => exact ⟨_, rfl, ⟨_, _, _, _, _, _, rfl, rfl, ⟨_, _, _, _, _, _, rfl, rfl, ⟨_, _, _, _, _, _, rfl, rfl, ⟨_, _, _, _, _, _, rfl, rfl, rfl⟩⟩⟩⟩⟩)
  exact ⟨_, hb⟩
theorem kb_tf (F : FI K e1 e2 e3 e4 f fd) : ∃ g, KBn K fd psI 2 ["forgets"] g (gW [.int 1, e1, e2, e3] []) := by
  obtain ⟨its, mv, hb⟩ := F.kbinds (ps := psI) 2 ["forgets"] [("many", .int 1), ("other", e1), ("same", e2), ("takes", e3)] (fun us its mv ws => us ++ (mv.take 4 ++ (ws ++ mv.drop 4))) (by simp) (by simp) (fun q hq => by
      simp only [List.mem_cons, List.not_mem_nil, or_false] at hq ⊢
      rcases hq with h | h | h | h
      · exact .inl h
      · exact .inr (.inl h)
      · exact .inr (.inr (.inl h))
      · exact .inr (.inr (.inr (.inl h))))
    (fun a b c d => a.append ((c.take 4).append (d.append (c.drop 4))))
    (fun T D doc pm an cdv ct us its mv ws l1 l2 l3 l4 => by
      match us, its, mv, ws, l1, l2, l3, l4 with
      | [u0, u1], [i1], [m0, m1, m2, m3], [w0], _, _, _, _ => exact ⟨_, rfl, ⟨_, _, _, _, _, _, rfl, rfl, ⟨_, _, _, _, _, _, rfl, rfl, ⟨_, _, _, _, _, _, rfl, rfl, ⟨_, _, _, _, _, _, rfl, rfl, rfl⟩⟩⟩⟩⟩)
  exact ⟨_, hb⟩
theorem kb_tmo (F : FI K e1 e2 e3 e4 f fd) : ∃ g, KBn K fd psI 2 ["many", "other"] g (gMO [e2, e3, e4]) := by
  obtain ⟨its, mv, hb⟩ := F.kbinds (ps := psI) 2 ["many", "other"] [("same", e2), ("takes", e3), ("forgets", e4)] (fun us its mv ws => us ++ (ws ++ mv)) (by simp) (by simp) (fun q hq => by
      simp only [List.mem_cons, List.not_mem_nil, or_false] at hq ⊢
      rcases hq with h | h | h
      · exact .inr (.inr (.inl h))
      · exact .inr (.inr (.inr (.inl h)))
      · exact .inr (.inr (.inr (.inr (h)))))
    (fun a b c d => a.append (d.append c))
    (fun T D doc pm an cdv ct us its mv ws l1 l2 l3 l4 => by
      match us, its, mv, ws, l1, l2, l3, l4 with
      | [u0, u1], [i1], [m0, m1, m2], [w0, w1], _, _, _, _ => exact ⟨_, rfl, ⟨_, _, _, _, _, _, rfl, rfl, ⟨_, _, _, _, _, _, rfl, rfl, ⟨_, _, _, _, _, _, rfl, rfl, rfl⟩⟩⟩⟩)
  exact ⟨_, hb⟩
theorem kb_t0 (F : FI K e1 e2 e3 e4 f fd) : ∃ g, KBn K fd psI 1 [] g (fun vs zs => vs ++ [.non, .int 1, e1, e2, e3, e4]) := by
  obtain ⟨its, mv, hb⟩ := F.kbinds (ps := psI) 1 [] [("many", .int 1), ("other", e1), ("same", e2), ("takes", e3), ("forgets", e4)] (fun us its mv ws => us ++ (its ++ mv)) (by simp) (by simp) (fun q h => h)
    (fun a b c d => a.append (b.append c))
    (fun T D doc pm an cdv ct us its mv ws l1 l2 l3 l4 => by
      match us, its, mv, ws, l1, l2, l3, l4 with
      | [u0], [i1], [m0, m1, m2, m3, m4], [], _, _, _, _ => exact ⟨_, rfl, ⟨_, _, _, _, _, _, rfl, rfl, ⟨_, _, _, _, _, _, rfl, rfl, ⟨_, _, _, _, _, _, rfl, rfl, ⟨_, _, _, _, _, _, rfl, rfl, ⟨_, _, _, _, _, _, rfl, rfl, rfl⟩⟩⟩⟩⟩⟩)
  exact ⟨_, hb⟩
end
section
variable {K : PySem.W.Frag} {dV kV doc pm cda ct : Value} {an : Option Addr} {cc : Addr} {eV : V}
theorem kb_v2o (hD : DflV K dV [.non]) (hK : KwdV K kV [("other", eV)]) : ∃ g, KBn K (PySem.W.ksFn "__init__" "Vote.__init__" (defArgs s_Vote_init) (defBody s_Vote_init) (defScope s_Vote_init) dV kV doc pm an cda ct cc) ["self", "many", "role", "other"] 3 ["other"] g (gCat) :=
  kbindsK hD hK 3 ["other"] [] (fun us its mv ws => us ++ ws) (by simp) (by simp) (fun q h => nomatch h)
    (fun a b c d => a.append d)
    (fun T D us its mv ws l1 l2 l3 l4 => by
      match us, its, mv, ws, l1, l2, l3, l4 with
      | [u0, u1, u2], [i1], [], [w0], _, _, _, _ => exact ⟨_, rfl, rfl⟩)
theorem kb_v0m (hD : DflV K dV [.non]) (hK : KwdV K kV [("other", eV)]) : ∃ g, KBn K (PySem.W.ksFn "__init__" "Vote.__init__" (defArgs s_Vote_init) (defBody s_Vote_init) (defScope s_Vote_init) dV kV doc pm an cda ct cc) ["self", "many", "role", "other"] 1 ["many"] g (fun vs zs => vs ++ (zs ++ [.non, eV])) :=
  kbindsK hD hK 1 ["many"] [("other", eV)] (fun us its mv ws => us ++ (ws ++ (its ++ mv))) (by simp) (by simp) (fun q h => h)
    (fun a b c d => a.append (d.append (b.append c)))
    (fun T D us its mv ws l1 l2 l3 l4 => by
      match us, its, mv, ws, l1, l2, l3, l4 with
      | [u0], [i1], [m0], [w0], _, _, _, _ => exact ⟨_, rfl, ⟨_, _, _, _, _, _, rfl, rfl, rfl⟩⟩)
theorem kb_v1 (hD : DflV K dV [.non]) (hK : KwdV K kV [("other", eV)]) : ∃ g, KBn K (PySem.W.ksFn "__init__" "Vote.__init__" (defArgs s_Vote_init) (defBody s_Vote_init) (defScope s_Vote_init) dV kV doc pm an cda ct cc) ["self", "many", "role", "other"] 2 [] g (fun vs zs => vs ++ [.non, eV]) :=
  kbindsK hD hK 2 [] [("other", eV)] (fun us its mv ws => us ++ (its ++ mv)) (by simp) (by simp) (fun q h => h)
    (fun a b c d => a.append (b.append c))
    (fun T D us its mv ws l1 l2 l3 l4 => by
      match us, its, mv, ws, l1, l2, l3, l4 with
      | [u0, u1], [i1], [m0], [], _, _, _, _ => exact ⟨_, rfl, ⟨_, _, _, _, _, _, rfl, rfl, rfl⟩⟩)
theorem kb_v2 (hD : DflV K dV [.non]) (hK : KwdV K kV [("other", eV)]) : ∃ g, KBn K (PySem.W.ksFn "__init__" "Vote.__init__" (defArgs s_Vote_init) (defBody s_Vote_init) (defScope s_Vote_init) dV kV doc pm an cda ct cc) ["self", "many", "role", "other"] 3 [] g (fun vs zs => vs ++ [eV]) :=
  kbindsK hD hK 3 [] [("other", eV)] (fun us its mv ws => us ++ mv) (by simp) (by simp) (fun q h => h)
    (fun a b c d => a.append c)
    (fun T D us its mv ws l1 l2 l3 l4 => by
      match us, its, mv, ws, l1, l2, l3, l4 with
      | [u0, u1, u2], [i1], [m0], [], _, _, _, _ => exact ⟨_, rfl, ⟨_, _, _, _, _, _, rfl, rfl, rfl⟩⟩)
theorem kb_v1o (hD : DflV K dV [.non]) (hK : KwdV K kV [("other", eV)]) : ∃ g, KBn K (PySem.W.ksFn "__init__" "Vote.__init__" (defArgs s_Vote_init) (defBody s_Vote_init) (defScope s_Vote_init) dV kV doc pm an cda ct cc) ["self", "many", "role", "other"] 2 ["other"] g (fun vs zs => vs ++ (.non :: zs)) :=
  kbindsK hD hK 2 ["other"] [] (fun us its mv ws => us ++ (its ++ ws)) (by simp) (by simp) (fun q h => nomatch h)
    (fun a b c d => a.append (b.append d))
    (fun T D us its mv ws l1 l2 l3 l4 => by
      match us, its, mv, ws, l1, l2, l3, l4 with
      | [u0, u1], [i1], [], [w0], _, _, _, _ => exact ⟨_, rfl, rfl⟩)
theorem bd_HandOn0 (x v0 : Value) (rest : List Value) (hl : rest.length = 0) : bindArgs (PySem.W.ksFn "__init__" "HandOn.__init__" (defArgs s_HandOn_init) (defBody s_HandOn_init) (defScope s_HandOn_init) .none kV doc pm an cda ct cc) ⟨x :: rest, [(("role" : Str), v0)]⟩ = (newTuple rest >>= fun t => pure [(("self" : Str), x), (("role" : Str), v0), (("names" : Str), t)]) := by
  match rest, hl with
  | [], _ => rfl
theorem bd_HandOn1 (x v0 : Value) (rest : List Value) (hl : rest.length = 1) : bindArgs (PySem.W.ksFn "__init__" "HandOn.__init__" (defArgs s_HandOn_init) (defBody s_HandOn_init) (defScope s_HandOn_init) .none kV doc pm an cda ct cc) ⟨x :: rest, [(("role" : Str), v0)]⟩ = (newTuple rest >>= fun t => pure [(("self" : Str), x), (("role" : Str), v0), (("names" : Str), t)]) := by
  match rest, hl with
  | [r0], _ => rfl
theorem bd_HandOn2 (x v0 : Value) (rest : List Value) (hl : rest.length = 2) : bindArgs (PySem.W.ksFn "__init__" "HandOn.__init__" (defArgs s_HandOn_init) (defBody s_HandOn_init) (defScope s_HandOn_init) .none kV doc pm an cda ct cc) ⟨x :: rest, [(("role" : Str), v0)]⟩ = (newTuple rest >>= fun t => pure [(("self" : Str), x), (("role" : Str), v0), (("names" : Str), t)]) := by
  match rest, hl with
  | [r0, r1], _ => rfl
theorem bd_HandOn3 (x v0 : Value) (rest : List Value) (hl : rest.length = 3) : bindArgs (PySem.W.ksFn "__init__" "HandOn.__init__" (defArgs s_HandOn_init) (defBody s_HandOn_init) (defScope s_HandOn_init) .none kV doc pm an cda ct cc) ⟨x :: rest, [(("role" : Str), v0)]⟩ = (newTuple rest >>= fun t => pure [(("self" : Str), x), (("role" : Str), v0), (("names" : Str), t)]) := by
  match rest, hl with
  | [r0, r1, r2], _ => rfl
theorem bd_Reopen0 (x v0 : Value) (rest : List Value) (hl : rest.length = 0) : bindArgs (PySem.W.ksFn "__init__" "Reopen.__init__" (defArgs s_Reopen_init) (defBody s_Reopen_init) (defScope s_Reopen_init) .none kV doc pm an cda ct cc) ⟨x :: rest, [(("role" : Str), v0)]⟩ = (newTuple rest >>= fun t => pure [(("self" : Str), x), (("role" : Str), v0), (("names" : Str), t)]) := by
  match rest, hl with
  | [], _ => rfl
theorem bd_Reopen1 (x v0 : Value) (rest : List Value) (hl : rest.length = 1) : bindArgs (PySem.W.ksFn "__init__" "Reopen.__init__" (defArgs s_Reopen_init) (defBody s_Reopen_init) (defScope s_Reopen_init) .none kV doc pm an cda ct cc) ⟨x :: rest, [(("role" : Str), v0)]⟩ = (newTuple rest >>= fun t => pure [(("self" : Str), x), (("role" : Str), v0), (("names" : Str), t)]) := by
  match rest, hl with
  | [r0], _ => rfl
theorem bd_Reopen2 (x v0 : Value) (rest : List Value) (hl : rest.length = 2) : bindArgs (PySem.W.ksFn "__init__" "Reopen.__init__" (defArgs s_Reopen_init) (defBody s_Reopen_init) (defScope s_Reopen_init) .none kV doc pm an cda ct cc) ⟨x :: rest, [(("role" : Str), v0)]⟩ = (newTuple rest >>= fun t => pure [(("self" : Str), x), (("role" : Str), v0), (("names" : Str), t)]) := by
  match rest, hl with
  | [r0, r1], _ => rfl
theorem bd_Reopen3 (x v0 : Value) (rest : List Value) (hl : rest.length = 3) : bindArgs (PySem.W.ksFn "__init__" "Reopen.__init__" (defArgs s_Reopen_init) (defBody s_Reopen_init) (defScope s_Reopen_init) .none kV doc pm an cda ct cc) ⟨x :: rest, [(("role" : Str), v0)]⟩ = (newTuple rest >>= fun t => pure [(("self" : Str), x), (("role" : Str), v0), (("names" : Str), t)]) := by
  match rest, hl with
  | [r0, r1, r2], _ => rfl
end
end LW
namespace LW
open PySem PySem.Spec PyProof.Rows L2 Ys

theorem okSup {w : World} {K : PySem.W.Frag} {mg : Str → Option Value} {base : Heap} {C fI : Addr} {fd : FuncData} (S : SupF PR K C fI "field" "InvalidTask.__init__" (defArgs s_x) (defBody s_x) (defScope s_x) fd) (T : OexC K C) : FnOk PR w K mg base CX0 1 fI fd ["self", "field"] (spSup K C "field") :=
  ok_sup (x := "field") S ⟨by decide +kernel, by rfl, by rfl, by rfl, by rfl, rfl, rfl, rfl, ⟨_, rfl, rfl⟩, by decide, by decide⟩ T (fun env h => by cases env; subst h; exact ⟨_, rfl⟩) (fun env h => by cases env; subst h; rfl) (fun env h => by cases env; subst h; rfl) (fun env h => by cases env; subst h; rfl) (by decide +kernel)
theorem ordB_ok {xs : List Str} {K : PySem.W.Frag} {C D : Addr} (h : ordB xs K = true) (h1 : ∃ x ∈ xs, C = gA x K) (h2 : ∃ x ∈ xs, D = gA x K) : PySem.W.notFirst K C (.ref D) = true ∨ (C ≠ D ∧ PySem.W.subIn K (.ref D) (.ref C) = some true) := by
  obtain ⟨x, hx, rfl⟩ := h1
  obtain ⟨y, hy, rfl⟩ := h2
  have := List.all_eq_true.mp (List.all_eq_true.mp h x hx) y hy
  rcases Bool.or_eq_true_iff.mp this with h | h
  · exact .inl h
  · obtain ⟨a, b⟩ := Bool.and_eq_true_iff.mp h
    exact .inr ⟨of_decide_eq_true a, of_decide_eq_true b⟩
theorem famM {K : PySem.W.Frag} {C : Addr} (h : FamL (gA "Task" K) (gA "Vote" K) (gA "HandOn" K) (gA "Reopen" K) C) : ∃ x ∈ (["Task", "Vote", "HandOn", "Reopen"] : List Str), C = gA x K := by
  rcases h with rfl | rfl | rfl | rfl
  · exact ⟨_, by simp, rfl⟩
  · exact ⟨_, by simp, rfl⟩
  · exact ⟨_, by simp, rfl⟩
  · exact ⟨_, by simp, rfl⟩
theorem facts {w : World} {K : PySem.W.Frag} {h : Heap} {mg : Str → Option Value} {f : Addr} (X : K.In h) (G : h.Ns mainGlobals mg) (hfa : mg ("law" : Str) = some (.ref f)) (cl : SaysL fb fn fc ts tf w h K) :
    ∃ fd : FuncData, (∀ (s : Shared) (v : Value), BindsTo s fd ⟨[v], []⟩ [("_law_script", v)]) ∧ ∀ base : Heap, K.In base → base.Ns mainGlobals mg → (∀ p ∈ tf.map (cTb K), LamX.TabB base mg p.1 p.2) → FnG PR w K mg base CX0 30 f fd ["_law_script"] (spLaw K (cTb K (gA "law")).2) := by
  have ct0 := cl.ct
  have cc0 := ct0.c
  have c := cc0.both.1
  obtain ⟨fd_is_word, F_is_word⟩ : ∃ fd, FnP K "is_word" s_is_word (gA "is_word" K) fd := c.def_ 0
  obtain ⟨fd_is_integer, F_is_integer⟩ : ∃ fd, FnP K "is_integer" s_is_integer (gA "is_integer" K) fd := c.def_ 1
  obtain ⟨fd_is_within, F_is_within⟩ : ∃ fd, FnP K "is_within" s_is_within (gA "is_within" K) fd := c.def_ 2
  obtain ⟨fd_is_list, F_is_list⟩ : ∃ fd, FnP K "is_list" s_is_list (gA "is_list" K) fd := c.def_ 3
  obtain ⟨fd_are_words, F_are_words⟩ : ∃ fd, FunD K "are_words" "are_words" (defArgs s_are_words) (defBody s_are_words) (defScope s_are_words) [.non] [] (gA "are_words" K) fd := c.def_ 4
  obtain ⟨fd_are_different_words, F_are_different_words⟩ : ∃ fd, FunD K "are_different_words" "are_different_words" (defArgs s_are_different_words) (defBody s_are_different_words) (defScope s_are_different_words) [.non] [] (gA "are_different_words" K) fd := c.def_ 5
  obtain ⟨fd_ascending, F_ascending⟩ : ∃ fd, FnP K "ascending" s_ascending (gA "ascending" K) fd := c.def_ 6
  obtain ⟨fd_law_pen, F_law_pen⟩ : ∃ fd, FnP K "_law_pen" s_law_pen (gA "_law_pen" K) fd := c.def_ 7
  obtain ⟨fd_law_draw, F_law_draw⟩ : ∃ fd, FnP K "_law_draw" s_law_draw (gA "_law_draw" K) fd := c.def_ 8
  obtain ⟨fd_law_pick, F_law_pick⟩ : ∃ fd, FnP K "_law_pick" s_law_pick (gA "_law_pick" K) fd := c.def_ 9
  obtain ⟨fd_law_shuffled, F_law_shuffled⟩ : ∃ fd, FnP K "_law_shuffled" s_law_shuffled (gA "_law_shuffled" K) fd := c.def_ 10
  obtain ⟨fd_law_words, F_law_words⟩ : ∃ fd, FnP K "_law_words" s_law_words (gA "_law_words" K) fd := c.def_ 11
  obtain ⟨fd_law_any_value, F_law_any_value⟩ : ∃ fd, FnP K "_law_any_value" s_law_any_value (gA "_law_any_value" K) fd := c.def_ 12
  obtain ⟨fd_law_is_word, F_law_is_word⟩ : ∃ fd, FnP K "_law_is_word" s_law_is_word (gA "_law_is_word" K) fd := c.def_ 13
  obtain ⟨fd_law_shown, F_law_shown⟩ : ∃ fd, FnP K "_law_shown" s_law_shown (gA "_law_shown" K) fd := c.def_ 14
  obtain ⟨fd_law_told, F_law_told⟩ : ∃ fd, FnP K "_law_told" s_law_told (gA "_law_told" K) fd := c.def_ 15
  obtain ⟨fd_law_called, F_law_called⟩ : ∃ fd, FnP K "_law_called" s_law_called (gA "_law_called" K) fd := c.def_ 16
  obtain ⟨fd_law_due, F_law_due⟩ : ∃ fd, FnP K "_law_due" s_law_due (gA "_law_due" K) fd := c.def_ 17
  obtain ⟨fd_law, F_law⟩ : ∃ fd, FnP K "law" s_law (gA "law" K) fd := c.def_ 18
  obtain ⟨fd_init, F_init⟩ : ∃ fd, FI K (.ref (kA "Task" "__init__" "other" K)) (.ref (kA "Task" "__init__" "same" K)) (.ref (kA "Task" "__init__" "takes" K)) (.ref (kA "Task" "__init__" "forgets" K)) (cA "Task" "__init__" K) fd := c.def_ 19
  obtain ⟨fd_g_Task_role, F_g_Task_role⟩ : ∃ fd, FunD K "role" "Task.role" (defArgs s_Task_role) (defBody s_Task_role) (defScope s_Task_role) [] [] (pA "Task" "role" K) fd := c.def_ 20
  obtain ⟨fd_g_Task_many, F_g_Task_many⟩ : ∃ fd, FunD K "many" "Task.many" (defArgs s_Task_many) (defBody s_Task_many) (defScope s_Task_many) [] [] (pA "Task" "many" K) fd := c.def_ 21
  obtain ⟨fd_g_Task_other, F_g_Task_other⟩ : ∃ fd, FunD K "other" "Task.other" (defArgs s_Task_other) (defBody s_Task_other) (defScope s_Task_other) [] [] (pA "Task" "other" K) fd := c.def_ 22
  obtain ⟨fd_g_Task_same, F_g_Task_same⟩ : ∃ fd, FunD K "same" "Task.same" (defArgs s_Task_same) (defBody s_Task_same) (defScope s_Task_same) [] [] (pA "Task" "same" K) fd := c.def_ 23
  obtain ⟨fd_g_Task_takes, F_g_Task_takes⟩ : ∃ fd, FunD K "takes" "Task.takes" (defArgs s_Task_takes) (defBody s_Task_takes) (defScope s_Task_takes) [] [] (pA "Task" "takes" K) fd := c.def_ 24
  obtain ⟨fd_g_Task_forgets, F_g_Task_forgets⟩ : ∃ fd, FunD K "forgets" "Task.forgets" (defArgs s_Task_forgets) (defBody s_Task_forgets) (defScope s_Task_forgets) [] [] (pA "Task" "forgets" K) fd := c.def_ 25
  obtain ⟨fd_like_Task, F_like_Task⟩ : ∃ fd, FunD K "likeness" "Task.likeness" (defArgs s_Task_likeness) (defBody s_Task_likeness) (defScope s_Task_likeness) [] [] (cA "Task" "likeness" K) fd := c.def_ 26
  obtain ⟨fd_eq_Task, F_eq_Task⟩ : ∃ fd, FunD K "__eq__" "Task.__eq__" (defArgs s_Task_eq) (defBody s_Task_eq) (defScope s_Task_eq) [] [] (cA "Task" "__eq__" K) fd := c.def_ 27
  obtain ⟨fd_g_Vote_role, F_g_Vote_role⟩ : ∃ fd, FunD K "role" "Task.role" (defArgs s_Task_role) (defBody s_Task_role) (defScope s_Task_role) [] [] (pA "Vote" "role" K) fd := c.def_ 28
  obtain ⟨fd_g_Vote_many, F_g_Vote_many⟩ : ∃ fd, FunD K "many" "Task.many" (defArgs s_Task_many) (defBody s_Task_many) (defScope s_Task_many) [] [] (pA "Vote" "many" K) fd := c.def_ 29
  obtain ⟨fd_g_Vote_other, F_g_Vote_other⟩ : ∃ fd, FunD K "other" "Task.other" (defArgs s_Task_other) (defBody s_Task_other) (defScope s_Task_other) [] [] (pA "Vote" "other" K) fd := c.def_ 30
  obtain ⟨fd_g_Vote_same, F_g_Vote_same⟩ : ∃ fd, FunD K "same" "Task.same" (defArgs s_Task_same) (defBody s_Task_same) (defScope s_Task_same) [] [] (pA "Vote" "same" K) fd := c.def_ 31
  obtain ⟨fd_g_Vote_takes, F_g_Vote_takes⟩ : ∃ fd, FunD K "takes" "Task.takes" (defArgs s_Task_takes) (defBody s_Task_takes) (defScope s_Task_takes) [] [] (pA "Vote" "takes" K) fd := c.def_ 32
  obtain ⟨fd_g_Vote_forgets, F_g_Vote_forgets⟩ : ∃ fd, FunD K "forgets" "Task.forgets" (defArgs s_Task_forgets) (defBody s_Task_forgets) (defScope s_Task_forgets) [] [] (pA "Vote" "forgets" K) fd := c.def_ 33
  obtain ⟨fd_like_Vote, F_like_Vote⟩ : ∃ fd, FunD K "likeness" "Task.likeness" (defArgs s_Task_likeness) (defBody s_Task_likeness) (defScope s_Task_likeness) [] [] (cA "Vote" "likeness" K) fd := c.def_ 34
  obtain ⟨fd_eq_Vote, F_eq_Vote⟩ : ∃ fd, FunD K "__eq__" "Task.__eq__" (defArgs s_Task_eq) (defBody s_Task_eq) (defScope s_Task_eq) [] [] (cA "Vote" "__eq__" K) fd := c.def_ 35
  obtain ⟨fd_g_HandOn_role, F_g_HandOn_role⟩ : ∃ fd, FunD K "role" "Task.role" (defArgs s_Task_role) (defBody s_Task_role) (defScope s_Task_role) [] [] (pA "HandOn" "role" K) fd := c.def_ 36
  obtain ⟨fd_g_HandOn_many, F_g_HandOn_many⟩ : ∃ fd, FunD K "many" "Task.many" (defArgs s_Task_many) (defBody s_Task_many) (defScope s_Task_many) [] [] (pA "HandOn" "many" K) fd := c.def_ 37
  obtain ⟨fd_g_HandOn_other, F_g_HandOn_other⟩ : ∃ fd, FunD K "other" "Task.other" (defArgs s_Task_other) (defBody s_Task_other) (defScope s_Task_other) [] [] (pA "HandOn" "other" K) fd := c.def_ 38
  obtain ⟨fd_g_HandOn_same, F_g_HandOn_same⟩ : ∃ fd, FunD K "same" "Task.same" (defArgs s_Task_same) (defBody s_Task_same) (defScope s_Task_same) [] [] (pA "HandOn" "same" K) fd := c.def_ 39
  obtain ⟨fd_g_HandOn_takes, F_g_HandOn_takes⟩ : ∃ fd, FunD K "takes" "Task.takes" (defArgs s_Task_takes) (defBody s_Task_takes) (defScope s_Task_takes) [] [] (pA "HandOn" "takes" K) fd := c.def_ 40
  obtain ⟨fd_g_HandOn_forgets, F_g_HandOn_forgets⟩ : ∃ fd, FunD K "forgets" "Task.forgets" (defArgs s_Task_forgets) (defBody s_Task_forgets) (defScope s_Task_forgets) [] [] (pA "HandOn" "forgets" K) fd := c.def_ 41
  obtain ⟨fd_like_HandOn, F_like_HandOn⟩ : ∃ fd, FunD K "likeness" "Task.likeness" (defArgs s_Task_likeness) (defBody s_Task_likeness) (defScope s_Task_likeness) [] [] (cA "HandOn" "likeness" K) fd := c.def_ 42
  obtain ⟨fd_eq_HandOn, F_eq_HandOn⟩ : ∃ fd, FunD K "__eq__" "Task.__eq__" (defArgs s_Task_eq) (defBody s_Task_eq) (defScope s_Task_eq) [] [] (cA "HandOn" "__eq__" K) fd := c.def_ 43
  obtain ⟨fd_g_Reopen_role, F_g_Reopen_role⟩ : ∃ fd, FunD K "role" "Task.role" (defArgs s_Task_role) (defBody s_Task_role) (defScope s_Task_role) [] [] (pA "Reopen" "role" K) fd := c.def_ 44
  obtain ⟨fd_g_Reopen_many, F_g_Reopen_many⟩ : ∃ fd, FunD K "many" "Task.many" (defArgs s_Task_many) (defBody s_Task_many) (defScope s_Task_many) [] [] (pA "Reopen" "many" K) fd := c.def_ 45
  obtain ⟨fd_g_Reopen_other, F_g_Reopen_other⟩ : ∃ fd, FunD K "other" "Task.other" (defArgs s_Task_other) (defBody s_Task_other) (defScope s_Task_other) [] [] (pA "Reopen" "other" K) fd := c.def_ 46
  obtain ⟨fd_g_Reopen_same, F_g_Reopen_same⟩ : ∃ fd, FunD K "same" "Task.same" (defArgs s_Task_same) (defBody s_Task_same) (defScope s_Task_same) [] [] (pA "Reopen" "same" K) fd := c.def_ 47
  obtain ⟨fd_g_Reopen_takes, F_g_Reopen_takes⟩ : ∃ fd, FunD K "takes" "Task.takes" (defArgs s_Task_takes) (defBody s_Task_takes) (defScope s_Task_takes) [] [] (pA "Reopen" "takes" K) fd := c.def_ 48
  obtain ⟨fd_g_Reopen_forgets, F_g_Reopen_forgets⟩ : ∃ fd, FunD K "forgets" "Task.forgets" (defArgs s_Task_forgets) (defBody s_Task_forgets) (defScope s_Task_forgets) [] [] (pA "Reopen" "forgets" K) fd := c.def_ 49
  obtain ⟨fd_like_Reopen, F_like_Reopen⟩ : ∃ fd, FunD K "likeness" "Task.likeness" (defArgs s_Task_likeness) (defBody s_Task_likeness) (defScope s_Task_likeness) [] [] (cA "Reopen" "likeness" K) fd := c.def_ 50
  obtain ⟨fd_eq_Reopen, F_eq_Reopen⟩ : ∃ fd, FunD K "__eq__" "Task.__eq__" (defArgs s_Task_eq) (defBody s_Task_eq) (defScope s_Task_eq) [] [] (cA "Reopen" "__eq__" K) fd := c.def_ 51
  have TC_Task : TaskC K (gA "Task" K) := ⟨He.cls_ok (c.at_ 47), He.noat_ok (c.at_ 48), He.noat_ok (c.at_ 49), He.noat_ok (c.at_ 50), He.noat_ok (c.at_ 51), He.noat_ok (c.at_ 52), He.noat_ok (c.at_ 53)⟩
  have TT_Task : TaskT K (gA "Task" K) := by
    obtain ⟨h1, h2⟩ := Bool.and_eq_true_iff.mp (c.at_ 55)
    obtain ⟨h3, h4⟩ := Bool.and_eq_true_iff.mp h2
    obtain ⟨h5, h6⟩ := Bool.and_eq_true_iff.mp h4
    obtain ⟨h7, h8⟩ := Bool.and_eq_true_iff.mp h6
    exact ⟨TC_Task.cl, of_decide_eq_true h1, of_decide_eq_true h3, of_decide_eq_true h5, of_decide_eq_true h7, h8⟩
  have TS_Task : TkS K (gA "Task" K) (gA "Task" K) := ⟨TC_Task, TT_Task, of_decide_eq_true (c.at_ 56)⟩
  have TC_Vote : TaskC K (gA "Vote" K) := ⟨He.cls_ok (c.at_ 66), He.noat_ok (c.at_ 67), He.noat_ok (c.at_ 68), He.noat_ok (c.at_ 69), He.noat_ok (c.at_ 70), He.noat_ok (c.at_ 71), He.noat_ok (c.at_ 72)⟩
  have TT_Vote : TaskT K (gA "Vote" K) := by
    obtain ⟨h1, h2⟩ := Bool.and_eq_true_iff.mp (c.at_ 74)
    obtain ⟨h3, h4⟩ := Bool.and_eq_true_iff.mp h2
    obtain ⟨h5, h6⟩ := Bool.and_eq_true_iff.mp h4
    obtain ⟨h7, h8⟩ := Bool.and_eq_true_iff.mp h6
    exact ⟨TC_Vote.cl, of_decide_eq_true h1, of_decide_eq_true h3, of_decide_eq_true h5, of_decide_eq_true h7, h8⟩
  have TS_Vote : TkS K (gA "Task" K) (gA "Vote" K) := ⟨TC_Vote, TT_Vote, of_decide_eq_true (c.at_ 75)⟩
  have TC_HandOn : TaskC K (gA "HandOn" K) := ⟨He.cls_ok (c.at_ 85), He.noat_ok (c.at_ 86), He.noat_ok (c.at_ 87), He.noat_ok (c.at_ 88), He.noat_ok (c.at_ 89), He.noat_ok (c.at_ 90), He.noat_ok (c.at_ 91)⟩
  have TT_HandOn : TaskT K (gA "HandOn" K) := by
    obtain ⟨h1, h2⟩ := Bool.and_eq_true_iff.mp (c.at_ 93)
    obtain ⟨h3, h4⟩ := Bool.and_eq_true_iff.mp h2
    obtain ⟨h5, h6⟩ := Bool.and_eq_true_iff.mp h4
    obtain ⟨h7, h8⟩ := Bool.and_eq_true_iff.mp h6
    exact ⟨TC_HandOn.cl, of_decide_eq_true h1, of_decide_eq_true h3, of_decide_eq_true h5, of_decide_eq_true h7, h8⟩
  have TS_HandOn : TkS K (gA "Task" K) (gA "HandOn" K) := ⟨TC_HandOn, TT_HandOn, of_decide_eq_true (c.at_ 94)⟩
  have TC_Reopen : TaskC K (gA "Reopen" K) := ⟨He.cls_ok (c.at_ 104), He.noat_ok (c.at_ 105), He.noat_ok (c.at_ 106), He.noat_ok (c.at_ 107), He.noat_ok (c.at_ 108), He.noat_ok (c.at_ 109), He.noat_ok (c.at_ 110)⟩
  have TT_Reopen : TaskT K (gA "Reopen" K) := by
    obtain ⟨h1, h2⟩ := Bool.and_eq_true_iff.mp (c.at_ 112)
    obtain ⟨h3, h4⟩ := Bool.and_eq_true_iff.mp h2
    obtain ⟨h5, h6⟩ := Bool.and_eq_true_iff.mp h4
    obtain ⟨h7, h8⟩ := Bool.and_eq_true_iff.mp h6
    exact ⟨TC_Reopen.cl, of_decide_eq_true h1, of_decide_eq_true h3, of_decide_eq_true h5, of_decide_eq_true h7, h8⟩
  have TS_Reopen : TkS K (gA "Task" K) (gA "Reopen" K) := ⟨TC_Reopen, TT_Reopen, of_decide_eq_true (c.at_ 113)⟩
  have T : Nm K mg := ⟨sysB_ok (c.at_ 0), He.free_ok X G (c.at_ 25), He.free_ok X G (c.at_ 26), He.free_ok X G (c.at_ 27), He.free_ok X G (c.at_ 28), He.free_ok X G (c.at_ 29), He.free_ok X G (c.at_ 30), He.free_ok X G (c.at_ 31), He.free_ok X G (c.at_ 32), He.free_ok X G (c.at_ 33), He.free_ok X G (c.at_ 34), He.free_ok X G (c.at_ 35), He.free_ok X G (c.at_ 36), He.free_ok X G (c.at_ 37), He.free_ok X G (c.at_ 38), He.free_ok X G (c.at_ 39), He.free_ok X G (c.at_ 40), He.free_ok X G (c.at_ 41), let ⟨t, e⟩ := He.str_ok X G (c.at_ 44); ⟨_, e, t, rfl⟩, let ⟨t, e⟩ := He.int_ok X G (c.at_ 45); ⟨_, e, t, rfl⟩, let ⟨t, e⟩ := He.int_ok X G (c.at_ 46); ⟨_, e, t, rfl⟩⟩
  have e := hfa.symm.trans (He.glo_ok X G (c.at_ 19))
  cases e
  have b := FunD.bindsA (ps := ["_law_script"]) F_law fun _ _ _ _ _ _ us hl => match us, hl with | [_], _ => rfl
  refine ⟨fd_law, fun s v => b s [v] rfl, fun base _ _ tb => ?_⟩
  have B_law := tb (cTb K (gA "law")) (List.mem_map.mpr ⟨gA "law", by simp [tf], rfl⟩)
  have L : LawC PR w K mg base (gA "Task" K) (gA "Vote" K) (gA "HandOn" K) (gA "Reopen" K) (gA "InvalidTask" K) (kA "Task" "__init__" "other" K) (kA "Task" "__init__" "same" K) (kA "Task" "__init__" "takes" K) (kA "Task" "__init__" "forgets" K) (kA "Vote" "__init__" "other" K) := by
    have C_is_word : Own PR w K mg base CX0 1 "is_word" ["value"] (spWord K) := ⟨⟨_, _, ok_is_word T F_is_word, He.glo_ok X G (c.at_ 1), F_is_word.kp, F_is_word.bindsN fun _ _ _ _ _ _ us hl => match us, hl with | [_], _ => rfl⟩⟩
    have C_is_integer : Own PR w K mg base CX0 1 "is_integer" ["value"] (spInt K) := ⟨⟨_, _, ok_is_integer T F_is_integer, He.glo_ok X G (c.at_ 2), F_is_integer.kp, F_is_integer.bindsN fun _ _ _ _ _ _ us hl => match us, hl with | [_], _ => rfl⟩⟩
    have C_is_within : Own PR w K mg base CX0 2 "is_within" ["value", "least", "most"] (spWithin K) := ⟨⟨_, _, ok_is_within T C_is_integer F_is_within, He.glo_ok X G (c.at_ 3), F_is_within.kp, F_is_within.bindsN fun _ _ _ _ _ _ us hl => match us, hl with | [_, _, _], _ => rfl⟩⟩
    have C_is_list : Own PR w K mg base CX0 1 "is_list" ["value"] (spIsList K) := ⟨⟨_, _, ok_is_list T F_is_list, He.glo_ok X G (c.at_ 4), F_is_list.kp, F_is_list.bindsN fun _ _ _ _ _ _ us hl => match us, hl with | [_], _ => rfl⟩⟩
    have C_are_words : Own PR w K mg base CX0 2 "are_words" ["value", "most"] (spAreWords K) := ⟨⟨_, _, ok_are_words T C_is_word C_is_list F_are_words, He.glo_ok X G (c.at_ 5), F_are_words.kp, bd_words2 F_are_words⟩⟩
    have C_diff1 : Ys.OwnA PR w K mg base CX0 3 "are_different_words" ["value", "most"] [.non] (spDiff K) := by
      obtain ⟨ds, hv, hb⟩ := bd_diff1 F_are_different_words
      exact ⟨⟨_, _, ds, ok_diff T C_are_words F_are_different_words, He.glo_ok X G (c.at_ 6), F_are_different_words.kp, hb, hv⟩⟩
    have C_ascending : Own PR w K mg base CX0 1 "ascending" ["words"] (spAsc K) := ⟨⟨_, _, ok_asc T F_ascending, He.glo_ok X G (c.at_ 7), F_ascending.kp, F_ascending.bindsN fun _ _ _ _ _ _ us hl => match us, hl with | [_], _ => rfl⟩⟩
    obtain ⟨fd_x, S_x, ⟨kV, doc, pm, an, cdv, ct, cc, e_x⟩, iC, tI⟩ := supA_ok (P := PR) (x := "InvalidTask") (fld := "field") (d := dSup) rfl rfl (cc0.sup 0) (c.at_ 133)
    have O_x := oexA_ok (c.at_ 131)
    have A_x := excA_ok (c.at_ 132)
    have S_InvalidTask : ExcS PR w K mg base (gA "InvalidTask" K) "InvalidTask" "field" := ⟨O_x, ⟨_, fd_x, "field", iC, tI, okSup S_x O_x, by
      rw [e_x]
      exact .all fun us hl => match us, hl with | [_, _], _ => rfl⟩, He.glo_ok X G (c.at_ 24)⟩
    have hsup : mg "super" = none := He.free_ok X G (c.at_ 43)
    have gT := He.glo_ok X G (c.at_ 20)
    have I_Task := ok_init (P := PR) (w := w) (base := base) T TC_Task C_is_word C_is_within C_diff1 C_ascending F_init
    have TI_Task : FnOk PR w K mg base (L2.CX PR w) 4 (cA "Task" "__init__" K) fd_init psI (spTk K (gA "Task" K) (gA "InvalidTask" K)) := FnOk_or (FnOk_cx I_Task) (ok_initX T TC_Task C_is_word C_is_within C_diff1 C_ascending S_InvalidTask F_init)
    have ML_Task : Mth PR w K mg base CX0 1 (gA "Task" K) "likeness" ["self"] [] (spLike K (gA "Task" K)) := ⟨⟨_, _, [], He.meth_ok (c.at_ 63), ok_like TC_Task F_like_Task, F_like_Task.bindsN fun _ _ _ _ _ _ us hl => match us, hl with | [_], _ => rfl, .nil⟩, TC_Task.cl⟩
    have R_Task : PrsT PR w K mg base (gA "Task" K) := ⟨⟨⟨_, _, _, fProp_ok (c.at_ 57), ok_g1 TC_Task F_g_Task_role, F_g_Task_role.bindsN fun _ _ _ _ _ _ us hl => match us, hl with | [_], _ => rfl⟩, TC_Task.cl⟩, ⟨⟨_, _, _, fProp_ok (c.at_ 58), ok_g2 TC_Task F_g_Task_many, F_g_Task_many.bindsN fun _ _ _ _ _ _ us hl => match us, hl with | [_], _ => rfl⟩, TC_Task.cl⟩, ⟨⟨_, _, _, fProp_ok (c.at_ 59), ok_g3 TC_Task F_g_Task_other, F_g_Task_other.bindsN fun _ _ _ _ _ _ us hl => match us, hl with | [_], _ => rfl⟩, TC_Task.cl⟩, ⟨⟨_, _, _, fProp_ok (c.at_ 60), ok_g4 TC_Task F_g_Task_same, F_g_Task_same.bindsN fun _ _ _ _ _ _ us hl => match us, hl with | [_], _ => rfl⟩, TC_Task.cl⟩, ⟨⟨_, _, _, fProp_ok (c.at_ 61), ok_g5 TC_Task F_g_Task_takes, F_g_Task_takes.bindsN fun _ _ _ _ _ _ us hl => match us, hl with | [_], _ => rfl⟩, TC_Task.cl⟩, ⟨⟨_, _, _, fProp_ok (c.at_ 62), ok_g6 TC_Task F_g_Task_forgets, F_g_Task_forgets.bindsN fun _ _ _ _ _ _ us hl => match us, hl with | [_], _ => rfl⟩, TC_Task.cl⟩⟩
    have I_Vote := ok_init (P := PR) (w := w) (base := base) T TC_Vote C_is_word C_is_within C_diff1 C_ascending F_init
    have TI_Vote : FnOk PR w K mg base (L2.CX PR w) 4 (cA "Task" "__init__" K) fd_init psI (spTk K (gA "Vote" K) (gA "InvalidTask" K)) := FnOk_or (FnOk_cx I_Vote) (ok_initX T TC_Vote C_is_word C_is_within C_diff1 C_ascending S_InvalidTask F_init)
    have ML_Vote : Mth PR w K mg base CX0 1 (gA "Vote" K) "likeness" ["self"] [] (spLike K (gA "Vote" K)) := ⟨⟨_, _, [], He.meth_ok (c.at_ 82), ok_like TC_Vote F_like_Vote, F_like_Vote.bindsN fun _ _ _ _ _ _ us hl => match us, hl with | [_], _ => rfl, .nil⟩, TC_Vote.cl⟩
    have R_Vote : PrsT PR w K mg base (gA "Vote" K) := ⟨⟨⟨_, _, _, fProp_ok (c.at_ 76), ok_g1 TC_Vote F_g_Vote_role, F_g_Vote_role.bindsN fun _ _ _ _ _ _ us hl => match us, hl with | [_], _ => rfl⟩, TC_Vote.cl⟩, ⟨⟨_, _, _, fProp_ok (c.at_ 77), ok_g2 TC_Vote F_g_Vote_many, F_g_Vote_many.bindsN fun _ _ _ _ _ _ us hl => match us, hl with | [_], _ => rfl⟩, TC_Vote.cl⟩, ⟨⟨_, _, _, fProp_ok (c.at_ 78), ok_g3 TC_Vote F_g_Vote_other, F_g_Vote_other.bindsN fun _ _ _ _ _ _ us hl => match us, hl with | [_], _ => rfl⟩, TC_Vote.cl⟩, ⟨⟨_, _, _, fProp_ok (c.at_ 79), ok_g4 TC_Vote F_g_Vote_same, F_g_Vote_same.bindsN fun _ _ _ _ _ _ us hl => match us, hl with | [_], _ => rfl⟩, TC_Vote.cl⟩, ⟨⟨_, _, _, fProp_ok (c.at_ 80), ok_g5 TC_Vote F_g_Vote_takes, F_g_Vote_takes.bindsN fun _ _ _ _ _ _ us hl => match us, hl with | [_], _ => rfl⟩, TC_Vote.cl⟩, ⟨⟨_, _, _, fProp_ok (c.at_ 81), ok_g6 TC_Vote F_g_Vote_forgets, F_g_Vote_forgets.bindsN fun _ _ _ _ _ _ us hl => match us, hl with | [_], _ => rfl⟩, TC_Vote.cl⟩⟩
    have I_HandOn := ok_init (P := PR) (w := w) (base := base) T TC_HandOn C_is_word C_is_within C_diff1 C_ascending F_init
    have TI_HandOn : FnOk PR w K mg base (L2.CX PR w) 4 (cA "Task" "__init__" K) fd_init psI (spTk K (gA "HandOn" K) (gA "InvalidTask" K)) := FnOk_or (FnOk_cx I_HandOn) (ok_initX T TC_HandOn C_is_word C_is_within C_diff1 C_ascending S_InvalidTask F_init)
    have ML_HandOn : Mth PR w K mg base CX0 1 (gA "HandOn" K) "likeness" ["self"] [] (spLike K (gA "HandOn" K)) := ⟨⟨_, _, [], He.meth_ok (c.at_ 101), ok_like TC_HandOn F_like_HandOn, F_like_HandOn.bindsN fun _ _ _ _ _ _ us hl => match us, hl with | [_], _ => rfl, .nil⟩, TC_HandOn.cl⟩
    have R_HandOn : PrsT PR w K mg base (gA "HandOn" K) := ⟨⟨⟨_, _, _, fProp_ok (c.at_ 95), ok_g1 TC_HandOn F_g_HandOn_role, F_g_HandOn_role.bindsN fun _ _ _ _ _ _ us hl => match us, hl with | [_], _ => rfl⟩, TC_HandOn.cl⟩, ⟨⟨_, _, _, fProp_ok (c.at_ 96), ok_g2 TC_HandOn F_g_HandOn_many, F_g_HandOn_many.bindsN fun _ _ _ _ _ _ us hl => match us, hl with | [_], _ => rfl⟩, TC_HandOn.cl⟩, ⟨⟨_, _, _, fProp_ok (c.at_ 97), ok_g3 TC_HandOn F_g_HandOn_other, F_g_HandOn_other.bindsN fun _ _ _ _ _ _ us hl => match us, hl with | [_], _ => rfl⟩, TC_HandOn.cl⟩, ⟨⟨_, _, _, fProp_ok (c.at_ 98), ok_g4 TC_HandOn F_g_HandOn_same, F_g_HandOn_same.bindsN fun _ _ _ _ _ _ us hl => match us, hl with | [_], _ => rfl⟩, TC_HandOn.cl⟩, ⟨⟨_, _, _, fProp_ok (c.at_ 99), ok_g5 TC_HandOn F_g_HandOn_takes, F_g_HandOn_takes.bindsN fun _ _ _ _ _ _ us hl => match us, hl with | [_], _ => rfl⟩, TC_HandOn.cl⟩, ⟨⟨_, _, _, fProp_ok (c.at_ 100), ok_g6 TC_HandOn F_g_HandOn_forgets, F_g_HandOn_forgets.bindsN fun _ _ _ _ _ _ us hl => match us, hl with | [_], _ => rfl⟩, TC_HandOn.cl⟩⟩
    have I_Reopen := ok_init (P := PR) (w := w) (base := base) T TC_Reopen C_is_word C_is_within C_diff1 C_ascending F_init
    have TI_Reopen : FnOk PR w K mg base (L2.CX PR w) 4 (cA "Task" "__init__" K) fd_init psI (spTk K (gA "Reopen" K) (gA "InvalidTask" K)) := FnOk_or (FnOk_cx I_Reopen) (ok_initX T TC_Reopen C_is_word C_is_within C_diff1 C_ascending S_InvalidTask F_init)
    have ML_Reopen : Mth PR w K mg base CX0 1 (gA "Reopen" K) "likeness" ["self"] [] (spLike K (gA "Reopen" K)) := ⟨⟨_, _, [], He.meth_ok (c.at_ 120), ok_like TC_Reopen F_like_Reopen, F_like_Reopen.bindsN fun _ _ _ _ _ _ us hl => match us, hl with | [_], _ => rfl, .nil⟩, TC_Reopen.cl⟩
    have R_Reopen : PrsT PR w K mg base (gA "Reopen" K) := ⟨⟨⟨_, _, _, fProp_ok (c.at_ 114), ok_g1 TC_Reopen F_g_Reopen_role, F_g_Reopen_role.bindsN fun _ _ _ _ _ _ us hl => match us, hl with | [_], _ => rfl⟩, TC_Reopen.cl⟩, ⟨⟨_, _, _, fProp_ok (c.at_ 115), ok_g2 TC_Reopen F_g_Reopen_many, F_g_Reopen_many.bindsN fun _ _ _ _ _ _ us hl => match us, hl with | [_], _ => rfl⟩, TC_Reopen.cl⟩, ⟨⟨_, _, _, fProp_ok (c.at_ 116), ok_g3 TC_Reopen F_g_Reopen_other, F_g_Reopen_other.bindsN fun _ _ _ _ _ _ us hl => match us, hl with | [_], _ => rfl⟩, TC_Reopen.cl⟩, ⟨⟨_, _, _, fProp_ok (c.at_ 117), ok_g4 TC_Reopen F_g_Reopen_same, F_g_Reopen_same.bindsN fun _ _ _ _ _ _ us hl => match us, hl with | [_], _ => rfl⟩, TC_Reopen.cl⟩, ⟨⟨_, _, _, fProp_ok (c.at_ 118), ok_g5 TC_Reopen F_g_Reopen_takes, F_g_Reopen_takes.bindsN fun _ _ _ _ _ _ us hl => match us, hl with | [_], _ => rfl⟩, TC_Reopen.cl⟩, ⟨⟨_, _, _, fProp_ok (c.at_ 119), ok_g6 TC_Reopen F_g_Reopen_forgets, F_g_Reopen_forgets.bindsN fun _ _ _ _ _ _ us hl => match us, hl with | [_], _ => rfl⟩, TC_Reopen.cl⟩⟩
    have fs : ∀ C, FamL (gA "Task" K) (gA "Vote" K) (gA "HandOn" K) (gA "Reopen" K) C → TkS K (gA "Task" K) C := fun C h => by
        rcases h with rfl | rfl | rfl | rfl
        · exact TS_Task
        · exact TS_Vote
        · exact TS_HandOn
        · exact TS_Reopen
    have ML : ∀ C, FamL (gA "Task" K) (gA "Vote" K) (gA "HandOn" K) (gA "Reopen" K) C → Mth PR w K mg base CX0 1 C "likeness" ["self"] [] (spLike K C) := fun C h => by
        rcases h with rfl | rfl | rfl | rfl
        · exact ML_Task
        · exact ML_Vote
        · exact ML_HandOn
        · exact ML_Reopen
    have RS : ∀ C, FamL (gA "Task" K) (gA "Vote" K) (gA "HandOn" K) (gA "Reopen" K) C → PrsT PR w K mg base C := fun C h => by
        rcases h with rfl | rfl | rfl | rfl
        · exact R_Task
        · exact R_Vote
        · exact R_HandOn
        · exact R_Reopen
    have me_Task := He.meth_ok (c.at_ 64)
    have EQ_Task : EqC PR w K mg base CX0 2 (gA "Task" K) (spEqU K (FamL (gA "Task" K) (gA "Vote" K) (gA "HandOn" K) (gA "Reopen" K))) := ⟨⟨_, _, _, ok_eqU T gT fs ML F_eq_Task, me_Task.at_, me_Task.fn, F_eq_Task.bindsN fun _ _ _ _ _ _ us hl => match us, hl with | [_, _], _ => rfl⟩, of_decide_eq_true (c.at_ 65), TT_Task.hm⟩
    have me_Vote := He.meth_ok (c.at_ 83)
    have EQ_Vote : EqC PR w K mg base CX0 2 (gA "Vote" K) (spEqU K (FamL (gA "Task" K) (gA "Vote" K) (gA "HandOn" K) (gA "Reopen" K))) := ⟨⟨_, _, _, ok_eqU T gT fs ML F_eq_Vote, me_Vote.at_, me_Vote.fn, F_eq_Vote.bindsN fun _ _ _ _ _ _ us hl => match us, hl with | [_, _], _ => rfl⟩, of_decide_eq_true (c.at_ 84), TT_Vote.hm⟩
    have me_HandOn := He.meth_ok (c.at_ 102)
    have EQ_HandOn : EqC PR w K mg base CX0 2 (gA "HandOn" K) (spEqU K (FamL (gA "Task" K) (gA "Vote" K) (gA "HandOn" K) (gA "Reopen" K))) := ⟨⟨_, _, _, ok_eqU T gT fs ML F_eq_HandOn, me_HandOn.at_, me_HandOn.fn, F_eq_HandOn.bindsN fun _ _ _ _ _ _ us hl => match us, hl with | [_, _], _ => rfl⟩, of_decide_eq_true (c.at_ 103), TT_HandOn.hm⟩
    have me_Reopen := He.meth_ok (c.at_ 121)
    have EQ_Reopen : EqC PR w K mg base CX0 2 (gA "Reopen" K) (spEqU K (FamL (gA "Task" K) (gA "Vote" K) (gA "HandOn" K) (gA "Reopen" K))) := ⟨⟨_, _, _, ok_eqU T gT fs ML F_eq_Reopen, me_Reopen.at_, me_Reopen.fn, F_eq_Reopen.bindsN fun _ _ _ _ _ _ us hl => match us, hl with | [_, _], _ => rfl⟩, of_decide_eq_true (c.at_ 122), TT_Reopen.hm⟩
    have FM : FamC PR w K mg base (gA "Task" K) (FamL (gA "Task" K) (gA "Vote" K) (gA "HandOn" K) (gA "Reopen" K)) := ⟨fs, fun C h => by
        rcases h with rfl | rfl | rfl | rfl
        · exact EQ_Task
        · exact EQ_Vote
        · exact EQ_HandOn
        · exact EQ_Reopen, fun C D h1 h2 => ordB_ok (c.at_ 128) (famM h1) (famM h2)⟩
    have Mtt : MkS PR w K mg base CX0 4 (gA "Task" K) "Task" 1 ["takes"] (gW [.int 1, (.ref (kA "Task" "__init__" "other" K)), (.ref (kA "Task" "__init__" "same" K))] [(.ref (kA "Task" "__init__" "forgets" K))]) (spInit K (gA "Task" K)) := by
      obtain ⟨g, hb⟩ := kb_tt F_init
      exact ⟨⟨_, _, _, g, He.mkr_ok (c.at_ 54), I_Task, He.glo_ok X G (c.at_ 20), hb⟩⟩
    have Mtf : MkS PR w K mg base CX0 4 (gA "Task" K) "Task" 1 ["forgets"] (gW [.int 1, (.ref (kA "Task" "__init__" "other" K)), (.ref (kA "Task" "__init__" "same" K)), (.ref (kA "Task" "__init__" "takes" K))] []) (spInit K (gA "Task" K)) := by
      obtain ⟨g, hb⟩ := kb_tf F_init
      exact ⟨⟨_, _, _, g, He.mkr_ok (c.at_ 54), I_Task, He.glo_ok X G (c.at_ 20), hb⟩⟩
    have Mtmo : MkS PR w K mg base CX0 4 (gA "Task" K) "Task" 1 ["many", "other"] (gMO [(.ref (kA "Task" "__init__" "same" K)), (.ref (kA "Task" "__init__" "takes" K)), (.ref (kA "Task" "__init__" "forgets" K))]) (spInit K (gA "Task" K)) := by
      obtain ⟨g, hb⟩ := kb_tmo F_init
      exact ⟨⟨_, _, _, g, He.mkr_ok (c.at_ 54), I_Task, He.glo_ok X G (c.at_ 20), hb⟩⟩
    have Mt0 : MkS PR w K mg base CX0 4 (gA "Task" K) "Task" 0 [] (fun vs zs => vs ++ [.non, .int 1, (.ref (kA "Task" "__init__" "other" K)), (.ref (kA "Task" "__init__" "same" K)), (.ref (kA "Task" "__init__" "takes" K)), (.ref (kA "Task" "__init__" "forgets" K))]) (spInit K (gA "Task" K)) := by
      obtain ⟨g, hb⟩ := kb_t0 F_init
      exact ⟨⟨_, _, _, g, He.mkr_ok (c.at_ 54), I_Task, He.glo_ok X G (c.at_ 20), hb⟩⟩
    obtain ⟨dV_Vote, kV_Vote, doc_Vote, pm_Vote, an_Vote, cc_Vote, cda_Vote, ct_Vote, S_Vote, D_Vote, W_Vote, _⟩ := supT_ok (P := PR) (x := "Vote") (up := "Task") (dvs := dvVote) (kws := kvVote) (d := dVote) rfl rfl (cc0.sup 1) (c.at_ 134) ⟨_, rfl, rfl⟩ (by decide +kernel)
    obtain ⟨dV_HandOn, kV_HandOn, doc_HandOn, pm_HandOn, an_HandOn, cc_HandOn, cda_HandOn, ct_HandOn, S_HandOn, D_HandOn, W_HandOn, _⟩ := supT_ok (P := PR) (x := "HandOn") (up := "Task") (dvs := dvHandOn) (kws := kvHandOn) (d := dHandOn) rfl rfl (cc0.sup 2) (c.at_ 135) ⟨_, rfl, rfl⟩ (by decide +kernel)
    obtain ⟨dV_Reopen, kV_Reopen, doc_Reopen, pm_Reopen, an_Reopen, cc_Reopen, cda_Reopen, ct_Reopen, S_Reopen, D_Reopen, W_Reopen, _⟩ := supT_ok (P := PR) (x := "Reopen") (up := "Task") (dvs := dvReopen) (kws := kvReopen) (d := dReopen) rfl rfl (cc0.sup 3) (c.at_ 136) ⟨_, rfl, rfl⟩ (by decide +kernel)
    obtain ⟨_, hbT_V⟩ := kb_tmo F_init
    obtain ⟨_, hbT_H⟩ := kb_tt F_init
    obtain ⟨_, hbT_R⟩ := kb_tf F_init
    have OV := ok_vote T hsup S_Vote TI_Vote hbT_V
    have Mv2o : MkS PR w K mg base (L2.CX PR w) 6 (gA "Vote" K) "Vote" 2 ["other"] (gCat) (spVote K (gA "Vote" K) (gA "InvalidTask" K) [(.ref (kA "Task" "__init__" "same" K)), (.ref (kA "Task" "__init__" "takes" K)), (.ref (kA "Task" "__init__" "forgets" K))]) := by
      obtain ⟨g, hb⟩ := kb_v2o (eV := (.ref (kA "Vote" "__init__" "other" K))) D_Vote W_Vote
      exact ⟨⟨_, _, _, g, He.mkr_ok (c.at_ 73), OV, He.glo_ok X G (c.at_ 21), hb⟩⟩
    have Mv0m : MkS PR w K mg base (L2.CX PR w) 6 (gA "Vote" K) "Vote" 0 ["many"] (fun vs zs => vs ++ (zs ++ [.non, (.ref (kA "Vote" "__init__" "other" K))])) (spVote K (gA "Vote" K) (gA "InvalidTask" K) [(.ref (kA "Task" "__init__" "same" K)), (.ref (kA "Task" "__init__" "takes" K)), (.ref (kA "Task" "__init__" "forgets" K))]) := by
      obtain ⟨g, hb⟩ := kb_v0m (eV := (.ref (kA "Vote" "__init__" "other" K))) D_Vote W_Vote
      exact ⟨⟨_, _, _, g, He.mkr_ok (c.at_ 73), OV, He.glo_ok X G (c.at_ 21), hb⟩⟩
    have Mv1 : MkS PR w K mg base (L2.CX PR w) 6 (gA "Vote" K) "Vote" 1 [] (fun vs zs => vs ++ [.non, (.ref (kA "Vote" "__init__" "other" K))]) (spVote K (gA "Vote" K) (gA "InvalidTask" K) [(.ref (kA "Task" "__init__" "same" K)), (.ref (kA "Task" "__init__" "takes" K)), (.ref (kA "Task" "__init__" "forgets" K))]) := by
      obtain ⟨g, hb⟩ := kb_v1 (eV := (.ref (kA "Vote" "__init__" "other" K))) D_Vote W_Vote
      exact ⟨⟨_, _, _, g, He.mkr_ok (c.at_ 73), OV, He.glo_ok X G (c.at_ 21), hb⟩⟩
    have Mv2 : MkS PR w K mg base (L2.CX PR w) 6 (gA "Vote" K) "Vote" 2 [] (fun vs zs => vs ++ [(.ref (kA "Vote" "__init__" "other" K))]) (spVote K (gA "Vote" K) (gA "InvalidTask" K) [(.ref (kA "Task" "__init__" "same" K)), (.ref (kA "Task" "__init__" "takes" K)), (.ref (kA "Task" "__init__" "forgets" K))]) := by
      obtain ⟨g, hb⟩ := kb_v2 (eV := (.ref (kA "Vote" "__init__" "other" K))) D_Vote W_Vote
      exact ⟨⟨_, _, _, g, He.mkr_ok (c.at_ 73), OV, He.glo_ok X G (c.at_ 21), hb⟩⟩
    have Mv1o : MkS PR w K mg base (L2.CX PR w) 6 (gA "Vote" K) "Vote" 1 ["other"] (fun vs zs => vs ++ (.non :: zs)) (spVote K (gA "Vote" K) (gA "InvalidTask" K) [(.ref (kA "Task" "__init__" "same" K)), (.ref (kA "Task" "__init__" "takes" K)), (.ref (kA "Task" "__init__" "forgets" K))]) := by
      obtain ⟨g, hb⟩ := kb_v1o (eV := (.ref (kA "Vote" "__init__" "other" K))) D_Vote W_Vote
      exact ⟨⟨_, _, _, g, He.mkr_ok (c.at_ 73), OV, He.glo_ok X G (c.at_ 21), hb⟩⟩
    have eN_HandOn : dV_HandOn = .none := by
      rcases D_HandOn with ⟨_, e⟩ | ⟨e, _⟩
      · exact e
      · exact absurd rfl e
    subst eN_HandOn
    have H_HandOn : HdC PR w K mg base (gA "HandOn" K) (gA "InvalidTask" K) "HandOn" "takes" [.int 1, (.ref (kA "Task" "__init__" "other" K)), (.ref (kA "Task" "__init__" "same" K))] [(.ref (kA "Task" "__init__" "forgets" K))] := ⟨fun j hj => ⟨_, He.mkr_ok (c.at_ 92), ok_handon T hsup C_diff1 S_InvalidTask S_HandOn TI_HandOn hbT_H (Nat.le_trans hj (by decide)) (match j, hj with
      | 0, _ => bd_HandOn0
      | 1, _ => bd_HandOn1
      | 2, _ => bd_HandOn2
      | 3, _ => bd_HandOn3), He.glo_ok X G (c.at_ 22)⟩⟩
    have eN_Reopen : dV_Reopen = .none := by
      rcases D_Reopen with ⟨_, e⟩ | ⟨e, _⟩
      · exact e
      · exact absurd rfl e
    subst eN_Reopen
    have H_Reopen : HdC PR w K mg base (gA "Reopen" K) (gA "InvalidTask" K) "Reopen" "forgets" [.int 1, (.ref (kA "Task" "__init__" "other" K)), (.ref (kA "Task" "__init__" "same" K)), (.ref (kA "Task" "__init__" "takes" K))] [] := ⟨fun j hj => ⟨_, He.mkr_ok (c.at_ 111), ok_reopen T hsup C_diff1 S_InvalidTask S_Reopen TI_Reopen hbT_R (Nat.le_trans hj (by decide)) (match j, hj with
      | 0, _ => bd_Reopen0
      | 1, _ => bd_Reopen1
      | 2, _ => bd_Reopen2
      | 3, _ => bd_Reopen3), He.glo_ok X G (c.at_ 23)⟩⟩
    have C_law_pen : Own PR w K mg base CX0 1 "_law_pen" ["_law_script"] (spPenM K) := ⟨⟨_, _, ok_penM T F_law_pen, He.glo_ok X G (c.at_ 8), F_law_pen.kp, F_law_pen.bindsN fun _ _ _ _ _ _ us hl => match us, hl with | [_], _ => rfl⟩⟩
    have C_law_draw : Own PR w K mg base CX0 1 "_law_draw" ["_law_pen_here", "_law_size"] (spDraw K) := ⟨⟨_, _, ok_draw T F_law_draw, He.glo_ok X G (c.at_ 9), F_law_draw.kp, F_law_draw.bindsN fun _ _ _ _ _ _ us hl => match us, hl with | [_, _], _ => rfl⟩⟩
    have C_law_pick : Own PR w K mg base CX0 2 "_law_pick" ["_law_pen_here", "_law_items"] (spPick K) := ⟨⟨_, _, ok_pick T C_law_draw F_law_pick, He.glo_ok X G (c.at_ 10), F_law_pick.kp, F_law_pick.bindsN fun _ _ _ _ _ _ us hl => match us, hl with | [_, _], _ => rfl⟩⟩
    have C_law_shuffled : Own PR w K mg base CX0 2 "_law_shuffled" ["_law_pen_here", "_law_items"] (spShuf K) := ⟨⟨_, _, ok_shuf T C_law_draw F_law_shuffled, He.glo_ok X G (c.at_ 11), F_law_shuffled.kp, F_law_shuffled.bindsN fun _ _ _ _ _ _ us hl => match us, hl with | [_, _], _ => rfl⟩⟩
    have C_law_words : Own PR w K mg base CX0 3 "_law_words" ["_law_pen_here", "_law_count"] (spWords K) := ⟨⟨_, _, ok_words T C_law_draw C_law_pick F_law_words, He.glo_ok X G (c.at_ 12), F_law_words.kp, F_law_words.bindsN fun _ _ _ _ _ _ us hl => match us, hl with | [_, _], _ => rfl⟩⟩
    have C_law_any_value : Own PR w K mg base CX0 3 "_law_any_value" ["_law_pen_here"] (spAny K) := ⟨⟨_, _, ok_any T C_law_pick F_law_any_value, He.glo_ok X G (c.at_ 13), F_law_any_value.kp, F_law_any_value.bindsN fun _ _ _ _ _ _ us hl => match us, hl with | [_], _ => rfl⟩⟩
    have C_law_is_word : Own PR w K mg base CX0 1 "_law_is_word" ["_law_value"] (spWord K) := ⟨⟨_, _, ok_lword T F_law_is_word, He.glo_ok X G (c.at_ 14), F_law_is_word.kp, F_law_is_word.bindsN fun _ _ _ _ _ _ us hl => match us, hl with | [_], _ => rfl⟩⟩
    have C_law_due : Own PR w K mg base CX0 2 "_law_due" ["_law_sort", "_law_some", "_law_duty"] (spDueH K) := ⟨⟨_, _, ok_dueH T C_law_is_word F_law_due, He.glo_ok X G (c.at_ 18), F_law_due.kp, F_law_due.bindsN fun _ _ _ _ _ _ us hl => match us, hl with | [_, _, _], _ => rfl⟩⟩
    have C_law_shown : Own PR w K mg base CX0 3 "_law_shown" ["_law_one"] (spShownU K (FamL (gA "Task" K) (gA "Vote" K) (gA "HandOn" K) (gA "Reopen" K))) := ⟨⟨_, _, ok_shown RS F_law_shown, He.glo_ok X G (c.at_ 15), F_law_shown.kp, F_law_shown.bindsN fun _ _ _ _ _ _ us hl => match us, hl with | [_], _ => rfl⟩⟩
    have C_law_called : Own PR w K mg base (L2.CX PR w) 8 "_law_called" ["_law_sort", "_law_some", "_law_duty"] (spCalled K (gA "HandOn" K) (gA "Reopen" K) (gA "InvalidTask" K)) := ⟨⟨_, _, ok_called T (fun H => ⟨fNil_ok (c.at_ 123) H, fNil_ok (c.at_ 124) H, fNil_ok (c.at_ 125) H, fNil_ok (c.at_ 126) H⟩) H_HandOn H_Reopen F_law_called, He.glo_ok X G (c.at_ 17), F_law_called.kp, F_law_called.bindsN fun _ _ _ _ _ _ us hl => match us, hl with | [_, _, _], _ => rfl⟩⟩
    have TO : ToC K mg (gA "InvalidTask" K) := ⟨⟨_, _, F_law_told, He.glo_ok X G (c.at_ 16), F_law_told.bindsN fun _ _ _ _ _ _ us hl => match us, hl with | [_], _ => rfl⟩, He.glo_ok X G (c.at_ 24), A_x.xf, A_x.no, A_x.ex⟩
    exact ⟨C_law_pen, C_law_draw, C_law_pick, C_law_words, C_law_shuffled, C_law_any_value, C_law_due, C_law_shown, C_law_called, Mv2o, Mv0m, Mv1, Mv2, Mv1o, Mtt, Mtf, Mtmo, Mt0, gT, FM, c.at_ 129, c.at_ 130, TO, fun H => ⟨fNil_ok (c.at_ 123) H, fNil_ok (c.at_ 124) H, fNil_ok (c.at_ 125) H, fNil_ok (c.at_ 126) H, fNil_ok (c.at_ 127) H⟩⟩
  exact ok_law T L B_law F_law (cdOf_eq F_law)
end LW
open PySem PySem.W PySem.Calls PyProof.Rows
theorem PySem.Challenge.cw_fewhands_k06_votes_hand_ons_reopenings_holds : PySem.Challenge.rw_fewhands_k06_votes_hand_ons_reopenings.Holds := by
  w_on; o_law
  refine HandSHeadRun.head_any (r := OpenLaw.row PySem.Challenge.rw_fewhands_k06_votes_hand_ons_reopenings) (q := view (OpenLaw.row PySem.Challenge.rw_fewhands_k06_votes_hand_ons_reopenings).prog [30]) (H := LW.hk) (ob := Ys.obRL 1500 LW.fb LW.fn LW.fc LW.ts LW.tf) (M := 4000) (loose := LW.loose) (d := HandSHeadRun.topDef (OpenLaw.row PySem.Challenge.rw_fewhands_k06_votes_hand_ons_reopenings).prog 30) (kwd := []) Ys.obRL_eq
    (by kernel_rfl) (fun s => by kernel_rfl) LW.run (by kernel_rfl) (by kernel_rfl) (by kernel_rfl) (by rfl) (by first | assumption | decide +kernel) (by decide +kernel) ⟨rfl, rfl, rfl, rfl, rfl, by decide +kernel⟩ ?hw ?hc
  case hw => w_witness2
  case hc =>
    refine Ys.walk_ofGT (l := PySem.Challenge.rw_fewhands_k06_votes_hand_ons_reopenings) (n := 63) (k := 30) (x := "_law_script") (CX := fun _ => L2.CX0) rfl (by decide) (by kernel_rfl) ⟨rfl, by decide, by decide⟩ ?F (fun _ _ _ _ _ z => z)
    intro w mg fa h Y G hmg0
    obtain ⟨K, KX, c⟩ := Y
    have hmg : mg ("law" : PySem.Str) = some (.ref fa) := by
      have e : (HandSHeadRun.topDef (OpenLaw.row PySem.Challenge.rw_fewhands_k06_votes_hand_ons_reopenings).prog 30).name = ("law" : PySem.Str) := by kernel_rfl
      rw [← e]
      exact hmg0
    obtain ⟨fd, hb, hF⟩ := LW.facts (w := w) KX G hmg c
    refine ⟨K, fd, LW.tf.map (Ys.cTb K), LW.spLaw K (Ys.cTb K (Ys.gA "law")).2, KX, ⟨fun p hp => ?_, fun p hp => ?_, fun p hp => ?_, ?_⟩, hb, fun G H a ns hl z hS => ⟨G, a, ns, rfl, z, hS, hl, fun _ => rfl⟩, hF⟩
    · obtain ⟨g, hg, rfl⟩ := List.mem_map.mp hp
      exact c.emp g hg
    · obtain ⟨g, hg, rfl⟩ := List.mem_map.mp hp
      exact c.out g hg
    · obtain ⟨g, hg, rfl⟩ := List.mem_map.mp hp
      exact PySem.W.codeHd_of_K KX (c.hd g hg)
    · rw [List.map_map]
      exact c.nd
