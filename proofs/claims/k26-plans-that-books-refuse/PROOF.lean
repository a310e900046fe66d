import PyProof.Rows.All
import Wide.All
import OpenK.AllK
import Wide.FinOn
import HandS.ForMost
import HandS.SetTxt0
import HandS.Set
import HandS.SetFor
import HandS.Strs
import HandS.More
import PyProof.ReprRoads
import PyProof.CallFns
import KE.KStateDown
import HandS.Defaults
import HandS.Head0
import HandS.Head1
import HandS.Head2
import HandS.HeadEnd
import HandS.HeadHook1
import HandS.HeadHook2
import HandS.Conv
import HandS.TupAny
import HandS.Wide
import HandS.Flow
import HandS.NoneIn
import HandS.IsInst
import HandS.Text
import HandS.Property
import HandS.OwnEq
import HandS.MakeKwOnly
import HandS.MakeKw
import KE.KExcSuper
import KE.RegKSuper
import HandS.Exc
import HandS.ExcInit
import HandS.ExcField
import HandS.ExcIs
import HandS.ExcSuper
import KE.KIsAll
import KE.KTryMore
import HandS.WordsExc
import HandS.RaiseMore
import HandS.ExcOwn
import KE.KExcPX
import HandS.Star
import HandS.Style
import HandS.AnyAll
import HandS.HeadHook3
import PyProof.AutoSeq1
import PyProof.Rows.ExtendIn
import HandS.TupSets
import HandS.Dict
import HandS.DictComp
import HandS.Iter
import HandS.WordsDict
import HandS.Lambda
import HandS.EndBits
import HandS.TryMany
import HandS.DictEq
import HandS.DeepEq
import KE.KDictSum
import PyProof.TupleOfSeq
import PySem.Challenge.RW_fewhands_k26_plans_that_books_refuse
import HandS.TupMul
import HandS.CallLocal
import HandS.CallSlots
import KE.KNestM
import HandS.HeadHook4
set_option Elab.async false
set_option linter.all false
set_option maxRecDepth 100000
set_option maxHeartbeats 4000000
namespace Ys
open PySem PySem.Spec PyProof.Rows L2
def sysB (K : PySem.W.Frag) : Bool := match K.lookup sysModules with
  | some o => o.cls == .type "dict"
  | none => false
structure DefY where
  ad : PySem.W.Frag → Addr
  name : Str
  qual : Str
  params : Arguments
  body : List Stmt
  scope : Scope
  dfl : List He.Dv := []
  kwd : List (Str × He.Dv) := []
def fnY (K : PySem.W.Frag) (a : Addr) : He.FnW := (K.lookup a).bind fun o => match o.data with
  | .func fd => some (fd.name, fd.qualname, fd.params, fd.body, fd.scope, fd.globals, fd.closure, fd.builtins)
  | _ => none
def DefY.val (d : DefY) : He.FnW := some (d.name, d.qual, d.params, .stmts d.body, d.scope, mainGlobals, [], builtinsNs)
def DefY.dvs (K : PySem.W.Frag) (d : DefY) : List V := d.dfl.map (He.Dv.v K)
def DefY.kws (K : PySem.W.Frag) (d : DefY) : List (Str × V) := d.kwd.map fun q => (q.1, q.2.v K)
def DefY.ok (K : PySem.W.Frag) (d : DefY) : Bool := PySem.W.keepIn K (.ref (d.ad K)) && ((K.lookup (d.ad K)).elim false fun o => match o.data with
  | .func fd => PySem.W.codeIn K fd.code d.qual && (He.dflB K fd.defaults (d.dvs K) && He.kwdB K fd.kwdefaults (d.kws K))
  | _ => false)
def obsZ (fb : List (PySem.W.Frag → Bool)) (fn : List DefY) (K : PySem.W.Frag) : He.AlD := ((fb.all fun f => f K) && fn.all fun d => d.ok K, fn.map fun d => fnY K (d.ad K))
def valZ (fn : List DefY) : He.AlD := (true, fn.map DefY.val)
def SaysZ (fb : List (PySem.W.Frag → Bool)) (fn : List DefY) (K : PySem.W.Frag) : Prop := obsZ fb fn K = valZ fn
def frZ (n : Nat) (g : Addr → Option Obj) : PySem.W.Frag := He.frG g (sysModules :: He.asD g n)
def hookZ (n : Nat) (fb : List (PySem.W.Frag → Bool)) (fn : List DefY) : PySem.W.Hook where
  α := He.AlD
  obs := fun s => obsZ fb fn (frZ n s.heap.get?)
  val := fun _ => valZ fn
  says := fun _ h => ∃ K : PySem.W.Frag, K.In h ∧ SaysZ fb fn K
  of := fun _ _ e => ⟨_, He.frG_in, e⟩
  keeps := fun _ _ _ ⟨K, hK, c⟩ k => ⟨K, PySem.W.Frag.In.keeps hK k, c⟩
def obZ (n : Nat) (fb : List (PySem.W.Frag → Bool)) (fn : List DefY) (s : PySem.W.SharedT) : He.AlD := obsZ fb fn (frZ n (HandSHeadRun.getT s))
def gA (x : Str) (K : PySem.W.Frag) : Addr := He.ga K x
def cA (x m : Str) (K : PySem.W.Frag) : Addr := He.ma K (He.ga K x) m
def pA (x m : Str) (K : PySem.W.Frag) : Addr := match PySem.W.recIn K (cA x m K) "property" with
  | some (.ref g :: _) => g
  | _ => 0
def kA (x f m : Str) (K : PySem.W.Frag) : Addr := match K.lookup (cA x f K) with
  | some ⟨_, _, .func fd, _⟩ => (match fd.kwdefaults with
    | .ref D => (match PySem.W.nsIn K D m with
      | some (some (.ref a)) => a
      | _ => 0)
    | _ => 0)
  | _ => 0
def fProp (x m : Str) (K : PySem.W.Frag) : Bool := decide (PySem.W.findIn K (.ref (He.ga K x)) m = some (some (.ref (cA x m K)))) && (decide (PySem.W.specialIn K (.ref (cA x m K)) "__get__" = some (some (.builtin "property.__get__"))) &&
  (decide (PySem.W.takesIn K (.ref (cA x m K)) = some true) && (match PySem.W.recIn K (cA x m K) "property" with
    | some (.ref g :: _) => decide (g = pA x m K)
    | _ => false)))
def fTy (x : Str) (K : PySem.W.Frag) : Bool := decide (PySem.W.findIn K (.ref (He.ga K x)) "__class__" = some (some (.builtin "object.__class__"))) && (decide (PySem.W.specialIn K (.builtin "object.__class__") "__get__" = some (some (.builtin "getset_descriptor.__get__"))) &&
  (decide (PySem.W.takesIn K (.builtin "object.__class__") = some true) && (decide (PySem.W.mroIn K (He.ga K x) (.type "object") = some true) && ((PySem.W.clsIn K (He.ga K x)).isSome && PySem.W.typeIn K (.ref (He.ga K x)) == some (.type "type")))))
def fNe (x : Str) (K : PySem.W.Frag) : Bool := decide (PySem.W.findIn K (.ref (He.ga K x)) "__ne__" = some (some (.builtin "object.__ne__")))
def fNil (a : PySem.W.Frag → Addr) (K : PySem.W.Frag) : Bool := match K.lookup (a K) with
  | some ⟨.type c, _, .seq its _, _⟩ => decide (c = "tuple") && decide (its.size = 0)
  | _ => false
abbrev noObj : Obj := { cls := .none, data := .fields #[] }
def sA (x m : Str) (K : PySem.W.Frag) : Addr := match PySem.W.recIn K (cA x m K) "property" with
  | some (_ :: .ref g :: _) => g
  | _ => 0
def fPset (x m : Str) (K : PySem.W.Frag) : Bool := decide (PySem.W.takerIn K (He.ga K x) m = some (some (.ref (cA x m K)))) && (decide (PySem.W.typeIn K (.ref (cA x m K)) = some (.type "property")) &&
  (match PySem.W.recIn K (cA x m K) "property" with
    | some (_ :: .ref g :: _) => decide (g = sA x m K)
    | _ => false))
def fFn (x m : Str) (K : PySem.W.Frag) : Bool := PySem.W.fnIn K (cA x m K)
def fnC (K : PySem.W.Frag) (a : Addr) : He.FnW := (K.lookup a).bind fun o => match o.data with
  | .func g => some (g.name, g.qualname, g.params, g.body, g.scope, g.globals, [], g.builtins)
  | _ => none
def obsC (fb : List (PySem.W.Frag → Bool)) (fn fc : List DefY) (K : PySem.W.Frag) : He.AlD := ((fb.all fun f => f K) && fn.all fun d => d.ok K, (fn.map fun d => fnY K (d.ad K)) ++ fc.map fun d => fnC K (d.ad K))
def valC (fn fc : List DefY) : He.AlD := (true, fn.map DefY.val ++ fc.map DefY.val)
def SaysC (fb : List (PySem.W.Frag → Bool)) (fn fc : List DefY) (K : PySem.W.Frag) : Prop := obsC fb fn fc K = valC fn fc
def frC (n : Nat) (g : Addr → Option Obj) : PySem.W.Frag := He.frG g (cStatics :: sysModules :: He.asD g n)
def hookC (n : Nat) (fb : List (PySem.W.Frag → Bool)) (fn fc : List DefY) : PySem.W.Hook where
  α := He.AlD
  val := fun _ => valC fn fc
  obs := fun t => obsC fb fn fc (frC n t.heap.get?)
  says := fun _ h => ∃ K : PySem.W.Frag, K.In h ∧ SaysC fb fn fc K
  keeps := fun _ _ _ ⟨K, i, c⟩ k => ⟨K, i.keeps k, c⟩
  of := fun _ _ e => ⟨_, He.frG_in, e⟩
def obC (n : Nat) (fb : List (PySem.W.Frag → Bool)) (fn fc : List DefY) (s : PySem.W.SharedT) : He.AlD := obsC fb fn fc (frC n (HandSHeadRun.getT s))
def oexB (K : PySem.W.Frag) (C : Addr) : Bool := match K.lookup C with
  | some ⟨.type t, _, .cls c, sl⟩ => (match c.mro, sl.toList with
    | .ref D :: bm, [_, _, _, _, some (.builtin m), _] => (decide (t = "type") && (decide (D = C) && decide (m = "ValueError.__new__"))) && (PySem.HandSPX.refsVE bm && (c.hasDict && !c.hasDel))
    | _, _ => false)
  | _ => false
def oexA (x : Str) (K : PySem.W.Frag) : Bool := oexB K (He.ga K x) && (decide (PySem.W.findIn K (.ref (He.ga K x)) "__setattr__" = some (some (.builtin "object.__setattr__"))) && (decide (PySem.W.subIn K (.ref (He.ga K x)) (.type "BaseException") = some true) &&
  (decide (PySem.W.typeIn K (.ref (He.ga K x)) = some (.type "type")) && PySem.W.keepIn K (.ref (He.ga K x)))))
def excA (x fld : Str) (K : PySem.W.Frag) : Bool := xfB K (He.ga K x) && (decide (PySem.W.findIn K (.ref (He.ga K x)) "__class__" = some (some (.builtin "object.__class__"))) && (decide (PySem.W.specialIn K (.builtin "object.__class__") "__get__" = some (some (.builtin "getset_descriptor.__get__"))) &&
  (decide (PySem.W.takesIn K (.builtin "object.__class__") = some true) && (decide (PySem.W.mroIn K (He.ga K x) (.type "object") = some true) && (decide (PySem.W.findIn K (.ref (He.ga K x)) fld = some none) &&
  (decide (PySem.W.exmOne K (.ref (He.ga K x)) (.ref (He.ga K x)) = some true) && decide (PySem.W.kitOne K (.ref (He.ga K x)) (.type "ValueError") = some true)))))))
def fileB (K : PySem.W.Frag) (cd : Value) (file : Str) : Bool := match cd with
  | .ref a => (match K.lookup a with
    | some ⟨_, _, .fields vs, _⟩ => (match (vs[2]? : Option Value) with
      | some (.str z _) => file == z
      | _ => false)
    | _ => false)
  | _ => false
def cloB (K : PySem.W.Frag) (clo : List (Str × Addr)) (C : Addr) : Bool := match clo with
  | [(n, c)] => decide (n = "__class__") && (match K.lookup c with
    | some ⟨_, _, .cell (some (.ref D)), _⟩ => decide (D = C)
    | _ => false)
  | _ => false
def supA (x qual fld file : Str) (K : PySem.W.Frag) : Bool := (match K.lookup (cA x "__init__" K) with
    | some ⟨_, _, .func g, _⟩ => PySem.W.codeIn K g.code qual && (fileB K g.code file && (cloB K g.closure (gA x K) && decide (g.defaults = .none)))
    | _ => false) &&
  (decide (PySem.W.ks_superIn K (gA x K) (gA x K) "__init__" = some (some (.builtin "ValueError.__init__"))) && (decide (PySem.W.subIn K (.ref (gA x K)) (.type "ValueError") = some true) && (decide (PySem.W.nsIn K cStatics "thirdparty.any" = some none) &&
  (decide (PySem.W.nsIn K mainGlobals "super" = some none) && (decide (PySem.W.findIn K (.ref (gA x K)) fld = some none) && (decide (PySem.W.mroIn K (gA x K) (.ref (gA x K)) = some true) &&
  (decide (PySem.W.findIn K (.ref (gA x K)) "__init__" = some (some (.ref (cA x "__init__" K)))) && decide (PySem.W.typeIn K (.ref (cA x "__init__" K)) = some (.type "function")))))))))
abbrev AlCT : Type := He.AlD × List (Option (List (Option (Str × Int))))
def obsCT (fb : List (PySem.W.Frag → Bool)) (fn fc : List DefY) (ts : List He.Tab) (K : PySem.W.Frag) : AlCT := (obsC fb fn fc K, ts.map fun t => He.dicW K (t.1 K))
def valCT (fn fc : List DefY) (ts : List He.Tab) (w : World) : AlCT := (valC fn fc, ts.map fun t => some (He.keysIn w.params t.2))
def SaysCT (fb : List (PySem.W.Frag → Bool)) (fn fc : List DefY) (ts : List He.Tab) (w : World) (K : PySem.W.Frag) : Prop := obsCT fb fn fc ts K = valCT fn fc ts w
def hookCT (n : Nat) (fb : List (PySem.W.Frag → Bool)) (fn fc : List DefY) (ts : List He.Tab) : PySem.W.Hook where
  α := AlCT
  val := fun w => valCT fn fc ts w
  obs := fun t => obsCT fb fn fc ts (frC n t.heap.get?)
  says := fun w h => ∃ K : PySem.W.Frag, K.In h ∧ SaysCT fb fn fc ts w K
  keeps := fun _ _ _ ⟨K, i, c⟩ k => ⟨K, i.keeps k, c⟩
  of := fun _ _ e => ⟨_, He.frG_in, e⟩
def obCT (n : Nat) (fb : List (PySem.W.Frag → Bool)) (fn fc : List DefY) (ts : List He.Tab) (s : PySem.W.SharedT) : AlCT := obsCT fb fn fc ts (frC n (HandSHeadRun.getT s))
def valsV (kvs : List (Str × V)) (a : PySem.W.Frag → Addr) (K : PySem.W.Frag) : Bool := kvs.all fun q => match PySem.W.nsIn K (a K) q.1 with
  | some (some u) => He.relB q.2 u
  | _ => false
def cdOf (K : PySem.W.Frag) (f : Addr) : Addr := match K.lookup f with
  | some ⟨_, _, .func fd, _⟩ => (match fd.code with
    | .ref c => c
    | _ => 0)
  | _ => 0
def cTb (K : PySem.W.Frag) (f : PySem.W.Frag → Addr) : Addr × Addr := (cdOf K (f K), He.tabOf K (cdOf K (f K)))
def tabsOk (g : Addr → Option Obj) (tf : List (PySem.W.Frag → Addr)) (K : PySem.W.Frag) : Bool := (tf.all fun f => PySem.W.codeHdIn K (cTb K f).1 (cTb K f).2 && (match g (cTb K f).2 with
  | some o => He.emptyTab o
  | none => false)) && decide ((tf.map fun f => (cTb K f).2).Nodup)
abbrev AlL : Type := AlCT × Bool
def frL (n : Nat) (g : Addr → Option Obj) : PySem.W.Frag := He.frT g (cStatics :: sysModules :: He.asD g n)
def obsLK (fb : List (PySem.W.Frag → Bool)) (fn fc : List DefY) (ts : List He.Tab) (tf : List (PySem.W.Frag → Addr)) (g : Addr → Option Obj) (K : PySem.W.Frag) : AlL := (obsCT fb fn fc ts K, tabsOk g tf K)
structure SaysL (fb : List (PySem.W.Frag → Bool)) (fn fc : List DefY) (ts : List He.Tab) (tf : List (PySem.W.Frag → Addr)) (w : World) (h : Heap) (K : PySem.W.Frag) : Prop where
  ct : SaysCT fb fn fc ts w K
  hd : ∀ f ∈ tf, PySem.W.codeHdIn K (cTb K f).1 (cTb K f).2 = true
  out : ∀ f ∈ tf, K.lookup (cTb K f).2 = none
  emp : ∀ f ∈ tf, h.get? (cTb K f).2 = some noObj
  nd : (tf.map fun f => (cTb K f).2).Nodup
theorem saysL_of {n : Nat} {fb : List (PySem.W.Frag → Bool)} {fn fc : List DefY} {ts : List He.Tab} {tf : List (PySem.W.Frag → Addr)} {w : World} {h : Heap} (e : obsLK fb fn fc ts tf h.get? (frL n h.get?) = (valCT fn fc ts w, true)) : SaysL fb fn fc ts tf w h (frL n h.get?) := by
  have e1 : obsCT fb fn fc ts (frL n h.get?) = valCT fn fc ts w := congrArg (fun z : AlL => z.1) e
  have e2 : tabsOk h.get? tf (frL n h.get?) = true := congrArg (fun z : AlL => z.2) e
  obtain ⟨h1, h2⟩ := He.ba e2
  have key : ∀ f ∈ tf, PySem.W.codeHdIn (frL n h.get?) (cTb (frL n h.get?) f).1 (cTb (frL n h.get?) f).2 = true ∧ ∃ o, h.get? (cTb (frL n h.get?) f).2 = some o ∧ He.emptyTab o = true := fun f hf => by
    obtain ⟨h3, h4⟩ := He.ba (List.all_eq_true.mp h1 f hf)
    cases q : h.get? (cTb (frL n h.get?) f).2 with
    | none => rw [q] at h4; cases h4
    | some o => rw [q] at h4; exact ⟨h3, o, rfl, h4⟩
  refine ⟨e1, fun f hf => (key f hf).1, fun f hf => ?_, fun f hf => ?_, of_decide_eq_true h2⟩
  · obtain ⟨_, o, q, z⟩ := key f hf
    exact He.frT_none q z
  · obtain ⟨_, o, q, z⟩ := key f hf
    rw [q, He.emptyTab_eq z]
def hookL (n : Nat) (fb : List (PySem.W.Frag → Bool)) (fn fc : List DefY) (ts : List He.Tab) (tf : List (PySem.W.Frag → Addr)) : PySem.W.Hook where
  α := AlL
  val := fun w => (valCT fn fc ts w, true)
  obs := fun t => obsLK fb fn fc ts tf t.heap.get? (frL n t.heap.get?)
  says := fun w h => ∃ K : PySem.W.Frag, K.In h ∧ SaysL fb fn fc ts tf w h K
  keeps := fun _ _ _ ⟨K, i, c⟩ k => ⟨K, i.keeps k, ⟨c.ct, c.hd, c.out, fun f hf => k _ _ (c.emp f hf), c.nd⟩⟩
  of := fun _ _ e => ⟨_, He.frT_in, saysL_of e⟩
def obL (n : Nat) (fb : List (PySem.W.Frag → Bool)) (fn fc : List DefY) (ts : List He.Tab) (tf : List (PySem.W.Frag → Addr)) (s : PySem.W.SharedT) : AlL := obsLK fb fn fc ts tf (HandSHeadRun.getT s) (frL n (HandSHeadRun.getT s))
def frRL (n : Nat) (g : Addr → Option Obj) : PySem.W.Frag := He.frT g (List.range n)
theorem saysRL_of {n : Nat} {fb : List (PySem.W.Frag → Bool)} {fn fc : List DefY} {ts : List He.Tab} {tf : List (PySem.W.Frag → Addr)} {w : World} {h : Heap} (e : obsLK fb fn fc ts tf h.get? (frRL n h.get?) = (valCT fn fc ts w, true)) : SaysL fb fn fc ts tf w h (frRL n h.get?) := by
  have e1 : obsCT fb fn fc ts (frRL n h.get?) = valCT fn fc ts w := congrArg (fun z : AlL => z.1) e
  have e2 : tabsOk h.get? tf (frRL n h.get?) = true := congrArg (fun z : AlL => z.2) e
  obtain ⟨h1, h2⟩ := He.ba e2
  have key : ∀ f ∈ tf, PySem.W.codeHdIn (frRL n h.get?) (cTb (frRL n h.get?) f).1 (cTb (frRL n h.get?) f).2 = true ∧ ∃ o, h.get? (cTb (frRL n h.get?) f).2 = some o ∧ He.emptyTab o = true := fun f hf => by
    obtain ⟨h3, h4⟩ := He.ba (List.all_eq_true.mp h1 f hf)
    cases q : h.get? (cTb (frRL n h.get?) f).2 with
    | none => rw [q] at h4; cases h4
    | some o => rw [q] at h4; exact ⟨h3, o, rfl, h4⟩
  refine ⟨e1, fun f hf => (key f hf).1, fun f hf => ?_, fun f hf => ?_, of_decide_eq_true h2⟩
  · obtain ⟨_, o, q, z⟩ := key f hf
    exact He.frT_none q z
  · obtain ⟨_, o, q, z⟩ := key f hf
    rw [q, He.emptyTab_eq z]
def hookRL (n : Nat) (fb : List (PySem.W.Frag → Bool)) (fn fc : List DefY) (ts : List He.Tab) (tf : List (PySem.W.Frag → Addr)) : PySem.W.Hook where
  α := AlL
  val := fun w => (valCT fn fc ts w, true)
  obs := fun t => obsLK fb fn fc ts tf t.heap.get? (frRL n t.heap.get?)
  says := fun w h => ∃ K : PySem.W.Frag, K.In h ∧ SaysL fb fn fc ts tf w h K
  keeps := fun _ _ _ ⟨K, i, c⟩ k => ⟨K, i.keeps k, ⟨c.ct, c.hd, c.out, fun f hf => k _ _ (c.emp f hf), c.nd⟩⟩
  of := fun _ _ e => ⟨_, He.frT_in, saysRL_of e⟩
def obRL (n : Nat) (fb : List (PySem.W.Frag → Bool)) (fn fc : List DefY) (ts : List He.Tab) (tf : List (PySem.W.Frag → Addr)) (s : PySem.W.SharedT) : AlL := obsLK fb fn fc ts tf (HandSHeadRun.getT s) (frRL n (HandSHeadRun.getT s))
def oexEB (K : PySem.W.Frag) (C : Addr) (newId : String) (tl : List Value) : Bool := match K.lookup C with
  | some ⟨.type t, _, .cls c, sl⟩ => (match c.mro, sl.toList with
    | .ref D :: bm, [_, _, _, _, some (.builtin m), _] => (decide (t = "type") && (decide (D = C) && decide (m = newId))) && (bm == tl && (c.hasDict && !c.hasDel))
    | _, _ => false)
  | _ => false
def oexEA (x : Str) (newId : String) (tl : List Value) (K : PySem.W.Frag) : Bool := oexEB K (gA x K) newId tl && (decide (PySem.W.findIn K (.ref (gA x K)) "__setattr__" = some (some (.builtin "object.__setattr__"))) && (decide (PySem.W.subIn K (.ref (gA x K)) (.type "BaseException") = some true) &&
  (decide (PySem.W.typeIn K (.ref (gA x K)) = some (.type "type")) && PySem.W.keepIn K (.ref (gA x K)))))
def excX (x : Str) (K : PySem.W.Frag) : Bool := xfB K (gA x K) && (decide (PySem.W.findIn K (.ref (gA x K)) "__class__" = some (some (.builtin "object.__class__"))) && (decide (PySem.W.specialIn K (.builtin "object.__class__") "__get__" = some (some (.builtin "getset_descriptor.__get__"))) &&
  (decide (PySem.W.takesIn K (.builtin "object.__class__") = some true) && decide (PySem.W.mroIn K (gA x K) (.type "object") = some true))))
def supEA (x qual : Str) (flds : List Str) (B initId : String) (file : Str) (K : PySem.W.Frag) : Bool := (match K.lookup (cA x "__init__" K) with
    | some ⟨_, _, .func g, _⟩ => PySem.W.codeIn K g.code qual && (fileB K g.code file && (cloB K g.closure (gA x K) && decide (g.defaults = .none)))
    | _ => false) &&
  (decide (PySem.W.ks_superIn K (gA x K) (gA x K) "__init__" = some (some (.builtin initId))) && (decide (PySem.W.subIn K (.ref (gA x K)) (.type B) = some true) && (decide (PySem.W.nsIn K cStatics "thirdparty.any" = some none) &&
  (decide (PySem.W.nsIn K mainGlobals "super" = some none) && ((flds.all fun f => decide (PySem.W.findIn K (.ref (gA x K)) f = some none)) && (decide (PySem.W.mroIn K (gA x K) (.ref (gA x K)) = some true) &&
  (decide (PySem.W.findIn K (.ref (gA x K)) "__init__" = some (some (.ref (cA x "__init__" K)))) && decide (PySem.W.typeIn K (.ref (cA x "__init__" K)) = some (.type "function")))))))))
end Ys
namespace LW
open PySem PySem.Spec PyProof.Rows L2 Ys
abbrev P0 : Program := PySem.Challenge.pw_fewhands_k26_plans_that_books_refuse
def top (i : Nat) : Stmt := P0.main.body.getD i (.Pass ⟨0, 0, 0, 0⟩)
def inner : Stmt → Nat → Stmt
  | .ClassDef _ _ _ body _ _ _ _ _ _ _, j => (body.filter fun y => match y with | .FunctionDef .. => true | _ => false).getD j (.Pass ⟨0, 0, 0, 0⟩)
  | s, _ => s
abbrev s_wall : Stmt := top 0
abbrev s_is_word : Stmt := top 22
abbrev s_is_integer : Stmt := top 23
abbrev s_is_within : Stmt := top 24
abbrev s_is_list : Stmt := top 25
abbrev s_are_words : Stmt := top 26
abbrev s_are_different_words : Stmt := top 27
abbrev s_ascending : Stmt := top 28
abbrev s_is_formed : Stmt := top 33
abbrev s_wrong_part : Stmt := top 34
abbrev s_sequence : Stmt := top 35
abbrev s_alongside : Stmt := top 36
abbrev s_normal_form : Stmt := top 37
abbrev s_normal : Stmt := top 38
abbrev s_name_list : Stmt := top 39
abbrev s_names_in : Stmt := top 40
abbrev s_world_choices : Stmt := top 41
abbrev s_choices : Stmt := top 42
abbrev s_plan_text : Stmt := top 43
abbrev s_PlanReader_init : Stmt := (inner (top 44) 0)
abbrev s_PlanReader_sign : Stmt := (inner (top 44) 1)
abbrev s_PlanReader_mark : Stmt := (inner (top 44) 2)
abbrev s_PlanReader_word : Stmt := (inner (top 44) 3)
abbrev s_PlanReader_begin : Stmt := (inner (top 44) 4)
abbrev s_PlanReader_close : Stmt := (inner (top 44) 5)
abbrev s_PlanReader_go_on : Stmt := (inner (top 44) 6)
abbrev s_PlanReader_whole : Stmt := (inner (top 44) 7)
abbrev s_read_plan : Stmt := top 45
abbrev s_Task_init : Stmt := (inner (top 47) 0)
abbrev s_Task_role : Stmt := (inner (top 47) 1)
abbrev s_Task_many : Stmt := (inner (top 47) 2)
abbrev s_Task_other : Stmt := (inner (top 47) 3)
abbrev s_Task_same : Stmt := (inner (top 47) 4)
abbrev s_Task_takes : Stmt := (inner (top 47) 5)
abbrev s_Task_forgets : Stmt := (inner (top 47) 6)
abbrev s_Task_likeness : Stmt := (inner (top 47) 7)
abbrev s_Task_eq : Stmt := (inner (top 47) 8)
abbrev s_remembered_in : Stmt := top 48
abbrev s_width_of : Stmt := top 49
abbrev s_need_tasks : Stmt := top 50
abbrev s_task_line : Stmt := top 51
abbrev s_is_ascending : Stmt := top 55
abbrev s_sections : Stmt := top 56
abbrev s_task_in : Stmt := top 57
abbrev s_kind_in : Stmt := top 58
abbrev s_count_in : Stmt := top 59
abbrev s_depth_in : Stmt := top 60
abbrev s_plan_in : Stmt := top 61
abbrev s_is_bounded : Stmt := top 62
abbrev s_is_next : Stmt := top 63
abbrev s_parts_of_book : Stmt := top 64
abbrev s_are_kinds : Stmt := top 66
abbrev s_are_tasks : Stmt := top 67
abbrev s_count_names : Stmt := top 68
abbrev s_levels_of : Stmt := top 69
abbrev s_plan_for : Stmt := top 70
abbrev s_in_order : Stmt := top 71
abbrev s_Book_init : Stmt := (inner (top 72) 0)
abbrev s_Book_read : Stmt := (inner (top 72) 1)
abbrev s_Book_kinds : Stmt := (inner (top 72) 2)
abbrev s_Book_names : Stmt := (inner (top 72) 3)
abbrev s_Book_remembered : Stmt := (inner (top 72) 4)
abbrev s_Book_width : Stmt := (inner (top 72) 5)
abbrev s_Book_plan : Stmt := (inner (top 72) 6)
abbrev s_Book_plan_set : Stmt := (inner (top 72) 7)
abbrev s_Book_set_plan : Stmt := (inner (top 72) 8)
abbrev s_Book_take : Stmt := (inner (top 72) 9)
abbrev s_Book_copied : Stmt := (inner (top 72) 10)
abbrev s_Book_text : Stmt := (inner (top 72) 11)
abbrev s_Book_changed : Stmt := (inner (top 72) 12)
abbrev s_Book_iter : Stmt := (inner (top 72) 13)
abbrev s_Book_len : Stmt := (inner (top 72) 14)
abbrev s_Book_contains : Stmt := (inner (top 72) 15)
abbrev s_Book_getitem : Stmt := (inner (top 72) 16)
abbrev s_Book_setitem : Stmt := (inner (top 72) 17)
abbrev s_Book_ior : Stmt := (inner (top 72) 18)
abbrev s_Book_add : Stmt := (inner (top 72) 19)
abbrev s_Book_or : Stmt := (inner (top 72) 20)
abbrev s_Book_eq : Stmt := (inner (top 72) 21)
abbrev s_joined : Stmt := top 73
abbrev s_law_pen : Stmt := top 75
abbrev s_law_draw : Stmt := top 76
abbrev s_law_pick : Stmt := top 77
abbrev s_law_row : Stmt := top 78
abbrev s_law_two : Stmt := top 79
abbrev s_law_form : Stmt := top 80
abbrev s_law_names : Stmt := top 81
abbrev s_law_told : Stmt := top 82
abbrev s_law_levels : Stmt := top 83
abbrev s_law_due : Stmt := top 84
abbrev s_law_tall : Stmt := top 85
abbrev s_law : Stmt := top 86
def leastL : List (Str × V) := [("then", .int 0), ("either", .int 1), ("any", .int 1), ("again", .int 1), ("beside", .int 2)]
def mostL : List (Str × V) := [("then", .non), ("either", .non), ("any", .non), ("again", .int 1), ("beside", .int 2)]
abbrev PR : Program := (PySem.Challenge.rw_fewhands_k26_plans_that_books_refuse).prog
abbrev s_x0 : Stmt := inner (top 5) 0
def dSup0 : DefY := ⟨cA "InvalidPlan" "__init__", "__init__", "InvalidPlan.__init__", defArgs s_x0, defBody s_x0, defScope s_x0, [], []⟩
abbrev s_x1 : Stmt := inner (top 10) 0
def dSup1 : DefY := ⟨cA "TooMany" "__init__", "__init__", "TooMany.__init__", defArgs s_x1, defBody s_x1, defScope s_x1, [], []⟩
abbrev s_x2 : Stmt := inner (top 9) 0
def dSup2 : DefY := ⟨cA "UnknownTask" "__init__", "__init__", "UnknownTask.__init__", defArgs s_x2, defBody s_x2, defScope s_x2, [], []⟩
def fb : List (PySem.W.Frag → Bool) := [sysB, fun K => He.Fa.ok K (.glo "is_word"), fun K => He.Fa.ok K (.glo "is_integer"), fun K => He.Fa.ok K (.glo "is_within"), fun K => He.Fa.ok K (.glo "is_list"), fun K => He.Fa.ok K (.glo "are_words"), fun K => He.Fa.ok K (.glo "are_different_words"), fun K => He.Fa.ok K (.glo "ascending"), fun K => He.Fa.ok K (.glo "is_formed"), fun K => He.Fa.ok K (.glo "wrong_part"), fun K => He.Fa.ok K (.glo "sequence"), fun K => He.Fa.ok K (.glo "alongside"), fun K => He.Fa.ok K (.glo "normal_form"), fun K => He.Fa.ok K (.glo "normal"), fun K => He.Fa.ok K (.glo "name_list"), fun K => He.Fa.ok K (.glo "names_in"), fun K => He.Fa.ok K (.glo "world_choices"), fun K => He.Fa.ok K (.glo "choices"), fun K => He.Fa.ok K (.glo "remembered_in"), fun K => He.Fa.ok K (.glo "width_of"), fun K => He.Fa.ok K (.glo "need_tasks"), fun K => He.Fa.ok K (.glo "are_kinds"), fun K => He.Fa.ok K (.glo "are_tasks"), fun K => He.Fa.ok K (.glo "count_names"), fun K => He.Fa.ok K (.glo "levels_of"), fun K => He.Fa.ok K (.glo "plan_for"), fun K => He.Fa.ok K (.glo "in_order"), fun K => He.Fa.ok K (.glo "_law_pen"), fun K => He.Fa.ok K (.glo "_law_draw"), fun K => He.Fa.ok K (.glo "_law_pick"), fun K => He.Fa.ok K (.glo "_law_row"), fun K => He.Fa.ok K (.glo "_law_two"), fun K => He.Fa.ok K (.glo "_law_form"), fun K => He.Fa.ok K (.glo "_law_names"), fun K => He.Fa.ok K (.glo "_law_told"), fun K => He.Fa.ok K (.glo "_law_levels"), fun K => He.Fa.ok K (.glo "_law_due"), fun K => He.Fa.ok K (.glo "_law_tall"), fun K => He.Fa.ok K (.glo "law"), fun K => He.Fa.ok K (.glo "InvalidPlan"), fun K => He.Fa.ok K (.glo "TooMany"), fun K => He.Fa.ok K (.glo "UnknownTask"), fun K => He.Fa.ok K (.glo "DONE"), fun K => He.Fa.ok K (.glo "LEAST"), fun K => He.Fa.ok K (.glo "MOST"), fun K => He.Fa.ok K (.glo "Task"), fun K => He.Fa.ok K (.glo "Book"), fun K => He.Fa.ok K (.free "len"), fun K => He.Fa.ok K (.free "int"), fun K => He.Fa.ok K (.free "list"), fun K => He.Fa.ok K (.free "tuple"), fun K => He.Fa.ok K (.free "set"), fun K => He.Fa.ok K (.free "dict"), fun K => He.Fa.ok K (.free "str"), fun K => He.Fa.ok K (.free "bool"), fun K => He.Fa.ok K (.free "sorted"), fun K => He.Fa.ok K (.free "min"), fun K => He.Fa.ok K (.free "max"), fun K => He.Fa.ok K (.free "sum"), fun K => He.Fa.ok K (.free "all"), fun K => He.Fa.ok K (.free "any"), fun K => He.Fa.ok K (.free "repr"), fun K => He.Fa.ok K (.free "range"), fun K => He.Fa.ok K (.free "isinstance"), fun K => He.Fa.ok K (.free "OverflowError"), fun K => He.Fa.ok K (.free "LookupError"), fun K => He.Fa.ok K (.str "LETTERS" "abcdefghijklmnopqrstuvwxyz"), fun K => He.Fa.ok K (.int "LONGEST_WORD" 8), fun K => He.Fa.ok K (.int "KINDS" 3), fun K => He.Fa.ok K (.int "ROLES" 4), fun K => He.Fa.ok K (.int "TASKS" 8), fun K => He.Fa.ok K (.int "REMEMBERED" 3), fun K => He.Fa.ok K (.int "WIDTH" 5), fun K => He.Fa.ok K (.int "MANY" 3), fun K => He.Fa.ok K (.int "NAMES" 16), fun K => He.Fa.ok K (.int "LEVELS" 5), fun K => He.tupB K "DONE" [.str "then"], valsV leastL (gA "LEAST"), valsV mostL (gA "MOST"), fun K => He.Fa.ok K (.cls "Task"), fun K => He.Fa.ok K (.cls "Book"), fun K => He.Fa.ok K (.noat "Task" "own_role"), fun K => He.Fa.ok K (.noat "Task" "own_many"), fun K => He.Fa.ok K (.noat "Task" "own_other"), fun K => He.Fa.ok K (.noat "Task" "own_same"), fun K => He.Fa.ok K (.noat "Task" "own_takes"), fun K => He.Fa.ok K (.noat "Task" "own_forgets"), fun K => He.Fa.ok K (.noat "Book" "own_plan"), fun K => He.Fa.ok K (.noat "Book" "own_kinds"), fun K => He.Fa.ok K (.noat "Book" "own_tasks"), fun K => He.Fa.ok K (.mkr "Task"), fun K => He.Fa.ok K (.mkr "Book"), fProp "Task" "many", fProp "Task" "other", fProp "Task" "same", fProp "Task" "takes", fTy "Task", fNil (kA "Task" "__init__" "other"), fNil (kA "Task" "__init__" "same"), fNil (kA "Task" "__init__" "takes"), fNil (kA "Task" "__init__" "forgets"), excA "InvalidPlan" "value", oexA "InvalidPlan", supA "InvalidPlan" "InvalidPlan.__init__" "value" PR.main.file, excX "TooMany", oexEA "TooMany" "OverflowError.__new__" [.type "OverflowError", .type "ArithmeticError", .type "Exception", .type "BaseException", .type "object"], supEA "TooMany" "TooMany.__init__" ["limit"] "OverflowError" "OverflowError.__init__" PR.main.file, fun K => decide (PySem.W.findIn K (.ref (gA "TooMany" K)) "limit" = some none), fun K => decide (PySem.W.kitOne K (.ref (gA "TooMany" K)) (.type "OverflowError") = some true), excX "UnknownTask", oexEA "UnknownTask" "LookupError.__new__" [.type "LookupError", .type "Exception", .type "BaseException", .type "object"], supEA "UnknownTask" "UnknownTask.__init__" ["value"] "LookupError" "LookupError.__init__" PR.main.file, fun K => decide (PySem.W.findIn K (.ref (gA "UnknownTask" K)) "value" = some none), fun K => decide (PySem.W.kitOne K (.ref (gA "UnknownTask" K)) (.type "LookupError") = some true), fun K => decide (PySem.W.exmOne K (.ref (gA "TooMany" K)) (.ref (gA "InvalidPlan" K)) = some false), fun K => decide (PySem.W.exmOne K (.ref (gA "TooMany" K)) (.ref (gA "TooMany" K)) = some true), fun K => decide (PySem.W.exmOne K (.ref (gA "UnknownTask" K)) (.ref (gA "InvalidPlan" K)) = some false), fun K => decide (PySem.W.exmOne K (.ref (gA "UnknownTask" K)) (.ref (gA "TooMany" K)) = some false), fun K => decide (PySem.W.exmOne K (.ref (gA "UnknownTask" K)) (.ref (gA "UnknownTask" K)) = some true), fun K => He.Fa.ok K (.meth "Book" "set_plan"), fPset "Book" "plan", fProp "Book" "plan"]
def fn : List DefY := [⟨gA "is_word", "is_word", "is_word", defArgs s_is_word, defBody s_is_word, defScope s_is_word, [], []⟩, ⟨gA "is_integer", "is_integer", "is_integer", defArgs s_is_integer, defBody s_is_integer, defScope s_is_integer, [], []⟩, ⟨gA "is_within", "is_within", "is_within", defArgs s_is_within, defBody s_is_within, defScope s_is_within, [], []⟩, ⟨gA "is_list", "is_list", "is_list", defArgs s_is_list, defBody s_is_list, defScope s_is_list, [], []⟩, ⟨gA "are_words", "are_words", "are_words", defArgs s_are_words, defBody s_are_words, defScope s_are_words, [.non], []⟩, ⟨gA "are_different_words", "are_different_words", "are_different_words", defArgs s_are_different_words, defBody s_are_different_words, defScope s_are_different_words, [.non], []⟩, ⟨gA "ascending", "ascending", "ascending", defArgs s_ascending, defBody s_ascending, defScope s_ascending, [], []⟩, ⟨gA "is_formed", "is_formed", "is_formed", defArgs s_is_formed, defBody s_is_formed, defScope s_is_formed, [], []⟩, ⟨gA "wrong_part", "wrong_part", "wrong_part", defArgs s_wrong_part, defBody s_wrong_part, defScope s_wrong_part, [], []⟩, ⟨gA "sequence", "sequence", "sequence", defArgs s_sequence, defBody s_sequence, defScope s_sequence, [], []⟩, ⟨gA "alongside", "alongside", "alongside", defArgs s_alongside, defBody s_alongside, defScope s_alongside, [], []⟩, ⟨gA "normal_form", "normal_form", "normal_form", defArgs s_normal_form, defBody s_normal_form, defScope s_normal_form, [], []⟩, ⟨gA "normal", "normal", "normal", defArgs s_normal, defBody s_normal, defScope s_normal, [], []⟩, ⟨gA "name_list", "name_list", "name_list", defArgs s_name_list, defBody s_name_list, defScope s_name_list, [], []⟩, ⟨gA "names_in", "names_in", "names_in", defArgs s_names_in, defBody s_names_in, defScope s_names_in, [], []⟩, ⟨gA "world_choices", "world_choices", "world_choices", defArgs s_world_choices, defBody s_world_choices, defScope s_world_choices, [], []⟩, ⟨gA "choices", "choices", "choices", defArgs s_choices, defBody s_choices, defScope s_choices, [], []⟩, ⟨gA "remembered_in", "remembered_in", "remembered_in", defArgs s_remembered_in, defBody s_remembered_in, defScope s_remembered_in, [], []⟩, ⟨gA "width_of", "width_of", "width_of", defArgs s_width_of, defBody s_width_of, defScope s_width_of, [], []⟩, ⟨gA "need_tasks", "need_tasks", "need_tasks", defArgs s_need_tasks, defBody s_need_tasks, defScope s_need_tasks, [], []⟩, ⟨gA "are_kinds", "are_kinds", "are_kinds", defArgs s_are_kinds, defBody s_are_kinds, defScope s_are_kinds, [], []⟩, ⟨gA "are_tasks", "are_tasks", "are_tasks", defArgs s_are_tasks, defBody s_are_tasks, defScope s_are_tasks, [], []⟩, ⟨gA "count_names", "count_names", "count_names", defArgs s_count_names, defBody s_count_names, defScope s_count_names, [], []⟩, ⟨gA "levels_of", "levels_of", "levels_of", defArgs s_levels_of, defBody s_levels_of, defScope s_levels_of, [], []⟩, ⟨gA "plan_for", "plan_for", "plan_for", defArgs s_plan_for, defBody s_plan_for, defScope s_plan_for, [], []⟩, ⟨gA "in_order", "in_order", "in_order", defArgs s_in_order, defBody s_in_order, defScope s_in_order, [], []⟩, ⟨gA "_law_pen", "_law_pen", "_law_pen", defArgs s_law_pen, defBody s_law_pen, defScope s_law_pen, [], []⟩, ⟨gA "_law_draw", "_law_draw", "_law_draw", defArgs s_law_draw, defBody s_law_draw, defScope s_law_draw, [], []⟩, ⟨gA "_law_pick", "_law_pick", "_law_pick", defArgs s_law_pick, defBody s_law_pick, defScope s_law_pick, [], []⟩, ⟨gA "_law_row", "_law_row", "_law_row", defArgs s_law_row, defBody s_law_row, defScope s_law_row, [], []⟩, ⟨gA "_law_two", "_law_two", "_law_two", defArgs s_law_two, defBody s_law_two, defScope s_law_two, [], []⟩, ⟨gA "_law_form", "_law_form", "_law_form", defArgs s_law_form, defBody s_law_form, defScope s_law_form, [], []⟩, ⟨gA "_law_names", "_law_names", "_law_names", defArgs s_law_names, defBody s_law_names, defScope s_law_names, [], []⟩, ⟨gA "_law_told", "_law_told", "_law_told", defArgs s_law_told, defBody s_law_told, defScope s_law_told, [], []⟩, ⟨gA "_law_levels", "_law_levels", "_law_levels", defArgs s_law_levels, defBody s_law_levels, defScope s_law_levels, [], []⟩, ⟨gA "_law_due", "_law_due", "_law_due", defArgs s_law_due, defBody s_law_due, defScope s_law_due, [], []⟩, ⟨gA "_law_tall", "_law_tall", "_law_tall", defArgs s_law_tall, defBody s_law_tall, defScope s_law_tall, [], []⟩, ⟨gA "law", "law", "law", defArgs s_law, defBody s_law, defScope s_law, [], []⟩, ⟨cA "Task" "__init__", "__init__", "Task.__init__", defArgs s_Task_init, defBody s_Task_init, defScope s_Task_init, [.non], [("many", .int 1), ("other", .adr (kA "Task" "__init__" "other")), ("same", .adr (kA "Task" "__init__" "same")), ("takes", .adr (kA "Task" "__init__" "takes")), ("forgets", .adr (kA "Task" "__init__" "forgets"))]⟩, ⟨pA "Task" "many", "many", "Task.many", defArgs s_Task_many, defBody s_Task_many, defScope s_Task_many, [], []⟩, ⟨pA "Task" "other", "other", "Task.other", defArgs s_Task_other, defBody s_Task_other, defScope s_Task_other, [], []⟩, ⟨pA "Task" "same", "same", "Task.same", defArgs s_Task_same, defBody s_Task_same, defScope s_Task_same, [], []⟩, ⟨pA "Task" "takes", "takes", "Task.takes", defArgs s_Task_takes, defBody s_Task_takes, defScope s_Task_takes, [], []⟩, ⟨cA "Book" "__init__", "__init__", "Book.__init__", defArgs s_Book_init, defBody s_Book_init, defScope s_Book_init, [], []⟩, ⟨cA "Book" "set_plan", "set_plan", "Book.set_plan", defArgs s_Book_set_plan, defBody s_Book_set_plan, defScope s_Book_set_plan, [], []⟩, ⟨sA "Book" "plan", "plan", "Book.plan", defArgs s_Book_plan_set, defBody s_Book_plan_set, defScope s_Book_plan_set, [], []⟩, ⟨pA "Book" "plan", "plan", "Book.plan", defArgs s_Book_plan, defBody s_Book_plan, defScope s_Book_plan, [], []⟩]
def fc : List DefY := [dSup0, dSup1, dSup2]
def ts : List He.Tab := [(gA "LEAST", leastL.map (·.1)), (gA "MOST", mostL.map (·.1))]
abbrev R : PySem.W.OpenRow := PySem.W.OpenLaw.row PySem.Challenge.rw_fewhands_k26_plans_that_books_refuse
def tf : List (PySem.W.Frag → Addr) := [gA "law"]
abbrev hk : PySem.W.Hook := hookRL 3000 fb fn fc ts tf
def loose : List Str := (["_wall", "InvalidTask", "InvalidKinds", "InvalidTasks", "InvalidPlan", "InvalidText", "Clash", "NotSameKinds", "UnknownTask", "TooMany", "KINDS", "ROLES", "TASKS", "REMEMBERED", "WIDTH", "MANY", "NAMES", "LEVELS", "LETTERS", "LONGEST_WORD", "is_word", "is_integer", "is_within", "is_list", "are_words", "are_different_words", "ascending", "DONE", "LEAST", "MOST"] : List Str) ++ (["is_formed", "wrong_part", "sequence", "alongside", "normal_form", "normal", "name_list", "names_in", "world_choices", "choices", "plan_text", "PlanReader", "read_plan", "Task", "remembered_in", "width_of", "need_tasks", "task_line", "TITLES", "NUMBERS", "is_ascending", "sections", "task_in", "kind_in", "count_in", "depth_in", "plan_in", "is_bounded", "is_next", "parts_of_book"] : List Str) ++ (["are_kinds", "are_tasks", "count_names", "levels_of", "plan_for", "in_order", "Book", "joined", "_law_pen", "_law_draw", "_law_pick", "_law_row", "_law_two", "_law_form", "_law_names", "_law_told", "_law_levels", "_law_due", "_law_tall"] : List Str)
theorem runF (w : World) : HandSHeadRun.RunEq R (PySem.W.view R.prog [86]) hk (obRL 3000 fb fn fc ts tf) 14000 loose (w.withFollow "special-get-raises" false) := by
  intro os
  kernel_rfl
theorem runT (w : World) : HandSHeadRun.RunEq R (PySem.W.view R.prog [86]) hk (obRL 3000 fb fn fc ts tf) 14000 loose (w.withFollow "special-get-raises" true) := by
  intro os
  kernel_rfl
theorem run (w : World) : HandSHeadRun.RunEq R (PySem.W.view R.prog [86]) hk (obRL 3000 fb fn fc ts tf) 14000 loose w := PySem.W.byRow2 "special-get-raises" runF runT w
end LW
/-! sets of texts: made of a list or a tuple, counted, sorted -/
namespace Ys
open PySem PySem.Spec PyProof.Rows L2

def TxSet (P : Program) (w : World) (h : Heap) (a : Addr) (l : List Str) : Prop :=
  ∃ D : Froz.SD, h.get? a = some (Froz.sObj "set" D) ∧ Froz.TxOk P w D l ∧ l.Nodup ∧ Ris D.2.2.place.toList ∧ (w.params.followText "set-order" = true ∨ D.2.2.led = true)

section
variable {P : Program} {w : World} {A : Around} {E : Value → Shared → Prop} {s : Shared}

theorem TxSet.same {h h' : Heap} {a : Addr} {l : List Str} (R : TxSet P w h a l) (k : ∀ o, h.get? a = some o → h'.get? a = some o) : TxSet P w h' a l :=
  let ⟨D, e, r⟩ := R
  ⟨D, k _ e, r⟩

theorem tail_tab (ep : Nat) (es : Array (Int × Value)) (t : SetTable) (b : Bool) (r : Ris t.place.toList) : Ris (Froz.tailTx ep es t b).2.2.place.toList ∧ (Froz.tailTx ep es t b).2.2.led = t.led := by
  unfold Froz.tailTx
  by_cases c : (!b && t.tooFull) = true
  · rw [if_pos c]
    exact ⟨relayAll_ris _ _ _, relayAll_led _ _ _⟩
  · rw [if_neg c]
    exact ⟨r, rfl⟩
theorem add_tab (hs : Int) (v : Value) (D : Froz.SD) (r : Ris D.2.2.place.toList) : Ris (Froz.addTx hs v D).2.2.place.toList ∧ (Froz.addTx hs v D).2.2.led = D.2.2.led := by
  have r1 := layNew_ris D.2.2 D.1 hs v r
  have l1 := layNew_led D.2.2 D.1 hs v
  unfold Froz.addTx
  have core : ∀ t : SetTable, Ris t.place.toList → t.led = D.2.2.led → ∀ ep es b, Ris (Froz.tailTx ep es t b).2.2.place.toList ∧ (Froz.tailTx ep es t b).2.2.led = D.2.2.led := fun t h1 h2 ep es b =>
    ⟨(tail_tab ep es t b h1).1, (tail_tab ep es t b h1).2.trans h2⟩
  refine core _ ?_ ?_ _ _ _
  · split
    · exact r1
    · exact r1
  · split
    · exact l1
    · exact l1

theorem add_there {a : Addr} {D : Froz.SD} {l : List Str} {k : Str} {u : Tok} {Q : Bool → Shared → Prop} (ho : s.heap.get? a = some (Froz.sObj "set" D)) (F : Froz.TxOk P w D l) (hk : k ∈ l) (hb : l.length < scanBound)
    (h : Q false s) : wpAny (model P w) A (setAddHashed a (.str k u) (hashStr w k)) Q E s := by
  obtain ⟨es, ep, t⟩ := D
  have e1 : (Froz.sObj "set" (es, ep, t)).data = .set es ep t := rfl
  have e2 : t.fits es.size = true := F.fit
  have e3 : ElemsOf (PySem.strKind P w) es.toList := F.el
  have e4 : es.size < scanBound := by
    have z : es.size = l.length := F.sz
    rw [z]
    exact hb
  have e5 : (PySem.strKind P w).is k (.str k u) = true := Froz.is_str k u
  unfold setAddHashed setAddHashedIn
  refine wpAny_holding (wpAny_bind (wpAny_setState_of ho e1 e2 ?_))
  dsimp only
  rw [byScan_of rfl e4 e3]
  simp only [↓reduceIte]
  unfold setAddByScan
  refine wpAny_bind (wpAny_bind (wpAny_rule (wpAny_bind (wpAny_setScan_of (knd := PySem.strKind P w) (k := k) e5 ho e1 e2 e3 ?_))))
  cases q : List.findIdx? (fun e => (PySem.strKind P w).is k e.2) es.toList with
  | some j =>
    dsimp only
    exact wpAny_pure (wpAny_pure h)
  | none =>
    obtain ⟨e, he, z⟩ := (F.mem k).mp hk
    have y := List.findIdx?_eq_none_iff.mp q e he
    rw [z] at y
    cases y
theorem add_txt {a : Addr} {l : List Str} {k : Str} {u : Tok} {Q : Bool → Shared → Prop} (R : TxSet P w s.heap a l) (hb : l.length + 1 < scanBound)
    (h : ∀ (b : Bool) (h' : Heap) (l' : List Str), Heap.SameBut a s.heap h' → TxSet P w h' a l' → (∀ x, x ∈ l' ↔ x ∈ l ∨ x = k) → l'.length ≤ l.length + 1 → Q b { s with heap := h' }) :
    wpAny (model P w) A (setAddHashed a (.str k u) (hashStr w k)) Q E s := by
  obtain ⟨D, ho, F, nd, r, ld⟩ := R
  by_cases hk : k ∈ l
  · refine add_there ho F hk (by omega) ?_
    refine h false s.heap l (Heap.SameBut.refl a s.heap) ⟨D, ho, F, nd, r, ld⟩ (fun x => ⟨.inl, fun z => z.elim id fun e => e ▸ hk⟩) (Nat.le_succ _)
  · refine Froz.add_x ho F hk hb ?_
    have ex : (s.heap.update a (fun _ => Froz.sObj "set" (Froz.addTx (hashStr w k) (.str k u) D))).get? a = some (Froz.sObj "set" (Froz.addTx (hashStr w k) (.str k u) D)) := Froz.get_upd _ ho rfl
    obtain ⟨t1, t2⟩ := add_tab (hashStr w k) (.str k u) D r
    refine h true _ (k :: l) (Heap.SameBut.update s.heap a _) ⟨_, ex, Froz.add_ok u F, List.nodup_cons.mpr ⟨hk, nd⟩, t1, ?_⟩ (fun x => ?_) (Nat.le_refl _)
    · rw [t2]
      exact ld
    · rw [List.mem_cons]
      exact Or.comm

theorem fill_txt {I : Addr} {fp wr : List Addr} {G : Array GenState → Array GenState → Prop} {n : Nat} {Pv : Nat → Value → Prop} {St : Nat → Shared → Prop} {R : Result → Shared → Prop}
    (W : WalksS P w A.in1 I fp wr G n Pv St) (S : Addr) (hS : S ∉ fp) (xs : List Str) (hn : xs.length = n) (hfew : n + 1 < scanBound) (hval : ∀ i v, Pv i v → ∃ t, v = .str (xs.getD i Str.empty) t) :
    ∀ (k i : Nat) (s : Shared), n - i = k → i ≤ n → St i s → (∃ l, TxSet P w s.heap S l ∧ (∀ x, x ∈ l ↔ x ∈ xs.take i) ∧ l.length ≤ i) →
      (∀ s' l, Moved (S :: wr) G s s' → TxSet P w s'.heap S l → (∀ x, x ∈ l ↔ x ∈ xs) → l.length ≤ n → R (.ok (.ret .none)) s') →
      codeAny (model P w) A (.builtin "set.update.loop" ⟨[.ref S, .ref I], []⟩) R s := by
  have nw : S ∉ wr := fun z => hS (W.sub _ z)
  have sub : ∀ b ∈ wr, b ∈ S :: wr := fun b hb => List.mem_cons_of_mem _ hb
  intro k
  induction k with
  | zero =>
    intro i s hk hi st ⟨l, T, m, len⟩ hR
    obtain rfl : i = n := by omega
    refine codeAny_builtin PyProof.Rows.F.entry_set_update_loop ?_
    rw [Around.under_plainId PyProof.Rows.F.plain_set_update_loop _]
    refine wpAny_bind (W.done s _ _ st fun s' mv => ?_)
    refine wpAny_pure (hR s' l (mv.mono sub) (T.same fun o e => mv.heap S o nw e) (fun x => ?_) len)
    rw [m x, ← hn, List.take_length]
  | succ k ih =>
    intro i s hk hi st ⟨l, T, m, len⟩ hR
    have hlt : i < n := by omega
    refine codeAny_builtin PyProof.Rows.F.entry_set_update_loop ?_
    rw [Around.under_plainId PyProof.Rows.F.plain_set_update_loop _]
    refine wpAny_bind (W.item i s _ _ hlt st fun v s' hv st' mv => ?_)
    obtain ⟨t, rfl⟩ := hval i v hv
    have T' : TxSet P w s'.heap S l := T.same fun o e => mv.heap S o nw e
    refine wpAny_bind (wpAny_holding ?_)
    unfold setAdd
    refine wpAny_holding (wpAny_bind ((PySem.strKind P w).pyHash (k := xs.getD i Str.empty) (strKind_is _ _ _ _) ?_))
    refine add_txt (s := { s' with toks := s'.toks + 1 }) T' (by omega) fun b h' l' hsb T2 m2 len2 => ?_
    have hg : xs[i]? = some (xs.getD i Str.empty) := by
      have : i < xs.length := by omega
      rw [List.getD_eq_getElem?_getD, List.getElem?_eq_getElem this]
      rfl
    refine wpAny_pure ⟨plainId_quiet PyProof.Rows.F.plain_set_update_loop _, ih (i + 1) _ (by omega) hlt (W.frame _ s' _ _ st' (Nat.le_succ _) fun b hb o e => ?_) ⟨l', T2, fun x => ?_, by omega⟩ fun s'' l2 mv'' T'' m'' len'' => ?_⟩
    · rw [hsb.2 b (fun z : b = S => hS (by rw [← z]; exact hb))]
      exact e
    · rw [m2 x, m x, List.take_succ, hg, List.mem_append]
      simp
    · refine hR s'' l2 (Moved.trans W.gtrans ((mv.mono sub).then_heap (Nat.le_succ _) fun b o hb e => ?_) mv'') T'' m'' len''
      rw [hsb.2 b (fun z : b = S => hb (by rw [z]; exact List.mem_cons_self))]
      exact e
end
end Ys
namespace Ys
open PySem PySem.Spec PyProof.Rows L2
section
variable {P : Program} {w : World} {A : Around} {E : Value → Shared → Prop} {s : Shared}
abbrev bare (w : World) : Obj := { cls := .type "set", dict := none, data := .set #[] 0 (.fresh 0 0 (!w.params.followText "set-order")) }
theorem none_from {h : Heap} {b : Addr} (z : h.objs.size ≤ b) : h.get? b = none := by
  cases q : h.get? b with
  | none => rfl
  | some o => exact absurd (Nat.lt_of_lt_of_le (Heap.lt_size q) z) (Nat.lt_irrefl _)
theorem bare_txt {h : Heap} {a : Addr} (e : h.get? a = some (bare w)) : TxSet P w h a [] := by
  refine ⟨(#[], 0, .fresh 0 0 (!w.params.followText "set-order")), e, Froz.TxOk.nil rfl, List.nodup_nil, List.Pairwise.nil, ?_⟩
  show _ ∨ (!w.params.followText "set-order") = true
  cases w.params.followText "set-order"
  · exact .inr rfl
  · exact .inl rfl
structure TxSrc (P : Program) (w : World) (T : String) (l : Addr) (xs : List Str) (h : Heap) : Prop where
  type : ∀ s' : Shared, (∀ b o, h.get? b = some o → s'.heap.get? b = some o) → s'.TypeIs (.ref l) T
  set : isSubtype (.type T) (.type "set") = pure false
  froz : isSubtype (.type T) (.type "frozenset") = pure false
  nd : (Value.type T == Value.type "dict") = false
  lt : l < h.objs.size
  iter : ∀ (A : Around) (s' : Shared) (E : Value → Shared → Prop) (Q : Value → Shared → Prop), (∀ b o, h.get? b = some o → s'.heap.get? b = some o) →
    (∀ it : Obj, (∀ A' : Around, A'.handled = none → l ≠ s'.heap.objs.size → ∃ (Pv : Nat → Value → Prop) (St : Nat → Heap → Prop),
        Walks P w A' s'.heap.objs.size [s'.heap.objs.size, l] [s'.heap.objs.size] xs.length Pv St ∧ (∀ i v, Pv i v → ∃ t, v = .str (xs.getD i Str.empty) t) ∧ St 0 (s'.heap.push it)) →
      Q (.ref s'.heap.objs.size) { s' with heap := s'.heap.push it }) →
    wpAny (model P w) A (pyIter (.ref l)) Q E s'
theorem src_list {l : Addr} {items : Array Value} {xs : List Str} {h : Heap} (hl : h.IsList l items) (hi : StrsAre items.toList xs) : TxSrc P w "list" l xs h where
  type := fun s' k => by
    obtain ⟨o, e, c, _⟩ := hl
    exact ⟨o, k _ _ e, c⟩
  set := F.sub_list_set
  froz := F.sub_list_frozenset
  nd := by decide
  lt := by
    obtain ⟨o, e, _⟩ := hl
    exact Heap.lt_size e
  iter := fun A s' E Q k hQ => by
    have hl' : s'.heap.IsList l items := by
      obtain ⟨o, e, r⟩ := hl
      exact ⟨o, k _ _ e, r⟩
    refine wpAny_pyIter_list hl' (hQ _ fun A' hA ne => ⟨fun i v => items[i]? = some v, fun i z => z.IsListIter s'.heap.objs.size l i ∧ z.IsList l items, ?_, fun i v hv => SS.strs_at hi i v (by rw [Array.getElem?_toList]; exact hv), ⟨⟨_, Heap.get?_push_size _ rfl, rfl, rfl⟩, hl'.push _⟩⟩)
    have e : xs.length = items.size := by rw [← StrsAre.len_eq hi, Array.length_toList]
    rw [e]
    exact Walks.list hA _ l ne items
theorem src_tuple {l : Addr} {items : Array Value} {xs : List Str} {h : Heap} (hl : h.IsTuple l items) (hi : StrsAre items.toList xs) : TxSrc P w "tuple" l xs h where
  type := fun s' k => by
    obtain ⟨o, e, c, _⟩ := hl
    exact ⟨o, k _ _ e, c⟩
  set := F.sub_tuple_set
  froz := F.sub_tuple_frozenset
  nd := by decide
  lt := by
    obtain ⟨o, e, _⟩ := hl
    exact Heap.lt_size e
  iter := fun A s' E Q k hQ => by
    have hl' : s'.heap.IsTuple l items := by
      obtain ⟨o, e, r⟩ := hl
      exact ⟨o, k _ _ e, r⟩
    refine wpAny_pyIter_tuple hl' (hQ _ fun A' hA ne => ⟨fun i v => items[i]? = some v, fun i z => z.IsTupleIter s'.heap.objs.size l i ∧ z.IsTuple l items, ?_, fun i v hv => SS.strs_at hi i v (by rw [Array.getElem?_toList]; exact hv), ⟨⟨_, Heap.get?_push_size _ rfl, rfl, rfl⟩, hl'.push _⟩⟩)
    have e : xs.length = items.size := by rw [← StrsAre.len_eq hi, Array.length_toList]
    rw [e]
    exact Walks.tuple hA _ l ne items

theorem make_txt {T : String} {l : Addr} {xs : List Str} {Q : Value → Shared → Prop} (hh : A.handled = none) (S : TxSrc P w T l xs s.heap) (few : xs.length + 1 < scanBound)
    (h : ∀ (h' : Heap) (tk : Nat) (l' : List Str), TxSet P w h' s.heap.objs.size l' → (∀ x, x ∈ l' ↔ x ∈ xs) → l'.length ≤ xs.length → (∀ b o, s.heap.get? b = some o → h'.get? b = some o) →
      Q (.ref s.heap.objs.size) { s with heap := h', toks := tk }) : wpAny (model P w) A (call (.type "set") [.ref l]) Q E s := by
  have a1 := F.called_set.made
  have a2 := F.called_set.sub
  have a3 := F.called_set.notType
  have a4 := F.called_set.canCreate
  have a5 := F.typeCall_set_1 (.ref l)
  obtain ⟨c, tl, a6⟩ := F.called_set.mro
  refine wpAny_call (codeAny_of_tree ?_)
  show wpAny _ _ (callAny (.type "set") _) _ _ _
  refine wpAny_pure ⟨Code.quiet_builtin _ (by decide +kernel), codeAny_builtin F.entry_type_call ?_⟩
  rw [Around.under_plain (weight_type_call_type "set" [.ref l] []) rfl]
  repeat (any_goals (first | assumption | wp_step))
  refine codeAny_mono (L2.code_set_led1 (.ref l) (E := E) (Q₁ := fun v z => v = .ref s.heap.objs.size ∧ z = { s with heap := s.heap.push (bare w) }) ⟨rfl, rfl⟩) fun r s1 hr => ?_
  cases r with
  | error e => exact hr
  | ok fl =>
    cases fl with
    | next => exact hr.elim
    | brk => exact hr.elim
    | cont => exact hr.elim
    | ret v =>
      obtain ⟨rfl, rfl⟩ := hr
      have b0 : (s.heap.push (bare w)).get? s.heap.objs.size = some (bare w) := Heap.get?_push_size _ rfl
      have b1 : Shared.TypeIs { s with heap := s.heap.push (bare w) } (.ref s.heap.objs.size) "set" := ⟨_, b0, rfl⟩
      have b2 := F.called_set.init.lookup
      have b3 := F.called_set.init.bind (.ref s.heap.objs.size)
      repeat (any_goals (first | assumption | wp_step))
      refine codeAny_mono (codeAny_call_builtin (R := wants (fun r z => r = .none ∧ ∃ h' tk l', z = { s with heap := h', toks := tk } ∧ TxSet P w h' s.heap.objs.size l' ∧ (∀ x, x ∈ l' ↔ x ∈ xs) ∧ l'.length ≤ xs.length ∧
          (∀ b o, s.heap.get? b = some o → h'.get? b = some o)) E) F.called_set.init.plain F.entry_set_init (check_set_init_1 b1 ?_)) fun r2 s2 hr2 => ?_
      · have k1 : ∀ b o, s.heap.get? b = some o → (s.heap.push (bare w)).get? b = some o := fun b o e => Heap.get?_push_of_some _ e
        have c1 : Shared.TypeIs { s with heap := s.heap.push (bare w) } (.ref l) T := S.type _ k1
        have c2 := S.set
        have c3 := S.froz
        have c4 := S.nd
        unfold Builtin.«set.__init__» noKeywords Builtin.Frozenset.updateFrom
        generalize hPI : pyIter = PI
        wp_walk
        subst hPI
        have hsz : (s.heap.push (bare w)).objs.size = s.heap.objs.size + 1 := Heap.size_push ..
        have lt := S.lt
        refine S.iter _ _ _ _ k1 fun it hit => ?_
        refine wpAny_bind (wpAny_runValue ?_)
        obtain ⟨Pv, St, W, hv, st⟩ := hit A.in1.in1.in1 (by simp [hh]) (by show l ≠ (s.heap.push (bare w)).objs.size; rw [hsz]; exact Nat.ne_of_lt (Nat.lt_succ_of_lt lt))
        have ns : s.heap.objs.size ∉ [(s.heap.push (bare w)).objs.size, l] := by
          rw [hsz]
          simp only [List.mem_cons, List.not_mem_nil, or_false, not_or]
          exact ⟨Nat.ne_of_lt (Nat.lt_succ_self _), Nat.ne_of_gt lt⟩
        refine fill_txt W.toS s.heap.objs.size ns xs rfl few hv (xs.length - 0) 0 _ (by omega) (Nat.zero_le _) st ⟨[], ?_, (fun x => by simp), Nat.zero_le _⟩ fun s' l' mv T' m len => ?_
        · exact bare_txt (Heap.get?_push_of_some _ b0)
        · obtain ⟨h', g', d', tk', os'⟩ := s'
          obtain rfl : g' = s.gens := mv.gens
          obtain rfl : d' = s.drawn := mv.drawn
          obtain rfl : os' = s.os := mv.os
          refine wpAny_pure (wpAny_pure ⟨rfl, h', tk', l', rfl, T', m, len, fun b o e => ?_⟩)
          have hb : b < s.heap.objs.size := Heap.lt_size e
          refine mv.heap b o ?_ (Heap.get?_push_of_some _ (Heap.get?_push_of_some _ e))
          simp only [List.mem_cons, List.not_mem_nil, or_false, not_or]
          refine ⟨Nat.ne_of_lt hb, ?_⟩
          show b ≠ (s.heap.push (bare w)).objs.size
          rw [hsz]
          exact Nat.ne_of_lt (Nat.lt_succ_of_lt hb)
      · cases r2 with
        | error e => exact hr2
        | ok f2 =>
          cases f2 with
          | next => exact hr2.elim
          | brk => exact hr2.elim
          | cont => exact hr2.elim
          | ret r =>
            obtain ⟨rfl, h', tk, l', rfl, T', m, len, k⟩ := hr2
            repeat (any_goals (first | assumption | wp_step))
            exact h _ _ _ T' m len k
end
end Ys
namespace Ys
open PySem PySem.Spec PyProof.Rows L2
section
variable {P : Program} {w : World} {A : Around} {E : Value → Shared → Prop} {s : Shared}
theorem txt_vals {es : List (Int × Value)} (h : ElemsOf (PySem.strKind P w) es) : ∀ e ∈ es, ∃ (x : Str) (t : Tok), e.2 = .str x t := fun e he => by
  obtain ⟨⟨k, hk, _⟩, _⟩ := h e he
  obtain ⟨t, q⟩ := Value.isStrOf_shape (x := k) (v := e.2) hk
  exact ⟨k, t, q⟩
def txtOf : Value → Str
  | .str x _ => x
  | _ => Str.empty
theorem strsAre_txt : ∀ {us : List Value}, (∀ u ∈ us, ∃ (x : Str) (t : Tok), u = .str x t) → StrsAre us (us.map txtOf)
  | [], _ => .nil
  | u :: us, h => by
    obtain ⟨x, t, rfl⟩ := h u List.mem_cons_self
    exact .cons x t (strsAre_txt fun v hv => h v (List.mem_cons_of_mem _ hv))
theorem perm_len : ∀ (l m : List Str), l.Nodup → (∀ x ∈ l, x ∈ m) → m.length ≤ l.length → m.Perm l
  | [], m, _, _, h => by
    have e : m = [] := List.length_eq_zero_iff.mp (Nat.le_zero.mp h)
    rw [e]
  | x :: l, m, nd, h, hl => by
    obtain ⟨n1, n2⟩ := List.nodup_cons.mp nd
    have hx : x ∈ m := h x List.mem_cons_self
    have p := List.perm_cons_erase hx
    have e : m.length = (m.erase x).length + 1 := by rw [p.length_eq, List.length_cons]
    refine p.trans (.cons x (perm_len l (m.erase x) n2 (fun y hy => ?_) (by rw [List.length_cons] at hl; omega)))
    have ne : y ≠ x := fun z => n1 (z ▸ hy)
    exact (List.mem_erase_of_ne ne).mpr (h y (List.mem_cons_of_mem _ hy))
theorem sort_txt {a : Addr} {l : List Str} {Q : Value → Shared → Prop} (hh : A.handled = none) (T : TxSet P w s.heap a l) (few : l.length < 64)
    (hQ : ∀ s' p (out : List Value) (c : Nat) (ys : List Str), (∀ b o, s.heap.get? b = some o → s'.heap.get? b = some o) → s'.gens = s.gens → s'.os = s.os → s.heap.objs.size ≤ p →
      s'.heap.get? p = some { cls := .type "list", data := .seq out.toArray c } → StrsAre out ys → ys.Perm l → sortedS ys = true → Q (.ref p) s') :
    wpAny (model P w) A (call (.builtin "sorted") [.ref a]) Q E s := by
  obtain ⟨⟨es, ep, t⟩, ho, F, nd, r, ld⟩ := T
  have fit : t.fits es.size = true := F.fit
  have sz : es.size = l.length := F.sz
  have el : ElemsOf (PySem.strKind P w) es.toList := F.el
  have vals := txt_vals el
  refine Calls.call_function_entry kind_sorted plain_sorted entry_sorted (args_sorted1 _) ?_
  unfold Builtin.«sorted»
  refine wpAny_bind (m := checkCount "sorted" 1 1 _) (wpAny_pure ?_)
  refine wpAny_bind (collect_set (A := A.in1) hh ⟨_, ho, rfl, rfl⟩ fit (by rw [sz]; unfold scanBound; omega) r ld fun s1 vs k1 hz g1 o1 pm => ?_)
  have hv : ∀ v ∈ vs, ∃ (x : Str) (t : Tok), v = .str x t := fun v hv => by
    obtain ⟨e, he, q⟩ := List.mem_map.mp (pm.mem_iff.mp hv)
    obtain ⟨x, t, z⟩ := vals e he
    exact ⟨x, t, by rw [← q, z]⟩
  have hS := strsAre_txt hv
  have hlen : vs.length = l.length := by rw [pm.length_eq, List.length_map, Array.length_toList, sz]
  -- the texts of the set's entries are l, in some order
  have pl : (vs.map txtOf).Perm l := by
    have p1 : (vs.map txtOf).Perm ((es.toList.map (·.2)).map txtOf) := pm.map txtOf
    have mem : ∀ x, x ∈ (es.toList.map (·.2)).map txtOf ↔ x ∈ l := fun x => by
      rw [F.mem x, List.map_map, List.mem_map]
      constructor
      · rintro ⟨e, he, q⟩
        obtain ⟨y, t, z⟩ := vals e he
        refine ⟨e, he, ?_⟩
        have : y = x := by
          have q' : txtOf e.2 = x := q
          rw [z] at q'
          exact q'
        rw [z, this]
        exact Froz.is_str x t
      · rintro ⟨e, he, q⟩
        obtain ⟨t, z⟩ := Value.isStrOf_shape (x := x) (v := e.2) q
        exact ⟨e, he, by show txtOf e.2 = x; rw [z]; rfl⟩
    have len : ((es.toList.map (·.2)).map txtOf).length = l.length := by rw [List.length_map, List.length_map, Array.length_toList, sz]
    refine p1.trans ?_
    exact perm_len l _ nd (fun x hx => (mem x).mpr hx) (Nat.le_of_eq len)
  refine wpAny_bind (wpAny_newList ?_ (by rw [hlen, sizeLine_eq]; omega))
  have hoL : (s1.heap.push (seqObj "list" vs.toArray 0)).get? s1.heap.objs.size = some (seqObj "list" vs.toArray 0) := Heap.get?_push_size _ rfl
  show wpAny _ _ _ _ _ { s1 with heap := s1.heap.push (seqObj "list" vs.toArray 0) }
  refine wpAny_bind (wpAny_holding (wpAny_call_entry slot_list_sort ⟨_, hoL, rfl⟩ entry_list_sort
    (list_sort_treeK strKind_oneLt (s := { s1 with heap := s1.heap.push (seqObj "list" vs.toArray 0) }) hoL hS.keysOf (fun v1 v2 rest e => keyKind_strs (by rw [← e]; exact hS)) (by rw [hlen]; exact few) fun st' hp hs => ⟨_, rfl, ?_⟩)
    (args_list_sort _)))
  obtain ⟨ys, b1, b2, b3⟩ := sorted_out_str hS hp hs
  obtain ⟨c, hc⟩ := sortedHeap_at (vs := vs) (out := (arrOf st').map (·.2)) hoL
  refine wpAny_pure ⟨_, rfl, hQ _ s1.heap.objs.size ((arrOf st').map (·.2)).toList c ys (fun b u e => ?_) g1 o1 hz (by rw [Array.toArray_toList]; exact hc) b1 (b2.trans pl) b3⟩
  have q := k1 b u e
  have hlt := Heap.lt_size q
  show (sortedHeap (s1.heap.push (seqObj "list" vs.toArray 0)) s1.heap.objs.size vs ((arrOf st').map (·.2))).get? b = some u
  rw [sortedHeap_old (Nat.ne_of_lt hlt) (by rw [size_push']; exact Nat.lt_succ_of_lt hlt)]
  exact Heap.get?_push_of_some _ q
end

/-! ### over the abstract heap -/
def TxO (P : Program) (w : World) (a : Addr) (l : List Str) : HO := .ext fun h => TxSet P w h a l
section
variable {X : Cx}
theorem txO_ok {P : Program} {w : World} {H : Hp} {h : Heap} {a : Addr} {l : List Str} (T : TxSet P w h a l) : ObjOk P w H h a (TxO P w a l) := by
  have ⟨D, e, _⟩ := T
  exact ⟨T, ⟨_, e⟩, fun h1 h2 p k => TxSet.same p k⟩
def rSetTx (K : PySem.W.Frag) (P : Program) (w : World) : List V → Hp → VK → Prop := fun vs H Q => ∃ (p : Addr) (xs : List Str), vs = [V.ref p] ∧ (SqL K H p (xs.map V.str) ∨ SqT K H p (xs.map V.str)) ∧ xs.length < 1000 ∧
  ∀ a l, (∀ x, x ∈ l ↔ x ∈ xs) → l.Nodup → l.length ≤ xs.length → H a = none → Q (.ref a) (upd H a (TxO P w a l))
theorem cr_setTx (hc : X.calm = true) : CallR X (.type "set") (rSetTx X.K X.prog X.w) := by
  intro pins s σ H vs us Q I r h
  obtain ⟨p, xs, rfl, hq, few, q⟩ := h
  rw [Vals.ref1 r]
  have fin : ∀ T, TxSrc X.prog X.w T p xs s.heap → wpAny (model X.prog X.w) X.A (call (.type "set") [.ref p]) (EP X pins σ Q) X.xe s := fun T S => by
    refine make_txt (I.ok.hd hc) S (by unfold scanBound; omega) fun h' tk l' T' m len k => ?_
    have nd : l'.Nodup := let ⟨_, _, _, nd, _⟩ := T'; nd
    exact ⟨.ref s.heap.objs.size, upd H s.heap.objs.size (TxO X.prog X.w s.heap.objs.size l'), I.laid (t' := tk) k (Nat.le_refl _) (txO_ok T'), rfl, q _ l' m nd len (I.hok.fresh (Nat.le_refl _))⟩
  rcases hq with hq | hq
  · obtain ⟨its, rv, pl, hz⟩ := I.list hq
    exact fin "list" (src_list pl.isList (by simpa using rv.strs))
  · obtain ⟨its, rv, pl, hz⟩ := I.tuple hq
    exact fin "tuple" (src_tuple pl (by simpa using rv.strs))
def rSortTx (P : Program) (w : World) : List V → Hp → VK → Prop := fun vs H Q => ∃ (a : Addr) (l : List Str), vs = [V.ref a] ∧ H a = some (TxO P w a l) ∧ l.length < 64 ∧
  ∀ (ys : List Str) (p : Addr), ys.Perm l → sortedS ys = true → H p = none → Q (.ref p) (upd H p (.lst (ys.map V.str)))
theorem cr_sortTx (hc : X.calm = true) : CallR X (.builtin "sorted") (rSortTx X.prog X.w) := by
  intro pins s σ H vs us Q I r h
  obtain ⟨a, l, rfl, ha, few, q⟩ := h
  rw [Vals.ref1 r]
  have T : TxSet X.prog X.w s.heap a l := (I.hok a _ ha).1
  refine sort_txt (I.ok.hd hc) T few fun s' p out c ys k g o hp hg hS pm so => ?_
  have hn : H p = none := I.hok.fresh hp
  have hlen : (ys.map V.str).length ≤ sizeLine := by rw [List.length_map, pm.length_eq, sizeLine_eq]; omega
  obtain ⟨h', g', d', tk', os'⟩ := s'
  obtain rfl : os' = s.os := o
  refine ⟨.ref p, upd H p (.lst (ys.map V.str)), I.call (h' := h') (g' := g') (d' := d') (t' := tk') (ch := []) (Un.laid k hp hn) (I.hok.laid k hp ⟨hlen, out, c, vals_of_strs hS, hg⟩) ?_ (fun _ z => nomatch z), rfl, q ys p pm so hn⟩
  obtain rfl : g' = s.gens := g
  exact I.bare
def rLenTx (P : Program) (w : World) : List V → Hp → VK → Prop := fun vs H Q => ∃ (a : Addr) (l : List Str), vs = [V.ref a] ∧ H a = some (TxO P w a l) ∧ l.length < 1000 ∧ Q (.int l.length) H
theorem cr_lenTx : CallR X (.builtin "len") (rLenTx X.prog X.w) := by
  intro pins s σ H vs us Q I r h
  obtain ⟨a, l, rfl, ha, few, q⟩ := h
  rw [Vals.ref1 r]
  have T : TxSet X.prog X.w s.heap a l := (I.hok a _ ha).1
  obtain ⟨⟨es, ep, t⟩, ho, F, nd, rs, ld⟩ := T
  have sz : es.size = l.length := F.sz
  refine call_len_set ho ⟨rfl, rfl, rfl⟩ rfl F.fit (by rw [sz]; omega) ⟨.int l.length, H, I.tok _, ⟨_, by rw [sz]⟩, q⟩
end

end Ys
namespace Ys
open PySem PySem.Spec PyProof.Rows L2
/-! ### data, dicts too -/
def kD : Key → PyData
  | .inl i => .int i
  | .inr x => .str x
mutual
inductive Dt (K : PySem.W.Frag) (H : Hp) : V → PyData → Prop
  | non : Dt K H .non .none
  | bl (b : Bool) : Dt K H (.bl b) (.bool b)
  | int (i : Int) : Dt K H (.int i) (.int i)
  | str (x : Str) : Dt K H (.str x) (.str x)
  | lst {a : Addr} {xs : List V} {ds : List PyData} : SqL K H a xs → Dts K H xs ds → Dt K H (.ref a) (.list ds)
  | tup {a : Addr} {xs : List V} {ds : List PyData} : SqT K H a xs → Dts K H xs ds → Dt K H (.ref a) (.tuple ds)
  | dct {a : Addr} {kvs : List (Key × V)} {ds : List (PyData × PyData)} : Rd H a (.dK kvs) → ds.map (·.1) = kvs.map (fun p => kD p.1) → Dts K H (kvs.map (·.2)) (ds.map (·.2)) → Dt K H (.ref a) (.dict ds)
inductive Dts (K : PySem.W.Frag) (H : Hp) : List V → List PyData → Prop
  | nil : Dts K H [] []
  | cons {v : V} {vs : List V} {d : PyData} {ds : List PyData} : Dt K H v d → Dts K H vs ds → Dts K H (v :: vs) (d :: ds)
end
section
variable {X : Cx} {pins : List (Addr × Obj)} {σ : L2.St} {H : Hp} {s : Shared}
def SysIn (K : PySem.W.Frag) : Prop := ∃ o, K.lookup sysModules = some o ∧ o.cls = .type "dict"
theorem sys_ne (I : Inv X pins σ H s) (S : SysIn X.K) {a : Addr} {u : HO} (h : Rd H a u) : a ≠ sysModules := by
  rintro rfl
  obtain ⟨o, e, _⟩ := S
  have n := (I.bs _ _ (I.mod.kin _ _ e)).2
  rcases h with h | ⟨_, h⟩
  · rw [n] at h; cases h
  · rw [n] at h; cases h
theorem sys_neL (I : Inv X pins σ H s) (S : SysIn X.K) {a : Addr} {xs : List V} (h : SqL X.K H a xs) : a ≠ sysModules := by
  rcases h with h | ⟨o, its, n, hk, hc, _⟩
  · exact sys_ne I S h
  · rintro rfl
    obtain ⟨o', e, c⟩ := S
    rw [hk] at e
    cases e
    rw [hc] at c
    exact absurd c (by decide)
theorem kD_reads {h : Heap} {k : Key} {v : Value} (e : keyIs k v = true) : Reads h v (kD k) [] := by
  rcases keyIs_shape e with ⟨i, t, rfl, rfl⟩ | ⟨x, t, rfl, rfl⟩
  · exact .int i t
  · exact .str x t
theorem keys_reads {h : Heap} : ∀ {es : List DictEntry} {kvs : List (Key × Value)} {ks : List PyData}, Pairs (mixKind X.prog X.w) es kvs → ks = kvs.map (fun p => kD p.1) → ReadsAll h (es.map (·.key)) ks []
  | _, _, _, .nil, e => by subst e; exact .nil
  | _, _, _, .cons a b r, e => by
    subst e
    exact .cons (kD_reads a) (keys_reads r rfl)
theorem pairs_vals : ∀ {es : List DictEntry} {kvs : List (Key × Value)}, Pairs (mixKind X.prog X.w) es kvs → es.map (·.val) = kvs.map (·.2)
  | _, _, .nil => rfl
  | _, _, .cons a b r => by rw [List.map_cons, List.map_cons, b, pairs_vals r]
theorem kv_vals : ∀ {kvs : List (Key × V)} {vs : List (Key × Value)}, KV kvs vs → Vals (kvs.map (·.2)) (vs.map (·.2))
  | _, _, .nil => .nil
  | _, _, .cons r t => .cons r.2 (kv_vals t)
theorem kv_keys : ∀ {kvs : List (Key × V)} {vs : List (Key × Value)}, KV kvs vs → kvs.map (fun p => kD p.1) = vs.map (fun p => kD p.1)
  | _, _, .nil => rfl
  | _, _, .cons r t => by rw [List.map_cons, List.map_cons, r.1, kv_keys t]
theorem size_snd : ∀ ds : List (PyData × PyData), sizeOf (ds.map (·.2)) ≤ sizeOf ds
  | [] => Nat.le_refl _
  | (k, v) :: ds => by
    have ih := size_snd ds
    simp only [List.map_cons, List.cons.sizeOf_spec, Prod.mk.sizeOf_spec]
    omega
mutual
theorem Dt.reads (I : Inv X pins σ H s) (S : SysIn X.K) : ∀ (d : PyData) (v : V) (u : Value), Dt X.K H v d → RelV v u → ∃ as, Reads s.heap u d as ∧ sysModules ∉ as
  | .none, _, _, h, r => by
    cases h
    cases r
    exact ⟨_, .none, by simp⟩
  | .bool b, _, _, h, r => by
    cases h
    cases r
    exact ⟨_, .bool b, by simp⟩
  | .int i, _, _, h, r => by
    cases h
    obtain ⟨t, rfl⟩ := r
    exact ⟨_, .int i t, by simp⟩
  | .str x, _, _, h, r => by
    cases h
    obtain ⟨t, rfl⟩ := r
    exact ⟨_, .str x t, by simp⟩
  | .list ds, _, _, h, r => by
    cases h with
    | lst hs ha =>
      cases r
      have ne := sys_neL I S hs
      obtain ⟨its, rv, ⟨o, n, ho, hc, _, hd⟩, _⟩ := I.list hs
      obtain ⟨as, hr, na⟩ := Dts.reads I S ds _ its ha rv
      exact ⟨_, .list ho hc hd hr, fun z => (List.mem_cons.mp z).elim (fun e => ne e.symm) na⟩
  | .tuple ds, _, _, h, r => by
    cases h with
    | tup hs ha =>
      cases r
      obtain ⟨its, rv, ⟨o, ho, hc, n, hd⟩, _⟩ := I.tuple hs
      obtain ⟨as, hr, na⟩ := Dts.reads I S ds _ its ha rv
      exact ⟨_, .tuple ho hc hd hr, na⟩
  | .dict ds, _, _, h, r => by
    cases h with
    | dct hs hk ha =>
      cases r
      have ne := sys_ne I S hs
      obtain ⟨_, _, vs, rel, o, es, ep, ho, hx, hd, _, hp, _⟩ := dk_rd I.hok hs
      obtain ⟨as, hr, na⟩ := Dts.reads I S (ds.map (·.2)) _ (vs.map (·.2)) ha (kv_vals rel)
      refine ⟨_, .dict ho hx.1 hd (keys_reads hp (hk.trans (kv_keys rel))) (by rw [pairs_vals hp]; exact hr), fun z => ?_⟩
      exact (List.mem_append.mp z).elim (fun e => ne (List.mem_singleton.mp e).symm) na
termination_by d => sizeOf d
decreasing_by
  · simp only [PyData.list.sizeOf_spec]; omega
  · simp only [PyData.tuple.sizeOf_spec]; omega
  · have := size_snd ds
    simp only [PyData.dict.sizeOf_spec]; omega
theorem Dts.reads (I : Inv X pins σ H s) (S : SysIn X.K) : ∀ (ds : List PyData) (vs : List V) (us : List Value), Dts X.K H vs ds → Vals vs us → ∃ as, ReadsAll s.heap us ds as ∧ sysModules ∉ as
  | [], _, _, h, r => by
    cases h
    cases r
    exact ⟨_, .nil, by simp⟩
  | d :: ds, _, _, h, r => by
    cases h with
    | cons h1 h2 =>
      cases r with
      | cons r1 r2 =>
        obtain ⟨as, q1, n1⟩ := Dt.reads I S d _ _ h1 r1
        obtain ⟨bs, q2, n2⟩ := Dts.reads I S ds _ _ h2 r2
        exact ⟨_, .cons q1 q2, fun z => (List.mem_append.mp z).elim n1 n2⟩
termination_by ds => sizeOf ds
decreasing_by
  · simp only [List.cons.sizeOf_spec]; omega
  · simp only [List.cons.sizeOf_spec]; omega
end
/-! data without dicts -/
mutual
theorem Dt.dp {K : PySem.W.Frag} : ∀ (d : PyData) (v : V), d.canLay0 = true → Dt K H v d → Dp K H v d
  | .none, _, _, h => by cases h; exact .non
  | .bool b, _, _, h => by cases h; exact .bl b
  | .int i, _, _, h => by cases h; exact .int i
  | .str x, _, _, h => by cases h; exact .str x
  | .list ds, _, c, h => by
    cases h with
    | lst hs ha => exact .lst hs (Dts.dp ds _ (by simpa only [PyData.canLay0] using c) ha)
  | .tuple ds, _, c, h => by
    cases h with
    | tup hs ha => exact .tup hs (Dts.dp ds _ (by simpa only [PyData.canLay0] using c) ha)
  | .dict _, _, c, _ => by simp [PyData.canLay0] at c
theorem Dts.dp {K : PySem.W.Frag} : ∀ (ds : List PyData) (vs : List V), PyData.canLayAll0 ds = true → Dts K H vs ds → DpAll K H vs ds
  | [], _, _, h => by cases h; exact .nil
  | d :: ds, _, c, h => by
    cases h with
    | cons h1 h2 =>
      have c' : (d.canLay0 && PyData.canLayAll0 ds) = true := by simpa only [PyData.canLayAll0] using c
      obtain ⟨c1, c2⟩ := Bool.and_eq_true_iff.mp c'
      exact .cons (Dt.dp d _ c1 h1) (Dts.dp ds _ c2 h2)
end
end

/-! ### repr -/
section
variable {X : Cx}
def rRepr (K : PySem.W.Frag) : List V → Hp → VK → Prop := fun vs H Q => ∃ (x : V) (d : PyData), vs = [x] ∧ Dt K H x d ∧ d.showable = true ∧ d.depth ≤ 60 ∧ d.shown.length ≤ sizeLine ∧ Q (.str d.shown) H
theorem cr_repr (hg : X.A.guards = some []) (S : SysIn X.K) (hu : X.A.units + 64 < cLine) : CallR X (.builtin "repr") (rRepr X.K) := by
  intro pins s σ H vs us Q I r h
  obtain ⟨x, d, rfl, hd, sh, dp, sz, q⟩ := h
  obtain ⟨u, rfl, rx⟩ := vals1 r
  obtain ⟨as, hr, na⟩ := Dt.reads I S d x u hd rx
  cases x with
  | non =>
    cases rx; cases hd
    simp only [PyData.shown] at q
    exact PySem.P.repr_of_none ⟨.str _, H, I.tok _, ⟨_, rfl⟩, q⟩
  | bl b =>
    cases rx; cases hd
    simp only [PyData.shown] at q
    exact PySem.P.repr_of_bool ⟨.str _, H, I.tok _, ⟨_, rfl⟩, q⟩
  | int i =>
    obtain ⟨t, rfl⟩ := rx; cases hd
    simp only [PyData.shown] at q
    have hz : i.natAbs.log2 < 1920 := by simpa [PyData.showable] using sh
    exact PySem.P.repr_of_int hz ⟨.str _, H, I.tok _, ⟨_, rfl⟩, q⟩
  | str z =>
    obtain ⟨t, rfl⟩ := rx; cases hd
    simp only [PyData.shown] at q sz
    exact PySem.P.repr_of_str ⟨.str _, H, I.tok _, ⟨_, rfl⟩, q⟩ sz
  | byt _ => cases hd
  | flt _ => cases hd
  | ty _ => cases hd
  | ref a =>
    cases rx
    refine repr_of_reads' hr sh (fun _ => na) hg (by omega) (fun _ _ e => e) (fun h' u tk k => ?_) sz
    exact ⟨.str _, H, I.kept (t' := tk) k, ⟨_, rfl⟩, q⟩
end

/-! ### a def that is told that nothing is being shown -/
structure FnG (P : Program) (w : World) (K : PySem.W.Frag) (mg : Str → Option Value) (base : Heap) (CX : CXT) (k : Nat) (f : Addr) (fd : FuncData) (ps : List Str) (sp : Sp) : Prop where
  len : ∀ vs H Q E, sp vs H Q E → vs.length = ps.length
  run : ∀ (A : Around) (outer : List Env) (s : Shared) (H : Hp) (args : Args) (us : List Value) (vs : List V) (Q : VK) (E : XK), A.guards = some [] → Room k A → Env0 P w K mg base A outer s H → BindsTo s fd args (ps.zip us) → Vals vs us → sp vs H Q E →
    codeAny (model P w) A (.call (.ref f) args) (CR CX outer P w H s Q E) s
theorem FnOk.g {P : Program} {w : World} {K : PySem.W.Frag} {mg : Str → Option Value} {base : Heap} {CX : CXT} {k : Nat} {f : Addr} {fd : FuncData} {ps : List Str} {sp : Sp} (F : FnOk P w K mg base CX k f fd ps sp) : FnG P w K mg base CX k f fd ps sp :=
  ⟨F.len, fun A outer s H args us vs Q E _ => F.run A outer s H args us vs Q E⟩
end Ys
namespace Ys
open PySem PySem.Spec PyProof.Rows L2
section
variable {P : Program} {w : World} {K : PySem.W.Frag} {mg : Str → Option Value} {base : Heap} {x qual : Str} {params : Arguments} {body : List Stmt} {scope : Scope} {dvs : List V} {kws : List (Str × V)} {f : Addr} {fd : FuncData}
theorem okG {CX : CXT} {N ps : List Str} {k : Nat} {sp : Sp} (F : FunD K x qual params body scope dvs kws f fd) (S : FnScope N ps scope) (len : ∀ vs H Q E, sp vs H Q E → vs.length = ps.length)
    (hb : ∀ (cdv : Value) (A : Around) (outer : List Env) (s : Shared) (H : Hp) (vs : List V) (Q : VK) (E : XK), A.guards = some [] → Room k (A.deeper (envOfC qual scope s.heap.objs.size f cdv)) → sp vs H Q E →
      ∃ t, PSs (cxOf CX P w K mg base N qual scope f cdv A outer s H E) body t ∧ t { nx := fun _ H' => Q .non H', rt := Q } (start N vs) H) : FnG P w K mg base CX (k + 1) f fd ps sp := by
  obtain ⟨oc, od, dV, kV, doc, pm, an, cdv, ct, osl, rfl, lk, hcd, _, _⟩ := F.ex
  refine ⟨len, fun A outer s H args us vs Q E hg hr e0 hbd r hsp => ?_⟩
  have KX : K.In s.heap := e0.mod.kin.keeps fun b o e => (e0.bs b o e).1
  have lim : s.heap.NoLimit := e0.mod.nolimit.keeps fun b o e => (e0.bs b o e).1
  refine codeAny_call_function hr.depth (KX _ _ lk) rfl S.co S.gen rfl (PySem.W.codeRec_of KX hcd) (hbd _ _ _ _ (wpAny_newFunctionEnv_cells S.kind (fun y hy => ?_) fun env he s1 z => ?_))
  · rcases S.par y.1 (List.of_mem_zip (show (y.1, y.2) ∈ ps.zip us from hy)).1 with q | q
    · exact .inl q
    · exact .inr ⟨q, PySem.W.cellsFrom_some _ _ _ (.inl q)⟩
  · subst he
    refine ⟨lim.keeps z.toInCall.keep, codeAny_func ?_⟩
    obtain ⟨t, ht, hq⟩ := hb cdv A outer s H vs Q E hg (hr.deeper _) hsp
    have I : Inv (cxOf CX P w K mg base N qual scope f cdv A outer s H E) [] (start N vs) H s1 := inv_start S hr.hd e0 (len _ _ _ _ hsp) r z
    refine wpAny_mono (ht.run [] s1 (start N vs) H _ I hq) (fun fl s' hs => ?_) fun e s' hs => hs
    cases fl with
    | ret u => exact let ⟨v, σ', H', J, rv, q⟩ := hs; ⟨v, H', J.os, J.bare, J.base, J.hok, rv, q⟩
    | next => exact let ⟨σ', H', J, q⟩ := hs; ⟨.non, H', J.os, J.bare, J.base, J.hok, rfl, q⟩
    | brk => exact let ⟨_, _, _, q⟩ := hs; q.elim
    | cont => exact let ⟨_, _, _, q⟩ := hs; q.elim
end

theorem law_callG {P : Program} {w : World} {K : PySem.W.Frag} {mg mb : Str → Option Value} {CX : CXT} {k : Nat} {fa a : Addr} {fd : FuncData} {x : Str} {sp : Sp} {s1 : Shared} {vs : List Value} {ns : List Int}
    (KX : K.In s1.heap) (hns : s1.heap.Ns mainGlobals mg) (hb : s1.heap.Ns builtinsNs mb) (hbb : ∀ x : Str, x ≠ "__name__" → mb x = bootBuiltins x) (hlim : s1.heap.NoLimit) (hg : s1.gens = #[])
    (ha : s1.heap.get? a = some { cls := .type "list", data := .seq vs.toArray }) (hi : IntsAre vs ns) (hl : ns.length ≤ sizeLine) (hr : Room k callerA)
    (F : ∀ base : Heap, K.In base → base.Ns mainGlobals mg → FnG P w K mg base CX k fa fd [x] sp) (hbind : ∀ (s : Shared) (u : Value), BindsTo s fd ⟨[u], []⟩ [(x, u)])
    (hsp : ∀ H : Hp, Only H → SqL K H a (ns.map V.int) → sp [.ref a] H (fun v _ => v = .bl true) fun _ _ _ => False) (hCX : ∀ H e s', CX [] H s1 (fun _ _ _ => False) e s' → False) :
    codeAny (model P w) callerA (.call (.ref fa) ⟨[.ref a], []⟩) (fun r s' => r = .ok (.ret (.bool true)) ∧ OldK s1.heap s'.heap ∧ s'.os = s1.os ∧ AllBare s'.gens) s1 := by
  have rv := vals_ints hi
  have len := hi.length
  -- what is tracked: the script, where the written part does not hold it
  obtain ⟨H, hO, hS, hok, hA, hK⟩ : ∃ H : Hp, Only H ∧ SqL K H a (ns.map V.int) ∧ HOk P w H s1.heap ∧ (∀ b u, H b = some u → b = a) ∧ (∀ u, H a = some u → K.lookup a = none) := by
    cases hk : K.lookup a with
    | some o =>
      have e := KX a o hk
      rw [ha] at e
      cases e
      exact ⟨fun _ => none, fun _ => .inl rfl, .inr ⟨_, vs.toArray, _, hk, rfl, rfl, rfl, by rw [List.size_toArray, len]; exact hl, by simpa using rv⟩, (fun b u (z : (none : Option HO) = some u) => by cases z), (fun b u (z : (none : Option HO) = some u) => by cases z), (fun u (z : (none : Option HO) = some u) => by cases z)⟩
    | none =>
      have at_ : ∀ b u, (if b = a then some (HO.frz { cls := .type "list", data := .seq vs.toArray } (.lst (ns.map V.int))) else none) = some u → b = a ∧ u = .frz { cls := .type "list", data := .seq vs.toArray } (.lst (ns.map V.int)) := fun b u z => by
        by_cases c : b = a
        · rw [if_pos c] at z
          exact ⟨c, (Option.some.inj z).symm⟩
        · rw [if_neg c] at z
          cases z
      refine ⟨fun b => if b = a then some (.frz { cls := .type "list", data := .seq vs.toArray } (.lst (ns.map V.int))) else none, fun b => ?_, .inl (.inr ⟨_, if_pos rfl⟩), fun b u z => ?_, fun b u z => (at_ b u z).1, fun _ _ => rfl⟩
      · by_cases c : b = a
        · exact .inr ⟨_, _, if_pos c⟩
        · exact .inl (if_neg c)
      · obtain ⟨rfl, rfl⟩ := at_ b u z
        exact ⟨ha, by rw [List.length_map]; exact hl, vs, _, rv, ha⟩
  have free : ∀ {b : Addr} {o : Obj} {es : Array DictEntry} {ep : Nat}, s1.heap.get? b = some o → o.data = .dict es ep → H b = none := fun {b o es ep} e d => by
    cases q : H b with
    | none => rfl
    | some u =>
      obtain rfl := hA b u q
      rw [ha] at e
      cases e
      exact nomatch (show Data.seq vs.toArray _ = Data.dict es ep from d)
  have ns_ : ∀ {b : Addr} {m : Str → Option Value}, s1.heap.Ns b m → (hidT s1.heap H).Ns b m := fun {b m} ⟨o, es, ep, e, d, r⟩ => ⟨o, es, ep, hidT_get e (free e d), d, r⟩
  have kb : K.In (hidT s1.heap H) := fun b o e => hidT_get (KX b o e) (by
    cases q : H b with
    | none => rfl
    | some u =>
      obtain rfl := hA b u q
      rw [hK u q] at e
      cases e)
  have md : Mod K mg (hidT s1.heap H) := ⟨kb, ns_ hns, ⟨mb, ns_ hb, hbb⟩, let ⟨mc, h1, h2⟩ := hlim; ⟨mc, ns_ h1, h2⟩⟩
  have e0 : Env0 P w K mg (hidT s1.heap H) callerA [] s1 H := ⟨rfl, md, fun b o e => of_hidT e, Nat.le_of_eq (hidT_size _ _), trivial, fun b hb => absurd (show b ∈ ([] : List Addr) from hb) (by simp), hok, .of_eq hg⟩
  refine codeAny_mono ((F _ kb (ns_ hns)).run callerA [] s1 H ⟨[.ref a], []⟩ [.ref a] [.ref a] _ _ rfl hr e0 (hbind s1 (.ref a)) (.cons rfl .nil) (hsp H hO hS)) fun r s' h => ?_
  cases r with
  | error e => exact (hCX H e s' h).elim
  | ok fl =>
    cases fl with
    | next => exact False.elim h
    | brk => exact False.elim h
    | cont => exact False.elim h
    | ret u =>
      obtain ⟨v, H', os, bare, un, hok', r', q⟩ := h
      obtain rfl : v = .bl true := q
      obtain rfl : u = Value.bool true := r'
      refine ⟨rfl, OldK.of_keep fun b o e => ?_, os, bare⟩
      cases q : H b with
      | none => exact un.keep b o e q (fun z => absurd (show b ∈ ([] : List Addr) from z) (by simp)) (by simp)
      | some u =>
        rcases hO b with z | ⟨ob, xs, z⟩
        · rw [q] at z; cases z
        · obtain ⟨e1, _⟩ := hok b _ z
          obtain ⟨e2, _⟩ := hok' b _ (un.frzs b ob _ z)
          rw [e] at e1
          cases e1
          exact e2

theorem walk_ofG {l : PySem.W.OpenLaw} {n k : Nat} {q : Program} {loose : List Str} {XP : (Str → Option Value) → Heap → Prop} {YP : World → Heap → Prop} {d : DefRec} {CX : World → CXT} {x : Str}
    (hn : l.most = some n) (hn2 : n ≤ sizeLine) (hdf : d.params.defaults = []) (hr : Room k callerA)
    (F : ∀ (w : World) (mg : Str → Option Value) (fa : Addr) (h : Heap), YP w h → h.Ns mainGlobals mg → mg d.name = some (.ref fa) →
      ∃ (K : PySem.W.Frag) (fd : FuncData) (sp : Sp), K.In h ∧ (∀ (s : Shared) (u : Value), BindsTo s fd ⟨[u], []⟩ [(x, u)]) ∧
        (∀ (H : Hp) (a : Addr) (ns : List Int), ns.length ≤ n → Only H → SqL K H a (ns.map V.int) → sp [.ref a] H (fun v _ => v = .bl true) fun _ _ _ => False) ∧
        ∀ base : Heap, K.In base → base.Ns mainGlobals mg → FnG l.prog w K mg base (CX w) k fa fd [x] sp)
    (hCX : ∀ (w : World) (H : Hp) (s : Shared) (e : Value) (s' : Shared), CX w [] H s (fun _ _ _ => False) e s' → False) :
    PySem.W.WalkO q loose XP YP l.row.toRowW d [] (fun f vs => PySem.call f vs) := by
  refine Att.attach_call hn hdf fun w s0 s1 mg mb fa o pm cd doc a vs ns G Y ho hd hcd hmg hobj hints hlen hg => ?_
  obtain ⟨K, fd, sp, KX, hb, hsp, hF⟩ := F w mg fa _ Y G.T.g hmg
  exact law_callG KX G.T.g G.T.b G.T.builtins G.T.nolimit hg hobj hints (Nat.le_trans hlen hn2) hr hF hb (fun H hO hS => hsp H a ns hlen hO hS) fun H e s' => hCX w H s1 e s'

/-! ### the Hook: any look at the written part, which holds the table of modules too -/
def obsY (fb : PySem.W.Frag → Bool) (fn : List He.DefD) (K : PySem.W.Frag) : He.AlD := (fb K && fn.all fun d => d.ok K, fn.map fun d => He.fnW K d.at_)
def SaysY (fb : PySem.W.Frag → Bool) (fn : List He.DefD) (K : PySem.W.Frag) : Prop := obsY fb fn K = He.valD fn
def frY (n : Nat) (g : Addr → Option Obj) : PySem.W.Frag := He.frG g (sysModules :: He.asD g n)
def hookY (n : Nat) (fb : PySem.W.Frag → Bool) (fn : List He.DefD) : PySem.W.Hook where
  α := He.AlD
  obs := fun s => obsY fb fn (frY n s.heap.get?)
  val := fun _ => He.valD fn
  says := fun _ h => ∃ K : PySem.W.Frag, K.In h ∧ SaysY fb fn K
  of := fun _ _ e => ⟨_, He.frG_in, e⟩
  keeps := fun _ _ _ ⟨K, hK, c⟩ k => ⟨K, PySem.W.Frag.In.keeps hK k, c⟩
def obY (n : Nat) (fb : PySem.W.Frag → Bool) (fn : List He.DefD) (s : PySem.W.SharedT) : He.AlD := obsY fb fn (frY n (HandSHeadRun.getT s))
theorem obY_eq {n : Nat} {fb : PySem.W.Frag → Bool} {fn : List He.DefD} (s : PySem.W.SharedT) : obY n fb fn s = (hookY n fb fn).obs s.abs := by
  have e : HandSHeadRun.getT s = s.abs.heap.get? := funext (HandSHeadRun.getT_eq s)
  unfold obY
  rw [e]
  rfl
section
variable {fb : PySem.W.Frag → Bool} {fn : List He.DefD} {K : PySem.W.Frag}
theorem SaysY.look (c : SaysY fb fn K) : fb K = true := (He.ba (show (fb K && fn.all fun d => d.ok K) = true from congrArg (fun z : He.AlD => z.1) c)).1
theorem SaysY.def_ (c : SaysY fb fn K) (i : Nat) {d : He.DefD} (h : fn[i]? = some d := by rfl) : ∃ fd, FunD K d.name d.qual d.params d.body d.scope (d.dvs K) (d.kws K) (He.fAd K d.at_) fd := by
  have c2 := (He.ba (show (fb K && fn.all fun d => d.ok K) = true from congrArg (fun z : He.AlD => z.1) c)).2
  have e : (fn.map fun d => He.fnW K d.at_)[i]? = (fn.map He.DefD.val)[i]? := by rw [show fn.map (fun d => He.fnW K d.at_) = fn.map He.DefD.val from congrArg (fun z : He.AlD => z.2) c]
  rw [List.getElem?_map, List.getElem?_map, h] at e
  exact He.DefD.funD (Option.some.inj e) (List.all_eq_true.mp c2 d (List.mem_of_getElem? h))
theorem sysB_ok (h : sysB K = true) : SysIn K := by
  unfold sysB at h
  cases q : K.lookup sysModules with
  | none => rw [q] at h; cases h
  | some o =>
    rw [q] at h
    exact ⟨o, q, eq_of_beq h⟩
end
end Ys
namespace Ys
open PySem PySem.Spec PyProof.Rows L2
/-! ### the state: G is known and stays, M may change -/
structure Zp (G : Hp) (M : List (Addr × HO)) (H : Hp) : Prop where
  sub : ∀ a o, G a = some o → H a = some o
  own : ∀ (i : Nat) p o, M[i]? = some (p, o) → H p = some o ∧ G p = none
  nd : (M.map (·.1)).Nodup
section
variable {G G0 G1 H H1 : Hp} {M M1 : List (Addr × HO)} {p a : Addr} {o o1 : HO} {K : PySem.W.Frag} {v : V} {d : PyData} {xs vs : List V} {ds : List PyData}
theorem Zp.free (z : Zp G M H) (h : H p = none) : G p = none := by
  cases q : G p with
  | none => rfl
  | some o => rw [z.sub p o q] at h; cases h
theorem Zp.ne (z : Zp G M H) (h : H p = none) {i : Nat} {q : Addr} (e : M[i]? = some (q, o)) : q ≠ p := by
  rintro rfl
  rw [(z.own i q o e).1] at h
  cases h
theorem Same.new (h : G p = none) : Same G (upd G p o) := fun b u e => by
  rw [upd_ne (ne_of_none e h)]
  exact e
theorem Zp.new (z : Zp G M H) (h : H p = none) (o : HO) : Zp (upd G p o) M (upd H p o) where
  sub := fun a u e => by
    by_cases c : a = p
    · subst c
      rw [upd_same] at e ⊢
      exact e
    · rw [upd_ne c] at e ⊢
      exact z.sub a u e
  own := fun i q u e => by
    have ne := z.ne h e
    rw [upd_ne ne, upd_ne ne]
    exact z.own i q u e
  nd := z.nd
theorem Zp.add (z : Zp G M H) (h : H p = none) (o : HO) : Zp G (M ++ [(p, o)]) (upd H p o) where
  sub := fun a u e => by
    rw [upd_ne (ne_of_none (z.sub a u e) h)]
    exact z.sub a u e
  own := fun i q u e => by
    by_cases c : i < M.length
    · rw [List.getElem?_append_left c] at e
      rw [upd_ne (z.ne h e)]
      exact z.own i q u e
    · rw [List.getElem?_append_right (by omega)] at e
      have e0 : i - M.length = 0 := by
        cases n : i - M.length with
        | zero => rfl
        | succ k => rw [n] at e; simp at e
      rw [e0] at e
      obtain ⟨rfl, rfl⟩ : p = q ∧ o = u := by simpa using e
      exact ⟨upd_same, z.free h⟩
  nd := by
    rw [List.map_append, List.nodup_append]
    refine ⟨z.nd, by simp, fun x hx y hy => ?_⟩
    obtain ⟨⟨q, u⟩, hq, rfl⟩ := List.mem_map.mp hx
    obtain rfl : y = p := by simpa using hy
    obtain ⟨i, hi⟩ := List.getElem?_of_mem hq
    exact z.ne h hi
theorem Zp.at_ (z : Zp G M H) (i : Nat) (e : M[i]? = some (p, o)) : H p = some o := (z.own i p o e).1
theorem Zp.put (z : Zp G M H) (i : Nat) (e : M[i]? = some (p, o)) (o1 : HO) : Zp G (M.set i (p, o1)) (upd H p o1) where
  sub := fun a u q => by
    have n := (z.own i p o e).2
    rw [upd_ne (ne_of_none q n)]
    exact z.sub a u q
  own := fun j q u ej => by
    by_cases c : j = i
    · subst c
      rw [List.getElem?_set_self (List.getElem?_eq_some_iff.mp e).1] at ej
      obtain ⟨rfl, rfl⟩ : p = q ∧ o1 = u := by simpa using ej
      exact ⟨upd_same, (z.own j p o e).2⟩
    · rw [List.getElem?_set_ne (fun h => c h.symm)] at ej
      have ne : q ≠ p := by
        rintro rfl
        have hi := (List.getElem?_eq_some_iff.mp e).1
        have hj := (List.getElem?_eq_some_iff.mp ej).1
        have e1 : (M.map (·.1))[i]? = some q := by rw [List.getElem?_map, e]; rfl
        have e2 : (M.map (·.1))[j]? = some q := by rw [List.getElem?_map, ej]; rfl
        exact c ((List.getElem?_inj (by simpa using hj) z.nd).mp (e2.trans e1.symm))
      rw [upd_ne ne]
      exact z.own j q u ej
  nd := by
    have e1 : ((M.set i (p, o1)).map (·.1)) = M.map (·.1) := by
      rw [List.map_set]
      apply List.ext_getElem?
      intro j
      by_cases c : j = i
      · subst c
        have hi := (List.getElem?_eq_some_iff.mp e).1
        rw [List.getElem?_set_self (by simpa using hi), List.getElem?_map, e]
        rfl
      · rw [List.getElem?_set_ne (fun h => c h.symm)]
    rw [e1]
    exact z.nd
theorem Zp.fix (z : Zp G (M ++ [(p, o)]) H) : Zp (upd G p o) M H := by
  have e : (M ++ [(p, o)])[M.length]? = some (p, o) := by simp
  obtain ⟨h1, h2⟩ := z.own _ p o e
  have nd := z.nd
  rw [List.map_append, List.nodup_append] at nd
  refine ⟨fun a u q => ?_, fun i q u ei => ?_, nd.1⟩
  · by_cases c : a = p
    · subst c
      rw [upd_same] at q
      rw [h1]
      exact q
    · rw [upd_ne c] at q
      exact z.sub a u q
  · have hi := (List.getElem?_eq_some_iff.mp ei).1
    have ne : q ≠ p := by
      have := nd.2.2 q (List.mem_map.mpr ⟨(q, u), List.mem_of_getElem? ei, rfl⟩) p (by simp)
      exact this
    rw [upd_ne ne]
    exact z.own i q u (by rw [List.getElem?_append_left hi]; exact ei)
theorem Zp.cut (z : Zp G (M ++ M1) H) : Zp G M H where
  sub := z.sub
  own := fun i q u e => z.own i q u (by rw [List.getElem?_append_left (List.getElem?_eq_some_iff.mp e).1]; exact e)
  nd := by
    have nd := z.nd
    rw [List.map_append, List.nodup_append] at nd
    exact nd.1
theorem Zp.seqL (z : Zp G M H) (h : SqL K G a xs) : SqL K H a xs := by
  rcases h with (h | ⟨o, h⟩) | h
  · exact .inl (.inl (z.sub _ _ h))
  · exact .inl (.inr ⟨o, z.sub _ _ h⟩)
  · exact .inr h
theorem Zp.seqT (z : Zp G M H) (h : SqT K G a xs) : SqT K H a xs := by
  rcases h with (h | ⟨o, h⟩) | h
  · exact .inl (.inl (z.sub _ _ h))
  · exact .inl (.inr ⟨o, z.sub _ _ h⟩)
  · exact .inr h
theorem upL (s : Same G G1) (h : SqL K G a xs) : SqL K G1 a xs := s.seq h
theorem upT (s : Same G G1) (h : SqT K G a xs) : SqT K G1 a xs := by
  rcases h with (h | ⟨o, h⟩) | h
  · exact .inl (.inl (s _ _ h))
  · exact .inl (.inr ⟨o, s _ _ h⟩)
  · exact .inr h
theorem upR (s : Same G G1) (h : Rd G a o) : Rd G1 a o := by
  rcases h with h | ⟨o, h⟩
  · exact .inl (s _ _ h)
  · exact .inr ⟨o, s _ _ h⟩
end
mutual
theorem Dt.up {K : PySem.W.Frag} {G G1 : Hp} (s : Same G G1) : ∀ {v : V} {d : PyData}, Dt K G v d → Dt K G1 v d
  | _, _, .non => .non
  | _, _, .bl b => .bl b
  | _, _, .int i => .int i
  | _, _, .str x => .str x
  | _, _, .lst h a => .lst (upL s h) (Dts.up s a)
  | _, _, .tup h a => .tup (upT s h) (Dts.up s a)
  | _, _, .dct h k a => .dct (upR s h) k (Dts.up s a)
theorem Dts.up {K : PySem.W.Frag} {G G1 : Hp} (s : Same G G1) : ∀ {v : List V} {d : List PyData}, Dts K G v d → Dts K G1 v d
  | _, _, .nil => .nil
  | _, _, .cons h a => .cons (Dt.up s h) (Dts.up s a)
end
theorem Zp.dt {K : PySem.W.Frag} {G H : Hp} {M : List (Addr × HO)} {v : V} {d : PyData} (z : Zp G M H) (h : Dt K G v d) : Dt K H v d := h.up z.sub
end Ys
namespace Ys
open PySem PySem.Spec PyProof.Rows L2
/-! ### operators over any values -/
section
variable {X : Cx}
def rCatL (K : PySem.W.Frag) : R2 := fun x y H Q => ∃ l b xs zs, x = .ref l ∧ y = .ref b ∧ H l = some (.lst xs) ∧ H b = some (.lst zs) ∧ xs.length + zs.length ≤ sizeLine ∧ ∀ p, H p = none → Q (.ref p) (upd H p (.lst (xs ++ zs)))
def rStr2 : R2 := fun x y H Q => ∃ i j, x = .str i ∧ y = .str j ∧ i.length + j.length ≤ sizeLine ∧ Q (.str (i ++ j)) H
def rAddG (K : PySem.W.Frag) : R2 := fun x y H Q => rI0 (fun i j => .int (i + j)) x y H Q ∨ rStr2 x y H Q ∨ rCat x y H Q ∨ rCatA K x y H Q
theorem op_addG : OpR X (binaryOp .Add) (rAddG X.K) := op_add.or ((show OpR X (binaryOp .Add) rStr2 from op_add_str).or (op_cat.or op_catA))
def rEqLen (K : PySem.W.Frag) (r : Bool) : R2 := fun x y H Q => ∃ a b xs ys, x = V.ref a ∧ y = V.ref b ∧ SqL K H a xs ∧ SqL K H b ys ∧ xs.length ≠ ys.length ∧ Q (.bl r) H
theorem isl {X : Cx} {pins : List (Addr × Obj)} {σ : L2.St} {H : Hp} {s : Shared} {a : Addr} {xs : List V} (I : Inv X pins σ H s) (h : SqL X.K H a xs) : ∃ its : List Value, its.length = xs.length ∧ s.heap.IsList a its.toArray := by
  obtain ⟨its, rv, ⟨o, n, ho, hc, hx, hd⟩, _⟩ := I.list h
  exact ⟨its, rv.length.symm, o, ho, hc, n, hd⟩
theorem op_eqLen (hu : X.A.units + 64 < cLine) : OpR X (compareOp .Eq) (rEqLen X.K false) := by
  intro pins s σ H x y v u Q I rx ry ⟨a, b, xs, ys, e1, e2, h1, h2, hne, q⟩
  subst e1 e2
  cases rx
  cases ry
  obtain ⟨i1, l1, j1⟩ := isl I h1
  obtain ⟨i2, l2, j2⟩ := isl I h2
  exact PySem.SeqAt.RcAt.lists_lengths j1 j2 (by rw [List.size_toArray, List.size_toArray, l1, l2]; exact bne_iff_ne.mpr hne) (by omega) X.prog X.w X.xe _ ⟨.bl false, H, I, rfl, q⟩
theorem op_neLen (hu : X.A.units + 64 < cLine) : OpR X (compareOp .NotEq) (rEqLen X.K true) := by
  intro pins s σ H x y v u Q I rx ry ⟨a, b, xs, ys, e1, e2, h1, h2, hne, q⟩
  subst e1 e2
  cases rx
  cases ry
  obtain ⟨i1, l1, j1⟩ := isl I h1
  obtain ⟨i2, l2, j2⟩ := isl I h2
  exact PySem.SeqAt.RcNeAt.lists_lengths j1 j2 (by rw [List.size_toArray, List.size_toArray, l1, l2]; exact bne_iff_ne.mpr hne) (by omega) X.prog X.w X.xe _ ⟨.bl true, H, I, rfl, q⟩
def rEqG (K : PySem.W.Frag) : R2 := fun x y H Q => rEq x y H Q ∨ rEqD K x y H Q ∨ rEqLen K false x y H Q
def rNeG (K : PySem.W.Frag) : R2 := fun x y H Q => rNe x y H Q ∨ rNeD K x y H Q ∨ rEqLen K true x y H Q
theorem op_eqG (hu : X.A.units + 64 < cLine) : OpR X (compareOp .Eq) (rEqG X.K) := op_eq.or ((op_eqD hu).or (op_eqLen hu))
theorem op_neG (hu : X.A.units + 64 < cLine) : OpR X (compareOp .NotEq) (rNeG X.K) := op_ne.or ((op_neD hu).or (op_neLen hu))
def rSlG (K : PySem.W.Frag) : V → Option Int → Option Int → Hp → VK → Prop := fun x lo hi H Q => rSlL K x lo hi H Q ∨ rSlA K x lo hi H Q ∨ rSlS x lo hi H Q
theorem sl_any : SlR X (rSlG X.K) := sl_list.or (sl_tupA.or sl_str)
abbrev rMulG : R2 := rI CMulW fun i j => .int (i * j)
abbrev rDivG : R2 := rI CDivW fun i j => .int (i / j)
abbrev rModG : R2 := rI (fun _ j => 0 < j) fun i j => .int (i % j)
abbrev rPowG : R2 := rI CPow fun i j => .int (i ^ j.toNat)
abbrev rSubG : R2 := rI0 fun i j => .int (i - j)
abbrev rLtG : R2 := rI0 fun i j => .bl (decide (i < j))
abbrev rLeG : R2 := rI0 fun i j => .bl (decide (i ≤ j))
abbrev rGtG : R2 := rI0 fun i j => .bl (decide (j < i))
abbrev rGeG : R2 := rI0 fun i j => .bl (decide (j ≤ i))
theorem o_sub : OpR X (binaryOp .Sub) rSubG := op_sub
theorem o_mul : OpR X (binaryOp .Mult) rMulG := op_mulW
theorem o_div : OpR X (binaryOp .FloorDiv) rDivG := op_fdivW
theorem o_mod : OpR X (binaryOp .Mod) rModG := op_mod
theorem o_pow : OpR X (binaryOp .Pow) rPowG := op_pow
theorem o_lt : OpR X (compareOp .Lt) rLtG := op_lt
theorem o_le : OpR X (compareOp .LtE) rLeG := op_le
theorem o_gt : OpR X (compareOp .Gt) rGtG := op_gt
theorem o_ge : OpR X (compareOp .GtE) rGeG := op_ge
abbrev rIsNon : R2 := fun x y H Q => y = .non ∧ Q (.bl (decide (x = .non))) H
abbrev rNotNon : R2 := fun x y H Q => y = .non ∧ Q (.bl (!decide (x = .non))) H
theorem o_isN : OpR X (compareOp .Is) rIsNon := op_isN
theorem o_notN : OpR X (compareOp .IsNot) rNotNon := op_notN
def rInG (K : PySem.W.Frag) (neg : Bool) : R2 := fun x y H Q => (∃ c z, x = V.str ⟨#[c]⟩ ∧ y = V.str z ∧ Q (.bl (if neg then !decide (c ∈ z.cps.toList) else decide (c ∈ z.cps.toList))) H) ∨ rIn K neg x y H Q
theorem o_in : OpR X (compareOp .In) (rInG X.K false) := by
  refine OpR.or ?_ op_in_seq
  intro pins s σ H x y v u Q I rx ry ⟨c, z, e1, e2, q⟩
  exact op_in_sign pins s σ H x y v u Q I rx ry ⟨c, z, e1, e2, by simpa using q⟩
theorem o_notIn : OpR X (compareOp .NotIn) (rInG X.K true) := by
  refine OpR.or ?_ op_notIn_seq
  intro pins s σ H x y v u Q I rx ry ⟨c, z, e1, e2, q⟩
  exact op_notIn_sign pins s σ H x y v u Q I rx ry ⟨c, z, e1, e2, by simpa using q⟩
def rIntG : List V → Hp → VK → Prop := fun xs H Q => (∃ i, xs = [.int i] ∧ Q (.int i) H) ∨ ∃ k, xs = [.bl k] ∧ Q (.int (if k then 1 else 0)) H
theorem c_int : CallR X (.type "int") rIntG := call_int1
def rLenG (K : PySem.W.Frag) (P : Program) (w : World) : List V → Hp → VK → Prop := fun xs H Q => (∃ x n, xs = [x] ∧ LenV K x H n ∧ Q (.int n) H) ∨ rLenTx P w xs H Q
theorem c_len : CallR X (.builtin "len") (rLenG X.K X.prog X.w) := CallR.or call_len cr_lenTx
def rListG (K : PySem.W.Frag) : List V → Hp → VK → Prop := fun xs H Q => ∃ p ys, xs = [V.ref p] ∧ (SqL K H p ys ∨ SqT K H p ys) ∧ ∀ l, H l = none → Q (.ref l) (upd H l (.lst ys))
theorem c_list : CallR X (.type "list") (rListG X.K) := call_list_of
def rTupG (K : PySem.W.Frag) : List V → Hp → VK → Prop := fun xs H Q => ∃ p ys, xs = [V.ref p] ∧ ((SqL K H p ys ∧ ∀ l, H l = none → Q (.ref l) (upd H l (.tup ys))) ∨ (SqT K H p ys ∧ Q (.ref p) H))
theorem c_tuple : CallR X (.type "tuple") (rTupG X.K) := call_tuple_of
def rMin2 : List V → Hp → VK → Prop := fun xs H Q => ∃ i j, xs = [V.int i, V.int j] ∧ Q (.int (if j < i then j else i)) H
theorem c_min2 (hc : X.calm = true) : CallR X (.builtin "min") rMin2 := call_min2 hc
def rAllG (K : PySem.W.Frag) : List V → Hp → VK → Prop := fun vs H Q => ∃ (a : Addr) (bs : List Bool), vs = [V.ref a] ∧ SqL K H a (bs.map V.bl) ∧ Q (.bl (bs.all id)) H
theorem c_all (hc : X.calm = true) : CallR X (.builtin "all") (rAllG X.K) := cr_all hc
def rSortG (K : PySem.W.Frag) (P : Program) (w : World) : List V → Hp → VK → Prop := fun vs H Q => rSortTx P w vs H Q ∨ rSortedS K vs H Q
theorem c_sorted (hc : X.calm = true) : CallR X (.builtin "sorted") (rSortG X.K X.prog X.w) := CallR.or (cr_sortTx hc) cr_sortedS
end

/-! ### the steps of a reading -/
def Bif (c : Bool) (A B : Prop) : Prop := if c = true then A else B
def IsB (x : V) (H : Hp) (Q : Bool → Hp → Prop) : Prop := ∃ k, x = .bl k ∧ Q k H
def IsP (x : V) (H : Hp) (Q : Option Int → Hp → Prop) : Prop := ∃ i, x = .int i ∧ Q (some i) H
def NewT (xs : List V) (H : Hp) (Q : VK) : Prop := xs.length ≤ sizeLine ∧ ∀ p, H p = none → Q (.ref p) (upd H p (.tup xs))
def NewL (xs : List V) (H : Hp) (Q : VK) : Prop := xs.length ≤ sizeLine ∧ ∀ p, H p = none → Q (.ref p) (upd H p (.lst xs))
section
variable {K : PySem.W.Frag} {G H : Hp} {M : List (Addr × HO)} {σ : L2.St} {Q : VK} {QB : Bool → Hp → Prop} {QO : Option Int → Hp → Prop} {QA : List V → Hp → Prop} {D : Ends} {ta tb te : TE} {tt uu : TT} {tr t : TA} {t1 t2 : TS} {r : R2} {A B : Prop} {c : Bool} {v x y : V} {i j : Int} {k : Nat} {p a b : Addr} {xs ys vs : List V} {sp : Sp} {E : XK} {g : TG}
theorem z_var (h : σ[k]? = some (some v)) (q : Q v H) : tVar k σ H Q := ⟨v, h, q⟩
theorem z_c (q : Q v H) : tC v σ H Q := q
theorem z_op (h : ta σ H fun x H1 => tb σ H1 fun y H2 => r x y H2 Q) : tOp r ta tb σ H Q := h
theorem z_un {r : V → Hp → VK → Prop} (h : ta σ H fun x H1 => r x H1 Q) : tUn r ta σ H Q := h
theorem z_test (h : te σ H fun x H1 => IsB x H1 QB) : tTest te σ H QB := h
theorem z_tB (h : te σ H fun x H1 => IsB x H1 QB) : tB te σ H QB := h
theorem z_isB (q : QB c H) : IsB (.bl c) H QB := ⟨c, rfl, q⟩
theorem z_bT (h : A) : Bif true A B := by unfold Bif; rw [if_pos rfl]; exact h
theorem z_bF (h : B) : Bif false A B := by unfold Bif; rw [if_neg Bool.false_ne_true]; exact h
theorem z_b2 (h1 : c = true → A) (h2 : c = false → B) : Bif c A B := by
  cases c with
  | true => exact z_bT (h1 rfl)
  | false => exact z_bF (h2 rfl)
theorem z_bN (h : Bif c B A) : Bif (!c) A B := by cases c with | true => exact h | false => exact h
theorem z_bD {p : Prop} [Decidable p] (h1 : p → A) (h2 : ¬ p → B) : Bif (decide p) A B := z_b2 (fun h => h1 (of_decide_eq_true h)) fun h => h2 (of_decide_eq_false h)
theorem z_and (h : tt σ H fun c H1 => Bif c (uu σ H1 QB) (QB false H1)) : tAnd tt uu σ H QB := h
theorem z_or (h : tt σ H fun c H1 => Bif c (QB true H1) (uu σ H1 QB)) : tOr tt uu σ H QB := h
theorem z_not (h : tt σ H fun c H1 => QB (!c) H1) : tNot tt σ H QB := h
theorem z_andV (h : ta σ H fun x H1 => IsB x H1 fun c H1 => Bif c (tb σ H1 Q) (Q (.bl false) H1)) : tAndV ta tb σ H Q := h
theorem z_orV (h : ta σ H fun x H1 => IsB x H1 fun c H1 => Bif c (Q (.bl true) H1) (tb σ H1 Q)) : tOrV ta tb σ H Q := h
theorem z_notV (h : ta σ H fun x H1 => IsB x H1 fun c H1 => Q (.bl (!c)) H1) : tNotV ta σ H Q := h
theorem z_if (h : tt σ H fun c H1 => Bif c (ta σ H1 Q) (tb σ H1 Q)) : tIf tt ta tb σ H Q := h
theorem z_nil (q : QA [] H) : tNil σ H QA := q
theorem z_cons (h : ta σ H fun x H1 => tr σ H1 fun xs H2 => QA (x :: xs) H2) : tCons ta tr σ H QA := h
theorem z_tup (h : t σ H fun xs H1 => NewT xs H1 Q) : tTup t σ H Q := h
theorem z_lst (h : t σ H fun xs H1 => NewL xs H1 Q) : tLst t σ H Q := h
theorem z_cb {r : List V → Hp → VK → Prop} (h : t σ H fun vs H1 => r vs H1 Q) : tCB r t σ H Q := h
theorem z_call {dvs : List V} (h : t σ H fun vs H1 => sp (vs ++ dvs) H1 Q E) : tCall sp dvs E t σ H Q := h
theorem z_sl {r : V → Option Int → Option Int → Hp → VK → Prop} {tl th : TO} (h : te σ H fun x H1 => tl σ H1 fun l H2 => th σ H2 fun u H3 => r x l u H3 Q) : tSl r te tl th σ H Q := h
theorem z_np (q : QO none H) : tNoPart σ H QO := q
theorem z_part (h : te σ H fun x H1 => IsP x H1 QO) : tPart te σ H QO := h
theorem z_isP (q : QO (some i) H) : IsP (.int i) H QO := ⟨i, rfl, q⟩
theorem z_seq (h : t1 ⟨t2 D, D.rt, D.bk, D.ct⟩ σ H) : tSeq t1 t2 D σ H := h
theorem z_asg (h : te σ H fun x H1 => g x σ H1 D.nx) : tAsg te g D σ H := h
theorem z_name {R : L2.St → Hp → Prop} (q : R (σ.set k (some v)) H) : gName k v σ H R := q
theorem z_ifS (h : tt σ H fun b H1 => Bif b (t1 D σ H1) (t2 D σ H1)) : tIfS tt t1 t2 D σ H := h
theorem z_ret (h : te σ H D.rt) : tRet te D σ H := h
theorem z_retN (q : D.rt .non H) : tRetN D σ H := q
theorem z_drop (h : te σ H fun _ H1 => D.nx σ H1) : tDrop te D σ H := h
theorem z_next (q : D.nx σ H) : tNext D σ H := q
theorem z_par {k l : Nat} {w : V} (h : t σ H fun vs H1 => ∃ v w, vs = [v, w] ∧ D.nx ((σ.set k (some v)).set l (some w)) H1) : tPar k l t D σ H := h
theorem z_dget (h : ta σ H fun x H1 => tb σ H1 fun y H2 => ∃ a v, x = .ref a ∧ DGet H2 a y (some v) ∧ Q v H2) : tDGet ta tb σ H Q := h

/-! new objects -/
theorem z_newT (z : Zp G M H) (hl : xs.length ≤ 100000) (q : ∀ p G1 H1, Zp G1 M H1 → Same G G1 → G1 p = some (.tup xs) → Q (.ref p) H1) : NewT xs H Q :=
  ⟨Nat.le_trans hl (by decide), fun p hp => q p _ _ (z.new hp _) (Same.new (z.free hp)) upd_same⟩
theorem z_newL (z : Zp G M H) (hl : xs.length ≤ 100000) (q : ∀ p G1 H1, Zp G1 M H1 → Same G G1 → G1 p = some (.lst xs) → Q (.ref p) H1) : NewL xs H Q :=
  ⟨Nat.le_trans hl (by decide), fun p hp => q p _ _ (z.new hp _) (Same.new (z.free hp)) upd_same⟩
theorem z_ownL (z : Zp G M H) (hl : xs.length ≤ 100000) (q : ∀ p H1, Zp G (M ++ [(p, .lst xs)]) H1 → Q (.ref p) H1) : NewL xs H Q :=
  ⟨Nat.le_trans hl (by decide), fun p hp => q p _ (z.add hp _)⟩

/-! operators -/
theorem z_addI (q : Q (.int (i + j)) H) : rAddG K (.int i) (.int j) H Q := .inl ⟨i, j, rfl, rfl, q⟩
theorem z_addS {x y : Str} (hl : x.length + y.length ≤ 100000) (q : Q (.str (x ++ y)) H) : rAddG K (.str x) (.str y) H Q := .inr (.inl ⟨x, y, rfl, rfl, Nat.le_trans hl (by decide), q⟩)
theorem z_addL (z : Zp G M H) (h1 : G a = some (.lst xs)) (h2 : G b = some (.lst ys)) (hl : xs.length + ys.length ≤ 100000) (q : ∀ p G1 H1, Zp G1 M H1 → Same G G1 → G1 p = some (.lst (xs ++ ys)) → Q (.ref p) H1) : rAddG K (.ref a) (.ref b) H Q :=
  .inr (.inr (.inl ⟨a, b, xs, ys, rfl, rfl, z.sub _ _ h1, z.sub _ _ h2, Nat.le_trans hl (by decide), fun p hp => q p _ _ (z.new hp _) (Same.new (z.free hp)) upd_same⟩))
theorem z_addT (z : Zp G M H) (h1 : SqT K G a xs) (h2 : SqT K G b ys) (hl : xs.length + ys.length ≤ 100000) (q : ∀ p G1 H1, Zp G1 M H1 → Same G G1 → SqT K G1 p (xs ++ ys) → Q (.ref p) H1) : rAddG K (.ref a) (.ref b) H Q := by
  refine .inr (.inr (.inr ⟨a, b, xs, ys, rfl, rfl, z.seqT h1, z.seqT h2, Nat.le_trans hl (by decide), fun e => ?_, fun _ e => ?_, fun _ _ p hp => ?_⟩))
  · subst e
    exact q b G H z (Same.refl G) h2
  · subst e
    exact q a G H z (Same.refl G) (by rw [List.append_nil]; exact h1)
  · exact q p _ _ (z.new hp _) (Same.new (z.free hp)) (SqT.of upd_same)
theorem z_I0 {f : Int → Int → V} (q : Q (f i j) H) : rI0 f (.int i) (.int j) H Q := ⟨i, j, rfl, rfl, q⟩
theorem z_I {C : Int → Int → Prop} {f : Int → Int → V} (h : C i j) (q : Q (f i j) H) : rI C f (.int i) (.int j) H Q := ⟨i, j, rfl, rfl, h, q⟩
theorem z_eqS (h : scal x y = true) (q : Q (.bl (decide (x = y))) H) : rEqG K x y H Q := .inl ⟨h, q⟩
theorem z_neS (h : scal x y = true) (q : Q (.bl (!decide (x = y))) H) : rNeG K x y H Q := .inl ⟨h, q⟩
theorem z_eqD {d e : PyData} (z : Zp G M H) (h1 : Dt K G x d) (h2 : Dt K G y e) (c1 : SeqAt.shaped d = true) (c2 : SeqAt.shaped e = true) (q : Q (.bl (PyData.eqv d e)) H) : rEqG K x y H Q :=
  .inr (.inl ⟨d, e, Dt.dp d x (SeqAt.canLay_of_shaped c1) (z.dt h1), Dt.dp e y (SeqAt.canLay_of_shaped c2) (z.dt h2), c1, c2, q⟩)
theorem z_neD {d e : PyData} (z : Zp G M H) (h1 : Dt K G x d) (h2 : Dt K G y e) (c1 : SeqAt.shaped d = true) (c2 : SeqAt.shaped e = true) (q : Q (.bl (!PyData.eqv d e)) H) : rNeG K x y H Q :=
  .inr (.inl ⟨d, e, Dt.dp d x (SeqAt.canLay_of_shaped c1) (z.dt h1), Dt.dp e y (SeqAt.canLay_of_shaped c2) (z.dt h2), c1, c2, q⟩)
theorem z_ixL (z : Zp G M H) (h : SqL K G a xs) (e : atI xs i = some v) (q : Q v H) : rIx K (.ref a) (.int i) H Q := .inl ⟨a, xs, i, v, rfl, rfl, z.seqL h, e, q⟩
theorem z_ixT (z : Zp G M H) (h : SqT K G a xs) (e : atI xs i = some v) (q : Q v H) : rIx K (.ref a) (.int i) H Q := .inr (.inl ⟨a, xs, i, v, rfl, rfl, z.seqT h, e, q⟩)
theorem z_ixS {s : Str} {ch : Nat} (hl : s.length ≤ 100000) (e : atI s.cps.toList i = some ch) (q : Q (.str ⟨#[ch]⟩) H) : rIx K (.str s) (.int i) H Q := .inr (.inr ⟨s, i, ch, rfl, rfl, Nat.le_trans hl (by decide), e, q⟩)
theorem z_slL {lo hi : Option Int} (z : Zp G M H) (h : SqL K G a xs) (q : ∀ p G1 H1, Zp G1 M H1 → Same G G1 → G1 p = some (.lst (cutV xs lo hi)) → Q (.ref p) H1) : rSlG K (.ref a) lo hi H Q :=
  .inl ⟨a, xs, rfl, z.seqL h, fun p hp => q p _ _ (z.new hp _) (Same.new (z.free hp)) upd_same⟩
theorem sIx_all {lo hi : Option Int} (h : HT.sIx xs.length 0 lo = 0 ∧ HT.sIx xs.length xs.length hi = xs.length) : cutV xs lo hi = xs := by
  unfold cutV
  rw [h.1, h.2]
  simp
theorem z_slT {lo hi : Option Int} (z : Zp G M H) (h : SqT K G a xs) (q : ∀ p G1 H1, Zp G1 M H1 → Same G G1 → SqT K G1 p (cutV xs lo hi) → Q (.ref p) H1) : rSlG K (.ref a) lo hi H Q :=
  .inr (.inl ⟨a, xs, rfl, z.seqT h, fun e => q a G H z (Same.refl G) (by rw [sIx_all e]; exact h), fun _ p hp => q p _ _ (z.new hp _) (Same.new (z.free hp)) (SqT.of upd_same)⟩)
theorem z_slS {s : Str} {lo hi : Option Int} (hl : s.length ≤ 100000) (q : Q (.str (cutS s lo hi)) H) : rSlG K (.str s) lo hi H Q := .inr (.inr ⟨s, rfl, Nat.le_trans hl (by decide), q⟩)
/-! calls of what is built in -/
theorem z_int (q : Q (.int i) H) : rIntG [.int i] H Q := .inl ⟨i, rfl, q⟩
theorem z_lenL {P : Program} {w : World} (z : Zp G M H) (h : SqL K G a xs) (q : Q (.int xs.length) H) : rLenG K P w [.ref a] H Q := .inl ⟨_, _, rfl, .inl ⟨xs, z.seqL h, rfl⟩, q⟩
end
end Ys
namespace Ys
open PySem PySem.Spec PyProof.Rows L2
/-! ### sorted, different texts: one list alone -/
theorem ltCps_irr : ∀ xs : List Nat, ltCps xs xs = false := fun xs => by rw [ltCps_eq]; exact decide_eq_false (fun h => List.lt_irrefl xs h)
def leS (a b : Str) : Bool := !decide (b.cps.toList < a.cps.toList)
theorem leS_total (a b : Str) : (leS a b || leS b a) = true := by
  unfold leS
  by_cases h : b.cps.toList < a.cps.toList
  · have : ¬ a.cps.toList < b.cps.toList := fun h2 => List.lt_asymm h h2
    simp [h, this]
  · simp [h]
theorem leS_trans (a b c : Str) (h1 : leS a b = true) (h2 : leS b c = true) : leS a c = true := by
  unfold leS at *
  simp only [Bool.not_eq_true', decide_eq_false_iff_not, List.not_lt] at *
  exact List.le_trans h1 h2
theorem leS_anti {a b : Str} (h1 : leS a b = true) (h2 : leS b a = true) : a = b := by
  unfold leS at *
  simp only [Bool.not_eq_true', decide_eq_false_iff_not, List.not_lt] at *
  have e := List.le_antisymm h1 h2
  obtain ⟨⟨x⟩⟩ := a
  obtain ⟨⟨y⟩⟩ := b
  simp only at e
  rw [e]
theorem sortedS_pw : ∀ l : List Str, sortedS l = true → l.Pairwise (fun a b => leS a b = true)
  | [], _ => List.Pairwise.nil
  | x :: r, h => by
    have go : ∀ (r : List Str) (x : Str), risingS x r = true → (x :: r).Pairwise (fun a b => leS a b = true) := by
      intro r
      induction r with
      | nil => intro x _; exact List.pairwise_singleton _ _
      | cons y r ih =>
        intro x h
        obtain ⟨h1, h2⟩ := Bool.and_eq_true_iff.mp (show (!ltCps y.cps.toList x.cps.toList && risingS y r) = true from h)
        have hxy : leS x y = true := by
          unfold leS
          rw [← ltCps_eq]
          exact h1
        have p := ih y h2
        refine List.pairwise_cons.mpr ⟨fun z hz => ?_, p⟩
        rcases List.mem_cons.mp hz with rfl | hz
        · exact hxy
        · exact leS_trans _ _ _ hxy (List.rel_of_pairwise_cons p hz)
    exact go r x h
theorem perm_one {l m : List Str} (p : l.Perm m) (h1 : l.Pairwise (fun a b => leS a b = true)) (h2 : m.Pairwise (fun a b => leS a b = true)) : l = m :=
  List.Perm.eq_of_pairwise (le := fun a b => leS a b = true) (fun a b _ _ x y => leS_anti x y) h1 h2 p
def dd : List Str → List Str
  | [] => []
  | x :: r => if x ∈ r then dd r else x :: dd r
theorem mem_dd {x : Str} : ∀ {xs : List Str}, x ∈ dd xs ↔ x ∈ xs
  | [] => by simp [dd]
  | y :: r => by
    have ih := mem_dd (x := x) (xs := r)
    unfold dd
    by_cases h : y ∈ r
    · rw [if_pos h, ih, List.mem_cons]
      exact ⟨.inr, fun z => z.elim (fun e => e ▸ h) id⟩
    · rw [if_neg h, List.mem_cons, List.mem_cons, ih]
theorem dd_nodup : ∀ xs : List Str, (dd xs).Nodup
  | [] => List.nodup_nil
  | y :: r => by
    unfold dd
    by_cases h : y ∈ r
    · rw [if_pos h]
      exact dd_nodup r
    · rw [if_neg h]
      exact List.nodup_cons.mpr ⟨fun z => h (mem_dd.mp z), dd_nodup r⟩
def asc (xs : List Str) : List Str := (dd xs).mergeSort leS
theorem asc_mem {x : Str} {xs : List Str} : x ∈ asc xs ↔ x ∈ xs := by
  unfold asc
  rw [(List.mergeSort_perm _ _).mem_iff]
  exact mem_dd
theorem asc_nodup (xs : List Str) : (asc xs).Nodup := (List.mergeSort_perm _ _).nodup_iff.mpr (dd_nodup xs)
theorem asc_pw (xs : List Str) : (asc xs).Pairwise (fun a b => leS a b = true) := List.pairwise_mergeSort leS_trans leS_total _
theorem asc_is {xs ys l : List Str} (h1 : ys.Perm l) (h2 : sortedS ys = true) (nd : l.Nodup) (m : ∀ x, x ∈ l ↔ x ∈ xs) : ys = asc xs := by
  refine perm_one ?_ (sortedS_pw ys h2) (asc_pw xs)
  refine (List.perm_ext_iff_of_nodup (h1.nodup_iff.mpr nd) (asc_nodup xs)).mpr fun x => ?_
  rw [h1.mem_iff, m x, asc_mem]
theorem asc_congr {xs ys : List Str} (m : ∀ x, x ∈ xs ↔ x ∈ ys) : asc xs = asc ys := by
  refine perm_one ?_ (asc_pw _) (asc_pw _)
  exact (List.perm_ext_iff_of_nodup (asc_nodup xs) (asc_nodup ys)).mpr fun x => by rw [asc_mem, asc_mem, m x]
end Ys
namespace Ys
open PySem PySem.Spec PyProof.Rows L2
section
variable {K : PySem.W.Frag} {P : Program} {w : World} {G H : Hp} {M : List (Addr × HO)} {σ : L2.St} {Q : VK} {QB : Bool → Hp → Prop} {QA : List V → Hp → Prop} {D : Ends} {ta tb te : TE} {tt : TT} {t : TA} {ts : TS} {A : Prop} {v x y : V} {i j : Int} {k : Nat} {a b : Addr} {xs ys vs : List V} {g : TG}
/-! ### calls of what is built in -/
theorem z_lenT (z : Zp G M H) (h : SqT K G a xs) (q : Q (.int xs.length) H) : rLenG K P w [.ref a] H Q := .inl ⟨_, _, rfl, .inr ⟨xs, z.seqT h, rfl⟩, q⟩
theorem z_lenO (z : Zp G M H) (k : Nat) (e : M[k]? = some (a, .lst xs)) (q : Q (.int xs.length) H) : rLenG K P w [.ref a] H Q := .inl ⟨_, _, rfl, .inl ⟨xs, SqL.of (z.at_ k e), rfl⟩, q⟩
theorem z_lenS {s : Str} (hl : s.length ≤ 100000) (q : Q (.int s.length) H) : rLenG K P w [.str s] H Q := .inl ⟨_, _, rfl, ⟨Nat.le_trans hl (by decide), rfl⟩, q⟩
theorem z_lenX {l : List Str} (z : Zp G M H) (h : G a = some (TxO P w a l)) (hl : l.length < 1000) (q : Q (.int l.length) H) : rLenG K P w [.ref a] H Q := .inr ⟨a, l, rfl, z.sub _ _ h, hl, q⟩
theorem z_listG (z : Zp G M H) (h : SqL K G a xs ∨ SqT K G a xs) (q : ∀ p G1 H1, Zp G1 M H1 → Same G G1 → G1 p = some (.lst xs) → Q (.ref p) H1) : rListG K [.ref a] H Q :=
  ⟨a, xs, rfl, h.imp z.seqL z.seqT, fun p hp => q p _ _ (z.new hp _) (Same.new (z.free hp)) upd_same⟩
theorem z_listO (z : Zp G M H) (h : SqL K G a xs ∨ SqT K G a xs) (q : ∀ p H1, Zp G (M ++ [(p, .lst xs)]) H1 → Q (.ref p) H1) : rListG K [.ref a] H Q :=
  ⟨a, xs, rfl, h.imp z.seqL z.seqT, fun p hp => q p _ (z.add hp _)⟩
theorem z_tupL (z : Zp G M H) (h : SqL K G a xs) (q : ∀ p G1 H1, Zp G1 M H1 → Same G G1 → SqT K G1 p xs → Q (.ref p) H1) : rTupG K [.ref a] H Q :=
  ⟨a, xs, rfl, .inl ⟨z.seqL h, fun p hp => q p _ _ (z.new hp _) (Same.new (z.free hp)) (SqT.of upd_same)⟩⟩
theorem z_tupO (z : Zp G M H) (k : Nat) (e : M[k]? = some (a, .lst xs)) (q : ∀ p G1 H1, Zp G1 M H1 → Same G G1 → SqT K G1 p xs → Q (.ref p) H1) : rTupG K [.ref a] H Q :=
  ⟨a, xs, rfl, .inl ⟨SqL.of (z.at_ k e), fun p hp => q p _ _ (z.new hp _) (Same.new (z.free hp)) (SqT.of upd_same)⟩⟩
theorem z_tupT (z : Zp G M H) (h : SqT K G a xs) (q : Q (.ref a) H) : rTupG K [.ref a] H Q := ⟨a, xs, rfl, .inr ⟨z.seqT h, q⟩⟩
theorem z_set {ss : List Str} (z : Zp G M H) (h : SqL K G a (ss.map V.str) ∨ SqT K G a (ss.map V.str)) (hl : ss.length < 1000)
    (q : ∀ p l G1 H1, Zp G1 M H1 → Same G G1 → G1 p = some (TxO P w p l) → (∀ x, x ∈ l ↔ x ∈ ss) → l.Nodup → l.length ≤ ss.length → Q (.ref p) H1) : rSetTx K P w [.ref a] H Q :=
  ⟨a, ss, rfl, h.imp z.seqL z.seqT, hl, fun p l m nd len hp => q p l _ _ (z.new hp _) (Same.new (z.free hp)) upd_same m nd len⟩
theorem z_sortX {l ss : List Str} (z : Zp G M H) (h : G a = some (TxO P w a l)) (m : ∀ x, x ∈ l ↔ x ∈ ss) (nd : l.Nodup) (hl : l.length < 64) (q : ∀ p G1 H1, Zp G1 M H1 → Same G G1 → G1 p = some (.lst ((asc ss).map V.str)) → Q (.ref p) H1) :
    rSortG K P w [.ref a] H Q := .inl ⟨a, l, rfl, z.sub _ _ h, hl, fun ys p pm so hp => by
  rw [asc_is pm so nd m]
  exact q p _ _ (z.new hp _) (Same.new (z.free hp)) upd_same⟩
theorem z_all {bs : List Bool} (z : Zp G M H) (h : SqL K G a (bs.map V.bl)) (q : Q (.bl (bs.all id)) H) : rAllG K [.ref a] H Q := ⟨a, bs, rfl, z.seqL h, q⟩
theorem z_min2 (q : Q (.int (if j < i then j else i)) H) : rMin2 [.int i, .int j] H Q := ⟨i, j, rfl, q⟩
theorem z_repr {d : PyData} (z : Zp G M H) (h : Dt K G x d) (s1 : d.showable = true) (s2 : d.depth ≤ 60) (s3 : d.shown.length ≤ 100000) (q : Q (.str d.shown) H) : rRepr K [x] H Q := ⟨x, d, rfl, z.dt h, s1, s2, Nat.le_trans s3 (by decide), q⟩
/-! methods -/
def TyV (K : PySem.W.Frag) (T : String) (x : V) (H : Hp) (A : Prop) : Prop := tyV K T x H ∧ A
theorem z_bm {T : String} {r : V → List V → Hp → VK → Prop} (h : te σ H fun x H1 => TyV K T x H1 (t σ H1 fun xs H2 => r x xs H2 Q)) : tBM K T r te t σ H Q := h
theorem z_bm0 {T : String} {r : V → List V → Hp → VK → Prop} (h : te σ H fun x H1 => TyV K T x H1 (r x [] H1 Q)) : tBM0 K T r te σ H Q := h
theorem z_tyO (z : Zp G M H) (k : Nat) (e : M[k]? = some (a, .lst xs)) (q : A) : TyV K "list" (.ref a) H A := ⟨.inl ⟨rfl, _, SqL.of (z.at_ k e)⟩, q⟩
theorem z_tyL (z : Zp G M H) (e : SqL K G a xs) (q : A) : TyV K "list" (.ref a) H A := ⟨.inl ⟨rfl, _, z.seqL e⟩, q⟩
theorem z_append (z : Zp G M H) (k : Nat) (e : M[k]? = some (a, .lst xs)) (hl : xs.length ≤ 100000) (q : ∀ H1, Zp G (M.set k (a, .lst (xs ++ [v]))) H1 → Q .non H1) : rAppend (.ref a) [v] H Q :=
  ⟨a, xs, v, rfl, rfl, z.at_ k e, Nat.lt_of_le_of_lt hl (by decide), q _ (z.put k e _)⟩
theorem seqIx {n : Nat} {i : Int} (h0 : 0 ≤ i) (h1 : i < n) : seqIndex? i n = some i.toNat := by
  obtain ⟨k, rfl⟩ := Int.eq_ofNat_of_zero_le h0
  have := atI_get (atI_nat (xs := List.replicate n ()) (j := k) (v := ()) (by
    have : k < n := by omega
    simp [this]))
  obtain ⟨j, e1, e2, e3, _⟩ := this
  rw [List.length_replicate] at e1
  have hk : (ixN n (k : Int)) = some k := by
    unfold ixN
    rw [if_pos (by omega), if_pos h1]
    rfl
  have := (ixN_seq hk).1
  rw [this]
  rfl
theorem z_popAt (z : Zp G M H) (k : Nat) (e : M[k]? = some (a, .lst xs)) (h0 : 0 ≤ i) (h1 : i < xs.length) (hl : xs.length ≤ 100000) (ev : xs[i.toNat]? = some v) (q : ∀ H1, Zp G (M.set k (a, .lst (xs.eraseIdx i.toNat))) H1 → Q v H1) :
    rPopAt (.ref a) [.int i] H Q := ⟨a, xs, i, i.toNat, v, rfl, rfl, z.at_ k e, by omega, by omega, seqIx h0 h1, ev, q _ (z.put k e _)⟩
theorem z_extend {b : Addr} (z : Zp G M H) (k : Nat) (e : M[k]? = some (a, .lst xs)) (h : G b = some (.lst ys)) (hl : xs.length + ys.length ≤ 100000) (q : ∀ H1, Zp G (M.set k (a, .lst (xs ++ ys))) H1 → Q .non H1) : rExtend (.ref a) [.ref b] H Q :=
  ⟨a, b, xs, ys, rfl, rfl, z.at_ k e, z.sub _ _ h, Nat.le_trans hl (by decide), q _ (z.put k e _)⟩
def IsS (x : V) (A : Prop) : Prop := (∃ a, x = .str a) ∧ A
theorem z_m1 {r : V → List V → Hp → VK → Prop} (h : ta σ H fun x H1 => IsS x (te σ H1 fun y H2 => r x [y] H2 Q)) : tM1 r ta te σ H Q := h
theorem z_isS {s : Str} (q : A) : IsS (.str s) A := ⟨⟨s, rfl⟩, q⟩
def rJoin (K : PySem.W.Frag) : V → List V → Hp → VK → Prop := fun x xs H Q => ∃ a p, ∃ ys : List Str, x = .str a ∧ xs = [.ref p] ∧ (SqL K H p (ys.map V.str) ∨ SqT K H p (ys.map V.str)) ∧ (ys.map (·.length)).sum + ys.length * a.length ≤ 16777216 ∧ Q (.str (Txt.join a ys)) H
theorem z_join {s : Str} {ss : List Str} (z : Zp G M H) (h : SqL K G a (ss.map V.str)) (hl : (ss.map (·.length)).sum + ss.length * s.length ≤ 100000) (q : Q (.str (Txt.join s ss)) H) : rJoin K (.str s) [.ref a] H Q :=
  ⟨s, a, ss, rfl, rfl, .inl (z.seqL h), Nat.le_trans hl (by decide), q⟩
/-! ### targets of several names -/
def UnpT (K : PySem.W.Frag) (n : Nat) (t : TGs) (v : V) (σ : L2.St) (H : Hp) (R : L2.St → Hp → Prop) : Prop := gTup K n t v σ H R
theorem z_gtup {n : Nat} {u : TGs} {R : L2.St → Hp → Prop} (z : Zp G M H) (h : SqT K G a xs) (hl : xs.length = n) (q : u xs σ H R) : gTup K n u (.ref a) σ H R := ⟨a, xs, rfl, z.seqT h, hl, q⟩
theorem z_gunl {n : Nat} {u : TGs} {R : L2.St → Hp → Prop} (z : Zp G M H) (h : SqL K G a xs) (hl : xs.length = n) (q : u xs σ H R) : gUnl K n u (.ref a) σ H R := ⟨a, xs, rfl, z.seqL h, hl, q⟩
theorem z_gnil {R : L2.St → Hp → Prop} (q : R σ H) : gNil [] σ H R := ⟨rfl, q⟩
theorem z_gcons {u : TGs} {R : L2.St → Hp → Prop} (q : g v σ H fun σ' H' => u xs σ' H' R) : gCons g u (v :: xs) σ H R := ⟨v, xs, rfl, q⟩
/-! ### what is walked -/
structure Src (J : It) (xs : List V) (OK : Hp → Prop) : Prop where
  go : ∀ i H, OK H → i < xs.length → J.go i H
  stop : ∀ i H, OK H → xs.length ≤ i → J.stop i H
  yld : ∀ i H x H', OK H → i < xs.length → J.yld i H x H' → H' = H ∧ xs[i]? = some x
theorem src_L {xs : List V} : Src (Itl K a) xs (fun H => SqL K H a xs) where
  go := fun i H h hi => ⟨xs, xs[i], h, by simp [hi]⟩
  stop := fun i H h hi => ⟨xs, h, hi⟩
  yld := fun i H x H' h _ y => ⟨y.1, y.2 xs h⟩
theorem src_T {xs : List V} : Src (Itt K a) xs (fun H => SqT K H a xs) where
  go := fun i H h hi => ⟨xs, xs[i], h, by simp [hi]⟩
  stop := fun i H h hi => ⟨xs, h, hi⟩
  yld := fun i H x H' h _ y => ⟨y.1, y.2 xs h⟩
def rngV (lo : Int) (n : Nat) : List V := (List.range n).map fun (i : Nat) => V.int (lo + (i : Int))
theorem rngV_len (lo : Int) (n : Nat) : (rngV lo n).length = n := by simp [rngV]
theorem src_R {lo : Int} {n : Nat} : Src (Itr lo n) (rngV lo n) (fun _ => True) where
  go := fun i H _ hi => by rw [rngV_len] at hi; exact hi
  stop := fun i H _ hi => by rw [rngV_len] at hi; exact hi
  yld := fun i H x H' _ hi y => ⟨y.1, by
    rw [rngV_len] at hi
    rw [y.2]
    simp [rngV, hi]⟩
def chrV (s : Str) : List V := s.cps.toList.map fun c => V.str ⟨#[c]⟩
theorem chrV_len (s : Str) : (chrV s).length = s.length := by simp [chrV]; rfl
theorem src_S {s : Str} : Src (Its s) (chrV s) (fun _ => True) where
  go := fun i H _ hi => by rw [chrV_len] at hi; exact hi
  stop := fun i H _ hi => by rw [chrV_len] at hi; exact hi
  yld := fun i H x H' _ _ y => by
    obtain ⟨e, c, h1, h2⟩ := y
    refine ⟨e, ?_⟩
    unfold chrV
    rw [List.getElem?_map, Array.getElem?_toList, h1, h2]
    rfl
/-! ### for -/
def ForW (J : It) (g : TG) (tb : TS) (D : Ends) (σ : L2.St) (H : Hp) : Prop := ∃ W : Nat → Nat → L2.St → Hp → Prop, (∃ m, W 0 m σ H) ∧ ∀ i m σ H, W i m σ H →
  (J.stop i H ∧ D.nx σ H) ∨ (J.go i H ∧ ∃ N : L2.St → Hp → Prop, (∀ σ' H', N σ' H' → ∃ m', m' < m ∧ W (i + 1) m' σ' H') ∧ ∀ x H', J.yld i H x H' → g x σ H' fun σ2 H2 => tb { D with nx := N, ct := N, bk := D.nx } σ2 H2)
theorem z_for {wi : TI} {tb : TS} (h : wi σ H fun J H1 => ForW J g tb D σ H1) : tFor wi g tb D σ H := h
theorem for_src {J : It} {tb : TS} {OK : Hp → Prop} (S : Src J xs OK) (I : Nat → L2.St → Hp → List (Addr × HO) → Prop) (z : Zp G M H) (h0 : I 0 σ G M) (ok : ∀ i σ G M H, I i σ G M → Zp G M H → OK H)
    (turn : ∀ i x σ G M H, xs[i]? = some x → I i σ G M → Zp G M H → g x σ H fun σ2 H2 => tb ⟨fun σ' H' => ∃ G' M', Zp G' M' H' ∧ I (i + 1) σ' G' M', D.rt, D.nx, fun σ' H' => ∃ G' M', Zp G' M' H' ∧ I (i + 1) σ' G' M'⟩ σ2 H2)
    (done : ∀ σ G M H, I xs.length σ G M → Zp G M H → D.nx σ H) : ForW J g tb D σ H := by
  refine ⟨fun i m σ H => m = xs.length - i ∧ i ≤ xs.length ∧ ∃ G M, Zp G M H ∧ I i σ G M, ⟨xs.length, by simp, Nat.zero_le _, G, M, z, h0⟩, ?_⟩
  rintro i m σ H ⟨rfl, hi, G, M, z, h⟩
  have o := ok i σ G M H h z
  by_cases c : i < xs.length
  · refine .inr ⟨S.go i H o c, fun σ' H' => ∃ G' M', Zp G' M' H' ∧ I (i + 1) σ' G' M', fun σ' H' q => ⟨xs.length - (i + 1), by omega, rfl, c, q⟩, fun x H' y => ?_⟩
    obtain ⟨rfl, e⟩ := S.yld i H x H' o c y
    exact turn i x σ G M H' e h z
  · obtain rfl : i = xs.length := by omega
    exact .inl ⟨S.stop _ H o (Nat.le_refl _), done σ G M H h z⟩
/-! ### comprehensions -/
def LcW (J : It) (g : TG) (tt : TT) (te : TE) (ws : List Nat) (σ : L2.St) (H1 : Hp) (Q : VK) : Prop := ∀ D, H1 D = none → ∃ W : Nat → Nat → Hp → Prop, (∃ m, W 0 m (upd H1 D (.lst []))) ∧ ∀ i m H, W i m H →
  (J.stop i H ∧ Q (.ref D) H) ∨ (J.go i H ∧ ∃ Nx : Hp → Prop, (∀ H', Nx H' → ∃ m', m' < m ∧ W (i + 1) m' H') ∧ ∀ x H', J.yld i H x H' → g x (wipe σ ws) H' fun σ2 H2 => wipe σ2 ws = wipe σ ws ∧ tt σ2 H2 fun b H3 =>
    if b = true then te σ2 H3 fun y H4 => ∃ acc, H4 D = some (.lst acc) ∧ acc.length < sizeLine ∧ Nx (upd H4 D (.lst (acc ++ [y]))) else Nx H3)
theorem z_lc {wi : TI} {ws : List Nat} (h : wi σ H fun J H1 => LcW J g tt te ws σ H1 Q) : tLc wi g tt te ws σ H Q := h
def Kept (I : Hp → List (Addr × HO) → List V → Prop) (D : Addr) (H : Hp) : Prop := ∃ G M acc, Zp G (M ++ [(D, .lst acc)]) H ∧ I G M acc
def Laid (I : Hp → List (Addr × HO) → List V → Prop) (D : Addr) (y : V) (H : Hp) : Prop := ∃ acc, H D = some (.lst acc) ∧ acc.length < sizeLine ∧ Kept I D (upd H D (.lst (acc ++ [y])))
theorem last_at {M : List (Addr × HO)} {p : Addr × HO} : (M ++ [p])[M.length]? = some p := by simp
theorem z_laid {I : Hp → List (Addr × HO) → List V → Prop} {Dl : Addr} {acc : List V} (z : Zp G (M ++ [(Dl, .lst acc)]) H) (hl : acc.length ≤ 100000) (q : I G M (acc ++ [y])) : Laid I Dl y H := by
  refine ⟨acc, z.at_ M.length last_at, Nat.lt_of_le_of_lt hl (by decide), G, M, acc ++ [y], ?_, q⟩
  have := z.put M.length last_at (.lst (acc ++ [y]))
  rw [List.set_append_right _ _ (Nat.le_refl _), Nat.sub_self] at this
  exact this
theorem z_left {I : Hp → List (Addr × HO) → List V → Prop} {Dl : Addr} {acc : List V} (z : Zp G (M ++ [(Dl, .lst acc)]) H) (q : I G M acc) : Kept I Dl H := ⟨G, M, acc, z, q⟩
theorem lc_src {J : It} {ws : List Nat} {OK : Hp → Prop} (S : Src J xs OK) (I : Nat → Hp → List (Addr × HO) → List V → Prop) (z : Zp G M H) (h0 : I 0 G M []) (ok : ∀ i G M M1 acc H, I i G M acc → Zp G (M ++ M1) H → OK H)
    (turn : ∀ i x G M acc Dl H, xs[i]? = some x → I i G M acc → Zp G (M ++ [(Dl, .lst acc)]) H → g x (wipe σ ws) H fun σ2 H2 => wipe σ2 ws = wipe σ ws ∧ tt σ2 H2 fun b H3 =>
      Bif b (te σ2 H3 fun y H4 => Laid (I (i + 1)) Dl y H4) (Kept (I (i + 1)) Dl H3))
    (done : ∀ p G M acc G1 H1, I xs.length G M acc → Same G G1 → Zp G1 M H1 → G1 p = some (.lst acc) → Q (.ref p) H1) : LcW J g tt te ws σ H Q := by
  intro Dl hD
  refine ⟨fun i m H => m = xs.length - i ∧ i ≤ xs.length ∧ Kept (I i) Dl H, ⟨xs.length, by simp, Nat.zero_le _, G, M, [], z.add hD _, h0⟩, ?_⟩
  rintro i m H ⟨rfl, hi, G, M, acc, z, h⟩
  have o := ok i G M _ acc H h z
  by_cases c : i < xs.length
  · refine .inr ⟨S.go i H o c, Kept (I (i + 1)) Dl, fun H' q => ⟨xs.length - (i + 1), by omega, rfl, c, q⟩, fun x H' y => ?_⟩
    obtain ⟨rfl, e⟩ := S.yld i H x H' o c y
    exact turn i x G M acc Dl H' e h z
  · obtain rfl : i = xs.length := by omega
    refine .inl ⟨S.stop _ H o (Nat.le_refl _), done Dl G M acc _ H h (Same.new ?_) z.fix upd_same⟩
    exact (z.own M.length _ _ last_at).2
theorem z_yes (q : QB true H) : tYes σ H QB := q
/-! what a for or a comprehension begins with -/
def ItL (K : PySem.W.Frag) (x : V) (H : Hp) (R : It → Hp → Prop) : Prop := ∃ a, x = .ref a ∧ (∃ xs, SqL K H a xs) ∧ R (Itl K a) H
def ItT (K : PySem.W.Frag) (x : V) (H : Hp) (R : It → Hp → Prop) : Prop := ∃ a, x = .ref a ∧ (∃ xs, SqT K H a xs) ∧ R (Itt K a) H
def ItS (x : V) (H : Hp) (R : It → Hp → Prop) : Prop := ∃ s, x = .str s ∧ R (Its s) H
def ItR (vs : List V) (H : Hp) (R : It → Hp → Prop) : Prop := ∃ j : Int, vs = [.int j] ∧ -(2 ^ 62) ≤ j ∧ j < 2 ^ 62 ∧ R (Itr 0 j.toNat) H
variable {R : It → Hp → Prop}
theorem z_iL (h : te σ H fun x H1 => ItL K x H1 R) : iList K te σ H R := h
theorem z_iT (h : te σ H fun x H1 => ItT K x H1 R) : iTup K te σ H R := h
theorem z_iS (h : te σ H fun x H1 => ItS x H1 R) : iStr te σ H R := h
theorem z_iR (h : t σ H fun vs H1 => ItR vs H1 R) : iRng1 t σ H R := h
theorem z_itL (z : Zp G M H) (h : SqL K G a xs) (q : R (Itl K a) H) : ItL K (.ref a) H R := ⟨a, rfl, ⟨xs, z.seqL h⟩, q⟩
theorem z_itT (z : Zp G M H) (h : SqT K G a xs) (q : R (Itt K a) H) : ItT K (.ref a) H R := ⟨a, rfl, ⟨xs, z.seqT h⟩, q⟩
theorem z_itS {s : Str} (q : R (Its s) H) : ItS (.str s) H R := ⟨s, rfl, q⟩
theorem z_itR {j : Int} (h0 : -(2 ^ 62) ≤ j) (h1 : j < 2 ^ 62) (q : R (Itr 0 j.toNat) H) : ItR [.int j] H R := ⟨j, rfl, h0, h1, q⟩
/-! ### a call of a def of the module -/
structure Own (P : Program) (w : World) (K : PySem.W.Frag) (mg : Str → Option Value) (base : Heap) (CX : CXT) (k : Nat) (x : Str) (ps : List Str) (sp : Sp) : Prop where
  ex : ∃ f fd, FnOk P w K mg base CX k f fd ps sp ∧ mg x = some (.ref f) ∧ PySem.W.keepIn K (.ref f) = true ∧ Binds K fd ps []
theorem pe_own {X : Cx} {CX : CXT} {k : Nat} {x : Str} {ps : List Str} {sp : Sp} {E : XK} {p pos : Pos} {e : Expr} {es : List Expr} {t : TA} (C : Own X.prog X.w X.K X.mg X.base CX k x ps sp) (hr : Room k X.A) (hg : Gl X x) (hx : Passes CX X E) (ha : PA X (e :: es) t)
    (hdb : (x == ("__debug__" : Str)) = false := by decide) (he : starEach (e :: es) X.env = (false, eval e X.env) :: starEach es X.env := by rfl) (hpl : (backTo pos (starEach es X.env)).any (·.1) = false := by rfl) :
    PE X (.Call (.Name x p) (e :: es) [] pos) (tCall sp [] E t) := by
  refine ⟨fun pins s σ H Q I h => ?_⟩
  obtain ⟨f, fd, F, hm, hk, hb⟩ := C.ex
  exact (pe_call F hr hg hm hk hb .nil hx ha hdb he hpl).run pins s σ H Q I h
end
end Ys
namespace Ys
open PySem PySem.Spec PyProof.Rows L2
section
variable {K : PySem.W.Frag} {P : Program} {w : World} {G G1 H : Hp} {M M1 : List (Addr × HO)} {σ : L2.St} {Q : VK} {QB : Bool → Hp → Prop} {D : Ends} {tc : TT} {tb t1 t2 : TS} {A B : Prop} {v x y : V} {i j : Int} {a b p : Addr} {xs ys vs : List V} {o : HO} {u : Addr × HO}
theorem Zp.perm (z : Zp G M H) (h : M.Perm M1) : Zp G M1 H where
  sub := z.sub
  own := fun i q o e => by
    obtain ⟨j, hj⟩ := List.getElem?_of_mem (h.mem_iff.mpr (List.mem_of_getElem? e))
    exact z.own j q o hj
  nd := (h.map _).nodup_iff.mp z.nd
theorem Zp.keep (z : Zp G M H) (h : M1.Sublist M) : Zp G M1 H where
  sub := z.sub
  own := fun i q o e => by
    obtain ⟨j, hj⟩ := List.getElem?_of_mem (h.subset (List.mem_of_getElem? e))
    exact z.own j q o hj
  nd := (h.map _).nodup z.nd
theorem Zp.addP (z : Zp G (u :: M) H) (h : H p = none) (o : HO) : Zp G (u :: (p, o) :: M) (upd H p o) :=
  (z.add h o).perm (by
    rw [List.cons_append]
    exact List.Perm.cons _ (List.perm_append_comm (l₁ := M) (l₂ := [(p, o)])))
theorem Zp.drop2 (z : Zp G (u :: (p, o) :: M) H) : Zp G (u :: M) H :=
  Zp.cut (M := u :: M) (M1 := [(p, o)]) (z.perm (by
    rw [List.cons_append]
    exact List.Perm.cons _ (List.perm_append_comm (l₁ := [(p, o)]) (l₂ := M))))
theorem Zp.fix2 (z : Zp G (u :: (p, o) :: M) H) : Zp (upd G p o) (u :: M) H ∧ G p = none :=
  have z2 : Zp G ((u :: M) ++ [(p, o)]) H := z.perm (by
    rw [List.cons_append]
    exact List.Perm.cons _ (List.perm_append_comm (l₁ := [(p, o)]) (l₂ := M)))
  ⟨z2.fix, (z2.own (u :: M).length p o (by simp)).2⟩
theorem z_listP (z : Zp G (u :: M) H) (h : SqL K G a xs ∨ SqT K G a xs) (q : ∀ p H1, Zp G (u :: (p, .lst xs) :: M) H1 → Q (.ref p) H1) : rListG K [.ref a] H Q :=
  ⟨a, xs, rfl, h.imp z.seqL z.seqT, fun p hp => q p _ (z.addP hp _)⟩
theorem z_ownP (z : Zp G (u :: M) H) (hl : xs.length ≤ 100000) (q : ∀ p H1, Zp G (u :: (p, .lst xs) :: M) H1 → Q (.ref p) H1) : NewL xs H Q :=
  ⟨Nat.le_trans hl (by decide), fun p hp => q p _ (z.addP hp _)⟩
theorem z_bd {p : Prop} {i : Decidable p} (h1 : p → A) (h2 : ¬ p → B) : Bif (@decide p i) A B := z_bD h1 h2
theorem z_cut (I : L2.St → Hp → Prop) (h1 : ∀ nx, (∀ σ H, I σ H → nx σ H) → t1 ⟨nx, D.rt, D.bk, D.ct⟩ σ H) (h2 : ∀ σ H, I σ H → t2 D σ H) : tSeq t1 t2 D σ H := h1 (t2 D) h2
theorem mw (h1 : -18446744073709551616 < i) (h2 : i < 18446744073709551616) (h3 : -18446744073709551616 < j) (h4 : j < 18446744073709551616) : CMulW i j := wide_mul (a := 64) (b := 64) (by omega) (by omega) (by decide) (by decide) (by decide)
theorem dw (h1 : 0 < j) (h2 : j ≤ 1000000000) : CDivW i j := wide_div (b := 30) h1 (by omega) (by decide) (by decide)
def Par2 (k l : Nat) (D : Ends) (σ : L2.St) (vs : List V) (H1 : Hp) : Prop := ∃ v w, vs = [v, w] ∧ D.nx ((σ.set k (some v)).set l (some w)) H1
theorem z_pr {k l : Nat} {t : TA} (h : t σ H (Par2 k l D σ)) : tPar k l t D σ H := h
theorem z_pr2 {k l : Nat} (q : D.nx ((σ.set k (some x)).set l (some y)) H) : Par2 k l D σ [x, y] H := ⟨x, y, rfl, q⟩
theorem rng_at {lo : Int} {n k : Nat} {x : V} (h : (rngV lo n)[k]? = some x) : k < n ∧ x = .int (lo + (k : Int)) := by
  have hi := (List.getElem?_eq_some_iff.mp h).1
  rw [rngV_len] at hi
  refine ⟨hi, ?_⟩
  unfold rngV at h
  rw [List.getElem?_map, List.getElem?_range hi] at h
  exact (Option.some.inj h).symm
/-! ### while -/
def WhB (I : Nat → L2.St → Hp → List (Addr × HO) → Prop) (n : Nat) (tb : TS) (D : Ends) (σ : L2.St) (b : Bool) (H1 : Hp) : Prop :=
  if b = true then ∃ N : L2.St → Hp → Prop, (∀ σ' H', N σ' H' → ∃ m', m' < n ∧ ∃ G M, Zp G M H' ∧ I m' σ' G M) ∧ tb { D with nx := N, ct := N, bk := D.nx } σ H1 else D.nx σ H1
theorem z_while (I : Nat → L2.St → Hp → List (Addr × HO) → Prop) (n : Nat) (z : Zp G M H) (h0 : I n σ G M) (turn : ∀ n σ G M H, I n σ G M → Zp G M H → tc σ H (WhB I n tb D σ)) : tWhile tc tb D σ H :=
  ⟨fun m σ H => ∃ G M, Zp G M H ∧ I m σ G M, ⟨n, G, M, z, h0⟩, fun m σ H ⟨G, M, z, h⟩ => turn m σ G M H h z⟩
theorem z_whT {I : Nat → L2.St → Hp → List (Addr × HO) → Prop} {n : Nat} (h : tb ⟨fun σ' H' => ∃ m', m' < n ∧ ∃ G M, Zp G M H' ∧ I m' σ' G M, D.rt, D.nx, fun σ' H' => ∃ m', m' < n ∧ ∃ G M, Zp G M H' ∧ I m' σ' G M⟩ σ H) : WhB I n tb D σ true H := by
  unfold WhB
  rw [if_pos rfl]
  exact ⟨_, fun _ _ h => h, h⟩
theorem z_whF {I : Nat → L2.St → Hp → List (Addr × HO) → Prop} {n : Nat} (h : D.nx σ H) : WhB I n tb D σ false H := by
  unfold WhB
  rw [if_neg Bool.false_ne_true]
  exact h
/-! ### data -/
theorem dts_int : ∀ cells : List Int, Dts K G (cells.map V.int) (cells.map PyData.int)
  | [] => .nil
  | c :: cs => .cons (.int c) (dts_int cs)
theorem dts_str : ∀ ss : List Str, Dts K G (ss.map V.str) (ss.map PyData.str)
  | [] => .nil
  | c :: cs => .cons (.str c) (dts_str cs)
def El (K : PySem.W.Frag) (G : Hp) (v : V) : Prop := ∃ d, Dt K G v d ∧ d.canLay0 = true ∧ d.depth ≤ 60
theorem El.up (s : Same G G1) : El K G v → El K G1 v := fun ⟨d, h, c⟩ => ⟨d, h.up s, c⟩
theorem El.str {s : Str} (h : PyData.strOk s = true) : El K G (.str s) := ⟨.str s, .str s, h, Nat.zero_le _⟩
theorem El.int (i : Int) : El K G (.int i) := ⟨.int i, .int i, rfl, Nat.zero_le _⟩
theorem El.non : El K G .non := ⟨.none, .non, rfl, Nat.zero_le _⟩
theorem El.all : ∀ {xs : List V}, (∀ v ∈ xs, El K G v) → ∃ ds, Dts K G xs ds ∧ PyData.canLayAll0 ds = true ∧ PyData.depthAll ds ≤ 60 ∧ (ds = [] ↔ xs = [])
  | [], _ => ⟨[], .nil, rfl, by decide, by simp⟩
  | x :: xs, h => by
    obtain ⟨d, h1, h2, h3⟩ := h x (List.mem_cons_self ..)
    obtain ⟨ds, g1, g2, g3, _⟩ := El.all (xs := xs) fun v hv => h v (List.mem_cons_of_mem _ hv)
    refine ⟨d :: ds, .cons h1 g1, ?_, ?_, by simp⟩
    · show (d.canLay0 && PyData.canLayAll0 ds) = true
      rw [h2, g2]
      rfl
    · show max d.depth (PyData.depthAll ds) ≤ 60
      omega
theorem shp {ds : List PyData} (c : PyData.canLayAll0 ds = true) (d : PyData.depthAll ds ≤ 60) : SeqAt.shaped (.list ds) = true := by
  unfold SeqAt.shaped
  have e : PyData.canLay0 (.list ds) = true := c
  have e2 : PyData.depth (.list ds) = PyData.depthAll ds + 1 := rfl
  rw [e, e2]
  simp
  omega
theorem shpT {ds : List PyData} (c : PyData.canLayAll0 ds = true) (d : PyData.depthAll ds ≤ 60) : SeqAt.shaped (.tuple ds) = true := by
  unfold SeqAt.shaped
  have e : PyData.canLay0 (.tuple ds) = true := c
  have e2 : PyData.depth (.tuple ds) = PyData.depthAll ds + 1 := rfl
  rw [e, e2]
  simp
  omega
theorem z_neNil (hl : SqL K H a xs) (h2 : H b = some (.lst [])) (q : Q (.bl (decide (xs ≠ []))) H) : rNeG K (.ref a) (.ref b) H Q := by
  cases xs with
  | nil => exact .inr (.inl ⟨.list [], .list [], Dt.dp _ _ rfl (.lst hl .nil), Dt.dp _ _ rfl (.lst (SqL.of h2) .nil), rfl, rfl, q⟩)
  | cons x xs => exact .inr (.inr ⟨a, b, _, [], rfl, rfl, hl, SqL.of h2, by simp, q⟩)
theorem z_eqNil (hl : SqL K H a xs) (h2 : H b = some (.lst [])) (q : Q (.bl (decide (xs = []))) H) : rEqG K (.ref a) (.ref b) H Q := by
  cases xs with
  | nil => exact .inr (.inl ⟨.list [], .list [], Dt.dp _ _ rfl (.lst hl .nil), Dt.dp _ _ rfl (.lst (SqL.of h2) .nil), rfl, rfl, q⟩)
  | cons x xs => exact .inr (.inr ⟨a, b, _, [], rfl, rfl, hl, SqL.of h2, by simp, q⟩)
/-! ### a dict that is written down -/
variable {ps : List (V × V)} {tk tv : TE} {trs : List (TE × TE)} {QP : List (V × V) → Hp → Prop}
def DispE (p : Addr) (ps : List (V × V)) (H : Hp) (Q : VK) : Prop := H p = some (.dK []) ∧ ∃ kvs : List (Key × V), ps = kvs.map (fun kv => (kV kv.1, kv.2)) ∧ kvs.length ≤ 15 ∧ Q (.ref p) (upd H p (.dK (mergeK [] kvs)))
theorem z_disp (z : Zp G M H) (h : ∀ p H1, Zp G (M ++ [(p, .dK [])]) H1 → tPairs trs σ H1 fun ps H2 => DispE p ps H2 Q) : tDisp trs σ H Q := fun p hp => h p _ (z.add hp _)
theorem z_pn (q : QP [] H) : tPairs [] σ H QP := q
theorem z_pc (h : tk σ H fun x H1 => tv σ H1 fun y H2 => tPairs trs σ H2 fun ps H3 => QP ((x, y) :: ps) H3) : tPairs ((tk, tv) :: trs) σ H QP := h
theorem z_dispE (z : Zp G (M ++ [(p, .dK [])]) H) (kvs : List (Key × V)) (e : ps = kvs.map (fun kv => (kV kv.1, kv.2))) (hl : kvs.length ≤ 15) (q : ∀ H3, Zp G (M ++ [(p, .dK (mergeK [] kvs))]) H3 → Q (.ref p) H3) : DispE p ps H Q := by
  refine ⟨z.at_ M.length last_at, kvs, e, hl, q _ ?_⟩
  have := z.put M.length last_at (.dK (mergeK [] kvs))
  rw [List.set_append_right _ _ (Nat.le_refl _), Nat.sub_self] at this
  exact this
/-! ### looks into lists -/
theorem at_in {α : Type} {xs : List α} {i : Int} (h0 : 0 ≤ i) (h1 : i < xs.length) : ∃ v, v ∈ xs ∧ atI xs i = some v := by
  obtain ⟨k, rfl⟩ := Int.eq_ofNat_of_zero_le h0
  have hk : k < xs.length := by omega
  exact ⟨xs[k], List.getElem_mem hk, atI_nat (by simp [hk])⟩
theorem cut_map {α : Type} (f : α → V) (xs : List α) (lo hi : Option Int) : cutV (xs.map f) lo hi = ((xs.drop (HT.sIx xs.length 0 lo)).take (HT.sIx xs.length xs.length hi - HT.sIx xs.length 0 lo)).map f := by
  unfold cutV
  rw [List.length_map, List.map_take, List.map_drop]
end
end Ys
namespace Ys
open PySem PySem.Spec PyProof.Rows L2 TL
theorem erase_perm {α : Type} : ∀ {zs : List α} {k : Nat} (h : k < zs.length), (zs[k] :: zs.eraseIdx k).Perm zs
  | x :: xs, 0, _ => List.Perm.refl _
  | x :: xs, k + 1, h => by
    show (xs[k]'(by simpa using h) :: x :: xs.eraseIdx k).Perm (x :: xs)
    exact (List.Perm.swap _ _ _).trans (List.Perm.cons _ (erase_perm (by simpa using h)))
/-! ### words -/
def Lt (s : Str) : Prop := ∀ c ∈ s.cps.toList, 97 ≤ c ∧ c ≤ 122
def Wd (s : Str) : Prop := 1 ≤ s.length ∧ s.length ≤ 8 ∧ Lt s
theorem Lt.app {x y : Str} (hx : Lt x) (hy : Lt y) : Lt (x ++ y) := fun c hc => by
  have e : (x ++ y).cps.toList = x.cps.toList ++ y.cps.toList := by
    show (x.cps ++ y.cps).toList = _
    rw [Array.toList_append]
  rw [e] at hc
  rcases List.mem_append.mp hc with h | h
  · exact hx c h
  · exact hy c h
theorem Lt.cut {x : Str} (hx : Lt x) (lo hi : Option Int) : Lt (cutS x lo hi) := fun c hc => hx c (List.mem_of_mem_drop (List.mem_of_mem_take (by simpa [cutS] using hc)))
theorem len_app (x y : Str) : (x ++ y).length = x.length + y.length := PySem.Str.length_append x y
theorem Lt.one {c : Nat} (h : 97 ≤ c ∧ c ≤ 122) : Lt ⟨#[c]⟩ := fun d hd => by
  obtain rfl : d = c := by simpa using hd
  exact h
theorem Lt.ok {s : Str} (h : Lt s) : PyData.strOk s = true := by
  unfold PyData.strOk
  rw [Array.all_eq_true_iff_forall_mem]
  intro c hc
  have := (h c (by simpa using hc)).2
  exact decide_eq_true (by omega)
theorem abc_mem {c : Nat} (h : c ∈ (("abcdefghijklmnopqrstuvwxyz" : Str)).cps.toList) : 97 ≤ c ∧ c ≤ 122 := by
  have e : (("abcdefghijklmnopqrstuvwxyz" : Str)).cps.toList = (List.range 26).map (· + 97) := by decide +kernel
  rw [e] at h
  obtain ⟨k, hk, rfl⟩ := List.mem_map.mp h
  have := List.mem_range.mp hk
  omega
theorem abc_len : (("abcdefghijklmnopqrstuvwxyz" : Str)).length = 26 := by decide +kernel
theorem joinL0 : ∀ {ps : List (List Nat)} {c : Nat}, c ∈ joinL [] ps → ∃ p ∈ ps, c ∈ p
  | [], _, h => by simp [joinL] at h
  | [p], _, h => ⟨p, by simp, by simpa [joinL] using h⟩
  | p :: q :: r, c, h => by
    have h' : c ∈ p ++ ([] ++ joinL [] (q :: r)) := by simpa [joinL] using h
    rcases List.mem_append.mp h' with h | h
    · exact ⟨p, by simp, h⟩
    · obtain ⟨x, hx, hc⟩ := joinL0 (ps := q :: r) (by simpa using h)
      exact ⟨x, List.mem_cons_of_mem _ hx, hc⟩
theorem Lt.join {ss : List Str} (h : ∀ s ∈ ss, Lt s) : Lt (Txt.join "" ss) := fun c hc => by
  have e : (Txt.join "" ss).cps.toList = joinL (tl ("" : Str)) (ss.map tl) := by
    rw [join_eq]
    exact tl_join "" ss
  have e0 : tl ("" : Str) = [] := by decide +kernel
  rw [e, e0] at hc
  obtain ⟨p, hp, hc⟩ := joinL0 hc
  obtain ⟨s, hs, rfl⟩ := List.mem_map.mp hp
  exact h s hs c hc
theorem cutS_len (x : Str) (lo hi : Option Int) : (cutS x lo hi).length = HT.sIx x.length x.length hi - HT.sIx x.length 0 lo := by
  have h2 := HT.sIx_le x.length x.length (Nat.le_refl _) hi
  show ((((x.cps.toList.drop (HT.sIx x.length 0 lo)).take (HT.sIx x.length x.length hi - HT.sIx x.length 0 lo)).toArray).size) = _
  rw [List.size_toArray, List.length_take, List.length_drop, Array.length_toList]
  show min _ (x.length - _) = _
  omega
section
variable {X : Cx} {o e : Expr} {to te : TE}
theorem pe_joinG {apos pos : Pos} (ho : PE X o to) (he : PE X e te) (hs : starEach [e] X.env = [(false, eval e X.env)] := by rfl) (hbase : attributeBase o "join" X.env (eval o X.env) = eval o X.env := by rfl) (hline : (apos.endLine == pos.line) = true := by rfl) :
    PE X (.Call (.Attribute o "join" apos) [e] [] pos) (tM1 (rJoin X.K) to te) := pe_join ho he hs hbase hline
end
end Ys
namespace Ys
open PySem PySem.Spec PyProof.Rows L2
section
variable {M : Model} {prog : Program} {w : World} {A : Around} {E : Value → Shared → Prop} {s : Shared} {K : PySem.W.Frag} {x C f : Addr} {ox : Obj} {od : Option Obj} {b tb : Value}
theorem ifBound_objNe {args : List Value} {Q : Option Value → Shared → Prop} (X : K.In s.heap) (I : PySem.W.InstAt s.heap x ox C od) (hs : PySem.W.findIn K (.ref C) "__ne__" = some (some (.builtin "object.__ne__")))
    (h : wpAny M A (call (.builtin "object.__ne__") (.ref x :: args)) (fun v => Q (some v)) E s) : wpAny M A (callSpecialIfBound? (.ref x) "__ne__" args) Q E s := by
  simp only [callSpecialIfBound?, bindSpecialIfBound?]
  refine wpAny_holding (wpAny_bind (wpAny_bind (wpAny_bind (I.type.here ((PySem.W.looks_findIn X hs).here ?_)))))
  refine wpAny_bind (wpAny_askSetting (wpAny_ite ?_))
  have fin : wpAny M A (call (.builtin "object.__ne__") ([.ref x] ++ args) >>= fun v => pure (some v)) Q E s := wpAny_bind (wpAny_mono h (fun v s' h' => wpAny_pure h') fun _ _ h' => h')
  split
  · exact wpAny_bind (wpAny_of_eq (F.cmp_object.ne.bind _) (wpAny_pure (by exact fin)))
  · exact wpAny_tryCatch (wpAny_bind (wpAny_of_eq (F.cmp_object.ne.bind _) (wpAny_pure (by exact fin))))
def BackB (Q : Bool → Shared → Prop) (v : Value) (s' : Shared) : Prop := ∃ r, v = .bool r ∧ Q r s'
theorem ne_K {Q : Value → Shared → Prop} (hu : A.units + 1 < cLine) (X : K.In s.heap) (I : PySem.W.InstAt s.heap x ox C od) (hb : PySem.W.Looks (model prog w) s.heap (typeOf b) tb) (hn : PySem.W.notFirst K C tb = true)
    (hm : PySem.W.mroIn K C (.type "object") = some true) (hs : PySem.W.findIn K (.ref C) "__ne__" = some (some (.builtin "object.__ne__"))) (he : PySem.W.findIn K (.ref C) "__eq__" = some (some (.ref f))) (hf : PySem.W.isFn K (.ref f) = true)
    (h : wpAny (model prog w) A.in1 (call (.ref f) [.ref x, b]) (BackB fun r s' => Q (.bool (!r)) s') E s) : wpAny (model prog w) A (richCompare .NotEq (.ref x) b) Q E s := by
  have ent : wpAny (model prog w) A.in1 (Builtin.«object.__ne__» ⟨[.ref x, b], []⟩) (fun r s' => ∃ v, r = .done (.ret (.bool v)) ∧ Q (.bool v) s') E s := by
    unfold Builtin.«object.__ne__»
    repeat (first
      | with_reducible refine wpAny_cRoomFor hu ?_
      | (refine wpAny_bind (m := callSpecialIfBound? (.ref x) (Str.ofString "__eq__") [b])
          (PySem.W.ifBound_K X I he hf (wpAny_mono h (fun r s' hr => by
            obtain ⟨b, rfl, hq⟩ := hr
            repeat (first | exact ⟨_, rfl, hq⟩ | exact wpAny_pure ⟨_, rfl, hq⟩ | (refine wpAny_bind (m := truthy (.bool _)) (wpAny_truthy_bool ?_)) | wp_step)) fun _ _ e => e)))
      | wp_step)
  have one : wpAny (model prog w) A (tryCompare (.ref x) "__ne__" b) (fun r s' => ∃ v, r = some v ∧ Q v s') E s := by
    unfold tryCompare
    refine wpAny_bind (ifBound_objNe X I hs ?_)
    refine wpAny_call (codeAny_call_builtin F.cmp_object.ne.plain F.cmpEntry_ne (PySem.W.check_slot F.cmpKind_ne F.cmpSplit_ne (I.type.andThen (PySem.W.looks_mroIn X hm)) (F.cmpArgs_ne _ _) ?_))
    refine wpAny_mono ent (fun r s' hq => ?_) fun _ _ e => e
    obtain ⟨v, rfl, hq⟩ := hq
    first
      | exact wpAny_pure ⟨_, rfl, hq⟩
      | exact ⟨_, rfl, wpAny_pure ⟨_, rfl, hq⟩⟩
  unfold richCompare
  simp only [oneThing_ref]
  refine wpAny_holding (wpAny_bind (wpAny_cRoomFor (Nat.lt_of_succ_lt hu) ?_))
  refine wpAny_bind (I.type.here (wpAny_bind (hb.here ?_)))
  split
  · rename_i q
    have e : PySem.W.subIn K tb (.ref C) = some false := by
      rcases Bool.or_eq_true_iff.mp hn with e | e
      · rw [beq_iff_eq.mp e] at q; simp at q
      · exact beq_iff_eq.mp e
    refine wpAny_bind ((PySem.W.looks_subIn X e).here ?_)
    simp only [Bool.false_eq_true, if_false]
    refine wpAny_bind (wpAny_mono one (fun r s' z => ?_) fun _ _ e => e)
    obtain ⟨v, rfl, hq⟩ := z
    exact wpAny_pure hq
  · refine wpAny_bind (wpAny_pure ?_)
    simp only [Bool.false_eq_true, if_false]
    refine wpAny_bind (wpAny_mono one (fun r s' z => ?_) fun _ _ e => e)
    obtain ⟨v, rfl, hq⟩ := z
    exact wpAny_pure hq
end
section
variable {X : Cx} {CX : CXT} {n : Nat} {C f : Addr} {fd : FuncData} {ps : List Str} {sp : Sp} {E : XK}
def rEqI (K : PySem.W.Frag) (C : Addr) (sp : Sp) (E : XK) : R2 := fun x y H Q => ∃ a dx fs t, x = .ref a ∧ H a = some (.ins C dx fs) ∧ TyX K H y t ∧ PySem.W.notFirst K C t = true ∧ sp [x, y] H (fun v H' => ∃ b, v = .bl b ∧ Q (.bl b) H') E
def rNeI (K : PySem.W.Frag) (C : Addr) (sp : Sp) (E : XK) : R2 := fun x y H Q => ∃ a dx fs t, x = .ref a ∧ H a = some (.ins C dx fs) ∧ TyX K H y t ∧ PySem.W.notFirst K C t = true ∧ sp [x, y] H (fun v H' => ∃ b, v = .bl b ∧ Q (.bl (!b)) H') E
theorem op_eqI (F : FnOk X.prog X.w X.K X.mg X.base CX n f fd ps sp) (hs : PySem.W.findIn X.K (.ref C) "__eq__" = some (some (.ref f))) (hf : PySem.W.isFn X.K (.ref f) = true) (hb : Binds X.K fd ps []) (hx : Passes CX X E) (hr : Room n X.A) :
    OpR X (compareOp .Eq) (rEqI X.K C sp E) := by
  intro pins s σ H x y v u Q I rx ry ⟨a, dx, fs, t, e1, ha, ty, nf, q⟩
  subst e1
  cases rx
  obtain ⟨mA, J, _⟩ := ins_get I.hok ha
  obtain ⟨od, J, _⟩ := J.look
  obtain ⟨P, Z, p, _⟩ := kit_of I ry ty
  obtain ⟨m, hF⟩ := I.fr
  show wpAny (model X.prog X.w) X.A (richCompare .Eq (.ref a) u) (EP X pins σ Q) X.xe s
  refine PySem.W.cmp_K (op := .Eq) (tb := t) hr.units0 hF I.ok.mod.kin J (Z.ty _ _ I.kIn p) nf hs hf ?_
  have hl := F.len _ _ _ _ q
  refine wpAny_call (codeAny_mono (F.run X.A X.stack s H ⟨[.ref a, u], []⟩ [.ref a, u] [.ref a, y] _ E hr I.env0 (by
    have := hb s [.ref a, u] I.kIn (by simpa using hl)
    simpa using this) (.cons rfl (.cons ry .nil)) q) fun r s' hq => ?_)
  cases r with
  | error e => exact hx pins σ H s e s' I hq
  | ok fl =>
    cases fl with
    | ret w =>
      obtain ⟨z, H', I', rz, b, rfl, q2⟩ := I.after hq
      cases rz
      exact ⟨.bl b, H', I', rfl, q2⟩
    | next => exact False.elim hq
    | brk => exact False.elim hq
    | cont => exact False.elim hq
theorem op_neI (F : FnOk X.prog X.w X.K X.mg X.base CX n f fd ps sp) (he : PySem.W.findIn X.K (.ref C) "__eq__" = some (some (.ref f))) (hs : PySem.W.findIn X.K (.ref C) "__ne__" = some (some (.builtin "object.__ne__"))) (hm : PySem.W.mroIn X.K C (.type "object") = some true)
    (hf : PySem.W.isFn X.K (.ref f) = true) (hb : Binds X.K fd ps []) (hx : Passes CX X E) (hr : Room (n + 1) X.A) : OpR X (compareOp .NotEq) (rNeI X.K C sp E) := by
  intro pins s σ H x y v u Q I rx ry ⟨a, dx, fs, t, e1, ha, ty, nf, q⟩
  subst e1
  cases rx
  obtain ⟨mA, J, _⟩ := ins_get I.hok ha
  obtain ⟨od, J, _⟩ := J.look
  obtain ⟨P, Z, p, _⟩ := kit_of I ry ty
  show wpAny (model X.prog X.w) X.A (richCompare .NotEq (.ref a) u) (EP X pins σ Q) X.xe s
  refine ne_K (by have := hr.units; omega) I.kIn J (Z.ty _ _ I.kIn p) nf hm hs he hf ?_
  have hl := F.len _ _ _ _ q
  refine wpAny_call (codeAny_mono (F.run X.A.in1 X.stack s H ⟨[.ref a, u], []⟩ [.ref a, u] [.ref a, y] _ E hr.in1 I.env0.in1 (by
    have := hb s [.ref a, u] I.kIn (by simpa using hl)
    simpa using this) (.cons rfl (.cons ry .nil)) q) fun r s' hq => ?_)
  cases r with
  | error e => exact hx pins σ H s e s' I hq
  | ok fl =>
    cases fl with
    | ret w =>
      obtain ⟨z, H', I', rz, b, rfl, q2⟩ := I.after hq
      cases rz
      exact ⟨b, rfl, .bl (!b), H', I', rfl, q2⟩
    | next => exact False.elim hq
    | brk => exact False.elim hq
    | cont => exact False.elim hq
end
end Ys
namespace Ys
open PySem PySem.Spec PyProof.Rows L2
section
variable {X : Cx} {K : PySem.W.Frag} {P : Program} {w : World} {G G1 H : Hp} {M M1 : List (Addr × HO)} {σ : L2.St} {Q : VK} {QB : Bool → Hp → Prop} {D : Ends} {tc : TT} {ta te tb : TE} {t : TA} {A B : Prop} {v x y : V} {i j : Int} {a b p : Addr} {xs ys vs : List V} {o : HO} {d : PyData} {R : It → Hp → Prop}
/-! ### what is walked: a list, a tuple or a text -/
def iOr (i1 i2 : TI) : TI := fun σ H R => i1 σ H R ∨ i2 σ H R
theorem pi_or {tg e : Expr} {i1 i2 : TI} (h1 : PI X tg e i1) (h2 : PI X tg e i2) : PI X tg e (iOr i1 i2) := ⟨fun pins s σ H R I h => h.elim (h1.run pins s σ H R I) (h2.run pins s σ H R I)⟩
def iAny (K : PySem.W.Frag) (te : TE) : TI := iOr (iList K te) (iOr (iTup K te) (iStr te))
theorem pi_any {tg e : Expr} (h : PE X e te) : PI X tg e (iAny X.K te) := pi_or (pi_list h) (pi_or (pi_tup h) (pi_str h))
theorem z_anyL (h : te σ H fun x H1 => ItL K x H1 R) : iAny K te σ H R := .inl h
theorem z_anyT (h : te σ H fun x H1 => ItT K x H1 R) : iAny K te σ H R := .inr (.inl h)
theorem z_anyS (h : te σ H fun x H1 => ItS x H1 R) : iAny K te σ H R := .inr (.inr h)
/-! ### isinstance -/
def rIsiG (K : PySem.W.Frag) : List V → Hp → VK → Prop := fun xs H Q => rIsi K xs H Q ∨ rIsiT K xs H Q
theorem c_isi : CallR X (.builtin "isinstance") (rIsiG X.K) := CallR.or call_isi call_isiT
theorem z_isi {t u : Value} {r : Bool} {c : V} (k : ClsV c u) (ty : TyX K H x t) (e : PySem.W.kitOne K t u = some r) (q : Q (.bl r) H) : rIsiG K [x, c] H Q := .inl ⟨x, c, t, u, r, rfl, k, ty, e, q⟩
theorem z_isi2 {cs : List V} {t : Value} {us : List Value} {r : Bool} (z : Zp G M H) (h : G a = some (.tup cs)) (k : Paired ClsV cs us) (ty : TyX K H x t) (e : PySem.W.kitAny K t us = some r) (q : Q (.bl r) H) : rIsiG K [x, .ref a] H Q :=
  .inr ⟨x, a, cs, t, us, r, rfl, z.sub _ _ h, k, ty, e, q⟩
def tyD : PyData → String
  | .none => "NoneType"
  | .bool _ => "bool"
  | .int _ => "int"
  | .str _ => "str"
  | .list _ => "list"
  | .tuple _ => "tuple"
  | .dict _ => "dict"
theorem tyL (h : SqL K H a xs) : TyX K H (.ref a) (.type "list") := by
  rcases h with (h | ⟨o, h⟩) | ⟨o, its, n, hk, hc, _⟩
  · exact .base (.lst h)
  · exact .base (.frz h)
  · exact .kList hk hc
theorem tyT (h : SqT K H a xs) : TyX K H (.ref a) (.type "tuple") := by
  rcases h with (h | ⟨o, h⟩) | ⟨o, its, n, hk, hc, _⟩
  · exact .base (.tup h)
  · exact .fTuple h
  · exact .kTuple hk hc
theorem Dt.ty (h : Dt K H v d) : TyX K H v (.type (tyD d)) := by
  cases h with
  | non => exact .base .non
  | bl b => exact .base (.bl b)
  | int i => exact .base (.int i)
  | str x => exact .base (.str x)
  | lst h _ => exact tyL h
  | tup h _ => exact tyT h
  | dct h _ _ =>
    rcases h with h | ⟨o, h⟩
    · exact .base (.dK h)
    · exact .fDict h
def Ar (K : PySem.W.Frag) (G : Hp) (M : List (Addr × HO)) (v : V) (d : PyData) : Prop := Dt K G v d ∨ ∃ a xs ds, v = .ref a ∧ (a, .lst xs) ∈ M ∧ Dts K G xs ds ∧ d = .list ds
theorem Ar.up (s : Same G G1) (h : Ar K G M v d) : Ar K G1 M v d := h.imp (fun h => h.up s) fun ⟨a, xs, ds, e, m, h, e2⟩ => ⟨a, xs, ds, e, m, h.up s, e2⟩
theorem Ar.sub (s : ∀ u ∈ M, u ∈ M1) (h : Ar K G M v d) : Ar K G M1 v d := h.imp id fun ⟨a, xs, ds, e, m, h, e2⟩ => ⟨a, xs, ds, e, s _ m, h, e2⟩
theorem Zp.mem (z : Zp G M H) (h : (a, o) ∈ M) : H a = some o := by
  obtain ⟨i, hi⟩ := List.getElem?_of_mem h
  exact (z.own i a o hi).1
theorem Ar.dt (z : Zp G M H) (h : Ar K G M v d) : Dt K H v d := by
  rcases h with h | ⟨a, xs, ds, rfl, m, h, rfl⟩
  · exact z.dt h
  · exact .lst (SqL.of (z.mem m)) (h.up z.sub)
theorem Ar.ty (z : Zp G M H) (h : Ar K G M v d) : TyX K H v (.type (tyD d)) := (h.dt z).ty
theorem Ar.list {ds : List PyData} (z : Zp G M H) (h : Ar K G M v (.list ds)) : ∃ a xs, v = .ref a ∧ SqL K H a xs ∧ Dts K G xs ds ∧ ∀ G1 H1, Zp G1 M H1 → Same G G1 → SqL K H1 a xs := by
  rcases h with h | ⟨a, xs, ds', rfl, m, h, e⟩
  · cases h with
    | lst h1 h2 => exact ⟨_, _, rfl, z.seqL h1, h2, fun G1 H1 z1 s1 => z1.seqL (upL s1 h1)⟩
  · cases e
    exact ⟨a, xs, rfl, SqL.of (z.mem m), h, fun G1 H1 z1 s1 => SqL.of (z1.mem m)⟩
theorem Ar.tup {ds : List PyData} (h : Ar K G M v (.tuple ds)) : ∃ a xs, v = .ref a ∧ SqT K G a xs ∧ Dts K G xs ds := by
  rcases h with h | ⟨a, xs, ds', rfl, m, h, e⟩
  · cases h with
    | tup h1 h2 => exact ⟨_, _, rfl, h1, h2⟩
  · cases e
theorem Ar.str {s : Str} (h : Ar K G M v (.str s)) : v = .str s := by
  rcases h with h | ⟨a, xs, ds', rfl, m, h, e⟩
  · cases h; rfl
  · cases e
theorem Dts.len {ds : List PyData} : ∀ {xs : List V} {ds : List PyData}, Dts K G xs ds → xs.length = ds.length
  | _, _, .nil => rfl
  | _, _, .cons _ h => congrArg Nat.succ (Dts.len (ds := ds) h)
theorem Dts.at_ : ∀ {xs : List V} {ds : List PyData} {k : Nat} {x : V}, Dts K G xs ds → xs[k]? = some x → ∃ d, ds[k]? = some d ∧ Dt K G x d
  | _, _, 0, x, .cons h _, e => by
    simp at e
    exact ⟨_, rfl, e ▸ h⟩
  | _, _, k + 1, x, .cons _ h, e => by
    have := Dts.at_ (k := k) h (by simpa using e)
    simpa using this
/-! ### constants of the module -/
def GC (mg : Str → Option Value) (x : Str) (v : V) : Prop := ∃ u, mg x = some u ∧ RelV v u
theorem pe_gC {x : Str} {pos : Pos} (h : GC X.mg x v) (hg : Gl X x) (hd : (x == ("__debug__" : Str)) = false := by decide) : PE X (.Name x pos) (tC v) := by
  obtain ⟨u, hm, r⟩ := h
  exact ⟨fun pins s σ H Q I h => (pe_glob (v := v) hg hm r hd).run pins s σ H Q I h⟩
/-! ### calls with defaults, properties, methods, making -/
structure OwnA (P : Program) (w : World) (K : PySem.W.Frag) (mg : Str → Option Value) (base : Heap) (CX : CXT) (k : Nat) (x : Str) (ps : List Str) (dvs : List V) (sp : Sp) : Prop where
  ex : ∃ f fd ds, FnOk P w K mg base CX k f fd ps sp ∧ mg x = some (.ref f) ∧ PySem.W.keepIn K (.ref f) = true ∧ Binds K fd ps ds ∧ Vals dvs ds
theorem pe_ownA {CX : CXT} {k : Nat} {x : Str} {ps : List Str} {dvs : List V} {sp : Sp} {E : XK} {p pos : Pos} {e : Expr} {es : List Expr} {t : TA} (C : OwnA X.prog X.w X.K X.mg X.base CX k x ps dvs sp) (hr : Room k X.A) (hg : Gl X x) (hx : Passes CX X E) (ha : PA X (e :: es) t)
    (hdb : (x == ("__debug__" : Str)) = false := by decide) (he : starEach (e :: es) X.env = (false, eval e X.env) :: starEach es X.env := by rfl) (hpl : (backTo pos (starEach es X.env)).any (·.1) = false := by rfl) :
    PE X (.Call (.Name x p) (e :: es) [] pos) (tCall sp dvs E t) := by
  obtain ⟨f, fd, ds, F, hm, hk, hb, hv⟩ := C.ex
  exact ⟨fun pins s σ H Q I h => (pe_call F hr hg hm hk hb hv hx ha hdb he hpl).run pins s σ H Q I h⟩
structure Prp (P : Program) (w : World) (K : PySem.W.Frag) (mg : Str → Option Value) (base : Heap) (CX : CXT) (k : Nat) (C : Addr) (x : Str) (sp : Sp) : Prop where
  ex : ∃ p g fd, PropOf K C x p g ∧ FnOk P w K mg base CX k g fd ["self"] sp ∧ Binds K fd ["self"] []
  cl : Cls K C
theorem pe_pr {CX : CXT} {k : Nat} {C : Addr} {x : Str} {sp : Sp} {E : XK} {e : Expr} {pos : Pos} (R : Prp X.prog X.w X.K X.mg X.base CX k C x sp) (hr : Room (k + 1) X.A) (hx : Passes CX X.nox E) (he : PE X e ta) (hb : attributeBase e x X.env (eval e X.env) = eval e X.env := by rfl) :
    PE X (.Attribute e x pos) (tProp C sp [] E ta) := by
  obtain ⟨p, g, fd, hp, F, hd⟩ := R.ex
  exact ⟨fun pins s σ H Q I h => (pe_prop he R.cl hp F hr hd .nil hx hb).run pins s σ H Q I h⟩
def InsW (C : Addr) (x : V) (H : Hp) (A : Prop) : Prop := ∃ a dx fs, x = .ref a ∧ H a = some (.ins C dx fs) ∧ A
end
end Ys
namespace Ys
open PySem PySem.Spec PyProof.Rows L2
section
variable {X : Cx} {K : PySem.W.Frag} {P : Program} {w : World} {G G1 H : Hp} {M M1 : List (Addr × HO)} {σ : L2.St} {Q : VK} {QB : Bool → Hp → Prop} {QA : List V → Hp → Prop} {D : Ends} {ta te tb tv : TE} {t tk : TA} {A B : Prop} {v x y : V} {i j : Int} {a b p : Addr} {xs ys vs zs : List V} {o : HO} {d : PyData}
variable {CX : CXT} {k n m : Nat} {C dx : Addr} {nm f : Str} {ps ks : List Str} {dvs : List V} {sp : Sp} {E : XK} {fs : List (Str × V)} {gV : List V → List V → List V}
structure Mth (P : Program) (w : World) (K : PySem.W.Frag) (mg : Str → Option Value) (base : Heap) (CX : CXT) (k : Nat) (C : Addr) (m : Str) (ps : List Str) (dvs : List V) (sp : Sp) : Prop where
  ex : ∃ f fd ds, Meth K C m f ∧ FnOk P w K mg base CX k f fd ps sp ∧ Binds K fd ps ds ∧ Vals dvs ds
  cl : Cls K C
theorem pe_mt0 {m : Str} {e : Expr} {pos apos : Pos} {pl : Sem Bool} (R : Mth X.prog X.w X.K X.mg X.base CX k C m ps dvs sp) (hr : Room k X.A) (hx : Passes CX X E) (he : PE X e ta)
    (ht : eval (.Call (.Attribute e m apos) [] [] pos) X.env = (do
      let ov ← eval e X.env
      standAt apos.atName
      let (f, first) ← holding [ov] (getMethod ov m pl)
      callWith pos f first (backTo pos (starEach [] X.env)) (backToKw pos (keywordEach [] X.env))) := by rfl) : PE X (.Call (.Attribute e m apos) [] [] pos) (tMeth C m sp dvs E ta tNil) := by
  obtain ⟨f, fd, ds, hm, F, hb, hv⟩ := R.ex
  exact ⟨fun pins s σ H Q I h => (pe_meth0 he R.cl hm F hr hb hv hx ht).run pins s σ H Q I h⟩
theorem pe_mt {m : Str} {e e1 : Expr} {es : List Expr} {pos apos : Pos} {pl : Sem Bool} (R : Mth X.prog X.w X.K X.mg X.base CX k C m ps dvs sp) (hr : Room k X.A) (hx : Passes CX X E) (he : PE X e ta) (ha : PA X (e1 :: es) t)
    (hst : starEach (e1 :: es) X.env = (false, eval e1 X.env) :: starEach es X.env := by rfl) (hpl : (backTo pos (starEach es X.env)).any (·.1) = false := by rfl)
    (ht : eval (.Call (.Attribute e m apos) (e1 :: es) [] pos) X.env = (do
      let ov ← eval e X.env
      standAt apos.atName
      let (f, first) ← holding [ov] (getMethod ov m pl)
      callWith pos f first (backTo pos (starEach (e1 :: es) X.env)) (backToKw pos (keywordEach [] X.env))) := by rfl) : PE X (.Call (.Attribute e m apos) (e1 :: es) [] pos) (tMeth C m sp dvs E ta t) := by
  obtain ⟨f, fd, ds, hm, F, hb, hv⟩ := R.ex
  exact ⟨fun pins s σ H Q I h => (pe_meth he R.cl hm F hr hb hv hx ha hst hpl ht).run pins s σ H Q I h⟩
structure MkS (P : Program) (w : World) (K : PySem.W.Frag) (mg : Str → Option Value) (base : Heap) (CX : CXT) (k : Nat) (C : Addr) (x : Str) (n : Nat) (ks : List Str) (gV : List V → List V → List V) (sp : Sp) : Prop where
  ex : ∃ f fd ps g, Mk K C f ∧ FnOk P w K mg base CX k f fd ps sp ∧ mg x = some (.ref C) ∧ KBn K fd ps (n + 1) ks g gV
theorem pe_mk0 {x : Str} {p pos : Pos} {kws : List Keyword} (R : MkS X.prog X.w X.K X.mg X.base CX k C x 0 ks gV sp) (hr : Room (k + 1) X.A) (hg : Gl X x) (hx : Passes CX X E) (hkw : PK X kws tk)
    (hall : (backToKw pos (keywordEach kws X.env)).all (·.1.isSome) = true := by rfl) (hks : (backToKw pos (keywordEach kws X.env)).filterMap (·.1) = ks := by rfl) (hdb : (x == ("__debug__" : Str)) = false := by decide)
    (hpl : ((backTo pos (starEach [] X.env)).any (·.1) || (backToKw pos (keywordEach kws X.env)).any (·.1.isNone)) = false := by rfl) :
    PE X (.Call (.Name x p) [] kws pos) (tMakeK C 0 ks.length sp gV E tNil tk) := by
  obtain ⟨f, fd, ps, g, hm, F, hmg, hb⟩ := R.ex
  exact ⟨fun pins s σ H Q I h => (pe_makeK0 hm F hr hg hmg hb hx hkw hall hks hdb hpl).run pins s σ H Q I h⟩
theorem pe_mk {x : Str} {p pos : Pos} {kws : List Keyword} {e : Expr} {es : List Expr} (R : MkS X.prog X.w X.K X.mg X.base CX k C x n ks gV sp) (hr : Room (k + 1) X.A) (hg : Gl X x) (hx : Passes CX X E) (ha : PA X (e :: es) t) (hkw : PK X kws tk)
    (hall : (backToKw pos (keywordEach kws X.env)).all (·.1.isSome) = true := by rfl) (hks : (backToKw pos (keywordEach kws X.env)).filterMap (·.1) = ks := by rfl) (hdb : (x == ("__debug__" : Str)) = false := by decide)
    (he : starEach (e :: es) X.env = (false, eval e X.env) :: starEach es X.env := by rfl) (hpl : ((backTo pos (starEach (e :: es) X.env)).any (·.1) || (backToKw pos (keywordEach kws X.env)).any (·.1.isNone)) = false := by rfl) :
    PE X (.Call (.Name x p) (e :: es) kws pos) (tMakeK C n ks.length sp gV E t tk) := by
  obtain ⟨f, fd, ps, g, hm, F, hmg, hb⟩ := R.ex
  exact ⟨fun pins s σ H Q I h => (pe_makeK hm F hr hg hmg hb hx ha hkw hall hks hdb he hpl).run pins s σ H Q I h⟩
/-! the steps -/
def PrW (C : Addr) (sp : Sp) (dvs : List V) (E : XK) (x : V) (H : Hp) (Q : VK) : Prop := ∃ a dx fs, x = .ref a ∧ H a = some (.ins C dx fs) ∧ sp (.ref a :: dvs) H Q E
theorem z_prop (h : ta σ H fun x H1 => PrW C sp dvs E x H1 Q) : tProp C sp dvs E ta σ H Q := h
theorem z_prI (z : Zp G M H) (h : G a = some (.ins C dx fs)) (q : sp (.ref a :: dvs) H Q E) : PrW C sp dvs E (.ref a) H Q := ⟨a, dx, fs, rfl, z.sub _ _ h, q⟩
def MtW (C : Addr) (f : Str) (x : V) (H : Hp) (A : Prop) : Prop := ∃ a dx fs, x = .ref a ∧ H a = some (.ins C dx fs) ∧ fs.lookup f = none ∧ A
theorem z_mt (h : ta σ H fun x H1 => MtW C f x H1 (t σ H1 fun vs H2 => sp (x :: (vs ++ dvs)) H2 Q E)) : tMeth C f sp dvs E ta t σ H Q := h
theorem z_mtI (z : Zp G M H) (h : G a = some (.ins C dx fs)) (l : fs.lookup f = none) (q : A) : MtW C f (.ref a) H A := ⟨a, dx, fs, rfl, z.sub _ _ h, l, q⟩
def MkW (C : Addr) (n m : Nat) (sp : Sp) (gV : List V → List V → List V) (E : XK) (vs zs : List V) (H2 : Hp) (Q : VK) : Prop := vs.length = n ∧ zs.length = m ∧ ∀ x dx, H2 x = none → H2 dx = none → dx ≠ x →
  sp (gV (.ref x :: vs) zs) (upd (upd H2 dx (.own x)) x (.ins C dx [])) (fun v H3 => v = .non ∧ Q (.ref x) H3) E
theorem z_mk (h : t σ H fun vs H1 => tk σ H1 fun zs H2 => MkW C n m sp gV E vs zs H2 Q) : tMakeK C n m sp gV E t tk σ H Q := h
theorem z_mkI (z : Zp G M H) (l1 : vs.length = n) (l2 : zs.length = m) (q : ∀ x dx H1, Zp (upd G dx (.own x)) (M ++ [(x, .ins C dx [])]) H1 → Same G (upd G dx (.own x)) → sp (gV (.ref x :: vs) zs) H1 (fun v H3 => v = .non ∧ Q (.ref x) H3) E) : MkW C n m sp gV E vs zs H Q :=
  ⟨l1, l2, fun x dx hx hd ne => q x dx _ ((z.new hd _).add (by rw [upd_ne (Ne.symm ne)]; exact hx) _) (Same.new (z.free hd))⟩
def FlW (K : PySem.W.Frag) (f : Str) (x : V) (H : Hp) (Q : VK) : Prop := ∃ a C dx fs v, x = .ref a ∧ H a = some (.ins C dx fs) ∧ Cls K C ∧ NoAttr K C f ∧ fs.lookup f = some v ∧ Q v H
theorem z_fl (h : ta σ H fun x H1 => FlW K f x H1 Q) : tFld K ta f σ H Q := h
theorem z_flI (z : Zp G M H) (h : G a = some (.ins C dx fs)) (c : Cls K C) (n : NoAttr K C f) (l : fs.lookup f = some v) (q : Q v H) : FlW K f (.ref a) H Q := ⟨a, C, dx, fs, v, rfl, z.sub _ _ h, c, n, l, q⟩
def FsW (K : PySem.W.Frag) (f : Str) (x y : V) (H2 : Hp) (R : Hp → Prop) : Prop := ∃ a C dx fs, x = .ref a ∧ H2 a = some (.ins C dx fs) ∧ Cls K C ∧ NoAttr K C f ∧ fs.length < 1000 ∧ R (upd H2 a (.ins C dx (putF f y fs)))
theorem z_fs (h : tv σ H fun y H1 => ta σ H1 fun x H2 => FsW K f x y H2 (D.nx σ)) : sFld K ta tv f D σ H := h
theorem z_fsI {R : Hp → Prop} (z : Zp G M H) (i : Nat) (e : M[i]? = some (a, .ins C dx fs)) (c : Cls K C) (n : NoAttr K C f) (l : fs.length < 1000) (q : ∀ H1, Zp G (M.set i (a, .ins C dx (putF f y fs))) H1 → R H1) : FsW K f (.ref a) y H R :=
  ⟨a, C, dx, fs, rfl, z.at_ i e, c, n, l, q _ (z.put i e _)⟩
theorem z_nN (q : Q (.bl (!decide (x = .non))) H) : rNotNon x .non H Q := ⟨rfl, q⟩
theorem z_iN (q : Q (.bl (decide (x = .non))) H) : rIsNon x .non H Q := ⟨rfl, q⟩
theorem z_itLH {R : It → Hp → Prop} (h : SqL K H a xs) (q : R (Itl K a) H) : ItL K (.ref a) H R := ⟨a, rfl, ⟨xs, h⟩, q⟩
theorem z_itTH {R : It → Hp → Prop} (h : SqT K H a xs) (q : R (Itt K a) H) : ItT K (.ref a) H R := ⟨a, rfl, ⟨xs, h⟩, q⟩
theorem z_lenH (h : SqL K H a xs ∨ SqT K H a xs) (q : Q (.int xs.length) H) : rLenG K P w [.ref a] H Q := h.elim (fun h => .inl ⟨_, _, rfl, .inl ⟨xs, h, rfl⟩, q⟩) fun h => .inl ⟨_, _, rfl, .inr ⟨xs, h, rfl⟩, q⟩
theorem z_setH {ss : List Str} (z : Zp G M H) (h : SqL K H a (ss.map V.str) ∨ SqT K H a (ss.map V.str)) (hl : ss.length < 1000)
    (q : ∀ p l G1 H1, Zp G1 M H1 → Same G G1 → G1 p = some (TxO P w p l) → (∀ x, x ∈ l ↔ x ∈ ss) → l.Nodup → l.length ≤ ss.length → Q (.ref p) H1) : rSetTx K P w [.ref a] H Q :=
  ⟨a, ss, rfl, h, hl, fun p l m nd len hp => q p l _ _ (z.new hp _) (Same.new (z.free hp)) upd_same m nd len⟩
theorem z_tI {R : It → Hp → Prop} (h : te σ H fun x H1 => ItT K x H1 R) : iTup K te σ H R := h
theorem z_fsL {R : Hp → Prop} (z : Zp G (M ++ [(a, .ins C dx fs)]) H) (c : Cls K C) (n : NoAttr K C f) (l : fs.length < 1000) (q : ∀ H1, Zp G (M ++ [(a, .ins C dx (putF f y fs))]) H1 → R H1) : FsW K f (.ref a) y H R := by
  refine z_fsI z M.length last_at c n l fun H1 z1 => q H1 ?_
  rw [List.set_append_right _ _ (Nat.le_refl _), Nat.sub_self] at z1
  exact z1
theorem putF_lt {n : Nat} : ∀ {fs : List (Str × V)}, fs.length < n → (putF f y fs).length < n + 1
  | [], h => by show 1 < n + 1; have : 0 < n := h; omega
  | (g, v) :: r, h => by
    unfold putF
    split
    · exact Nat.lt_succ_of_lt h
    · have h' : r.length + 1 < n := h
      cases n with
      | zero => omega
      | succ n =>
        have := putF_lt (n := n) (fs := r) (by omega)
        show (putF f y r).length + 1 < n + 1 + 1
        omega
def ItR2 (vs : List V) (H : Hp) (R : It → Hp → Prop) : Prop := ∃ i j : Int, vs = [.int i, .int j] ∧ (-(2 ^ 62) ≤ i ∧ i < 2 ^ 62 ∧ -(2 ^ 62) ≤ j ∧ j < 2 ^ 62) ∧ R (Itr i (j - i).toNat) H
theorem z_iR2 {R : It → Hp → Prop} (h : t σ H fun vs H1 => ItR2 vs H1 R) : iRng2 t σ H R := h
theorem z_itR2 {R : It → Hp → Prop} (h : -(2 ^ 62) ≤ i ∧ i < 2 ^ 62 ∧ -(2 ^ 62) ≤ j ∧ j < 2 ^ 62) (q : R (Itr i (j - i).toNat) H) : ItR2 [.int i, .int j] H R := ⟨i, j, rfl, h, q⟩
theorem z_gsub {ti : TE} {ts : TSet} {R : L2.St → Hp → Prop} (h : ta σ H fun o H1 => ti σ H1 fun i H2 => ts o i v H2 fun H3 => R σ H3) : gSub ta ti ts v σ H R := h
theorem z_slO {lo hi : Option Int} (z : Zp G M H) (k : Nat) (e : M[k]? = some (a, .lst xs)) (q : ∀ p G1 H1, Zp G1 M H1 → Same G G1 → G1 p = some (.lst (cutV xs lo hi)) → Q (.ref p) H1) : rSlG K (.ref a) lo hi H Q :=
  .inl ⟨a, xs, rfl, SqL.of (z.at_ k e), fun p hp => q p _ _ (z.new hp _) (Same.new (z.free hp)) upd_same⟩
theorem z_setO {R : Hp → Prop} {j : Nat} (z : Zp G M H) (k : Nat) (e : M[k]? = some (a, .lst xs)) (hj : ixN xs.length i = some j) (q : ∀ H1, Zp G (M.set k (a, .lst (xs.set j v))) H1 → R H1) : rSetL (.ref a) (.int i) v H R :=
  ⟨a, xs, i, j, rfl, rfl, z.at_ k e, hj, q _ (z.put k e _)⟩
theorem Dts.snoc : ∀ {xs : List V} {ds : List PyData} {x : V} {d : PyData}, Dts K G xs ds → Dt K G x d → Dts K G (xs ++ [x]) (ds ++ [d])
  | _, _, _, _, .nil, h => .cons h .nil
  | _, _, _, _, .cons a b, h => .cons a (Dts.snoc b h)
theorem Dts.set : ∀ {xs : List V} {ds : List PyData} {x : V} {d : PyData} (j : Nat), Dts K G xs ds → Dt K G x d → Dts K G (xs.set j x) (ds.set j d)
  | _, _, _, _, _, .nil, _ => .nil
  | _, _, _, _, 0, .cons a b, h => .cons h b
  | _, _, _, _, j + 1, .cons a b, h => .cons a (Dts.set j b h)
theorem perm_strs {ys : List V} {ss : List Str} (h : ys.Perm (ss.map V.str)) : ∃ ts : List Str, ys = ts.map V.str ∧ ts.Perm ss := by
  let un : V → Str := fun v => match v with | .str s => s | _ => ""
  have e : (ss.map V.str).map un = ss := by rw [List.map_map]; exact List.map_id'' (fun _ => rfl) ss
  refine ⟨ys.map un, ?_, ?_⟩
  · rw [List.map_map]
    have : ∀ v ∈ ys, (V.str ∘ un) v = v := fun v hv => by
      obtain ⟨s, _, rfl⟩ := List.mem_map.mp (h.mem_iff.mp hv)
      rfl
    rw [List.map_congr_left this]
    exact (List.map_id ys).symm
  · have := h.map un
    rw [e] at this
    exact this
/-! chains -/
theorem z_chain {r r' : R2} {tc : TE} (h : ta σ H fun x H1 => tb σ H1 fun y H2 => r x y H2 fun z H3 => IsB z H3 fun k H3 => Bif k (tc σ H3 fun w' H4 => r' y w' H4 Q) (Q (.bl false) H3)) : tChain r r' ta tb tc σ H Q := h
theorem z_inS {c : Nat} {z : Str} (q : Q (.bl (decide (c ∈ z.cps.toList))) H) : rInG K false (.str ⟨#[c]⟩) (.str z) H Q := .inl ⟨c, z, rfl, rfl, by simpa using q⟩
theorem z_eqI {sp : Sp} {t : Value} (z : Zp G M H) (h : G a = some (.ins C dx fs)) (ty : TyX K H y t) (nf : PySem.W.notFirst K C t = true) (q : sp [.ref a, y] H (fun v H' => ∃ b, v = .bl b ∧ Q (.bl b) H') E) : rEqI K C sp E (.ref a) y H Q :=
  ⟨a, dx, fs, t, rfl, z.sub _ _ h, ty, nf, q⟩
theorem z_neI {sp : Sp} {t : Value} (z : Zp G M H) (h : G a = some (.ins C dx fs)) (ty : TyX K H y t) (nf : PySem.W.notFirst K C t = true) (q : sp [.ref a, y] H (fun v H' => ∃ b, v = .bl b ∧ Q (.bl (!b)) H') E) : rNeI K C sp E (.ref a) y H Q :=
  ⟨a, dx, fs, t, rfl, z.sub _ _ h, ty, nf, q⟩
end
end Ys
namespace Ys
open PySem PySem.Spec PyProof.Rows L2
/-! the rules with the written part told -/
section
variable {X : Cx} {K : PySem.W.Frag} {P : Program} {w : World}
theorem k_add (e : X.K = K := by rfl) : OpR X (binaryOp .Add) (rAddG K) := e ▸ op_addG
theorem k_eq (hu : X.A.units + 64 < cLine) (e : X.K = K := by rfl) : OpR X (compareOp .Eq) (rEqG K) := e ▸ op_eqG hu
theorem k_ne (hu : X.A.units + 64 < cLine) (e : X.K = K := by rfl) : OpR X (compareOp .NotEq) (rNeG K) := e ▸ op_neG hu
theorem k_in (e : X.K = K := by rfl) : OpR X (compareOp .In) (rInG K false) := e ▸ o_in
theorem k_notIn (e : X.K = K := by rfl) : OpR X (compareOp .NotIn) (rInG K true) := e ▸ o_notIn
theorem k_sl (e : X.K = K := by rfl) : SlR X (rSlG K) := e ▸ sl_any
theorem kc_len (e : X.K = K := by rfl) (e1 : X.prog = P := by rfl) (e2 : X.w = w := by rfl) : CallR X (.builtin "len") (rLenG K P w) := by subst e; subst e1; subst e2; exact c_len
theorem kc_list (e : X.K = K := by rfl) : CallR X (.type "list") (rListG K) := e ▸ c_list
theorem kc_tuple (e : X.K = K := by rfl) : CallR X (.type "tuple") (rTupG K) := e ▸ c_tuple
theorem kc_all (hc : X.calm = true) (e : X.K = K := by rfl) : CallR X (.builtin "all") (rAllG K) := e ▸ c_all hc
theorem kc_sorted (hc : X.calm = true) (e : X.K = K := by rfl) (e1 : X.prog = P := by rfl) (e2 : X.w = w := by rfl) : CallR X (.builtin "sorted") (rSortG K P w) := by subst e; subst e1; subst e2; exact c_sorted hc
theorem kc_set (hc : X.calm = true) (e : X.K = K := by rfl) (e1 : X.prog = P := by rfl) (e2 : X.w = w := by rfl) : CallR X (.type "set") (rSetTx K P w) := by subst e; subst e1; subst e2; exact cr_setTx hc
theorem kc_repr (hg : X.A.guards = some []) (S : SysIn X.K) (hu : X.A.units + 64 < cLine) (e : X.K = K := by rfl) : CallR X (.builtin "repr") (rRepr K) := e ▸ cr_repr hg S hu
theorem kc_isi (e : X.K = K := by rfl) : CallR X (.builtin "isinstance") (rIsiG K) := e ▸ c_isi
theorem k_any {tg e : Expr} {te : TE} (h : PE X e te) (q : X.K = K := by rfl) : PI X tg e (iAny K te) := q ▸ pi_any h
theorem k_ix (e : X.K = K := by rfl) : IxR X (rIx K) := e ▸ ix_seq
theorem k_fld {o : Expr} {f : Str} {pos : Pos} {ta : TE} (h : PE X o ta) (hb : attributeBase o f X.env (eval o X.env) = eval o X.env) (e : X.K = K := by rfl) : PE X (.Attribute o f pos) (tFld K ta f) := e ▸ pe_fld h hb
theorem kg_tup {es : List Expr} {k : Nat} {t : TGs} {n : Nat} {pos : Pos} (hc : X.calm = true) (h : PGs X es t) (e : X.K = K := by rfl)
    (hn : (assignEach es X.env).length = n := by rfl) (hst : (assignEach es X.env).findIdx? (·.1) = none := by rfl) : PG X (.Tuple es k pos) (gTup K n t) := e ▸ pg_tup hc h hn hst
theorem kg_unl {es : List Expr} {k : Nat} {t : TGs} {n : Nat} {pos : Pos} (hc : X.calm = true) (h : PGs X es t) (e : X.K = K := by rfl)
    (hn : (assignEach es X.env).length = n := by rfl) (hst : (assignEach es X.env).findIdx? (·.1) = none := by rfl) : PG X (.Tuple es k pos) (gUnl K n t) := e ▸ pg_unl hc h hn hst
theorem k_tup {tg e : Expr} {te : TE} (h : PE X e te) (q : X.K = K := by rfl) : PI X tg e (iTup K te) := q ▸ pi_tup h
end
end Ys
namespace Ys
open PySem PySem.Spec PyProof.Rows L2
/-! ### defs that stand anywhere -/
theorem DefY.funD {K : PySem.W.Frag} {d : DefY} (e : fnY K (d.ad K) = d.val) (c : d.ok K = true) : ∃ fd, FunD K d.name d.qual d.params d.body d.scope (d.dvs K) (d.kws K) (d.ad K) fd := by
  obtain ⟨kp, c2⟩ := Bool.and_eq_true_iff.mp c
  cases hq : K.lookup (d.ad K) with
  | none => rw [hq] at c2; exact absurd c2 (by simp)
  | some ob =>
    rw [hq] at c2
    unfold fnY at e
    rw [hq] at e
    obtain ⟨o1, o2, o3, o4⟩ := ob
    cases o3 with
    | func g =>
      obtain ⟨g1, g2, g3, g4, g5, g6, g7, g8, g9, g10, g11, g12, g13, g14, g15⟩ := g
      obtain ⟨i1, i2, i3, i4, i5, i6, i7, i8⟩ : g1 = d.name ∧ g2 = d.qual ∧ g3 = d.params ∧ g4 = .stmts d.body ∧ g5 = d.scope ∧ g6 = mainGlobals ∧ g7 = [] ∧ g15 = builtinsNs := by
        have e' : (some (g1, g2, g3, g4, g5, g6, g7, g15) : He.FnW) = some (d.name, d.qual, d.params, .stmts d.body, d.scope, mainGlobals, [], builtinsNs) := e
        simpa only [Option.some.injEq, Prod.mk.injEq] using e'
      subst i1 i2 i3 i4 i5 i6 i7 i8
      obtain ⟨j1, j2⟩ := Bool.and_eq_true_iff.mp (show (PySem.W.codeIn K g13 d.qual && (He.dflB K g8 (d.dvs K) && He.kwdB K g9 (d.kws K))) = true from c2)
      obtain ⟨j3, j4⟩ := Bool.and_eq_true_iff.mp j2
      exact ⟨_, ⟨o1, o2, g8, g9, g10, g11, g12, g13, g14, o4, rfl, hq, j1, He.dflB_ok j3, He.kwdB_ok j4⟩, kp⟩
    | _ => exact absurd c2 (by simp)
/-! ### the Hook over facts of any kind -/
theorem obZ_eq {n : Nat} {fb : List (PySem.W.Frag → Bool)} {fn : List DefY} (s : PySem.W.SharedT) : obZ n fb fn s = (hookZ n fb fn).obs s.abs := by
  unfold obZ
  rw [show HandSHeadRun.getT s = s.abs.heap.get? from funext (HandSHeadRun.getT_eq s)]
  rfl
section
variable {fb : List (PySem.W.Frag → Bool)} {fn : List DefY} {K : PySem.W.Frag}
theorem SaysZ.at_ (c : SaysZ fb fn K) (i : Nat) {f : PySem.W.Frag → Bool} (h : fb[i]? = some f := by rfl) : f K = true := by
  have h1 : ((fb.all fun f => f K) && fn.all fun d => d.ok K) = true := congrArg Prod.fst c
  exact List.all_eq_true.mp (Bool.and_eq_true_iff.mp h1).1 f (List.mem_of_getElem? h)
theorem SaysZ.def_ (c : SaysZ fb fn K) (i : Nat) {d : DefY} (h : fn[i]? = some d := by rfl) : ∃ fd, FunD K d.name d.qual d.params d.body d.scope (d.dvs K) (d.kws K) (d.ad K) fd := by
  have h1 : ((fb.all fun f => f K) && fn.all fun d => d.ok K) = true := congrArg Prod.fst c
  have h2 : (fn.map fun d => fnY K (d.ad K)) = fn.map DefY.val := congrArg Prod.snd c
  refine DefY.funD ?_ (List.all_eq_true.mp (Bool.and_eq_true_iff.mp h1).2 d (List.mem_of_getElem? h))
  have h3 := congrArg (fun l : List He.FnW => l[i]?) h2
  simp only [List.getElem?_map, h, Option.map_some] at h3
  exact Option.some.inj h3
end
/-! ### facts -/
theorem fProp_ok {x m : Str} {K : PySem.W.Frag} (h : fProp x m K = true) : PropOf K (He.ga K x) m (cA x m K) (pA x m K) := by
  obtain ⟨h1, h⟩ := Bool.and_eq_true_iff.mp h
  obtain ⟨h2, h⟩ := Bool.and_eq_true_iff.mp h
  obtain ⟨h3, h4⟩ := Bool.and_eq_true_iff.mp h
  refine ⟨of_decide_eq_true h1, of_decide_eq_true h2, of_decide_eq_true h3, ?_⟩
  cases q : PySem.W.recIn K (cA x m K) "property" with
  | none => rw [q] at h4; cases h4
  | some l =>
    rw [q] at h4
    cases l with
    | nil => cases h4
    | cons v r =>
      cases v with
      | ref g => exact ⟨r, by rw [of_decide_eq_true h4]⟩
      | _ => cases h4
theorem fNil_ok {a : PySem.W.Frag → Addr} {K : PySem.W.Frag} (h : fNil a K = true) (G : Hp) : SqT K G (a K) [] := by
  unfold fNil at h
  cases q : K.lookup (a K) with
  | none => rw [q] at h; cases h
  | some ob =>
    rw [q] at h
    obtain ⟨o1, o2, o3, o4⟩ := ob
    cases o1 with
    | type c =>
      cases o3 with
      | seq its n =>
        obtain ⟨h1, h2⟩ := Bool.and_eq_true_iff.mp (show (decide (c = "tuple") && decide (its.size = 0)) = true from h)
        have hz := of_decide_eq_true h2
        have he : its.toList = [] := by
          apply List.eq_nil_of_length_eq_zero
          rw [Array.length_toList]
          exact hz
        exact .inr ⟨_, its, n, q, congrArg Value.type (of_decide_eq_true h1), rfl, by rw [hz]; exact Nat.zero_le _, by rw [he]; exact .nil⟩
      | _ => cases h
    | _ => cases o3 <;> cases h
end Ys
namespace Ys
open PySem PySem.Spec PyProof.Rows L2
/-! ### an own exception's __init__ that says super().__init__(x), self.f = x -/
structure SupF (P : Program) (K : PySem.W.Frag) (C fI : Addr) (fld qual : Str) (params : Arguments) (body : List Stmt) (scope : Scope) (fd : FuncData) : Prop where
  ex : ∃ oc od osl dV kV doc pm an cda ct cc, fd = PySem.W.ksFn "__init__" qual params body scope dV kV doc pm an (.ref cda) ct cc ∧ K.lookup fI = some ⟨oc, od, .func fd, osl⟩ ∧ PySem.W.codeIn K (.ref cda) qual = true ∧
    (∃ ccl cdd vs ccs file tf, K.lookup cda = some ⟨ccl, cdd, .fields vs, ccs⟩ ∧ vs[2]? = some (.str file tf) ∧ ((P.main.file : Str) == file) = true) ∧ ∃ cl cld csl, K.lookup cc = some ⟨cl, cld, .cell (some (.ref C)), csl⟩
  sup : PySem.W.ks_superIn K C C "__init__" = some (some (.builtin "ValueError.__init__"))
  subV : PySem.W.subIn K (.ref C) (.type "ValueError") = some true
  opq : PySem.W.nsIn K cStatics "thirdparty.any" = some none
  gs : PySem.W.nsIn K mainGlobals "super" = some none
  no : PySem.W.findIn K (.ref C) fld = some none
  mro : PySem.W.mroIn K C (.ref C) = some true
structure SupS (x : Str) (params : Arguments) (scope : Scope) : Prop where
  nc : ∀ y ∈ scope.names, y.2 ≠ .cell
  ns : scope.names.lookup ("super" : Str) = some .globalImplicit
  nk : scope.names.lookup ("__class__" : Str) = some .free
  n1 : scope.names.lookup ("self" : Str) = some .local
  n2 : scope.names.lookup x = some .local
  co : scope.isCoroutine = false
  ge : scope.isGenerator = false
  ki : scope.kind = .function
  hd : ∃ ar, (params.posonlyargs ++ params.args).head? = some ar ∧ ar.arg = "self"
  ne : ("self" : Str) ≠ x
  nd : (x == ("__debug__" : Str)) = false
section
variable {P : Program} {w : World} {K : PySem.W.Frag} {C fI a t0 : Addr} {x fld qual : Str} {params : Arguments} {scope : Scope} {p0 p1 p2 p3 p4 p5 p6 p7 p8 p9 : Pos} {A : Around} {mg mb : Str → Option Value} {v : Value} {R : Result → Shared → Prop} {fd : FuncData} {hp : Heap} {g : Array GenState} {d : Drawn} {t : Nat} {os : OsState}
theorem call_mwV {mw : Addr} {us : List Value} {nm q : Str} {N : Addr} {bs bm : List Value} {hd : Bool} {sn : List Str} {sub : List Value} {ab : Bool} {col : Option Bool} {dd : Option Addr} {k0 k1 k2 k3 k5 : Option Value} {Q : Value → Shared → Prop} {E : Value → Shared → Prop}
    (hC : hp.get? C = some (excClassObj nm q C N bs bm hd sn sub ab col dd k0 k1 k2 k3 k5 "ValueError.__new__")) (_hT : ∀ Y : String, bm.contains (.type Y) = PySem.HandSPX.veTail.contains (.type Y)) (hx : hp.get? a = some (PySem.HandSPX.excO C t0)) (hu : hp.get? mw = some (PySem.W.kxs_mw "ValueError.__init__" a)) (hz : us.length ≤ sizeLine)
    (hq : ∀ h' t1, (∀ b o, b ≠ a → hp.get? b = some o → h'.get? b = some o) → h'.get? a = some (PySem.HandSPX.excO C t1) → Q .none ⟨h', g, d, t, os⟩) : wpAny (model P w) A (call (.ref mw) us) Q E ⟨hp, g, d, t, os⟩ := by
  refine wpAny_call (codeAny_of_tree ?_)
  show wpAny _ A.in1 (callAny (.ref mw) ⟨us, []⟩) _ _ _; simp only [callAny]
  refine wpAny_bind (wpAny_load hu ?_)
  have q1 : (Value.type "method-wrapper" == Value.type "method" || Value.type "method-wrapper" == Value.type "builtin_function_or_method" || Value.type "method-wrapper" == Value.type "method-wrapper") = true := by decide
  simp only [PySem.W.kxs_mw, q1, if_true]
  refine PySem.W.KFB.if_so (by decide) (wpAny_bind (PySem.W.check_bound_init F.excBase_ValueError.toExcCallFacts hC hx rfl ?_))
  refine wpAny_bind (wpAny_pure (wpAny_pure ⟨plainId_quiet F.excBase_ValueError.init.plain _, codeAny_builtin F.excBase_ValueError.initEntry ?_⟩))
  exact PySem.W.exc_init_tree (cls := .ref C) (t0 := t0) (dv := none) (c2 := .none) (c3 := .none) (b4 := .bool false) hx hz fun h' k e _ => hq h' _ k e
def supBody (x fld : Str) (p0 p1 p2 p3 p4 p5 p6 p7 p8 p9 : Pos) : List Stmt := [.Expr (.Call (.Attribute (.Call (.Name "super" p0) [] [] p1) "__init__" p2) [.Name x p3] [] p4) p5, .Assign [.Attribute (.Name "self" p6) fld p7] (.Name x p8) p9]
theorem run_sup (S : SupF P K C fI fld qual params (supBody x fld p0 p1 p2 p3 p4 p5 p6 p7 p8 p9) scope fd) (Z : SupS x params scope) (T : OexC K C) (X : K.In hp) (hg : hp.Ns mainGlobals mg) (hb : hp.Ns builtinsNs mb) (hbb : ∀ y : Str, y ≠ "__name__" → mb y = bootBuiltins y) (hlim : hp.NoLimit) (hroom : A.depth < recursionLimit) (hun : A.units + 64 < cLine)
    (hev : ∀ env : Env, env.scope = scope → ∃ pl : Sem Bool, eval (.Call (.Attribute (.Call (.Name "super" p0) [] [] p1) "__init__" p2) [.Name x p3] [] p4) env = (do
      let ov ← attributeBase (.Call (.Name "super" p0) [] [] p1) "__init__" env (eval (.Call (.Name "super" p0) [] [] p1) env)
      standAt p2.atName
      let (f, first) ← holding [ov] (getMethod ov "__init__" pl)
      callWith p4 f first (backTo p4 (starEach [.Name x p3] env)) []))
    (hint : ∀ env : Env, env.scope = scope → interactive env = false) (hsw1 : ∀ env : Env, env.scope = scope → swapsWith (.Call (.Attribute (.Call (.Name "super" p0) [] [] p1) "__init__" p2) [.Name x p3] [] p4) none p5.line env = pure false)
    (hsw2 : ∀ env : Env, env.scope = scope → swapsWith (.Name x p8) (some (.Attribute (.Name "self" p6) fld p7)) p9.line env = pure false)
    (htop : (P.main.scope.names.lookup ("super" : Str)).isSome = false)
    (haK : K.lookup a = none) (hx : hp.get? a = some (PySem.HandSPX.excO C t0)) (args : Args) (hbind : BindsTo ⟨hp, g, d, t, os⟩ fd args [("self", .ref a), (x, v)])
    (hR : ∀ h' tk dx t1, (∀ b o, b ≠ a → hp.get? b = some o → h'.get? b = some o) → hp.objs.size ≤ dx → dx ≠ a → h'.get? a = some ({ cls := .ref C, dict := some dx, data := .fields #[.ref t1, .none, .none, .none, .bool false, .none] } : Obj) →
      h'.Ns1 dx (fun y => if y = fld then some v else none) → R (.ok (.ret .none)) ⟨h', g, d, tk, os⟩) :
    codeAny (model P w) A (.call (.ref fI) args) R ⟨hp, g, d, t, os⟩ := by
  obtain ⟨oc, od, osl, dV, kV, doc, pm, an, cda, ct, cc, rfl, lk, hcd, ⟨ccl, cdd, vs, ccs, file, tf, lcd, hvs, hfile⟩, cl, cld, csl, lcc⟩ := S.ex
  obtain ⟨ar, har, hars⟩ := Z.hd
  obtain ⟨nm, q, N, bs, bm, sn, sub, ab, col, dd, k0, k1, k2, k3, k5, hC, hbm⟩ := T.cls
  have hcl : PySem.W.clsIn K C = some { name := nm, bases := bs, mro := .ref C :: bm, ns := N, qualname := q, hasDict := true, slotNames := sn, subclasses := sub, abstract := ab, collection := col, hasDel := false } := by unfold PySem.W.clsIn; rw [hC] <;> rfl
  refine ks_codeAny_call_defAt (body := supBody x fld p0 p1 p2 p3 p4 p5 p6 p7 p8 p9) (binds := [("self", .ref a), (x, v)]) hroom (X _ _ lk) rfl hlim (PySem.W.codeRec_of X hcd) rfl hbind Z.nc (fun y hy => ?_) (fun h0 hns hk => ?_) Z.co Z.ge Z.ki
  · rcases List.mem_cons.mp hy with rfl | hy
    · exact Z.n1
    · obtain rfl : y = (x, v) := by simpa using hy
      exact Z.n2
  have X0 : K.In h0 := X.keeps hk
  have ns_ : ∀ {L : Addr} {m : Str → Option Value}, hp.Ns L m → h0.Ns L m := fun ⟨o, es, ep, e, d, r⟩ => ⟨o, es, ep, hk _ _ e, d, r⟩
  have hn2 : h0.Ns hp.objs.size (fun y => [(("self" : Str), Value.ref a), (x, v)].reverse.lookup y) := hns
  have lself : ([(("self" : Str), Value.ref a), (x, v)].reverse.lookup ("self" : Str)) = some (.ref a) := by
    show List.lookup ("self" : Str) [(x, v), (("self" : Str), Value.ref a)] = _
    rw [List.lookup_cons, show (("self" : Str) == x) = false from by simpa using Z.ne]
    simp [List.lookup]
  have lx : ([(("self" : Str), Value.ref a), (x, v)].reverse.lookup x) = some v := by
    show List.lookup x [(x, v), (("self" : Str), Value.ref a)] = _
    rw [List.lookup_cons]
    simp
  obtain ⟨pl, hev⟩ := hev (callEnv (PySem.W.ksFn "__init__" qual params (supBody x fld p0 p1 p2 p3 p4 p5 p6 p7 p8 p9) scope dV kV doc pm an (.ref cda) ct cc) hp.objs.size fI) rfl
  refine ks_wpAt_execs_cons (ks_wpAt_Expr_any (ks_wpAt_MethodCall (pl := pl) ?_ hev) (hint _ rfl) (hsw1 _ rfl))
  refine ks_wpAt_super_base Z.ns Z.nk (by decide +kernel) rfl (X0 _ _ lk) rfl har rfl (X0 _ _ lcd) rfl hvs hfile htop ?_
  refine PySem.W.ks_loadName_global Z.ki Z.ns (PySem.Calls.loadGlobal_builtin (ns_ hg) (PySem.W.mg_none_of X hg S.gs) (ns_ hb) ((hbb _ (by decide +kernel)).trans (by first | rfl | kernel_rfl)) ⟨rfl, ?_⟩)
  refine wpAny_loadName_free Z.ki Z.nk rfl ⟨_, X0 _ _ lcc, rfl⟩ ?_
  rw [hars]
  refine wpAny_loadName_local Z.ki Z.n1 hn2 lself ?_
  refine ks_wpAny_isType_cls (X0 _ _ hC) rfl ⟨rfl, ?_⟩
  have hxa := hk _ _ hx
  refine ks_wpAny_call_super (X0 _ _ hC) rfl hxa rfl (fun c e => by cases e) (PySem.W.looks_mroIn X0 S.mro) (fun h1 e1 k1 => ?_)
  have X1 : K.In h1 := X0.keeps k1
  have I1 : PySem.W.InstAt h1 a (PySem.HandSPX.excO C t0) C none := ⟨k1 _ _ hxa, rfl, rfl, trivial⟩
  have hsup : PySem.W.alongIn K "__init__" ((((Value.ref C :: bm).dropWhile (· != .ref C)).drop 1)) = some (some (.builtin "ValueError.__init__")) := by
    have := S.sup
    unfold PySem.W.ks_superIn at this
    rw [hcl] at this
    exact this
  refine PySem.W.kxs_getMethod PySem.W.kxs_ValueError e1 (PySem.W.looks_opaque X1 S.opq) (l₀ := .ref C :: bm) (fun A Q E s k q => wpAny_bind ((PySem.W.looks_clsIn X1 hcl) A _ E s k (wpAny_pure q))) rfl X1 hsup (I1.type.andThen (PySem.W.looks_subIn X1 S.subV)) (PySem.W.ks_ne X1 I1 hcl) (by decide +kernel) ?_
  refine PySem.W.kxs_callWith (i := "ValueError.__init__") (x := a) (u := h1.objs.size) rfl (PySem.Calls.evalArgs_plain (PySem.Calls.spliced_cons ?_))
  show wpAny _ _ (eval (.Name x p3) _) _ _ _
  have hk1 : ∀ b o, hp.get? b = some o → h1.get? b = some o := fun b o e => k1 _ _ (hk _ _ e)
  have hn3 : h1.Ns hp.objs.size (fun y => [(("self" : Str), Value.ref a), (x, v)].reverse.lookup y) := let ⟨o, es, ep, e, d, r⟩ := hn2; ⟨o, es, ep, k1 _ _ e, d, r⟩
  refine PySem.ESX.ldL (m := fun y => [(("self" : Str), Value.ref a), (x, v)].reverse.lookup y) ?_ lx ?_ Z.ki Z.n2 Z.nd
  · let ⟨o, es, ep, e, d, r⟩ := hn3
    exact ⟨o, es, ep, Heap.get?_push_of_some _ e, d, r⟩
  refine wpAny_pure ⟨Heap.get?_push_at rfl rfl, ?_⟩
  show wpAny _ _ (call (.ref h1.objs.size) [v]) _ _ _
  have kp : ∀ b o, h1.get? b = some o → (h1.push (PySem.W.kxs_mw "ValueError.__init__" a)).get? b = some o := fun b o e => Heap.get?_push_of_some _ e
  refine call_mwV (kp _ _ (X1 _ _ hC)) (fun Y => PySem.HandSPX.refsVE_contains Y bm hbm) (kp _ _ (hk1 _ _ hx)) (Heap.get?_push_at rfl rfl) (by show 1 ≤ sizeLine; decide) (fun h2 t1 k2 hx2 => ?_)
  have k02 : ∀ b o, b ≠ a → hp.get? b = some o → h2.get? b = some o := fun b o nb e => k2 b o nb (kp _ _ (hk1 _ _ e))
  have nC : C ≠ a := fun z => by have := X _ _ hC; rw [z, hx] at this; cases this
  have X2 : K.In h2 := fun b o e => k02 b o (fun z => by rw [z, haK] at e; cases e) (X _ _ e)
  have hL : hp.objs.size ≠ a := Nat.ne_of_gt (Heap.lt_size hx)
  have hn4 : h2.Ns hp.objs.size (fun y => [(("self" : Str), Value.ref a), (x, v)].reverse.lookup y) := by
    obtain ⟨o, es, ep, e, d, r⟩ := hn3
    exact ⟨o, es, ep, k2 _ _ hL (kp _ _ e), d, r⟩
  refine ks_wpAt_execs_cons (ks_wpAt_Assign_Attr (wpAt_of_wpAny (PySem.ESX.ldL hn4 lx (PySem.ESX.ldL hn4 lself ?_ Z.ki Z.n1 (by decide)) Z.ki Z.n2 Z.nd)) (hsw2 _ rfl))
  refine PySem.W.set_plain X2 (ox := PySem.HandSPX.excO C t1) (od := none) ⟨hx2, rfl, rfl, trivial⟩ T.sa ?_
  refine PySem.HandSPX.exc_osa X2 hx2 hcl (show PySem.HandSPX.refsVE (.ref C :: bm) = true from hbm) rfl S.no (fun h3 tk3 dx k3 hd3 ne3 hx3 hn5 => ?_)
  refine wpAt_of_wpAny (wpAny_pure ?_)
  have hsz : hp.objs.size < h2.objs.size := let ⟨o, es, ep, e, d, r⟩ := hn4; Heap.lt_size e
  exact hR h3 tk3 dx t1 (fun b o nb e => k3 b o nb (k02 b o nb e)) (Nat.le_trans (Nat.le_of_lt hsz) hd3) ne3 hx3 hn5
def spSup (K : PySem.W.Frag) (C : Addr) (fld : Str) : Sp := fun vs H Q _ => ∃ a y, vs = [.ref a, y] ∧ H a = some (exo a C none) ∧ ∀ dx, H dx = none → dx ≠ a → Q .non (upd (upd H dx (exd dx [(fld, y)])) a (exo a C (some dx)))
theorem ok_sup {base : Heap} {CX : CXT} (S : SupF P K C fI fld qual params (supBody x fld p0 p1 p2 p3 p4 p5 p6 p7 p8 p9) scope fd) (Z : SupS x params scope) (T : OexC K C)
    (hev : ∀ env : Env, env.scope = scope → ∃ pl : Sem Bool, eval (.Call (.Attribute (.Call (.Name "super" p0) [] [] p1) "__init__" p2) [.Name x p3] [] p4) env = (do
      let ov ← attributeBase (.Call (.Name "super" p0) [] [] p1) "__init__" env (eval (.Call (.Name "super" p0) [] [] p1) env)
      standAt p2.atName
      let (f, first) ← holding [ov] (getMethod ov "__init__" pl)
      callWith p4 f first (backTo p4 (starEach [.Name x p3] env)) []))
    (hint : ∀ env : Env, env.scope = scope → interactive env = false) (hsw1 : ∀ env : Env, env.scope = scope → swapsWith (.Call (.Attribute (.Call (.Name "super" p0) [] [] p1) "__init__" p2) [.Name x p3] [] p4) none p5.line env = pure false)
    (hsw2 : ∀ env : Env, env.scope = scope → swapsWith (.Name x p8) (some (.Attribute (.Name "self" p6) fld p7)) p9.line env = pure false)
    (htop : (P.main.scope.names.lookup ("super" : Str)).isSome = false) : FnOk P w K mg base CX 1 fI fd ["self", x] (spSup K C fld) := by
  refine ⟨fun vs H Q E h => ?_, fun A outer s H args us vs Q E hr e0 hbd r hsp => ?_⟩
  · obtain ⟨a, y, rfl, _⟩ := h
    rfl
  obtain ⟨a, y, rfl, ha, q⟩ := hsp
  obtain ⟨u1, u2, rfl, r1, r2⟩ := vals2 r
  obtain rfl : u1 = Value.ref a := r1
  obtain ⟨t0, hx⟩ := exo_at e0.hok ha
  have KX : K.In s.heap := e0.mod.kin.keeps fun b o e => (e0.bs b o e).1
  have haK : K.lookup a = none := by
    cases z : K.lookup a with
    | none => rfl
    | some o =>
      have := (e0.bs _ _ (e0.mod.kin _ _ z)).2
      rw [ha] at this
      cases this
  obtain ⟨mb, hmb, hbb⟩ := e0.mod.blt
  have ns_ : ∀ {L : Addr} {m : Str → Option Value}, base.Ns L m → s.heap.Ns L m := fun ⟨o, es, ep, e, d, r⟩ => ⟨o, es, ep, (e0.bs _ _ e).1, d, r⟩
  have lim : s.heap.NoLimit := e0.mod.nolimit.keeps fun b o e => (e0.bs b o e).1
  obtain ⟨hp, g, d, t, os⟩ := s
  refine run_sup S Z T KX (ns_ e0.mod.glob) (ns_ hmb) hbb lim hr.depth hr.units hev hint hsw1 hsw2 htop haK hx args hbd (fun h' tk dx t1 k hd ne hx' hn => ?_)
  have nH : H dx = none := e0.hok.fresh hd
  have old : ∀ {b : Addr} {o : Obj}, hp.get? b = some o → b ≠ dx := fun e z => absurd (Heap.lt_size (z ▸ e)) (Nat.not_lt.mpr hd)
  have sep : ∀ {b : Addr}, H b = none → b ≠ a := fun n z => by rw [z, ha] at n; cases n
  refine ⟨.non, upd (upd H dx (exd dx [(fld, y)])) a (exo a C (some dx)), rfl, e0.bare, ⟨fun b o e n _ _ => k b o (sep n) e, fun b o e n _ _ => ⟨o.slots, k b o (sep n) e⟩, fun b o e n _ => ?_, fun b o e _ => ?_, fun b xs e => ?_, fun b o u e => ?_, fun b ps e => ?_⟩, fun b o e => ?_, rfl, q dx nH ne⟩
  · rw [upd_ne (sep n), upd_ne (old e)]
    exact n
  · by_cases c : b = a
    · exact ⟨_, by rw [c]; exact hx'⟩
    · exact ⟨o, k b o c e⟩
  · rw [upd_ne (at_ne ha e exo_tup), upd_ne (ne_of_none e nH)]
    exact e
  · rw [upd_ne (at_ne ha e exo_frz), upd_ne (ne_of_none e nH)]
    exact e
  · exact ⟨#[], by rw [upd_ne (at_ne ha e exo_tbl), upd_ne (ne_of_none e nH), e]; simp⟩
  · by_cases c : b = a
    · subst c
      rw [upd_same] at e
      cases e
      exact exo_ok hx'
    rw [upd_ne c] at e
    by_cases c2 : b = dx
    · subst c2
      rw [upd_same] at e
      cases e
      exact exd_ok hn (relO_put (fs := []) r2 fun _ => True.intro)
    rw [upd_ne c2] at e
    refine (e0.hok b o e).stay (fun c' v' hc z => k c' v' ?_ z) (fun c' hc => ?_) (fun c' xs hc => ?_)
    · rcases hc with hc | hc
      · rw [hc]; exact c
      · exact at_ne ha hc exo_own
    · rw [upd_ne (at_ne ha hc exo_own), upd_ne (ne_of_none hc nH)]
      exact hc
    · rw [upd_ne (at_ne ha hc exo_tup), upd_ne (ne_of_none hc nH)]
      exact hc
end
end Ys
namespace Ys
open PySem PySem.Spec PyProof.Rows L2 PySem.W PySem.Calls
section
variable {prog : Program} {w : World} {A : Around} {E : Value → Shared → Prop} {s : Shared} {K : Frag} {x D : Addr} {ox : Obj} {od : Option Obj}
theorem exc_class {Q : Option Value → Shared → Prop} (C : ExcC K D) (X : K.In s.heap) (I : InstAt s.heap x ox D od) (h : Q (some (.ref D)) { s with toks := s.toks + 1 }) : wpAny (model prog w) A (getAttr? (.ref x) "__class__") Q E s := by
  obtain ⟨hga, hgt, hsub, hdct, ha, hn, htk, hm⟩ := C
  have hc1 : (clsIn K D).isSome = true := by obtain ⟨cd, hc, _⟩ := any_some hdct; rw [hc]; rfl
  have hf : findObj K D od "__class__" = some (.bind (.builtin "getset_descriptor.__get__") (.builtin "object.__class__")) := by
    cases od with
    | none => exact findObj_dataN hc1 ha hn htk
    | some od => exact findObj_data hc1 ha hn htk
  obtain ⟨hp, g, d, t, os⟩ := s
  have M0 := I.type (M := model prog w); have M1 := looks_findIn (M := model prog w) X hga; have M2 := looks_findIn (M := model prog w) X hgt; have M3 := looks_find (M := model prog w) X I hf
  have isB : Looks (model prog w) hp (isInstance (.ref x) (.type "BaseException")) true := M0.andThen (looks_subIn X hsub)
  have n2 : (Value.builtin "BaseException.__getattribute__" == Value.builtin "object.__getattribute__") = false := by decide +kernel
  have n1 : (onTheHeap (Value.ref D) && Value.builtin "BaseException.__getattribute__" == Value.builtin "object.__getattribute__") = false := by rw [n2]; rfl
  unfold getAttr? getAttrBy? getAttrBy; refine wpAny_bind (wpAny_mkText (wpAny_bind (wpAny_attempt (wpAny_holding (wpAny_bind (M0.at (wpAny_bind (M1.at ?_))))))))
  refine (show wpAny _ _ (if (onTheHeap (Value.ref D) && Value.builtin "BaseException.__getattribute__" == Value.builtin "object.__getattribute__") = true then _ else _) _ _ _ from ?_)
  rw [n1, if_neg Bool.false_ne_true]; unfold getAttrByItsOwn hookBefore; refine wpAny_bind ?_
  rw [if_pos (show onTheHeap (Value.ref D) = true from rfl)]; refine M2.at (wpAny_bind (wpAny_attempt (wpAny_holding ?_)))
  unfold callGetattribute; rw [show (false && onTheHeap (Value.builtin "BaseException.__getattribute__")) = false from rfl, if_neg Bool.false_ne_true]
  unfold boundAndCalled; rw [PySem.F.excAttr_ValueError.ga.bind (.ref x)]; refine wpAny_bind (wpAny_pure ?_)
  refine (show wpAny _ _ (call (.builtin "BaseException.__getattribute__") [.ref x, .str "__class__" t]) _ _ _ from wpAny_call (codeAny_call_builtin PySem.F.excAttr_ValueError.ga.plain PySem.F.entry_bexc_ga ?_))
  refine @check_slot (model prog w) _ _ ⟨hp, g, d, t + 1, os⟩ "BaseException.__getattribute__" "BaseException" "__getattribute__" (.ref x) [.str "__class__" t] [] _ (by decide +kernel) (by decide +kernel) isB (PySem.F.args_bexc_ga (.ref x) (.str "__class__" t)) ?_
  unfold Builtin.«object.__getattribute__»; refine wpAny_bind (wpAny_of_eq (a := ((Value.ref x : Value), [Value.str "__class__" t])) (by first | rfl | (simp only [slotArgs]; rfl)) (wpAny_bind (wpAny_pure (wpAny_bind (M0.at (wpAny_bind (M3.at ?_)))))))
  refine (show wpAny _ _ (holding [Value.builtin "object.__class__"] (call (.builtin "getset_descriptor.__get__") [.builtin "object.__class__", .ref x, .ref D]) >>= ret) _ _ _ from wpAny_bind (wpAny_holding (wpAny_call (class_get (s := ⟨hp, g, d, t + 1, os⟩) (ox := ox) (od := od) X I hm (wpAny_pure ?_)))))
  refine (show wpAny _ _ (handedOut (.ref D)) _ _ _ from ?_)
  rw [handedOut_of (v := .ref D) rfl]
  first | exact wpAny_pure (wpAny_pure h) | exact wpAny_pure h | exact wpAny_pure (wpAny_bind (wpAny_pure (wpAny_pure h)))
theorem kitx_exc (C : ExcC K D) : KitX K (.ref x) (.ref D) (fun h => InstAt h x ox D od) :=
  ⟨fun _ _ _ I => I.type, (fun M h X _ A' Q' E' s' k q => by obtain ⟨cdD, hcD, _⟩ := any_some C.hd; unfold clsIn at hcD; split at hcD; (· rename_i ho; unfold isType loadHead; exact wpAny_bind (wpAny_loadPart (k _ _ (X _ _ ho)) (wpAny_pure q))); (· cases hcD)), (fun h tp dd its n sl X htp => by
    obtain ⟨cdD, hcD, _⟩ := any_some C.hd
    refine Bool.eq_false_iff.mpr fun q => ?_
    obtain rfl : D = tp := Value.ref.inj (beq_iff_eq.mp q)
    unfold clsIn at hcD
    split at hcD
    · rename_i ho
      have z := (X _ _ ho).symm.trans htp
      cases z
    · cases hcD), fun X I k => exc_class C X I k⟩
end
section
def rIsX (K : Frag) (D a : Addr) (cls : Value) (d : Option Addr) : List V → Hp → VK → Prop := fun xs H Q => ∃ (c : V) (cv : Value) (b : Bool) (dd : Addr) (fs : List (Str × V)), xs = [.ref a, c] ∧ cls = .ref D ∧ ClsV c cv ∧ kitOne K (.ref D) cv = some b ∧ d = some dd ∧ H dd = some (.xd fs) ∧ Q (.bl b) H
theorem call_isX {X : Cx} {a D : Addr} {cls : Value} {d : Option Addr} {oe : Obj} {pn : List (Addr × Obj)} (C : ExcC X.K D) (hz : Zc cls d oe) (hf : ∃ vs, oe.data = .fields vs) : CallR (X.suite a ((a, oe) :: pn)) (.builtin "isinstance") (rIsX X.K D a cls d) := by
  intro pins s σ H xs us Q I r ⟨c, cv, b, dd, fs, e1, e0, hc, e2, e3, hd, q⟩
  subst e1 e0
  obtain ⟨u1, u2, rfl, r1, r2⟩ := vals2 r
  obtain rfl : u1 = Value.ref a := r1
  obtain rfl := hc.eq r2
  subst e3
  obtain ⟨hget, _⟩ := I.pin (a, oe) (List.mem_append_left _ List.mem_cons_self)
  obtain ⟨mA, hns, _⟩ := (show ObjOk X.prog X.w H s.heap dd (.xd fs) from I.hok dd _ hd)
  obtain ⟨od, ho, _⟩ := lookIn_ns hns
  obtain ⟨vs, hv⟩ := hf
  have J : InstAt s.heap a oe D (some od) := ⟨hget, hz.1, (by unfold notCls; rw [hv]), by rw [hz.2]; exact ho⟩
  exact kia_one (kitx_exc (ox := oe) (od := some od) C) I.kIn J e2 (fun z => nomatch z) fun tk => ⟨.bl b, H, I.kept (t' := tk) fun _ _ z => z, rfl, q⟩
end
end Ys
namespace Ys
open PySem PySem.Spec PyProof.Rows L2
/-! ### raise C(e), C an own class with super().__init__(x), self.fld = x -/
structure ExcS (P : Program) (w : World) (K : PySem.W.Frag) (mg : Str → Option Value) (base : Heap) (C : Addr) (x fld : Str) : Prop where
  T : OexC K C
  ex : ∃ fI fd pn, PySem.W.findIn K (.ref C) "__init__" = some (some (.ref fI)) ∧ PySem.W.typeIn K (.ref fI) = some (.type "function") ∧ FnOk P w K mg base CX0 1 fI fd ["self", pn] (spSup K C fld) ∧ Binds K fd ["self", pn] []
  gC : mg x = some (.ref C)
section
variable {X : Cx} {K : PySem.W.Frag} {P : Program} {w : World} {G G1 H : Hp} {M : List (Addr × HO)} {σ : L2.St} {D : Ends} {te : TE} {C : Addr} {x fld : Str} {W : WX} {y : V} {e : Expr} {p pos pos' : Pos} {q : XK}
def RsW (K : PySem.W.Frag) (C : Addr) (fld : Str) (y : V) (H1 : Hp) (q : XK) : Prop := [y].length ≤ 1000 ∧ ∀ a, H1 a = none → spSup K C fld (.ref a :: ([y] ++ [])) (upd H1 a (exo a C none))
  (fun v H2 => v = .non ∧ ∃ (d : Addr) (fs : List (Str × V)), H2 a = some (exo a C (some d)) ∧ H2 d = some (exd d fs) ∧ H1 d = none ∧ q (.ref C) (some d) (upd (del H2 a) d (.xd fs))) (fun _ _ _ => False)
def sRs (K : PySem.W.Frag) (C : Addr) (fld : Str) (te : TE) (W : WX) : TS := fun _ σ H => te σ H fun y H1 => RsW K C fld y H1 fun cls d H' => W cls d σ H'
theorem ps_rs (S : ExcS X.prog X.w X.K X.mg X.base C x fld) (hc : X.calm = true) (tk : Takes X W) (hr : Room 2 X.A) (hg : Gl X x) (he : PE X e te)
    (hdb : (x == ("__debug__" : Str)) = false := by decide) (hst : starEach [e] X.env = (false, eval e X.env) :: starEach [] X.env := by rfl) (hpl : (backTo pos (starEach [] X.env)).any (·.1) = false := by rfl) :
    PS X (.Raise (some (.Call (.Name x p) [e] [] pos)) none pos') (sRs X.K C fld te W) := by
  obtain ⟨fI, fd, pn, iC, tI, F, hb⟩ := S.ex
  exact ps_raise hc tk (pmk_oex (ta := tCons te tNil) S.T iC tI F hr hb .nil pass0 hg S.gC (pa_cons he pa_nil hst) hdb hst hpl)
theorem z_rs (h : te σ H fun y H1 => RsW K C fld y H1 fun cls d H' => W cls d σ H') : sRs K C fld te W D σ H := h
theorem z_rsI (h : ∀ dx, H dx = none → q (.ref C) (some dx) (upd H dx (.xd [(fld, y)]))) : RsW K C fld y H q := by
  refine ⟨by show 1 ≤ 1000; decide, fun a ha => ⟨a, y, rfl, upd_same, fun dx hdx ne => ⟨rfl, dx, [(fld, y)], upd_same, ?_, ?_, ?_⟩⟩⟩
  · rw [upd_ne ne, upd_same]
  · rw [upd_ne ne] at hdx
    exact hdx
  · rw [upd_ne ne] at hdx
    have e1 : upd (del (upd (upd (upd H a (exo a C none)) dx (exd dx [(fld, y)])) a (exo a C (some dx))) a) dx (.xd [(fld, y)]) = upd H dx (.xd [(fld, y)]) := by
      funext b
      by_cases c : b = dx
      · rw [c, upd_same, upd_same]
      · rw [upd_ne c, upd_ne c]
        by_cases c2 : b = a
        · rw [c2, del_same, ha]
        · rw [del_ne c2, upd_ne c2, upd_ne c, upd_ne c2]
    rw [e1]
    exact h dx hdx
end
end Ys
namespace Ys
open PySem PySem.Spec PyProof.Rows L2
section
variable {X : Cx} {K : PySem.W.Frag} {G G1 H : Hp} {M : List (Addr × HO)} {σ : L2.St} {Q : VK} {te : TE} {t : TA} {d : PyData} {ds : List PyData} {v : V} {xs : List V} {a : Addr} {i : Int}
def rStr1 : List V → Hp → VK → Prop := fun xs H Q => ∃ s, xs = [.str s] ∧ Q (.str s) H
theorem c_str : CallR X (.type "str") rStr1 := SkE.call_str_str
theorem z_str1 {s : Str} (q : Q (.str s) H) : rStr1 [.str s] H Q := ⟨s, rfl, q⟩
theorem z_rep {n : Int} (z : Zp G M H) (h : G a = some (.lst xs)) (h0 : 0 ≤ n) (h1 : n ≤ 1000) (hl : xs.length * n.toNat ≤ 100000) (q : ∀ p G1 H1, Zp G1 M H1 → Same G G1 → G1 p = some (.lst (List.replicate n.toNat xs).flatten) → Q (.ref p) H1) : rRep (.ref a) (.int n) H Q :=
  ⟨a, n, xs, rfl, rfl, z.sub _ _ h, by omega, by omega, Nat.le_trans hl (by decide), fun p hp => q p _ _ (z.new hp _) (Same.new (z.free hp)) upd_same⟩
theorem z_neg (q : Q (.int (-i)) H) : rU (fun i => V.int (-i)) (.int i) H Q := ⟨i, rfl, q⟩
/-! ### literals, as data -/
def LitW (K : PySem.W.Frag) (te : TE) (d : PyData) : Prop := ∀ σ G M H Q, Zp G M H → (∀ v G1 H1, Zp G1 M H1 → Same G G1 → Dt K G1 v d → Q v H1) → te σ H Q
def LitA (K : PySem.W.Frag) (t : TA) (ds : List PyData) : Prop := ∀ σ G M H Q, Zp G M H → (∀ vs G1 H1, Zp G1 M H1 → Same G G1 → Dts K G1 vs ds → Q vs H1) → t σ H Q
theorem lit_c (h : ∀ G, Dt K G v d) : LitW K (tC v) d := fun _ G _ H _ z q => q v G H z (Same.refl G) (h G)
theorem lit_int (i : Int) : LitW K (tC (.int i)) (.int i) := lit_c fun _ => .int i
theorem lit_str (s : Str) : LitW K (tC (.str s)) (.str s) := lit_c fun _ => .str s
theorem lit_bl (b : Bool) : LitW K (tC (.bl b)) (.bool b) := lit_c fun _ => .bl b
theorem lit_non : LitW K (tC .non) .none := lit_c fun _ => .non
theorem lit_nil : LitA K tNil [] := fun _ G _ H _ z q => q [] G H z (Same.refl G) .nil
theorem lit_cons (h1 : LitW K te d) (h2 : LitA K t ds) : LitA K (tCons te t) (d :: ds) := fun σ G M H Q z q =>
  h1 σ G M H _ z fun v G1 H1 z1 s1 d1 => h2 σ G1 M H1 _ z1 fun vs G2 H2 z2 s2 d2 => q (v :: vs) G2 H2 z2 (s1.trans s2) (.cons (d1.up s2) d2)
theorem lit_tup (h : LitA K t ds) (hl : ds.length ≤ 1000) : LitW K (tTup t) (.tuple ds) := fun σ G M H Q z q =>
  h σ G M H _ z fun vs G1 H1 z1 s1 d1 => z_newT z1 (by rw [d1.len (ds := [])]; omega) fun p G2 H2 z2 s2 e2 => q _ G2 H2 z2 (s1.trans s2) (.tup (SqT.of e2) (d1.up s2))
theorem lit_lst (h : LitA K t ds) (hl : ds.length ≤ 1000) : LitW K (tLst t) (.list ds) := fun σ G M H Q z q =>
  h σ G M H _ z fun vs G1 H1 z1 s1 d1 => z_newL z1 (by rw [d1.len (ds := [])]; omega) fun p G2 H2 z2 s2 e2 => q _ G2 H2 z2 (s1.trans s2) (.lst (SqL.of e2) (d1.up s2))
theorem lit_neg (h : LitW K te (.int i)) : LitW K (tUn (rU fun i => V.int (-i)) te) (.int (-i)) := fun σ G M H Q z q =>
  h σ G M H _ z fun v G1 H1 z1 s1 d1 => by cases d1; exact z_neg (q _ G1 H1 z1 s1 (.int _))
theorem lit_pow (i j : Int) (h : CPow i j) : LitW K (tOp rPowG (tC (.int i)) (tC (.int j))) (.int (i ^ j.toNat)) := fun σ G M H Q z q => z_op (z_c (z_c (z_I h (q _ G H z (Same.refl G) (.int _)))))
theorem lit_dict0 : LitW K tDNewK (.dict []) := fun σ G M H Q z q p hp => q _ _ _ (z.new hp _) (Same.new (z.free hp)) (.dct (.inl upd_same) rfl .nil)
theorem lit_dict1 {k : Str} (h : LitW K te d) : LitW K (tDisp [(tC (.str k), te)]) (.dict [(.str k, d)]) := fun σ G M H Q z q =>
  z_disp z fun p H1 z1 => z_pc (z_c (h σ G _ H1 _ z1 fun v G2 H2 z2 s2 d2 => z_pn (z_dispE z2 [(.inr k, v)] rfl (by show 1 ≤ 15; decide) fun H3 z3 => by
    have fr : G2 p = none := (z3.own M.length p _ last_at).2
    exact q _ _ H3 z3.fix (s2.trans (Same.new fr)) (.dct (.inl upd_same) rfl (.cons (d2.up (Same.new fr)) .nil)))))
theorem lit_list (h : LitA K t ds) (hl : ds.length ≤ 1000) (z : Zp G M H) (q : ∀ p xs G1 H1, Zp G1 M H1 → Same G G1 → G1 p = some (.lst xs) → Dts K G1 xs ds → Q (.ref p) H1) : tLst t σ H Q :=
  h σ G M H _ z fun vs G1 H1 z1 s1 d1 => z_newL z1 (by rw [d1.len (ds := [])]; omega) fun p G2 H2 z2 s2 e2 => q p _ G2 H2 z2 (s1.trans s2) e2 (d1.up s2)
theorem Dts.app : ∀ {xs ys : List V} {ds es : List PyData}, Dts K G xs ds → Dts K G ys es → Dts K G (xs ++ ys) (ds ++ es)
  | _, _, _, _, .nil, h => h
  | _, _, _, _, .cons a b, h => .cons a (Dts.app b h)
theorem Dts.mem : ∀ {xs : List V} {ds : List PyData} {v : V}, Dts K G xs ds → v ∈ xs → ∃ d, d ∈ ds ∧ Dt K G v d
  | _, _, _, .nil, h => by cases h
  | _, _, _, .cons a b, h => by
    rcases List.mem_cons.mp h with rfl | h
    · exact ⟨_, List.mem_cons_self .., a⟩
    · obtain ⟨d, h1, h2⟩ := Dts.mem b h
      exact ⟨d, List.mem_cons_of_mem _ h1, h2⟩
end
end Ys
namespace Ys
open PySem PySem.Spec PyProof.Rows L2
/-! ### a class made, which may raise -/
section
variable {X : Cx} {k n m : Nat} {C dx : Addr} {x : Str} {ks : List Str} {gV : List V → List V → List V} {sp : Sp} {W : WX} {t tk : TA} {p pos : Pos} {e : Expr} {es : List Expr} {kws : List Keyword} {G H : Hp} {M : List (Addr × HO)} {σ : L2.St} {Q : VK} {vs zs : List V}
def MkWS (C : Addr) (n m : Nat) (sp : Sp) (gV : List V → List V → List V) (E : XK) (vs zs : List V) (H2 : Hp) (Q : VK) : Prop := vs.length = n ∧ zs.length = m ∧ ∀ x dx, H2 x = none → H2 dx = none → dx ≠ x →
  sp (gV (.ref x :: vs) zs) (upd (upd H2 dx (.own x)) x (.ins C dx [])) (fun v H3 => v = .non ∧ Q (.ref x) H3) E
def tMkS (C : Addr) (n m : Nat) (sp : Sp) (gV : List V → List V → List V) (W : WX) (t tk : TA) : TE := fun σ H Q => t σ H fun vs H1 => tk σ H1 fun zs H2 => MkWS C n m sp gV (WE W σ) vs zs H2 Q
theorem pe_mkX (R : MkS X.prog X.w X.K X.mg X.base (L2.CX X.prog X.w) k C x n ks gV sp) (hr : Room (k + 1) X.A) (hg : Gl X x) (tx : Takes X W) (ha : PA X (e :: es) t) (hkw : PK X kws tk)
    (hall : (backToKw pos (keywordEach kws X.env)).all (·.1.isSome) = true := by rfl) (hks : (backToKw pos (keywordEach kws X.env)).filterMap (·.1) = ks := by rfl) (hdb : (x == ("__debug__" : Str)) = false := by decide)
    (he : starEach (e :: es) X.env = (false, eval e X.env) :: starEach es X.env := by rfl) (hpl : ((backTo pos (starEach (e :: es) X.env)).any (·.1) || (backToKw pos (keywordEach kws X.env)).any (·.1.isNone)) = false := by rfl) :
    PE X (.Call (.Name x p) (e :: es) kws pos) (tMkS C n ks.length sp gV W t tk) := by
  obtain ⟨f, fd, ps, g, mk, F, hm, hb⟩ := R.ex
  refine ⟨fun pins s σ H Q I h => wpAny_Call_Name_kw (ld_glob I hg hm ?_ hdb)⟩
  refine PySem.W.callWith_KW (h₀ := X.base) I.ok.mod.kin mk.kp hall (thn (ha.run pos pins s σ H _ I h) fun us s1 ⟨vs, H1, I1, r, q⟩ => ?_) hpl he
  refine thn (hkw.run pos pins s1 σ H1 _ I1 q) fun ws s2 ⟨zs, H2, I2, rz, l1, l2, q2⟩ => ⟨I2.kIn, ?_⟩
  rw [hks]
  -- the object, its dict, then __init__
  have fx := I2.hok.fresh (Nat.le_succ s2.heap.objs.size); have fd := I2.hok.fresh (Nat.le_refl s2.heap.objs.size)
  have hq := q2 (s2.heap.objs.size + 1) s2.heap.objs.size fx fd (Nat.ne_of_lt (Nat.lt_succ_self _))
  have J := Inv.made (C := C) I2
  have ra : Vals (V.ref (s2.heap.objs.size + 1) :: vs) (Value.ref (s2.heap.objs.size + 1) :: us) := .cons rfl r
  have na : (Value.ref (s2.heap.objs.size + 1) :: us).length = n + 1 := by rw [List.length_cons, ← r.length, l1]
  refine wpAny_call (make_map (f := f) I2.kIn mk.makes mk.init (beq_iff_eq.mp mk.fn) (codeAny_mono (F.run _ X.stack _ _ ⟨Value.ref (s2.heap.objs.size + 1) :: us, ks.zip ws⟩ (g (Value.ref (s2.heap.objs.size + 1) :: us) ws) _ _ (WE W σ) (hr.make C us (ks.zip ws))
    (J.env0.make C us (ks.zip ws)) (hb.to _ _ ws J.kIn na (rz.length.symm.trans l2)) (hb.rel ra rz) hq) fun rr s' hz => ?_))
  match rr, hz with
  | .error er, hz => exact passAt tx σ pins _ _ er s' J hz
  | .ok (.ret u), hz =>
    obtain ⟨v, H', I3, rv, ev, q3⟩ := J.after hz
    subst ev
    exact ⟨rv, ⟨V.ref (s2.heap.objs.size + 1), H', I3, rfl, q3⟩⟩
  | .ok .next, hz => exact hz.elim
  | .ok .brk, hz => exact hz.elim
  | .ok .cont, hz => exact hz.elim
theorem z_mkS (h : t σ H fun vs H1 => tk σ H1 fun zs H2 => MkWS C n m sp gV (WE W σ) vs zs H2 Q) : tMkS C n m sp gV W t tk σ H Q := h
theorem z_mkSI {E : XK} (z : Zp G M H) (l1 : vs.length = n) (l2 : zs.length = m) (q : ∀ x dx H1, Zp (upd G dx (.own x)) (M ++ [(x, .ins C dx [])]) H1 → Same G (upd G dx (.own x)) → sp (gV (.ref x :: vs) zs) H1 (fun v H3 => v = .non ∧ Q (.ref x) H3) E) : MkWS C n m sp gV E vs zs H Q :=
  ⟨l1, l2, fun x dx hx hd ne => q x dx _ ((z.new hd _).add (by rw [upd_ne (Ne.symm ne)]; exact hx) _) (Same.new (z.free hd))⟩
end
end Ys
namespace Ys
open PySem PySem.Spec L2 Builtin Builtin.ObjectAttr
/-! ### an own error below any of the errors, made with keywords -/
section
variable {prog : Program} {w : World} {A : Around} {E : Value → Shared → Prop} {R : Result → Shared → Prop} {h : Heap} {g : Array GenState} {d : Drawn} {t : Nat} {os : OsState}
variable {nm q : Str} {C N : Addr} {bs tl : List Value} {hdct : Bool} {sn : List Str} {sub : List Value} {ab : Bool} {col : Option Bool} {dd : Option Addr} {k0 k1 k2 k3 k5 : Option Value} {B newId initId : String} {kw : List (Str × Value)}
theorem newC (F : ExcBaseFacts B newId initId tl) {us : List Value} {Q : Unit → Shared → Prop} (hC : h.get? C = some (excClassObj nm q C N bs tl hdct sn sub ab col dd k0 k1 k2 k3 k5 newId)) (hq : Q () ⟨h, g, d, t, os⟩) :
    wpAny (model prog w) A (checkBuiltinCall newId ⟨.ref C :: us, kw⟩) Q E ⟨h, g, d, t, os⟩ := by
  have sees : (Value.ref C :: tl).contains (.type B) = true := by rw [List.contains_cons, F.hasB, Bool.or_true]
  have nostar := F.noStar
  simp only [checkBuiltinCall, F.newRow, F.newSplit, F.newKind]
  repeat (first | refine wpAny_loadPart_at hC ?_ | (refine wpAny_isSubtype_exc hC ?_; rw [sees]) | refine wpAny_madeBy_exc hC ?_ | refine wpAny_staticBase_exc hC ?_ | simp only [bne_self_eq_false, if_false, Bool.false_eq_true] | wp_step)
  exact hq
theorem newE (F : ExcBaseFacts B newId initId tl) {us : List Value} (hC : h.get? C = some (excClassObj nm q C N bs tl hdct sn sub ab col dd k0 k1 k2 k3 k5 newId)) (hl : us.length ≤ sizeLine)
    (hq : R (.ok (.ret (.ref (h.objs.size + 1)))) ⟨(h.push (PySem.W.kdv_tup us)).push (PySem.HandSPX.excO C h.objs.size), g, d, t, os⟩) : codeAny (model prog w) A (.builtin newId ⟨.ref C :: us, kw⟩) R ⟨h, g, d, t, os⟩ := by
  have nends := F.ends
  have s1 : (Value.ref C :: tl).contains (.type B) = true := by rw [List.contains_cons, F.hasB, Bool.or_true]
  have s2 : (Value.ref C :: tl).contains (.type "AttributeError") = false := by rw [List.contains_cons, F.noAttr]; rfl
  have s3 : (Value.ref C :: tl).contains (.type "NameError") = false := by rw [List.contains_cons, F.noName]; rfl
  refine codeAny_builtinAt F.entry ?_
  unfold Builtin.«BaseException.__new__»
  refine wpAt_bind ?_
  refine (show wpAt _ _ _ (stack >>= _) _ _ _ from wpAt_bind (wpAt_stack fun p below => wpAt_of_wpAny ?_))
  wp_walk
  refine wpAt_of_wpAny ?_
  rw [F.owner]
  repeat (first | with_reducible refine wpAny_madeHere_exc F.canon hC ?_ | with_reducible refine wpAny_loadPart_at hC ?_ | (with_reducible refine wpAny_isSubtype_exc hC ?_; first | rw [s1] | rw [s2] | rw [s3]) | wp_step)
  refine (show R _ _ from ?_)
  rw [Heap.size_push]
  exact hq
theorem metaC {us : List Value} {Q : Unit → Shared → Prop} (hC : h.get? C = some (excClassObj nm q C N bs tl hdct sn sub ab col dd k0 k1 k2 k3 k5 newId)) (hq : Q () ⟨h, g, d, t, os⟩) :
    wpAny (model prog w) A (checkBuiltinCall "type.__call__" ⟨.ref C :: us, kw⟩) Q E ⟨h, g, d, t, os⟩ := by
  have sub3 := tc_sub
  have tyC : (⟨h, g, d, t, os⟩ : Shared).TypeIs (.ref C) "type" := ⟨_, hC, rfl⟩
  simp only [checkBuiltinCall, tc_split, tc_kind]
  repeat (any_goals (first | assumption | with_reducible refine wpAny_loadPart_at hC ?_ | with_reducible refine wpAny_map ?_ | with_reducible refine wpAny_onRaise ?_ | wp_step))
theorem typeE (F : ExcBaseFacts B newId initId tl) {us : List Value} {fI : Addr} {Q : Fin → Shared → Prop} (hC : h.get? C = some (excClassObj nm q C N bs tl hdct sn sub ab col dd k0 k1 k2 k3 k5 newId))
    (hi : W.Looks (model prog w) h (typeLookup (.ref C) "__init__") (some (.ref fI))) (hb : ∀ self, W.Looks (model prog w) h (bindSpecial (.ref fI) self) (.ref fI, [self])) (hl : us.length ≤ sizeLine)
    (hq : codeAny (model prog w) A (.call (.ref fI) ⟨.ref (h.objs.size + 1) :: us, kw⟩) (fun r s' => match r with | .ok (.ret v) => v = .none ∧ Q (.done (.ret (.ref (h.objs.size + 1)))) s' | .ok _ => False | .error e => E e s')
      ⟨(h.push (W.kdv_tup us)).push (PySem.HandSPX.excO C h.objs.size), g, d, t, os⟩) : wpAny (model prog w) A (Builtin.«type.__call__» ⟨.ref C :: us, kw⟩) Q E ⟨h, g, d, t, os⟩ := by
  repeat (first | with_reducible refine wpAny_madeBy_exc hC ?_ | with_reducible refine wpAny_loadPart_at hC ?_ | wp_step)
  refine codeAny_call_builtin_code (Code.quiet_builtin _ F.quiet) (newC F hC ?_)
  refine newE F hC hl ?_
  refine (show wpAny _ _ _ _ _ _ from ?_)
  have up : ∀ b o, h.get? b = some o → ((h.push (W.kdv_tup us)).push (PySem.HandSPX.excO C h.objs.size)).get? b = some o := fun b o e => Heap.get?_push_of_some _ (Heap.get?_push_of_some _ e)
  have hC2 := up _ _ hC
  have own : ((h.push (W.kdv_tup us)).push (PySem.HandSPX.excO C h.objs.size)).get? (h.objs.size + 1) = some (PySem.HandSPX.excO C h.objs.size) := by heap_get
  have inC : (Value.ref C :: tl).contains (.ref C) = true := by simp
  have i2 := hi.keeps up
  have b2 := (hb (.ref (h.objs.size + 1))).keeps up
  unfold isInstance
  repeat (first | with_reducible refine wpAny_loadPart_at own ?_ | (with_reducible refine wpAny_isSubtype_exc hC2 ?_; rw [inC]) | wp_step)
  refine (show wpAny _ _ (typeLookup (.ref C) _) _ _ _ from i2.at (wpAny_holding (wpAny_bind (b2.at (wpAny_bind (wpAny_call (codeAny_mono hq fun r s' z => ?_)))))))
  rcases r with e | (v | _ | _ | _) <;> first | exact z | exact z.elim | skip
  obtain ⟨rfl, z⟩ := z
  first
    | exact wpAny_pure (wpAny_pure z)
    | (wp_walk; exact z)
theorem callE (F : ExcBaseFacts B newId initId tl) {us : List Value} {fI : Addr} (hC : h.get? C = some (excClassObj nm q C N bs tl hdct sn sub ab col dd k0 k1 k2 k3 k5 newId))
    (hi : W.Looks (model prog w) h (typeLookup (.ref C) "__init__") (some (.ref fI))) (hb : ∀ self, W.Looks (model prog w) h (bindSpecial (.ref fI) self) (.ref fI, [self])) (hl : us.length ≤ sizeLine)
    (hq : codeAny (model prog w) (A.under (.builtin "type.__call__" ⟨.ref C :: us, kw⟩)) (.call (.ref fI) ⟨.ref (h.objs.size + 1) :: us, kw⟩) (W.InitBack (h.objs.size + 1) R) ⟨(h.push (W.kdv_tup us)).push (PySem.HandSPX.excO C h.objs.size), g, d, t, os⟩) :
    codeAny (model prog w) A (.call (.ref C) ⟨us, kw⟩) R ⟨h, g, d, t, os⟩ := by
  have l1 := tc_lookup
  have l2 := tc_bind (.ref C)
  have tyC : (⟨h, g, d, t, os⟩ : Shared).TypeIs (.ref C) "type" := ⟨_, hC, rfl⟩
  refine codeAny_of_tree ?_
  refine (show wpAny _ _ (callAny (.ref C) _) _ _ _ from ?_)
  repeat (any_goals (first | assumption | with_reducible refine wpAny_loadPart_at hC ?_ | wp_step))
  refine ⟨rfl, ?_⟩
  refine codeAny_call_builtin_at (Code.quiet_builtin _ (by decide +kernel)) entry_typeCall (metaC hC (typeE F hC hi hb hl ?_))
  refine codeAny_mono hq fun r s' z => ?_
  rcases r with e | (v | _ | _ | _) <;> exact z
end
end Ys
namespace Ys
open PySem PySem.Spec L2 Builtin Builtin.ObjectAttr
/-! ### the errors that own ones stand below -/
structure BaseE (B newId initId : String) (tl : List Value) : Prop where
  base : ExcBaseFacts B newId initId tl
  kxs : PySem.W.KxsFacts B initId
  passes : ∀ self : Value, refuseLoop self "__setattr__" tl = pure ()
  obj : tl.contains (.type "object") = true
theorem bValue : BaseE "ValueError" "ValueError.__new__" "ValueError.__init__" [.type "ValueError", .type "Exception", .type "BaseException", .type "object"] := ⟨F.excBase_ValueError, PySem.W.kxs_ValueError, F.store_ValueError.passes, by decide +kernel⟩
theorem bLookup : BaseE "LookupError" "LookupError.__new__" "LookupError.__init__" [.type "LookupError", .type "Exception", .type "BaseException", .type "object"] := ⟨F.excBase_LookupError, PySem.W.kxs_LookupError, F.store_LookupError.passes, by decide +kernel⟩
theorem bRuntime : BaseE "RuntimeError" "RuntimeError.__new__" "RuntimeError.__init__" [.type "RuntimeError", .type "Exception", .type "BaseException", .type "object"] := ⟨F.excBase_RuntimeError, PySem.W.kxs_RuntimeError, F.store_RuntimeError.passes, by decide +kernel⟩
theorem bOverflow : BaseE "OverflowError" "OverflowError.__new__" "OverflowError.__init__" [.type "OverflowError", .type "ArithmeticError", .type "Exception", .type "BaseException", .type "object"] := ⟨F.excBase_OverflowError, PySem.W.kxs_OverflowError, F.store_OverflowError.passes, by decide +kernel⟩
section
variable {prog : Program} {w : World} {A : Around} {E : Value → Shared → Prop} {R : Result → Shared → Prop} {hp : Heap} {g : Array GenState} {d : Drawn} {t : Nat} {os : OsState}
variable {K : W.Frag} {name : Str} {tk : Tok} {v : Value} {x C : Addr} {fv : Array Value} {cd : ClassData} {B newId initId : String} {tl : List Value}
theorem storeN (T : BaseE B newId initId tl) (X : K.In hp) (hx : hp.get? x = some { cls := .ref C, data := .fields fv }) (hc : W.clsIn K C = some cd) (hm : cd.mro = .ref C :: tl) (hd : cd.hasDict = true) (no : W.findIn K (.ref C) name = some none)
    (hq : ∀ h' tk' dx, (∀ b o, b ≠ x → hp.get? b = some o → h'.get? b = some o) → hp.objs.size ≤ dx → dx ≠ x → h'.get? x = some { cls := .ref C, dict := some dx, data := .fields fv } → h'.Ns1 dx (fun y => if y = name then some v else none) → R (.ok (.ret .none)) ⟨h', g, d, tk', os⟩) :
    codeAny (model prog w) A (.call (.builtin "object.__setattr__") ⟨[.ref x, .str name tk, v], []⟩) R ⟨hp, g, d, t, os⟩ := by
  have J : W.InstAt hp x { cls := .ref C, data := .fields fv } C none := ⟨hx, rfl, rfl, trivial⟩
  have so := F.store_object
  have full : cd.mro.isEmpty = false := by rw [hm]; rfl
  have ob : cd.mro.contains (.type "object") = true := by rw [hm, List.contains_cons, T.obj, Bool.or_true]
  have far : x ≠ hp.objs.size := Nat.ne_of_lt (Heap.lt_size hx)
  have below : W.Looks (model prog w) hp (isInstance (.ref x) (.type "object")) true := J.type.andThen (W.looks_mroIn X (by unfold W.mroIn; rw [hc, Option.bind_some, if_neg (by rw [full]; exact Bool.false_ne_true), ob]))
  refine codeAny_call_builtin so.slot.plain so.entry (@W.check_slot (model prog w) _ _ ⟨hp, g, d, t, os⟩ "object.__setattr__" "object" "__setattr__" (.ref x) [.str name tk, v] [] _ so.kind so.split below (so.args (.ref x) (.str name tk) v) ?_)
  have row : W.Looks (model prog w) hp (mroOf (.ref C)) cd.mro := (W.looks_clsIn X hc).andThen .now
  have none3 : W.Looks (model prog w) hp (storeTaker? none) none := .now
  have lc : W.Looks (model prog w) hp (classData C) cd := W.looks_clsIn X hc
  rw [W.osa_eq, refuse_eq]
  refine wpAny_bind (wpAny_bind (J.type.at (wpAny_bind (row.at ?_))))
  rw [hm, refuseLoop_ref, T.passes]
  refine wpAny_pure (wpAny_bind (J.type.at (wpAny_bind ((W.looks_findIn X no).at (wpAny_bind (none3.at ?_))))))
  refine (show wpAny _ _ (storeInOwnDict (.ref x) (.ref C) (.str name tk) name v false) _ _ _ from ?_)
  obtain ⟨y1, y2, y3, y4, y5, y6, y7, y8, y9, y10, y11⟩ := cd
  dsimp only at hd
  subst hd
  unfold storeInOwnDict ownDictForStores
  repeat (first | with_reducible refine PySem.HandSPX.store_in_new ?_ ?_ | with_reducible refine wpAny_loadPart_at hx ?_ | with_reducible refine lc.at ?_ | wp_step)
  · exact ⟨_, #[], _, (Heap.get?_update_ne _ _ _ _ far.symm).trans (Heap.get?_push_at rfl rfl), rfl, fun e he => absurd he (by simp), fun _ => rfl⟩
  · intro h' tk' hn' hs
    have hx2 : (hp.push { cls := .type "dict", data := .dict #[] }).get? x = some { cls := .ref C, data := .fields fv } := Heap.get?_push_of_some _ hx
    refine hq h' tk' hp.objs.size (fun b o nb ho => ?_) (Nat.le_refl _) far.symm ?_ hn'
    · exact (hs.2 b (Nat.ne_of_lt (Heap.lt_size ho))).trans ((Heap.get?_update_ne _ _ _ _ nb).trans (Heap.get?_push_of_some _ ho))
    · exact (hs.2 x far).trans (Heap.get?_update_self _ hx2 rfl)
theorem storeM {dx : Addr} {m0 : Str → Option Value} {nl : List Str} (T : BaseE B newId initId tl) (X : K.In hp) (hx : hp.get? x = some { cls := .ref C, dict := some dx, data := .fields fv }) (hn : hp.Ns1 dx m0) (hw : Within m0 nl) (hz : nl.length ≤ 1000) (hc : W.clsIn K C = some cd) (hm : cd.mro = .ref C :: tl) (hd : cd.hasDict = true)
    (no : W.findIn K (.ref C) name = some none)
    (hq : ∀ h' tk', (∀ b o, b ≠ dx → hp.get? b = some o → h'.get? b = some o) → h'.Ns1 dx (fun y => if y = name then some v else m0 y) → R (.ok (.ret .none)) ⟨h', g, d, tk', os⟩) :
    codeAny (model prog w) A (.call (.builtin "object.__setattr__") ⟨[.ref x, .str name tk, v], []⟩) R ⟨hp, g, d, t, os⟩ := by
  obtain ⟨od, _, _, hod, _, _⟩ := hn.count hw
  have J : W.InstAt hp x { cls := .ref C, dict := some dx, data := .fields fv } C (some od) := ⟨hx, rfl, rfl, hod⟩
  have so := F.store_object
  have full : cd.mro.isEmpty = false := by rw [hm]; rfl
  have ob : cd.mro.contains (.type "object") = true := by rw [hm, List.contains_cons, T.obj, Bool.or_true]
  have below : W.Looks (model prog w) hp (isInstance (.ref x) (.type "object")) true := J.type.andThen (W.looks_mroIn X (by unfold W.mroIn; rw [hc, Option.bind_some, if_neg (by rw [full]; exact Bool.false_ne_true), ob]))
  refine codeAny_call_builtin so.slot.plain so.entry (@W.check_slot (model prog w) _ _ ⟨hp, g, d, t, os⟩ "object.__setattr__" "object" "__setattr__" (.ref x) [.str name tk, v] [] _ so.kind so.split below (so.args (.ref x) (.str name tk) v) ?_)
  have row : W.Looks (model prog w) hp (mroOf (.ref C)) cd.mro := (W.looks_clsIn X hc).andThen .now
  have none3 : W.Looks (model prog w) hp (storeTaker? none) none := .now
  have lc : W.Looks (model prog w) hp (classData C) cd := W.looks_clsIn X hc
  rw [W.osa_eq, refuse_eq]
  refine wpAny_bind (wpAny_bind (J.type.at (wpAny_bind (row.at ?_))))
  rw [hm, refuseLoop_ref, T.passes]
  refine wpAny_pure (wpAny_bind (J.type.at (wpAny_bind ((W.looks_findIn X no).at (wpAny_bind (none3.at ?_))))))
  refine (show wpAny _ _ (storeInOwnDict (.ref x) (.ref C) (.str name tk) name v false) _ _ _ from ?_)
  obtain ⟨y1, y2, y3, y4, y5, y6, y7, y8, y9, y10, y11⟩ := cd
  dsimp only at hd
  subst hd
  unfold storeInOwnDict ownDictForStores
  repeat (first | with_reducible refine PySem.OEX.store_in_old hn hw hz ?_ | with_reducible refine wpAny_loadPart_at hx ?_ | with_reducible refine lc.at ?_ | wp_step)
  intro h' tk' hn' hs
  exact hq h' tk' (fun b o nb ho => (hs.2 b nb).trans ho) hn'
end
end Ys
namespace Ys
open PySem PySem.Spec PyProof.Rows L2
/-! ### the own __init__ of an error below any of the errors -/
structure OexE (K : PySem.W.Frag) (C : Addr) (newId : String) (tl : List Value) : Prop where
  cls : ∃ nm q N bs sn sub ab col dd k0 k1 k2 k3 k5, K.lookup C = some (excClassObj nm q C N bs tl true sn sub ab col dd k0 k1 k2 k3 k5 newId)
  sa : PySem.W.findIn K (.ref C) "__setattr__" = some (some (.builtin "object.__setattr__"))
  exC : PySem.W.subIn K (.ref C) (.type "BaseException") = some true
  tyC : PySem.W.typeIn K (.ref C) = some (.type "type")
  kC : PySem.W.keepIn K (.ref C) = true
structure SupE (P : Program) (K : PySem.W.Frag) (C fI : Addr) (B initId : String) (flds : List Str) (qual : Str) (params : Arguments) (body : List Stmt) (scope : Scope) (fd : FuncData) : Prop where
  ex : ∃ oc od osl dV kV doc pm an cda ct cc, fd = PySem.W.ksFn "__init__" qual params body scope dV kV doc pm an (.ref cda) ct cc ∧ K.lookup fI = some ⟨oc, od, .func fd, osl⟩ ∧ PySem.W.codeIn K (.ref cda) qual = true ∧
    (∃ ccl cdd vs ccs file tf, K.lookup cda = some ⟨ccl, cdd, .fields vs, ccs⟩ ∧ vs[2]? = some (.str file tf) ∧ ((P.main.file : Str) == file) = true) ∧ ∃ cl cld csl, K.lookup cc = some ⟨cl, cld, .cell (some (.ref C)), csl⟩
  sup : PySem.W.ks_superIn K C C "__init__" = some (some (.builtin initId))
  subV : PySem.W.subIn K (.ref C) (.type B) = some true
  opq : PySem.W.nsIn K cStatics "thirdparty.any" = some none
  gs : PySem.W.nsIn K mainGlobals "super" = some none
  no : ∀ f ∈ flds, PySem.W.findIn K (.ref C) f = some none
  mro : PySem.W.mroIn K C (.ref C) = some true
section
variable {P : Program} {w : World} {K : PySem.W.Frag} {C fI a t0 : Addr} {A : Around} {R : Result → Shared → Prop} {fd : FuncData} {hp : Heap} {g : Array GenState} {d : Drawn} {t : Nat} {os : OsState} {B newId initId : String} {tl : List Value}
theorem call_mwE (T : BaseE B newId initId tl) {mw : Addr} {us : List Value} {nm q : Str} {N : Addr} {bs : List Value} {hd : Bool} {sn : List Str} {sub : List Value} {ab : Bool} {col : Option Bool} {dd : Option Addr} {k0 k1 k2 k3 k5 : Option Value} {Q : Value → Shared → Prop} {E : Value → Shared → Prop}
    (hC : hp.get? C = some (excClassObj nm q C N bs tl hd sn sub ab col dd k0 k1 k2 k3 k5 newId)) (hx : hp.get? a = some (PySem.HandSPX.excO C t0)) (hu : hp.get? mw = some (PySem.W.kxs_mw initId a)) (hz : us.length ≤ sizeLine)
    (hq : ∀ h' t1, (∀ b o, b ≠ a → hp.get? b = some o → h'.get? b = some o) → h'.get? a = some (PySem.HandSPX.excO C t1) → Q .none ⟨h', g, d, t, os⟩) : wpAny (model P w) A (call (.ref mw) us) Q E ⟨hp, g, d, t, os⟩ := by
  refine wpAny_call (codeAny_of_tree ?_)
  show wpAny _ A.in1 (callAny (.ref mw) ⟨us, []⟩) _ _ _; simp only [callAny]
  refine wpAny_bind (wpAny_load hu ?_)
  have q1 : (Value.type "method-wrapper" == Value.type "method" || Value.type "method-wrapper" == Value.type "builtin_function_or_method" || Value.type "method-wrapper" == Value.type "method-wrapper") = true := by decide
  simp only [PySem.W.kxs_mw, q1, if_true]
  refine PySem.W.KFB.if_so (by decide) (wpAny_bind (PySem.W.check_bound_init T.base.toExcCallFacts hC hx rfl ?_))
  refine wpAny_bind (wpAny_pure (wpAny_pure ⟨plainId_quiet T.base.init.plain _, codeAny_builtin T.base.initEntry ?_⟩))
  exact PySem.W.exc_init_tree (cls := .ref C) (t0 := t0) (dv := none) (c2 := .none) (c3 := .none) (b4 := .bool false) hx hz fun h' k e _ => hq h' _ k e
structure SupZ (ps : List Str) (params : Arguments) (scope : Scope) : Prop where
  nc : ∀ y ∈ scope.names, y.2 ≠ .cell
  ns : scope.names.lookup ("super" : Str) = some .globalImplicit
  nk : scope.names.lookup ("__class__" : Str) = some .free
  loc : ∀ y ∈ ps, scope.names.lookup y = some .local
  co : scope.isCoroutine = false
  ge : scope.isGenerator = false
  ki : scope.kind = .function
  hd : ∃ ar, (params.posonlyargs ++ params.args).head? = some ar ∧ ar.arg = "self"
variable {qual : Str} {flds : List Str} {params : Arguments} {scope : Scope} {p0 p1 p2 p4 p5 : Pos} {es : List Expr} {rest : List Stmt} {mg mb : Str → Option Value} {vs : List Value} {ps : List Str}
theorem sup_first (S : SupE P K C fI B initId flds qual params (.Expr (.Call (.Attribute (.Call (.Name "super" p0) [] [] p1) "__init__" p2) es [] p4) p5 :: rest) scope fd) (Z : SupZ ("self" :: ps) params scope) (TB : BaseE B newId initId tl) (T : OexE K C newId tl)
    (X : K.In hp) (hg : hp.Ns mainGlobals mg) (hb : hp.Ns builtinsNs mb) (hbb : ∀ y : Str, y ≠ "__name__" → mb y = bootBuiltins y) (hlim : hp.NoLimit) (hroom : A.depth < recursionLimit)
    (hev : ∀ env : Env, env.scope = scope → ∃ pl : Sem Bool, eval (.Call (.Attribute (.Call (.Name "super" p0) [] [] p1) "__init__" p2) es [] p4) env = (do
      let ov ← attributeBase (.Call (.Name "super" p0) [] [] p1) "__init__" env (eval (.Call (.Name "super" p0) [] [] p1) env)
      standAt p2.atName
      let (f, first) ← holding [ov] (getMethod ov "__init__" pl)
      callWith p4 f first (backTo p4 (starEach es env)) []))
    (hpl : ∀ env : Env, (backTo p4 (starEach es env)).any (·.1) = false) (hne : ∀ env : Env, ∃ x xs, backTo p4 (starEach es env) = (false, x) :: xs)
    (hint : ∀ env : Env, env.scope = scope → interactive env = false) (hsw : ∀ env : Env, env.scope = scope → swapsWith (.Call (.Attribute (.Call (.Name "super" p0) [] [] p1) "__init__" p2) es [] p4) none p5.line env = pure false)
    (htop : (P.main.scope.names.lookup ("super" : Str)).isSome = false) (hlen : vs.length = ps.length) (hl : vs.length ≤ 100) (hns : ("self" : Str) ∉ ps)
    (hargs : ∀ (env : Env) (hh : Heap) (L : Addr) (A : Around) (t : Nat) (Q : List Value → Shared → Prop) (E : Value → Shared → Prop), env.scope = scope → env.locals = L → hh.Ns L (fun y => ((("self" : Str), Value.ref a) :: ps.zip vs).reverse.lookup y) → Q vs ⟨hh, g, d, t, os⟩ →
      wpAny (model P w) A (spliced (backTo p4 (starEach es env))) Q E ⟨hh, g, d, t, os⟩)
    (haK : K.lookup a = none) (hx : hp.get? a = some (PySem.HandSPX.excO C t0)) (args : Args) (hbind : BindsTo ⟨hp, g, d, t, os⟩ fd args ((("self" : Str), Value.ref a) :: ps.zip vs))
    (hrest : ∀ h2 t1 tk (env : Env) (c : Code) (E : Value → Shared → Prop), env.scope = scope → env.locals = hp.objs.size → K.In h2 → (hp.objs.size : Nat) < h2.objs.size → h2.Ns hp.objs.size (fun y => ((("self" : Str), Value.ref a) :: ps.zip vs).reverse.lookup y) → (∀ b o, b ≠ a → hp.get? b = some o → h2.get? b = some o) →
      h2.get? a = some (PySem.HandSPX.excO C t1) → PySem.wpAt (model P w) (A.deeper env) c (execs rest env) (fun f s' => R (.ok (.ret (match f with | .ret v => v | _ => .none))) s') E ⟨h2, g, d, tk, os⟩) :
    codeAny (model P w) A (.call (.ref fI) args) R ⟨hp, g, d, t, os⟩ := by
  obtain ⟨oc, od, osl, dV, kV, doc, pm, an, cda, ct, cc, rfl, lk, hcd, ⟨ccl, cdd, ws, ccs, file, tf, lcd, hvs, hfile⟩, cl, cld, csl, lcc⟩ := S.ex
  obtain ⟨ar, har, hars⟩ := Z.hd
  obtain ⟨nm, q, N, bs, sn, sub, ab, col, dd, k0, k1, k2, k3, k5, hC⟩ := T.cls
  have hcl : PySem.W.clsIn K C = some { name := nm, bases := bs, mro := .ref C :: tl, ns := N, qualname := q, hasDict := true, slotNames := sn, subclasses := sub, abstract := ab, collection := col, hasDel := false } := by unfold PySem.W.clsIn; rw [hC] <;> rfl
  have zin : ∀ y ∈ ps.zip vs, y.1 ∈ ps := fun y hy => (List.of_mem_zip hy).1
  refine ks_codeAny_call_defAt (binds := (("self" : Str), Value.ref a) :: ps.zip vs) hroom (X _ _ lk) rfl hlim (PySem.W.codeRec_of X hcd) rfl hbind Z.nc (fun y hy => ?_) (fun h0 hn0 hk => ?_) Z.co Z.ge Z.ki
  · rcases List.mem_cons.mp hy with rfl | hy
    · exact Z.loc _ (List.mem_cons_self ..)
    · exact Z.loc _ (List.mem_cons_of_mem _ (zin y hy))
  have X0 : K.In h0 := X.keeps hk
  have ns_ : ∀ {L : Addr} {m : Str → Option Value}, hp.Ns L m → h0.Ns L m := fun ⟨o, es, ep, e, d, r⟩ => ⟨o, es, ep, hk _ _ e, d, r⟩
  have hn2 : h0.Ns hp.objs.size (fun y => ((("self" : Str), Value.ref a) :: ps.zip vs).reverse.lookup y) := hn0
  have lself : ((("self" : Str), Value.ref a) :: ps.zip vs).reverse.lookup ("self" : Str) = some (.ref a) := by
    rw [List.reverse_cons, List.lookup_append]
    have : (ps.zip vs).reverse.lookup ("self" : Str) = none := by
      rw [List.lookup_eq_none_iff]
      intro y hy
      have := zin y (List.mem_reverse.mp hy)
      simp only [bne_iff_ne, ne_eq, beq_eq_false_iff_ne]
      intro z
      exact hns (z ▸ this)
    rw [this]
    simp [List.lookup]
  obtain ⟨pl, hev⟩ := hev (callEnv (PySem.W.ksFn "__init__" qual params (.Expr (.Call (.Attribute (.Call (.Name "super" p0) [] [] p1) "__init__" p2) es [] p4) p5 :: rest) scope dV kV doc pm an (.ref cda) ct cc) hp.objs.size fI) rfl
  refine ks_wpAt_execs_cons (ks_wpAt_Expr_any (ks_wpAt_MethodCall (pl := pl) ?_ hev) (hint _ rfl) (hsw _ rfl))
  refine ks_wpAt_super_base Z.ns Z.nk (by decide +kernel) rfl (X0 _ _ lk) rfl har rfl (X0 _ _ lcd) rfl hvs hfile htop ?_
  refine PySem.W.ks_loadName_global Z.ki Z.ns (PySem.Calls.loadGlobal_builtin (ns_ hg) (PySem.W.mg_none_of X hg S.gs) (ns_ hb) ((hbb _ (by decide +kernel)).trans (by first | rfl | kernel_rfl)) ⟨rfl, ?_⟩)
  refine wpAny_loadName_free Z.ki Z.nk rfl ⟨_, X0 _ _ lcc, rfl⟩ ?_
  rw [hars]
  refine wpAny_loadName_local Z.ki (Z.loc _ (List.mem_cons_self ..)) hn2 lself ?_
  refine ks_wpAny_isType_cls (X0 _ _ hC) rfl ⟨rfl, ?_⟩
  have hxa := hk _ _ hx
  refine ks_wpAny_call_super (X0 _ _ hC) rfl hxa rfl (fun c e => by cases e) (PySem.W.looks_mroIn X0 S.mro) (fun h1 e1 k1 => ?_)
  have X1 : K.In h1 := X0.keeps k1
  have I1 : PySem.W.InstAt h1 a (PySem.HandSPX.excO C t0) C none := ⟨k1 _ _ hxa, rfl, rfl, trivial⟩
  have hsup : PySem.W.alongIn K "__init__" ((((Value.ref C :: tl).dropWhile (· != .ref C)).drop 1)) = some (some (.builtin initId)) := by
    have := S.sup
    unfold PySem.W.ks_superIn at this
    rw [hcl] at this
    exact this
  refine PySem.W.kxs_getMethod TB.kxs e1 (PySem.W.looks_opaque X1 S.opq) (l₀ := .ref C :: tl) (fun A Q E s k q => wpAny_bind ((PySem.W.looks_clsIn X1 hcl) A _ E s k (wpAny_pure q))) rfl X1 hsup (I1.type.andThen (PySem.W.looks_subIn X1 S.subV)) (PySem.W.ks_ne X1 I1 hcl) (by decide +kernel) ?_
  refine PySem.W.kxs_callWith (i := initId) (x := a) (u := h1.objs.size) (hpl _) ?_
  have hk1 : ∀ b o, hp.get? b = some o → h1.get? b = some o := fun b o e => k1 _ _ (hk _ _ e)
  have hn3 : h1.Ns hp.objs.size (fun y => ((("self" : Str), Value.ref a) :: ps.zip vs).reverse.lookup y) := let ⟨o, es, ep, e, d, r⟩ := hn2; ⟨o, es, ep, k1 _ _ e, d, r⟩
  have hn4 : (h1.push (PySem.W.kxs_mw initId a)).Ns hp.objs.size (fun y => ((("self" : Str), Value.ref a) :: ps.zip vs).reverse.lookup y) := let ⟨o, es, ep, e, d, r⟩ := hn3; ⟨o, es, ep, Heap.get?_push_of_some _ e, d, r⟩
  obtain ⟨ex, exs, hex⟩ := hne (callEnv (PySem.W.ksFn "__init__" qual params (.Expr (.Call (.Attribute (.Call (.Name "super" p0) [] [] p1) "__init__" p2) es [] p4) p5 :: rest) scope dV kV doc pm an (.ref cda) ct cc) hp.objs.size fI)
  rw [hex]
  refine PySem.Calls.evalArgs_plain ?_
  rw [← hex]
  refine hargs _ _ hp.objs.size _ _ _ _ rfl rfl hn4 ⟨Heap.get?_push_at rfl rfl, ?_⟩
  show wpAny _ _ (call (.ref h1.objs.size) vs) _ _ _
  have kp : ∀ b o, h1.get? b = some o → (h1.push (PySem.W.kxs_mw initId a)).get? b = some o := fun b o e => Heap.get?_push_of_some _ e
  refine call_mwE TB (kp _ _ (X1 _ _ hC)) (kp _ _ (hk1 _ _ hx)) (Heap.get?_push_at rfl rfl) (by rw [sizeLine_eq]; omega) (fun h2 t1 k2 hx2 => ?_)
  have nC : C ≠ a := fun z => by have := X _ _ hC; rw [z, hx] at this; cases this
  have hL : hp.objs.size ≠ a := Nat.ne_of_gt (Heap.lt_size hx)
  have hn5 : h2.Ns hp.objs.size (fun y => ((("self" : Str), Value.ref a) :: ps.zip vs).reverse.lookup y) := by
    obtain ⟨o, es, ep, e, d, r⟩ := hn3
    exact ⟨o, es, ep, k2 _ _ hL (kp _ _ e), d, r⟩
  have k02 : ∀ b o, b ≠ a → hp.get? b = some o → h2.get? b = some o := fun b o nb e => k2 b o nb (kp _ _ (hk1 _ _ e))
  have hsz : hp.objs.size < h2.objs.size := let ⟨o, es, ep, e, d, r⟩ := hn5; Heap.lt_size e
  exact hrest h2 t1 _ _ _ _ rfl rfl (fun b o e => k02 b o (fun z => by rw [z, haK] at e; cases e) (X _ _ e)) hsz hn5 k02 hx2
end
end Ys
namespace Ys
open PySem PySem.Spec PyProof.Rows L2
section
variable {P : Program} {w : World} {K : PySem.W.Frag} {C fI a t0 : Addr} {A : Around} {R : Result → Shared → Prop} {fd : FuncData} {hp : Heap} {g : Array GenState} {d : Drawn} {t : Nat} {os : OsState} {B newId initId : String} {tl : List Value}
variable {qual x fld : Str} {params : Arguments} {scope : Scope} {p0 p1 p2 p3 p4 p5 p6 p7 p8 p9 : Pos} {mg mb : Str → Option Value} {v : Value}
theorem run_supE (S : SupE P K C fI B initId [fld] qual params (supBody x fld p0 p1 p2 p3 p4 p5 p6 p7 p8 p9) scope fd) (Z : SupZ ["self", x] params scope) (nd : (x == ("__debug__" : Str)) = false) (ne : ("self" : Str) ≠ x) (TB : BaseE B newId initId tl) (T : OexE K C newId tl)
    (X : K.In hp) (hg : hp.Ns mainGlobals mg) (hb : hp.Ns builtinsNs mb) (hbb : ∀ y : Str, y ≠ "__name__" → mb y = bootBuiltins y) (hlim : hp.NoLimit) (hroom : A.depth < recursionLimit)
    (hev : ∀ env : Env, env.scope = scope → ∃ pl : Sem Bool, eval (.Call (.Attribute (.Call (.Name "super" p0) [] [] p1) "__init__" p2) [.Name x p3] [] p4) env = (do
      let ov ← attributeBase (.Call (.Name "super" p0) [] [] p1) "__init__" env (eval (.Call (.Name "super" p0) [] [] p1) env)
      standAt p2.atName
      let (f, first) ← holding [ov] (getMethod ov "__init__" pl)
      callWith p4 f first (backTo p4 (starEach [.Name x p3] env)) []))
    (hint : ∀ env : Env, env.scope = scope → interactive env = false) (hsw1 : ∀ env : Env, env.scope = scope → swapsWith (.Call (.Attribute (.Call (.Name "super" p0) [] [] p1) "__init__" p2) [.Name x p3] [] p4) none p5.line env = pure false)
    (hsw2 : ∀ env : Env, env.scope = scope → swapsWith (.Name x p8) (some (.Attribute (.Name "self" p6) fld p7)) p9.line env = pure false)
    (htop : (P.main.scope.names.lookup ("super" : Str)).isSome = false)
    (haK : K.lookup a = none) (hx : hp.get? a = some (PySem.HandSPX.excO C t0)) (args : Args) (hbind : BindsTo ⟨hp, g, d, t, os⟩ fd args [("self", .ref a), (x, v)])
    (hR : ∀ h' tk dx t1, (∀ b o, b ≠ a → hp.get? b = some o → h'.get? b = some o) → hp.objs.size ≤ dx → dx ≠ a → h'.get? a = some ({ cls := .ref C, dict := some dx, data := .fields #[.ref t1, .none, .none, .none, .bool false, .none] } : Obj) →
      h'.Ns1 dx (fun y => if y = fld then some v else none) → R (.ok (.ret .none)) ⟨h', g, d, tk, os⟩) :
    codeAny (model P w) A (.call (.ref fI) args) R ⟨hp, g, d, t, os⟩ := by
  have lself : ((("self" : Str), Value.ref a) :: [x].zip [v]).reverse.lookup ("self" : Str) = some (.ref a) := by
    show List.lookup ("self" : Str) [(x, v), (("self" : Str), Value.ref a)] = _
    rw [List.lookup_cons, show (("self" : Str) == x) = false from by simpa using ne]
    simp [List.lookup]
  have lx : ((("self" : Str), Value.ref a) :: [x].zip [v]).reverse.lookup x = some v := by
    show List.lookup x [(x, v), (("self" : Str), Value.ref a)] = _
    rw [List.lookup_cons]
    simp
  have nx : scope.names.lookup x = some .local := Z.loc x (by simp)
  obtain ⟨nm, q, N, bs, sn, sub, ab, col, dd, k0, k1, k2, k3, k5, hC⟩ := T.cls
  have hcl : PySem.W.clsIn K C = some { name := nm, bases := bs, mro := .ref C :: tl, ns := N, qualname := q, hasDict := true, slotNames := sn, subclasses := sub, abstract := ab, collection := col, hasDel := false } := by unfold PySem.W.clsIn; rw [hC] <;> rfl
  refine sup_first (ps := [x]) (vs := [v]) S Z TB T X hg hb hbb hlim hroom hev (fun env => rfl) (fun env => ⟨_, _, rfl⟩) hint hsw1 htop rfl (by show 1 ≤ 100; decide) (by simpa using ne) (fun env hh L A t Q E hs hf hn hq => ?_) haK hx args hbind (fun h2 t1 tk env c E hs hf X2 hsz hn k02 hx2 => ?_)
  · subst hs
    subst hf
    refine PySem.Calls.spliced_cons ?_
    show wpAny _ _ (eval (.Name x p3) _) _ _ _
    exact PySem.ESX.ldL hn lx (wpAny_pure hq) Z.ki nx nd
  · subst hs
    have hL : hp.objs.size ≠ a := Nat.ne_of_gt (Heap.lt_size hx)
    rw [← hf] at hn
    refine ks_wpAt_execs_cons (ks_wpAt_Assign_Attr (wpAt_of_wpAny (PySem.ESX.ldL hn lx (PySem.ESX.ldL hn lself ?_ Z.ki (Z.loc _ (List.mem_cons_self ..)) (by decide)) Z.ki nx nd)) (hsw2 _ rfl))
    refine PySem.W.set_plain X2 (ox := PySem.HandSPX.excO C t1) (od := none) ⟨hx2, rfl, rfl, trivial⟩ T.sa ?_
    refine storeN TB X2 hx2 hcl rfl rfl (S.no _ (List.mem_cons_self ..)) (fun h3 tk3 dx k3 hd3 ne3 hx3 hn5 => ?_)
    refine wpAt_of_wpAny (wpAny_pure ?_)
    exact hR h3 tk3 dx t1 (fun b o nb e => k3 b o nb (k02 b o nb e)) (Nat.le_trans (Nat.le_of_lt hsz) hd3) ne3 hx3 hn5
theorem ok_supE {base : Heap} {CX : CXT} (S : SupE P K C fI B initId [fld] qual params (supBody x fld p0 p1 p2 p3 p4 p5 p6 p7 p8 p9) scope fd) (Z : SupZ ["self", x] params scope) (nd : (x == ("__debug__" : Str)) = false) (ne : ("self" : Str) ≠ x) (TB : BaseE B newId initId tl) (T : OexE K C newId tl)
    (hev : ∀ env : Env, env.scope = scope → ∃ pl : Sem Bool, eval (.Call (.Attribute (.Call (.Name "super" p0) [] [] p1) "__init__" p2) [.Name x p3] [] p4) env = (do
      let ov ← attributeBase (.Call (.Name "super" p0) [] [] p1) "__init__" env (eval (.Call (.Name "super" p0) [] [] p1) env)
      standAt p2.atName
      let (f, first) ← holding [ov] (getMethod ov "__init__" pl)
      callWith p4 f first (backTo p4 (starEach [.Name x p3] env)) []))
    (hint : ∀ env : Env, env.scope = scope → interactive env = false) (hsw1 : ∀ env : Env, env.scope = scope → swapsWith (.Call (.Attribute (.Call (.Name "super" p0) [] [] p1) "__init__" p2) [.Name x p3] [] p4) none p5.line env = pure false)
    (hsw2 : ∀ env : Env, env.scope = scope → swapsWith (.Name x p8) (some (.Attribute (.Name "self" p6) fld p7)) p9.line env = pure false)
    (htop : (P.main.scope.names.lookup ("super" : Str)).isSome = false) : FnOk P w K mg base CX 1 fI fd ["self", x] (spSup K C fld) := by
  refine ⟨fun vs H Q E h => ?_, fun A outer s H args us vs Q E hr e0 hbd r hsp => ?_⟩
  · obtain ⟨a, y, rfl, _⟩ := h
    rfl
  obtain ⟨a, y, rfl, ha, q⟩ := hsp
  obtain ⟨u1, u2, rfl, r1, r2⟩ := vals2 r
  obtain rfl : u1 = Value.ref a := r1
  obtain ⟨t0, hx⟩ := exo_at e0.hok ha
  have KX : K.In s.heap := e0.mod.kin.keeps fun b o e => (e0.bs b o e).1
  have haK : K.lookup a = none := by
    cases z : K.lookup a with
    | none => rfl
    | some o =>
      have := (e0.bs _ _ (e0.mod.kin _ _ z)).2
      rw [ha] at this
      cases this
  obtain ⟨mb, hmb, hbb⟩ := e0.mod.blt
  have ns_ : ∀ {L : Addr} {m : Str → Option Value}, base.Ns L m → s.heap.Ns L m := fun ⟨o, es, ep, e, d, r⟩ => ⟨o, es, ep, (e0.bs _ _ e).1, d, r⟩
  have lim : s.heap.NoLimit := e0.mod.nolimit.keeps fun b o e => (e0.bs b o e).1
  obtain ⟨hp, g, d, t, os⟩ := s
  refine run_supE S Z nd ne TB T KX (ns_ e0.mod.glob) (ns_ hmb) hbb lim hr.depth hev hint hsw1 hsw2 htop haK hx args hbd (fun h' tk dx t1 k hd ne hx' hn => ?_)
  have nH : H dx = none := e0.hok.fresh hd
  have old : ∀ {b : Addr} {o : Obj}, hp.get? b = some o → b ≠ dx := fun e z => absurd (Heap.lt_size (z ▸ e)) (Nat.not_lt.mpr hd)
  have sep : ∀ {b : Addr}, H b = none → b ≠ a := fun n z => by rw [z, ha] at n; cases n
  refine ⟨.non, upd (upd H dx (exd dx [(fld, y)])) a (exo a C (some dx)), rfl, e0.bare, ⟨fun b o e n _ _ => k b o (sep n) e, fun b o e n _ _ => ⟨o.slots, k b o (sep n) e⟩, fun b o e n _ => ?_, fun b o e _ => ?_, fun b xs e => ?_, fun b o u e => ?_, fun b ps e => ?_⟩, fun b o e => ?_, rfl, q dx nH ne⟩
  · rw [upd_ne (sep n), upd_ne (old e)]
    exact n
  · by_cases c : b = a
    · exact ⟨_, by rw [c]; exact hx'⟩
    · exact ⟨o, k b o c e⟩
  · rw [upd_ne (at_ne ha e exo_tup), upd_ne (ne_of_none e nH)]
    exact e
  · rw [upd_ne (at_ne ha e exo_frz), upd_ne (ne_of_none e nH)]
    exact e
  · exact ⟨#[], by rw [upd_ne (at_ne ha e exo_tbl), upd_ne (ne_of_none e nH), e]; simp⟩
  · by_cases c : b = a
    · subst c
      rw [upd_same] at e
      cases e
      exact exo_ok hx'
    rw [upd_ne c] at e
    by_cases c2 : b = dx
    · subst c2
      rw [upd_same] at e
      cases e
      exact exd_ok hn (relO_put (fs := []) r2 fun _ => True.intro)
    rw [upd_ne c2] at e
    refine (e0.hok b o e).stay (fun c' v' hc z => k c' v' ?_ z) (fun c' hc => ?_) (fun c' xs hc => ?_)
    · rcases hc with hc | hc
      · rw [hc]; exact c
      · exact at_ne ha hc exo_own
    · rw [upd_ne (at_ne ha hc exo_own), upd_ne (ne_of_none hc nH)]
      exact hc
    · rw [upd_ne (at_ne ha hc exo_tup), upd_ne (ne_of_none hc nH)]
      exact hc
end
end Ys
/-! raise C(e), C an own class below any of the errors -/
namespace Ys
open PySem PySem.Spec PyProof.Rows L2
structure ExcG (P : Program) (w : World) (K : PySem.W.Frag) (mg : Str → Option Value) (base : Heap) (C : Addr) (x fld : Str) : Prop where
  T : ∃ B newId initId tl, BaseE B newId initId tl ∧ OexE K C newId tl
  ex : ∃ fI fd pn, PySem.W.findIn K (.ref C) "__init__" = some (some (.ref fI)) ∧ PySem.W.typeIn K (.ref fI) = some (.type "function") ∧ FnOk P w K mg base CX0 1 fI fd ["self", pn] (spSup K C fld) ∧ Binds K fd ["self", pn] []
  gC : mg x = some (.ref C)
section
variable {X : Cx} {ta : TA} {e : Expr} {es : List Expr} {p pos pos' : Pos} {C : Addr} {te : TE} {W : WX} {fld : Str}
theorem pmk_any {CX : CXT} {x : Str} {fI : Addr} {k : Nat} {fd : FuncData} {ps : List Str} {sp : Sp} {ds : List Value} {dvs : List V} {B newId initId : String} {tl : List Value} (TB : BaseE B newId initId tl) (T : OexE X.K C newId tl) (iC : PySem.W.findIn X.K (.ref C) "__init__" = some (some (.ref fI))) (tI : PySem.W.typeIn X.K (.ref fI) = some (.type "function"))
    (F1 : FnOk X.prog X.w X.K X.mg X.base CX k fI fd ps sp) (hr : Room (k + 1) X.A) (hb : Binds X.K fd ps ds) (hd : Vals dvs ds) (hx : Passes CX X (fun _ _ _ => False)) (hg : Gl X x) (hm : X.mg x = some (.ref C)) (ha : PA X (e :: es) ta)
    (hdb : (x == ("__debug__" : Str)) = false := by decide) (he : starEach (e :: es) X.env = (false, eval e X.env) :: starEach es X.env := by rfl) (hpl : (backTo pos (starEach es X.env)).any (·.1) = false := by rfl) :
    PMk X (.Call (.Name x p) (e :: es) [] pos) (tMkO C sp dvs ta) := by
  intro pins s σ H Q I h
  obtain ⟨nm, q, N, bs, sn, sub, ab, col, dd, k0, k1, k2, k3, k5, hC⟩ := T.cls
  refine wpAny_Call_Name_kw (ld_glob I hg hm ?_ hdb)
  refine PySem.W.callWith_K (h₀ := X.base) I.ok.mod.kin T.kC (thn (ha.run pos pins s σ H _ I h) fun us s1 ⟨vs, H1, I1, r1, hz, q1⟩ => ⟨I1.kIn, ?_⟩) he hpl
  obtain ⟨hp, g, dr, tk, os⟩ := s1
  have hsz : hp.objs.size ≤ hp.objs.size + 1 := Nat.le_succ _
  have hq := q1 (hp.objs.size + 1) (I1.hok.fresh hsz)
  have kk : ∀ b o, hp.get? b = some o → ((hp.push (PySem.W.kdv_tup us)).push (PySem.HandSPX.excO C hp.objs.size)).get? b = some o := fun b o e => Heap.get?_push_of_some _ (Heap.get?_push_of_some _ e)
  have I2 : Inv X pins σ (upd H1 (hp.objs.size + 1) (exo (hp.objs.size + 1) C none)) ⟨(hp.push (PySem.W.kdv_tup us)).push (PySem.HandSPX.excO C hp.objs.size), g, dr, tk, os⟩ :=
    I1.laid (t' := tk) (a := hp.objs.size + 1) (o := exo (hp.objs.size + 1) C none) (h' := (hp.push (PySem.W.kdv_tup us)).push (PySem.HandSPX.excO C hp.objs.size)) kk hsz (exo_ok (by heap_get))
  have r2 : Vals (V.ref (hp.objs.size + 1) :: (vs ++ dvs)) (Value.ref (hp.objs.size + 1) :: (us ++ ds)) := .cons rfl (r1.append hd)
  have hl : (Value.ref (hp.objs.size + 1) :: us ++ ds).length = ps.length := by
    have e := r2.length
    rw [F1.len _ _ _ _ hq] at e
    exact e.symm
  have hus : us.length ≤ sizeLine := by
    rw [← Paired.length r1, sizeLine_eq]
    omega
  refine wpAny_call (callE TB.base (I1.kIn _ _ hC) (PySem.W.looks_findIn I1.kIn iC) (fun self => PySem.W.bind_fn I1.kIn self tI) hus
    (codeAny_mono (F1.run _ X.stack _ _ ⟨Value.ref (hp.objs.size + 1) :: us, []⟩ (Value.ref (hp.objs.size + 1) :: (us ++ ds)) _ _ (fun _ _ _ => False) (hr.make C us []) (I2.env0.make C us []) (hb _ (Value.ref (hp.objs.size + 1) :: us) I2.kIn hl) r2 hq) fun r s' hq' => ?_))
  match r, hq' with
  | .error er, hq' => exact hx pins σ _ _ er s' I2 hq'
  | .ok (.ret u), hq' =>
    obtain ⟨v, H2, os2, bare2, un2, hok2, rv, ev, d, fs, ea, ed, hd1, q2⟩ := hq'
    subst ev
    obtain ⟨h2, g2, d2, t2, os'⟩ := s'
    exact ⟨rv, mk_end (raises_own T.exC T.tyC) I1 hsz kk un2 hok2 os2 bare2 ea ed hd1 q2⟩
  | .ok .next, hq' => exact hq'.elim
  | .ok .brk, hq' => exact hq'.elim
  | .ok .cont, hq' => exact hq'.elim
theorem ps_rsG {x : Str} (S : ExcG X.prog X.w X.K X.mg X.base C x fld) (hc : X.calm = true) (tk : Takes X W) (hr : Room 2 X.A) (hg : Gl X x) (he : PE X e te)
    (hdb : (x == ("__debug__" : Str)) = false := by decide) (hst : starEach [e] X.env = (false, eval e X.env) :: starEach [] X.env := by rfl) (hpl : (backTo pos (starEach [] X.env)).any (·.1) = false := by rfl) :
    PS X (.Raise (some (.Call (.Name x p) [e] [] pos)) none pos') (sRs X.K C fld te W) := by
  obtain ⟨B, newId, initId, tl, TB, T⟩ := S.T
  obtain ⟨fI, fd, pn, iC, tI, F, hb⟩ := S.ex
  exact ps_raise hc tk (pmk_any (ta := tCons te tNil) TB T iC tI F hr hb .nil pass0 hg S.gC (pa_cons he pa_nil hst) hdb hst hpl)
end
end Ys
namespace Ys
open PySem PySem.Spec PyProof.Rows L2 StX
section
variable {X : Cx} {K : PySem.W.Frag} {P : Program} {w : World} {G G1 H : Hp} {M M1 : List (Addr × HO)} {σ : L2.St} {Q : VK} {QB : Bool → Hp → Prop} {QA : List V → Hp → Prop} {D : Ends} {ta te tb tv : TE} {t tk : TA} {A B : Prop} {v x y : V} {i j : Int} {a b p : Addr} {xs ys vs zs : List V} {o : HO} {d : PyData}
/-! ### a list or tuple, spread -/
def StW (K : PySem.W.Frag) (x : V) (H : Hp) (R : List V → Prop) : Prop := ∃ p xs, x = V.ref p ∧ (SqT K H p xs ∨ SqL K H p xs) ∧ R xs
theorem z_star (h : te σ H fun x H1 => StW K x H1 fun xs => t σ H1 fun ys H2 => QA (xs ++ ys) H2) : tStar K te t σ H QA := h
theorem z_stL {R : List V → Prop} (h : SqL K H a xs) (q : R xs) : StW K (.ref a) H R := ⟨a, xs, rfl, .inr h, q⟩
theorem z_stT {R : List V → Prop} (h : SqT K H a xs) (q : R xs) : StW K (.ref a) H R := ⟨a, xs, rfl, .inl h, q⟩
theorem k_star {e : Expr} {pos : Pos} {es : List Expr} (he : PE X e te) (hr : PA X es t) (q : X.K = K := by rfl) (hs : starEach (.Starred e pos :: es) X.env = (true, eval e X.env) :: starEach es X.env := by rfl) : PA X (.Starred e pos :: es) (tStar K te t) := q ▸ pa_star he hr hs
/-! ### dicts of the written part, with text keys -/
structure TabD (K : PySem.W.Frag) (w : World) (a : Addr) (kvs : List (Str × V)) : Prop where
  kd : ∃ es n, KDict K w a es n
  hit : ∀ z v, kvs.lookup z = some v → ∃ u, PySem.W.nsIn K a z = some (some u) ∧ RelV v u
  miss : ∀ z, kvs.lookup z = none → PySem.W.nsIn K a z = some none
def rInKD (K : PySem.W.Frag) (w : World) (neg : Bool) : R2 := fun x y H Q => ∃ (z : Str) (a : Addr) (kvs : List (Str × V)), x = .str z ∧ y = .ref a ∧ TabD K w a kvs ∧ Q (.bl (if neg then !(kvs.lookup z).isSome else (kvs.lookup z).isSome)) H
theorem op_inKD : OpR X (compareOp .In) (rInKD X.K X.w false) := by
  intro pins s σ H x y v u Q I rx ry ⟨z, a, kvs, e1, e2, T, q⟩
  subst e1 e2
  obtain ⟨es, n, D⟩ := T.kd
  cases c : kvs.lookup z with
  | none =>
    rw [c] at q
    exact op_in_kd D pins s σ H _ _ v u Q I rx ry ⟨z, none, rfl, rfl, T.miss z c, q⟩
  | some v0 =>
    rw [c] at q
    obtain ⟨u0, e, _⟩ := T.hit z v0 c
    exact op_in_kd D pins s σ H _ _ v u Q I rx ry ⟨z, some u0, rfl, rfl, e, q⟩
theorem op_notInKD : OpR X (compareOp .NotIn) (rInKD X.K X.w true) := by
  intro pins s σ H x y v u Q I rx ry ⟨z, a, kvs, e1, e2, T, q⟩
  subst e1 e2
  obtain ⟨es, n, D⟩ := T.kd
  cases c : kvs.lookup z with
  | none =>
    rw [c] at q
    exact op_notIn_kd D pins s σ H _ _ v u Q I rx ry ⟨z, none, rfl, rfl, T.miss z c, q⟩
  | some v0 =>
    rw [c] at q
    obtain ⟨u0, e, _⟩ := T.hit z v0 c
    exact op_notIn_kd D pins s σ H _ _ v u Q I rx ry ⟨z, some u0, rfl, rfl, e, q⟩
theorem k_inD (e : X.K = K := by rfl) (e2 : X.w = w := by rfl) : OpR X (compareOp .In) (fun x y H Q => rInG K false x y H Q ∨ rInKD K w false x y H Q) := by
  subst e; subst e2
  exact o_in.or op_inKD
theorem k_notInD (e : X.K = K := by rfl) (e2 : X.w = w := by rfl) : OpR X (compareOp .NotIn) (fun x y H Q => rInG K true x y H Q ∨ rInKD K w true x y H Q) := by
  subst e; subst e2
  exact o_notIn.or op_notInKD
theorem k_ixD (e : X.K = K := by rfl) (e2 : X.w = w := by rfl) : IxR X (rIxD K w) := by
  subst e; subst e2
  exact ix_kdict
theorem z_inKD {z : Str} {kvs : List (Str × V)} (T : TabD K w a kvs) (q : Q (.bl (kvs.lookup z).isSome) H) : rInG K false (.str z) (.ref a) H Q ∨ rInKD K w false (.str z) (.ref a) H Q := .inr ⟨z, a, kvs, rfl, rfl, T, q⟩
theorem z_notInKD {z : Str} {kvs : List (Str × V)} (T : TabD K w a kvs) (q : Q (.bl (!(kvs.lookup z).isSome)) H) : rInG K true (.str z) (.ref a) H Q ∨ rInKD K w true (.str z) (.ref a) H Q := .inr ⟨z, a, kvs, rfl, rfl, T, q⟩
theorem z_ixKD {z : Str} {kvs : List (Str × V)} (T : TabD K w a kvs) (l : kvs.lookup z = some v) (q : Q v H) : rIxD K w (.ref a) (.str z) H Q := by
  obtain ⟨es, n, D⟩ := T.kd
  obtain ⟨u, e, r⟩ := T.hit z v l
  exact ⟨a, z, v, rfl, rfl, ⟨es, n, u, D.at_, D.lit, e, r⟩, q⟩
/-! ### is False -/
theorem k_isB (e : X.K = K := by rfl) : OpR X (compareOp .Is) rIsB := op_isBl
theorem k_notB (e : X.K = K := by rfl) : OpR X (compareOp .IsNot) rNotB := op_notBl
theorem z_isBl {a b : Bool} (q : Q (.bl (decide (a = b))) H) : rIsB (.bl a) (.bl b) H Q := ⟨a, b, rfl, rfl, q⟩
theorem z_notBl {a b : Bool} (q : Q (.bl (!decide (a = b))) H) : rNotB (.bl a) (.bl b) H Q := ⟨a, b, rfl, rfl, q⟩
/-! ### any -/
def rAnyG (K : PySem.W.Frag) : List V → Hp → VK → Prop := fun vs H Q => ∃ (a : Addr) (bs : List Bool), vs = [V.ref a] ∧ SqL K H a (bs.map V.bl) ∧ Q (.bl (bs.any id)) H
theorem kc_any (hc : X.calm = true) (e : X.K = K := by rfl) : CallR X (.builtin "any") (rAnyG K) := by subst e; exact cr_any hc
theorem z_any {bs : List Bool} (h : SqL K H a (bs.map V.bl)) (q : Q (.bl (bs.any id)) H) : rAnyG K [.ref a] H Q := ⟨a, bs, rfl, h, q⟩
/-! ### what may raise, called within what takes it -/
theorem passX0 : Passes (L2.CX X.prog X.w) X E0 := fun _ _ _ _ _ _ _ ⟨_, _, _, _, _, _, _, _, _, _, _, _, z⟩ => z.elim
theorem pe_ownX {k : Nat} {x : Str} {ps : List Str} {sp : Sp} {W : WX} {p pos : Pos} {e : Expr} {es : List Expr} {t : TA} (C : Own X.prog X.w X.K X.mg X.base (L2.CX X.prog X.w) k x ps sp) (hr : Room k X.A) (hg : Gl X x) (tx : Takes X W) (ha : PA X (e :: es) t)
    (hdb : (x == ("__debug__" : Str)) = false := by decide) (he : starEach (e :: es) X.env = (false, eval e X.env) :: starEach es X.env := by rfl) (hpl : (backTo pos (starEach es X.env)).any (·.1) = false := by rfl) :
    PE X (.Call (.Name x p) (e :: es) [] pos) (tCallS sp (WE W) t) := by
  obtain ⟨f, fd, F, hm, hk, hb⟩ := C.ex
  exact ⟨fun pins s σ H Q I h => (pe_callS F hr hg hm hk hb (fun σ => passAt tx σ) ha hdb he hpl).run pins s σ H Q I h⟩
theorem z_callS {sp : Sp} {E : L2.St → XK} (h : t σ H fun vs H1 => sp vs H1 Q (E σ)) : tCallS sp E t σ H Q := h
structure OwnK (P : Program) (w : World) (K : PySem.W.Frag) (mg : Str → Option Value) (base : Heap) (CX : CXT) (k : Nat) (x : Str) (ps ks : List Str) (sp : Sp) : Prop where
  ex : ∃ f fd g, FnOk P w K mg base CX k f fd ps sp ∧ mg x = some (.ref f) ∧ PySem.W.keepIn K (.ref f) = true ∧ KBn K fd ps 0 ks g fun vs zs => vs ++ zs
def tOwnK (n : Nat) (sp : Sp) (E : XK) (tk : TA) : TE := fun σ H Q => tk σ H fun zs H1 => zs.length = n ∧ sp zs H1 Q E
theorem pe_ownK0 {CX : CXT} {k : Nat} {x : Str} {ps ks : List Str} {sp : Sp} {E : XK} {p pos : Pos} {kws : List Keyword} (C : OwnK X.prog X.w X.K X.mg X.base CX k x ps ks sp) (hr : Room k X.A) (hg : Gl X x) (hx : Passes CX X E) (hkw : PK X kws tk)
    (hall : (backToKw pos (keywordEach kws X.env)).all (·.1.isSome) = true := by rfl) (hks : (backToKw pos (keywordEach kws X.env)).filterMap (·.1) = ks := by rfl) (hdb : (x == ("__debug__" : Str)) = false := by decide)
    (hpl : ((backTo pos (starEach [] X.env)).any (·.1) || (backToKw pos (keywordEach kws X.env)).any (·.1.isNone)) = false := by rfl) : PE X (.Call (.Name x p) [] kws pos) (tOwnK ks.length sp E tk) := by
  obtain ⟨f, fd, g, F, hm, hk, hb⟩ := C.ex
  refine ⟨fun pins s σ H Q I h => wpAny_Call_Name_kw (ld_glob I hg hm ?_ hdb)⟩
  refine PySem.W.callWith_KW0 (h₀ := X.base) I.ok.mod.kin hk hall ?_ hpl
  refine thn (hkw.run pos pins s σ H _ I h) fun ws s2 ⟨zs, H2, I2, rz, l2, q2⟩ => ⟨I2.kIn, ?_⟩
  rw [hks]
  refine wpAny_call (codeAny_mono (F.run X.A X.stack s2 H2 ⟨[], ks.zip ws⟩ (g [] ws) ([] ++ zs) Q E hr I2.env0 (hb.to s2 [] ws I2.kIn rfl (rz.length.symm.trans l2)) (hb.rel .nil rz) q2) fun rr s' hq => ?_)
  match rr, hq with
  | .error er, hq => exact hx pins σ H2 s2 er s' I2 hq
  | .ok (.ret u), hq => exact I2.after hq
  | .ok .next, hq => exact hq.elim
  | .ok .brk, hq => exact hq.elim
  | .ok .cont, hq => exact hq.elim
theorem z_ownK {n : Nat} {sp : Sp} {E : XK} (h : tk σ H fun zs H1 => zs.length = n ∧ sp zs H1 Q E) : tOwnK n sp E tk σ H Q := h
end
end Ys
namespace Ys
open PySem PySem.Spec PyProof.Rows L2
/-! ### a list grown by what a tuple holds -/
theorem grow_tup (l b : Addr) (xs ys : Array Value) (n m : Nat) (dd : Option Addr) (sl : Array (Option Value)) (h0 : ¬(!xs.isEmpty && Builtin.List.listTooLong (xs.size + ys.size)) = true) (h1 : xs.size ≤ sizeLine) (h2 : xs.size + ys.size ≤ sizeLine + 1) :
    Meets (Builtin.«list.extend» ⟨[.ref l, .ref b], []⟩) fun _ R s => s.heap.get? l = some { cls := .type "list", dict := none, data := .seq xs n, slots := #[] } ∧ s.heap.get? b = some { cls := .type "tuple", dict := dd, data := .seq ys m, slots := sl } ∧
      R (.ok (.ret Value.none)) { s with heap := s.heap.update l (Obj.mapSeq fun x => x ++ ys), toks := s.toks } := by
  refine .of_wp fun prog w A R s h => ?_
  obtain ⟨hp, g, d, tk, os⟩ := s
  obtain ⟨q1, q2, q3⟩ := h
  have g1 := F.sub_tuple_tuple
  have g2 := F.sub_list_list
  have g3 := F.sub_tuple_list
  have g4 := F.sub_list_tuple
  have zz : (xs ++ ys).size ≤ sizeLine + 1 := by
    rw [Array.size_append]
    exact h2
  wp_walk using (wpAny_updateSeq q1 rfl (hz := h1) (_hz' := zz)), PySem.AutoSeq1.wpAny_loadPart' q1, PySem.AutoSeq1.wpAny_loadPart' q2
  exact ⟨_, rfl, q3⟩
def rExtT (K : PySem.W.Frag) : V → List V → Hp → VK → Prop := fun x vs H Q => ∃ l b xs zs, x = .ref l ∧ vs = [.ref b] ∧ H l = some (.lst xs) ∧ SqT K H b zs ∧ xs.length + zs.length ≤ 100000 ∧ Q .non (upd H l (.lst (xs ++ zs)))
section
variable {X : Cx} {K : PySem.W.Frag} {P : Program} {w : World} {G G1 H : Hp} {M M1 : List (Addr × HO)} {σ : L2.St} {Q : VK} {QB : Bool → Hp → Prop} {QA : List V → Hp → Prop} {D : Ends} {ta te tb tv : TE} {tt : TT} {t tk : TA} {A B : Prop} {v x y : V} {i j : Int} {a b p : Addr} {xs ys vs zs : List V} {o : HO} {d : PyData}
theorem mt_extT : MtM X "list.extend" (rExtT X.K) := by
  intro pins s σ H x vs v us Q I rx rv h
  obtain ⟨l, b, xs, zs, e1, e2, hH, hB, hz, q⟩ := h
  subst e1 e2
  cases rx
  obtain ⟨u, rfl, ru⟩ := rv.one
  cases ru
  obtain ⟨z, its, n, r, hl, e⟩ := I.lstM hH
  obtain ⟨its2, r2, ⟨ob, e3, e4, m, e5⟩, hl2⟩ := I.tuple hB
  obtain ⟨oc, od, dt, sl⟩ := ob
  simp only at e4 e5
  subst e4 e5
  have e6 : xs.length + zs.length ≤ sizeLine := Nat.le_trans hz (by decide)
  have hsz : its.toArray.size + its2.toArray.size ≤ sizeLine := by rw [List.size_toArray, List.size_toArray, ← r.length, ← r2.length]; exact e6
  refine call_meets F.slot_list_extend ⟨_, e, rfl⟩ F.entry_list_extend (F.args_list_extend_2 _ _) (grow_tup l b its.toArray its2.toArray n m od sl (extend_door hsz) (by omega) (by omega)) ⟨e, e3, ?_⟩
  refine ⟨.non, _, I.lset (its' := its ++ its2) hH e (by simp) (r.append r2) ?_, rfl, q⟩
  rw [List.length_append]
  exact e6
theorem MtM.or {m : String} {r1 r2 : V → List V → Hp → VK → Prop} (h1 : MtM X m r1) (h2 : MtM X m r2) : MtM X m (fun x vs H Q => r1 x vs H Q ∨ r2 x vs H Q) := by
  intro pins s σ H x vs v us Q I rx rv h
  rcases h with h | h
  · exact h1 pins s σ H x vs v us Q I rx rv h
  · exact h2 pins s σ H x vs v us Q I rx rv h
theorem mt_ext2 (e : X.K = K := by rfl) : MtM X "list.extend" (fun x vs H Q => rExtend x vs H Q ∨ rExtT K x vs H Q) := by subst e; exact MtM.or mt_extend mt_extT
theorem z_extL (z : Zp G M H) (k : Nat) (e : M[k]? = some (a, .lst xs)) (h : H b = some (.lst ys)) (hl : xs.length + ys.length ≤ 100000) (q : ∀ H1, Zp G (M.set k (a, .lst (xs ++ ys))) H1 → Q .non H1) : rExtend (.ref a) [.ref b] H Q ∨ rExtT K (.ref a) [.ref b] H Q :=
  .inl ⟨a, b, xs, ys, rfl, rfl, z.at_ k e, h, Nat.le_trans hl (by decide), q _ (z.put k e _)⟩
theorem z_extT (z : Zp G M H) (k : Nat) (e : M[k]? = some (a, .lst xs)) (h : SqT K H b ys) (hl : xs.length + ys.length ≤ 100000) (q : ∀ H1, Zp G (M.set k (a, .lst (xs ++ ys))) H1 → Q .non H1) : rExtend (.ref a) [.ref b] H Q ∨ rExtT K (.ref a) [.ref b] H Q :=
  .inr ⟨a, b, xs, ys, rfl, rfl, z.at_ k e, h, hl, q _ (z.put k e _)⟩
theorem z_pop (z : Zp G M H) (k : Nat) (e : M[k]? = some (a, .lst (xs ++ [y]))) (q : ∀ H1, Zp G (M.set k (a, .lst xs)) H1 → Q y H1) : rPop (.ref a) [] H Q :=
  ⟨a, xs ++ [y], y, rfl, rfl, z.at_ k e, by simp, by rw [List.dropLast_concat]; exact q _ (z.put k e _)⟩
theorem z_reverse (z : Zp G M H) (k : Nat) (e : M[k]? = some (a, .lst xs)) (q : ∀ H1, Zp G (M.set k (a, .lst xs.reverse)) H1 → Q .non H1) : rReverse (.ref a) [] H Q :=
  ⟨a, xs, rfl, rfl, z.at_ k e, q _ (z.put k e _)⟩
theorem z_ixH (h : SqL K H a xs) (e : atI xs i = some v) (q : Q v H) : rIx K (.ref a) (.int i) H Q := .inl ⟨a, xs, i, v, rfl, rfl, h, e, q⟩
theorem z_ixTH (h : SqT K H a xs) (e : atI xs i = some v) (q : Q v H) : rIx K (.ref a) (.int i) H Q := .inr (.inl ⟨a, xs, i, v, rfl, rfl, h, e, q⟩)
theorem z_tupH (h : SqL K H a xs) (z : Zp G M H) (q : ∀ p G1 H1, Zp G1 M H1 → Same G G1 → SqT K G1 p xs → Q (.ref p) H1) : rTupG K [.ref a] H Q :=
  ⟨a, xs, rfl, .inl ⟨h, fun p hp => q p _ _ (z.new hp _) (Same.new (z.free hp)) (SqT.of upd_same)⟩⟩
/-! ### fewer that may change -/
theorem Zp.less (z : Zp G M H) (h : M1.Sublist M) : Zp G M1 H where
  sub := z.sub
  own := fun i q u e => by
    obtain ⟨j, hj⟩ := List.getElem?_of_mem (h.subset (List.mem_of_getElem? e))
    exact z.own j q u hj
  nd := z.nd.sublist (h.map _)
/-! ### a comprehension whose list may change -/
theorem lc_srcO {J : It} {g : TG} {ws : List Nat} {OK : Hp → Prop} (S : Src J xs OK) (I : Nat → Hp → List (Addr × HO) → List V → Prop) (z : Zp G M H) (h0 : I 0 G M []) (ok : ∀ i G M M1 acc H, I i G M acc → Zp G (M ++ M1) H → OK H)
    (turn : ∀ i x G M acc Dl H, xs[i]? = some x → I i G M acc → Zp G (M ++ [(Dl, .lst acc)]) H → g x (wipe σ ws) H fun σ2 H2 => wipe σ2 ws = wipe σ ws ∧ tt σ2 H2 fun b H3 =>
      Bif b (te σ2 H3 fun y H4 => Laid (I (i + 1)) Dl y H4) (Kept (I (i + 1)) Dl H3))
    (done : ∀ p G M acc H1, I xs.length G M acc → Zp G (M ++ [(p, .lst acc)]) H1 → Q (.ref p) H1) : LcW J g tt te ws σ H Q := by
  intro Dl hD
  refine ⟨fun i m H => m = xs.length - i ∧ i ≤ xs.length ∧ Kept (I i) Dl H, ⟨xs.length, by simp, Nat.zero_le _, G, M, [], z.add hD _, h0⟩, ?_⟩
  rintro i m H ⟨rfl, hi, G, M, acc, z, h⟩
  have o := ok i G M _ acc H h z
  by_cases c : i < xs.length
  · refine .inr ⟨S.go i H o c, Kept (I (i + 1)) Dl, fun H' q => ⟨xs.length - (i + 1), by omega, rfl, c, q⟩, fun x H' y => ?_⟩
    obtain ⟨e0, e⟩ := S.yld i H x H' o c y
    subst e0
    exact turn i x G M acc Dl H' e h z
  · have e0 : i = xs.length := by omega
    subst e0
    exact .inl ⟨S.stop _ H o (Nat.le_refl _), done Dl G M acc _ h z⟩
/-! ### x.f += an int -/
def FaW (K : PySem.W.Frag) (tv : TE) (rd : V → V → Hp → VK → Prop) (f : Str) (D : Ends) (σ : L2.St) (x : V) (H1 : Hp) : Prop := ∃ a C dx fs v, x = .ref a ∧ H1 a = some (.ins C dx fs) ∧ Cls K C ∧ NoAttr K C f ∧ fs.lookup f = some v ∧
  tv σ H1 fun y H2 => rd v y H2 fun z H3 => ∃ dx' fs', H3 a = some (.ins C dx' fs') ∧ fs'.length < 1000 ∧ D.nx σ (upd H3 a (.ins C dx' (putF f z fs')))
theorem z_fa {rd : V → V → Hp → VK → Prop} {f : Str} (h : ta σ H fun x H1 => FaW K tv rd f D σ x H1) : sFldAug K ta tv rd f D σ H := h
theorem z_faI {C dx : Addr} {fs : List (Str × V)} {f : Str} (z : Zp G M H) (k : Nat) (e : M[k]? = some (a, .ins C dx fs)) (c : Cls K C) (n : NoAttr K C f) (l : fs.lookup f = some (.int i)) (hl : fs.length < 1000) (q : ∀ H1, Zp G (M.set k (a, .ins C dx (putF f (.int (i + j)) fs))) H1 → D.nx σ H1) : FaW K (tC (.int j)) L2.rAdd f D σ (.ref a) H :=
  ⟨a, C, dx, fs, .int i, rfl, z.at_ k e, c, n, l, ⟨i, j, rfl, rfl, dx, fs, z.at_ k e, hl, q _ (z.put k e _)⟩⟩
/-! ### a field of what may change -/
theorem z_flO {C dx : Addr} {fs : List (Str × V)} {f : Str} (z : Zp G M H) (k : Nat) (e : M[k]? = some (a, .ins C dx fs)) (c : Cls K C) (n : NoAttr K C f) (l : fs.lookup f = some v) (q : Q v H) : FlW K f (.ref a) H Q := ⟨a, C, dx, fs, v, rfl, z.at_ k e, c, n, l, q⟩
/-! ### methods of what may change; they may raise -/
theorem z_mtO {C dx : Addr} {fs : List (Str × V)} {f : Str} (z : Zp G M H) (k : Nat) (e : M[k]? = some (a, .ins C dx fs)) (l : fs.lookup f = none) (q : A) : MtW C f (.ref a) H A := ⟨a, dx, fs, rfl, z.at_ k e, l, q⟩
def tMethS (C : Addr) (m : Str) (sp : Sp) (W : WX) (ta : TE) (t : TA) : TE := fun σ H Q => ta σ H fun x H1 => MtW C m x H1 (t σ H1 fun vs H2 => sp (x :: vs) H2 Q (WE W σ))
theorem z_mtS {C : Addr} {m : Str} {sp : Sp} {W : WX} (h : ta σ H fun x H1 => MtW C m x H1 (t σ H1 fun vs H2 => sp (x :: vs) H2 Q (WE W σ))) : tMethS C m sp W ta t σ H Q := h
theorem pe_mtX0 {k : Nat} {C : Addr} {m : Str} {ps : List Str} {sp : Sp} {W : WX} {e : Expr} {pos apos : Pos} {pl : Sem Bool} (R : Mth X.prog X.w X.K X.mg X.base (L2.CX X.prog X.w) k C m ps [] sp) (hr : Room k X.A) (tx : Takes X W) (he : PE X e ta)
    (ht : eval (.Call (.Attribute e m apos) [] [] pos) X.env = (do
      let ov ← eval e X.env
      standAt apos.atName
      let (f, first) ← holding [ov] (getMethod ov m pl)
      callWith pos f first (backTo pos (starEach [] X.env)) (backToKw pos (keywordEach [] X.env))) := by rfl) : PE X (.Call (.Attribute e m apos) [] [] pos) (tMethS C m sp W ta tNil) := by
  obtain ⟨f, fd, ds, hm, F, hb, hv⟩ := R.ex
  cases hv
  refine ⟨fun pins s σ H Q I h => ?_⟩
  refine PySem.W.methodCall_KW (pl := pl) (thn (he.run pins s σ H _ I h) fun u s1 ⟨x, H1, I1, rx, a, dx, fs, ex, ea, l, q⟩ => ?_) ht
  subst ex
  obtain rfl : u = Value.ref a := rx
  refine getmeth_ok I1 ea R.cl hm l ?_
  exact PySem.W.callWith_K0 (first := [.ref a]) I1.kIn hm.kp (run_fnS (σ := σ) (E := WE W) (us := [.ref a]) (vs := [.ref a]) F hr hb (passAt tx σ) I1 (.cons rfl .nil) q)
theorem pe_mtX {k : Nat} {C : Addr} {m : Str} {ps : List Str} {sp : Sp} {W : WX} {e e1 : Expr} {es : List Expr} {pos apos : Pos} {pl : Sem Bool} (R : Mth X.prog X.w X.K X.mg X.base (L2.CX X.prog X.w) k C m ps [] sp) (hr : Room k X.A) (tx : Takes X W) (he : PE X e ta) (ha : PA X (e1 :: es) t)
    (hst : starEach (e1 :: es) X.env = (false, eval e1 X.env) :: starEach es X.env := by rfl) (hpl : (backTo pos (starEach es X.env)).any (·.1) = false := by rfl)
    (ht : eval (.Call (.Attribute e m apos) (e1 :: es) [] pos) X.env = (do
      let ov ← eval e X.env
      standAt apos.atName
      let (f, first) ← holding [ov] (getMethod ov m pl)
      callWith pos f first (backTo pos (starEach (e1 :: es) X.env)) (backToKw pos (keywordEach [] X.env))) := by rfl) : PE X (.Call (.Attribute e m apos) (e1 :: es) [] pos) (tMethS C m sp W ta t) := by
  obtain ⟨f, fd, ds, hm, F, hb, hv⟩ := R.ex
  cases hv
  refine ⟨fun pins s σ H Q I h => ?_⟩
  refine PySem.W.methodCall_KW (pl := pl) (thn (he.run pins s σ H _ I h) fun u s1 ⟨x, H1, I1, rx, a, dx, fs, ex, ea, l, q⟩ => ?_) ht
  subst ex
  obtain rfl : u = Value.ref a := rx
  refine getmeth_ok I1 ea R.cl hm l ?_
  exact PySem.W.callWith_K (h₀ := X.base) (first := [.ref a]) I1.ok.mod.kin hm.kp (thn (ha.run pos pins s1 σ H1 _ I1 q) fun us s2 ⟨vs, H2, I2, r, q2⟩ => ⟨I2.kIn, run_fnS (σ := σ) (E := WE W) (us := .ref a :: us) (vs := .ref a :: vs) F hr hb (passAt tx σ) I2 (.cons rfl r) q2⟩) hst hpl
end
end Ys
/-! plans, as data; plain Lean -/
namespace Ys
open PySem PySem.Spec PyProof.Rows L2
inductive Hd where
  | th | ei | an | ag | be
  deriving DecidableEq
def Hd.s : Hd → Str
  | .th => "then"
  | .ei => "either"
  | .an => "any"
  | .ag => "again"
  | .be => "beside"
inductive Pl where
  | nm (s : Str)
  | nd (h : Hd) (ps : List Pl)
theorem Pl.ind {P : Pl → Prop} (h1 : ∀ s, P (.nm s)) (h2 : ∀ h ps, (∀ p ∈ ps, P p) → P (.nd h ps)) : ∀ p, P p
  | .nm s => h1 s
  | .nd h ps => h2 h ps fun p hp => Pl.ind h1 h2 p
termination_by p => sizeOf p
decreasing_by
  have := List.sizeOf_lt_of_mem hp
  simp only [Pl.nd.sizeOf_spec]
  omega
mutual
def Pl.d : Pl → PyData
  | .nm s => .str s
  | .nd h ps => .tuple (.str h.s :: Pl.dl ps)
def Pl.dl : List Pl → List PyData
  | [] => []
  | p :: ps => Pl.d p :: Pl.dl ps
end
theorem dl_map : ∀ ps : List Pl, Pl.dl ps = ps.map Pl.d
  | [] => by simp [Pl.dl]
  | p :: ps => by simp [Pl.dl, dl_map ps]
mutual
def Pl.dp : Pl → Nat
  | .nm _ => 0
  | .nd _ ps => Pl.dpl ps + 1
def Pl.dpl : List Pl → Nat
  | [] => 0
  | p :: ps => max (Pl.dp p) (Pl.dpl ps)
end
mutual
def Pl.sz : Pl → Nat
  | .nm _ => 1
  | .nd _ ps => Pl.szl ps + 1
def Pl.szl : List Pl → Nat
  | [] => 0
  | p :: ps => Pl.sz p + Pl.szl ps
end
theorem dp_mem {p : Pl} : ∀ {ps : List Pl}, p ∈ ps → p.dp ≤ Pl.dpl ps
  | q :: ps, h => by
    rw [Pl.dpl]
    rcases List.mem_cons.mp h with rfl | h
    · exact Nat.le_max_left _ _
    · exact Nat.le_trans (dp_mem h) (Nat.le_max_right _ _)
theorem dpl_le {n : Nat} : ∀ {ps : List Pl}, (∀ p ∈ ps, p.dp ≤ n) → Pl.dpl ps ≤ n
  | [], _ => by simp [Pl.dpl]
  | p :: ps, h => by
    rw [Pl.dpl]
    exact Nat.max_le.mpr ⟨h p (List.mem_cons_self ..), dpl_le fun q hq => h q (List.mem_cons_of_mem _ hq)⟩
theorem sz_mem {p : Pl} : ∀ {ps : List Pl}, p ∈ ps → p.sz ≤ Pl.szl ps
  | q :: ps, h => by
    rw [Pl.szl]
    rcases List.mem_cons.mp h with rfl | h
    · omega
    · have := sz_mem h
      omega
theorem szl_app : ∀ xs ys : List Pl, Pl.szl (xs ++ ys) = Pl.szl xs + Pl.szl ys
  | [], ys => by simp [Pl.szl]
  | x :: xs, ys => by rw [List.cons_append, Pl.szl, Pl.szl, szl_app xs ys]; omega
theorem dpl_app : ∀ xs ys : List Pl, Pl.dpl (xs ++ ys) = max (Pl.dpl xs) (Pl.dpl ys)
  | [], ys => by simp [Pl.dpl]
  | x :: xs, ys => by rw [List.cons_append, Pl.dpl, Pl.dpl, dpl_app xs ys]; omega
theorem sz_pos (p : Pl) : 1 ≤ p.sz := by cases p <;> simp [Pl.sz]
theorem len_szl : ∀ ps : List Pl, ps.length ≤ Pl.szl ps
  | [] => Nat.le_refl _
  | p :: ps => by
    have := len_szl ps
    have := sz_pos p
    rw [Pl.szl, List.length_cons]
    omega
/-! ### names are words -/
inductive Nms : Pl → Prop where
  | nm {s : Str} : Wd s → Nms (.nm s)
  | nd {h : Hd} {ps : List Pl} : (∀ p ∈ ps, Nms p) → Nms (.nd h ps)
theorem Nms.kids {h : Hd} {ps : List Pl} : Nms (.nd h ps) → ∀ p ∈ ps, Nms p
  | .nd k => k
def Hd.fit : Hd → Nat → Bool
  | .th, _ => true
  | .ei, n => decide (1 ≤ n)
  | .an, n => decide (1 ≤ n)
  | .ag, n => decide (n = 1)
  | .be, n => decide (n = 2)
inductive Ok : Bool → Pl → Prop where
  | nm {b : Bool} {s : Str} : Wd s → Ok b (.nm s)
  | nd {b : Bool} {h : Hd} {ps : List Pl} : h.fit ps.length = true → (b = true → h ≠ .be) → (∀ p ∈ ps, Ok (b || decide (h = .be)) p) → Ok b (.nd h ps)
theorem Ok.nms : ∀ (p : Pl) (b : Bool), Ok b p → Nms p := Pl.ind (fun s b h => by cases h with | nm w => exact .nm w) fun h ps ih b k => by
  cases k with
  | nd f c q => exact .nd fun p hp => ih p hp _ (q p hp)
theorem Ok.out : ∀ (p : Pl) (b : Bool), Ok true p → Ok b p := Pl.ind (fun s b h => by cases h with | nm w => exact .nm w) fun h ps ih b k => by
  cases k with
  | nd f c q =>
    refine .nd f (fun _ => c rfl) fun p hp => ih p hp _ (by simpa using q p hp)
theorem Ok.kids {b : Bool} {h : Hd} {ps : List Pl} (k : Ok b (.nd h ps)) : ∀ p ∈ ps, Ok (b || decide (h = .be)) p := by cases k with | nd f c q => exact q
theorem Ok.fit {b : Bool} {h : Hd} {ps : List Pl} (k : Ok b (.nd h ps)) : h.fit ps.length = true := by cases k with | nd f c q => exact f
/-! ### the normal form -/
def done : Pl := .nd .th []
def isDone : Pl → Bool
  | .nd .th [] => true
  | _ => false
def parts1 : Pl → List Pl
  | .nd .th qs => qs
  | q => [q]
def flat : List Pl → List Pl
  | [] => []
  | p :: ps => parts1 p ++ flat ps
def wrap : List Pl → Pl
  | [x] => x
  | xs => .nd .th xs
def seqn (ps : List Pl) : Pl := wrap (flat ps)
def along (a b : Pl) : Pl := if isDone a then b else if isDone b then a else .nd .be [a, b]
def mk (h : Hd) (ps : List Pl) : Pl := match h, ps with
  | .th, ps => seqn ps
  | .be, [a, b] => along a b
  | h, ps => .nd h ps
mutual
def nf : Pl → Pl
  | .nm s => .nm s
  | .nd h ps => mk h (nfl ps)
def nfl : List Pl → List Pl
  | [] => []
  | p :: ps => nf p :: nfl ps
end
theorem nfl_map : ∀ ps : List Pl, nfl ps = ps.map nf
  | [] => by simp [nfl]
  | p :: ps => by simp [nfl, nfl_map ps]
/-! ### what can follow -/
mutual
def wc : Pl → List Pl
  | .nm _ => []
  | .nd .ei ps => ps
  | .nd .an _ => []
  | .nd .ag ps => [done, seqn [ps.headD done, .nd .ag ps]]
  | .nd .th ps => wcT ps
  | .nd .be ps => wcB ps
def wcT : List Pl → List Pl
  | [] => []
  | a :: r => (wc a).map fun x => seqn (x :: r)
def wcB : List Pl → List Pl
  | [] => []
  | a :: r => match (wc a).map (fun x => along x (r.headD done)) with
    | [] => wcC a r
    | l => l
def wcC (a : Pl) : List Pl → List Pl
  | [] => []
  | b :: _ => (wc b).map fun x => along a x
end
mutual
def spl : Pl → List Pl
  | .nm s => [.nm s]
  | .nd .an ps => [.nd .an ps]
  | .nd .th ps => splT ps
  | .nd _ ps => splB ps
def splT : List Pl → List Pl
  | [] => []
  | a :: _ => spl a
def splB : List Pl → List Pl
  | [] => []
  | a :: r => spl a ++ splB r
end
def turnS (p : Pl) : Str := if isDone p then "done" else if (wc p).isEmpty then "staff" else "world"
mutual
def nmsL : Pl → List Str
  | .nm s => [s]
  | .nd _ ps => nmsLl ps
def nmsLl : List Pl → List Str
  | [] => []
  | p :: ps => nmsL p ++ nmsLl ps
end
mutual
def txt : Pl → Str
  | .nm s => s
  | .nd h ps => h.s ++ "(" ++ Txt.join ", " (txtl ps) ++ ")"
def txtl : List Pl → List Str
  | [] => []
  | p :: ps => txt p :: txtl ps
end
theorem txtl_map : ∀ ps : List Pl, txtl ps = ps.map txt
  | [] => by simp [txtl]
  | p :: ps => by simp [txtl, txtl_map ps]
end Ys
namespace Ys
open PySem PySem.Spec PyProof.Rows L2
theorem eqv_done (p : Pl) : PyData.eqv p.d (.tuple [.str "then"]) = isDone p := by
  have e : ∀ h : Hd, (h.s == ("then" : Str)) = decide (h = .th) := by intro h; cases h <;> decide +kernel
  cases p with
  | nm s => simp [Pl.d, PyData.eqv, isDone]
  | nd h ps =>
    have e2 : PyData.eqv (Pl.nd h ps).d (.tuple [.str "then"]) = ((h.s == ("then" : Str)) && PyData.eqvAll (Pl.dl ps) []) := by simp [Pl.d, PyData.eqv, PyData.eqvAll]
    rw [e2, e h]
    cases ps with
    | nil => cases h <;> simp [isDone, Pl.dl, PyData.eqvAll]
    | cons p ps => cases h <;> simp [isDone, Pl.dl, PyData.eqvAll]
theorem can_all {ds : List PyData} (h : ∀ d ∈ ds, d.canLay0 = true) : PyData.canLayAll0 ds = true := by
  induction ds with
  | nil => rfl
  | cons d ds ih =>
    show (d.canLay0 && PyData.canLayAll0 ds) = true
    rw [h d (List.mem_cons_self ..), ih fun e he => h e (List.mem_cons_of_mem _ he)]
    rfl
theorem dep_all {n : Nat} {ds : List PyData} (h : ∀ d ∈ ds, d.depth ≤ n) : PyData.depthAll ds ≤ n := by
  induction ds with
  | nil => exact Nat.zero_le _
  | cons d ds ih =>
    show max d.depth (PyData.depthAll ds) ≤ n
    exact Nat.max_le.mpr ⟨h d (List.mem_cons_self ..), ih fun e he => h e (List.mem_cons_of_mem _ he)⟩
theorem hd_ok (h : Hd) : PyData.strOk h.s = true := by cases h <;> decide +kernel
theorem pd_can : ∀ p, Nms p → p.d.canLay0 = true := Pl.ind (fun s k => by
    cases k with
    | nm k => rw [Pl.d]; exact k.2.2.ok) fun h ps ih k => by
  rw [Pl.d]
  show PyData.canLayAll0 (.str h.s :: Pl.dl ps) = true
  refine can_all fun d hd => ?_
  rcases List.mem_cons.mp hd with rfl | hd
  · exact hd_ok h
  · rw [dl_map] at hd
    obtain ⟨p, hp, rfl⟩ := List.mem_map.mp hd
    exact ih p hp (k.kids p hp)
theorem pd_dep : ∀ p : Pl, p.d.depth ≤ p.dp := Pl.ind (fun s => by rw [Pl.d]; exact Nat.zero_le _) fun h ps ih => by
  rw [Pl.d, Pl.dp]
  show PyData.depthAll (.str h.s :: Pl.dl ps) + 1 ≤ _
  refine Nat.succ_le_succ (dep_all fun d hd => ?_)
  rcases List.mem_cons.mp hd with rfl | hd
  · exact Nat.zero_le _
  · rw [dl_map] at hd
    obtain ⟨p, hp, rfl⟩ := List.mem_map.mp hd
    exact Nat.le_trans (ih p hp) (dp_mem hp)
theorem pd_shaped {p : Pl} (k : Nms p) (h : p.dp ≤ 60) : SeqAt.shaped p.d = true := by
  unfold SeqAt.shaped
  rw [pd_can p k]
  have := pd_dep p
  simp
  omega
theorem done_shaped : SeqAt.shaped (.tuple [.str "then"]) = true := by decide +kernel
/-! ### sizes and depths of what is made -/
theorem done_nms : Nms done := .nd fun p hp => by cases hp
theorem parts1_dp (p : Pl) : ∀ x ∈ parts1 p, x.dp ≤ p.dp := fun x hx => by
  unfold parts1 at hx
  split at hx
  · rw [Pl.dp]; exact Nat.le_succ_of_le (dp_mem hx)
  · rw [List.mem_singleton.mp hx]; exact Nat.le_refl _
theorem parts1_sz (p : Pl) : Pl.szl (parts1 p) ≤ p.sz := by
  unfold parts1
  split
  · rw [Pl.sz]; exact Nat.le_succ _
  · simp [Pl.szl]
theorem parts1_nms {p : Pl} (k : Nms p) : ∀ x ∈ parts1 p, Nms x := fun x hx => by
  unfold parts1 at hx
  split at hx
  · exact k.kids x hx
  · rw [List.mem_singleton.mp hx]; exact k
theorem parts1_ok {b : Bool} {p : Pl} (k : Ok b p) : ∀ x ∈ parts1 p, Ok b x := fun x hx => by
  unfold parts1 at hx
  split at hx
  · have := k.kids x hx
    simpa using this
  · rw [List.mem_singleton.mp hx]; exact k
theorem flat_mem {x : Pl} : ∀ {ps : List Pl}, x ∈ flat ps → ∃ p ∈ ps, x ∈ parts1 p
  | p :: ps, h => by
    rw [flat] at h
    rcases List.mem_append.mp h with h | h
    · exact ⟨p, List.mem_cons_self .., h⟩
    · obtain ⟨q, hq, hx⟩ := flat_mem h
      exact ⟨q, List.mem_cons_of_mem _ hq, hx⟩
theorem flat_sz : ∀ ps : List Pl, Pl.szl (flat ps) ≤ Pl.szl ps
  | [] => Nat.le_refl _
  | p :: ps => by
    rw [flat, szl_app, Pl.szl]
    have := parts1_sz p
    have := flat_sz ps
    omega
theorem flat_dp (ps : List Pl) : Pl.dpl (flat ps) ≤ Pl.dpl ps := dpl_le fun x hx => by
  obtain ⟨p, hp, hx⟩ := flat_mem hx
  exact Nat.le_trans (parts1_dp p x hx) (dp_mem hp)
theorem wrap_cases (xs : List Pl) : (∃ x, xs = [x] ∧ wrap xs = x) ∨ wrap xs = .nd .th xs := by
  unfold wrap
  split
  · exact .inl ⟨_, rfl, rfl⟩
  · exact .inr rfl
theorem wrap_dp (xs : List Pl) : (wrap xs).dp ≤ Pl.dpl xs + 1 := by
  rcases wrap_cases xs with ⟨x, rfl, e⟩ | e
  · rw [e]; simp [Pl.dpl]
  · rw [e, Pl.dp]; exact Nat.le_refl _
theorem wrap_sz (xs : List Pl) : (wrap xs).sz ≤ Pl.szl xs + 1 := by
  rcases wrap_cases xs with ⟨x, rfl, e⟩ | e
  · rw [e]; simp [Pl.szl]
  · rw [e, Pl.sz]; exact Nat.le_refl _
theorem seqn_dp (ps : List Pl) : (seqn ps).dp ≤ Pl.dpl ps + 1 := Nat.le_trans (wrap_dp _) (Nat.succ_le_succ (flat_dp ps))
theorem seqn_sz (ps : List Pl) : (seqn ps).sz ≤ Pl.szl ps + 1 := Nat.le_trans (wrap_sz _) (Nat.succ_le_succ (flat_sz ps))
theorem seqn_nms {ps : List Pl} (h : ∀ p ∈ ps, Nms p) : Nms (seqn ps) := by
  have k : ∀ x ∈ flat ps, Nms x := fun x hx => by
    obtain ⟨p, hp, hx⟩ := flat_mem hx
    exact parts1_nms (h p hp) x hx
  unfold seqn
  rcases wrap_cases (flat ps) with ⟨x, e1, e⟩ | e
  · rw [e]; exact k x (by rw [e1]; exact List.mem_singleton.mpr rfl)
  · rw [e]; exact .nd k
theorem seqn_ok {b : Bool} {ps : List Pl} (h : ∀ p ∈ ps, Ok b p) : Ok b (seqn ps) := by
  have k : ∀ x ∈ flat ps, Ok b x := fun x hx => by
    obtain ⟨p, hp, hx⟩ := flat_mem hx
    exact parts1_ok (h p hp) x hx
  unfold seqn
  rcases wrap_cases (flat ps) with ⟨x, e1, e⟩ | e
  · rw [e]; exact k x (by rw [e1]; exact List.mem_singleton.mpr rfl)
  · rw [e]; exact .nd rfl (fun _ => by decide) (by simpa using k)
theorem along_cases (a b : Pl) : along a b = b ∨ along a b = a ∨ along a b = .nd .be [a, b] := by
  unfold along
  split
  · exact .inl rfl
  · split
    · exact .inr (.inl rfl)
    · exact .inr (.inr rfl)
theorem along_dp (a b : Pl) : (along a b).dp ≤ max a.dp b.dp + 1 := by
  rcases along_cases a b with e | e | e <;> rw [e]
  · omega
  · omega
  · simp [Pl.dp, Pl.dpl]
theorem along_sz (a b : Pl) : (along a b).sz ≤ a.sz + b.sz + 1 := by
  rcases along_cases a b with e | e | e <;> rw [e]
  · omega
  · omega
  · simp [Pl.sz, Pl.szl]
theorem along_nms {a b : Pl} (h1 : Nms a) (h2 : Nms b) : Nms (along a b) := by
  rcases along_cases a b with e | e | e <;> rw [e]
  · exact h2
  · exact h1
  · exact .nd fun p hp => by
      rcases List.mem_cons.mp hp with rfl | hp
      · exact h1
      · rw [List.mem_singleton.mp hp]; exact h2
theorem along_ok {a b : Pl} (h1 : Ok true a) (h2 : Ok true b) : Ok false (along a b) := by
  rcases along_cases a b with e | e | e <;> rw [e]
  · exact Ok.out _ _ h2
  · exact Ok.out _ _ h1
  · refine .nd rfl (fun h => by cases h) fun p hp => ?_
    rcases List.mem_cons.mp hp with rfl | hp
    · exact h1
    · rw [List.mem_singleton.mp hp]; exact h2
theorem mk_cases (h : Hd) (ps : List Pl) : (h = .th ∧ mk h ps = seqn ps) ∨ (∃ a b, h = .be ∧ ps = [a, b] ∧ mk h ps = along a b) ∨ (h ≠ .th ∧ mk h ps = .nd h ps) := by
  unfold mk
  split
  · exact .inl ⟨rfl, rfl⟩
  · exact .inr (.inl ⟨_, _, rfl, rfl, rfl⟩)
  · rename_i h1 h2
    refine .inr (.inr ⟨fun e => ?_, rfl⟩)
    subst e
    simp_all
theorem mk_dp (h : Hd) (ps : List Pl) : (mk h ps).dp ≤ Pl.dpl ps + 1 := by
  rcases mk_cases h ps with ⟨_, e⟩ | ⟨a, b, _, rfl, e⟩ | ⟨_, e⟩ <;> rw [e]
  · exact seqn_dp ps
  · have := along_dp a b
    simp only [Pl.dpl]
    omega
  · rw [Pl.dp]; exact Nat.le_refl _
theorem mk_sz (h : Hd) (ps : List Pl) : (mk h ps).sz ≤ Pl.szl ps + 1 := by
  rcases mk_cases h ps with ⟨_, e⟩ | ⟨a, b, _, rfl, e⟩ | ⟨_, e⟩ <;> rw [e]
  · exact seqn_sz ps
  · have := along_sz a b
    simp only [Pl.szl]
    omega
  · rw [Pl.sz]; exact Nat.le_refl _
theorem mk_ok {b : Bool} {h : Hd} {ps : List Pl} (f : h.fit ps.length = true) (c : b = true → h ≠ .be) (k : ∀ p ∈ ps, Ok (b || decide (h = .be)) p) : Ok b (mk h ps) := by
  rcases mk_cases h ps with ⟨rfl, e⟩ | ⟨x, y, rfl, rfl, e⟩ | ⟨_, e⟩ <;> rw [e]
  · exact seqn_ok (by simpa using k)
  · cases b with
    | true => exact absurd rfl (c rfl)
    | false => exact along_ok (by simpa using k x (by simp)) (by simpa using k y (by simp))
  · exact .nd f c k
theorem nf_dp : ∀ p, (nf p).dp ≤ p.dp := Pl.ind (fun s => by rw [nf]; exact Nat.le_refl _) fun h ps ih => by
  rw [nf, Pl.dp, nfl_map]
  refine Nat.le_trans (mk_dp h _) (Nat.succ_le_succ (dpl_le fun q hq => ?_))
  obtain ⟨p, hp, rfl⟩ := List.mem_map.mp hq
  exact Nat.le_trans (ih p hp) (dp_mem hp)
theorem nfl_sz : ∀ ps : List Pl, (∀ p ∈ ps, (nf p).sz ≤ p.sz) → Pl.szl (nfl ps) ≤ Pl.szl ps
  | [], _ => Nat.le_refl _
  | p :: ps, h => by
    rw [nfl, Pl.szl, Pl.szl]
    have := h p (List.mem_cons_self ..)
    have := nfl_sz ps fun q hq => h q (List.mem_cons_of_mem _ hq)
    omega
theorem nf_sz : ∀ p, (nf p).sz ≤ p.sz := Pl.ind (fun s => by rw [nf]; exact Nat.le_refl _) fun h ps ih => by
  rw [nf, Pl.sz]
  exact Nat.le_trans (mk_sz h _) (Nat.succ_le_succ (nfl_sz ps ih))
theorem nf_ok : ∀ p b, Ok b p → Ok b (nf p) := Pl.ind (fun s b k => by rw [nf]; exact k) fun h ps ih b k => by
  rw [nf, nfl_map]
  cases k with
  | nd f c q =>
    refine mk_ok (by rw [List.length_map]; exact f) c fun x hx => ?_
    obtain ⟨p, hp, rfl⟩ := List.mem_map.mp hx
    exact ih p hp _ (q p hp)
/-! ### choices -/
structure Nx (b : Bool) (n m : Nat) (c : Pl) : Prop where
  ok : Ok b c
  dp : c.dp ≤ n + 1
  sz : c.sz ≤ 2 * m + 2
theorem wc_nx : ∀ p b, Ok b p → ∀ c ∈ wc p, Nx b p.dp p.sz c := Pl.ind (fun s b k c hc => by rw [wc] at hc; cases hc) fun h ps ih b k c hc => by
  have kk := k.kids
  have kf := k.fit
  cases h with
  | th =>
    rw [wc] at hc
    cases ps with
    | nil => rw [wcT] at hc; cases hc
    | cons a r =>
      rw [wcT] at hc
      obtain ⟨x, hx, rfl⟩ := List.mem_map.mp hc
      have ka : Ok b a := by simpa using kk a (by simp)
      have n := ih a (by simp) b ka x hx
      refine ⟨seqn_ok fun p hp => ?_, ?_, ?_⟩
      · rcases List.mem_cons.mp hp with rfl | hp
        · exact n.ok
        · simpa using kk p (List.mem_cons_of_mem _ hp)
      · have := seqn_dp (x :: r)
        have := n.dp
        simp only [Pl.dp, Pl.dpl] at *
        omega
      · have := seqn_sz (x :: r)
        have := n.sz
        simp only [Pl.sz, Pl.szl] at *
        omega
  | ei =>
    rw [wc] at hc
    refine ⟨by simpa using kk c hc, ?_, ?_⟩
    · have := dp_mem hc
      rw [Pl.dp]
      omega
    · have := sz_mem hc
      rw [Pl.sz]
      omega
  | an => rw [wc] at hc; cases hc
  | ag =>
    obtain ⟨q, rfl⟩ : ∃ q, ps = [q] := by
      match ps, (of_decide_eq_true kf : ps.length = 1) with
      | [q], _ => exact ⟨q, rfl⟩
    have kq : Ok b q := by simpa using kk q (by simp)
    rw [wc] at hc
    rcases List.mem_cons.mp hc with rfl | hc
    · exact ⟨.nd rfl (fun _ => by decide) (fun p hp => by cases hp), by simp [done, Pl.dp, Pl.dpl], by simp [done, Pl.sz, Pl.szl]⟩
    · obtain rfl := List.mem_singleton.mp hc
      refine ⟨seqn_ok fun p hp => ?_, ?_, ?_⟩
      · rcases List.mem_cons.mp hp with rfl | hp
        · exact kq
        · rw [List.mem_singleton.mp hp]; exact k
      · have := seqn_dp [q, .nd .ag [q]]
        simp only [Pl.dp, Pl.dpl, List.headD_cons] at *
        omega
      · have := seqn_sz [q, .nd .ag [q]]
        simp only [Pl.sz, Pl.szl, List.headD_cons] at *
        omega
  | be =>
    obtain ⟨x, y, rfl⟩ : ∃ x y, ps = [x, y] := by
      match ps, (of_decide_eq_true kf : ps.length = 2) with
      | [x, y], _ => exact ⟨x, y, rfl⟩
    have hb : b = false := by
      cases b with
      | false => rfl
      | true => cases k with | nd f c q => exact absurd rfl (c rfl)
    subst hb
    have kx : Ok true x := by simpa using kk x (by simp)
    have ky : Ok true y := by simpa using kk y (by simp)
    rw [wc, wcB] at hc
    have one : (∃ z ∈ wc x, c = along z y) ∨ (∃ z ∈ wc y, c = along x z) := by
      split at hc
      · rw [wcC] at hc
        obtain ⟨z, hz, rfl⟩ := List.mem_map.mp hc
        exact .inr ⟨z, hz, rfl⟩
      · obtain ⟨z, hz, rfl⟩ := List.mem_map.mp hc
        exact .inl ⟨z, hz, rfl⟩
    rcases one with ⟨z, hz, rfl⟩ | ⟨z, hz, rfl⟩
    · have n := ih x (by simp) true kx z hz
      refine ⟨along_ok n.ok ky, ?_, ?_⟩
      · have := along_dp z y
        have := n.dp
        simp only [Pl.dp, Pl.dpl] at *
        omega
      · have := along_sz z y
        have := n.sz
        simp only [Pl.sz, Pl.szl] at *
        omega
    · have n := ih y (by simp) true ky z hz
      refine ⟨along_ok kx n.ok, ?_, ?_⟩
      · have := along_dp x z
        have := n.dp
        simp only [Pl.dp, Pl.dpl] at *
        omega
      · have := along_sz x z
        have := n.sz
        simp only [Pl.sz, Pl.szl] at *
        omega
theorem wc_len : ∀ p b, Ok b p → (wc p).length ≤ p.sz := Pl.ind (fun s b k => by rw [wc]; exact Nat.zero_le _) fun h ps ih b k => by
  have kk := k.kids
  have kf := k.fit
  cases h with
  | th =>
    rw [wc]
    cases ps with
    | nil => rw [wcT]; exact Nat.zero_le _
    | cons a r =>
      rw [wcT, List.length_map]
      have := ih a (by simp) b (by simpa using kk a (by simp))
      simp only [Pl.sz, Pl.szl]
      omega
  | ei =>
    rw [wc, Pl.sz]
    have := len_szl ps
    omega
  | an => rw [wc]; exact Nat.zero_le _
  | ag =>
    obtain ⟨q, rfl⟩ : ∃ q, ps = [q] := by
      match ps, (of_decide_eq_true kf : ps.length = 1) with
      | [q], _ => exact ⟨q, rfl⟩
    rw [wc]
    have := sz_pos q
    simp only [Pl.sz, Pl.szl, List.length_cons, List.length_nil]
    omega
  | be =>
    obtain ⟨x, y, rfl⟩ : ∃ x y, ps = [x, y] := by
      match ps, (of_decide_eq_true kf : ps.length = 2) with
      | [x, y], _ => exact ⟨x, y, rfl⟩
    have hx := ih x (by simp) _ (kk x (by simp))
    have hy := ih y (by simp) _ (kk y (by simp))
    rw [wc, wcB]
    simp only [Pl.sz, Pl.szl]
    split
    · rw [wcC, List.length_map]; omega
    · rw [List.length_map]; omega
/-! ### places -/
theorem spl_in : ∀ p b, Ok b p → ∀ q ∈ spl p, (∃ c, Ok c q) ∧ q.dp ≤ p.dp ∧ q.sz ≤ p.sz := Pl.ind (fun s b k q hq => by
    rw [spl] at hq
    rw [List.mem_singleton.mp hq]
    exact ⟨⟨b, k⟩, Nat.le_refl _, Nat.le_refl _⟩) fun h ps ih b k q hq => by
  have kk := k.kids
  have sub : ∀ l : List Pl, (∀ p ∈ l, p ∈ ps) → q ∈ splB l → (∃ c, Ok c q) ∧ q.dp ≤ (Pl.nd h ps).dp ∧ q.sz ≤ (Pl.nd h ps).sz := by
    intro l
    induction l with
    | nil => intro _ h; rw [splB] at h; cases h
    | cons a r ihr =>
      intro hl h
      rw [splB] at h
      rcases List.mem_append.mp h with h | h
      · obtain ⟨h1, h2, h3⟩ := ih a (hl a (by simp)) _ (kk a (hl a (by simp))) q h
        refine ⟨h1, ?_, ?_⟩
        · have := dp_mem (hl a (by simp))
          rw [Pl.dp]
          omega
        · have := sz_mem (hl a (by simp))
          rw [Pl.sz]
          omega
      · exact ihr (fun p hp => hl p (List.mem_cons_of_mem _ hp)) h
  cases h with
  | an =>
    rw [spl] at hq
    rw [List.mem_singleton.mp hq]
    exact ⟨⟨b, k⟩, Nat.le_refl _, Nat.le_refl _⟩
  | th =>
    rw [spl] at hq
    cases ps with
    | nil => rw [splT] at hq; cases hq
    | cons a r =>
      rw [splT] at hq
      obtain ⟨h1, h2, h3⟩ := ih a (by simp) _ (kk a (by simp)) q hq
      refine ⟨h1, ?_, ?_⟩
      · simp only [Pl.dp, Pl.dpl]; omega
      · simp only [Pl.sz, Pl.szl]; omega
  | ei => rw [spl] at hq <;> first | exact sub ps (fun _ h => h) hq | (intro e; cases e)
  | ag => rw [spl] at hq <;> first | exact sub ps (fun _ h => h) hq | (intro e; cases e)
  | be => rw [spl] at hq <;> first | exact sub ps (fun _ h => h) hq | (intro e; cases e)
end Ys
namespace Ys
theorem z_bT' {c : Bool} {A B : Prop} (h : c = true) (q : A) : Bif c A B := by rw [h]; exact z_bT q
theorem z_bF' {c : Bool} {A B : Prop} (h : c = false) (q : B) : Bif c A B := by rw [h]; exact z_bF q
end Ys
namespace Ys
open PySem PySem.Spec PyProof.Rows L2
/-! ### set(dict): the keys are texts -/
section
variable {P : Program} {w : World} {A : Around} {E : Value → Shared → Prop} {s : Shared}
theorem laid_nil (m f mv : Nat) (led pl : Bool) : SetTable.laid m f mv led pl #[] = some ({ mask := m, place := #[], dummies := #[], finger := f, led, moves := mv, plain := pl }, #[]) := by
  have e : SetTable.layClean m #[] = some (Array.replicate (m + 1) none) := rfl
  have e2 : ((List.range (m + 1)).filterMap fun j => ((Array.replicate (m + 1) (none : Option Nat)).getD j none).map (j, ·)) = [] := by
    rw [List.filterMap_eq_nil_iff]
    intro j _
    have : (Array.replicate (m + 1) (none : Option Nat)).getD j none = none := by
      simp [Array.getD]
    rw [this]
    rfl
  unfold SetTable.laid
  rw [e]
  show some (_, _) = _
  simp only [e2]
  rfl
theorem room_txt {a : Addr} {n : Nat} {Q : Unit → Shared → Prop} (ho : s.heap.get? a = some (Froz.sObj "set" (#[], 0, .fresh 0 0 (!w.params.followText "set-order")))) (hn : n ≤ 1000)
    (h : ∀ h' : Heap, Heap.SameBut a s.heap h' → TxSet P w h' a [] → Q () { s with heap := h' }) : wpAny (model P w) A (setRoomFor a n) Q E s := by
  have e1 : (Froz.sObj "set" (#[], 0, SetTable.fresh 0 0 (!w.params.followText "set-order"))).data = .set #[] 0 (.fresh 0 0 (!w.params.followText "set-order")) := rfl
  have hl : ∀ t : SetTable, t.led = (!w.params.followText "set-order") → (w.params.followText "set-order" = true ∨ t.led = true) := fun t e => by
    rw [e]
    cases w.params.followText "set-order"
    · exact .inr rfl
    · exact .inl rfl
  have tx : ∀ t : SetTable, t.place = #[] → t.led = (!w.params.followText "set-order") → t.fits 0 = true → TxSet P w (s.heap.update a (Obj.putSet #[] t)) a [] := fun t hp hl' hf =>
    ⟨(#[], 1, t), Heap.get?_update_self _ ho rfl, Froz.TxOk.nil hf, List.nodup_nil, (by show Ris t.place.toList; rw [hp]; exact List.Pairwise.nil), hl t hl'⟩
  unfold setRoomFor
  refine wpAny_bind (wpAny_setState_of ho e1 rfl ?_)
  dsimp only
  unfold SetTable.roomFor
  split
  · rename_i wanted hw
    split at hw
    · have hw := Option.some.inj hw
      have hw2 : wanted = (0 + n) * 2 := hw.symm
      have hsz : ¬ SetTable.sizeAbove wanted > sizeLine := by
        have key : (List.range 2002).all (fun k => decide (¬ SetTable.sizeAbove k > sizeLine)) = true := by decide +kernel
        exact of_decide_eq_true (List.all_eq_true.mp key wanted (List.mem_range.mpr (by omega)))
      rw [L2.setRelay_eq]
      refine wpAny_bind (wpAny_setState_of ho e1 rfl ?_)
      dsimp only
      rw [if_neg hsz]
      unfold SetTable.relaid
      have em : (#[] : Array (Int × Value)).map (·.1) = #[] := by simp
      rw [em, laid_nil]
      dsimp only
      have ef : ((#[] : Array Nat).filterMap fun i => (#[] : Array (Int × Value))[i]?) = #[] := by simp
      rw [ef]
      simp only [bne_self_eq_false, Bool.false_eq_true, if_false]
      refine wpAny_bind (wpAny_pure ?_)
      dsimp only
      exact wpAny_storeSet_of ho e1 (h _ (Heap.SameBut.update s.heap a _) (tx _ rfl rfl (by simp [SetTable.fits, SetTable.fill])))
    · cases hw
  · exact wpAny_pure (h s.heap (Heap.SameBut.refl a s.heap) ⟨_, ho, Froz.TxOk.nil rfl, List.nodup_nil, List.Pairwise.nil, hl _ rfl⟩)
theorem from_dict {id : String} {a d : Addr} {kvs : List (Key × Value)} {ep : Nat} {ks : List Str} {Q : Unit → Shared → Prop} (ho : s.heap.get? a = some (bare w)) (hd : s.heap.DictAt (mixKind P w) d kvs ep) (hk : kvs.map (·.1) = ks.map Sum.inr) (hs : (d == sysModules) = false) (few : ks.length ≤ 900)
    (h : ∀ (h' : Heap) (l' : List Str), Heap.SameBut a s.heap h' → TxSet P w h' a l' → (∀ x, x ∈ l' ↔ x ∈ ks) → l'.length ≤ ks.length → Q () { s with heap := h' }) : wpAny (model P w) A (Builtin.Frozenset.updateFrom id a (.ref d)) Q E s := by
  have hda := hd
  obtain ⟨o, es, e0, ex, e1, K1, K2, nd⟩ := hd
  have ne : d ≠ a := fun z => by
    rw [z, ho] at e0
    cases e0
    cases e1
  have ty : s.TypeIs (.ref d) "dict" := hda.dictOf.typeIs
  have hlen : es.size = ks.length := by
    have := K2.length
    rw [Array.length_toList] at this
    have h2 := congrArg List.length hk
    rw [List.length_map, List.length_map] at h2
    omega
  unfold Builtin.Frozenset.updateFrom
  have c1 := F.sub_dict_set
  have c2 : isSubtype (.type "dict") (.type "frozenset") = pure false := by rw [isSubtype_type]; kernel_rfl
  generalize hSR : setRoomFor = SR
  generalize hSA : setAddHashed = SA
  repeat (any_goals (first | assumption | wp_step))
  rw [e1]
  refine wpAny_pure ?_
  refine wpAny_bind (wpAny_dictEntries e0 e1 ?_)
  subst hSR
  refine wpAny_bind (room_txt ho (by omega) fun h1 sb1 T1 => ?_)
  have g1 : h1.get? d = some o := (sb1.2 d ne).trans e0
  refine wpAny_bind (wpAny_dictEntries g1 e1 ?_)
  refine wpAny_bind ?_
  rw [Std.Legacy.Range.forIn_eq_forIn_range']
  simp only [Std.Legacy.Range.size, Nat.sub_zero, Nat.add_sub_cancel, Nat.div_one]
  refine wpAny_forIn_list _ (fun rest _ s' => ∃ h2 i l2, s' = { s with heap := h2 } ∧ rest = List.range' i (es.size - i) ∧ i ≤ es.size ∧ Heap.SameBut a s.heap h2 ∧ TxSet P w h2 a l2 ∧ (∀ x, x ∈ l2 ↔ x ∈ ks.take i) ∧ l2.length ≤ i) _ ?_ ?_ _ _
    ⟨h1, 0, [], rfl, by simp, Nat.zero_le _, sb1, T1, by simp, Nat.le_refl _⟩
  · rintro x rest b s' ⟨h2, i, l2, rfl, hr, hi, sb2, T2, m2, len2⟩
    have hlt : i < es.size := by
      rcases Nat.lt_or_ge i es.size with q | q
      · exact q
      · rw [Nat.sub_eq_zero_of_le q] at hr
        cases hr
    have er : es.size - i = (es.size - (i + 1)) + 1 := by omega
    rw [er, List.range'_succ] at hr
    injection hr with r1 r2
    subst r1
    have g2 : h2.get? d = some o := (sb2.2 d ne).trans e0
    refine wpAny_bind (wpAny_dictEntries g2 e1 ?_)
    obtain ⟨k, hk1⟩ : ∃ k, ks[x]? = some k := ⟨ks[x]'(by omega), List.getElem?_eq_getElem _⟩
    obtain ⟨v, hv⟩ : ∃ v, kvs[x]? = some (Sum.inr k, v) := by
      have := congrArg (fun l : List Key => l[x]?) hk
      simp only [List.getElem?_map, hk1, Option.map_some] at this
      cases q : kvs[x]? with
      | none => rw [q] at this; cases this
      | some p =>
        rw [q] at this
        obtain ⟨p1, p2⟩ := p
        exact ⟨p2, by rw [show p1 = Sum.inr k from Option.some.inj this]⟩
    obtain ⟨key, hval⟩ := K2.get? (i := x) (e := es[x]) (by rw [Array.getElem?_toList]; exact Array.getElem?_eq_getElem hlt) hv
    obtain ⟨k', kk, hh⟩ := K1 es[x] (Array.getElem_mem hlt)
    have ek : k' = Sum.inr k := (mixKind P w).inj _ _ _ kk key
    rw [ek] at hh
    rw [Array.getElem?_eq_getElem hlt]
    dsimp only
    obtain ⟨u, eu⟩ : ∃ u, es[x].key = .str k u := by
      rcases keyIs_shape (show keyIs (Sum.inr k) es[x].key = true from key) with ⟨_, _, z, _⟩ | ⟨_, t, z, z2⟩
      · cases z
      · cases z
        exact ⟨t, z2⟩
    rw [eu, hh]
    subst hSA
    refine wpAny_bind (wpAny_holding ?_)
    refine add_txt (s := { s with heap := h2 }) T2 (by have : scanBound = scanBound := rfl; unfold scanBound; omega) fun b3 h3 l3 sb3 T3 m3 len3 => ?_
    have g3 : h3.get? d = some o := (sb3.2 d ne).trans g2
    refine wpAny_bind (wpAny_dictEpoch g3 e1 ?_)
    rw [if_neg (by simp)]
    refine wpAny_pure ⟨h3, x + 1, l3, rfl, r2, hlt, sb2.trans sb3, T3, fun y => ?_, by omega⟩
    rw [m3 y, m2 y, List.take_add_one, hk1]
    simp
  · rintro b s' ⟨h2, i, l2, rfl, hr, hi, sb2, T2, m2, len2⟩
    have : i = es.size := by
      rcases Nat.lt_or_ge i es.size with q | q
      · rw [show es.size - i = (es.size - (i + 1)) + 1 by omega, List.range'_succ] at hr
        cases hr
      · omega
    refine wpAny_pure (h h2 l2 sb2 T2 (fun y => ?_) (by omega))
    rw [m2 y, this, hlen, List.take_length]
end
end Ys
namespace Ys
open PySem PySem.Spec PyProof.Rows L2
section
variable {P : Program} {w : World} {A : Around} {E : Value → Shared → Prop} {s : Shared}
theorem make_dict {d : Addr} {kvs : List (Key × Value)} {ep : Nat} {ks : List Str} {Q : Value → Shared → Prop} (hh : A.handled = none) (hd : s.heap.DictAt (mixKind P w) d kvs ep) (hk : kvs.map (·.1) = ks.map Sum.inr) (hs : (d == sysModules) = false) (few : ks.length ≤ 900)
    (h : ∀ (h' : Heap) (tk : Nat) (l' : List Str), TxSet P w h' s.heap.objs.size l' → (∀ x, x ∈ l' ↔ x ∈ ks) → l'.length ≤ ks.length → (∀ b o, s.heap.get? b = some o → h'.get? b = some o) →
      Q (.ref s.heap.objs.size) { s with heap := h', toks := tk }) : wpAny (model P w) A (call (.type "set") [.ref d]) Q E s := by
  have a1 := F.called_set.made
  have a2 := F.called_set.sub
  have a3 := F.called_set.notType
  have a4 := F.called_set.canCreate
  have a5 := F.typeCall_set_1 (.ref d)
  obtain ⟨c, tl, a6⟩ := F.called_set.mro
  refine wpAny_call (codeAny_of_tree ?_)
  show wpAny _ _ (callAny (.type "set") _) _ _ _
  refine wpAny_pure ⟨Code.quiet_builtin _ (by decide +kernel), codeAny_builtin F.entry_type_call ?_⟩
  rw [Around.under_plain (weight_type_call_type "set" [.ref d] []) rfl]
  repeat (any_goals (first | assumption | wp_step))
  refine codeAny_mono (L2.code_set_led1 (.ref d) (E := E) (Q₁ := fun v z => v = .ref s.heap.objs.size ∧ z = { s with heap := s.heap.push (bare w) }) ⟨rfl, rfl⟩) fun r s1 hr => ?_
  cases r with
  | error e => exact hr
  | ok fl =>
    cases fl with
    | next => exact hr.elim
    | brk => exact hr.elim
    | cont => exact hr.elim
    | ret v =>
      obtain ⟨rfl, rfl⟩ := hr
      have b0 : (s.heap.push (bare w)).get? s.heap.objs.size = some (bare w) := Heap.get?_push_size _ rfl
      have b1 : Shared.TypeIs { s with heap := s.heap.push (bare w) } (.ref s.heap.objs.size) "set" := ⟨_, b0, rfl⟩
      have b2 := F.called_set.init.lookup
      have b3 := F.called_set.init.bind (.ref s.heap.objs.size)
      repeat (any_goals (first | assumption | wp_step))
      refine codeAny_mono (codeAny_call_builtin (R := wants (fun r z => r = .none ∧ ∃ h' tk l', z = { s with heap := h', toks := tk } ∧ TxSet P w h' s.heap.objs.size l' ∧ (∀ x, x ∈ l' ↔ x ∈ ks) ∧ l'.length ≤ ks.length ∧
          (∀ b o, s.heap.get? b = some o → h'.get? b = some o)) E) F.called_set.init.plain F.entry_set_init (check_set_init_1 b1 ?_)) fun r2 s2 hr2 => ?_
      · have k1 : ∀ b o, s.heap.get? b = some o → (s.heap.push (bare w)).get? b = some o := fun b o e => Heap.get?_push_of_some _ e
        unfold Builtin.«set.__init__» noKeywords
        generalize hU : @Builtin.Frozenset.updateFrom = U
        wp_walk
        subst hU
        refine from_dict (s := { s with heap := s.heap.push (bare w) }) b0 (hd.push _) hk hs few fun h' l' sb T' m len => ?_
        repeat (first
          | exact ⟨rfl, h', s.toks, l', rfl, T', m, len, fun b o e => (sb.2 b (Nat.ne_of_lt (Heap.lt_size e))).trans (Heap.get?_push_of_some _ e)⟩
          | refine wpAny_pure ?_
          | wp_step)
      · cases r2 with
        | error e => exact hr2
        | ok f2 =>
          cases f2 with
          | next => exact hr2.elim
          | brk => exact hr2.elim
          | cont => exact hr2.elim
          | ret r =>
            obtain ⟨rfl, h', tk, l', rfl, T', m, len, k⟩ := hr2
            repeat (any_goals (first | assumption | wp_step))
            exact h _ _ _ T' m len k
end
end Ys
/-! dicts: kept for good, walked, looked into, made -/
namespace Ys
open PySem PySem.Spec PyProof.Rows L2
section
variable {X : Cx} {K : PySem.W.Frag} {P : Program} {w : World} {G G1 H : Hp} {M M1 : List (Addr × HO)} {σ : L2.St} {Q : VK} {QB : Bool → Hp → Prop} {D : Ends} {ta tb te td tyy tk tv : TE} {t : TA} {g : TG} {tt : TT} {A B : Prop} {v x y : V} {i j : Int} {a b d p : Addr} {xs ys vs : List V} {o : HO} {od : Obj} {kvs : List (Key × V)} {k : Key} {R : It → Hp → Prop}
/-! ### a dict that is changed no more -/
def tFrz (t : TE) : TE := fun σ H Q => t σ H fun x H1 => ∃ d u, x = .ref d ∧ H1 d = some u ∧ Mut (some u) ∧ ∀ od, Q x (upd H1 d (.frz od u))
theorem pe_frz {e : Expr} (h : PE X e te) : PE X e (tFrz te) := by
  refine ⟨fun pins s σ H Q I q => ?_⟩
  refine wpAny_mono (h.run pins s σ H _ I q) (fun u s1 z => ?_) fun _ _ z => z
  obtain ⟨x, H1, I1, rx, d, ob, ex, hd, mu, q⟩ := z
  obtain ⟨od, I2⟩ := I1.lock hd mu
  exact ⟨x, _, I2, rx, q od⟩
def FzD (G : Hp) (d : Addr) (kvs : List (Key × V)) : Prop := ∃ od, G d = some (.frz od (.dK kvs))
theorem FzD.up (h : FzD G d kvs) (s : Same G G1) : FzD G1 d kvs := let ⟨o, e⟩ := h; ⟨o, s _ _ e⟩
theorem FzD.rd (h : FzD G d kvs) (z : Zp G M H) : Rd H d (.dK kvs) := let ⟨o, e⟩ := h; .inr ⟨o, z.sub _ _ e⟩
theorem FzD.ty (h : FzD G d kvs) : TyX K G (.ref d) (.type "dict") := let ⟨o, e⟩ := h; .fDict e
def FrzW (x : V) (H1 : Hp) (Q : VK) : Prop := ∃ d u, x = .ref d ∧ H1 d = some u ∧ Mut (some u) ∧ ∀ od, Q x (upd H1 d (.frz od u))
theorem z_frz (h : te σ H fun x H1 => FrzW x H1 Q) : tFrz te σ H Q := h
theorem z_frzL (z : Zp G (M ++ [(d, .dK kvs)]) H) (q : ∀ G1 H1, Zp G1 M H1 → Same G G1 → FzD G1 d kvs → Q (.ref d) H1) : FrzW (.ref d) H Q := by
  refine ⟨d, _, rfl, z.at_ M.length last_at, trivial, fun od => ?_⟩
  have fr : G d = none := (z.own M.length _ _ last_at).2
  have z1 := z.put M.length last_at (.frz od (.dK kvs))
  rw [List.set_append_right _ _ (Nat.le_refl _), Nat.sub_self] at z1
  exact q _ _ z1.fix (Same.new fr) ⟨od, upd_same⟩
/-! ### walks -/
theorem src_K : Src (Itk d od kvs) (kvs.map (fun p => kV p.1)) (fun H => H d = some (.frz od (.dK kvs))) where
  go := fun i H h hi => ⟨h, by simpa using hi⟩
  stop := fun i H h hi => ⟨h, by simpa using hi⟩
  yld := fun i H x H' h hi y => by
    obtain ⟨e, k, v, e1, rfl⟩ := y
    exact ⟨e, by rw [List.getElem?_map, e1]; rfl⟩
theorem src_V : Src (Itd d od kvs) (kvs.map (·.2)) (fun H => H d = some (.frz od (.dK kvs))) where
  go := fun i H h hi => ⟨h, by simpa using hi⟩
  stop := fun i H h hi => ⟨h, by simpa using hi⟩
  yld := fun i H x H' h hi y => by
    obtain ⟨e, k, e1⟩ := y
    exact ⟨e, by rw [List.getElem?_map, e1]; rfl⟩
def ItKW (x : V) (H1 : Hp) (R : It → Hp → Prop) : Prop := ∃ d o, x = .ref d ∧ ((∃ kvs, H1 d = some (.frz o (.dK kvs)) ∧ R (Itk d o kvs) H1) ∨ ∃ kvs, H1 d = some (.frz o (.dT kvs)) ∧ R (Itkt d o kvs) H1)
theorem z_iK (h : td σ H fun x H1 => ItKW x H1 R) : iKeys td σ H R := h
theorem z_itK (z : Zp G M H) (h : G d = some (.frz od (.dK kvs))) (q : R (Itk d od kvs) H) : ItKW (.ref d) H R := ⟨d, od, rfl, .inl ⟨kvs, z.sub _ _ h, q⟩⟩
def ItVW (x : V) (H1 : Hp) (R : It → Hp → Prop) : Prop := ∃ d o kvs, x = .ref d ∧ H1 d = some (.frz o (.dK kvs)) ∧ R (Itd d o kvs) H1
theorem z_iV (h : td σ H fun x H1 => ItVW x H1 R) : iVals td σ H R := h
theorem z_itV (z : Zp G M H) (h : G d = some (.frz od (.dK kvs))) (q : R (Itd d od kvs) H) : ItVW (.ref d) H R := ⟨d, od, kvs, rfl, z.sub _ _ h, q⟩
def ItIW (x : V) (H1 : Hp) (R : It → Hp → Prop) : Prop := ∃ d o kvs, x = .ref d ∧ H1 d = some (.frz o (.dK kvs)) ∧ R (Iti d o kvs) H1
theorem z_iI (h : td σ H fun x H1 => ItIW x H1 R) : iItems td σ H R := h
theorem z_itI (z : Zp G M H) (h : G d = some (.frz od (.dK kvs))) (q : R (Iti d od kvs) H) : ItIW (.ref d) H R := ⟨d, od, kvs, rfl, z.sub _ _ h, q⟩
theorem for_items {ts : TS} (I : Nat → L2.St → Hp → List (Addr × HO) → Prop) (z : Zp G M H) (h0 : I 0 σ G M) (fz : ∀ i σ G' M', I i σ G' M' → G' d = some (.frz od (.dK kvs)))
    (turn : ∀ i k v T σ G' M' G2 H', kvs[i]? = some (k, v) → I i σ G' M' → Zp G2 M' H' → Same G' G2 → G2 T = some (.tup [kV k, v]) →
      g (.ref T) σ H' fun σ2 H2 => ts ⟨fun σ' H' => ∃ G' M', Zp G' M' H' ∧ I (i + 1) σ' G' M', D.rt, D.nx, fun σ' H' => ∃ G' M', Zp G' M' H' ∧ I (i + 1) σ' G' M'⟩ σ2 H2)
    (done : ∀ σ G M H, I kvs.length σ G M → Zp G M H → D.nx σ H) : ForW (Iti d od kvs) g ts D σ H := by
  refine ⟨fun i m σ H => m = kvs.length - i ∧ i ≤ kvs.length ∧ ∃ G M, Zp G M H ∧ I i σ G M, ⟨kvs.length, by simp, Nat.zero_le _, G, M, z, h0⟩, ?_⟩
  rintro i m σ H ⟨rfl, hi, G, M, z, h⟩
  have o := z.sub _ _ (fz i σ G M h)
  by_cases c : i < kvs.length
  · refine .inr ⟨⟨o, c⟩, fun σ' H' => ∃ G' M', Zp G' M' H' ∧ I (i + 1) σ' G' M', fun σ' H' q => ⟨kvs.length - (i + 1), by omega, rfl, c, q⟩, fun x H' y => ?_⟩
    obtain ⟨T, k, v, e, rfl, hT, rfl⟩ := y
    exact turn i k v T σ G M _ _ e h (z.new hT _) (Same.new (z.free hT)) upd_same
  · obtain rfl : i = kvs.length := by omega
    exact .inl ⟨⟨o, Nat.le_refl _⟩, done σ G M H h z⟩
/-! ### looks -/
def DgW (x y : V) (H2 : Hp) (Q : VK) : Prop := ∃ a v, x = .ref a ∧ DGet H2 a y (some v) ∧ Q v H2
theorem z_dgt (h : td σ H fun x H1 => tyy σ H1 fun y H2 => DgW x y H2 Q) : tDGet td tyy σ H Q := h
theorem z_dgF (z : Zp G M H) (h : FzD G d kvs) (e : valV kvs k = some v) (q : Q v H) : DgW (.ref d) (kV k) H Q := ⟨d, v, rfl, .inl ⟨kvs, k, h.rd z, rfl, e.symm⟩, q⟩
def DiW (neg : Bool) (y x : V) (H2 : Hp) (Q : VK) : Prop := ∃ a o, x = .ref a ∧ DGet H2 a y o ∧ Q (.bl (if neg then !o.isSome else o.isSome)) H2
theorem z_din (h : tyy σ H fun y H1 => td σ H1 fun x H2 => DiW false y x H2 Q) : tDIn tyy td σ H Q := h
theorem z_dnin (h : tyy σ H fun y H1 => td σ H1 fun x H2 => DiW true y x H2 Q) : tDNotIn tyy td σ H Q := h
theorem z_diF {neg : Bool} (z : Zp G M H) (h : FzD G d kvs) (q : Q (.bl (if neg then !(valV kvs k).isSome else (valV kvs k).isSome)) H) : DiW neg (kV k) (.ref d) H Q := ⟨d, _, rfl, .inl ⟨kvs, k, h.rd z, rfl, rfl⟩, q⟩
/-! ### dicts that are made -/
def DcW (J : It) (g : TG) (tt : TT) (tk tv : TE) (ws : List Nat) (σ : L2.St) (H1 : Hp) (Q : VK) : Prop := ∀ D, H1 D = none → ∃ W : Nat → Nat → Hp → Prop, (∃ m, W 0 m (upd H1 D (.dK []))) ∧ ∀ i m H, W i m H →
  (J.stop i H ∧ Q (.ref D) H) ∨ (J.go i H ∧ ∃ Nx : Hp → Prop, (∀ H', Nx H' → ∃ m', m' < m ∧ W (i + 1) m' H') ∧ ∀ x H', J.yld i H x H' → g x (wipe σ ws) H' fun σ2 H2 => wipe σ2 ws = wipe σ ws ∧ tt σ2 H2 fun b H3 =>
    if b = true then tk σ2 H3 fun y H4 => tv σ2 H4 fun z H5 => ∃ kvs k, y = kV k ∧ H5 D = some (.dK kvs) ∧ kvs.length < sizeLine ∧ Nx (upd H5 D (.dK (putK kvs k z))) else Nx H3)
theorem z_dc {wi : TI} {ws : List Nat} (h : wi σ H fun J H1 => DcW J g tt tk tv ws σ H1 Q) : tDc wi g tt tk tv ws σ H Q := h
def KeptD (I : Hp → List (Addr × HO) → List (Key × V) → Prop) (D : Addr) (H : Hp) : Prop := ∃ G M acc, Zp G (M ++ [(D, .dK acc)]) H ∧ I G M acc
def LaidD (I : Hp → List (Addr × HO) → List (Key × V) → Prop) (D : Addr) (y z : V) (H : Hp) : Prop := ∃ acc k, y = kV k ∧ H D = some (.dK acc) ∧ acc.length < sizeLine ∧ KeptD I D (upd H D (.dK (putK acc k z)))
theorem z_laidD {I : Hp → List (Addr × HO) → List (Key × V) → Prop} {Dl : Addr} {acc : List (Key × V)} (z : Zp G (M ++ [(Dl, .dK acc)]) H) (hl : acc.length ≤ 100000) (q : I G M (putK acc k y)) : LaidD I Dl (kV k) y H := by
  refine ⟨acc, k, rfl, z.at_ M.length last_at, Nat.lt_of_le_of_lt hl (by decide), G, M, _, ?_, q⟩
  have := z.put M.length last_at (.dK (putK acc k y))
  rw [List.set_append_right _ _ (Nat.le_refl _), Nat.sub_self] at this
  exact this
theorem z_leftD {I : Hp → List (Addr × HO) → List (Key × V) → Prop} {Dl : Addr} {acc : List (Key × V)} (z : Zp G (M ++ [(Dl, .dK acc)]) H) (q : I G M acc) : KeptD I Dl H := ⟨G, M, acc, z, q⟩
theorem dc_src {J : It} {ws : List Nat} {OK : Hp → Prop} (S : Src J xs OK) (I : Nat → Hp → List (Addr × HO) → List (Key × V) → Prop) (z : Zp G M H) (h0 : I 0 G M []) (ok : ∀ i G M M1 acc H, I i G M acc → Zp G (M ++ M1) H → OK H)
    (turn : ∀ i x G M acc Dl H, xs[i]? = some x → I i G M acc → Zp G (M ++ [(Dl, .dK acc)]) H → g x (wipe σ ws) H fun σ2 H2 => wipe σ2 ws = wipe σ ws ∧ tt σ2 H2 fun b H3 =>
      Bif b (tk σ2 H3 fun y H4 => tv σ2 H4 fun z H5 => LaidD (I (i + 1)) Dl y z H5) (KeptD (I (i + 1)) Dl H3))
    (done : ∀ p G M acc H1, I xs.length G M acc → Zp G (M ++ [(p, .dK acc)]) H1 → Q (.ref p) H1) : DcW J g tt tk tv ws σ H Q := by
  intro Dl hD
  refine ⟨fun i m H => m = xs.length - i ∧ i ≤ xs.length ∧ KeptD (I i) Dl H, ⟨xs.length, by simp, Nat.zero_le _, G, M, [], z.add hD _, h0⟩, ?_⟩
  rintro i m H ⟨rfl, hi, G, M, acc, z, h⟩
  have o := ok i G M _ acc H h z
  by_cases c : i < xs.length
  · refine .inr ⟨S.go i H o c, KeptD (I (i + 1)) Dl, fun H' q => ⟨xs.length - (i + 1), by omega, rfl, c, q⟩, fun x H' y => ?_⟩
    obtain ⟨rfl, e⟩ := S.yld i H x H' o c y
    exact turn i x G M acc Dl H' e h z
  · obtain rfl : i = xs.length := by omega
    exact .inl ⟨S.stop _ H o (Nat.le_refl _), done Dl G M acc _ h z⟩
/-! ### two fors in one comprehension -/
def Lc2T (J1 : It) (g1 : TG) (tt1 : TT) (te : TE) (vs1 : List Nat) (D : Addr) (Nx : Hp → Prop) (σ2 : L2.St) (H4 : Hp) : Prop := ∃ W1 : Nat → Nat → Hp → Prop, (∃ m, W1 0 m H4) ∧ ∀ j k H, W1 j k H →
  (J1.stop j H ∧ Nx H) ∨ (J1.go j H ∧ ∃ Nx1 : Hp → Prop, (∀ H', Nx1 H' → ∃ k', k' < k ∧ W1 (j + 1) k' H') ∧ ∀ x H', J1.yld j H x H' → g1 x (wipe σ2 vs1) H' fun σ3 H5 => wipe σ3 vs1 = wipe σ2 vs1 ∧ tt1 σ3 H5 fun b H6 =>
    if b = true then te σ3 H6 fun y H7 => ∃ acc, H7 D = some (.lst acc) ∧ acc.length < sizeLine ∧ Nx1 (upd H7 D (.lst (acc ++ [y]))) else Nx1 H6)
def Lc2W (J : It) (g : TG) (tt : TT) (wi1 : TI) (g1 : TG) (tt1 : TT) (te : TE) (ws ws1 : List Nat) (σ : L2.St) (H1 : Hp) (Q : VK) : Prop := ∀ D, H1 D = none → ∃ W : Nat → Nat → Hp → Prop, (∃ m, W 0 m (upd H1 D (.lst []))) ∧ ∀ i m H, W i m H →
  (J.stop i H ∧ Q (.ref D) H) ∨ (J.go i H ∧ ∃ Nx : Hp → Prop, (∀ H', Nx H' → ∃ m', m' < m ∧ W (i + 1) m' H') ∧ ∀ x H', J.yld i H x H' → g x (wipe σ ws) H' fun σ2 H2 => wipe σ2 ws = wipe σ ws ∧ tt σ2 H2 fun b H3 =>
    if b = true then wi1 σ2 H3 fun J1 H4 => Lc2T J1 g1 tt1 te ws1 D Nx σ2 H4 else Nx H3)
theorem z_lc2 {wi wi1 : TI} {g1 : TG} {tt1 : TT} {ws ws1 : List Nat} (h : wi σ H fun J H1 => Lc2W J g tt wi1 g1 tt1 te ws ws1 σ H1 Q) : tLc2 wi g tt wi1 g1 tt1 te ws ws1 σ H Q := h
theorem lc2_src {wi1 : TI} {g1 : TG} {tt1 : TT} {J : It} {ws ws1 : List Nat} {OK : Hp → Prop} (S : Src J xs OK) (I : Nat → Hp → List (Addr × HO) → List V → Prop) (z : Zp G M H) (h0 : I 0 G M []) (ok : ∀ i G M M1 acc H, I i G M acc → Zp G (M ++ M1) H → OK H)
    (turn : ∀ i x G M acc Dl H, xs[i]? = some x → I i G M acc → Zp G (M ++ [(Dl, .lst acc)]) H → g x (wipe σ ws) H fun σ2 H2 => wipe σ2 ws = wipe σ ws ∧ tt σ2 H2 fun b H3 =>
      Bif b (wi1 σ2 H3 fun J1 H4 => Lc2T J1 g1 tt1 te ws1 Dl (Kept (I (i + 1)) Dl) σ2 H4) (Kept (I (i + 1)) Dl H3))
    (done : ∀ p G M acc G1 H1, I xs.length G M acc → Same G G1 → Zp G1 M H1 → G1 p = some (.lst acc) → Q (.ref p) H1) : Lc2W J g tt wi1 g1 tt1 te ws ws1 σ H Q := by
  intro Dl hD
  refine ⟨fun i m H => m = xs.length - i ∧ i ≤ xs.length ∧ Kept (I i) Dl H, ⟨xs.length, by simp, Nat.zero_le _, G, M, [], z.add hD _, h0⟩, ?_⟩
  rintro i m H ⟨rfl, hi, G, M, acc, z, h⟩
  have o := ok i G M _ acc H h z
  by_cases c : i < xs.length
  · refine .inr ⟨S.go i H o c, Kept (I (i + 1)) Dl, fun H' q => ⟨xs.length - (i + 1), by omega, rfl, c, q⟩, fun x H' y => ?_⟩
    obtain ⟨rfl, e⟩ := S.yld i H x H' o c y
    exact turn i x G M acc Dl H' e h z
  · obtain rfl : i = xs.length := by omega
    refine .inl ⟨S.stop _ H o (Nat.le_refl _), done Dl G M acc _ H h (Same.new ?_) z.fix upd_same⟩
    exact (z.own M.length _ _ last_at).2
theorem lc2_in {g1 : TG} {tt1 : TT} {J1 : It} {ws1 : List Nat} {OK : Hp → Prop} {Dl : Addr} {acc : List V} {Nx : Hp → Prop} (S : Src J1 ys OK) (I : Nat → Hp → List (Addr × HO) → List V → Prop) (z : Zp G (M ++ [(Dl, .lst acc)]) H) (h0 : I 0 G M acc) (ok : ∀ i G M M1 acc H, I i G M acc → Zp G (M ++ M1) H → OK H)
    (turn : ∀ i x G M acc H, ys[i]? = some x → I i G M acc → Zp G (M ++ [(Dl, .lst acc)]) H → g1 x (wipe σ ws1) H fun σ2 H2 => wipe σ2 ws1 = wipe σ ws1 ∧ tt1 σ2 H2 fun b H3 =>
      Bif b (te σ2 H3 fun y H4 => Laid (I (i + 1)) Dl y H4) (Kept (I (i + 1)) Dl H3))
    (done : ∀ G M acc H1, I ys.length G M acc → Zp G (M ++ [(Dl, .lst acc)]) H1 → Nx H1) : Lc2T J1 g1 tt1 te ws1 Dl Nx σ H := by
  refine ⟨fun i m H => m = ys.length - i ∧ i ≤ ys.length ∧ Kept (I i) Dl H, ⟨ys.length, by simp, Nat.zero_le _, G, M, acc, z, h0⟩, ?_⟩
  rintro i m H ⟨rfl, hi, G, M, acc, z, h⟩
  have o := ok i G M _ acc H h z
  by_cases c : i < ys.length
  · refine .inr ⟨S.go i H o c, Kept (I (i + 1)) Dl, fun H' q => ⟨ys.length - (i + 1), by omega, rfl, c, q⟩, fun x H' y => ?_⟩
    obtain ⟨rfl, e⟩ := S.yld i H x H' o c y
    exact turn i x G M acc H' e h z
  · obtain rfl : i = ys.length := by omega
    exact .inl ⟨S.stop _ H o (Nat.le_refl _), done G M acc H h z⟩
/-! ### what is built in, of dicts -/
def rDictP (K : PySem.W.Frag) : List V → Hp → VK → Prop := fun xs H Q => ∃ (a : Addr) (ps : List Addr) (kvs : List (Key × V)), xs = [.ref a] ∧ SqL K H a (ps.map V.ref) ∧ Paired (fun p kv => SqT K H p [kV kv.1, kv.2]) ps kvs ∧
  ∀ p, H p = none → Q (.ref p) (upd H p (.dK (mergeK [] kvs)))
theorem c_dictP (hcalm : X.calm = true) (e : X.K = K := by rfl) : CallR X (.type "dict") (rDictP K) := e ▸ call_dictP hcalm
theorem z_dictP {ps : List Addr} (z : Zp G M H) (h : SqL K G a (ps.map V.ref)) (hp : Paired (fun p (kv : Key × V) => SqT K G p [kV kv.1, kv.2]) ps kvs) (q : ∀ p H1, Zp G (M ++ [(p, .dK (mergeK [] kvs))]) H1 → Q (.ref p) H1) : rDictP K [.ref a] H Q :=
  ⟨a, ps, kvs, rfl, z.seqL h, L2.Paired.mapP hp fun _ _ h => z.seqT h, fun p hp => q p _ (z.add hp _)⟩
def rDictD : List V → Hp → VK → Prop := fun xs H Q => ∃ (a : Addr) (kvs : List (Key × V)), xs = [.ref a] ∧ Rd H a (.dK kvs) ∧ ∀ p, H p = none → Q (.ref p) (upd H p (.dK kvs))
theorem c_dictD : CallR X (.type "dict") rDictD := call_dictD
theorem z_dictD (z : Zp G M H) (h : FzD G d kvs) (q : ∀ p H1, Zp G (M ++ [(p, .dK kvs)]) H1 → Q (.ref p) H1) : rDictD [.ref d] H Q := ⟨d, kvs, rfl, h.rd z, fun p hp => q p _ (z.add hp _)⟩
def rLenD : List V → Hp → VK → Prop := fun xs H Q => ∃ (a : Addr) (kvs : List (Key × V)), xs = [.ref a] ∧ Rd H a (.dK kvs) ∧ Q (.int kvs.length) H
theorem c_lenD : CallR X (.builtin "len") rLenD := by
  intro pins s σ H vs us Q I r h
  obtain ⟨a, kvs, rfl, ha, q⟩ := h
  rw [Vals.ref1 r]
  exact d_len I ha fun t s' I' => ⟨.int kvs.length, H, I', ⟨t, rfl⟩, q⟩
theorem z_lenD (z : Zp G M H) (h : FzD G d kvs) (q : Q (.int kvs.length) H) : rLenD [.ref d] H Q := ⟨d, kvs, rfl, h.rd z, q⟩
def rSetD (P : Program) (w : World) : List V → Hp → VK → Prop := fun vs H Q => ∃ (d : Addr) (od : Obj) (kvs : List (Key × V)) (ks : List Str), vs = [V.ref d] ∧ H d = some (.frz od (.dK kvs)) ∧ kvs.map (·.1) = ks.map .inr ∧ ks.length ≤ 900 ∧
  ∀ a l, (∀ x, x ∈ l ↔ x ∈ ks) → l.Nodup → l.length ≤ ks.length → H a = none → Q (.ref a) (upd H a (TxO P w a l))
theorem cr_setD (hc : X.calm = true) : CallR X (.type "set") (rSetD X.prog X.w) := by
  intro pins s σ H vs us Q I r h
  obtain ⟨d, od, kvs, ks, rfl, hd, hk, few, q⟩ := h
  rw [Vals.ref1 r]
  obtain ⟨hs, hgd, hx, es, ep, vs, hdt, hsz, kv, hm⟩ := I.frzK hd
  refine make_dict (I.ok.hd hc) hm ((KV.keys kv).symm.trans hk) hs few fun h' tk l' T' m len k => ?_
  have nd : l'.Nodup := let ⟨_, _, _, nd, _⟩ := T'; nd
  exact ⟨.ref s.heap.objs.size, upd H s.heap.objs.size (TxO X.prog X.w s.heap.objs.size l'), I.laid (t' := tk) k (Nat.le_refl _) (txO_ok T'), rfl, q _ l' m nd len (I.hok.fresh (Nat.le_refl _))⟩
theorem kc_setD (hc : X.calm = true) (e1 : X.prog = P := by rfl) (e2 : X.w = w := by rfl) : CallR X (.type "set") (rSetD P w) := by subst e1; subst e2; exact cr_setD hc
theorem z_setD {ks : List Str} (z : Zp G M H) (h : FzD G d kvs) (hk : kvs.map (·.1) = ks.map .inr) (hl : ks.length ≤ 900)
    (q : ∀ p l G1 H1, Zp G1 M H1 → Same G G1 → G1 p = some (TxO P w p l) → (∀ x, x ∈ l ↔ x ∈ ks) → l.Nodup → l.length ≤ ks.length → Q (.ref p) H1) : rSetD P w [.ref d] H Q := by
  obtain ⟨od, e⟩ := h
  exact ⟨d, od, kvs, ks, rfl, z.sub _ _ e, hk, hl, fun p l m nd len hp => q p l _ _ (z.new hp _) (Same.new (z.free hp)) upd_same m nd len⟩
theorem kc_sum (hc : X.calm = true) (e : X.K = K := by rfl) : CallR X (.builtin "sum") (rSum K) := e ▸ cr_sum hc
theorem kc_max (hc : X.calm = true) (e : X.K = K := by rfl) : CallR X (.builtin "max") (rMax K) := e ▸ cr_max hc
theorem z_sum {ns : List Int} (z : Zp G M H) (h : SqL K G a (ns.map V.int)) (q : Q (.int ns.sum) H) : rSum K [.ref a] H Q := ⟨a, ns, rfl, z.seqL h, q⟩
theorem z_max {ns : List Int} {m : Int} (z : Zp G M H) (h : SqL K G a (ns.map V.int)) (hm : m ∈ ns) (h1 : ∀ y ∈ ns, y ≤ m) (q : Q (.int m) H) : rMax K [.ref a] H Q :=
  ⟨a, ns, rfl, z.seqL h, List.length_pos_of_mem hm, fun m' hm' h2 => by
    obtain rfl : m = m' := Int.le_antisymm (h2 m hm) (h1 m' hm')
    exact q⟩
/-! ### keys and values -/
theorem valV_ix : ∀ {kvs : List (Key × V)} {i : Nat} {k : Key} {v : V}, (kvs.map (·.1)).Nodup → kvs[i]? = some (k, v) → valV kvs k = some v
  | [], _, _, _, _, h => by simp at h
  | p :: r, 0, k, v, nd, h => by
    obtain rfl : p = (k, v) := by simpa using h
    exact valV_pos rfl
  | p :: r, i + 1, k, v, nd, h => by
    have h' : r[i]? = some (k, v) := by simpa using h
    obtain ⟨n1, n2⟩ := List.nodup_cons.mp nd
    rw [valV_neg (p := p) fun e : p.1 = k => n1 (List.mem_map.mpr ⟨(k, v), List.mem_of_getElem? h', e.symm⟩)]
    exact valV_ix n2 h'
theorem valV_out {kvs : List (Key × V)} {k : Key} (h : k ∉ kvs.map (·.1)) : valV kvs k = none := by
  cases e : valV kvs k with
  | none => rfl
  | some v => exact absurd (valV_in e) h
theorem valV_isin {kvs : List (Key × V)} {k : Key} (h : k ∈ kvs.map (·.1)) : (valV kvs k).isSome = true := by
  cases e : valV kvs k with
  | some v => rfl
  | none => exact absurd h (valV_not e)
end
end Ys
namespace Ys
open PySem PySem.Spec PyProof.Rows L2
/-! ### a lambda as a value, never called -/
def TbOk (G : Hp) (q : Str) (ps : Array Value) : Prop := TriplesOk ps.toList ∧ ∀ (pos : Pos) (cv : Value), codeAmong pos ps.toList = some cv → ∃ c, cv = .ref c ∧ G c = some (LamX.CodeO c q)
theorem TbOk.nil {G : Hp} {q : Str} : TbOk G q #[] := ⟨trivial, fun pos cv h => by
  have h : codeAmong pos [] = some cv := h
  simp [codeAmong] at h⟩
theorem TbOk.up {G G1 : Hp} {q : Str} {ps : Array Value} (h : TbOk G q ps) (s : Same G G1) : TbOk G1 q ps := ⟨h.1, fun pos cv e => by
  obtain ⟨c, e1, e2⟩ := h.2 pos cv e
  exact ⟨c, e1, s _ _ e2⟩⟩
def tLamV (P : Addr) (q : Str) : TE := fun σ H Q => ∃ ps, H P = some (.tbl ps) ∧ TbOk H q ps ∧ ∀ f ps' H1, (H1 = H ∧ ps' = ps ∨ ∃ c, H c = none ∧ H1 = upd (upd H P (.tbl ps')) c (LamX.CodeO c q) ∧ TriplesOk ps'.toList ∧ ∀ (pos : Pos) (cv : Value), codeAmong pos ps'.toList = some cv → codeAmong pos ps.toList = some cv ∨ cv = .ref c) → Q (.ref f) H1
def freeB (sc scope : Scope) : Bool := scope.names.all fun y => !decide (y.2 = .free) || (decide (sc.names.lookup y.1 = some .cell) || decide (sc.names.lookup y.1 = some .free))
theorem freeB_ok {sc scope : Scope} (h : freeB sc scope = true) : ∀ y ∈ scope.names, y.2 = .free → sc.names.lookup y.1 = some .cell ∨ sc.names.lookup y.1 = some .free := fun y hy e => by
  have z := List.all_eq_true.mp h y hy
  simp only [Bool.or_eq_true, Bool.not_eq_true', decide_eq_true_eq, decide_eq_false_iff_not] at z
  exact z.resolve_left fun n => n e
theorem pe_lamV {X : Cx} {P c : Addr} {q : Str} {params : Arguments} {body : Expr} {scope : Scope} {pos : Pos} (TB : LamX.TabB X.base X.mg c P) (hcd : X.env.code = .ref c) (hq : X.env.qual ++ "<lambda>" = q) (hd : defaultsOf params X.env = ([], [])) (hf : freeB X.env.scope scope = true) :
    PE X (.Lambda params body scope pos) (tLamV P q) := by
  constructor
  intro pins s σ H Q I ⟨ps, hP, T, hk⟩
  subst hq
  have hfr : ∀ y ∈ scope.names, y.2 = .free → ∃ a, X.env.cells.lookup y.1 = some a := fun y hy e => I.ok.has _ (freeB_ok hf y hy e)
  have at_ : s.heap.get? P = some { cls := .none, data := .fields ps } := I.hok P _ hP
  have cl := closure_ok hfr
  have gl := I.mod.glob.keeps I.bk
  have hb := TB.bm.keeps I.bk
  have hh := TB.code.keeps I.bk
  apply PySem.W.kla_eval hd
  cases e : codeAmong pos ps.toList with
  | some cv =>
    obtain ⟨c1, rfl, _⟩ := T.2 pos cv e
    exact PySem.W.kla_makeFunctionHit (mg := X.mg) (c := c) (P := P) (ps := ps) cl I.ok.glob gl hcd hh at_ T.1 e hb fun ctv h1 tk hx _ =>
      ⟨.ref _, H, I.kept (t' := tk) fun b o z => Heap.get?_push_of_some _ (hx b o z), rfl, hk _ ps H (.inl ⟨rfl, rfl⟩)⟩
  | none =>
    refine PySem.W.kla_makeFunction (mg := X.mg) (c := c) (P := P) (ps := ps) cl I.ok.glob gl hcd hh at_ T.1 e TB.gP hb fun c1 ctv h1 tk hx hge hlt hrec htb => ?_
    obtain ⟨c2, oc, vs, t, ec, hoc, hdt, hv⟩ := hrec
    cases ec
    have n1 : H c1 = none := I.hok.fresh hge
    have el : (ps ++ #[rawInt pos.line, rawInt pos.col, Value.ref c1]).toList = ps.toList ++ [rawInt pos.line, rawInt pos.col, .ref c1] := by simp
    refine ⟨.ref _, _, LamX.inv_table (t' := tk) (q := X.env.qual ++ "<lambda>") (c := c1) (more := #[rawInt pos.line, rawInt pos.col, .ref c1]) I hP (fun b o nb z => Heap.get?_push_of_some _ (hx b o nb z)) (Heap.get?_push_of_some _ htb) hge ⟨oc, vs, t, Heap.get?_push_of_some _ hoc, hdt, hv⟩, rfl, hk _ _ _ (.inr ⟨c1, n1, rfl, ?_, fun p' cv hc => ?_⟩)⟩
    · rw [el]
      exact TriplesOk_snoc _ _ _ _ T.1
    · rw [el] at hc
      exact LamX.among_app _ T.1 hc
theorem z_lamV {G H : Hp} {M : List (Addr × HO)} {P : Addr} {q : Str} {σ : L2.St} {Q : VK} {ps : Array Value} (z : Zp G M H) (k : Nat) (e : M[k]? = some (P, .tbl ps)) (t : TbOk G q ps) (h : ∀ f G1 H1 ps', Zp G1 (M.set k (P, .tbl ps')) H1 → Same G G1 → TbOk G1 q ps' → Q (.ref f) H1) : tLamV P q σ H Q := by
  refine ⟨ps, z.at_ k e, t.up z.sub, fun f ps' H1 w => ?_⟩
  rcases w with ⟨rfl, rfl⟩ | ⟨c, hc, rfl, t1, t2⟩
  · have es : M.set k (P, HO.tbl ps') = M := by
      apply List.ext_getElem?
      intro i
      rw [List.getElem?_set]
      split
      · rename_i hi
        subst hi
        rw [e, if_pos (List.getElem?_eq_some_iff.mp e).1]
      · rfl
    exact h f G _ ps' (by rw [es]; exact z) (Same.refl _) t
  · have gc : G c = none := z.free hc
    have z1 := z.put k e (.tbl ps')
    have hc1 : upd H P (.tbl ps') c = none := by
      rw [upd_ne]
      · exact hc
      · intro h0
        have := z.at_ k e
        rw [← h0, hc] at this
        cases this
    refine h f _ _ ps' (z1.new hc1 _) (Same.new gc) ⟨t1, fun pos cv hcv => ?_⟩
    rcases t2 pos cv hcv with y | y
    · obtain ⟨c0, e1, e2⟩ := t.2 pos cv y
      exact ⟨c0, e1, Same.new gc _ _ e2⟩
    · exact ⟨c, y, upd_same⟩
end Ys
namespace Ys
open PySem PySem.Spec PyProof.Rows L2
theorem okC {P : Program} {w : World} {K : PySem.W.Frag} {mg : Str → Option Value} {base : Heap} {f c : Addr} {fd : FuncData} {x qual : Str} {params : Arguments} {body : List Stmt} {scope : Scope} {dvs : List V} {kws : List (Str × V)} {CX : CXT} {N ps : List Str} {k : Nat} {sp : Sp} (F : FunD K x qual params body scope dvs kws f fd) (hc : fd.code = .ref c) (S : FnScope N ps scope) (len : ∀ vs H Q E, sp vs H Q E → vs.length = ps.length)
    (hb : ∀ (A : Around) (outer : List Env) (s : Shared) (H : Hp) (vs : List V) (Q : VK) (E : XK), Room k (A.deeper (envOfC qual scope s.heap.objs.size f (.ref c))) → sp vs H Q E →
      ∃ t, PSs (cxOf CX P w K mg base N qual scope f (.ref c) A outer s H E) body t ∧ t { nx := fun _ H' => Q .non H', rt := Q } (start N vs) H) : FnOk P w K mg base CX (k + 1) f fd ps sp := by
  obtain ⟨oc, od, dV, kV, doc, pm, an, cdv, ct, osl, rfl, lk, hcd, _, _⟩ := F.ex
  have e : cdv = .ref c := hc
  subst e
  exact fn_of lk hcd S len hb
/-! ### the end of a law, with tables of code objects -/
abbrev tabsM (cs : List (Addr × Addr)) : List (Addr × HO) := cs.map fun p => (p.2, HO.tbl #[])
theorem law_callGT {P : Program} {w : World} {K : PySem.W.Frag} {mg mb : Str → Option Value} {CX : CXT} {k : Nat} {fa a : Addr} {cs : List (Addr × Addr)} {fd : FuncData} {x : Str} {sp : Sp} {s1 : Shared} {vs : List Value} {ns : List Int}
    (KX : K.In s1.heap) (hns : s1.heap.Ns mainGlobals mg) (hb : s1.heap.Ns builtinsNs mb) (hbb : ∀ x : Str, x ≠ "__name__" → mb x = bootBuiltins x) (hlim : s1.heap.NoLimit) (hg : s1.gens = #[])
    (hT : ∀ p ∈ cs, s1.heap.get? p.2 = some noObj) (nT : ∀ p ∈ cs, K.lookup p.2 = none) (hC : ∀ p ∈ cs, PySem.W.CodeHd s1.heap p.1 p.2) (nd : (cs.map (·.2)).Nodup)
    (bmn : ∃ (bm : Addr) (ob : Obj), mg "__builtins__" = some (.ref bm) ∧ bm ≠ builtinsNs ∧ s1.heap.get? bm = some ob ∧ ob.cls = .type "module" ∧ ob.dict = some builtinsNs ∧ ob.data = .plain)
    (ha : s1.heap.get? a = some { cls := .type "list", data := .seq vs.toArray }) (hi : IntsAre vs ns) (hl : ns.length ≤ sizeLine) (hr : Room k callerA)
    (F : ∀ base : Heap, K.In base → base.Ns mainGlobals mg → (∀ p ∈ cs, LamX.TabB base mg p.1 p.2) → FnG P w K mg base CX k fa fd [x] sp) (hbind : ∀ (s : Shared) (u : Value), BindsTo s fd ⟨[u], []⟩ [(x, u)])
    (hsp : ∀ G H : Hp, Zp G (tabsM cs) H → SqL K G a (ns.map V.int) → sp [.ref a] H (fun v _ => v = .bl true) fun _ _ _ => False) (hCX : ∀ H e s', CX [] H s1 (fun _ _ _ => False) e s' → False) :
    codeAny (model P w) callerA (.call (.ref fa) ⟨[.ref a], []⟩) (fun r s' => r = .ok (.ret (.bool true)) ∧ OldK s1.heap s'.heap ∧ s'.os = s1.os ∧ AllBare s'.gens) s1 := by
  have rv := vals_ints hi
  have len := hi.length
  generalize hTs : cs.map (·.2) = Ts at nd
  have inT : ∀ {b : Addr}, b ∈ Ts → s1.heap.get? b = some noObj := fun {b} q => by
    rw [← hTs] at q
    obtain ⟨p, hp, rfl⟩ := List.mem_map.mp q
    exact hT p hp
  have notT : ∀ {b : Addr} {o : Obj}, s1.heap.get? b = some o → o.data ≠ .fields #[] → b ∉ Ts := fun {b o} e n q => by
    rw [inT q] at e
    exact n (by rw [← Option.some.inj e])
  have aT : a ∉ Ts := notT ha (fun q => nomatch q)
  -- what is tracked: the script, where the written part does not hold it
  obtain ⟨G, hO, hS, hok, hA, hK⟩ : ∃ G : Hp, Only G ∧ SqL K G a (ns.map V.int) ∧ HOk P w G s1.heap ∧ (∀ b u, G b = some u → b = a) ∧ (∀ u, G a = some u → K.lookup a = none) := by
    cases hk : K.lookup a with
    | some o =>
      have e := KX a o hk
      rw [ha] at e
      cases e
      exact ⟨fun _ => none, fun _ => .inl rfl, .inr ⟨_, vs.toArray, _, hk, rfl, rfl, rfl, by rw [List.size_toArray, len]; exact hl, by simpa using rv⟩, (fun b u (z : (none : Option HO) = some u) => by cases z), (fun b u (z : (none : Option HO) = some u) => by cases z), (fun u (z : (none : Option HO) = some u) => by cases z)⟩
    | none =>
      have at_ : ∀ b u, (if b = a then some (HO.frz { cls := .type "list", data := .seq vs.toArray } (.lst (ns.map V.int))) else none) = some u → b = a ∧ u = .frz { cls := .type "list", data := .seq vs.toArray } (.lst (ns.map V.int)) := fun b u z => by
        by_cases c : b = a
        · rw [if_pos c] at z
          exact ⟨c, (Option.some.inj z).symm⟩
        · rw [if_neg c] at z
          cases z
      refine ⟨fun b => if b = a then some (.frz { cls := .type "list", data := .seq vs.toArray } (.lst (ns.map V.int))) else none, fun b => ?_, .inl (.inr ⟨_, if_pos rfl⟩), fun b u z => ?_, fun b u z => (at_ b u z).1, fun _ _ => rfl⟩
      · by_cases c : b = a
        · exact .inr ⟨_, _, if_pos c⟩
        · exact .inl (if_neg c)
      · obtain ⟨rfl, rfl⟩ := at_ b u z
        exact ⟨ha, by rw [List.length_map]; exact hl, vs, _, rv, ha⟩
  have gT : ∀ b ∈ Ts, G b = none := fun b hb => by
    cases q : G b with
    | none => rfl
    | some u => exact absurd (hA b u q ▸ hb) aT
  -- beside it, the tables
  generalize hH : (fun b : Addr => if b ∈ Ts then some (HO.tbl #[]) else G b) = H
  have onT : ∀ b ∈ Ts, H b = some (.tbl #[]) := fun b hb => by rw [← hH]; exact if_pos hb
  have offT : ∀ b, b ∉ Ts → H b = G b := fun b hb => by rw [← hH]; exact if_neg hb
  have z : Zp G (tabsM cs) H := by
    refine ⟨fun b u e => ?_, fun i p o e => ?_, ?_⟩
    · rw [offT b fun q => by rw [gT b q] at e; cases e]
      exact e
    · rw [List.getElem?_map] at e
      cases q : cs[i]? with
      | none => rw [q] at e; cases e
      | some p0 =>
        rw [q] at e
        cases e
        have m : p0.2 ∈ Ts := by rw [← hTs]; exact List.mem_map.mpr ⟨p0, List.mem_of_getElem? q, rfl⟩
        exact ⟨onT _ m, gT _ m⟩
    · rw [List.map_map]
      have : ((fun p : Addr × HO => p.1) ∘ fun p : Addr × Addr => (p.2, HO.tbl #[])) = fun p => p.2 := rfl
      rw [this, hTs]
      exact nd
  have hokH : HOk P w H s1.heap := fun b u e => by
    by_cases hb : b ∈ Ts
    · rw [onT b hb] at e
      cases e
      exact inT hb
    · rw [offT b hb] at e
      have := hok b u e
      obtain rfl := hA b u e
      rcases hO b with q | ⟨o, xs, q⟩
      · rw [q] at e; cases e
      · rw [q] at e
        cases e
        exact this
  have out : ∀ {b : Addr} {o : Obj}, s1.heap.get? b = some o → o.data ≠ .fields #[] → (∀ vs n, o.data ≠ .seq vs n) → H b = none := fun {b o} e n1 n2 => by
    rw [offT b (notT e n1)]
    cases q : G b with
    | none => rfl
    | some u =>
      obtain rfl := hA b u q
      rw [ha] at e
      cases e
      exact absurd rfl (n2 _ _)
  have free : ∀ {b : Addr} {o : Obj} {es : Array DictEntry} {ep : Nat}, s1.heap.get? b = some o → o.data = .dict es ep → H b = none := fun {b o es ep} e d => out e (fun q => by rw [d] at q; cases q) fun vs n q => by rw [d] at q; cases q
  have ns_ : ∀ {b : Addr} {m : Str → Option Value}, s1.heap.Ns b m → (hidT s1.heap H).Ns b m := fun {b m} ⟨o, es, ep, e, d, r⟩ => ⟨o, es, ep, hidT_get e (free e d), d, r⟩
  have kb : K.In (hidT s1.heap H) := fun b o e => hidT_get (KX b o e) (by
    by_cases hb : b ∈ Ts
    · rw [← hTs] at hb
      obtain ⟨p, hp, rfl⟩ := List.mem_map.mp hb
      rw [nT p hp] at e
      cases e
    · rw [offT b hb]
      cases q : G b with
      | none => rfl
      | some u =>
        obtain rfl := hA b u q
        rw [hK u q] at e
        cases e)
  have md : Mod K mg (hidT s1.heap H) := ⟨kb, ns_ hns, ⟨mb, ns_ hb, hbb⟩, let ⟨mc, h1, h2⟩ := hlim; ⟨mc, ns_ h1, h2⟩⟩
  have TB : ∀ p ∈ cs, LamX.TabB (hidT s1.heap H) mg p.1 p.2 := fun p hp => by
    have hp2 := hT p hp
    constructor
    · obtain ⟨o, us, file, tf, flags, tg, inF, text, tt, e1, r1, r2, r3, rr⟩ := hC p hp
      have l : us ≠ #[] := fun q => by rw [q] at r3; simp at r3
      exact ⟨o, us, file, tf, flags, tg, inF, text, tt, hidT_get e1 (out e1 (fun q => l (by rw [r2] at q; cases q; rfl)) fun vs n q => by rw [r2] at q; cases q), r1, r2, r3, rr⟩
    · obtain ⟨bm, ob, b1, b2, b3, b4, b5, b6⟩ := bmn
      refine ⟨bm, ob, b1, b2, fun q => ?_, fun q => ?_, hidT_get b3 (out b3 (fun q => by rw [b6] at q; cases q) fun vs n q => by rw [b6] at q; cases q), b4, b5, b6⟩
      · obtain ⟨o, es, ep, e, hd, _⟩ := hns
        rw [← q, b3] at e
        rw [← Option.some.inj e, b6] at hd
        cases hd
      · rw [q, hp2] at b3
        rw [← Option.some.inj b3] at b6
        cases b6
    · intro q
      obtain ⟨o, es, ep, e, hd, _⟩ := hns
      rw [q, hp2] at e
      rw [← Option.some.inj e] at hd
      cases hd
  have e0 : Env0 P w K mg (hidT s1.heap H) callerA [] s1 H := ⟨rfl, md, fun b o e => of_hidT e, Nat.le_of_eq (hidT_size _ _), trivial, fun b hb => absurd (show b ∈ ([] : List Addr) from hb) (by simp), hokH, .of_eq hg⟩
  refine codeAny_mono ((F _ kb (ns_ hns) TB).run callerA [] s1 H ⟨[.ref a], []⟩ [.ref a] [.ref a] _ _ rfl hr e0 (hbind s1 (.ref a)) (.cons rfl .nil) (hsp G H z hS)) fun r s' h => ?_
  cases r with
  | error e => exact (hCX H e s' h).elim
  | ok fl =>
    cases fl with
    | next => exact False.elim h
    | brk => exact False.elim h
    | cont => exact False.elim h
    | ret u =>
      obtain ⟨v, H', os, bare, un, hok', r', q⟩ := h
      obtain rfl : v = .bl true := q
      obtain rfl : u = Value.bool true := r'
      have tabs : ∀ p ∈ cs, ∃ more : Array Value, s'.heap.get? p.2 = some { cls := .none, data := .fields more } := fun p hp => by
        obtain ⟨more, e⟩ := un.tbls p.2 #[] (onT _ (by rw [← hTs]; exact List.mem_map.mpr ⟨p, hp, rfl⟩))
        exact ⟨_, hok' p.2 _ e⟩
      have rest : ∀ b o, b ∉ Ts → s1.heap.get? b = some o → s'.heap.get? b = some o := fun b o nb e => by
        cases q : H b with
        | none => exact un.keep b o e q (fun z => absurd (show b ∈ ([] : List Addr) from z) (by simp)) (by simp)
        | some u =>
          have q' := q
          rw [offT b nb] at q'
          rcases hO b with z | ⟨ob, xs, z⟩
          · rw [q'] at z; cases z
          · rw [z] at q'
            cases q'
            obtain ⟨e1, _⟩ := hokH b _ q
            obtain ⟨e2, _⟩ := hok' b _ (un.frzs b ob _ q)
            rw [e] at e1
            cases e1
            exact e2
      refine ⟨rfl, ⟨fun b o e => ?_, fun b o e => ?_⟩, os, bare⟩
      · by_cases hb : b ∈ Ts
        · have hb2 := hb
          rw [← hTs] at hb2
          obtain ⟨p, hp, rfl⟩ := List.mem_map.mp hb2
          obtain ⟨more, hm⟩ := tabs p hp
          rw [inT hb] at e
          obtain rfl := Option.some.inj e
          exact .inr (.inl ⟨((hC p hp).tab (hT p hp)).isCodeTable, rfl, #[], more, rfl, by rw [Array.empty_append]; exact hm⟩)
        · exact .inl (rest b o hb e)
      · by_cases hb : b ∈ Ts
        · rw [← hTs] at hb
          obtain ⟨p, hp, rfl⟩ := List.mem_map.mp hb
          obtain ⟨more, hm⟩ := tabs p hp
          exact ⟨_, hm⟩
        · exact ⟨o, rest b o hb e⟩
theorem walk_ofGT {l : PySem.W.OpenLaw} {n k : Nat} {q : Program} {loose : List Str} {XP : (Str → Option Value) → Heap → Prop} {YP : World → Heap → Prop} {d : DefRec} {CX : World → CXT} {x : Str}
    (hn : l.most = some n) (hn2 : n ≤ sizeLine) (hdf : d.params.defaults = []) (hr : Room k callerA)
    (F : ∀ (w : World) (mg : Str → Option Value) (fa : Addr) (h : Heap), YP w h → h.Ns mainGlobals mg → mg d.name = some (.ref fa) →
      ∃ (K : PySem.W.Frag) (fd : FuncData) (cs : List (Addr × Addr)) (sp : Sp), K.In h ∧ ((∀ p ∈ cs, h.get? p.2 = some noObj) ∧ (∀ p ∈ cs, K.lookup p.2 = none) ∧ (∀ p ∈ cs, PySem.W.CodeHd h p.1 p.2) ∧ (cs.map (·.2)).Nodup) ∧ (∀ (s : Shared) (u : Value), BindsTo s fd ⟨[u], []⟩ [(x, u)]) ∧
        (∀ (G H : Hp) (a : Addr) (ns : List Int), ns.length ≤ n → Zp G (tabsM cs) H → SqL K G a (ns.map V.int) → sp [.ref a] H (fun v _ => v = .bl true) fun _ _ _ => False) ∧
        ∀ base : Heap, K.In base → base.Ns mainGlobals mg → (∀ p ∈ cs, LamX.TabB base mg p.1 p.2) → FnG l.prog w K mg base (CX w) k fa fd [x] sp)
    (hCX : ∀ (w : World) (H : Hp) (s : Shared) (e : Value) (s' : Shared), CX w [] H s (fun _ _ _ => False) e s' → False) :
    PySem.W.WalkO q loose XP YP l.row.toRowW d [] (fun f vs => PySem.call f vs) := by
  refine Att.attach_call hn hdf fun w s0 s1 mg mb fa o pm cd doc a vs ns G Y ho hd hcd hmg hobj hints hlen hg => ?_
  obtain ⟨K, fd, cs, sp, KX, ⟨h1, h2, h3, h4⟩, hb, hsp, hF⟩ := F w mg fa _ Y G.T.g hmg
  exact law_callGT KX G.T.g G.T.b G.T.builtins G.T.nolimit hg h1 h2 h3 h4 G.T.bmain hobj hints (Nat.le_trans hlen hn2) hr hF hb (fun G H z hS => hsp G H a ns hlen z hS) fun H e s' => hCX w H s1 e s'
end Ys
/-! a lambda handed to a def that calls it -/
namespace Ys
open PySem PySem.Spec PyProof.Rows L2
theorem okGC {P : Program} {w : World} {K : PySem.W.Frag} {mg : Str → Option Value} {base : Heap} {x qual : Str} {params : Arguments} {body : List Stmt} {scope : Scope} {dvs : List V} {kws : List (Str × V)} {f c : Addr} {fd : FuncData} {CX : CXT} {N ps : List Str} {k : Nat} {sp : Sp} (F : FunD K x qual params body scope dvs kws f fd) (hc : fd.code = .ref c) (S : FnScope N ps scope) (len : ∀ vs H Q E, sp vs H Q E → vs.length = ps.length)
    (hb : ∀ (A : Around) (outer : List Env) (s : Shared) (H : Hp) (vs : List V) (Q : VK) (E : XK), A.guards = some [] → Room k (A.deeper (envOfC qual scope s.heap.objs.size f (.ref c))) → sp vs H Q E →
      ∃ t, PSs (cxOf CX P w K mg base N qual scope f (.ref c) A outer s H E) body t ∧ t { nx := fun _ H' => Q .non H', rt := Q } (start N vs) H) : FnG P w K mg base CX (k + 1) f fd ps sp := by
  obtain ⟨oc, od, dV, kV, doc, pm, an, cdv, ct, osl, rfl, lk, hcd, _, _⟩ := F.ex
  have e : cdv = .ref c := hc
  subst e
  refine ⟨len, fun A outer s H args us vs Q E hg hr e0 hbd r hsp => ?_⟩
  have KX : K.In s.heap := e0.mod.kin.keeps fun b o e => (e0.bs b o e).1
  have lim : s.heap.NoLimit := e0.mod.nolimit.keeps fun b o e => (e0.bs b o e).1
  refine codeAny_call_function hr.depth (KX _ _ lk) rfl S.co S.gen rfl (PySem.W.codeRec_of KX hcd) (hbd _ _ _ _ (wpAny_newFunctionEnv_cells S.kind (fun y hy => ?_) fun env he s1 z => ?_))
  · rcases S.par y.1 (List.of_mem_zip (show (y.1, y.2) ∈ ps.zip us from hy)).1 with q | q
    · exact .inl q
    · exact .inr ⟨q, PySem.W.cellsFrom_some _ _ _ (.inl q)⟩
  · subst he
    refine ⟨lim.keeps z.toInCall.keep, codeAny_func ?_⟩
    obtain ⟨t, ht, hq⟩ := hb A outer s H vs Q E hg (hr.deeper _) hsp
    have I : Inv (cxOf CX P w K mg base N qual scope f (.ref c) A outer s H E) [] (start N vs) H s1 := inv_start S hr.hd e0 (len _ _ _ _ hsp) r z
    refine wpAny_mono (ht.run [] s1 (start N vs) H _ I hq) (fun fl s' hs => ?_) fun e s' hs => hs
    cases fl with
    | ret u =>
      obtain ⟨v, σ', H', I', r', q⟩ := hs
      exact ⟨v, H', I'.os, I'.bare, I'.base, I'.hok, r', q⟩
    | next =>
      obtain ⟨σ', H', I', q⟩ := hs
      exact ⟨.non, H', I'.os, I'.bare, I'.base, I'.hok, rfl, q⟩
    | brk =>
      obtain ⟨_, _, _, q⟩ := hs
      exact False.elim q
    | cont =>
      obtain ⟨_, _, _, q⟩ := hs
      exact False.elim q
def TbNew (H H1 : Hp) (P : Addr) (q : Str) (ps ps' : Array Value) : Prop := (H1 = H ∧ ps' = ps) ∨ ∃ c, H c = none ∧ H1 = upd (upd H P (.tbl ps')) c (LamX.CodeO c q) ∧ TriplesOk ps'.toList ∧ ∀ (pos : Pos) (cv : Value), codeAmong pos ps'.toList = some cv → codeAmong pos ps.toList = some cv ∨ cv = .ref c
section
variable {X : Cx} {pins : List (Addr × Obj)} {σ : L2.St} {H : Hp} {s : Shared}
theorem lam_makeX {c P : Addr} {q : Str} {params : Arguments} {body : Expr} {scope : Scope} {pos : Pos} {E : Value → Shared → Prop} {Q : Value → Shared → Prop} {ps : Array Value} (I : Inv X pins σ H s) (TB : LamX.TabB X.base X.mg c P) (hcd : X.env.code = .ref c) (hq : X.env.qual ++ "<lambda>" = q)
    (hd : defaultsOf params X.env = ([], [])) (hfr : ∀ y ∈ scope.names, y.2 = .free → ∃ c, X.env.cells.lookup y.1 = some c) (hP : H P = some (.tbl ps)) (T : TbOk H q ps)
    (h : ∀ (f c' : Addr) (pm ctv : Value) (ps' : Array Value) (H1 : Hp) (s' : Shared), Inv X pins σ H1 s' → TbNew H H1 P q ps ps' →
      s'.heap.get? f = some (PySem.W.kla_obj "<lambda>" (X.env.qual ++ "<lambda>") params body scope (cloFrom X.env.cells scope.names []) pm c' ctv) → H1 f = none → f ∉ frs X.stack → H1 c' = some (LamX.CodeO c' (X.env.qual ++ "<lambda>")) → Q (.ref f) s') :
    wpAny (model X.prog X.w) X.A (eval (.Lambda params body scope pos) X.env) Q E s := by
  subst hq
  have at_ : s.heap.get? P = some { cls := .none, data := .fields ps } := I.hok P _ hP
  have cl := closure_ok hfr
  have gl := I.mod.glob.keeps I.bk
  have hb := TB.bm.keeps I.bk
  have hh := TB.code.keeps I.bk
  have nofr : ∀ f, s.heap.objs.size ≤ f → f ∉ frs X.stack := fun f hf z => by
    rcases List.mem_cons.mp (I.stkSub _ z) with e | e
    · have h1 := I.lt
      rw [← e] at h1
      exact Nat.lt_irrefl _ (Nat.lt_of_lt_of_le h1 hf)
    · exact I.nofs hf e
  apply PySem.W.kla_eval hd
  cases e : codeAmong pos ps.toList with
  | some cv =>
    obtain ⟨c1, rfl, hc1⟩ := T.2 pos cv e
    refine PySem.W.kla_makeFunctionHit (mg := X.mg) (c := c) (P := P) (ps := ps) cl I.ok.glob gl hcd hh at_ T.1 e hb fun ctv h1 tk hx hsz => ?_
    exact h _ c1 _ ctv ps H _ (I.kept (t' := tk) fun b o z => Heap.get?_push_of_some _ (hx b o z)) (.inl ⟨rfl, rfl⟩) (Heap.get?_push_size _ rfl) (I.hok.fresh hsz) (nofr _ hsz) hc1
  | none =>
    refine PySem.W.kla_makeFunction (mg := X.mg) (c := c) (P := P) (ps := ps) cl I.ok.glob gl hcd hh at_ T.1 e TB.gP hb fun c1 ctv h1 tk hx hge hlt hrec htb => ?_
    obtain ⟨c2, oc, vs, t, ec, hoc, hdt, hv⟩ := hrec
    cases ec
    have n1 : H c1 = none := I.hok.fresh hge
    have hsz : s.heap.objs.size ≤ h1.objs.size := Nat.le_trans hge (Nat.le_of_lt hlt)
    have el : (ps ++ #[rawInt pos.line, rawInt pos.col, Value.ref c1]).toList = ps.toList ++ [rawInt pos.line, rawInt pos.col, .ref c1] := by simp
    have n3 : h1.objs.size ≠ c1 := Nat.ne_of_gt hlt
    have n2 : h1.objs.size ≠ P := Nat.ne_of_gt (Nat.lt_of_lt_of_le (Heap.lt_size at_) hsz)
    refine h _ c1 _ ctv _ _ _ (LamX.inv_table (t' := tk) (q := X.env.qual ++ "<lambda>") (c := c1) (more := #[rawInt pos.line, rawInt pos.col, .ref c1]) I hP (fun b o nb z => Heap.get?_push_of_some _ (hx b o nb z)) (Heap.get?_push_of_some _ htb) hge ⟨oc, vs, t, Heap.get?_push_of_some _ hoc, hdt, hv⟩)
      (.inr ⟨c1, n1, rfl, ?_, fun p' cv hc => ?_⟩) (Heap.get?_push_size _ rfl) ?_ (nofr _ hsz) upd_same
    · rw [el]
      exact TriplesOk_snoc _ _ _ _ T.1
    · rw [el] at hc
      exact LamX.among_app _ T.1 hc
    · rw [upd_ne n3, upd_ne n2]
      exact I.hok.fresh hsz
end
section
open LamX
variable {X : Cx} {pins : List (Addr × Obj)} {σ : L2.St} {H HZ : Hp} {s s1 : Shared}
theorem pe_act2 {CXg : CXT} {Eg : XK} {Ng : List Str} {qg : Str} {sg : Scope} {g f c' : Addr} {cdg pm ctv : Value} {params : Arguments} {body : Expr} {scope : Scope} {k i : Nat} {a : Str} {pn : List (Addr × Obj)} {xe : Value → Shared → Prop} {W : WX} {tb : XK → TE} {p1 p2 : Pos}
    (I : Inv X pins σ H s) (L : LamS X.env.scope scope) (hf : s.heap.get? f = some (PySem.W.kla_obj "<lambda>" (X.env.qual ++ "<lambda>") params body scope (cloFrom X.env.cells scope.names []) pm c' ctv)) (hfn : H f = none) (hfr : f ∉ frs X.stack)
    (hbind : bindArgs (PySem.W.kla_fn "<lambda>" (X.env.qual ++ "<lambda>") params body scope (cloFrom X.env.cells scope.names []) pm (.ref c') ctv) ⟨[], []⟩ = pure [])
    (tk : Takes ((cxOf CXg X.prog X.w X.K X.mg X.base Ng qg sg g cdg X.A X.stack s H Eg).tr pn xe) W) (hr : Room (k + 1) (X.A.deeper (envOfC qg sg s.heap.objs.size g cdg)))
    (hbody : ∀ (E : XK) (A : Around) (outer : List Env) (s : Shared) (H : Hp), Room k (A.deeper (lamEnv X scope s.heap.objs.size f c')) → PE (lamCx X A outer s H E scope f c') body (tb E))
    (hN : Ng[i]? = some a) (hv : Vis sg a) (hd : (a == ("__debug__" : Str)) = false := by decide) (hcd : (a == ("__classdict__" : Str)) = false := by decide) :
    PE ((cxOf CXg X.prog X.w X.K X.mg X.base Ng qg sg g cdg X.A X.stack s H Eg).tr pn xe) (.Call (.Name a p1) [] [] p2)
      (fun σZ HZ Q => σZ[i]? = some (some (.ref f)) ∧ HZ c' = some (CodeO c' (X.env.qual ++ "<lambda>")) ∧ tb (WE W σZ) σ HZ Q) := by
  refine ⟨fun pinsZ sZ σZ HZ Q IZ h => ?_⟩
  obtain ⟨hs, hc, ht⟩ := h
  generalize hE : WE W σZ = E at ht
  refine wpAny_Call_Name_kw (thn ((pe_var (pos := p1) (i := i) hN hv hd hcd).run pinsZ sZ σZ HZ (fun v H1 => v = .ref f ∧ H1 = HZ) IZ ⟨.ref f, hs, rfl, rfl⟩) fun u s1 ⟨v, H1, I1, r1, q1⟩ => ?_)
  obtain ⟨ev, eH⟩ := q1
  subst ev
  rw [eH] at I1
  obtain rfl : u = Value.ref f := r1
  have of1 : s1.heap.get? f = some (PySem.W.kla_obj "<lambda>" (X.env.qual ++ "<lambda>") params body scope (cloFrom X.env.cells scope.names []) pm c' ctv) := I1.base.keep f _ hf hfn hfr (fun z => nomatch (show f ∈ ([] : List Addr) from z))
  refine PySem.W.callWith_F0 ⟨_, _, _, _, of1⟩ ?_
  have un : Un (frs X.stack) [] H HZ s.heap s1.heap := I1.base
  obtain ⟨⟨oc, vs, t, hoc, hdc, hvc⟩, _, _⟩ := I1.hok c' _ hc
  have rc : codeAny (model X.prog X.w) (X.A.deeper (envOfC qg sg s.heap.objs.size g cdg)) (.call (.ref f) ⟨[], []⟩) (CR (L2.CX X.prog X.w) (envOfC qg sg s.heap.objs.size g cdg :: X.stack) X.prog X.w HZ s1 Q E) s1 := by
    refine PySem.W.kla_callFunE hr.depth of1 rfl L.co L.gen rfl ⟨c', oc, vs, t, rfl, hoc, hdc, hvc⟩ ?_
    rw [hbind]
    refine wpAny_pure (wpAny_newFunctionEnv (fun y hy => (L.own y hy).2) (fun y hy => absurd hy (by simp)) (fun h₁ hns hsb => ⟨I1.nolimit.fresh _ hsb, ?_⟩) L.kind)
    show codeAny _ _ (.expr body (lamEnv X scope s1.heap.objs.size f c')) _ _
    have kp : ∀ b o, s1.heap.get? b = some o → h₁.get? b = some o := fun b o e => hsb.extBut b o (Nat.ne_of_lt (Heap.lt_size e)) (Heap.get?_push_of_some _ e)
    have J : Inv (lamCx X (X.A.deeper (envOfC qg sg s.heap.objs.size g cdg)) (envOfC qg sg s.heap.objs.size g cdg :: X.stack) s1 HZ E scope f c') [] σ HZ { s1 with heap := h₁, toks := s1.toks + ([] : List (Str × Value)).length } :=
      lam_start2 I L I1.env0 hr.hd un hns kp
    refine PySem.W.kla_codeExpr (wpAny_mono ((hbody E _ _ s1 HZ (hr.deeper _)).run [] _ _ HZ Q J ht) (fun v s' hq => ?_) fun e s' hq => hq)
    obtain ⟨w', H', J', rv, q⟩ := hq
    exact ⟨w', H', J'.os, J'.bare, J'.base, J'.hok, rv, q⟩
  have hx : PassesAt (L2.CX X.prog X.w) ((cxOf CXg X.prog X.w X.K X.mg X.base Ng qg sg g cdg X.A X.stack s H Eg).tr pn xe) σZ E := hE ▸ passAt tk σZ
  refine wpAny_call (codeAny_mono rc fun r s' hq => ?_)
  cases r with
  | error e => exact hx pinsZ HZ s1 e s' I1 hq
  | ok fl =>
    cases fl with
    | ret u => exact I1.after hq
    | next => exact False.elim hq
    | brk => exact False.elim hq
    | cont => exact False.elim hq

def GivesTo2 (X : Cx) (Ng : List Str) (x : Str) (sg : Scope) (g : Addr) (cdg : Value) (bg : List Stmt) (a : Str) (q : Str) (TT : (XK → Hp → VK → Prop) → Hp → VK → Prop) : Prop :=
  ∀ (f c' : Addr) (s : Shared) (H : Hp) (Q : VK) (tl : XK → Hp → VK → Prop),
    (∀ (W : WX) (pn : List (Addr × Obj)) (xe : Value → Shared → Prop) (p1 p2 : Pos), Takes ((cxOf C8.CX0 X.prog X.w X.K X.mg X.base Ng x sg g cdg X.A X.stack s H C8.E0).tr pn xe) W →
      PE ((cxOf C8.CX0 X.prog X.w X.K X.mg X.base Ng x sg g cdg X.A X.stack s H C8.E0).tr pn xe) (.Call (.Name a p1) [] [] p2) (fun σZ HZ Q => σZ[0]? = some (some (.ref f)) ∧ HZ c' = some (CodeO c' q) ∧ tl (WE W σZ) HZ Q)) →
    H c' = some (CodeO c' q) → TT tl H Q →
    ∃ t, PSs (cxOf C8.CX0 X.prog X.w X.K X.mg X.base Ng x sg g cdg X.A X.stack s H C8.E0).nox bg t ∧ t { nx := fun _ H' => Q .non H', rt := Q } (L2.start Ng [.ref f]) H
end
def tLamC (P : Addr) (q : Str) (TT : (XK → Hp → VK → Prop) → Hp → VK → Prop) (t : XK → TE) : TE := fun σ H Q => ∃ ps, H P = some (.tbl ps) ∧ TbOk H q ps ∧ ∀ ps' H1, TbNew H H1 P q ps ps' → TT (fun E H' Q' => t E σ H' Q') H1 Q
theorem pe_lamC {X : Cx} {TT : (XK → Hp → VK → Prop) → Hp → VK → Prop} {x a q : Str} {g c P : Addr} {k : Nat} {pg : Arguments} {bg : List Stmt} {sg : Scope} {fd : FuncData} {Ng : List Str}
    {params : Arguments} {body : Expr} {scope : Scope} {t : XK → TE} {p lpos pos : Pos} (hg : Gl X x) (hm : X.mg x = some (.ref g)) (hk : PySem.W.keepIn X.K (.ref g) = true)
    (F : FunD X.K x x pg bg sg [] [] g fd) (hb : L2.Binds X.K fd [a] []) (Sg : FnScope Ng [a] sg) (hNg : Ng[0]? = some a) (hva : Vis sg a)
    (hG : ∀ cdv, GivesTo2 X Ng x sg g cdv bg a (X.env.qual ++ "<lambda>") TT)
    (TB : LamX.TabB X.base X.mg c P) (hcode : X.env.code = .ref c) (hq : X.env.qual ++ "<lambda>" = q) (hr : Room (k + 2) X.A) (L : LamX.LamS X.env.scope scope) (hdef : defaultsOf params X.env = ([], []))
    (hbind : ∀ (q : Str) (cl : List (Str × Addr)) (pm cv ctv : Value), bindArgs (PySem.W.kla_fn "<lambda>" q params body scope cl pm cv ctv) ⟨[], []⟩ = pure [])
    (hbody : ∀ (A : Around) (outer : List Env) (s : Shared) (H : Hp) (E : XK) (f c' : Addr), Room k (A.deeper (LamX.lamEnv X scope s.heap.objs.size f c')) → PE (LamX.lamCx X A outer s H E scope f c') body (t E))
    (hdb : (x == ("__debug__" : Str)) = false := by decide) (hd : (a == ("__debug__" : Str)) = false := by decide) (hcd : (a == ("__classdict__" : Str)) = false := by decide) :
    PE X (.Call (.Name x p) [.Lambda params body scope lpos] [] pos) (tLamC P q TT t) := by
  obtain ⟨oc, od, dV, kV, doc, pm, an, cdv, ct, osl, rfl, lk, hcg, _, _⟩ := F.ex
  refine ⟨fun pins s σ H Q I h => ?_⟩
  obtain ⟨ps, hP, hT, h⟩ := h
  refine wpAny_Call_Name_kw (ld_glob I hg hm ?_ hdb)
  refine PySem.W.callWith_K (h₀ := X.base) I.ok.mod.kin hk ?_ (by rfl) (by rfl)
  show wpAny _ _ (spliced ((false, eval (.Lambda params body scope lpos) X.env) :: backTo pos (starEach [] X.env))) _ _ s
  refine Calls.spliced_cons (lam_makeX I TB hcode hq hdef (L.has I.ok) hP hT fun f c' pm' ctv ps' H1 s' I1 nT hf hfn hfr hco => ?_)
  refine Calls.spliced_nil ⟨I1.kIn, ?_⟩
  have rc : codeAny (model X.prog X.w) X.A (.call (.ref g) ⟨[.ref f], []⟩) (CR C8.CX0 X.stack X.prog X.w H1 s' Q C8.E0) s' := by
    refine LamX.run_ofS (N := Ng) (ps := [a]) (us := [.ref f]) (vs := [.ref f]) lk hcg Sg hr I1.env0 (hb s' [.ref f] I1.kIn rfl) (.cons rfl .nil) rfl fun hr' => ?_
    obtain ⟨t', ht', hq'⟩ := hG cdv f c' s' H1 Q (fun E H' Q' => t E σ H' Q') (fun W pn xe p1 p2 tk => pe_act2 (i := 0) (tb := t) I1 L hf hfn hfr (hbind _ _ _ _ _) tk hr' (fun E A outer s H hr2 => hbody A outer s H E f c' hr2) hNg hva hd hcd) hco (h ps' H1 nT)
    exact ⟨t', ht'.nox, hq'⟩
  refine wpAny_call (codeAny_mono rc fun r s2 hq => ?_)
  cases r with
  | error e => exact (show False from hq).elim
  | ok fl =>
    cases fl with
    | ret u => exact I1.after hq
    | next => exact False.elim hq
    | brk => exact False.elim hq
    | cont => exact False.elim hq
theorem z_lamC {G H : Hp} {M : List (Addr × HO)} {P : Addr} {q : Str} {σ : L2.St} {Q : VK} {ps : Array Value} {TT : (XK → Hp → VK → Prop) → Hp → VK → Prop} {te : XK → TE} (z : Zp G M H) (k : Nat) (e : M[k]? = some (P, .tbl ps)) (t : TbOk G q ps) (h : ∀ G1 H1 ps', Zp G1 (M.set k (P, .tbl ps')) H1 → Same G G1 → TbOk G1 q ps' → TT (fun E H' Q' => te E σ H' Q') H1 Q) : tLamC P q TT te σ H Q := by
  refine ⟨ps, z.at_ k e, t.up z.sub, fun ps' H1 w => ?_⟩
  rcases w with ⟨rfl, rfl⟩ | ⟨c, hc, rfl, t1, t2⟩
  · have es : M.set k (P, HO.tbl ps') = M := by
      apply List.ext_getElem?
      intro i
      rw [List.getElem?_set]
      split
      · rename_i hi
        subst hi
        rw [e, if_pos (List.getElem?_eq_some_iff.mp e).1]
      · rfl
    exact h G _ ps' (by rw [es]; exact z) (Same.refl _) t
  · have gc : G c = none := z.free hc
    have z1 := z.put k e (.tbl ps')
    have hc1 : upd H P (.tbl ps') c = none := by
      rw [upd_ne]
      · exact hc
      · intro h0
        have := z.at_ k e
        rw [← h0, hc] at this
        cases this
    refine h _ _ ps' (z1.new hc1 _) (Same.new gc) ⟨t1, fun pos cv hcv => ?_⟩
    rcases t2 pos cv hcv with y | y
    · obtain ⟨c0, e1, e2⟩ := t.2 pos cv y
      exact ⟨c0, e1, Same.new gc _ _ e2⟩
    · exact ⟨c, y, upd_same⟩
end Ys
/-! try with several clauses, each with a name for what it caught -/
namespace Ys
open PySem PySem.Spec PyProof.Rows L2
def wNames (K : PySem.W.Frag) (Wout : WX) (D : Ends) : List (Value × Nat × (Addr → Value → Option Addr → TS)) → WX
  | [] => Wout
  | (c, i, ts) :: r => wAs K c i ts (wNames K Wout D r) D
inductive Named (X : Cx) : List ExceptHandler → List (Value × Nat × (Addr → Value → Option Addr → TS)) → Prop
  | nil : Named X [] []
  | cons {x n : Str} {c : Value} {i : Nat} {ts : Addr → Value → Option Addr → TS} {b₀ : Stmt} {suite : List Stmt} {np pos' : Pos} {hds : List ExceptHandler} {l : List (Value × Nat × (Addr → Value → Option Addr → TS))} (hi : X.N[i]? = some n) (hln : X.env.kindOf n = some .local) (hc : Names X x c)
      (hsu : ∀ (a : Addr) (oe : Obj) (cls : Value) (d : Option Addr) (pn : List (Addr × Obj)), Zc cls d oe → (∃ vs, oe.data = .fields vs) → PSs (X.suite a ((a, oe) :: pn)) (b₀ :: suite) (ts a cls d)) (r : Named X hds l) :
      Named X (.ExceptHandler (some (.Name x np)) (some n) (b₀ :: suite) pos' :: hds) ((c, i, ts) :: l)
section
variable {X : Cx} {Wout : WX} {D : Ends} {a : Addr} {B : Heap} {sI s' : Shared} {pins : List (Addr × Obj)} {σ : L2.St} {H : Hp} {cls : Value} {d : Option Addr} {h3 : Heap}
theorem meets (hs : X.stack = X.env :: X.outer) (hf : X.env.frame = some X.env.locals) (hN : X.N.Nodup) (tk : Takes X Wout) (ok : X.Ok) (J : Inv X pins σ H sI) (nb : ∀ b o, sI.heap.get? b = some o → b ∉ frs X.stack → B.get? b = some o) (up : sI.heap.UpToSlots s'.heap) (up3 : s'.heap.UpToSlots h3)
    (fl3 : HandSPX.FlyingZ B (X.env :: X.outer) a (Zc cls d) h3) (na : H a = none) (os : s'.os = sI.os) (ag : AllBare s'.gens) {hds : List ExceptHandler} {l : List (Value × Nat × (Addr → Value → Option Addr → TS))} (hk : Named X hds l) (w : wNames X.K Wout D l cls d σ H) :
    wpAny (model X.prog X.w) X.A (handleBy (.ref a) X.env hds) (SP X pins D) X.xe { s' with heap := h3 } := by
  induction hk with
  | nil =>
    refine wpAny_handleBy_nil ?_
    obtain ⟨_, _, _, _, vs, T, _, _, he, _, hd, h1, _⟩ := id fl3
    unfold PySem.passOn
    refine wpAny_bind (wpAny_field he hd h1 ?_)
    rw [if_neg (show ¬ ((Value.ref T == Value.none) = true) from by simp)]
    have away : wpAny (model X.prog X.w) X.A (setFlight (.ref a) X.env.frame) (fun _ s4 => wpAny (model X.prog X.w) X.A (throw (.ref a) : Sem Flow) (SP X pins D) X.xe s4) X.xe { s' with heap := h3 } := by
      rw [hf]
      exact HandSPX.setFlight_upZ fl3 fun h4 hh4 up4 => wpAny_throw (tk _ _ ⟨a, B, sI, pins, σ, H, cls, d, rfl, J, nb, (up.trans up3).trans up4, .inr (.inr (by rw [hs]; exact hh4)), na, os, ag, w⟩)
    first
      | exact wpAny_bind (wpAny_pure (wpAny_bind away))
      | exact wpAny_bind away
  | @cons x n c i ts b₀ suite np pos' hds l hi hln hc hsu r ih =>
    obtain ⟨b, hb1, hyes, hno⟩ := w
    have there : ∀ {h : Heap}, HandSPX.FlyingZ B (X.env :: X.outer) a (Zc cls d) h → s'.heap.UpToSlots h → ∃ oe vs, h.get? a = some oe ∧ Zc cls d oe ∧ oe.data = .fields vs ∧ Inv (X.suite a ((a, oe) :: (X.pn ++ pins))) [] σ H { s' with heap := h } := fun {h} fl u => by
      obtain ⟨oe, vs, he, hz, hd⟩ := fl.there
      have nfr : a ∉ frs (X.env :: X.outer) := fun hm => by
        obtain ⟨_, o', e', hnf⟩ := fl.2.2.1.mem hm
        rw [he] at e'
        cases e'
        exact hnf _ hd
      have JL : Inv X pins σ H { s' with heap := h } := J.landed nb fl.1 (up.trans u) os ag
      refine ⟨oe, vs, he, hz, hd, JL.suite he hd na (fun z => nfr (List.mem_filterMap.mpr ⟨X.env, List.mem_cons_self, by rw [hf, z]⟩)) fun hm => ?_⟩
      obtain ⟨e, he, q⟩ := List.mem_filterMap.mp hm
      exact nfr (List.mem_filterMap.mpr ⟨e, List.mem_cons_of_mem _ he, q⟩)
    obtain ⟨oe3, vs3, he3, hz3, hd3, S3⟩ := there fl3 up3
    refine wpAny_handleBy_cons (codeAny_handlers_test ?_) (by intro q; cases q)
    have JL3 : Inv X pins σ H { s' with heap := h3 } := J.landed nb fl3.1 (up.trans up3) os ag
    have LT : PySem.W.Looks (model X.prog X.w) h3 (typeOf (.ref a)) cls := fun A Q E s k q => wpAny_typeOf_ref (k _ _ he3) (by rw [hz3.1]; exact q)
    have LM := PySem.W.exm_one (M := model X.prog X.w) JL3.kIn LT hb1
    have test : ∀ {Q : Value → Shared → Prop} {E : Value → Shared → Prop}, Q c { s' with heap := h3 } → wpAny (model X.prog X.w) (X.A.mark (some (.ref a))) (eval (.Name x np) X.env) Q E { s' with heap := h3 } := fun {Q E} q => by
      obtain ⟨hg, hdbg, hm | ⟨hm, hv, hnn⟩⟩ := hc
      · exact ld_glob (X := X.suite a ((a, oe3) :: (X.pn ++ pins))) S3 hg hm q hdbg
      · exact ld_blt (X := X.suite a ((a, oe3) :: (X.pn ++ pins))) S3 hg hm hv q hnn hdbg
    refine test (LM.here ?_)
    cases b with
    | true =>
      refine codeAny_handlers_suite_as (HandSPX.lands_againZ fl3 fun h4 fl4 up4 => ?_)
      obtain ⟨oe4, vs4, he4, hz4, hd4, S4⟩ := there fl4 (up3.trans up4)
      refine store_ok (X := X.suite a ((a, oe4) :: (X.pn ++ pins))) (v := .ref a) S4 hN hi (.inl hln) rfl (fun s5 S5 => wpAny_mono ((hsu a oe4 cls d (X.pn ++ pins) hz4 ⟨_, hd4⟩).run [] s5 _ H _ S5 (hyes rfl a na)) (fun f s6 hsp => ?_) (fun _ _ z => False.elim z)) (.inr hln)
      have fin : ∀ {σ6 : L2.St} {H6 : Hp} {Q : Shared → Prop}, Inv (X.suite a ((a, oe4) :: (X.pn ++ pins))) [] σ6 H6 s6 → (∀ s7, Inv X pins (σ6.set i none) H6 s7 → Q s7) →
          wpAny (model X.prog X.w) X.A (do bindName X.env n .none; unbindBehindTheSuite X.env n pos') (fun _ s7 => Q s7) X.xe s6 := fun {σ6 H6 Q} S6 hq => gone_ok (S6.unsuite ok) hN hi hln hq
      cases f with
      | ret u =>
        obtain ⟨v6, σ6, H6, S6, r6, q6⟩ := hsp
        exact fin S6 fun s7 J7 => ⟨_, _, _, J7, r6, q6⟩
      | _ =>
        obtain ⟨σ6, H6, S6, q6⟩ := hsp
        exact fin S6 fun s7 J7 => ⟨_, _, J7, q6⟩
    | false => exact ih (hno rfl)
end
section
variable {X : Cx} {body : List Stmt} {h₀ : ExceptHandler} {hds : List ExceptHandler} {l : List (Value × Nat × (Addr → Value → Option Addr → TS))} {pos : Pos} {tb : WX → TS} {Wout : WX}
theorem ps_try_names (hs : X.stack = X.env :: X.outer) (hf : X.env.frame = some X.env.locals) (hN : X.N.Nodup) (tk : Takes X Wout)
    (hb : ∀ (W : WX) (pn : List (Addr × Obj)) (xe : Value → Shared → Prop), Takes (X.tr pn xe) W → PassesOwn (model X.prog X.w) X.A X.env xe → PSs (X.tr pn xe) body (tb W))
    (hh : Named X (h₀ :: hds) l) : PS X (.Try body (h₀ :: hds) [] [] pos) (fun D σ H => tb (wNames X.K Wout D l) D σ H) := by
  refine ⟨fun pins s σ H D I h => ?_⟩
  have hfr : X.A.frames = some (X.env :: X.outer) := by rw [I.ok.frames, hs]
  refine wpAny_Try_except ?_
  refine wpAny_mono ((hb (wNames X.K Wout D l) (X.pn ++ pins) (fun e s₁ => wpAny (model X.prog X.w) X.A (noteFrame e X.env) (fun _ s₂ => wpAny (model X.prog X.w) X.A (setFlight e none) (fun _ s₃ =>
    wpAny (model X.prog X.w) X.A (handleBy e X.env (h₀ :: hds)) (SP X pins D) X.xe s₃) X.xe s₂) X.xe s₁) (fun u s' xx => ?_) PassesOwn.looking).run [] s σ H D (I.toTry _) h) (fun f s1 hsp => ?_) (fun e s1 he => he)
  · obtain ⟨a, B, sI, pins', σ', H', cls, d, rfl, J', nb, up, sky, na, os, ag, w⟩ := xx
    show wpAny (model X.prog X.w) X.A (noteFrame (.ref a) X.env) _ _ _
    exact Sky.land Zc.steady hfr hf (by rw [← hs]; exact sky) fun h3 fl3 up3 => meets hs hf hN tk I.ok (J'.ofTry I.ok) nb up up3 fl3 na os ag hh w
  · cases f with
    | next =>
      obtain ⟨σ', H', J', q⟩ := hsp
      exact wpAny_execs_nil ⟨σ', H', J'.ofTry I.ok, q⟩
    | ret u =>
      obtain ⟨v, σ', H', J', r, q⟩ := hsp
      exact ⟨v, σ', H', J'.ofTry I.ok, r, q⟩
    | _ =>
      obtain ⟨σ', H', J', q⟩ := hsp
      exact ⟨σ', H', J'.ofTry I.ok, q⟩
end
end Ys
namespace Ys
open PySem PySem.Spec PyProof.Rows L2
/-! ### x in a tuple of data -/
def rInT (K : PySem.W.Frag) : R2 := fun x y H Q => ∃ d ds, Dt K H x d ∧ Dt K H y (.tuple ds) ∧ SeqAt.shaped d = true ∧ PyData.canLayAll0 ds = true ∧ Q (.bl (ds.any fun z => PyData.eqv z d)) H
theorem op_inT {X : Cx} (S : SysIn X.K) (hu : X.A.units + 128 < cLine) : OpR X (compareOp .In) (rInT X.K) := fun pins s σ H x y v u Q I rx ry h => by
  obtain ⟨d, ds, hd, he, sd, se, q⟩ := h
  obtain ⟨as, r1, _⟩ := Dt.reads I S d x v hd rx
  obtain ⟨bs, r2, _⟩ := Dt.reads I S _ y u he ry
  have h1 := SeqAt.depth_of_shaped sd
  have h2 : min (PyData.depthAll ds) d.depth ≤ d.depth := Nat.min_le_right _ _
  exact SeqAt.in_tuple_reads r2 r1 se (SeqAt.canLay_of_shaped sd) (by omega) ⟨V.bl _, H, I, rfl, q⟩
theorem k_inT {X : Cx} {K : PySem.W.Frag} (S : SysIn K) (hu : X.A.units + 128 < cLine) (e : X.K = K := by rfl) : OpR X (compareOp .In) (rInT K) := by
  subst e
  exact op_inT S hu
theorem room128 {k : Nat} {A : Around} (r : Room k A) : A.units + 128 < cLine := by have := r.un; omega
end Ys
/-! own items, own setters, == of kept dicts -/
namespace Ys
open PySem PySem.Spec PyProof.Rows L2
section
variable {X : Cx} {CX : CXT} {n : Nat} {C f : Addr} {fd : FuncData} {ps : List Str} {sp : Sp} {E : XK} {a b : Expr} {ta tb tv : TE} {pos pos' : Pos} {o value : Expr}
/-! ### x[y], by the class's own -/
def rItI (C : Addr) (sp : Sp) (E : XK) : R2 := fun x y H Q => ∃ a dx fs, x = .ref a ∧ H a = some (.ins C dx fs) ∧ sp [x, y] H Q E
theorem pe_itI (F : FnOk X.prog X.w X.K X.mg X.base CX n f fd ps sp) (ha : PE X a ta) (hb : PE X b tb) (hs : PySem.W.findIn X.K (.ref C) "__getitem__" = some (some (.ref f))) (hf : PySem.W.fnIn X.K f = true) (hfn : PySem.W.isFn X.K (.ref f) = true) (hbd : Binds X.K fd ps []) (hx : Passes CX X E) (hr : Room (n + 1) X.A)
    (hsl : ∀ c i, subscripted b true (.ref c) i = runValue (.builtin "lifetime.subscript" ⟨[.ref c, i], []⟩) := by intro c i; with_unfolding_all rfl) : PE X (.Subscript a b pos) (tOp (rItI C sp E) ta tb) := by
  refine ⟨fun pins s σ H Q I h => ?_⟩
  refine Subscript_ (binT ha hb I h fun v u s2 x y H2 I2 rx ry q => ?_)
  obtain ⟨c, dx, fs, rfl, ea, q⟩ := q
  cases rx
  obtain ⟨mA, J, _⟩ := ins_get I2.hok ea
  obtain ⟨od, J, _⟩ := J.look
  obtain ⟨m, hF⟩ := I2.fr
  refine PySem.W.sub_K hF I2.ok.mod.kin J hs hf hfn ?_ (hsl _ _)
  have hl := F.len _ _ _ _ q
  refine wpAny_call (codeAny_mono (F.run X.A.in1 X.stack s2 H2 ⟨[.ref c, u], []⟩ [.ref c, u] [.ref c, y] _ E hr.in1 I2.env0.in1 (by
    have := hbd s2 [.ref c, u] I2.kIn (by simpa using hl)
    simpa using this) (.cons rfl (.cons ry .nil)) q) fun r s' hq => ?_)
  cases r with
  | error e => exact hx pins σ H2 s2 e s' I2 hq
  | ok fl =>
    cases fl with
    | ret w => exact I2.after hq
    | next => exact False.elim hq
    | brk => exact False.elim hq
    | cont => exact False.elim hq
/-! ### x.f = y, f a property with a setter -/
structure PropSet (K : PySem.W.Frag) (C : Addr) (nm : Str) (g : Addr) : Prop where
  ex : ∃ p a rest, PySem.W.takerIn K C nm = some (some (.ref p)) ∧ PySem.W.typeIn K (.ref p) = some (.type "property") ∧ PySem.W.recIn K p "property" = some (a :: .ref g :: rest)
def sPset (C : Addr) (sp : Sp) (E : XK) (ta tv : TE) : TS := fun D σ H => tv σ H fun y H1 => ta σ H1 fun x H2 => ∃ c dx fs, x = .ref c ∧ H2 c = some (.ins C dx fs) ∧ sp [x, y] H2 (fun _ H3 => D.nx σ H3) E
theorem ps_pset {nm : Str} (F : FnOk X.prog X.w X.K X.mg X.base CX n f fd ps sp) (ha : PE X o ta) (hv : PE X value tv) (c : Cls X.K C) (hp : PropSet X.K C nm f) (hbd : Binds X.K fd ps []) (hx : Passes CX X E) (hr : Room (n + 2) X.A)
    (hs : swapsWith value (some (.Attribute o nm pos')) pos.line X.env = pure false) : PS X (.Assign [.Attribute o nm pos'] value pos) (sPset C sp E ta tv) := by
  refine ⟨fun pins s σ H D I h => ?_⟩
  refine plainObj_wpAny_Assign_Attribute (thn (hv.run pins s σ H _ I h) fun u s1 ⟨y, H1, I1, ry, q⟩ => thn (ha.run pins s1 σ H1 _ I1 q) fun ov s2 ⟨x, H2, I2, rx, k, dx, fs, ex, ea, q2⟩ => ?_) hs
  subst ex
  obtain rfl : ov = Value.ref k := rx
  obtain ⟨mA, J, _⟩ := ins_get I2.hok ea
  obtain ⟨od, J, _⟩ := J.look
  obtain ⟨m, hF⟩ := I2.fr
  obtain ⟨p, a0, rest, h1, h2, h3⟩ := hp.ex
  have I3 := I2.tok (s2.toks + 1)
  refine PySem.W.set_prop hF I2.ok.mod.kin J c.sa c.po h1 h2 h3 ?_
  have hl := F.len _ _ _ _ q2
  refine codeAny_mono (F.run X.A.in1.in1 X.stack _ H2 ⟨[.ref k, u], []⟩ [.ref k, u] [.ref k, y] _ E hr.in1.in1 I3.env0.in1.in1 (by
    have := hbd _ [.ref k, u] I3.kIn (by simpa using hl)
    simpa using this) (.cons rfl (.cons ry .nil)) q2) fun r s' hq => ?_
  cases r with
  | error e => exact hx pins σ H2 _ e s' I3 hq
  | ok fl =>
    cases fl with
    | ret w =>
      obtain ⟨v, H4, I4, _, q4⟩ := I3.after hq
      exact ⟨σ, H4, I4, q4⟩
    | next => exact False.elim hq
    | brk => exact False.elim hq
    | cont => exact False.elim hq
end
end Ys
namespace PySem.W
open Lean Elab Tactic Meta PySem PySem.Calls PyProof.Rows PyProof.V PySem.Spec
section
variable {prog : Program} {w : World} {K : Type} [DecidableEq K] {knd : KeyKind prog w K} {A : Around} {E : Value → Shared → Prop} {s : Shared}
theorem samePairsG {nm : String} {a b : Addr} {ka kb : List (K × Value)} {Q : Bool → Shared → Prop} (I : Shared → Prop) (ha : (a == sysModules) = false) (hb : (b == sysModules) = false)
    (da : s.heap.DictOf knd a ka) (db : s.heap.DictOf knd b kb) (same : ∀ s', I s' → s'.heap.get? a = s.heap.get? a ∧ s'.heap.get? b = s.heap.get? b) (hl : ka.length = kb.length)
    (turn : ∀ (i : Nat) (k : K) (v : Value) s', ka[i]? = some (k, v) → I s' → ∃ y, valueAt kb k = some y ∧ wpAny (model prog w) A (eqBool v y) (fun r s2 => r = true ∧ I s2) E s') (h0 : I s) (h : ∀ s', I s' → Q true s') :
    wpAny (model prog w) A (Builtin.Dict.samePairs nm a b) Q E s := by
  obtain ⟨oa, es, ep, hoa, _, hda, hka, hpa, _⟩ := da
  obtain ⟨ob, es', ep', hob, _, hdb, hkb, hpb, _⟩ := db
  have hla : ka.length = es.size := by rw [← hpa.length]; exact Array.length_toList
  have hlb : kb.length = es'.size := by rw [← hpb.length]; exact Array.length_toList
  have hfind : ∀ k, findBy knd.is es' k = valueAt kb k := fun k => by
    rw [← hpb.find k]
    clear hlb hpb hkb hdb hob same
    obtain ⟨l⟩ := es'
    simp [findBy]
  have hsz : es.size = es'.size := by omega
  unfold Builtin.Dict.samePairs Builtin.Dict.showsAll
  rw [if_neg (show ¬ (a == sysModules) = true by rw [ha]; exact Bool.false_ne_true), if_neg (show ¬ (b == sysModules) = true by rw [hb]; exact Bool.false_ne_true)]
  refine wpAny_bind (wpAny_pure (wpAny_bind (wpAny_pure ?_)))
  refine wpAny_bind (wpAny_dictEntries hoa hda ?_)
  dsimp only
  refine wpAny_bind (wpAny_dictEntries hob hdb ?_)
  rw [if_neg (by rw [hsz]; simp)]
  refine wpAny_bind (wpAny_dictEpoch hoa hda ?_)
  refine wpAny_bind ?_
  rw [Std.Legacy.Range.forIn_eq_forIn_range']
  simp only [Std.Legacy.Range.size, Nat.sub_zero, Nat.add_sub_cancel, Nat.div_one]
  refine wpAny_forIn_list _
    (fun rest q s' => I s' ∧ q = (none, ()) ∧ ∃ i, rest = List.range' i (es.size - i) ∧ i ≤ es.size)
    _ ?_ ?_ _ _ ⟨h0, rfl, 0, by simp, Nat.zero_le _⟩
  · rintro x rest q s' ⟨hI, rfl, i, hr, hi⟩
    obtain ⟨sa, sb⟩ := same s' hI
    have hoa' := sa.trans hoa
    have hob' := sb.trans hob
    have hlt : i < es.size := by
      rcases Nat.lt_or_ge i es.size with h | h
      · exact h
      · rw [Nat.sub_eq_zero_of_le h] at hr; simp at hr
    obtain ⟨rfl, hrest⟩ : x = i ∧ rest = List.range' (i + 1) (es.size - (i + 1)) := by
      have e : es.size - i = (es.size - (i + 1)) + 1 := by omega
      rw [e, List.range'_succ] at hr
      injection hr with h1 h2
      exact ⟨h1, h2⟩
    refine wpAny_bind (wpAny_dictEntries hoa' hda ?_)
    rw [Array.getElem?_eq_getElem hlt]
    have hlt' : x < ka.length := by rw [hla]; exact hlt
    obtain ⟨k, v, hkv⟩ : ∃ k v, ka[x] = (k, v) := ⟨_, _, rfl⟩
    have hkx : ka[x]? = some (k, v) := by rw [List.getElem?_eq_getElem hlt', hkv]
    obtain ⟨hkey, hval⟩ := hpa.get? (i := x) (e := es[x]) (k := k) (v := v) (by rw [Array.getElem?_toList]; exact Array.getElem?_eq_getElem hlt) hkx
    obtain ⟨k', hk', hh⟩ := hka es[x] (Array.getElem_mem hlt)
    have ekk : k' = k := knd.inj _ _ _ hk' hkey
    rw [ekk] at hh
    obtain ⟨y, hy, he⟩ := turn x k v s' hkx hI
    show wpAny _ _ (holding [es[x].key, es[x].val] _ >>= _) _ _ _
    rw [hh]
    refine wpAny_bind (wpAny_holding (wpAny_bind (wpAny_dictFind_of hkey hob' hdb hkb ?_)))
    cases hj : es'.findIdx? fun e => knd.is k e.key with
    | none =>
      have hn : valueAt kb k = none := by rw [← hfind k, findBy_of_findIdx?, hj]
      rw [hn] at hy; exact nomatch hy
    | some j =>
      obtain ⟨hjlt, _, _⟩ := Array.findIdx?_eq_some_iff_getElem.mp hj
      have hv' : valueAt kb k = some es'[j].val := by
        rw [← hfind k, findBy_of_findIdx?, hj]
        simp [Array.getElem?_eq_getElem hjlt]
      refine wpAny_bind (wpAny_dictEntries hob' hdb ?_)
      rw [Array.getElem?_eq_getElem hjlt]
      have ey : es'[j].val = y := Option.some.inj (hv'.symm.trans hy)
      rw [← ey, ← hval] at he
      refine wpAny_holding (wpAny_mono he (fun r s2 z => ?_) fun _ _ z => z)
      obtain ⟨rfl, hI2⟩ := z
      show wpAny _ _ (if (!true) = true then _ else _) _ _ _
      rw [if_neg (by decide)]
      refine wpAny_bind (wpAny_dictEpoch ((same s2 hI2).1.trans hoa) hda ?_)
      rw [if_neg (by simp)]
      exact wpAny_pure ⟨hI2, rfl, x + 1, hrest, hlt⟩
  · rintro q s' ⟨hI, rfl, i, hr, hi⟩
    exact wpAny_pure (h s' hI)
theorem rcG_dicts {a b : Addr} {ka kb : List (K × Value)} {Q : Value → Shared → Prop} (I : Shared → Prop) (ha : (a == sysModules) = false) (hb : (b == sysModules) = false)
    (da : s.heap.DictOf knd a ka) (db : s.heap.DictOf knd b kb) (same : ∀ s', I s' → s'.heap.get? a = s.heap.get? a ∧ s'.heap.get? b = s.heap.get? b) (hl : ka.length = kb.length) (hu : A.units < cLine)
    (turn : ∀ (i : Nat) (k : K) (v : Value) s', ka[i]? = some (k, v) → I s' → ∃ y, valueAt kb k = some y ∧ wpAny (model prog w) A.in1 (eqBool v y) (fun r s2 => r = true ∧ I s2) E s') (h0 : I s) (h : ∀ s', I s' → Q (.bool true) s') : wpAny (model prog w) A (richCompare .Eq (.ref a) (.ref b)) Q E s := by
  refine wpAny_richCompare_same_room (op := .Eq) da.typeIs db.typeIs PySem.F.slot_dict_eq (GQ.call_here PySem.F.slot_dict_eq da.typeIs PySem.F.entry_dict_eq (PySem.F.args_dict_eq_2 _ _) ?_) hu
  show wpAny _ _ (Builtin.Dict.dictSlotArgs "__eq__" ⟨[.ref a, .ref b], []⟩ >>= _) _ _ s
  refine wpAny_bind ?_
  unfold Builtin.Dict.dictSlotArgs
  refine wpAny_bind (wpAny_notOrdered_dict da.typeIs ?_)
  show wpAny _ _ (pure (Value.ref a, Value.ref b)) _ _ s
  refine wpAny_pure ?_
  refine wpAny_bind (wpAny_isInstance (T := "dict") db.typeIs PySem.F.sub_dict_dict ?_)
  simp only [Bool.not_true, Bool.false_eq_true, if_false]
  refine wpAny_bind (wpAny_pure (wpAny_bind (wpAny_pure ?_)))
  refine wpAny_bind (samePairsG I ha hb da db same hl (fun i k v s' e hI => ?_) h0 fun s' hI => ?_)
  · obtain ⟨y, hy, he⟩ := turn i k v s' e hI
    refine ⟨y, hy, wpAny_mono he (fun _ _ z => z) fun _ _ z => ?_⟩
    exact z
  · refine wpAny_pure ⟨?_, ?_⟩
    · exact fun x => nomatch x
    · simpa using h s' hI
end
end PySem.W
namespace Ys
open PySem PySem.Spec PyProof.Rows L2
/-! ### == of kept dicts whose values have an == of their own -/
section
variable {X : Cx} {n m : Nat} {D D' : Eqv} {K : PySem.W.Frag}
def DSame : Eqv := fun x y _ => ∃ a, x = .ref a ∧ y = .ref a
theorem mon_same : Mon DSame := fun _ _ _ _ _ d => d
theorem eqG_same : EqG X 0 DSame := by
  intro A pins s σ H x y u v sb I rx ry d
  obtain ⟨a, rfl, rfl⟩ := d
  cases rx
  cases ry
  exact SeqAt.EqAt.same (A := A) (s := s) (.ref a) X.prog X.w X.xe _ ⟨rfl, H, I, Ext.rfl'⟩
def DData (K : PySem.W.Frag) : Eqv := fun x y H => ∃ d, Dp K H x d ∧ Dp K H y d ∧ SeqAt.shaped d = true ∧ PyData.eqv d d = true
mutual
theorem dp_ext {H H' : Hp} (e : Ext H H') : ∀ (d : PyData) (v : V), Dp K H v d → Dp K H' v d
  | .none, _, h => by cases h; exact .non
  | .bool b, _, h => by cases h; exact .bl b
  | .int i, _, h => by cases h; exact .int i
  | .str x, _, h => by cases h; exact .str x
  | .list ds, _, h => by
    cases h with
    | lst hs ha => exact .lst (hs.ext e) (dpAll_ext e ds _ ha)
  | .tuple ds, _, h => by
    cases h with
    | tup hs ha => exact .tup (hs.ext e) (dpAll_ext e ds _ ha)
  | .dict _, _, h => by cases h
theorem dpAll_ext {H H' : Hp} (e : Ext H H') : ∀ (ds : List PyData) (vs : List V), DpAll K H vs ds → DpAll K H' vs ds
  | [], _, h => by cases h; exact .nil
  | d :: ds, _, h => by
    cases h with
    | cons h1 h2 => exact .cons (dp_ext e d _ h1) (dpAll_ext e ds _ h2)
end
theorem mon_data : Mon (DData K) := fun x y H H' e ⟨d, h1, h2, h3⟩ => ⟨d, dp_ext e d x h1, dp_ext e d y h2, h3⟩
theorem eqG_data : EqG X 0 (DData X.K) := by
  intro A pins s σ H x y u v sb I rx ry ⟨d, h1, h2, h3, h4⟩
  obtain ⟨as, r1⟩ := Dp.reads I d x u h1 rx
  obtain ⟨bs, r2⟩ := Dp.reads I d y v h2 ry
  have hu := sb.room.un
  have := SeqAt.eqAt_reads d d A s u v as bs r1 r2 (SeqAt.canLay_of_shaped h3) (SeqAt.canLay_of_shaped h3) (SeqAt.room_of_shaped h3 (by omega))
  rw [h4] at this
  exact this X.prog X.w X.xe _ ⟨rfl, H, I, Ext.rfl'⟩
def DDict (D : Eqv) : Eqv := fun x y H => ∃ a b oa ob ks ls, x = .ref a ∧ y = .ref b ∧ H a = some (.frz oa (.dK ks)) ∧ H b = some (.frz ob (.dK ls)) ∧ ks.length = ls.length ∧ ∀ (i : Nat) (p : Key × V), ks[i]? = some p → ∃ u, valV ls p.1 = some u ∧ D p.2 u H
theorem mon_dict (hD : Mon D) : Mon (DDict D) := fun x y H H' e d => by
  obtain ⟨a, b, oa, ob, ks, ls, hx, hy, h1, h2, hl, p⟩ := d
  exact ⟨a, b, oa, ob, ks, ls, hx, hy, e _ _ h1, e _ _ h2, hl, fun i q hq => let ⟨u, e1, e2⟩ := p i q hq; ⟨u, e1, hD _ _ _ _ e e2⟩⟩
theorem rcG_dict (hD : Mon D) (h : EqG X n D) : RcG X (n + 1) (DDict D) := by
  intro A pins s σ H x y u v sb I rx ry d
  obtain ⟨a, b, oa, ob, ks, ls, rfl, rfl, ha, hb, hl, hp⟩ := d
  cases rx
  cases ry
  obtain ⟨ga, _, ya, va, ra, da⟩ := (show ObjOk X.prog X.w H s.heap a (.frz oa (.dK ks)) from I.hok a _ ha)
  obtain ⟨gb, _, yb, vb, rb, db⟩ := (show ObjOk X.prog X.w H s.heap b (.frz ob (.dK ls)) from I.hok b _ hb)
  refine PySem.W.rcG_dicts (knd := mixKind X.prog X.w) (fun s' => LoopI X pins σ H s') ya yb da db (fun s' q => ?_) (by rw [← ra.length, ← rb.length]; exact hl) sb.room.units0 (fun i k w s' e q => ?_) ⟨H, I, Ext.rfl'⟩ fun s' q => ⟨rfl, q⟩
  · obtain ⟨H1, I1, e1⟩ := q
    obtain ⟨g1, _⟩ := (show ObjOk X.prog X.w H1 s'.heap a (.frz oa (.dK ks)) from I1.hok a _ (e1 _ _ ha))
    obtain ⟨g2, _⟩ := (show ObjOk X.prog X.w H1 s'.heap b (.frz ob (.dK ls)) from I1.hok b _ (e1 _ _ hb))
    exact ⟨g1.trans ga.symm, g2.trans gb.symm⟩
  · obtain ⟨H1, I1, e1⟩ := q
    have hi : i < ks.length := by
      have := (List.getElem?_eq_some_iff.mp e).1
      rw [ra.length]; exact this
    obtain ⟨p, hpk⟩ : ∃ p, ks[i]? = some p := ⟨_, List.getElem?_eq_getElem hi⟩
    obtain ⟨w', hw, rw'⟩ := paired_get ra hpk
    rw [e] at hw
    obtain rfl : (k, w) = w' := Option.some.inj hw
    obtain ⟨rk, rv⟩ := rw'
    have rk : p.1 = k := rk
    obtain ⟨z, hz, hd⟩ := hp i p hpk
    have rr : RelO (some z) (valueAt vb p.1) := by rw [← hz]; exact rb.val p.1
    obtain ⟨y, hy, ry⟩ := rr.some_of
    refine ⟨y, by rw [← rk]; exact hy, ?_⟩
    refine wpAny_mono (h A.in1 pins s' σ H1 _ _ w y sb.in1 I1 rv ry (hD _ _ _ _ e1 hd)) (fun r s2 q => ?_) fun _ _ z => z
    obtain ⟨hr, H2, I2, e2⟩ := q
    exact ⟨hr, H2, I2, e1.trans e2⟩
theorem eqG_dict (hD : Mon D) (h : EqG X n D) : EqG X (n + 1) (DDict D) := (rcG_dict hD h).eqG fun _ _ _ d => let ⟨a, b, _, _, _, _, hx, hy, _⟩ := d; ⟨a, b, hx, hy⟩
theorem Zp.ext {G H H' : Hp} {M : List (Addr × HO)} (z : Zp G M H) (e : Ext H H') : Zp G M H' := ⟨fun a o h => e _ _ (z.sub a o h), fun i p o h => ⟨e _ _ (z.own i p o h).1, (z.own i p o h).2⟩, z.nd⟩
end
end Ys
/-! tuple(d): the keys of a dict -/
namespace PySem
open AutoSeq1 (wpAny_loadPart')
open PySem PySem.Spec PyProof.Rows
theorem meets_tuple_new_raw (d : Addr) (o : Obj) (es : Array DictEntry) (ep : Nat) (lo : (d == sysModules) = false) (hx : o.ExactDict) (hd : o.data = .dict es ep) (hsz : es.size ≤ sizeLine) :
    Meets (Builtin.«tuple.__new__» ⟨[.type "tuple", .ref d], []⟩)
      (fun A R s => A.handled = none ∧ s.heap.get? d = some o ∧ ∀ (h' : Heap) (tk : Nat) (acc : Array Value), (∀ b o', s.heap.get? b = some o' → h'.get? b = some o') → ItemsOf (fun i v => ∃ en : DictEntry, es[i]? = some en ∧ v = en.key) acc es.size →
        R (.ok (.ret (.ref h'.objs.size))) { s with heap := h'.push { cls := .type "tuple", data := .seq acc }, toks := tk }) :=
  .of_wp fun prog w A R s h => by
    obtain ⟨hp, g, dr, tk, os⟩ := s; obtain ⟨hh, ht, h⟩ := h
    have hsub := sub_tuple_self
    have hinit := init_tuple_lookup
    have hmh := madeHere_tuple
    have hT : Shared.TypeIs ⟨hp, g, dr, tk, os⟩ (.ref d) "dict" := ⟨o, ht, hx.1⟩
    wp_walk using wpAny_loadPart' ht, wpAny_typeOf hT, PySem.W.kdu_collect (A := A.in1) (L2.kdl_raw lo hx hd) (show A.in1.handled = none from hh) ht hsz
    intro h' tk' acc hk hi
    show wpAny _ _ (Builtin.Tuple.tupleExact acc.toList.toArray >>= fun v => ret v) _ _ _
    unfold Builtin.Tuple.tupleExact
    have e : acc.toList.toArray = acc := by simp
    refine wpAny_bind (wpAny_newObj_type ?_ (by show acc.toList.toArray.size ≤ sizeLine; rw [e, hi.1]; exact hsz))
    refine wpAny_pure ⟨_, rfl, ?_⟩
    rw [e]
    exact h h' tk' acc hk hi
end PySem
namespace PySem
open PySem PySem.Spec PyProof.Rows
section
variable {prog : Program} {w : World} {A : Around} {E : Value → Shared → Prop} {s : Shared}
theorem call_tuple_raw {d : Addr} {o : Obj} {es : Array DictEntry} {ep : Nat} {Q : Value → Shared → Prop} (hh : A.handled = none) (lo : (d == sysModules) = false) (ho : s.heap.get? d = some o) (hx : o.ExactDict) (hd : o.data = .dict es ep) (hsz : es.size ≤ sizeLine)
    (h : ∀ (h' : Heap) (tk : Nat) (acc : Array Value), (∀ b o', s.heap.get? b = some o' → h'.get? b = some o') → ItemsOf (fun i v => ∃ en : DictEntry, es[i]? = some en ∧ v = en.key) acc es.size → Q (.ref h'.objs.size) { s with heap := h'.push { cls := .type "tuple", data := .seq acc }, toks := tk }) :
    wpAny (model prog w) A (call (.type "tuple") [.ref d]) Q E s := by
  exact callType_new F.called_tuple (by decide) (F.typeCall_tuple_1 _) (F.newCall_tuple_1 _) (fun obj => F.args_object_init_2 obj _) F.entry_tuple_new
    (meets_tuple_new_raw d o es ep lo hx hd hsz) ⟨hh, ho, fun h' tk acc hk hi => ⟨⟨_, Heap.get?_push_size _ rfl, rfl⟩, h h' tk acc hk hi⟩⟩
end
end PySem
namespace Ys
open PySem PySem.Spec PyProof.Rows L2
section
variable {X : Cx} {K : PySem.W.Frag} {G H : Hp} {M : List (Addr × HO)} {d : Addr} {kvs : List (Key × V)} {Q : VK}
def rTupK : List V → Hp → VK → Prop := fun xs H Q => ∃ d kvs, xs = [.ref d] ∧ Rd H d (.dK kvs) ∧ ∀ p, H p = none → Q (.ref p) (upd H p (.tup (kvs.map fun q => kV q.1)))
theorem c_tupK (hc : X.calm = true) : CallR X (.type "tuple") rTupK := by
  intro pins s σ H xs us Q I r h
  obtain ⟨d, kvs, rfl, hd, q⟩ := h
  obtain ⟨u, rfl, rx⟩ := r.one
  cases rx
  obtain ⟨z, hs, vs, rv, o, es, ep, ho, hx, hdt, hk, hp, hn⟩ := (show ObjOk X.prog X.w H s.heap d (.dK kvs) from hd.ok I.hok)
  have l1 : es.size = vs.length := by rw [← hp.length]; exact Array.length_toList.symm
  have l2 : kvs.length = vs.length := rv.length
  refine call_tuple_raw (I.ok.hd hc) hs ho hx hdt (by omega) fun h' tk acc kp it => ?_
  have I1 : Inv X pins σ H { s with heap := h', toks := tk } := I.kept (t' := tk) kp
  have ks : Vals (kvs.map fun q => kV q.1) acc.toList := by
    have hl : acc.toList.length = vs.length := by rw [Array.length_toList, it.1]; exact l1
    refine vals_of_at (by rw [List.length_map]; omega) fun j x w h1 h2 => ?_
    obtain ⟨en, hen, hw⟩ := it.2 j w (by rw [← Array.getElem?_toList]; exact h2)
    have hj : j < vs.length := by have := (List.getElem?_eq_some_iff.mp h2).1; omega
    obtain ⟨k, y, hky⟩ : ∃ k y, vs[j]? = some (k, y) := ⟨_, _, List.getElem?_eq_getElem hj⟩
    have e1 : (kvs.map (·.1))[j]? = some k := by
      rw [KV.keys rv, List.getElem?_map, hky] <;> rfl
    have e2 : (kvs.map fun kv => kV kv.1)[j]? = some (kV k) := by
      have e3 : (kvs.map fun kv => kV kv.1) = (kvs.map (·.1)).map kV := by rw [List.map_map] <;> rfl
      rw [e3, List.getElem?_map, e1] <;> rfl
    rw [e2] at h1
    cases h1
    rw [hw]
    exact keyIs_rel (hp.get? (by rw [Array.getElem?_toList]; exact hen) hky).1
  have I2 : Inv X pins σ (upd H h'.objs.size (.tup (kvs.map fun q => kV q.1))) { s with heap := h'.push { cls := .type "tuple", data := .seq acc }, toks := tk } :=
    I1.laid (t' := tk) (fun b o e => Heap.get?_push_of_some _ e) (Nat.le_refl _) (show ObjOk X.prog X.w _ _ _ (.tup _) from ⟨by rw [List.length_map]; exact z, acc.toList, ks, by rw [Array.toArray_toList]; exact IsTup.new _ _⟩)
  exact ⟨.ref h'.objs.size, _, I2, rfl, q _ (I1.hok.fresh (Nat.le_refl _))⟩
def kcTupK (K : PySem.W.Frag) : List V → Hp → VK → Prop := fun xs H Q => rTupG K xs H Q ∨ rTupK xs H Q
theorem kc_tupK (hc : X.calm = true) (e : X.K = K := by rfl) : CallR X (.type "tuple") (kcTupK K) := (kc_tuple (K := K) e).or (c_tupK hc)
theorem z_tupK (z : Zp G M H) (h : FzD G d kvs) (q : ∀ p G1 H1, Zp G1 M H1 → Same G G1 → SqT K G1 p (kvs.map fun q => kV q.1) → Q (.ref p) H1) : kcTupK K [.ref d] H Q :=
  .inr ⟨d, kvs, rfl, h.rd z, fun p hp => q p _ _ (z.new hp _) (Same.new (z.free hp)) (SqT.of upd_same)⟩
end
end Ys
namespace LW
open PySem PySem.Spec PyProof.Rows L2 Ys
/-! ### names -/
structure Nm (K : PySem.W.Frag) (mg : Str → Option Value) : Prop where
  sys : SysIn K
  b_len : mg "len" = none
  b_int : mg "int" = none
  b_list : mg "list" = none
  b_tuple : mg "tuple" = none
  b_set : mg "set" = none
  b_dict : mg "dict" = none
  b_str : mg "str" = none
  b_bool : mg "bool" = none
  b_sorted : mg "sorted" = none
  b_min : mg "min" = none
  b_max : mg "max" = none
  b_sum : mg "sum" = none
  b_all : mg "all" = none
  b_any : mg "any" = none
  b_repr : mg "repr" = none
  b_range : mg "range" = none
  b_isinstance : mg "isinstance" = none
  g_LETTERS : GC mg "LETTERS" (.str "abcdefghijklmnopqrstuvwxyz")
  g_LONGEST_WORD : GC mg "LONGEST_WORD" (.int 8)
  g_DONE : GC mg "DONE" (.ref (gA "DONE" K))
  g_LEAST : GC mg "LEAST" (.ref (gA "LEAST" K))
  g_MOST : GC mg "MOST" (.ref (gA "MOST" K))
  d_DONE : ∀ G, SqT K G (gA "DONE" K) [.str "then"]
  g_KINDS : GC mg "KINDS" (.int 3)
  g_ROLES : GC mg "ROLES" (.int 4)
  g_TASKS : GC mg "TASKS" (.int 8)
  g_REMEMBERED : GC mg "REMEMBERED" (.int 3)
  g_WIDTH : GC mg "WIDTH" (.int 5)
  g_MANY : GC mg "MANY" (.int 3)
  g_NAMES : GC mg "NAMES" (.int 16)
  g_LEVELS : GC mg "LEVELS" (.int 5)
abbrev FnP (K : PySem.W.Frag) (x : Str) (st : Stmt) (f : Addr) (fd : FuncData) : Prop := FunD K x x (defArgs st) (defBody st) (defScope st) [] [] f fd
/-! ### the defs -/
abbrev N_wall : List Str := ["k"]
theorem sc_wall : FnScope N_wall ["k"] (defScope s_wall) := ⟨rfl, rfl, rfl, by decide +kernel, rfl, by decide +kernel, by decide +kernel⟩
abbrev N_is_word : List Str := ["value", "letter"]
theorem sc_is_word : FnScope N_is_word ["value"] (defScope s_is_word) := ⟨rfl, rfl, rfl, by decide +kernel, rfl, by decide +kernel, by decide +kernel⟩
abbrev N_is_integer : List Str := ["value"]
theorem sc_is_integer : FnScope N_is_integer ["value"] (defScope s_is_integer) := ⟨rfl, rfl, rfl, by decide +kernel, rfl, by decide +kernel, by decide +kernel⟩
abbrev N_is_within : List Str := ["value", "least", "most"]
theorem sc_is_within : FnScope N_is_within ["value", "least", "most"] (defScope s_is_within) := ⟨rfl, rfl, rfl, by decide +kernel, rfl, by decide +kernel, by decide +kernel⟩
abbrev N_is_list : List Str := ["value"]
theorem sc_is_list : FnScope N_is_list ["value"] (defScope s_is_list) := ⟨rfl, rfl, rfl, by decide +kernel, rfl, by decide +kernel, by decide +kernel⟩
abbrev N_are_words : List Str := ["value", "most", "word"]
theorem sc_are_words : FnScope N_are_words ["value", "most"] (defScope s_are_words) := ⟨rfl, rfl, rfl, by decide +kernel, rfl, by decide +kernel, by decide +kernel⟩
abbrev N_are_different_words : List Str := ["value", "most"]
theorem sc_are_different_words : FnScope N_are_different_words ["value", "most"] (defScope s_are_different_words) := ⟨rfl, rfl, rfl, by decide +kernel, rfl, by decide +kernel, by decide +kernel⟩
abbrev N_ascending : List Str := ["words"]
theorem sc_ascending : FnScope N_ascending ["words"] (defScope s_ascending) := ⟨rfl, rfl, rfl, by decide +kernel, rfl, by decide +kernel, by decide +kernel⟩
abbrev N_is_formed : List Str := ["value", "most"]
theorem sc_is_formed : FnScope N_is_formed ["value"] (defScope s_is_formed) := ⟨rfl, rfl, rfl, by decide +kernel, rfl, by decide +kernel, by decide +kernel⟩
abbrev N_wrong_part : List Str := ["value", "is_beside", "part", "found"]
theorem sc_wrong_part : FnScope N_wrong_part ["value", "is_beside"] (defScope s_wrong_part) := ⟨rfl, rfl, rfl, by decide +kernel, rfl, by decide +kernel, by decide +kernel⟩
abbrev N_sequence : List Str := ["parts", "found", "part"]
theorem sc_sequence : FnScope N_sequence ["parts"] (defScope s_sequence) := ⟨rfl, rfl, rfl, by decide +kernel, rfl, by decide +kernel, by decide +kernel⟩
abbrev N_alongside : List Str := ["one", "other"]
theorem sc_alongside : FnScope N_alongside ["one", "other"] (defScope s_alongside) := ⟨rfl, rfl, rfl, by decide +kernel, rfl, by decide +kernel, by decide +kernel⟩
abbrev N_normal_form : List Str := ["plan", "parts", "part"]
theorem sc_normal_form : FnScope N_normal_form ["plan"] (defScope s_normal_form) := ⟨rfl, rfl, rfl, by decide +kernel, rfl, by decide +kernel, by decide +kernel⟩
abbrev N_normal : List Str := ["plan", "found"]
theorem sc_normal : FnScope N_normal ["plan"] (defScope s_normal) := ⟨rfl, rfl, rfl, by decide +kernel, rfl, by decide +kernel, by decide +kernel⟩
abbrev N_name_list : List Str := ["plan", "found", "part"]
theorem sc_name_list : FnScope N_name_list ["plan"] (defScope s_name_list) := ⟨rfl, rfl, rfl, by decide +kernel, rfl, by decide +kernel, by decide +kernel⟩
abbrev N_names_in : List Str := ["plan"]
theorem sc_names_in : FnScope N_names_in ["plan"] (defScope s_names_in) := ⟨rfl, rfl, rfl, by decide +kernel, rfl, by decide +kernel, by decide +kernel⟩
abbrev N_world_choices : List Str := ["plan", "found", "part"]
theorem sc_world_choices : FnScope N_world_choices ["plan"] (defScope s_world_choices) := ⟨rfl, rfl, rfl, by decide +kernel, rfl, by decide +kernel, by decide +kernel⟩
abbrev N_choices : List Str := ["plan"]
theorem sc_choices : FnScope N_choices ["plan"] (defScope s_choices) := ⟨rfl, rfl, rfl, by decide +kernel, rfl, by decide +kernel, by decide +kernel⟩
abbrev N_plan_text : List Str := ["plan", "part"]
theorem sc_plan_text : FnScope N_plan_text ["plan"] (defScope s_plan_text) := ⟨rfl, rfl, rfl, by decide +kernel, rfl, by decide +kernel, by decide +kernel⟩
abbrev N_PlanReader_init : List Str := ["self", "text"]
theorem sc_PlanReader_init : FnScope N_PlanReader_init ["self", "text"] (defScope s_PlanReader_init) := ⟨rfl, rfl, rfl, by decide +kernel, rfl, by decide +kernel, by decide +kernel⟩
abbrev N_PlanReader_sign : List Str := ["self"]
theorem sc_PlanReader_sign : FnScope N_PlanReader_sign ["self"] (defScope s_PlanReader_sign) := ⟨rfl, rfl, rfl, by decide +kernel, rfl, by decide +kernel, by decide +kernel⟩
abbrev N_PlanReader_mark : List Str := ["self", "sign"]
theorem sc_PlanReader_mark : FnScope N_PlanReader_mark ["self", "sign"] (defScope s_PlanReader_mark) := ⟨rfl, rfl, rfl, by decide +kernel, rfl, by decide +kernel, by decide +kernel⟩
abbrev N_PlanReader_word : List Str := ["self", "begin"]
theorem sc_PlanReader_word : FnScope N_PlanReader_word ["self"] (defScope s_PlanReader_word) := ⟨rfl, rfl, rfl, by decide +kernel, rfl, by decide +kernel, by decide +kernel⟩
abbrev N_PlanReader_begin : List Str := ["self", "word", "is_inner", "parts"]
theorem sc_PlanReader_begin : FnScope N_PlanReader_begin ["self"] (defScope s_PlanReader_begin) := ⟨rfl, rfl, rfl, by decide +kernel, rfl, by decide +kernel, by decide +kernel⟩
abbrev N_PlanReader_close : List Str := ["self"]
theorem sc_PlanReader_close : FnScope N_PlanReader_close ["self"] (defScope s_PlanReader_close) := ⟨rfl, rfl, rfl, by decide +kernel, rfl, by decide +kernel, by decide +kernel⟩
abbrev N_PlanReader_go_on : List Str := ["self", "found", "parts", "many"]
theorem sc_PlanReader_go_on : FnScope N_PlanReader_go_on ["self", "found"] (defScope s_PlanReader_go_on) := ⟨rfl, rfl, rfl, by decide +kernel, rfl, by decide +kernel, by decide +kernel⟩
abbrev N_PlanReader_whole : List Str := ["self", "found"]
theorem sc_PlanReader_whole : FnScope N_PlanReader_whole ["self"] (defScope s_PlanReader_whole) := ⟨rfl, rfl, rfl, by decide +kernel, rfl, by decide +kernel, by decide +kernel⟩
abbrev N_read_plan : List Str := ["text"]
theorem sc_read_plan : FnScope N_read_plan ["text"] (defScope s_read_plan) := ⟨rfl, rfl, rfl, by decide +kernel, rfl, by decide +kernel, by decide +kernel⟩
abbrev N_Task_init : List Str := ["self", "role", "many", "other", "same", "takes", "forgets", "field", "names"]
theorem sc_Task_init : FnScope N_Task_init ["self", "role", "many", "other", "same", "takes", "forgets"] (defScope s_Task_init) := ⟨rfl, rfl, rfl, by decide +kernel, rfl, by decide +kernel, by decide +kernel⟩
abbrev N_Task_role : List Str := ["self"]
theorem sc_Task_role : FnScope N_Task_role ["self"] (defScope s_Task_role) := ⟨rfl, rfl, rfl, by decide +kernel, rfl, by decide +kernel, by decide +kernel⟩
abbrev N_Task_many : List Str := ["self"]
theorem sc_Task_many : FnScope N_Task_many ["self"] (defScope s_Task_many) := ⟨rfl, rfl, rfl, by decide +kernel, rfl, by decide +kernel, by decide +kernel⟩
abbrev N_Task_other : List Str := ["self"]
theorem sc_Task_other : FnScope N_Task_other ["self"] (defScope s_Task_other) := ⟨rfl, rfl, rfl, by decide +kernel, rfl, by decide +kernel, by decide +kernel⟩
abbrev N_Task_same : List Str := ["self"]
theorem sc_Task_same : FnScope N_Task_same ["self"] (defScope s_Task_same) := ⟨rfl, rfl, rfl, by decide +kernel, rfl, by decide +kernel, by decide +kernel⟩
abbrev N_Task_takes : List Str := ["self"]
theorem sc_Task_takes : FnScope N_Task_takes ["self"] (defScope s_Task_takes) := ⟨rfl, rfl, rfl, by decide +kernel, rfl, by decide +kernel, by decide +kernel⟩
abbrev N_Task_forgets : List Str := ["self"]
theorem sc_Task_forgets : FnScope N_Task_forgets ["self"] (defScope s_Task_forgets) := ⟨rfl, rfl, rfl, by decide +kernel, rfl, by decide +kernel, by decide +kernel⟩
abbrev N_Task_likeness : List Str := ["self", "lists"]
theorem sc_Task_likeness : FnScope N_Task_likeness ["self"] (defScope s_Task_likeness) := ⟨rfl, rfl, rfl, by decide +kernel, rfl, by decide +kernel, by decide +kernel⟩
abbrev N_Task_eq : List Str := ["self", "other"]
theorem sc_Task_eq : FnScope N_Task_eq ["self", "other"] (defScope s_Task_eq) := ⟨rfl, rfl, rfl, by decide +kernel, rfl, by decide +kernel, by decide +kernel⟩
abbrev N_remembered_in : List Str := ["tasks", "task", "name"]
theorem sc_remembered_in : FnScope N_remembered_in ["tasks"] (defScope s_remembered_in) := ⟨rfl, rfl, rfl, by decide +kernel, rfl, by decide +kernel, by decide +kernel⟩
abbrev N_width_of : List Str := ["tasks", "found", "name", "numbers", "title", "task", "number"]
theorem sc_width_of : FnScope N_width_of ["tasks"] (defScope s_width_of) := ⟨rfl, rfl, rfl, by decide +kernel, rfl, by decide +kernel, by decide +kernel⟩
abbrev N_need_tasks : List Str := ["tasks"]
theorem sc_need_tasks : FnScope N_need_tasks ["tasks"] (defScope s_need_tasks) := ⟨rfl, rfl, rfl, by decide +kernel, rfl, by decide +kernel, by decide +kernel⟩
abbrev N_task_line : List Str := ["name", "task", "words", "lists", "title", "names"]
theorem sc_task_line : FnScope N_task_line ["name", "task"] (defScope s_task_line) := ⟨rfl, rfl, rfl, by decide +kernel, rfl, by decide +kernel, by decide +kernel⟩
abbrev N_is_ascending : List Str := ["words"]
theorem sc_is_ascending : FnScope N_is_ascending ["words"] (defScope s_is_ascending) := ⟨rfl, rfl, rfl, by decide +kernel, rfl, by decide +kernel, by decide +kernel⟩
abbrev N_sections : List Str := ["words", "word", "found", "last"]
theorem sc_sections : FnScope N_sections ["words"] (defScope s_sections) := ⟨rfl, rfl, rfl, by decide +kernel, rfl, by decide +kernel, by decide +kernel⟩
abbrev N_task_in : List Str := ["line", "words", "found", "lists", "task", "role", "many", "other", "same", "takes", "forgets", "title", "names"]
theorem sc_task_in : FnScope N_task_in ["line"] (defScope s_task_in) := ⟨rfl, rfl, rfl, by decide +kernel, rfl, by decide +kernel, by decide +kernel⟩
abbrev N_kind_in : List Str := ["line", "words"]
theorem sc_kind_in : FnScope N_kind_in ["line"] (defScope s_kind_in) := ⟨rfl, rfl, rfl, by decide +kernel, rfl, by decide +kernel, by decide +kernel⟩
abbrev N_count_in : List Str := ["plan", "part"]
theorem sc_count_in : FnScope N_count_in ["plan"] (defScope s_count_in) := ⟨rfl, rfl, rfl, by decide +kernel, rfl, by decide +kernel, by decide +kernel⟩
abbrev N_depth_in : List Str := ["plan", "part"]
theorem sc_depth_in : FnScope N_depth_in ["plan"] (defScope s_depth_in) := ⟨rfl, rfl, rfl, by decide +kernel, rfl, by decide +kernel, by decide +kernel⟩
abbrev N_plan_in : List Str := ["line", "is_bound", "plan"]
theorem sc_plan_in : FnScope N_plan_in ["line"] (defScope s_plan_in) := ⟨rfl, rfl, rfl, by decide +kernel, rfl, by decide +kernel, by decide +kernel⟩
abbrev N_is_bounded : List Str := ["tasks"]
theorem sc_is_bounded : FnScope N_is_bounded ["tasks"] (defScope s_is_bounded) := ⟨rfl, rfl, rfl, by decide +kernel, rfl, by decide +kernel, by decide +kernel⟩
abbrev N_is_next : List Str := ["names", "name", "other"]
theorem sc_is_next : FnScope N_is_next ["names", "name"] (defScope s_is_next) := ⟨rfl, rfl, rfl, by decide +kernel, rfl, by decide +kernel, by decide +kernel⟩
abbrev N_parts_of_book : List Str := ["lines", "kinds", "tasks", "index", "line", "kind", "task", "plan", "name"]
theorem sc_parts_of_book : FnScope N_parts_of_book ["lines"] (defScope s_parts_of_book) := ⟨rfl, rfl, rfl, by decide +kernel, rfl, by decide +kernel, by decide +kernel⟩
abbrev N_are_kinds : List Str := ["value", "kind"]
theorem sc_are_kinds : FnScope N_are_kinds ["value"] (defScope s_are_kinds) := ⟨rfl, rfl, rfl, by decide +kernel, rfl, by decide +kernel, by decide +kernel⟩
abbrev N_are_tasks : List Str := ["value", "name"]
theorem sc_are_tasks : FnScope N_are_tasks ["value"] (defScope s_are_tasks) := ⟨rfl, rfl, rfl, by decide +kernel, rfl, by decide +kernel, by decide +kernel⟩
abbrev N_count_names : List Str := ["plan", "part"]
theorem sc_count_names : FnScope N_count_names ["plan"] (defScope s_count_names) := ⟨rfl, rfl, rfl, by decide +kernel, rfl, by decide +kernel, by decide +kernel⟩
abbrev N_levels_of : List Str := ["plan", "part"]
theorem sc_levels_of : FnScope N_levels_of ["plan"] (defScope s_levels_of) := ⟨rfl, rfl, rfl, by decide +kernel, rfl, by decide +kernel, by decide +kernel⟩
abbrev N_plan_for : List Str := ["plan", "tasks", "found", "name"]
theorem sc_plan_for : FnScope N_plan_for ["plan", "tasks"] (defScope s_plan_for) := ⟨rfl, rfl, rfl, by decide +kernel, rfl, by decide +kernel, by decide +kernel⟩
abbrev N_in_order : List Str := ["pairs", "key"]
theorem sc_in_order : FnScope N_in_order ["pairs"] (defScope s_in_order) := ⟨rfl, rfl, rfl, by decide +kernel, rfl, by decide +kernel, by decide +kernel⟩
abbrev N_Book_init : List Str := ["self", "kinds", "tasks", "plan", "kind"]
theorem sc_Book_init : FnScope N_Book_init ["self", "kinds", "tasks", "plan"] (defScope s_Book_init) := ⟨rfl, rfl, rfl, by decide +kernel, rfl, by decide +kernel, by decide +kernel⟩
abbrev N_Book_read : List Str := ["cls", "text", "kinds", "tasks", "plan"]
theorem sc_Book_read : FnScope N_Book_read ["cls", "text"] (defScope s_Book_read) := ⟨rfl, rfl, rfl, by decide +kernel, rfl, by decide +kernel, by decide +kernel⟩
abbrev N_Book_kinds : List Str := ["self"]
theorem sc_Book_kinds : FnScope N_Book_kinds ["self"] (defScope s_Book_kinds) := ⟨rfl, rfl, rfl, by decide +kernel, rfl, by decide +kernel, by decide +kernel⟩
abbrev N_Book_names : List Str := ["self"]
theorem sc_Book_names : FnScope N_Book_names ["self"] (defScope s_Book_names) := ⟨rfl, rfl, rfl, by decide +kernel, rfl, by decide +kernel, by decide +kernel⟩
abbrev N_Book_remembered : List Str := ["self"]
theorem sc_Book_remembered : FnScope N_Book_remembered ["self"] (defScope s_Book_remembered) := ⟨rfl, rfl, rfl, by decide +kernel, rfl, by decide +kernel, by decide +kernel⟩
abbrev N_Book_width : List Str := ["self"]
theorem sc_Book_width : FnScope N_Book_width ["self"] (defScope s_Book_width) := ⟨rfl, rfl, rfl, by decide +kernel, rfl, by decide +kernel, by decide +kernel⟩
abbrev N_Book_plan : List Str := ["self"]
theorem sc_Book_plan : FnScope N_Book_plan ["self"] (defScope s_Book_plan) := ⟨rfl, rfl, rfl, by decide +kernel, rfl, by decide +kernel, by decide +kernel⟩
abbrev N_Book_plan_set : List Str := ["self", "plan"]
theorem sc_Book_plan_set : FnScope N_Book_plan_set ["self", "plan"] (defScope s_Book_plan_set) := ⟨rfl, rfl, rfl, by decide +kernel, rfl, by decide +kernel, by decide +kernel⟩
abbrev N_Book_set_plan : List Str := ["self", "plan"]
theorem sc_Book_set_plan : FnScope N_Book_set_plan ["self", "plan"] (defScope s_Book_set_plan) := ⟨rfl, rfl, rfl, by decide +kernel, rfl, by decide +kernel, by decide +kernel⟩
abbrev N_Book_take : List Str := ["self", "name"]
theorem sc_Book_take : FnScope N_Book_take ["self", "name"] (defScope s_Book_take) := ⟨rfl, rfl, rfl, by decide +kernel, rfl, by decide +kernel, by decide +kernel⟩
abbrev N_Book_copied : List Str := ["self"]
theorem sc_Book_copied : FnScope N_Book_copied ["self"] (defScope s_Book_copied) := ⟨rfl, rfl, rfl, by decide +kernel, rfl, by decide +kernel, by decide +kernel⟩
abbrev N_Book_text : List Str := ["self", "lines", "kind", "name"]
theorem sc_Book_text : FnScope N_Book_text ["self"] (defScope s_Book_text) := ⟨rfl, rfl, rfl, by decide +kernel, rfl, by decide +kernel, by decide +kernel⟩
abbrev N_Book_changed : List Str := ["self", "tasks", "found"]
theorem sc_Book_changed : FnScope N_Book_changed ["self", "tasks"] (defScope s_Book_changed) := ⟨rfl, rfl, rfl, by decide +kernel, rfl, by decide +kernel, by decide +kernel⟩
abbrev N_Book_iter : List Str := ["self"]
theorem sc_Book_iter : FnScope N_Book_iter ["self"] (defScope s_Book_iter) := ⟨rfl, rfl, rfl, by decide +kernel, rfl, by decide +kernel, by decide +kernel⟩
abbrev N_Book_len : List Str := ["self"]
theorem sc_Book_len : FnScope N_Book_len ["self"] (defScope s_Book_len) := ⟨rfl, rfl, rfl, by decide +kernel, rfl, by decide +kernel, by decide +kernel⟩
abbrev N_Book_contains : List Str := ["self", "value"]
theorem sc_Book_contains : FnScope N_Book_contains ["self", "value"] (defScope s_Book_contains) := ⟨rfl, rfl, rfl, by decide +kernel, rfl, by decide +kernel, by decide +kernel⟩
abbrev N_Book_getitem : List Str := ["self", "name"]
theorem sc_Book_getitem : FnScope N_Book_getitem ["self", "name"] (defScope s_Book_getitem) := ⟨rfl, rfl, rfl, by decide +kernel, rfl, by decide +kernel, by decide +kernel⟩
abbrev N_Book_setitem : List Str := ["self", "name", "task"]
theorem sc_Book_setitem : FnScope N_Book_setitem ["self", "name", "task"] (defScope s_Book_setitem) := ⟨rfl, rfl, rfl, by decide +kernel, rfl, by decide +kernel, by decide +kernel⟩
abbrev N_Book_ior : List Str := ["self", "tasks"]
theorem sc_Book_ior : FnScope N_Book_ior ["self", "tasks"] (defScope s_Book_ior) := ⟨rfl, rfl, rfl, by decide +kernel, rfl, by decide +kernel, by decide +kernel⟩
abbrev N_Book_add : List Str := ["self", "other"]
theorem sc_Book_add : FnScope N_Book_add ["self", "other"] (defScope s_Book_add) := ⟨rfl, rfl, rfl, by decide +kernel, rfl, by decide +kernel, by decide +kernel⟩
abbrev N_Book_or : List Str := ["self", "other"]
theorem sc_Book_or : FnScope N_Book_or ["self", "other"] (defScope s_Book_or) := ⟨rfl, rfl, rfl, by decide +kernel, rfl, by decide +kernel, by decide +kernel⟩
abbrev N_Book_eq : List Str := ["self", "other", "mine"]
theorem sc_Book_eq : FnScope N_Book_eq ["self", "other"] (defScope s_Book_eq) := ⟨rfl, rfl, rfl, by decide +kernel, rfl, by decide +kernel, by decide +kernel⟩
abbrev N_joined : List Str := ["word", "one", "other", "name"]
theorem sc_joined : FnScope N_joined ["word", "one", "other"] (defScope s_joined) := ⟨rfl, rfl, rfl, by decide +kernel, rfl, by decide +kernel, by decide +kernel⟩
abbrev N_law_pen : List Str := ["_law_script"]
theorem sc_law_pen : FnScope N_law_pen ["_law_script"] (defScope s_law_pen) := ⟨rfl, rfl, rfl, by decide +kernel, rfl, by decide +kernel, by decide +kernel⟩
abbrev N_law_draw : List Str := ["_law_pen_here", "_law_number", "_law_at", "_law_cell", "_law_mixed", "_law_digit"]
theorem sc_law_draw : FnScope N_law_draw ["_law_pen_here", "_law_number"] (defScope s_law_draw) := ⟨rfl, rfl, rfl, by decide +kernel, rfl, by decide +kernel, by decide +kernel⟩
abbrev N_law_pick : List Str := ["_law_pen_here", "_law_items"]
theorem sc_law_pick : FnScope N_law_pick ["_law_pen_here", "_law_items"] (defScope s_law_pick) := ⟨rfl, rfl, rfl, by decide +kernel, rfl, by decide +kernel, by decide +kernel⟩
abbrev N_law_row : List Str := ["_law_parts", "_law_found", "_law_part"]
theorem sc_law_row : FnScope N_law_row ["_law_parts"] (defScope s_law_row) := ⟨rfl, rfl, rfl, by decide +kernel, rfl, by decide +kernel, by decide +kernel⟩
abbrev N_law_two : List Str := ["_law_one", "_law_second"]
theorem sc_law_two : FnScope N_law_two ["_law_one", "_law_second"] (defScope s_law_two) := ⟨rfl, rfl, rfl, by decide +kernel, rfl, by decide +kernel, by decide +kernel⟩
abbrev N_law_form : List Str := ["_law_plan", "_law_parts", "_law_part"]
theorem sc_law_form : FnScope N_law_form ["_law_plan"] (defScope s_law_form) := ⟨rfl, rfl, rfl, by decide +kernel, rfl, by decide +kernel, by decide +kernel⟩
abbrev N_law_names : List Str := ["_law_plan", "_law_found", "_law_part"]
theorem sc_law_names : FnScope N_law_names ["_law_plan"] (defScope s_law_names) := ⟨rfl, rfl, rfl, by decide +kernel, rfl, by decide +kernel, by decide +kernel⟩
abbrev N_law_told : List Str := ["_law_call", "e"]
theorem sc_law_told : FnScope N_law_told ["_law_call"] (defScope s_law_told) := ⟨rfl, rfl, rfl, by decide +kernel, rfl, by decide +kernel, by decide +kernel⟩
abbrev N_law_levels : List Str := ["_law_plan", "_law_found", "_law_part"]
theorem sc_law_levels : FnScope N_law_levels ["_law_plan"] (defScope s_law_levels) := ⟨rfl, rfl, rfl, by decide +kernel, rfl, by decide +kernel, by decide +kernel⟩
abbrev N_law_due : List Str := ["_law_plan", "_law_known", "_law_form_here", "_law_strange", "_law_name"]
theorem sc_law_due : FnScope N_law_due ["_law_plan", "_law_known"] (defScope s_law_due) := ⟨rfl, rfl, rfl, by decide +kernel, rfl, by decide +kernel, by decide +kernel⟩
abbrev N_law_tall : List Str := ["_law_pen_here", "_law_part", "_law_levels_here", "_law_k"]
theorem sc_law_tall : FnScope N_law_tall ["_law_pen_here", "_law_part", "_law_levels_here"] (defScope s_law_tall) := ⟨rfl, rfl, rfl, by decide +kernel, rfl, by decide +kernel, by decide +kernel⟩
abbrev N_law : List Str := ["_law_script", "_law_pen_here", "_law_known", "_law_again", "_law_long", "_law_left", "_law_number", "_law_part", "_law_plan", "_law_due_here", "_law_wrong", "_law_spoilt", "_law_book", "_law_names_here", "_law_word", "_law_k"]
theorem sc_law : FnScope N_law ["_law_script"] (defScope s_law) := ⟨rfl, rfl, rfl, by decide +kernel, rfl, by decide +kernel, by decide +kernel⟩
/-! ### the pen -/
def penO (L : Addr) (spot rest : Int) : HO := .dK [(.inr ("cells" : Str), .ref L), (.inr ("place" : Str), .int spot), (.inr ("rest" : Str), .int rest)]
def Pen (K : PySem.W.Frag) (G : Hp) (b : Nat) (o : HO) : Prop := ∃ (L : Addr) (spot rest : Int) (cells : List Int), o = penO L spot rest ∧ SqL K G L (cells.map V.int) ∧ cells.length ≤ 63 ∧ 0 ≤ spot ∧ spot ≤ b ∧ 0 ≤ rest
theorem Pen.up {K : PySem.W.Frag} {G G1 : Hp} {b : Nat} {o : HO} (s : Same G G1) (p : Pen K G b o) : Pen K G1 b o := by
  obtain ⟨L, sp, r, cs, e, h, x⟩ := p
  exact ⟨L, sp, r, cs, e, upL s h, x⟩
theorem Pen.mono {K : PySem.W.Frag} {G : Hp} {b c : Nat} {o : HO} (h : b ≤ c) (p : Pen K G b o) : Pen K G c o := by
  obtain ⟨L, sp, r, cs, e, h1, h2, h3, h4, h5⟩ := p
  exact ⟨L, sp, r, cs, e, h1, h2, h3, by omega, h5⟩
theorem k_cr : ¬ (Sum.inr ("cells" : Str) : Key) = Sum.inr ("rest" : Str) := by decide +kernel
theorem k_sr : ¬ (Sum.inr ("place" : Str) : Key) = Sum.inr ("rest" : Str) := by decide +kernel
theorem k_cs : ¬ (Sum.inr ("cells" : Str) : Key) = Sum.inr ("place" : Str) := by decide +kernel
theorem k_sc : ¬ (Sum.inr ("place" : Str) : Key) = Sum.inr ("cells" : Str) := by decide +kernel
theorem k_rs : ¬ (Sum.inr ("rest" : Str) : Key) = Sum.inr ("place" : Str) := by decide +kernel
theorem k_rc : ¬ (Sum.inr ("rest" : Str) : Key) = Sum.inr ("cells" : Str) := by decide +kernel
section
variable {L : Addr} {spot rest x : Int} {H : Hp} {P : Addr} {Q : VK} {G : Hp} {M : List (Addr × HO)} {R : Hp → Prop}
abbrev pk (L : Addr) (spot rest : Int) : List (Key × V) := [(.inr ("cells" : Str), .ref L), (.inr ("place" : Str), .int spot), (.inr ("rest" : Str), .int rest)]
theorem v_cells : valV (pk L spot rest) (.inr ("cells" : Str)) = some (.ref L) := valV_pos rfl
theorem v_spot : valV (pk L spot rest) (.inr ("place" : Str)) = some (.int spot) := by rw [valV_neg k_cs]; exact valV_pos rfl
theorem v_rest : valV (pk L spot rest) (.inr ("rest" : Str)) = some (.int rest) := by rw [valV_neg k_cr, valV_neg k_sr]; exact valV_pos rfl
theorem p_spot : putK (pk L spot rest) (.inr ("place" : Str)) (.int x) = pk L x rest := by
  have e1 : ¬ Str.ofString "cells" = Str.ofString "place" := by decide +kernel
  have e2 : ¬ Str.ofString "rest" = Str.ofString "place" := by decide +kernel
  simp [putK, e1, e2]
theorem p_rest : putK (pk L spot rest) (.inr ("rest" : Str)) (.int x) = pk L spot x := by
  have e1 : ¬ Str.ofString "cells" = Str.ofString "rest" := by decide +kernel
  have e2 : ¬ Str.ofString "place" = Str.ofString "rest" := by decide +kernel
  simp [putK, e1, e2]
def DgW (x y : V) (H : Hp) (Q : VK) : Prop := ∃ a v, x = V.ref a ∧ DGet H a y (some v) ∧ Q v H
def DpW (x y v : V) (H : Hp) (R : Hp → Prop) : Prop := ∃ a H4, x = V.ref a ∧ DPut H a y v H4 ∧ R H4
theorem z_dg {ta tb : TE} {σ : L2.St} (h : ta σ H fun x H1 => tb σ H1 fun y H2 => DgW x y H2 Q) : tDGet ta tb σ H Q := h
theorem g_cells (z : Zp G ((P, penO L spot rest) :: M) H) (q : Q (.ref L) H) : DgW (.ref P) (.str ("cells" : Str)) H Q :=
  ⟨P, _, rfl, by have := DGet.k (k := .inr ("cells" : Str)) (z.at_ 0 rfl); rw [v_cells] at this; exact this, q⟩
theorem g_spot (z : Zp G ((P, penO L spot rest) :: M) H) (q : Q (.int spot) H) : DgW (.ref P) (.str ("place" : Str)) H Q :=
  ⟨P, _, rfl, by have := DGet.k (k := .inr ("place" : Str)) (z.at_ 0 rfl); rw [v_spot] at this; exact this, q⟩
theorem g_rest (z : Zp G ((P, penO L spot rest) :: M) H) (q : Q (.int rest) H) : DgW (.ref P) (.str ("rest" : Str)) H Q :=
  ⟨P, _, rfl, by have := DGet.k (k := .inr ("rest" : Str)) (z.at_ 0 rfl); rw [v_rest] at this; exact this, q⟩
theorem s_spot (z : Zp G ((P, penO L spot rest) :: M) H) (q : ∀ H1, Zp G ((P, penO L x rest) :: M) H1 → R H1) : DpW (.ref P) (.str ("place" : Str)) (.int x) H R :=
  ⟨P, _, rfl, DPut.k (k := .inr ("place" : Str)) (z.at_ 0 rfl) (by show 3 < sizeLine; decide), by rw [p_spot]; exact q _ (z.put 0 rfl _)⟩
theorem s_rest (z : Zp G ((P, penO L spot rest) :: M) H) (q : ∀ H1, Zp G ((P, penO L spot x) :: M) H1 → R H1) : DpW (.ref P) (.str ("rest" : Str)) (.int x) H R :=
  ⟨P, _, rfl, DPut.k (k := .inr ("rest" : Str)) (z.at_ 0 rfl) (by show 3 < sizeLine; decide), by rw [p_rest]; exact q _ (z.put 0 rfl _)⟩
theorem m_penput {D : Ends} {td ty tv : TE} {σ : L2.St} (h : tv σ H fun v H1 => td σ H1 fun x H2 => ty σ H2 fun y H3 => DpW x y v H3 (D.nx σ)) : sDPut td ty tv D σ H := h
end
end LW
open PySem PySem.Spec PyProof.Rows L2 Ys LW
local macro_rules | `(tactic| walk_at "z") => `(tactic| first
  | with_reducible refine z_seq ?_
  | with_reducible refine z_asg ?_
  | with_reducible refine z_name ?_
  | ((with_reducible apply z_var); (focus rfl))
  | with_reducible refine z_c ?_
  | with_reducible refine z_op ?_
  | with_reducible refine z_cons ?_
  | with_reducible refine z_nil ?_
  | with_reducible refine z_cb ?_
  | with_reducible refine z_call ?_
  | with_reducible refine z_ifS ?_
  | with_reducible refine z_ret ?_
  | with_reducible refine z_test ?_
  | with_reducible refine z_isB ?_
  | with_reducible refine z_tup ?_
  | with_reducible refine z_lst ?_
  | with_reducible refine z_I0 ?_
  | with_reducible refine z_addI ?_
  | with_reducible refine z_int ?_
  | with_reducible refine z_bT ?_
  | with_reducible refine z_bF ?_
  | with_reducible refine z_bN ?_
  | with_reducible refine z_and ?_
  | with_reducible refine z_or ?_
  | with_reducible refine z_not ?_
  | with_reducible refine z_if ?_
  | with_reducible refine z_andV ?_
  | with_reducible refine z_orV ?_
  | with_reducible refine z_notV ?_
  | with_reducible refine z_sl ?_
  | with_reducible refine z_np ?_
  | with_reducible refine z_part ?_
  | with_reducible refine z_isP ?_
  | with_reducible refine z_drop ?_
  | with_reducible refine z_next ?_
  | with_reducible refine z_retN ?_
  | with_reducible refine z_tB ?_
  | with_reducible refine z_bm ?_
  | with_reducible refine z_bm0 ?_
  | with_reducible refine z_m1 ?_
  | with_reducible refine z_isS ?_
  | with_reducible refine z_for ?_
  | with_reducible refine z_lc ?_
  | with_reducible refine z_yes ?_
  | with_reducible refine z_iL ?_
  | with_reducible refine z_iT ?_
  | with_reducible refine z_iS ?_
  | with_reducible refine z_iR ?_
  | with_reducible refine z_gcons ?_
  | with_reducible refine z_gnil ?_
  | with_reducible refine z_pr ?_
  | with_reducible refine z_pr2 ?_
  | with_reducible refine z_un ?_
  | with_reducible refine z_prop ?_
  | with_reducible refine z_mt ?_
  | with_reducible refine z_mk ?_
  | with_reducible refine z_fl ?_
  | with_reducible refine z_fs ?_
  | with_reducible refine z_chain ?_
  | with_reducible refine z_rs ?_
  | with_reducible refine z_mkS ?_
  | with_reducible refine z_gsub ?_
  | with_reducible refine z_iR2 ?_
  | with_reducible refine z_pc ?_
  | with_reducible refine z_pn ?_
  | with_reducible refine z_dg ?_
  | with_reducible refine z_star ?_
  | with_reducible refine z_callS ?_
  | with_reducible refine z_ownK ?_
  | with_reducible refine z_mtS ?_
  | with_reducible refine z_fa ?_
  | with_reducible refine z_frz ?_
  | with_reducible refine z_iK ?_
  | with_reducible refine z_iV ?_
  | with_reducible refine z_iI ?_
  | with_reducible refine z_din ?_
  | with_reducible refine z_dnin ?_
  | with_reducible refine z_dc ?_
  | with_reducible refine z_lc2 ?_
  | with_reducible refine m_penput ?_
  | with_reducible refine g_rest (by assumption) ?_
  | with_reducible refine g_spot (by assumption) ?_
  | with_reducible refine g_cells (by assumption) ?_
  | with_reducible refine s_spot (by assumption) ?_
  | with_reducible refine s_rest (by assumption) ?_)
local macro_rules | `(tactic| walk_at "y") => `(tactic| first
  | with_reducible refine z_asg ?_
  | with_reducible refine z_name ?_
  | ((with_reducible apply z_var); (focus rfl))
  | with_reducible refine z_c ?_
  | with_reducible refine z_op ?_
  | with_reducible refine z_cons ?_
  | with_reducible refine z_nil ?_
  | with_reducible refine z_cb ?_
  | with_reducible refine z_call ?_
  | with_reducible refine z_ifS ?_
  | with_reducible refine z_ret ?_
  | with_reducible refine z_test ?_
  | with_reducible refine z_isB ?_
  | with_reducible refine z_tup ?_
  | with_reducible refine z_lst ?_
  | with_reducible refine z_I0 ?_
  | with_reducible refine z_addI ?_
  | with_reducible refine z_int ?_
  | with_reducible refine z_bT ?_
  | with_reducible refine z_bF ?_
  | with_reducible refine z_bN ?_
  | with_reducible refine z_and ?_
  | with_reducible refine z_or ?_
  | with_reducible refine z_not ?_
  | with_reducible refine z_if ?_
  | with_reducible refine z_andV ?_
  | with_reducible refine z_orV ?_
  | with_reducible refine z_notV ?_
  | with_reducible refine z_sl ?_
  | with_reducible refine z_np ?_
  | with_reducible refine z_part ?_
  | with_reducible refine z_isP ?_
  | with_reducible refine z_drop ?_
  | with_reducible refine z_next ?_
  | with_reducible refine z_retN ?_
  | with_reducible refine z_tB ?_
  | with_reducible refine z_bm ?_
  | with_reducible refine z_bm0 ?_
  | with_reducible refine z_m1 ?_
  | with_reducible refine z_isS ?_
  | with_reducible refine z_for ?_
  | with_reducible refine z_lc ?_
  | with_reducible refine z_yes ?_
  | with_reducible refine z_iL ?_
  | with_reducible refine z_iT ?_
  | with_reducible refine z_iS ?_
  | with_reducible refine z_iR ?_
  | with_reducible refine z_gcons ?_
  | with_reducible refine z_gnil ?_
  | with_reducible refine z_pr ?_
  | with_reducible refine z_pr2 ?_
  | with_reducible refine z_un ?_
  | with_reducible refine z_prop ?_
  | with_reducible refine z_mt ?_
  | with_reducible refine z_mk ?_
  | with_reducible refine z_fl ?_
  | with_reducible refine z_fs ?_
  | with_reducible refine z_chain ?_
  | with_reducible refine z_rs ?_
  | with_reducible refine z_mkS ?_
  | with_reducible refine z_gsub ?_
  | with_reducible refine z_iR2 ?_
  | with_reducible refine z_pc ?_
  | with_reducible refine z_pn ?_
  | with_reducible refine z_dg ?_
  | with_reducible refine z_star ?_
  | with_reducible refine z_callS ?_
  | with_reducible refine z_ownK ?_
  | with_reducible refine z_mtS ?_
  | with_reducible refine z_fa ?_
  | with_reducible refine z_frz ?_
  | with_reducible refine z_iK ?_
  | with_reducible refine z_iV ?_
  | with_reducible refine z_iI ?_
  | with_reducible refine z_din ?_
  | with_reducible refine z_dnin ?_
  | with_reducible refine z_dc ?_
  | with_reducible refine z_lc2 ?_
  | with_reducible refine m_penput ?_
  | with_reducible refine g_rest (by assumption) ?_
  | with_reducible refine g_spot (by assumption) ?_
  | with_reducible refine g_cells (by assumption) ?_
  | with_reducible refine s_spot (by assumption) ?_
  | with_reducible refine s_rest (by assumption) ?_)
namespace LW
open PySem PySem.Spec PyProof.Rows L2 Ys
theorem can_ints : ∀ cells : List Int, PyData.canLayAll0 (cells.map PyData.int) = true
  | [] => rfl
  | c :: cs => by
    show (PyData.canLay0 (.int c) && PyData.canLayAll0 (cs.map PyData.int)) = true
    rw [can_ints cs]
    rfl
theorem dep_ints : ∀ cells : List Int, PyData.depthAll (cells.map PyData.int) ≤ 1
  | [] => by decide
  | c :: cs => by
    show max (PyData.depth (.int c)) (PyData.depthAll (cs.map PyData.int)) ≤ 1
    have := dep_ints cs
    have e : PyData.depth (.int c) = 0 := rfl
    omega
theorem sh_ints (cells : List Int) : SeqAt.shaped (.list (cells.map PyData.int)) = true := by
  unfold SeqAt.shaped
  have e : PyData.canLay0 (.list (cells.map PyData.int)) = true := can_ints cells
  have d : PyData.depth (.list (cells.map PyData.int)) = PyData.depthAll (cells.map PyData.int) + 1 := rfl
  rw [e, d]
  have := dep_ints cells
  simp
  omega
theorem cells_eq (cells : List Int) : PyData.eqv (.list (cells.map PyData.int)) (.list []) = decide (cells = []) := by
  cases cells with
  | nil => rfl
  | cons c cs => rfl
section
variable {P : Program} {w : World} {K : PySem.W.Frag} {mg : Str → Option Value} {base : Heap} {f : Addr} {fd : FuncData}
def spDraw (K : PySem.W.Frag) : Sp := fun vs H Q _ => ∃ p o G M b n, vs = [.ref p, .int n] ∧ Zp G ((p, o) :: M) H ∧ Pen K G b o ∧ b ≤ 1000000000000 ∧ 0 < n ∧ n ≤ 1000000000 ∧
  ∀ r G1 H1 o1, Zp G1 ((p, o1) :: M) H1 → Same G G1 → Pen K G1 (b + 1) o1 → 0 ≤ r → r < n → Q (.int r) H1
theorem ok_draw (T : Nm K mg) (F : FnP K "_law_draw" s_law_draw f fd) : FnOk P w K mg base CX0 1 f fd ["_law_pen_here", "_law_number"] (spDraw K) := by
  have nd : N_law_draw.Nodup := sc_law_draw.nd
  refine F.ok sc_law_draw (fun vs H Q E h => ?_) (fun cdv A outer s H vs Q E hr h => ?_)
  · obtain ⟨p, o, G, M, b, n, rfl, _⟩ := h
    rfl
  have hu := hr.units
  refine ⟨_, PSs.nox   (pss_cons (ps_if (pt_cmpR o_ge (pe_dget (hu_of hr) (pv 0) pe_str (fun _ _ => rfl)) (pv 1) (nomark _)) (pss_cons (ps_asg (pe_op o_mod (pe_callTy c_int (by rfl) T.b_int boot_int (pa_cons (pe_dget (hu_of hr) (pv 0) pe_str (fun _ _ => rfl)) pa_nil)) (pv 1)) (pg_name (i := 5) nd rfl (by first | exact .inl rfl | exact .inr rfl)))
    (pss_cons (ps_dput (hu_of hr) (pv 0) pe_str (pe_op o_div (pe_dget (hu_of hr) (pv 0) pe_str (fun _ _ => rfl)) (pv 1)) rfl)
    (pss_one (ps_ret (pv 5))))) pss_nil)
    (pss_cons (ps_asg (pe_dget (hu_of hr) (pv 0) pe_str (fun _ _ => rfl)) (pg_name (i := 2) nd rfl (by first | exact .inl rfl | exact .inr rfl)))
    (pss_cons (ps_dput (hu_of hr) (pv 0) pe_str (pe_op (k_add (K := K)) (pv 2) pe_int) rfl)
    (pss_cons (ps_asg (pe_op (k_add (K := K)) (pe_op o_mul pe_int (pv 2)) pe_int) (pg_name (i := 3) nd rfl (by first | exact .inl rfl | exact .inr rfl)))
    (pss_cons (ps_if (pt_cmpR (k_ne (K := K) hu) (pe_dget (hu_of hr) (pv 0) pe_str (fun _ _ => rfl)) (pe_lst pa_nil) (nomark _)) (pss_one (ps_asg (pe_ix (k_ix (K := K)) (pe_dget (hu_of hr) (pv 0) pe_str (fun _ _ => rfl)) (pe_op o_mod (pe_callTy c_int (by rfl) T.b_int boot_int (pa_cons (pv 2) pa_nil)) (pe_callB (kc_len (K := K) (P := P) (w := w)) (by rfl) T.b_len PySem.boot_len (pa_cons (pe_dget (hu_of hr) (pv 0) pe_str (fun _ _ => rfl)) pa_nil))) (fun _ _ => rfl)) (pg_name (i := 3) nd rfl (by first | exact .inl rfl | exact .inr rfl)))) pss_nil)
    (pss_cons (ps_if (PW.pt (pw_and (pt_cmpR o_lt (pv 2) (pe_callB (kc_len (K := K) (P := P) (w := w)) (by rfl) T.b_len PySem.boot_len (pa_cons (pe_dget (hu_of hr) (pv 0) pe_str (fun _ _ => rfl)) pa_nil)) (nomark _)) (pw_and1 (pt_cmpR o_ge (pv 3) (pe_op o_pow pe_int pe_int) (nomark _))))) (pss_cons (ps_dput (hu_of hr) (pv 0) pe_str (pe_op o_div (pe_op o_sub (pv 3) (pe_op o_pow pe_int pe_int)) (pv 1)) rfl)
    (pss_one (ps_ret (pe_op o_mod (pe_callTy c_int (by rfl) T.b_int boot_int (pa_cons (pe_op o_sub (pv 3) (pe_op o_pow pe_int pe_int)) pa_nil)) (pv 1))))) pss_nil)
    (pss_cons (ps_asg (pe_op o_mod (pe_callTy c_int (by rfl) T.b_int boot_int (pa_cons (pe_op (k_add (K := K)) (pe_op (k_add (K := K)) (pe_op (k_add (K := K)) (pe_op o_mul (pe_op o_mod (pe_callTy c_int (by rfl) T.b_int boot_int (pa_cons (pv 3) pa_nil)) pe_int) pe_int) (pe_op o_mul (pe_op o_mul pe_int (pv 2)) (pv 2))) (pe_op o_mul pe_int (pv 2))) pe_int) pa_nil)) pe_int) (pg_name (i := 4) nd rfl (by first | exact .inl rfl | exact .inr rfl)))
    (pss_cons (ps_asg (pe_op o_mod (pe_callTy c_int (by rfl) T.b_int boot_int (pa_cons (pe_op (k_add (K := K)) (pe_op o_mul (pv 4) (pe_op (k_add (K := K)) (pv 4) pe_int)) (pe_op o_mul pe_int (pv 2))) pa_nil)) pe_int) (pg_name (i := 4) nd rfl (by first | exact .inl rfl | exact .inr rfl)))
    (pss_one (ps_ret (pe_op o_mod (pe_callTy c_int (by rfl) T.b_int boot_int (pa_cons (pe_op o_div (pe_op o_mod (pe_callTy c_int (by rfl) T.b_int boot_int (pa_cons (pe_op (k_add (K := K)) (pe_op o_mul (pv 4) (pv 4)) (pe_op o_mul pe_int (pv 4))) pa_nil)) pe_int) pe_int) pa_nil)) (pv 1)))))))))))), ?_⟩
  obtain ⟨p, o, G, M, b, n, rfl, z, ⟨L, spot, rest, cells, rfl, hL, hc, h0, hb, hr0⟩, hb2, n0, n1, q⟩ := h
  repeat (walk_at "z")
  refine z_bd (fun hrn => ?_) (fun hrn => ?_)
  · repeat (walk_at "z")
    refine z_I n0 ?_
    repeat (walk_at "z")
    refine z_I (dw n0 n1) ?_
    repeat (walk_at "z")
    intro H1 z1
    repeat (walk_at "z")
    refine q _ G H1 _ z1 (Same.refl G) ⟨L, spot, rest / n, cells, rfl, hL, hc, h0, by omega, Int.ediv_nonneg hr0 (by omega)⟩ (Int.emod_nonneg _ (by omega)) (Int.emod_lt_of_pos _ n0)
  · repeat (walk_at "z")
    intro H1 z1
    repeat (walk_at "z")
    refine z_I (mw (by omega) (by omega) (by omega) (by omega)) ?_
    repeat (walk_at "y")
    with_reducible refine z_cut (fun σ H => ∃ cell G3, Zp G3 ((p, penO L (spot + 1) rest) :: M) H ∧ Same G G3 ∧ σ = [some (.ref p), some (.int n), some (.int spot), some (.int cell), none, none]) (fun nx hnx => ?_) (fun σ H2 h2 => ?_)
    · repeat (walk_at "z")
      refine z_newL z1 (by decide) fun p2 G2 H2 z2 s2 e2 => ?_
      have hL2 := upL s2 hL
      refine z_neD (d := .list (cells.map PyData.int)) (e := .list []) z2 (.lst hL2 (dts_int cells)) (.lst (SqL.of e2) .nil) (sh_ints _) rfl ?_
      repeat (walk_at "z")
      rw [cells_eq]
      refine z_bd (fun c => ?_) (fun c => ?_)
      · refine z_next (hnx _ _ ⟨_, _, z2, s2, rfl⟩)
      · have c0 : 0 < cells.length := by cases cells with | nil => exact absurd rfl c | cons _ _ => exact Nat.succ_pos _
        repeat (walk_at "z")
        refine z_lenL z2 hL2 ?_
        rw [List.length_map]
        refine z_I (by omega) ?_
        have hm := Int.emod_lt_of_pos spot (show (0 : Int) < cells.length by omega)
        have hm0 := Int.emod_nonneg spot (show (cells.length : Int) ≠ 0 by omega)
        obtain ⟨k, hk⟩ := Int.eq_ofNat_of_zero_le hm0
        refine z_ixL z2 hL2 (v := .int (cells.getD k 0)) ?_ ?_
        · rw [hk]
          refine atI_nat ?_
          have : k < cells.length := by omega
          simp [List.getD, this]
        repeat (walk_at "z")
        exact hnx _ _ ⟨_, _, z2, s2, rfl⟩
    obtain ⟨cell, G3, z3, s3, rfl⟩ := h2
    have hL3 := upL s3 hL
    have e18 : (10 : Int) ^ (18 : Int).toNat = 1000000000000000000 := by decide +kernel
    with_reducible refine z_cut (fun σ H => H = H2 ∧ σ = [some (.ref p), some (.int n), some (.int spot), some (.int cell), none, none]) (fun nx hnx => ?_) (fun σ H3 h3 => ?_)
    · repeat (walk_at "z")
      refine z_lenL z3 hL3 ?_
      repeat (walk_at "z")
      refine z_b2 (fun c1 => ?_) (fun c1 => ?_)
      · repeat (walk_at "z")
        refine z_I ⟨by decide, by decide, by decide⟩ ?_
        repeat (walk_at "z")
        rw [e18]
        refine z_bd (fun c2 => ?_) (fun c2 => ?_)
        · repeat (walk_at "z")
          refine z_I ⟨by decide, by decide, by decide⟩ ?_
          repeat (walk_at "z")
          rw [e18]
          refine z_I (dw n0 n1) ?_
          repeat (walk_at "z")
          intro H4 z4
          repeat (walk_at "z")
          refine z_I ⟨by decide, by decide, by decide⟩ ?_
          repeat (walk_at "z")
          refine z_I n0 ?_
          exact q _ G3 H4 _ z4 s3 ⟨L, spot + 1, _, cells, rfl, hL3, hc, by omega, by omega, Int.ediv_nonneg (by omega) (by omega)⟩ (Int.emod_nonneg _ (by omega)) (Int.emod_lt_of_pos _ n0)
        · exact hnx _ _ ⟨rfl, rfl⟩
      · repeat (walk_at "z")
        exact hnx _ _ ⟨rfl, rfl⟩
    obtain ⟨rfl, rfl⟩ := h3
    repeat (walk_at "z")
    refine z_I (by decide) ?_
    repeat (walk_at "z")
    refine z_I (mw (by omega) (by omega) (by omega) (by omega)) ?_
    repeat (walk_at "z")
    have h1 := Int.emod_nonneg cell (show (2147483543 : Int) ≠ 0 by decide)
    have h2 := Int.emod_lt_of_pos cell (show (0 : Int) < 2147483543 by decide)
    refine z_I (mw (by omega) (by omega) (by omega) (by omega)) ?_
    repeat (walk_at "z")
    refine z_I (wide_mul (a := 64) (b := 64) (by omega) (by omega) (by decide) (by decide) (by decide)) ?_
    repeat (walk_at "z")
    refine z_I (mw (by omega) (by omega) (by omega) (by omega)) ?_
    repeat (walk_at "z")
    refine z_I (by decide) ?_
    repeat (walk_at "z")
    generalize hm1 : (cell % 2147483543 * 48817 + 37021 * spot * spot + 71 * spot + 11) % 2147483477 = m1
    have a1 : 0 ≤ m1 := by rw [← hm1]; exact Int.emod_nonneg _ (by decide)
    have a2 : m1 < 2147483477 := by rw [← hm1]; exact Int.emod_lt_of_pos _ (by decide)
    refine z_I (mw (by omega) (by omega) (by omega) (by omega)) ?_
    repeat (walk_at "z")
    refine z_I (mw (by omega) (by omega) (by omega) (by omega)) ?_
    repeat (walk_at "z")
    refine z_I (by decide) ?_
    repeat (walk_at "z")
    generalize hm2 : (m1 * (m1 + 50021) + 9 * spot) % 2147483423 = m2
    have b1 : 0 ≤ m2 := by rw [← hm2]; exact Int.emod_nonneg _ (by decide)
    have b2 : m2 < 2147483423 := by rw [← hm2]; exact Int.emod_lt_of_pos _ (by decide)
    refine z_I (mw (by omega) (by omega) (by omega) (by omega)) ?_
    repeat (walk_at "z")
    refine z_I (mw (by omega) (by omega) (by omega) (by omega)) ?_
    repeat (walk_at "z")
    refine z_I (by decide) ?_
    repeat (walk_at "z")
    refine z_I (dw (by decide) (by decide)) ?_
    repeat (walk_at "z")
    refine z_I n0 ?_
    exact q _ G3 _ _ z3 s3 ⟨L, spot + 1, _, cells, rfl, hL3, hc, by omega, by omega, hr0⟩ (Int.emod_nonneg _ (by omega)) (Int.emod_lt_of_pos _ n0)
end
end LW
namespace LW
open PySem PySem.Spec PyProof.Rows L2 Ys

section
variable {P : Program} {w : World} {K : PySem.W.Frag} {mg : Str → Option Value} {base : Heap} {f : Addr} {fd : FuncData}
def spPen (K : PySem.W.Frag) : Sp := fun vs H Q _ => ∃ (a : Addr) (G : Hp) (ns : List Int), vs = [.ref a] ∧ Zp G [] H ∧ SqL K G a (ns.map V.int) ∧
  ∀ p G1 H1 o1, Zp G1 [(p, o1)] H1 → Same G G1 → Pen K G1 0 o1 → Q (.ref p) H1
theorem ok_pen (T : Nm K mg) (F : FnP K "_law_pen" s_law_pen f fd) : FnOk P w K mg base CX0 1 f fd ["_law_script"] (spPen K) := by
  have nd : N_law_pen.Nodup := sc_law_pen.nd
  refine F.ok sc_law_pen (fun vs H Q E h => ?_) (fun cdv A outer s H vs Q E hr h => ?_)
  · obtain ⟨a, G, ns, rfl, _⟩ := h
    rfl
  have hu := hr.units
  refine ⟨_, PSs.nox   (pss_one (ps_ret (pe_disp (pps_cons pe_str (pe_callTy (kc_list (K := K)) (by rfl) T.b_list boot_list (pa_cons (pe_slice (k_sl (K := K)) (pv 0) po_none (po_some pe_int)) pa_nil)) (pps_cons pe_str pe_int (pps_cons pe_str pe_int pps_nil))) (by rfl) (by rfl) (fun z => by cases z) (by decide)))), ?_⟩
  obtain ⟨a, G, ns, rfl, z, hS, q⟩ := h
  repeat (walk_at "z")
  refine z_disp z fun p H1 z1 => ?_
  repeat (walk_at "z")
  refine z_slL z1 hS fun a2 G2 H2 z2 s2 e2 => ?_
  rw [cut_map] at e2
  repeat (walk_at "z")
  refine z_listG z2 (.inl (SqL.of e2)) fun a3 G3 H3 z3 s3 e3 => ?_
  repeat (walk_at "z")
  refine z_dispE (M := []) z3 [(.inr ("cells" : Str), .ref a3), (.inr ("place" : Str), .int 0), (.inr ("rest" : Str), .int 0)] rfl (by show 3 ≤ 15; decide) fun H4 z4 => ?_
  refine q p G3 H4 _ z4 (s2.trans s3) ⟨a3, 0, 0, _, ?_, SqL.of e3, ?_, by decide, by decide, by decide⟩
  · have e1 : ¬ Str.ofString "cells" = Str.ofString "rest" := by decide +kernel
    have e2 : ¬ Str.ofString "place" = Str.ofString "rest" := by decide +kernel
    have e3 : ¬ Str.ofString "cells" = Str.ofString "place" := by decide +kernel
    simp [mergeK, putK, e1, e2, e3, penO]
  · rw [List.length_take]
    have : HT.sIx ns.length ns.length (some 63) = min 63 ns.length := HT.sIx_nat ns.length ns.length 63
    rw [this]
    omega
def spPick (K : PySem.W.Frag) : Sp := fun vs H Q _ => ∃ p o G M b x, vs = [.ref p, x] ∧ Zp G ((p, o) :: M) H ∧ Pen K G b o ∧ b ≤ 1000000000000 ∧
  ((∃ a xs, x = .ref a ∧ (SqL K G a xs ∨ SqT K G a xs) ∧ xs ≠ [] ∧ xs.length ≤ 100000 ∧ ∀ v G1 H1 o1, v ∈ xs → Zp G1 ((p, o1) :: M) H1 → Same G G1 → Pen K G1 (b + 1) o1 → Q v H1) ∨
   (∃ s : Str, x = .str s ∧ 0 < s.length ∧ s.length ≤ 100000 ∧ ∀ ch G1 H1 o1, ch ∈ s.cps.toList → Zp G1 ((p, o1) :: M) H1 → Same G G1 → Pen K G1 (b + 1) o1 → Q (.str ⟨#[ch]⟩) H1))
theorem ok_pick (T : Nm K mg) (C_law_draw : Own P w K mg base CX0 1 "_law_draw" ["_law_pen_here", "_law_number"] (spDraw K)) (F : FnP K "_law_pick" s_law_pick f fd) : FnOk P w K mg base CX0 2 f fd ["_law_pen_here", "_law_items"] (spPick K) := by
  have nd : N_law_pick.Nodup := sc_law_pick.nd
  refine F.ok sc_law_pick (fun vs H Q E h => ?_) (fun cdv A outer s H vs Q E hr h => ?_)
  · obtain ⟨p, o, G, M, b, x, rfl, _⟩ := h
    rfl
  have hu := hr.units
  refine ⟨_, PSs.nox   (pss_one (ps_ret (pe_ix (k_ix (K := K)) (pv 1) (pe_own C_law_draw (hr.mono (by omega)) (by rfl) pass0 (pa_cons (pv 0) (pa_cons (pe_callB (kc_len (K := K) (P := P) (w := w)) (by rfl) T.b_len PySem.boot_len (pa_cons (pv 1) pa_nil)) pa_nil))) (fun _ _ => rfl)))), ?_⟩
  obtain ⟨p, o, G, M, b, x, rfl, z, hp, hb, h⟩ := h
  repeat (walk_at "z")
  rcases h with ⟨a, xs, rfl, hS, h0, h1, q⟩ | ⟨t, rfl, h0, h1, q⟩
  · have h00 : 0 < xs.length := by cases xs with | nil => exact absurd rfl h0 | cons _ _ => exact Nat.succ_pos _
    rcases hS with hS | hS
    · refine z_lenL z hS ?_
      repeat (walk_at "z")
      refine ⟨p, o, G, M, b, _, rfl, z, hp, hb, by omega, by omega, fun r G1 H1 o1 z1 s1 hp1 r0 r1 => ?_⟩
      obtain ⟨v, hv, e⟩ := at_in r0 r1
      exact z_ixL z1 (upL s1 hS) e (q v G1 H1 o1 hv z1 s1 hp1)
    · refine z_lenT z hS ?_
      repeat (walk_at "z")
      refine ⟨p, o, G, M, b, _, rfl, z, hp, hb, by omega, by omega, fun r G1 H1 o1 z1 s1 hp1 r0 r1 => ?_⟩
      obtain ⟨v, hv, e⟩ := at_in r0 r1
      exact z_ixT z1 (upT s1 hS) e (q v G1 H1 o1 hv z1 s1 hp1)
  · refine z_lenS h1 ?_
    repeat (walk_at "z")
    refine ⟨p, o, G, M, b, _, rfl, z, hp, hb, by omega, by omega, fun r G1 H1 o1 z1 s1 hp1 r0 r1 => ?_⟩
    obtain ⟨v, hv, e⟩ := at_in (xs := t.cps.toList) r0 (by rw [Array.length_toList]; exact r1)
    exact z_ixS h1 e (q v G1 H1 o1 hv z1 s1 hp1)
end
end LW
namespace LW
open PySem PySem.Spec PyProof.Rows L2 Ys

section
variable {P : Program} {w : World} {K : PySem.W.Frag} {mg : Str → Option Value} {base : Heap} {f : Addr} {fd : FuncData}
abbrev OwnD (P : Program) (w : World) (K : PySem.W.Frag) (mg : Str → Option Value) (base : Heap) : Prop := Own P w K mg base CX0 1 "_law_draw" ["_law_pen_here", "_law_number"] (spDraw K)
abbrev OwnP (P : Program) (w : World) (K : PySem.W.Frag) (mg : Str → Option Value) (base : Heap) : Prop := Own P w K mg base CX0 2 "_law_pick" ["_law_pen_here", "_law_items"] (spPick K)
def spWords (K : PySem.W.Frag) : Sp := fun vs H Q _ => ∃ p o G M b, ∃ n : Nat, vs = [.ref p, .int n] ∧ Zp G ((p, o) :: M) H ∧ Pen K G b o ∧ b ≤ 100000000000 ∧ n ≤ 20 ∧
  ∀ l G1 H1 o1, ∀ ss : List Str, Zp G1 ((p, o1) :: M) H1 → Same G G1 → Pen K G1 (b + 10) o1 → G1 l = some (.lst (ss.map V.str)) → ss.length = n → (∀ s ∈ ss, Wd s) → Q (.ref l) H1
end
end LW
namespace LW
open PySem PySem.Spec PyProof.Rows L2 Ys

/-! ### what the words' functions tell -/
def abcL : List Nat := (("abcdefghijklmnopqrstuvwxyz" : Str)).cps.toList
def wordS (s : Str) : Bool := decide (1 ≤ s.length) && (decide (s.length ≤ 8) && s.cps.toList.all fun c => decide (c ∈ abcL))
def isStrD : PyData → Bool
  | .str _ => true
  | _ => false
def wordD : PyData → Bool
  | .str s => wordS s
  | _ => false
def intD : PyData → Bool
  | .int _ => true
  | _ => false
def listD : PyData → Bool
  | .list _ => true
  | .tuple _ => true
  | _ => false
def itemsD : PyData → List PyData
  | .list ds => ds
  | .tuple ds => ds
  | _ => []
theorem wordD_ns {d : PyData} (h : isStrD d = false) : wordD d = false := by cases d <;> first | rfl | cases h
theorem kit_str (d : PyData) : kitB (tyD d) "str" = some (isStrD d) := by cases d <;> (simp only [tyD, isStrD]; decide +kernel)
theorem all_map_bl {α : Type} (f : α → Bool) (l : List α) : (l.map f).all id = l.all f := by rw [List.all_map]; rfl
def ShortD (d : PyData) : Prop := ∀ s, d = .str s → s.length ≤ 100000
section
variable {P : Program} {w : World} {K : PySem.W.Frag} {mg : Str → Option Value} {base : Heap} {f : Addr} {fd : FuncData}
def spWord (K : PySem.W.Frag) : Sp := fun vs H Q _ => ∃ G M v d, vs = [v] ∧ Zp G M H ∧ Dt K G v d ∧ ShortD d ∧ ∀ G1 H1, Zp G1 M H1 → Same G G1 → Q (.bl (wordD d)) H1
theorem ok_is_word (T : Nm K mg) (F : FnP K "is_word" s_is_word f fd) : FnOk P w K mg base CX0 1 f fd ["value"] (spWord K) := by
  have nd : N_is_word.Nodup := sc_is_word.nd
  refine F.ok sc_is_word (fun vs H Q E h => ?_) (fun cdv A outer s H vs Q E hr h => ?_)
  · obtain ⟨G, M, v, d, rfl, _⟩ := h
    rfl
  have hu := hr.units
  refine ⟨_, PSs.nox   (pss_cons (ps_if (PW.pt (pw_or (pt_not (pt_val (pe_callB (kc_isi (K := K)) (by rfl) T.b_isinstance boot_isinstance (pa_cons (pv 0) (pa_cons (pe_bltn (v := .ty "str") (by rfl) T.b_str boot_str rfl) pa_nil))))) (pw_or1 (pt_not (pt_chain o_le o_le pe_int (pe_callB (kc_len (K := K) (P := P) (w := w)) (by rfl) T.b_len PySem.boot_len (pa_cons (pv 0) pa_nil)) (pe_gC T.g_LONGEST_WORD (by rfl))))))) (pss_one (ps_ret pe_bl)) pss_nil)
    (pss_one (ps_ret (pe_callB (kc_all (K := K) rfl) (by rfl) T.b_all boot_all (pa_cons (pe_lc (own := [("letter", 1)]) (tt := tYes) rfl nd (k_any (K := K) (pv 0)) (blkOk_by (N := N_is_word) (sc := defScope s_is_word) (by decide +kernel)) (fun _ _ _ _ _ => (pg_name (i := 1) nd rfl (by first | exact .inl rfl | exact .inr rfl))) (fun _ _ _ _ _ => pts_nil) (fun _ _ _ _ _ => (pe_cmpR (k_in (K := K)) (pv 1) (pe_gC T.g_LETTERS (by rfl)) (by rfl)))) pa_nil))))), ?_⟩
  obtain ⟨G, M, v, d, rfl, z, hd, hs, q⟩ := h
  repeat (walk_at "z")
  refine z_isi (.ty "str") (hd.up z.sub).ty (kit_ty (kit_str d)) ?_
  cases hi : isStrD d with
  | false =>
    repeat (walk_at "z")
    have := q G H z (Same.refl G)
    rw [wordD_ns hi] at this
    exact this
  | true =>
    cases hd with
    | str t =>
      have hl := hs t rfl
      repeat (walk_at "z")
      refine z_lenS hl ?_
      repeat (walk_at "z")
      by_cases c1 : 1 ≤ t.length
      · rw [decide_eq_true (show (1 : Int) ≤ (t.length : Int) by omega)]
        repeat (walk_at "z")
        by_cases c2 : t.length ≤ 8
        · rw [decide_eq_true (show (t.length : Int) ≤ 8 by omega)]
          repeat (walk_at "z")
          refine z_anyS ?_
          repeat (walk_at "z")
          refine z_itS ?_
          refine lc_src src_S (fun i G' M' acc => M' = M ∧ G' = G ∧ acc = ((t.cps.toList.take i).map fun c => V.bl (decide (c ∈ abcL)))) z ⟨rfl, rfl, rfl⟩ (fun _ _ _ _ _ _ _ _ => trivial) ?_ ?_
          · rintro i x G2 M2 acc Dl H2 hx ⟨rfl, rfl, rfl⟩ z2
            obtain ⟨c, hc, rfl⟩ : ∃ c, t.cps.toList[i]? = some c ∧ x = V.str ⟨#[c]⟩ := by
              unfold chrV at hx
              rw [List.getElem?_map] at hx
              cases e : t.cps.toList[i]? with
              | none => rw [e] at hx; cases hx
              | some c => rw [e] at hx; exact ⟨c, rfl, (Option.some.inj hx).symm⟩
            repeat (walk_at "z")
            refine ⟨by rfl, ?_⟩
            repeat (walk_at "z")
            refine z_inS ?_
            refine z_laid z2 (by rw [List.length_map, List.length_take, Array.length_toList]; show min _ t.length ≤ _; omega) ⟨rfl, rfl, ?_⟩
            rw [List.take_add_one, hc]
            simp [abcL]
          · rintro p2 G2 M2 acc G3 H3 ⟨rfl, rfl, rfl⟩ s3 z3 e3
            rw [chrV_len, show t.length = t.cps.toList.length from (Array.length_toList).symm, List.take_length] at e3
            repeat (walk_at "z")
            refine z_all (bs := t.cps.toList.map fun c => decide (c ∈ abcL)) z3 (SqL.of (by rw [List.map_map]; exact e3)) ?_
            have := q G3 H3 z3 s3
            rw [all_map_bl]
            have e : wordD (.str t) = t.cps.toList.all fun c => decide (c ∈ abcL) := by
              show (decide _ && (decide _ && _)) = _
              rw [decide_eq_true c1, decide_eq_true c2]
              rfl
            rw [e] at this
            exact this
        · rw [decide_eq_false (show ¬ (t.length : Int) ≤ 8 by omega)]
          repeat (walk_at "z")
          have := q G H z (Same.refl G)
          have e : wordD (.str t) = false := by
            show (decide _ && (decide _ && _)) = _
            rw [decide_eq_false c2, Bool.false_and, Bool.and_false]
          rw [e] at this
          exact this
      · rw [decide_eq_false (show ¬ (1 : Int) ≤ (t.length : Int) by omega)]
        repeat (walk_at "z")
        have := q G H z (Same.refl G)
        have e : wordD (.str t) = false := by
          show (decide _ && (decide _ && _)) = _
          rw [decide_eq_false c1, Bool.false_and]
        rw [e] at this
        exact this
    | _ => cases hi
def spAsc (K : PySem.W.Frag) : Sp := fun vs H Q _ => ∃ G M a, ∃ ss : List Str, vs = [.ref a] ∧ Zp G M H ∧ SqL K H a (ss.map V.str) ∧ ss.length < 64 ∧
  ∀ p G1 H1, Zp G1 M H1 → Same G G1 → SqT K G1 p ((asc ss).map V.str) → Q (.ref p) H1
theorem ok_asc (T : Nm K mg) (F : FnP K "ascending" s_ascending f fd) : FnOk P w K mg base CX0 1 f fd ["words"] (spAsc K) := by
  have nd : N_ascending.Nodup := sc_ascending.nd
  refine F.ok sc_ascending (fun vs H Q E h => ?_) (fun cdv A outer s H vs Q E hr h => ?_)
  · obtain ⟨G, M, a, ss, rfl, _⟩ := h
    rfl
  have hu := hr.units
  refine ⟨_, PSs.nox   (pss_one (ps_ret (pe_callTy (kc_tuple (K := K)) (by rfl) T.b_tuple boot_tuple (pa_cons (pe_callB (kc_sorted (K := K) (P := P) (w := w) rfl) (by rfl) T.b_sorted boot_sorted (pa_cons (pe_callTy (kc_set (K := K) (P := P) (w := w) rfl) (by rfl) T.b_set boot_set (pa_cons (pv 0) pa_nil)) pa_nil)) pa_nil)))), ?_⟩
  obtain ⟨G, M, a, ss, rfl, z, hS, hs, q⟩ := h
  repeat (walk_at "z")
  refine z_setH z (.inl hS) (by omega) fun p l G2 H2 z2 s2 e2 m2 nd2 l2 => ?_
  repeat (walk_at "z")
  refine z_sortX z2 e2 m2 nd2 (by omega) fun p3 G3 H3 z3 s3 e3 => ?_
  repeat (walk_at "z")
  exact z_tupL z3 (SqL.of e3) fun p4 G4 H4 z4 s4 h4 => q p4 G4 H4 z4 ((s2.trans s3).trans s4) h4
end
end LW
namespace LW
open PySem PySem.Spec PyProof.Rows L2 Ys

def isTD : PyData → Bool
  | .tuple _ => true
  | _ => false
theorem kit_tup (d : PyData) : kitB (tyD d) "tuple" = some (isTD d) := by cases d <;> (simp only [tyD, isTD]; decide +kernel)
theorem at_zero {x : V} {xr : List V} : atI (x :: xr) 0 = some x := atI_nat (j := 0) rfl
theorem at_one {x y : V} {xr : List V} : atI (x :: y :: xr) 1 = some y := atI_nat (j := 1) rfl
theorem at_two {x y u : V} {xr : List V} : atI (x :: y :: u :: xr) 2 = some u := atI_nat (j := 2) rfl
theorem z_cg {b c : Bool} {Q : VK} {H : Hp} (e : b = c) (q : Q (.bl c) H) : Q (.bl b) H := e ▸ q
/-! ### the words of plans -/
def headOf (s : Str) : Option Hd := if s = "then" then some .th else if s = "either" then some .ei else if s = "any" then some .an else if s = "again" then some .ag else if s = "beside" then some .be else none
structure PTab (K : PySem.W.Frag) (w : World) : Prop where
  l : TabD K w (gA "LEAST" K) leastL
  m : TabD K w (gA "MOST" K) mostL
theorem hd_s : ∀ h : Hd, headOf h.s = some h := by intro h; cases h <;> decide +kernel
theorem head_cases (s : Str) : (∃ h, s = Hd.s h) ∨ (headOf s = none ∧ leastL.lookup s = none ∧ mostL.lookup s = none) := by
  by_cases c1 : s = "then"
  · exact .inl ⟨.th, c1⟩
  by_cases c2 : s = "either"
  · exact .inl ⟨.ei, c2⟩
  by_cases c3 : s = "any"
  · exact .inl ⟨.an, c3⟩
  by_cases c4 : s = "again"
  · exact .inl ⟨.ag, c4⟩
  by_cases c5 : s = "beside"
  · exact .inl ⟨.be, c5⟩
  have f : ∀ t : Str, s ≠ t → (s == t) = false := fun t h => by
    cases q : s == t with
    | false => rfl
    | true => exact absurd (eq_of_beq q) h
  refine .inr ⟨by unfold headOf; rw [if_neg c1, if_neg c2, if_neg c3, if_neg c4, if_neg c5], ?_, ?_⟩
  · unfold leastL
    simp only [List.lookup, f _ c1, f _ c2, f _ c3, f _ c4, f _ c5]
  · unfold mostL
    simp only [List.lookup, f _ c1, f _ c2, f _ c3, f _ c4, f _ c5]
def Hd.leV : Hd → Int
  | .th => 0
  | .ei => 1
  | .an => 1
  | .ag => 1
  | .be => 2
def Hd.moV : Hd → V
  | .th => .non
  | .ei => .non
  | .an => .non
  | .ag => .int 1
  | .be => .int 2
theorem le_at (h : Hd) : leastL.lookup (Hd.s h) = some (.int (Hd.leV h)) := by cases h <;> rfl
theorem mo_at (h : Hd) : mostL.lookup (Hd.s h) = some (Hd.moV h) := by cases h <;> rfl
def formD : PyData → Bool
  | .tuple (.str s :: r) => (match headOf s with
    | some h => h.fit r.length
    | none => false)
  | _ => false
def headBe : List PyData → Bool
  | .str s :: _ => decide (s = "beside")
  | _ => false
mutual
def wpD : Bool → PyData → Option PyData
  | b, .tuple ds => if (!formD (.tuple ds) || (b && headBe ds)) = true then some (.tuple ds) else wpL (b || headBe ds) ds
  | _, .str s => if wordS s = true then none else some (.str s)
  | _, .none => some .none
  | _, .bool x => some (.bool x)
  | _, .int i => some (.int i)
  | _, .list ds => some (.list ds)
  | _, .dict ds => some (.dict ds)
def wpL : Bool → List PyData → Option PyData
  | _, [] => none
  | b, d :: ds => match wpD b d with
    | some e => some e
    | none => wpL b ds
end
theorem hd_word (h : Hd) : wordS h.s = true := by cases h <;> decide +kernel
theorem wpL_hd (b : Bool) (h : Hd) (r : List PyData) : wpL b (.str h.s :: r) = wpL b r := by
  rw [wpL, wpD, if_pos (hd_word h)]
theorem wd_wordS {s : Str} (h : Wd s) : wordS s = true := by
  have e : ∀ c, 97 ≤ c → c ≤ 122 → c ∈ abcL := by
    intro c h1 h2
    have e : abcL = (List.range 26).map (· + 97) := by decide +kernel
    rw [e]
    exact List.mem_map.mpr ⟨c - 97, List.mem_range.mpr (by omega), by omega⟩
  unfold wordS
  rw [decide_eq_true h.1, decide_eq_true h.2.1]
  simp only [Bool.true_and]
  refine List.all_eq_true.mpr fun c hc => decide_eq_true (e c (h.2.2 c hc).1 (h.2.2 c hc).2)
theorem form_nd (h : Hd) (ds : List PyData) : formD (.tuple (.str h.s :: ds)) = h.fit ds.length := by
  show (match headOf h.s with | some h => h.fit ds.length | none => false) = _
  rw [hd_s]
theorem be_nd (h : Hd) (ds : List PyData) : headBe (.str h.s :: ds) = decide (h = .be) := by
  show decide (h.s = ("beside" : Str)) = _
  cases h <;> decide +kernel
theorem wp_ok : ∀ p b, Ok b p → wpD b p.d = none := Pl.ind (fun s b k => by
    cases k with
    | nm k =>
      rw [Pl.d, wpD, if_pos (wd_wordS k)]) fun h ps ih b k => by
  cases k with
  | nd f c q =>
    have l : (Pl.dl ps).length = ps.length := by rw [dl_map, List.length_map]
    rw [Pl.d, wpD, form_nd, be_nd, l, f]
    have nb : (b && decide (h = .be)) = false := by
      cases b with
      | false => rfl
      | true => simpa using c rfl
    rw [nb, if_neg (by simp), wpL_hd]
    have go : ∀ l : List Pl, (∀ p ∈ l, p ∈ ps) → wpL (b || decide (h = .be)) (Pl.dl l) = none := by
      intro l
      induction l with
      | nil => intro _; simp [Pl.dl, wpL]
      | cons a r ihr =>
        intro hl
        rw [Pl.dl, wpL, ih a (hl a (by simp)) _ (q a (hl a (by simp)))]
        exact ihr fun p hp => hl p (List.mem_cons_of_mem _ hp)
    exact go ps fun _ h => h
inductive Sht : PyData → Prop where
  | nt {d : PyData} : isTD d = false → ShortD d → Sht d
  | tup {ds : List PyData} : (∀ e ∈ ds, Sht e) → Sht (.tuple ds)
theorem Sht.short {d : PyData} (h : Sht d) : ShortD d := by
  cases h with
  | nt _ h => exact h
  | tup _ => intro s e; cases e
theorem Sht.kids {ds : List PyData} (h : Sht (.tuple ds)) : ∀ e ∈ ds, Sht e := by
  cases h with
  | nt h _ => cases h
  | tup h => exact h
theorem hd_len (h : Hd) : h.s.length ≤ 8 := by cases h <;> decide +kernel
theorem pl_sht : ∀ p, Nms p → Sht p.d := Pl.ind (fun s k => by
    cases k with
    | nm k =>
      rw [Pl.d]
      refine .nt rfl fun t e => ?_
      obtain rfl : s = t := by injection e
      have := k.2.1
      omega) fun h ps ih k => by
  rw [Pl.d]
  refine .tup fun e he => ?_
  rcases List.mem_cons.mp he with rfl | he
  · refine .nt rfl fun t e => ?_
    obtain rfl : h.s = t := by injection e
    have := hd_len h
    omega
  · rw [dl_map] at he
    obtain ⟨p, hp, rfl⟩ := List.mem_map.mp he
    exact ih p hp (k.kids p hp)
section
variable {P : Program} {w : World} {K : PySem.W.Frag} {mg : Str → Option Value} {base : Heap} {f : Addr} {fd : FuncData}
def spFormed (K : PySem.W.Frag) : Sp := fun vs H Q _ => ∃ G M v d, vs = [v] ∧ Zp G M H ∧ Dt K G v d ∧ Q (.bl (formD d)) H
theorem ok_is_formed (T : Nm K mg) (TB : PTab K w) (F : FnP K "is_formed" s_is_formed f fd) : FnOk P w K mg base CX0 1 f fd ["value"] (spFormed K) := by
  have nd : N_is_formed.Nodup := sc_is_formed.nd
  refine F.ok sc_is_formed (fun vs H Q E h => ?_) (fun cdv A outer s H vs Q E hr h => ?_)
  · obtain ⟨G, M, v, d, rfl, _⟩ := h
    rfl
  have hu := hr.units
  refine ⟨_, PSs.nox   (pss_cons (ps_if (PW.pt (pw_or (pt_not (pt_val (pe_callB (kc_isi (K := K)) (by rfl) T.b_isinstance boot_isinstance (pa_cons (pv 0) (pa_cons (pe_bltn (v := .ty "tuple") (by rfl) T.b_tuple boot_tuple rfl) pa_nil))))) (pw_or (pt_cmpR (k_eq (K := K) hu) (pe_callB (kc_len (K := K) (P := P) (w := w)) (by rfl) T.b_len PySem.boot_len (pa_cons (pv 0) pa_nil)) pe_int (nomark _)) (pw_or (pt_not (pt_val (pe_callB (kc_isi (K := K)) (by rfl) T.b_isinstance boot_isinstance (pa_cons (pe_ix (k_ix (K := K)) (pv 0) pe_int (fun _ _ => rfl)) (pa_cons (pe_bltn (v := .ty "str") (by rfl) T.b_str boot_str rfl) pa_nil))))) (pw_or1 (pt_cmpR (k_notInD (K := K) (w := w)) (pe_ix (k_ix (K := K)) (pv 0) pe_int (fun _ _ => rfl)) (pe_gC T.g_LEAST (by rfl)) (by rfl))))))) (pss_one (ps_ret pe_bl)) pss_nil)
    (pss_cons (ps_asg (pe_ix (k_ixD (K := K) (w := w)) (pe_gC T.g_MOST (by rfl)) (pe_ix (k_ix (K := K)) (pv 0) pe_int (fun _ _ => rfl)) (fun _ _ => rfl)) (pg_name (i := 1) nd rfl (by first | exact .inl rfl | exact .inr rfl)))
    (pss_one (ps_ret (pe_and (pe_cmpR o_gt (pe_callB (kc_len (K := K) (P := P) (w := w)) (by rfl) T.b_len PySem.boot_len (pa_cons (pv 0) pa_nil)) (pe_ix (k_ixD (K := K) (w := w)) (pe_gC T.g_LEAST (by rfl)) (pe_ix (k_ix (K := K)) (pv 0) pe_int (fun _ _ => rfl)) (fun _ _ => rfl)) (nomark _)) (pe_one (pe_or (pe_cmpR o_isN (pv 1) pe_non (nomark _)) (pe_one (pe_cmpR o_le (pe_callB (kc_len (K := K) (P := P) (w := w)) (by rfl) T.b_len PySem.boot_len (pa_cons (pv 0) pa_nil)) (pe_op (k_add (K := K)) (pv 1) pe_int) (nomark _)))))))))), ?_⟩
  obtain ⟨G, M, v, d, rfl, z, hd, q⟩ := h
  repeat (walk_at "z")
  refine z_isi (.ty "tuple") (hd.up z.sub).ty (kit_ty (kit_tup d)) ?_
  cases hi : isTD d with
  | false =>
    repeat (walk_at "z")
    have e : formD d = false := by cases d <;> first | rfl | cases hi
    rw [e] at q
    exact q
  | true =>
    cases hd with
    | tup hS hds =>
      rename_i a xs ds
      repeat (walk_at "z")
      refine z_lenT z hS ?_
      repeat (walk_at "z")
      refine z_eqS rfl ?_
      repeat (walk_at "z")
      cases hds with
      | nil =>
        refine z_bT' (by decide) ?_
        repeat (walk_at "z")
        exact q
      | cons h0 hr =>
        rename_i x xr d0 dr
        refine z_bF' (by rw [decide_eq_false]; intro e; have := V.int.inj e; simp at this; omega) ?_
        have at0 : atI (x :: xr) 0 = some x := at_zero
        repeat (walk_at "z")
        refine z_ixT z hS at0 ?_
        repeat (walk_at "z")
        refine z_isi (.ty "str") (h0.up z.sub).ty (kit_ty (kit_str d0)) ?_
        cases hs : isStrD d0 with
        | false =>
          repeat (walk_at "z")
          have e : formD (.tuple (d0 :: dr)) = false := by cases d0 <;> first | rfl | cases hs
          rw [e] at q
          exact q
        | true =>
          cases h0 with
          | str s =>
            have ln : xr.length = dr.length := hr.len (ds := [])
            repeat (walk_at "z")
            refine z_ixT z hS at0 ?_
            repeat (walk_at "z")
            refine z_notInKD TB.l ?_
            rcases head_cases s with ⟨hh, rfl⟩ | ⟨n1, n2, n3⟩
            · rw [le_at]
              repeat (walk_at "z")
              refine z_bT' rfl ?_
              repeat (walk_at "z")
              refine z_ixT z hS at0 ?_
              refine z_ixKD TB.m (mo_at hh) ?_
              repeat (walk_at "z")
              refine z_lenT z hS ?_
              repeat (walk_at "z")
              refine z_ixT z hS at0 ?_
              refine z_ixKD TB.l (le_at hh) ?_
              rw [form_nd] at q
              rw [List.length_cons, ln]
              generalize hn : dr.length = n at q
              repeat (walk_at "z")
              cases hh
              case th =>
                refine z_bT' (by simp only [Hd.leV]; exact decide_eq_true (by omega)) ?_
                repeat (walk_at "z")
                refine z_iN ?_
                repeat (walk_at "z")
                refine z_bT' rfl ?_
                repeat (walk_at "z")
                exact q
              case ei =>
                by_cases hn1 : 1 ≤ n
                · refine z_bT' (by simp only [Hd.leV]; exact decide_eq_true (by omega)) ?_
                  repeat (walk_at "z")
                  refine z_iN ?_
                  repeat (walk_at "z")
                  refine z_bT' rfl ?_
                  repeat (walk_at "z")
                  refine z_cg ?_ q
                  simp [Hd.fit, hn1] <;> omega
                · refine z_bF' (by simp only [Hd.leV]; exact decide_eq_false (by omega)) ?_
                  repeat (walk_at "z")
                  refine z_cg ?_ q
                  symm
                  simp [Hd.fit] <;> omega
              case an =>
                by_cases hn1 : 1 ≤ n
                · refine z_bT' (by simp only [Hd.leV]; exact decide_eq_true (by omega)) ?_
                  repeat (walk_at "z")
                  refine z_iN ?_
                  repeat (walk_at "z")
                  refine z_bT' rfl ?_
                  repeat (walk_at "z")
                  refine z_cg ?_ q
                  simp [Hd.fit, hn1] <;> omega
                · refine z_bF' (by simp only [Hd.leV]; exact decide_eq_false (by omega)) ?_
                  repeat (walk_at "z")
                  refine z_cg ?_ q
                  symm
                  simp [Hd.fit] <;> omega
              case ag =>
                by_cases hn1 : 1 ≤ n
                · refine z_bT' (by simp only [Hd.leV]; exact decide_eq_true (by omega)) ?_
                  repeat (walk_at "z")
                  refine z_iN ?_
                  repeat (walk_at "z")
                  refine z_bF' rfl ?_
                  repeat (walk_at "z")
                  refine z_lenT z hS ?_
                  rw [List.length_cons, ln, hn]
                  repeat (walk_at "z")
                  refine z_addI (i := 1) (j := 1) ?_
                  repeat (walk_at "z")
                  refine z_cg ?_ q
                  rw [Bool.eq_iff_iff]
                  simp [Hd.fit] <;> omega
                · refine z_bF' (by simp only [Hd.leV]; exact decide_eq_false (by omega)) ?_
                  repeat (walk_at "z")
                  refine z_cg ?_ q
                  symm
                  simp [Hd.fit] <;> omega
              case be =>
                by_cases hn1 : 2 ≤ n
                · refine z_bT' (by simp only [Hd.leV]; exact decide_eq_true (by omega)) ?_
                  repeat (walk_at "z")
                  refine z_iN ?_
                  repeat (walk_at "z")
                  refine z_bF' rfl ?_
                  repeat (walk_at "z")
                  refine z_lenT z hS ?_
                  rw [List.length_cons, ln, hn]
                  repeat (walk_at "z")
                  refine z_addI (i := 2) (j := 1) ?_
                  repeat (walk_at "z")
                  refine z_cg ?_ q
                  rw [Bool.eq_iff_iff]
                  simp [Hd.fit] <;> omega
                · refine z_bF' (by simp only [Hd.leV]; exact decide_eq_false (by omega)) ?_
                  repeat (walk_at "z")
                  refine z_cg ?_ q
                  symm
                  simp [Hd.fit] <;> omega
            · rw [n2]
              repeat (walk_at "z")
              refine z_bF' rfl ?_
              repeat (walk_at "z")
              have e : formD (.tuple (.str s :: dr)) = false := by
                show (match headOf s with | some h => h.fit dr.length | none => false) = false
                rw [n1]
              rw [e] at q
              exact q
          | _ => cases hs
    | _ => cases hi
end
end LW
namespace LW
open PySem PySem.Spec PyProof.Rows L2 Ys

theorem cut_tail {x : V} {xr : List V} : cutV (x :: xr) (some 1) none = xr := by
  have e1 : HT.sIx (x :: xr).length 0 (some 1) = min 1 (x :: xr).length := HT.sIx_nat (x :: xr).length 0 1
  have e2 : HT.sIx (x :: xr).length (x :: xr).length none = (x :: xr).length := rfl
  have e3 : min 1 (x :: xr).length = 1 := by rw [List.length_cons]; omega
  unfold cutV
  rw [e1, e2, e3, List.drop_succ_cons, List.drop_zero, List.length_cons]
  exact List.take_of_length_le (by omega)
theorem form_shape {d : PyData} (hf : formD d = true) : ∃ (h : Hd) (r : List PyData), d = .tuple (.str h.s :: r) := by
  cases d with
  | tuple ds =>
    cases ds with
    | nil => cases hf
    | cons d0 r =>
      cases d0 with
      | str s =>
        rcases head_cases s with ⟨h, rfl⟩ | ⟨n, _⟩
        · exact ⟨h, r, rfl⟩
        · have e : formD (.tuple (.str s :: r)) = false := by
            show (match headOf s with | some h => h.fit r.length | none => false) = false
            rw [n]
          rw [e] at hf
          cases hf
      | _ => cases hf
  | _ => cases hf
theorem wp_word {b : Bool} {d : PyData} (h : wordD d = true) : wpD b d = none := by
  cases d with
  | str s => rw [wpD, if_pos (show wordS s = true from h)]
  | _ => cases h
theorem wp_bad {b : Bool} {d : PyData} (h : wordD d = false) (h2 : formD d = false) : wpD b d = some d := by
  cases d with
  | tuple ds => rw [wpD, h2]; rfl
  | str s =>
    rw [wpD, if_neg (by intro e; rw [show wordD (.str s) = wordS s from rfl, e] at h; cases h)]
  | _ => rw [wpD]
theorem wp_be {b : Bool} {h : Hd} {r : List PyData} (e : (b && decide (h = .be)) = true) : wpD b (.tuple (.str h.s :: r)) = some (.tuple (.str h.s :: r)) := by
  rw [wpD, be_nd, e, Bool.or_true]; rfl
theorem wp_go {b : Bool} {h : Hd} {r : List PyData} (e : (b && decide (h = .be)) = false) (f : formD (.tuple (.str h.s :: r)) = true) : wpD b (.tuple (.str h.s :: r)) = wpL (b || decide (h = .be)) r := by
  rw [wpD, be_nd, e, f, wpL_hd]; rfl
theorem dep_kid {e : PyData} : ∀ {ds : List PyData}, e ∈ ds → e.depth ≤ PyData.depthAll ds
  | d :: ds, h => by
    show e.depth ≤ max d.depth (PyData.depthAll ds)
    rcases List.mem_cons.mp h with rfl | h
    · exact Nat.le_max_left _ _
    · exact Nat.le_trans (dep_kid h) (Nat.le_max_right _ _)
theorem str_be (h : Hd) : decide (V.str h.s = V.str ("beside" : Str)) = decide (h = .be) := by cases h <;> decide +kernel
theorem str_th (h : Hd) : decide (V.str h.s = V.str ("then" : Str)) = decide (h = .th) := by cases h <;> decide +kernel
section
variable {P : Program} {w : World} {K : PySem.W.Frag} {mg : Str → Option Value} {base : Heap} {f : Addr} {fd : FuncData}
abbrev OwnW (P : Program) (w : World) (K : PySem.W.Frag) (mg : Str → Option Value) (base : Heap) : Prop := Own P w K mg base CX0 1 "is_word" ["value"] (spWord K)
abbrev OwnF (P : Program) (w : World) (K : PySem.W.Frag) (mg : Str → Option Value) (base : Heap) : Prop := Own P w K mg base CX0 1 "is_formed" ["value"] (spFormed K)
def spWrong (K : PySem.W.Frag) (n : Nat) : Sp := fun vs H Q _ => ∃ G M v b d, vs = [v, .bl b] ∧ Zp G M H ∧ Dt K G v d ∧ Sht d ∧ d.depth < n ∧
  ∀ p xs G1 H1, Zp G1 M H1 → Same G G1 → G1 p = some (.lst xs) → Dts K G1 xs (wpD b d).toList → Q (.ref p) H1
theorem ok_wrong {n : Nat} (T : Nm K mg) (C_is_word : OwnW P w K mg base) (C_is_formed : OwnF P w K mg base) (C_wrong_part : Own P w K mg base CX0 (n + 1) "wrong_part" ["value", "is_beside"] (spWrong K n)) (F : FnP K "wrong_part" s_wrong_part f fd) : FnOk P w K mg base CX0 (n + 2) f fd ["value", "is_beside"] (spWrong K (n + 1)) := by
  have nd : N_wrong_part.Nodup := sc_wrong_part.nd
  refine F.ok sc_wrong_part (fun vs H Q E h => ?_) (fun cdv A outer s H vs Q E hr h => ?_)
  · obtain ⟨G, M, v, b, d, rfl, _⟩ := h
    rfl
  have hu := hr.units
  refine ⟨_, PSs.nox   (pss_cons (ps_if (pt_val (pe_own C_is_word (hr.mono (by omega)) (by rfl) pass0 (pa_cons (pv 0) pa_nil))) (pss_one (ps_ret (pe_lst pa_nil))) pss_nil)
    (pss_cons (ps_if (PW.pt (pw_or (pt_not (pt_val (pe_own C_is_formed (hr.mono (by omega)) (by rfl) pass0 (pa_cons (pv 0) pa_nil)))) (pw_or1 (PW.pt (pw_and (pt_val (pv 1)) (pw_and1 (pt_cmpR (k_eq (K := K) hu) (pe_ix (k_ix (K := K)) (pv 0) pe_int (fun _ _ => rfl)) pe_str (nomark _)))))))) (pss_one (ps_ret (pe_lst (pa_cons (pv 0) pa_nil)))) pss_nil)
    (pss_cons (ps_for PassesOwn.never rfl (k_any (K := K) (pe_slice (k_sl (K := K)) (pv 0) (po_some pe_int) po_none)) (pg_name (i := 2) nd rfl (by first | exact .inl rfl | exact .inr rfl)) (pss_cons (ps_asg (pe_own C_wrong_part (hr.mono (by omega)) (by rfl) pass0 (pa_cons (pv 2) (pa_cons (pe_or (pv 1) (pe_one (pe_cmpR (k_eq (K := K) hu) (pe_ix (k_ix (K := K)) (pv 0) pe_int (fun _ _ => rfl)) pe_str (nomark _)))) pa_nil))) (pg_name (i := 3) nd rfl (by first | exact .inl rfl | exact .inr rfl)))
    (pss_one (ps_if (pt_cmpR (k_ne (K := K) hu) (pv 3) (pe_lst pa_nil) (nomark _)) (pss_one (ps_ret (pv 3))) pss_nil))))
    (pss_one (ps_ret (pe_lst pa_nil)))))), ?_⟩
  obtain ⟨G, M, v, b, d, rfl, z, hd, hs, hn, q⟩ := h
  repeat (walk_at "z")
  refine ⟨G, M, v, d, rfl, z, hd, hs.short, fun G1 H1 z1 s1 => ?_⟩
  have hd1 := hd.up s1
  cases hw : wordD d with
  | true =>
    repeat (walk_at "z")
    refine z_newL z1 (by simp) fun p G2 H2 z2 s2 e2 => ?_
    exact q p [] G2 H2 z2 (s1.trans s2) e2 (by rw [wp_word hw]; exact .nil)
  | false =>
    repeat (walk_at "y")
    cases hf : formD d with
    | false =>
      repeat (walk_at "z")
      refine ⟨G1, M, v, d, rfl, z1, hd1, ?_⟩
      rw [hf]
      repeat (walk_at "z")
      refine z_newL z1 (by simp) fun p G2 H2 z2 s2 e2 => ?_
      exact q p [v] G2 H2 z2 (s1.trans s2) e2 (by rw [wp_bad hw hf]; exact .cons (hd1.up s2) .nil)
    | true =>
      obtain ⟨h, r, rfl⟩ := form_shape hf
      obtain ⟨a, xr, rfl, hS, hR⟩ : ∃ a xr, v = .ref a ∧ SqT K G1 a (.str h.s :: xr) ∧ Dts K G1 xr r := by
        cases hd1 with
        | tup hS hR =>
          cases hR with
          | cons h0 hR =>
            cases h0
            exact ⟨_, _, rfl, hS, hR⟩
      with_reducible refine z_cut (fun σ H => H = H1 ∧ σ = [some (.ref a), some (.bl b), none, none] ∧ (b && decide (h = .be)) = false) (fun nx hnx => ?_) (fun σ H2 h2 => ?_)
      · repeat (walk_at "z")
        refine ⟨G1, M, _, _, rfl, z1, hd1, ?_⟩
        rw [hf]
        repeat (walk_at "z")
        cases b with
        | false =>
          repeat (walk_at "z")
          exact hnx _ _ ⟨rfl, rfl, rfl⟩
        | true =>
          repeat (walk_at "z")
          refine z_ixT z1 hS at_zero ?_
          repeat (walk_at "z")
          refine z_eqS rfl ?_
          rw [str_be]
          repeat (walk_at "z")
          refine z_bd (fun c => ?_) (fun c => ?_)
          · repeat (walk_at "z")
            refine z_newL z1 (by simp) fun p G2 H2 z2 s2 e2 => ?_
            exact q p _ G2 H2 z2 (s1.trans s2) e2 (by rw [wp_be (by rw [decide_eq_true c]; rfl)]; exact .cons (hd1.up s2) .nil)
          · repeat (walk_at "z")
            exact hnx _ _ ⟨rfl, rfl, by rw [decide_eq_false c]; rfl⟩
      · obtain ⟨rfl, rfl, hb⟩ := h2
        have q := fun p xs G1' H1' z' s' e' => by
          have := q p xs G1' H1' z' s' e'
          rw [wp_go hb hf] at this
          exact this
        repeat (walk_at "z")
        refine z_anyT ?_
        repeat (walk_at "z")
        refine z_slT z1 hS fun p2 G2 H2 z2 s2 e2 => ?_
        rw [cut_tail] at e2
        refine z_itT z2 e2 ?_
        generalize hbb : (b || decide (h = .be)) = b' at q
        refine for_src src_T (fun i σ G' M' => ∃ k2 k3, M = M' ∧ Same G2 G' ∧ σ = [some (.ref a), some (.bl b), k2, k3] ∧ wpL b' r = wpL b' (r.drop i)) z2 ⟨_, _, rfl, Same.refl _, rfl, by rw [List.drop_zero]⟩ (fun i σ G' M' H' ⟨_, _, _, s', _⟩ z' => z'.seqT (upT s' e2)) ?_ ?_
        · rintro i x σ G' M' H' hx ⟨k2, k3, rfl, s', rfl, hL⟩ z'
          obtain ⟨d', hd', hx'⟩ := (hR.up (s2.trans s')).at_ hx
          have hm := List.mem_of_getElem? hd'
          have hlt : i < r.length := (List.getElem?_eq_some_iff.mp hd').1
          have hdr : r.drop i = d' :: r.drop (i + 1) := by
            rw [List.drop_eq_getElem_cons hlt]
            rw [List.getElem?_eq_getElem hlt] at hd'
            rw [Option.some.inj hd']
          repeat (walk_at "z")
          refine (fun hq => z_b2 (fun c => ?br1) (fun c => ?br2) : spWrong K n [x, .bl b'] H' ?Qn E0 → _) ?main
          case br1 =>
            repeat (walk_at "z")
            have e : b' = true := by rw [← hbb, c]; rfl
            rw [e] at hq
            exact hq
          case br2 =>
            repeat (walk_at "z")
            refine z_ixT z' (upT (s2.trans s') hS) at_zero ?_
            repeat (walk_at "z")
            refine z_eqS rfl ?_
            rw [str_be]
            have e : decide (h = .be) = b' := by rw [← hbb, c]; rfl
            rw [e]
            repeat (walk_at "z")
            exact hq
          refine ⟨G', M, x, b', d', rfl, z', hx', hs.kids d' (List.mem_cons_of_mem _ hm), ?_, fun p3 xs3 G3 H3 z3 s3 e3 h3 => ?_⟩
          · have h1 := dep_kid (List.mem_cons_of_mem (.str h.s) hm)
            have h2 : PyData.depth (.tuple (.str h.s :: r)) = PyData.depthAll (.str h.s :: r) + 1 := rfl
            omega
          repeat (walk_at "z")
          refine z_newL z3 (by simp) fun p4 G4 H4 z4 s4 e4 => ?_
          refine z_neNil (z4.seqL (SqL.of (s4 _ _ e3))) (z4.sub _ _ e4) ?_
          repeat (walk_at "z")
          have sa : Same G G4 := s1.trans (s2.trans (s'.trans (s3.trans s4)))
          cases hw3 : wpD b' d' with
          | some e =>
            rw [hw3] at h3
            cases h3 with
            | cons h3 h4 =>
              cases h4
              refine z_bT' (decide_eq_true (by simp)) ?_
              repeat (walk_at "z")
              refine q p3 _ G4 H4 z4 sa (s4 _ _ e3) ?_
              rw [hL, hdr, wpL, hw3]
              exact .cons (h3.up s4) .nil
          | none =>
            rw [hw3] at h3
            cases h3
            refine z_bF' (decide_eq_false (by simp)) ?_
            repeat (walk_at "z")
            refine ⟨G4, M, z4, _, _, rfl, s'.trans (s3.trans s4), rfl, ?_⟩
            rw [hL, hdr, wpL, hw3]
        · rintro σ G3 M3 H3 ⟨k2, k3, rfl, s3, rfl, hL⟩ z3
          rw [(hR.len (ds := [])), List.drop_length, wpL] at hL
          repeat (walk_at "z")
          refine z_newL z3 (by simp) fun p4 G4 H4 z4 s4 e4 => ?_
          exact q p4 [] G4 H4 z4 (s1.trans (s2.trans (s3.trans s4))) e4 (by rw [hL]; exact .nil)
def spIsPlan (K : PySem.W.Frag) (n : Nat) : Sp := fun vs H Q _ => ∃ G M v d, vs = [v] ∧ Zp G M H ∧ Dt K G v d ∧ Sht d ∧ d.depth < n ∧ ∀ G1 H1, Zp G1 M H1 → Same G G1 → Q (.bl (wpD false d).isNone) H1
end
end LW
namespace LW
open PySem PySem.Spec PyProof.Rows L2 Ys

theorem flat_app : ∀ xs ys : List Pl, flat (xs ++ ys) = flat xs ++ flat ys
  | [], ys => rfl
  | x :: xs, ys => by rw [List.cons_append, flat, flat, flat_app xs ys, List.append_assoc]
theorem take_snoc {α : Type} {l : List α} {i : Nat} {x : α} (h : l[i]? = some x) : l.take (i + 1) = l.take i ++ [x] := by rw [List.take_add_one, h]; rfl
theorem pl_at {K : PySem.W.Frag} {G : Hp} {xs : List V} {ps : List Pl} {i : Nat} {x : V} (h : Dts K G xs (Pl.dl ps)) (e : xs[i]? = some x) : ∃ p, ps[i]? = some p ∧ Dt K G x p.d := by
  obtain ⟨d, h1, h2⟩ := h.at_ e
  rw [dl_map, List.getElem?_map] at h1
  cases q : ps[i]? with
  | none => rw [q] at h1; cases h1
  | some p =>
    rw [q] at h1
    obtain rfl : p.d = d := Option.some.inj h1
    exact ⟨p, rfl, h2⟩
theorem pls_len {K : PySem.W.Frag} {G : Hp} {xs : List V} {ps : List Pl} (h : Dts K G xs (Pl.dl ps)) : xs.length = ps.length := by
  rw [h.len (ds := []), dl_map, List.length_map]
theorem szl_take : ∀ (ps : List Pl) (i : Nat), Pl.szl (ps.take i) ≤ Pl.szl ps
  | [], i => by rw [List.take_nil]; exact Nat.le_refl _
  | p :: ps, 0 => by simp [Pl.szl]
  | p :: ps, i + 1 => by
    have := szl_take ps i
    rw [List.take_succ_cons, Pl.szl, Pl.szl]
    omega
theorem dt_nm {K : PySem.W.Frag} {G : Hp} {v : V} {s : Str} (h : Dt K G v (Pl.nm s).d) : v = .str s := by
  rw [Pl.d] at h
  cases h
  rfl
theorem dt_nd {K : PySem.W.Frag} {G : Hp} {v : V} {h : Hd} {ps : List Pl} (k : Dt K G v (Pl.nd h ps).d) : ∃ a xr, v = .ref a ∧ SqT K G a (.str h.s :: xr) ∧ Dts K G xr (Pl.dl ps) := by
  rw [Pl.d] at k
  cases k with
  | tup hS hR =>
    cases hR with
    | cons h0 hR =>
      cases h0
      exact ⟨_, _, rfl, hS, hR⟩
theorem dt_mk {K : PySem.W.Frag} {G : Hp} {a : Addr} {h : Hd} {xr : List V} {ps : List Pl} (hS : SqT K G a (.str h.s :: xr)) (hR : Dts K G xr (Pl.dl ps)) : Dt K G (.ref a) (Pl.nd h ps).d := by
  rw [Pl.d]
  exact .tup hS (.cons (.str _) hR)
theorem dts_app {K : PySem.W.Frag} {G : Hp} {xs ys : List V} {ps qs : List Pl} (h1 : Dts K G xs (Pl.dl ps)) (h2 : Dts K G ys (Pl.dl qs)) : Dts K G (xs ++ ys) (Pl.dl (ps ++ qs)) := by
  have e : Pl.dl (ps ++ qs) = Pl.dl ps ++ Pl.dl qs := by rw [dl_map, dl_map, dl_map, List.map_append]
  rw [e]
  exact h1.app h2
theorem z_extLast {K : PySem.W.Frag} {G H : Hp} {M : List (Addr × HO)} {a b : Addr} {xs ys : List V} {Q : VK} (z : Zp G (M ++ [(a, .lst xs)]) H) (h : H b = some (.lst ys)) (hl : xs.length + ys.length ≤ 100000) (q : ∀ H1, Zp G (M ++ [(a, .lst (xs ++ ys))]) H1 → Q .non H1) : rExtend (.ref a) [.ref b] H Q ∨ rExtT K (.ref a) [.ref b] H Q :=
  z_extL z M.length last_at h hl fun H1 z1 => q H1 (by rw [List.set_append_right _ _ (Nat.le_refl _), Nat.sub_self] at z1; exact z1)
theorem z_extLastT {K : PySem.W.Frag} {G H : Hp} {M : List (Addr × HO)} {a b : Addr} {xs ys : List V} {Q : VK} (z : Zp G (M ++ [(a, .lst xs)]) H) (h : SqT K H b ys) (hl : xs.length + ys.length ≤ 100000) (q : ∀ H1, Zp G (M ++ [(a, .lst (xs ++ ys))]) H1 → Q .non H1) : rExtend (.ref a) [.ref b] H Q ∨ rExtT K (.ref a) [.ref b] H Q :=
  z_extT z M.length last_at h hl fun H1 z1 => q H1 (by rw [List.set_append_right _ _ (Nat.le_refl _), Nat.sub_self] at z1; exact z1)
section
variable {P : Program} {w : World} {K : PySem.W.Frag} {mg : Str → Option Value} {base : Heap} {f : Addr} {fd : FuncData}
def spSeq (K : PySem.W.Frag) : Sp := fun vs H Q _ => ∃ G M a xs ps, vs = [.ref a] ∧ Zp G M H ∧ SqL K G a xs ∧ Dts K G xs (Pl.dl ps) ∧ Pl.szl ps ≤ 20000 ∧ ∀ v G1 H1, Zp G1 M H1 → Same G G1 → Dt K G1 v (seqn ps).d → Q v H1
theorem ok_sequence (T : Nm K mg) (F : FnP K "sequence" s_sequence f fd) : FnOk P w K mg base CX0 1 f fd ["parts"] (spSeq K) := by
  have nd : N_sequence.Nodup := sc_sequence.nd
  refine F.ok sc_sequence (fun vs H Q E h => ?_) (fun cdv A outer s H vs Q E hr h => ?_)
  · obtain ⟨G, M, a, xs, ps, rfl, _⟩ := h
    rfl
  have hu := hr.units
  refine ⟨_, PSs.nox   (pss_cons (ps_asg (pe_lst pa_nil) (pg_name (i := 1) nd rfl (by first | exact .inl rfl | exact .inr rfl)))
    (pss_cons (ps_for PassesOwn.never rfl (k_any (K := K) (pv 0)) (pg_name (i := 2) nd rfl (by first | exact .inl rfl | exact .inr rfl)) (pss_one (ps_expr (pe_bm PySem.F.plainAttrs_list PySem.F.slot_list_extend PySem.F.type_list_extend (mt_ext2 (K := K)) (pv 1) (pa_cons (pe_ifExp (PW.pt (pw_and (pt_val (pe_callB (kc_isi (K := K)) (by rfl) T.b_isinstance boot_isinstance (pa_cons (pv 2) (pa_cons (pe_bltn (v := .ty "tuple") (by rfl) T.b_tuple boot_tuple rfl) pa_nil)))) (pw_and1 (pt_cmpR (k_eq (K := K) hu) (pe_ix (k_ix (K := K)) (pv 2) pe_int (fun _ _ => rfl)) pe_str (nomark _))))) (pe_slice (k_sl (K := K)) (pv 2) (po_some pe_int) po_none) (pe_lst (pa_cons (pv 2) pa_nil))) pa_nil)))))
    (pss_one (ps_ret (pe_ifExp (pt_cmpR (k_eq (K := K) hu) (pe_callB (kc_len (K := K) (P := P) (w := w)) (by rfl) T.b_len PySem.boot_len (pa_cons (pv 1) pa_nil)) pe_int (nomark _)) (pe_ix (k_ix (K := K)) (pv 1) pe_int (fun _ _ => rfl)) (pe_tup (pa_cons pe_str (k_star (K := K) (pv 1) pa_nil)))))))), ?_⟩
  obtain ⟨G, M, a, xs, ps, rfl, z, hS, hD, hz, q⟩ := h
  repeat (walk_at "z")
  refine z_ownL z (by simp) fun fa H1 z1 => ?_
  repeat (walk_at "z")
  refine z_anyL ?_
  repeat (walk_at "z")
  refine z_itL z1 hS ?_
  refine for_src src_L (fun i σ G' M' => ∃ k2 acc, M' = M ++ [(fa, .lst acc)] ∧ Same G G' ∧ Dts K G' acc (Pl.dl (flat (ps.take i))) ∧ σ = [some (.ref a), some (.ref fa), k2]) z1 ⟨_, [], rfl, Same.refl _, .nil, rfl⟩ (fun i σ G' M' H' ⟨_, _, _, s', _⟩ z' => z'.seqL (upL s' hS)) ?_ ?_
  · rintro i x σ G' M' H' hx ⟨k2, acc, rfl, s', hA, rfl⟩ z'
    obtain ⟨p, hp, hx'⟩ := pl_at (hD.up s') hx
    have hl : (flat (ps.take (i + 1))).length ≤ 20000 := Nat.le_trans (len_szl _) (Nat.le_trans (flat_sz _) (Nat.le_trans (szl_take ps _) hz))
    have e1 : flat (ps.take (i + 1)) = flat (ps.take i) ++ parts1 p := by
      rw [take_snoc hp, flat_app]
      show _ ++ (parts1 p ++ []) = _
      rw [List.append_nil]
    rw [e1, List.length_append] at hl
    have hal := pls_len hA
    repeat (walk_at "z")
    refine z_tyO z' M.length last_at ?_
    repeat (walk_at "z")
    refine z_isi (.ty "tuple") (hx'.up z'.sub).ty (kit_ty (kit_tup p.d)) ?_
    cases p with
    | nm s =>
      rw [Pl.d]
      repeat (walk_at "z")
      refine z_bF' rfl ?_
      repeat (walk_at "z")
      refine z_newL z' (by simp) fun p2 G2 H2 z2 s2 e2 => ?_
      repeat (walk_at "z")
      refine z_extLast z2 (z2.sub _ _ e2) (by rw [hal]; simp [parts1] at hl; simp; omega) fun H3 z3 => ?_
      repeat (walk_at "z")
      refine ⟨_, _, z3, _, _, rfl, s'.trans s2, ?_, rfl⟩
      rw [e1]
      exact dts_app (hA.up s2) (by show Dts K G2 [x] (Pl.dl [.nm s]); rw [dl_map]; exact .cons (hx'.up s2) .nil)
    | nd h rs =>
      obtain ⟨b, xr, rfl, hB, hR⟩ := dt_nd hx'
      have hr' := pls_len hR
      rw [Pl.d]
      repeat (walk_at "z")
      refine z_bT' rfl ?_
      repeat (walk_at "z")
      refine z_ixT z' hB at_zero ?_
      repeat (walk_at "z")
      refine z_eqS rfl ?_
      rw [str_th]
      repeat (walk_at "z")
      refine z_bd (fun c => ?_) (fun c => ?_)
      · subst c
        repeat (walk_at "z")
        refine z_slT z' hB fun p2 G2 H2 z2 s2 e2 => ?_
        rw [cut_tail] at e2
        repeat (walk_at "z")
        refine z_extLastT z2 (z2.seqT e2) (by rw [hal, hr']; simp [parts1] at hl; omega) fun H3 z3 => ?_
        repeat (walk_at "z")
        refine ⟨_, _, z3, _, _, rfl, s'.trans s2, ?_, rfl⟩
        rw [e1]
        exact dts_app (hA.up s2) (hR.up s2)
      · have ep : parts1 (.nd h rs) = [.nd h rs] := by unfold parts1; cases h <;> first | rfl | exact absurd rfl c
        repeat (walk_at "z")
        refine z_newL z' (by simp) fun p2 G2 H2 z2 s2 e2 => ?_
        repeat (walk_at "z")
        refine z_extLast z2 (z2.sub _ _ e2) (by rw [hal]; rw [ep] at hl; simp at hl; simp; omega) fun H3 z3 => ?_
        repeat (walk_at "z")
        refine ⟨_, _, z3, _, _, rfl, s'.trans s2, ?_, rfl⟩
        rw [e1, ep]
        exact dts_app (hA.up s2) (by rw [dl_map]; exact .cons (hx'.up s2) .nil)
  · rintro σ G1 M1 H2 ⟨k2, acc, rfl, s1, hA, rfl⟩ z2
    rw [pls_len hD, List.take_length] at hA
    have hal := pls_len hA
    have hfl : (flat ps).length ≤ 20000 := Nat.le_trans (len_szl _) (Nat.le_trans (flat_sz _) hz)
    have hM := SqL.of (K := K) (z2.at_ M.length last_at)
    repeat (walk_at "z")
    refine z_lenH (.inl hM) ?_
    repeat (walk_at "z")
    refine z_eqS rfl ?_
    repeat (walk_at "z")
    by_cases c : acc.length = 1
    · refine z_bT' (decide_eq_true (by rw [c]; rfl)) ?_
      repeat (walk_at "z")
      match acc, c, hA, hM with
      | [x], _, hA, hM =>
        refine z_ixH hM at_zero ?_
        obtain ⟨p, hp⟩ : ∃ p, flat ps = [p] := by
          match flat ps, hal with
          | [p], _ => exact ⟨p, rfl⟩
        have e : seqn ps = p := by unfold seqn; rw [hp]; rfl
        rw [hp, dl_map] at hA
        cases hA with
        | cons h1 h2 => exact q x _ _ z2.cut s1 (by rw [e]; exact h1)
    · refine z_bF' (decide_eq_false (by intro e; have := V.int.inj e; omega)) ?_
      repeat (walk_at "z")
      refine z_stL hM ?_
      repeat (walk_at "z")
      refine z_newT z2.cut (by simp; omega) fun p3 G3 H3 z3 s3 e3 => ?_
      refine q _ _ _ z3 (s1.trans s3) ?_
      have e : seqn ps = .nd .th (flat ps) := by
        unfold seqn
        rcases wrap_cases (flat ps) with ⟨x, e1, _⟩ | e
        · rw [e1] at hal; exact absurd hal c
        · exact e
      rw [e]
      rw [List.append_nil] at e3
      exact dt_mk (SqT.of e3) (hA.up s3)
def spAlong (K : PySem.W.Frag) : Sp := fun vs H Q _ => ∃ G M v1 v2 a b, vs = [v1, v2] ∧ Zp G M H ∧ Dt K G v1 (Pl.d a) ∧ Dt K G v2 (Pl.d b) ∧ Nms a ∧ Nms b ∧ a.dp ≤ 55 ∧ b.dp ≤ 55 ∧ ∀ v G1 H1, Zp G1 M H1 → Same G G1 → Dt K G1 v (along a b).d → Q v H1
theorem dt_done (T : Nm K mg) (G : Hp) : Dt K G (.ref (gA "DONE" K)) (.tuple [.str "then"]) := .tup (T.d_DONE G) (.cons (.str _) .nil)
theorem ok_alongside (T : Nm K mg) (F : FnP K "alongside" s_alongside f fd) : FnOk P w K mg base CX0 1 f fd ["one", "other"] (spAlong K) := by
  have nd : N_alongside.Nodup := sc_alongside.nd
  refine F.ok sc_alongside (fun vs H Q E h => ?_) (fun cdv A outer s H vs Q E hr h => ?_)
  · obtain ⟨G, M, v1, v2, a, b, rfl, _⟩ := h
    rfl
  have hu := hr.units
  refine ⟨_, PSs.nox   (pss_cons (ps_if (pt_cmpR (k_eq (K := K) hu) (pv 0) (pe_gC T.g_DONE (by rfl)) (nomark _)) (pss_one (ps_ret (pv 1))) pss_nil)
    (pss_one (ps_ret (pe_ifExp (pt_cmpR (k_eq (K := K) hu) (pv 1) (pe_gC T.g_DONE (by rfl)) (nomark _)) (pv 0) (pe_tup (pa_cons pe_str (pa_cons (pv 0) (pa_cons (pv 1) pa_nil)))))))), ?_⟩
  obtain ⟨G, M, v1, v2, a, b, rfl, z, h1, h2, n1, n2, l1, l2, q⟩ := h
  repeat (walk_at "z")
  refine z_eqD z h1 (dt_done T G) (pd_shaped n1 (by omega)) done_shaped ?_
  rw [eqv_done]
  cases c1 : isDone a with
  | true =>
    repeat (walk_at "z")
    exact q v2 G H z (Same.refl _) (by unfold along; rw [c1]; exact h2)
  | false =>
    repeat (walk_at "z")
    refine z_eqD z h2 (dt_done T G) (pd_shaped n2 (by omega)) done_shaped ?_
    rw [eqv_done]
    cases c2 : isDone b with
    | true =>
      repeat (walk_at "z")
      exact q v1 G H z (Same.refl _) (by unfold along; rw [c1, c2]; exact h1)
    | false =>
      repeat (walk_at "z")
      refine z_newT z (by simp) fun p G1 H1 z1 s1 e1 => ?_
      refine q _ G1 H1 z1 s1 ?_
      unfold along
      rw [c1, c2]
      exact dt_mk (h := .be) (ps := [a, b]) (SqT.of e1) (by rw [dl_map]; exact .cons (h1.up s1) (.cons (h2.up s1) .nil))
def spNF (K : PySem.W.Frag) (n : Nat) : Sp := fun vs H Q _ => ∃ G M v p b, vs = [v] ∧ Zp G M H ∧ Dt K G v (Pl.d p) ∧ Ok b p ∧ p.dp < n ∧ p.dp ≤ 50 ∧ p.sz ≤ 5000 ∧ ∀ v' G1 H1, Zp G1 M H1 → Same G G1 → Dt K G1 v' (nf p).d → Q v' H1
theorem ok_normal_form {n : Nat} (T : Nm K mg) (C_sequence : Own P w K mg base CX0 1 "sequence" ["parts"] (spSeq K)) (C_alongside : Own P w K mg base CX0 1 "alongside" ["one", "other"] (spAlong K)) (C_normal_form : Own P w K mg base CX0 (n + 1) "normal_form" ["plan"] (spNF K n)) (F : FnP K "normal_form" s_normal_form f fd) : FnOk P w K mg base CX0 (n + 2) f fd ["plan"] (spNF K (n + 1)) := by
  have nd : N_normal_form.Nodup := sc_normal_form.nd
  refine F.ok sc_normal_form (fun vs H Q E h => ?_) (fun cdv A outer s H vs Q E hr h => ?_)
  · obtain ⟨G, M, v, p, b, rfl, _⟩ := h
    rfl
  have hu := hr.units
  refine ⟨_, PSs.nox   (pss_cons (ps_if (pt_val (pe_callB (kc_isi (K := K)) (by rfl) T.b_isinstance boot_isinstance (pa_cons (pv 0) (pa_cons (pe_bltn (v := .ty "str") (by rfl) T.b_str boot_str rfl) pa_nil)))) (pss_one (ps_ret (pv 0))) pss_nil)
    (pss_cons (ps_setLc (i := 1) (own := [("part", 2)]) (tt := tYes) rfl nd rfl rfl (sw_true rfl rfl rfl (by decide +kernel)) (k_any (K := K) (pe_slice (k_sl (K := K)) (pv 0) (po_some pe_int) po_none)) (blkOk_by (N := N_normal_form) (sc := defScope s_normal_form) (by decide +kernel)) (fun _ _ _ _ _ => (pg_name (i := 2) nd rfl (by first | exact .inl rfl | exact .inr rfl))) (fun _ _ _ _ _ => pts_nil) (fun _ _ _ _ _ => (pe_own C_normal_form (hr.mono (by omega)) (by rfl) pass0 (pa_cons (pv 2) pa_nil))))
    (pss_cons (ps_if (pt_cmpR (k_eq (K := K) hu) (pe_ix (k_ix (K := K)) (pv 0) pe_int (fun _ _ => rfl)) pe_str (nomark _)) (pss_one (ps_ret (pe_own C_sequence (hr.mono (by omega)) (by rfl) pass0 (pa_cons (pv 1) pa_nil)))) pss_nil)
    (pss_one (ps_ret (pe_ifExp (pt_cmpR (k_eq (K := K) hu) (pe_ix (k_ix (K := K)) (pv 0) pe_int (fun _ _ => rfl)) pe_str (nomark _)) (pe_own C_alongside (hr.mono (by omega)) (by rfl) pass0 (pa_cons (pe_ix (k_ix (K := K)) (pv 1) pe_int (fun _ _ => rfl)) (pa_cons (pe_ix (k_ix (K := K)) (pv 1) pe_int (fun _ _ => rfl)) pa_nil))) (pe_tup (pa_cons (pe_ix (k_ix (K := K)) (pv 0) pe_int (fun _ _ => rfl)) (k_star (K := K) (pv 1) pa_nil))))))))), ?_⟩
  obtain ⟨G, M, v, p, b, rfl, z, hd, hO, hn, h50, hsz, q⟩ := h
  repeat (walk_at "z")
  refine z_isi (.ty "str") (hd.up z.sub).ty (kit_ty (kit_str p.d)) ?_
  cases p with
  | nm s =>
    rw [Pl.d]
    repeat (walk_at "z")
    refine z_bT' rfl ?_
    repeat (walk_at "z")
    exact q v G H z (Same.refl _) (by rw [nf]; exact hd)
  | nd h ps =>
    obtain ⟨a, xr, rfl, hS, hR⟩ := dt_nd hd
    rw [Pl.dp] at hn h50
    rw [Pl.sz] at hsz
    have hps := pls_len hR
    rw [Pl.d]
    repeat (walk_at "z")
    refine z_bF' rfl ?_
    repeat (walk_at "z")
    refine z_anyT ?_
    repeat (walk_at "z")
    refine z_slT z hS fun p2 G2 H2 z2 s2 e2 => ?_
    rw [cut_tail] at e2
    refine z_itT z2 e2 ?_
    refine lc_src src_T (fun i G' M' acc => M' = M ∧ Same G2 G' ∧ Dts K G' acc (Pl.dl ((ps.take i).map nf))) z2 ⟨rfl, Same.refl _, .nil⟩ (fun i G' M' M1 acc H' ⟨_, s', _⟩ z' => z'.seqT (upT s' e2)) ?_ ?_
    · rintro i x G' M' acc Dl H' hx ⟨rfl, s', hA⟩ z'
      obtain ⟨p, hp, hx'⟩ := pl_at (hR.up (s2.trans s')) hx
      have hm := List.mem_of_getElem? hp
      have h1 := dp_mem hm
      have h2 := sz_mem hm
      have hlt : i < ps.length := (List.getElem?_eq_some_iff.mp hp).1
      have hl2 := len_szl ps
      have hal := pls_len hA
      rw [List.length_map, List.length_take] at hal
      repeat (walk_at "z")
      refine ⟨by rfl, ?_⟩
      repeat (walk_at "z")
      refine ⟨G', _, x, p, _, rfl, z', hx', hO.kids p hm, by omega, by omega, by omega, fun v' G3 H3 z3 s3 h3 => ?_⟩
      refine z_laid z3 (by omega) ⟨rfl, s'.trans s3, ?_⟩
      rw [take_snoc hp, List.map_append]
      exact dts_app (hA.up s3) (by rw [dl_map]; exact .cons h3 .nil)
    rintro p3 G3' M3 acc G3 H3 ⟨rfl, s3', hA⟩ s3 z3 e3
    rw [hps, List.take_length] at hA
    have hA := hA.up s3
    have s23 := s2.trans (s3'.trans s3)
    have hk : ∀ x ∈ ps.map nf, Ok (b || decide (h = .be)) x := fun x hx => by
      obtain ⟨p, hp, rfl⟩ := List.mem_map.mp hx
      exact nf_ok p _ (hO.kids p hp)
    have hdp : ∀ x ∈ ps.map nf, x.dp ≤ 50 := fun x hx => by
      obtain ⟨p, hp, rfl⟩ := List.mem_map.mp hx
      have := nf_dp p
      have := dp_mem hp
      omega
    have hz : Pl.szl (ps.map nf) ≤ 5000 := by
      have := nfl_sz ps fun p _ => nf_sz p
      rw [nfl_map] at this
      omega
    have enf : nf (.nd h ps) = mk h (ps.map nf) := by rw [nf, nfl_map]
    rw [enf] at q
    repeat (walk_at "z")
    refine z_ixT z3 (upT s23 hS) at_zero ?_
    repeat (walk_at "z")
    refine z_eqS rfl ?_
    rw [str_th]
    repeat (walk_at "z")
    refine z_bd (fun c => ?_) (fun c => ?_)
    · subst c
      repeat (walk_at "z")
      exact ⟨G3, _, p3, acc, _, rfl, z3, SqL.of e3, hA, by omega, fun v G4 H4 z4 s4 h4 => q v G4 H4 z4 (s23.trans s4) h4⟩
    · repeat (walk_at "z")
      refine z_ixT z3 (upT s23 hS) at_zero ?_
      repeat (walk_at "z")
      refine z_eqS rfl ?_
      rw [str_be]
      repeat (walk_at "z")
      refine z_bd (fun c2 => ?_) (fun c2 => ?_)
      · subst c2
        have f2 : ps.length = 2 := of_decide_eq_true hO.fit
        obtain ⟨x, y, hxy⟩ : ∃ x y, ps.map nf = [x, y] := by
          match ps, f2 with
          | [x, y], _ => exact ⟨_, _, rfl⟩
        rw [hxy] at hA hk hdp q
        rw [dl_map] at hA
        cases hA with
        | cons hA1 hA2 =>
        cases hA2 with
        | cons hA2 hA3 =>
        cases hA3
        repeat (walk_at "z")
        refine z_ixL z3 (SqL.of e3) at_zero ?_
        repeat (walk_at "z")
        refine z_ixL z3 (SqL.of e3) at_one ?_
        repeat (walk_at "z")
        have d1 := hdp x (by simp)
        have d2 := hdp y (by simp)
        exact ⟨G3, _, _, _, x, y, rfl, z3, hA1, hA2, Ok.nms _ _ (hk x (by simp)), Ok.nms _ _ (hk y (by simp)), by omega, by omega, fun v G4 H4 z4 s4 h4 => q v G4 H4 z4 (s23.trans s4) h4⟩
      · have hal := pls_len hA
        rw [List.length_map] at hal
        have hl2 := len_szl ps
        repeat (walk_at "z")
        refine z_ixT z3 (upT s23 hS) at_zero ?_
        repeat (walk_at "z")
        refine z_stL (z3.seqL (SqL.of e3)) ?_
        repeat (walk_at "z")
        refine z_newT z3 (by simp; omega) fun p4 G4 H4 z4 s4 e4 => ?_
        rw [List.append_nil] at e4
        refine q _ G4 H4 z4 (s23.trans s4) ?_
        have e : mk h (ps.map nf) = .nd h (ps.map nf) := by
          rcases mk_cases h (ps.map nf) with ⟨e, _⟩ | ⟨_, _, e, _⟩ | ⟨_, e⟩
          · exact absurd e c
          · exact absurd e c2
          · exact e
        rw [e]
        exact dt_mk (SqT.of e4) (hA.up s4)
end
end LW
namespace LW
open PySem PySem.Spec PyProof.Rows L2 Ys

theorem nmsLl_app : ∀ xs ys : List Pl, nmsLl (xs ++ ys) = nmsLl xs ++ nmsLl ys
  | [], ys => by simp [nmsLl]
  | x :: xs, ys => by rw [List.cons_append, nmsLl, nmsLl, nmsLl_app xs ys, List.append_assoc]
theorem nmsLl_take (ps : List Pl) (i : Nat) : (nmsLl (ps.take i)).length ≤ (nmsLl ps).length := by
  have e : nmsLl ps = nmsLl (ps.take i) ++ nmsLl (ps.drop i) := by rw [← nmsLl_app, List.take_append_drop]
  rw [e, List.length_append]
  omega
theorem nms_len : ∀ p : Pl, (nmsL p).length ≤ p.sz := Pl.ind (fun s => by rw [nmsL, Pl.sz]; exact Nat.le_refl _) fun h ps ih => by
  rw [nmsL, Pl.sz]
  have go : ∀ l : List Pl, (∀ p ∈ l, p ∈ ps) → (nmsLl l).length ≤ Pl.szl l := by
    intro l
    induction l with
    | nil => intro _; simp [nmsLl]
    | cons a r ihr =>
      intro hl
      have := ih a (hl a (by simp))
      have := ihr fun p hp => hl p (List.mem_cons_of_mem _ hp)
      rw [nmsLl, Pl.szl, List.length_append]
      omega
  have := go ps fun _ h => h
  omega
theorem joinS_len : ∀ ts : List Str, (Txt.join ", " ts).length ≤ (ts.map (·.length)).sum + ts.length * 2
  | [] => Nat.zero_le _
  | [x] => by
    show (Txt.join ", " [x]).length ≤ _
    rw [TL.join_eq]
    show x.length ≤ _
    simp
  | x :: y :: r => by
    have ih := joinS_len (y :: r)
    rw [TL.join_eq] at ih ⊢
    show (x ++ ", " ++ Str.join ", " (y :: r)).length ≤ _
    have e2 : ((", " : String) : Str).length = 2 := rfl
    rw [PySem.Str.length_append, PySem.Str.length_append, e2]
    simp only [List.map_cons, List.sum_cons, List.length_cons] at ih ⊢
    omega
theorem txts_len {ps : List Pl} (h : ∀ p ∈ ps, (txt p).length + 2 ≤ 12 * p.sz) : ((ps.map txt).map (·.length)).sum + (ps.map txt).length * 2 ≤ 12 * Pl.szl ps := by
  induction ps with
  | nil => simp
  | cons p ps ih =>
    have h1 := h p (by simp)
    have h2 := ih fun q hq => h q (List.mem_cons_of_mem _ hq)
    simp only [List.map_cons, List.sum_cons, List.length_cons, Pl.szl] at h2 ⊢
    omega
theorem txt_len : ∀ p, Nms p → (txt p).length + 2 ≤ 12 * p.sz := Pl.ind (fun s k => by
    cases k with
    | nm k =>
      have := k.2.1
      rw [txt, Pl.sz]
      omega) fun h ps ih k => by
  have h1 := txts_len fun p hp => ih p hp (k.kids p hp)
  have h2 := joinS_len (ps.map txt)
  have h3 := hd_len h
  rw [txt, txtl_map, Pl.sz, len_app, len_app, len_app]
  have e1 : ("(" : Str).length = 1 := rfl
  have e2 : (")" : Str).length = 1 := rfl
  omega
section
variable {P : Program} {w : World} {K : PySem.W.Frag} {mg : Str → Option Value} {base : Heap} {f : Addr} {fd : FuncData}
def spNames (K : PySem.W.Frag) (n : Nat) : Sp := fun vs H Q _ => ∃ G M v p, vs = [v] ∧ Zp G M H ∧ Dt K G v (Pl.d p) ∧ p.dp < n ∧ p.sz ≤ 5000 ∧ ∀ l G1 H1, Zp G1 M H1 → Same G G1 → G1 l = some (.lst ((nmsL p).map V.str)) → Q (.ref l) H1
theorem ok_name_list {n : Nat} (T : Nm K mg) (C_name_list : Own P w K mg base CX0 (n + 1) "name_list" ["plan"] (spNames K n)) (F : FnP K "name_list" s_name_list f fd) : FnOk P w K mg base CX0 (n + 2) f fd ["plan"] (spNames K (n + 1)) := by
  have nd : N_name_list.Nodup := sc_name_list.nd
  refine F.ok sc_name_list (fun vs H Q E h => ?_) (fun cdv A outer s H vs Q E hr h => ?_)
  · obtain ⟨G, M, v, p, rfl, _⟩ := h
    rfl
  have hu := hr.units
  refine ⟨_, PSs.nox   (pss_cons (ps_if (pt_val (pe_callB (kc_isi (K := K)) (by rfl) T.b_isinstance boot_isinstance (pa_cons (pv 0) (pa_cons (pe_bltn (v := .ty "str") (by rfl) T.b_str boot_str rfl) pa_nil)))) (pss_one (ps_ret (pe_lst (pa_cons (pv 0) pa_nil)))) pss_nil)
    (pss_cons (ps_asg (pe_lst pa_nil) (pg_name (i := 1) nd rfl (by first | exact .inl rfl | exact .inr rfl)))
    (pss_cons (ps_for PassesOwn.never rfl (k_any (K := K) (pe_slice (k_sl (K := K)) (pv 0) (po_some pe_int) po_none)) (pg_name (i := 2) nd rfl (by first | exact .inl rfl | exact .inr rfl)) (pss_one (ps_expr (pe_bm PySem.F.plainAttrs_list PySem.F.slot_list_extend PySem.F.type_list_extend (mt_ext2 (K := K)) (pv 1) (pa_cons (pe_own C_name_list (hr.mono (by omega)) (by rfl) pass0 (pa_cons (pv 2) pa_nil)) pa_nil)))))
    (pss_one (ps_ret (pv 1)))))), ?_⟩
  obtain ⟨G, M, v, p, rfl, z, hd, hn, hsz, q⟩ := h
  repeat (walk_at "z")
  refine z_isi (.ty "str") (hd.up z.sub).ty (kit_ty (kit_str p.d)) ?_
  cases p with
  | nm s =>
    have e := dt_nm hd
    subst e
    rw [Pl.d]
    repeat (walk_at "z")
    refine z_bT' rfl ?_
    repeat (walk_at "z")
    refine z_newL z (by simp) fun l G1 H1 z1 s1 e1 => ?_
    exact q l G1 H1 z1 s1 (by rw [nmsL]; exact e1)
  | nd h ps =>
    obtain ⟨a, xr, rfl, hS, hR⟩ := dt_nd hd
    rw [Pl.dp] at hn
    rw [Pl.sz] at hsz
    have hps := pls_len hR
    rw [Pl.d]
    repeat (walk_at "z")
    refine z_bF' rfl ?_
    repeat (walk_at "z")
    refine z_ownL z (by simp) fun fa H1 z1 => ?_
    repeat (walk_at "z")
    refine z_anyT ?_
    repeat (walk_at "z")
    refine z_slT z1 hS fun p2 G2 H2 z2 s2 e2 => ?_
    rw [cut_tail] at e2
    refine z_itT z2 e2 ?_
    refine for_src src_T (fun i σ G' M' => ∃ k2, M' = M ++ [(fa, .lst ((nmsLl (ps.take i)).map V.str))] ∧ Same G2 G' ∧ σ = [some (.ref a), some (.ref fa), k2]) z2 ⟨_, rfl, Same.refl _, rfl⟩ (fun i σ G' M' H' ⟨_, _, s', _⟩ z' => z'.seqT (upT s' e2)) ?_ ?_
    · rintro i x σ G' M' H' hx ⟨k2, rfl, s', rfl⟩ z'
      obtain ⟨p, hp, hx'⟩ := pl_at (hR.up (s2.trans s')) hx
      have hm := List.mem_of_getElem? hp
      have h1 := dp_mem hm
      have h2 := sz_mem hm
      have hl : (nmsLl (ps.take (i + 1))).length ≤ 5000 := by
        have := nmsLl_take ps (i + 1)
        have := nms_len (.nd h ps)
        rw [nmsL, Pl.sz] at this
        omega
      have e1 : nmsLl (ps.take (i + 1)) = nmsLl (ps.take i) ++ nmsL p := by
        rw [take_snoc hp, nmsLl_app]
        simp [nmsLl]
      rw [e1, List.length_append] at hl
      repeat (walk_at "z")
      refine z_tyO z' M.length last_at ?_
      repeat (walk_at "z")
      refine ⟨G', _, x, p, rfl, z', hx', by omega, by omega, fun l G3 H3 z3 s3 e3 => ?_⟩
      repeat (walk_at "z")
      refine z_extLast z3 (z3.sub _ _ e3) (by rw [List.length_map, List.length_map]; omega) fun H4 z4 => ?_
      repeat (walk_at "z")
      exact ⟨_, _, z4, _, by rw [e1, List.map_append], s'.trans s3, rfl⟩
    · rintro σ G3 M3 H3 ⟨k2, rfl, s3, rfl⟩ z3
      rw [hps, List.take_length] at z3
      repeat (walk_at "z")
      have e : nmsL (.nd h ps) = nmsLl ps := by rw [nmsL]
      rw [e] at q
      exact q fa _ _ z3.fix (s2.trans (s3.trans (Same.new (z3.own M.length _ _ last_at).2))) upd_same
def spNamesIn (K : PySem.W.Frag) (n : Nat) : Sp := fun vs H Q _ => ∃ G M v p, vs = [v] ∧ Zp G M H ∧ Dt K G v (Pl.d p) ∧ p.dp < n ∧ p.sz ≤ 5000 ∧ (nmsL p).length < 64 ∧ ∀ l G1 H1, Zp G1 M H1 → Same G G1 → SqT K G1 l ((asc (nmsL p)).map V.str) → Q (.ref l) H1
theorem ok_names_in {n : Nat} (T : Nm K mg) (C_name_list : Own P w K mg base CX0 (n + 1) "name_list" ["plan"] (spNames K n)) (C_ascending : Own P w K mg base CX0 1 "ascending" ["words"] (spAsc K)) (F : FnP K "names_in" s_names_in f fd) : FnOk P w K mg base CX0 (n + 2) f fd ["plan"] (spNamesIn K n) := by
  have nd : N_names_in.Nodup := sc_names_in.nd
  refine F.ok sc_names_in (fun vs H Q E h => ?_) (fun cdv A outer s H vs Q E hr h => ?_)
  · obtain ⟨G, M, v, p, rfl, _⟩ := h
    rfl
  have hu := hr.units
  refine ⟨_, PSs.nox   (pss_one (ps_ret (pe_own C_ascending (hr.mono (by omega)) (by rfl) pass0 (pa_cons (pe_own C_name_list (hr.mono (by omega)) (by rfl) pass0 (pa_cons (pv 0) pa_nil)) pa_nil)))), ?_⟩
  obtain ⟨G, M, v, p, rfl, z, hd, hn, hsz, h64, q⟩ := h
  repeat (walk_at "z")
  refine ⟨G, M, v, p, rfl, z, hd, hn, hsz, fun l G1 H1 z1 s1 e1 => ?_⟩
  repeat (walk_at "z")
  exact ⟨G1, M, l, nmsL p, rfl, z1, SqL.of (z1.sub _ _ e1), h64, fun l2 G2 H2 z2 s2 e2 => q l2 G2 H2 z2 (s1.trans s2) e2⟩
def spText (K : PySem.W.Frag) (n : Nat) : Sp := fun vs H Q _ => ∃ G M v p, vs = [v] ∧ Zp G M H ∧ Dt K G v (Pl.d p) ∧ Nms p ∧ p.dp < n ∧ p.sz ≤ 5000 ∧ ∀ G1 H1, Zp G1 M H1 → Same G G1 → Q (.str (txt p)) H1
theorem ok_plan_text {n : Nat} (T : Nm K mg) (C_plan_text : Own P w K mg base CX0 (n + 1) "plan_text" ["plan"] (spText K n)) (F : FnP K "plan_text" s_plan_text f fd) : FnOk P w K mg base CX0 (n + 2) f fd ["plan"] (spText K (n + 1)) := by
  have nd : N_plan_text.Nodup := sc_plan_text.nd
  refine F.ok sc_plan_text (fun vs H Q E h => ?_) (fun cdv A outer s H vs Q E hr h => ?_)
  · obtain ⟨G, M, v, p, rfl, _⟩ := h
    rfl
  have hu := hr.units
  refine ⟨_, PSs.nox   (pss_cons (ps_if (pt_val (pe_callB (kc_isi (K := K)) (by rfl) T.b_isinstance boot_isinstance (pa_cons (pv 0) (pa_cons (pe_bltn (v := .ty "str") (by rfl) T.b_str boot_str rfl) pa_nil)))) (pss_one (ps_ret (pv 0))) pss_nil)
    (pss_one (ps_ret (pe_op (k_add (K := K)) (pe_op (k_add (K := K)) (pe_op (k_add (K := K)) (pe_ix (k_ix (K := K)) (pv 0) pe_int (fun _ _ => rfl)) pe_str) (pe_joinG pe_str (pe_lc (own := [("part", 1)]) (tt := tYes) rfl nd (k_any (K := K) (pe_slice (k_sl (K := K)) (pv 0) (po_some pe_int) po_none)) (blkOk_by (N := N_plan_text) (sc := defScope s_plan_text) (by decide +kernel)) (fun _ _ _ _ _ => (pg_name (i := 1) nd rfl (by first | exact .inl rfl | exact .inr rfl))) (fun _ _ _ _ _ => pts_nil) (fun _ _ _ _ _ => (pe_own C_plan_text (hr.mono (by omega)) (by rfl) pass0 (pa_cons (pv 1) pa_nil)))))) pe_str)))), ?_⟩
  obtain ⟨G, M, v, p, rfl, z, hd, hN, hn, hsz, q⟩ := h
  repeat (walk_at "z")
  refine z_isi (.ty "str") (hd.up z.sub).ty (kit_ty (kit_str p.d)) ?_
  cases p with
  | nm s =>
    have e := dt_nm hd
    subst e
    rw [Pl.d]
    repeat (walk_at "z")
    refine z_bT' rfl ?_
    repeat (walk_at "z")
    have := q G H z (Same.refl _)
    rw [txt] at this
    exact this
  | nd h ps =>
    obtain ⟨a, xr, rfl, hS, hR⟩ := dt_nd hd
    rw [Pl.dp] at hn
    rw [Pl.sz] at hsz
    have hps := pls_len hR
    have hl := txts_len fun p hp => txt_len p (hN.kids p hp)
    have hj := joinS_len (ps.map txt)
    have h8 := hd_len h
    have c1 : ("(" : Str).length = 1 := rfl
    have c2 : (")" : Str).length = 1 := rfl
    have c3 : (", " : Str).length = 2 := rfl
    rw [Pl.d]
    repeat (walk_at "z")
    refine z_bF' rfl ?_
    repeat (walk_at "z")
    refine z_ixT z hS at_zero ?_
    repeat (walk_at "z")
    refine z_addS (by omega) ?_
    repeat (walk_at "z")
    refine z_anyT ?_
    repeat (walk_at "z")
    refine z_slT z hS fun p2 G2 H2 z2 s2 e2 => ?_
    rw [cut_tail] at e2
    refine z_itT z2 e2 ?_
    refine lc_src src_T (fun i G' M' acc => M' = M ∧ Same G2 G' ∧ acc = ((ps.take i).map txt).map V.str) z2 ⟨rfl, Same.refl _, rfl⟩ (fun i G' M' M1 acc H' ⟨_, s', _⟩ z' => z'.seqT (upT s' e2)) ?_ ?_
    · rintro i x G' M' acc Dl H' hx ⟨rfl, s', rfl⟩ z'
      obtain ⟨p, hp, hx'⟩ := pl_at (hR.up (s2.trans s')) hx
      have hm := List.mem_of_getElem? hp
      have h1 := dp_mem hm
      have h2 := sz_mem hm
      have hl2 := len_szl ps
      repeat (walk_at "z")
      refine ⟨by rfl, ?_⟩
      repeat (walk_at "z")
      refine ⟨G', _, x, p, rfl, z', hx', hN.kids p hm, by omega, by omega, fun G3 H3 z3 s3 => ?_⟩
      refine z_laid z3 (by rw [List.length_map, List.length_map, List.length_take]; omega) ⟨rfl, s'.trans s3, ?_⟩
      rw [take_snoc hp, List.map_append, List.map_append]
      rfl
    rintro p3 G3' M3 acc G3 H3 ⟨rfl, s3', rfl⟩ s3 z3 e3
    rw [hps, List.take_length] at e3
    refine z_join z3 (SqL.of e3) (by rw [c3]; omega) ?_
    repeat (walk_at "z")
    have l1 : (h.s ++ "(" : Str).length = h.s.length + 1 := by rw [len_app]; rfl
    refine z_addS (by omega) ?_
    have l2 : (h.s ++ "(" ++ Txt.join ", " (ps.map txt) : Str).length = h.s.length + 1 + (Txt.join ", " (ps.map txt)).length := by rw [len_app, l1]
    repeat (walk_at "z")
    refine z_addS (by omega) ?_
    repeat (walk_at "z")
    have := q G3 H3 z3 (s2.trans (s3'.trans s3))
    rw [txt, txtl_map] at this
    exact this
end
end LW
namespace LW
open PySem PySem.Spec PyProof.Rows L2 Ys

theorem cut_tail2 {x y : V} {xr : List V} : cutV (x :: y :: xr) (some 2) none = xr := by
  have e1 : HT.sIx (x :: y :: xr).length 0 (some 2) = min 2 (x :: y :: xr).length := HT.sIx_nat (x :: y :: xr).length 0 2
  have e2 : HT.sIx (x :: y :: xr).length (x :: y :: xr).length none = (x :: y :: xr).length := rfl
  have e3 : min 2 (x :: y :: xr).length = 2 := by rw [List.length_cons, List.length_cons]; omega
  unfold cutV
  rw [e1, e2, e3, List.drop_succ_cons, List.drop_succ_cons, List.drop_zero, List.length_cons, List.length_cons]
  exact List.take_of_length_le (by omega)
theorem pl_all {K : PySem.W.Frag} {G : Hp} {x : V} {p : Pl} (h : Dt K G x p.d) : Dts K G [x] (Pl.dl [p]) := by rw [dl_map]; exact .cons h .nil
theorem pl_cons {K : PySem.W.Frag} {G : Hp} {xr : List V} {a : Pl} {r : List Pl} (h : Dts K G xr (Pl.dl (a :: r))) : ∃ x ys, xr = x :: ys ∧ Dt K G x a.d ∧ Dts K G ys (Pl.dl r) := by
  rw [dl_map, List.map_cons, ← dl_map] at h
  cases h with
  | cons h1 h2 => exact ⟨_, _, rfl, h1, h2⟩
theorem pl_nil {K : PySem.W.Frag} {G : Hp} {xr : List V} (h : Dts K G xr (Pl.dl [])) : xr = [] := by
  rw [dl_map] at h
  cases h
  rfl
theorem Zp.settle {G H : Hp} {M : List (Addr × HO)} {l : Addr} {o : HO} (z : Zp G (M ++ [(l, o)]) H) : ∃ G2, Zp G2 M H ∧ Same G G2 ∧ G2 l = some o := ⟨_, z.fix, Same.new (z.own M.length _ _ last_at).2, upd_same⟩
theorem szl_mem2 {a : Pl} {r : List Pl} : Pl.szl (a :: r) = a.sz + Pl.szl r := by rw [Pl.szl]
section
variable {P : Program} {w : World} {K : PySem.W.Frag} {mg : Str → Option Value} {base : Heap} {f : Addr} {fd : FuncData}
abbrev OwnS (P : Program) (w : World) (K : PySem.W.Frag) (mg : Str → Option Value) (base : Heap) : Prop := Own P w K mg base CX0 1 "sequence" ["parts"] (spSeq K)
abbrev OwnAl (P : Program) (w : World) (K : PySem.W.Frag) (mg : Str → Option Value) (base : Heap) : Prop := Own P w K mg base CX0 1 "alongside" ["one", "other"] (spAlong K)
def spWC (K : PySem.W.Frag) (n : Nat) : Sp := fun vs H Q _ => ∃ G M v p b, vs = [v] ∧ Zp G M H ∧ Dt K G v (Pl.d p) ∧ Ok b p ∧ p.dp < n ∧ p.dp ≤ 50 ∧ p.sz ≤ 5000 ∧ ∀ l xs G1 H1, Zp G1 (M ++ [(l, .lst xs)]) H1 → Same G G1 → Dts K G1 xs (Pl.dl (wc p)) → Q (.ref l) H1
theorem ok_world_choices {n : Nat} (T : Nm K mg) (C_sequence : OwnS P w K mg base) (C_alongside : OwnAl P w K mg base) (C_world_choices : Own P w K mg base CX0 (n + 1) "world_choices" ["plan"] (spWC K n)) (F : FnP K "world_choices" s_world_choices f fd) : FnOk P w K mg base CX0 (n + 2) f fd ["plan"] (spWC K (n + 1)) := by
  have nd : N_world_choices.Nodup := sc_world_choices.nd
  refine F.ok sc_world_choices (fun vs H Q E h => ?_) (fun cdv A outer s H vs Q E hr h => ?_)
  · obtain ⟨G, M, v, p, b, rfl, _⟩ := h
    rfl
  have hu := hr.units
  refine ⟨_, PSs.nox   (pss_cons (ps_if (PW.pt (pw_or (pt_val (pe_callB (kc_isi (K := K)) (by rfl) T.b_isinstance boot_isinstance (pa_cons (pv 0) (pa_cons (pe_bltn (v := .ty "str") (by rfl) T.b_str boot_str rfl) pa_nil)))) (pw_or (pt_cmpR (k_eq (K := K) hu) (pv 0) (pe_gC T.g_DONE (by rfl)) (nomark _)) (pw_or1 (pt_cmpR (k_eq (K := K) hu) (pe_ix (k_ix (K := K)) (pv 0) pe_int (fun _ _ => rfl)) pe_str (nomark _)))))) (pss_one (ps_ret (pe_lst pa_nil))) pss_nil)
    (pss_cons (ps_if (pt_cmpR (k_eq (K := K) hu) (pe_ix (k_ix (K := K)) (pv 0) pe_int (fun _ _ => rfl)) pe_str (nomark _)) (pss_one (ps_ret (pe_callTy (kc_list (K := K)) (by rfl) T.b_list boot_list (pa_cons (pe_slice (k_sl (K := K)) (pv 0) (po_some pe_int) po_none) pa_nil)))) pss_nil)
    (pss_cons (ps_if (pt_cmpR (k_eq (K := K) hu) (pe_ix (k_ix (K := K)) (pv 0) pe_int (fun _ _ => rfl)) pe_str (nomark _)) (pss_one (ps_ret (pe_lst (pa_cons (pe_gC T.g_DONE (by rfl)) (pa_cons (pe_own C_sequence (hr.mono (by omega)) (by rfl) pass0 (pa_cons (pe_lst (pa_cons (pe_ix (k_ix (K := K)) (pv 0) pe_int (fun _ _ => rfl)) (pa_cons (pv 0) pa_nil))) pa_nil)) pa_nil))))) pss_nil)
    (pss_cons (ps_if (pt_cmpR (k_eq (K := K) hu) (pe_ix (k_ix (K := K)) (pv 0) pe_int (fun _ _ => rfl)) pe_str (nomark _)) (pss_one (ps_ret (pe_lc (own := [("part", 2)]) (tt := tYes) rfl nd (k_any (K := K) (pe_own C_world_choices (hr.mono (by omega)) (by rfl) pass0 (pa_cons (pe_ix (k_ix (K := K)) (pv 0) pe_int (fun _ _ => rfl)) pa_nil))) (blkOk_by (N := N_world_choices) (sc := defScope s_world_choices) (by decide +kernel)) (fun _ _ _ _ _ => (pg_name (i := 2) nd rfl (by first | exact .inl rfl | exact .inr rfl))) (fun _ _ _ _ _ => pts_nil) (fun _ _ _ _ _ => (pe_own C_sequence (hr.mono (by omega)) (by rfl) pass0 (pa_cons (pe_lst (pa_cons (pv 2) (k_star (K := K) (pe_slice (k_sl (K := K)) (pv 0) (po_some pe_int) po_none) pa_nil))) pa_nil)))))) pss_nil)
    (pss_cons (ps_setLc (i := 1) (own := [("part", 2)]) (tt := tYes) rfl nd rfl rfl (sw_true rfl rfl rfl (by decide +kernel)) (k_any (K := K) (pe_own C_world_choices (hr.mono (by omega)) (by rfl) pass0 (pa_cons (pe_ix (k_ix (K := K)) (pv 0) pe_int (fun _ _ => rfl)) pa_nil))) (blkOk_by (N := N_world_choices) (sc := defScope s_world_choices) (by decide +kernel)) (fun _ _ _ _ _ => (pg_name (i := 2) nd rfl (by first | exact .inl rfl | exact .inr rfl))) (fun _ _ _ _ _ => pts_nil) (fun _ _ _ _ _ => (pe_own C_alongside (hr.mono (by omega)) (by rfl) pass0 (pa_cons (pv 2) (pa_cons (pe_ix (k_ix (K := K)) (pv 0) pe_int (fun _ _ => rfl)) pa_nil)))))
    (pss_one (ps_ret (pe_ifExp (pt_cmpR (k_ne (K := K) hu) (pv 1) (pe_lst pa_nil) (nomark _)) (pv 1) (pe_lc (own := [("part", 2)]) (tt := tYes) rfl nd (k_any (K := K) (pe_own C_world_choices (hr.mono (by omega)) (by rfl) pass0 (pa_cons (pe_ix (k_ix (K := K)) (pv 0) pe_int (fun _ _ => rfl)) pa_nil))) (blkOk_by (N := N_world_choices) (sc := defScope s_world_choices) (by decide +kernel)) (fun _ _ _ _ _ => (pg_name (i := 2) nd rfl (by first | exact .inl rfl | exact .inr rfl))) (fun _ _ _ _ _ => pts_nil) (fun _ _ _ _ _ => (pe_own C_alongside (hr.mono (by omega)) (by rfl) pass0 (pa_cons (pe_ix (k_ix (K := K)) (pv 0) pe_int (fun _ _ => rfl)) (pa_cons (pv 2) pa_nil))))))))))))), ?_⟩
  obtain ⟨G, M, v, p, b, rfl, z, hd, hO, hn, h50, hsz, q⟩ := h
  have hnm := Ok.nms _ _ hO
  have hsh := pd_shaped hnm (by omega)
  have hdone := eqv_done p
  repeat (walk_at "z")
  refine z_isi (.ty "str") (hd.up z.sub).ty (kit_ty (kit_str p.d)) ?_
  cases p with
  | nm s =>
    rw [Pl.d]
    repeat (walk_at "z")
    refine z_bT' rfl ?_
    repeat (walk_at "z")
    refine z_ownL z (by simp) fun l H1 z1 => ?_
    exact q l [] G H1 z1 (Same.refl _) (by rw [wc]; exact .nil)
  | nd h ps =>
    obtain ⟨a, xr, rfl, hS, hR⟩ := dt_nd hd
    have hk := hO.kids
    have hf := hO.fit
    rw [Pl.dp] at hn h50
    rw [Pl.sz] at hsz
    have hps := pls_len hR
    have ei : isStrD (Pl.nd h ps).d = false := by rw [Pl.d]; rfl
    rw [ei]
    repeat (walk_at "z")
    refine z_eqD z hd (dt_done T G) hsh done_shaped ?_
    rw [hdone]
    cases h with
    | th =>
      cases ps with
      | nil =>
        have e : isDone (Pl.nd .th []) = true := rfl
        rw [e]
        repeat (walk_at "z")
        refine z_ownL z (by simp) fun l H1 z1 => ?_
        exact q l [] G H1 z1 (Same.refl _) (by rw [wc, wcT]; exact .nil)
      | cons pa pr =>
        have e : isDone (Pl.nd .th (pa :: pr)) = false := rfl
        rw [e]
        obtain ⟨x, ys, rfl, hx, hy⟩ := pl_cons hR
        rw [Pl.szl] at hsz
        rw [Pl.dpl] at hn h50
        repeat (walk_at "z")
        refine z_ixT z hS at_zero ?_
        repeat (walk_at "z")
        refine z_eqS rfl ?_
        repeat (walk_at "z")
        refine z_bF' (by decide +kernel) ?_
        repeat (walk_at "z")
        refine z_ixT z hS at_zero ?_
        repeat (walk_at "z")
        refine z_eqS rfl ?_
        repeat (walk_at "z")
        refine z_bF' (by decide +kernel) ?_
        repeat (walk_at "z")
        refine z_ixT z hS at_zero ?_
        repeat (walk_at "z")
        refine z_eqS rfl ?_
        repeat (walk_at "z")
        refine z_bF' (by decide +kernel) ?_
        repeat (walk_at "z")
        refine z_ixT z hS at_zero ?_
        repeat (walk_at "z")
        refine z_eqS rfl ?_
        repeat (walk_at "z")
        refine z_bT' (by decide +kernel) ?_
        repeat (walk_at "z")
        refine z_anyL ?_
        repeat (walk_at "z")
        refine z_ixT z hS at_one ?_
        repeat (walk_at "z")
        have ka : Ok b pa := by simpa using hk pa (by simp)
        refine ⟨G, M, x, pa, b, rfl, z, hx, ka, by omega, by omega, by omega, fun l xs G1 H1 z1 s1 h1 => ?_⟩
        obtain ⟨G2, z2, t2, e2⟩ := Zp.settle z1
        have s2 := s1.trans t2
        have h2 := h1.up t2
        refine z_itL z2 (SqL.of e2) ?_
        refine lc_srcO src_L (fun i G' M' acc => M' = M ∧ Same G2 G' ∧ Dts K G' acc (Pl.dl (((wc pa).take i).map fun c => seqn (c :: pr)))) z2 ⟨rfl, Same.refl _, .nil⟩ (fun i G' M' M1 acc H' ⟨_, s', _⟩ z' => z'.seqL (SqL.of (s' _ _ e2))) ?_ ?_
        · rintro i c G' M' acc Dl H' hc ⟨rfl, s', hA⟩ z'
          obtain ⟨pc, hpc, hc'⟩ := pl_at (h2.up s') hc
          have hm := List.mem_of_getElem? hpc
          have nx := wc_nx pa b ka pc hm
          have hlt : i < (wc pa).length := (List.getElem?_eq_some_iff.mp hpc).1
          have hlen := wc_len pa b ka
          have hal := pls_len hA
          rw [List.length_map, List.length_take] at hal
          have s2' := s2.trans s'
          repeat (walk_at "z")
          refine ⟨by rfl, ?_⟩
          repeat (walk_at "z")
          refine z_slT z' (upT s2' hS) fun p3 G3 H3 z3 s3 e3 => ?_
          rw [cut_tail2] at e3
          refine z_stT (z3.seqT e3) ?_
          repeat (walk_at "z")
          have hly := pls_len hy
          have hlz := len_szl pr
          refine z_newL z3 (by simp; omega) fun p4 G4 H4 z4 s4 e4 => ?_
          rw [List.append_nil] at e4
          repeat (walk_at "z")
          have := nx.sz
          refine ⟨G4, _, p4, _, pc :: pr, rfl, z4, SqL.of e4, ?_, by rw [Pl.szl]; omega, fun v G5 H5 z5 s5 h5 => ?_⟩
          · exact dts_app (pl_all (hc'.up (s3.trans s4))) (hy.up ((s2'.trans s3).trans s4))
          refine z_laid z5 (by omega) ⟨rfl, s'.trans (s3.trans (s4.trans s5)), ?_⟩
          rw [take_snoc hpc, List.map_append]
          exact dts_app (hA.up (s3.trans (s4.trans s5))) (pl_all h5)
        · rintro p5 G5 M5 acc H5 ⟨rfl, s5, hA⟩ z5
          have hlen2 := pls_len h2
          rw [hlen2, List.take_length] at hA
          exact q p5 acc G5 H5 z5 (s2.trans s5) (by rw [wc, wcT]; exact hA)
    | ei =>
      have e : isDone (Pl.nd .ei ps) = false := by cases ps <;> rfl
      rw [e]
      repeat (walk_at "z")
      refine z_ixT z hS at_zero ?_
      repeat (walk_at "z")
      refine z_eqS rfl ?_
      repeat (walk_at "z")
      refine z_bF' (by decide +kernel) ?_
      repeat (walk_at "z")
      refine z_ixT z hS at_zero ?_
      repeat (walk_at "z")
      refine z_eqS rfl ?_
      repeat (walk_at "z")
      refine z_bT' (by decide +kernel) ?_
      repeat (walk_at "z")
      refine z_slT z hS fun p2 G2 H2 z2 s2 e2 => ?_
      rw [cut_tail] at e2
      repeat (walk_at "z")
      refine z_listO z2 (.inr e2) fun l H3 z3 => ?_
      exact q l xr G2 H3 z3 s2 (by rw [wc]; exact hR.up s2)
    | an =>
      have e : isDone (Pl.nd .an ps) = false := by cases ps <;> rfl
      rw [e]
      repeat (walk_at "z")
      refine z_ixT z hS at_zero ?_
      repeat (walk_at "z")
      refine z_eqS rfl ?_
      repeat (walk_at "z")
      refine z_bT' (by decide +kernel) ?_
      repeat (walk_at "z")
      refine z_ownL z (by simp) fun l H1 z1 => ?_
      exact q l [] G H1 z1 (Same.refl _) (by rw [wc]; exact .nil)
    | ag =>
      have e : isDone (Pl.nd .ag ps) = false := by cases ps <;> rfl
      rw [e]
      obtain ⟨pa, rfl⟩ : ∃ pa, ps = [pa] := by
        match ps, (of_decide_eq_true hf : ps.length = 1) with
        | [pa], _ => exact ⟨pa, rfl⟩
      obtain ⟨x, ys, rfl, hx, hy⟩ := pl_cons hR
      obtain rfl := pl_nil hy
      repeat (walk_at "z")
      refine z_ixT z hS at_zero ?_
      repeat (walk_at "z")
      refine z_eqS rfl ?_
      repeat (walk_at "z")
      refine z_bF' (by decide +kernel) ?_
      repeat (walk_at "z")
      refine z_ixT z hS at_zero ?_
      repeat (walk_at "z")
      refine z_eqS rfl ?_
      repeat (walk_at "z")
      refine z_bF' (by decide +kernel) ?_
      repeat (walk_at "z")
      refine z_ixT z hS at_zero ?_
      repeat (walk_at "z")
      refine z_eqS rfl ?_
      repeat (walk_at "z")
      refine z_bT' (by decide +kernel) ?_
      repeat (walk_at "z")
      refine z_ixT z hS at_one ?_
      repeat (walk_at "z")
      refine z_newL z (by simp) fun p2 G2 H2 z2 s2 e2 => ?_
      repeat (walk_at "z")
      rw [Pl.szl, Pl.szl] at hsz
      refine ⟨G2, _, p2, _, [pa, .nd .ag [pa]], rfl, z2, SqL.of e2, ?_, by simp only [Pl.szl, Pl.sz]; omega, fun v G3 H3 z3 s3 h3 => ?_⟩
      · exact dts_app (pl_all (hx.up s2)) (pl_all (hd.up s2))
      repeat (walk_at "z")
      refine z_ownL z3 (by simp) fun l H4 z4 => ?_
      refine q l _ G3 H4 z4 (s2.trans s3) ?_
      have ew : wc (.nd .ag [pa]) = [done] ++ [seqn [pa, .nd .ag [pa]]] := by rw [wc]; rfl
      rw [ew]
      exact dts_app (xs := [.ref (gA "DONE" K)]) (pl_all (by rw [done, Pl.d]; exact dt_done T G3)) (pl_all h3)
    | be =>
      have e : isDone (Pl.nd .be ps) = false := by cases ps <;> rfl
      rw [e]
      obtain ⟨pa, pb, rfl⟩ : ∃ pa pb, ps = [pa, pb] := by
        match ps, (of_decide_eq_true hf : ps.length = 2) with
        | [pa, pb], _ => exact ⟨pa, pb, rfl⟩
      obtain ⟨x, ys, rfl, hx, hy⟩ := pl_cons hR
      obtain ⟨y, ys', rfl, hyb, hy'⟩ := pl_cons hy
      obtain rfl := pl_nil hy'
      have hb : b = false := by
        cases b with
        | false => rfl
        | true => cases hO with | nd f c q => exact absurd rfl (c rfl)
      subst hb
      have ka : Ok true pa := by simpa using hk pa (by simp)
      have kb : Ok true pb := by simpa using hk pb (by simp)
      simp only [Pl.szl] at hsz
      simp only [Pl.dpl] at hn h50
      repeat (walk_at "z")
      refine z_ixT z hS at_zero ?_
      repeat (walk_at "z")
      refine z_eqS rfl ?_
      repeat (walk_at "z")
      refine z_bF' (by decide +kernel) ?_
      repeat (walk_at "z")
      refine z_ixT z hS at_zero ?_
      repeat (walk_at "z")
      refine z_eqS rfl ?_
      repeat (walk_at "z")
      refine z_bF' (by decide +kernel) ?_
      repeat (walk_at "z")
      refine z_ixT z hS at_zero ?_
      repeat (walk_at "z")
      refine z_eqS rfl ?_
      repeat (walk_at "z")
      refine z_bF' (by decide +kernel) ?_
      repeat (walk_at "z")
      refine z_ixT z hS at_zero ?_
      repeat (walk_at "z")
      refine z_eqS rfl ?_
      repeat (walk_at "z")
      refine z_bF' (by decide +kernel) ?_
      repeat (walk_at "z")
      refine z_anyL ?_
      repeat (walk_at "z")
      refine z_ixT z hS at_one ?_
      repeat (walk_at "z")
      refine ⟨G, M, x, pa, true, rfl, z, hx, ka, by omega, by omega, by omega, fun l xs G1 H1 z1 s1 h1 => ?_⟩
      obtain ⟨G2, z2, t2, e2⟩ := Zp.settle z1
      have s2 := s1.trans t2
      have h2 := h1.up t2
      refine z_itL z2 (SqL.of e2) ?_
      refine lc_srcO src_L (fun i G' M' acc => M' = M ∧ Same G2 G' ∧ Dts K G' acc (Pl.dl (((wc pa).take i).map fun c => along c pb))) z2 ⟨rfl, Same.refl _, .nil⟩ (fun i G' M' M1 acc H' ⟨_, s', _⟩ z' => z'.seqL (SqL.of (s' _ _ e2))) ?_ ?_
      · rintro i c G' M' acc Dl H' hc ⟨rfl, s', hA⟩ z'
        obtain ⟨pc, hpc, hc'⟩ := pl_at (h2.up s') hc
        have hm := List.mem_of_getElem? hpc
        have nx := wc_nx pa true ka pc hm
        have hlt : i < (wc pa).length := (List.getElem?_eq_some_iff.mp hpc).1
        have hlen := wc_len pa true ka
        have hal := pls_len hA
        rw [List.length_map, List.length_take] at hal
        have s2' := s2.trans s'
        repeat (walk_at "z")
        refine ⟨by rfl, ?_⟩
        repeat (walk_at "z")
        refine z_ixT z' (upT s2' hS) at_two ?_
        repeat (walk_at "z")
        have := nx.dp
        refine ⟨G', _, c, y, pc, pb, rfl, z', hc', hyb.up s2', Ok.nms _ _ nx.ok, Ok.nms _ _ kb, by omega, by omega, fun v G5 H5 z5 s5 h5 => ?_⟩
        refine z_laid z5 (by omega) ⟨rfl, s'.trans s5, ?_⟩
        rw [take_snoc hpc, List.map_append]
        exact dts_app (hA.up s5) (pl_all h5)
      rintro p5 G5 M5 acc H5 ⟨rfl, s5, hA⟩ z5
      have hlen2 := pls_len h2
      rw [hlen2, List.take_length] at hA
      have s25 := s2.trans s5
      have hacc := SqL.of (K := K) (z5.at_ M5.length last_at)
      repeat (walk_at "z")
      refine z_newL z5 (by simp) fun p6 G6 H6 z6 s6 e6 => ?_
      refine z_neNil (SqL.of (z6.at_ M5.length last_at)) (z6.sub _ _ e6) ?_
      repeat (walk_at "z")
      by_cases c : acc = []
      · refine z_bF' (decide_eq_false fun h => h c) ?_
        subst c
        have hnil : (wc pa).map (fun c => along c pb) = [] := by
          have := pls_len hA
          exact List.eq_nil_of_length_eq_zero this.symm
        have ew : wc (.nd .be [pa, pb]) = (wc pb).map fun c => along pa c := by
          rw [wc, wcB]
          have hnil' : (wc pa).map (fun x => along x ([pb].headD done)) = [] := hnil
          rw [hnil', wcC]
        rw [ew] at q
        have z6 := z6.cut
        have s26 := s25.trans s6
        repeat (walk_at "z")
        refine z_anyL ?_
        repeat (walk_at "z")
        refine z_ixT z6 (upT s26 hS) at_two ?_
        repeat (walk_at "z")
        refine ⟨G6, _, y, pb, true, rfl, z6, hyb.up s26, kb, by omega, by omega, by omega, fun l xs G1 H1 z1 s1 h1 => ?_⟩
        obtain ⟨G7, z7, t7, e7⟩ := Zp.settle z1
        have s7 := s26.trans (s1.trans t7)
        have h7 := h1.up t7
        refine z_itL z7 (SqL.of e7) ?_
        refine lc_srcO src_L (fun i G' M' acc => M' = M5 ∧ Same G7 G' ∧ Dts K G' acc (Pl.dl (((wc pb).take i).map fun c => along pa c))) z7 ⟨rfl, Same.refl _, .nil⟩ (fun i G' M' M1 acc H' ⟨_, s', _⟩ z' => z'.seqL (SqL.of (s' _ _ e7))) ?_ ?_
        · rintro i c G' M' acc Dl H' hc ⟨rfl, s', hA⟩ z'
          obtain ⟨pc, hpc, hc'⟩ := pl_at (h7.up s') hc
          have hm := List.mem_of_getElem? hpc
          have nx := wc_nx pb true kb pc hm
          have hlt : i < (wc pb).length := (List.getElem?_eq_some_iff.mp hpc).1
          have hlen := wc_len pb true kb
          have hal := pls_len hA
          rw [List.length_map, List.length_take] at hal
          have s7' := s7.trans s'
          repeat (walk_at "z")
          refine ⟨by rfl, ?_⟩
          repeat (walk_at "z")
          refine z_ixT z' (upT s7' hS) at_one ?_
          repeat (walk_at "z")
          have := nx.dp
          refine ⟨G', _, x, c, pa, pc, rfl, z', hx.up s7', hc', Ok.nms _ _ ka, Ok.nms _ _ nx.ok, by omega, by omega, fun v G5 H5 z5 s5 h5 => ?_⟩
          refine z_laid z5 (by omega) ⟨rfl, s'.trans s5, ?_⟩
          rw [take_snoc hpc, List.map_append]
          exact dts_app (hA.up s5) (pl_all h5)
        rintro p8 G8 M8 acc H8 ⟨rfl, s8, hA⟩ z8
        have hlen7 := pls_len h7
        rw [hlen7, List.take_length] at hA
        exact q p8 acc G8 H8 z8 (s7.trans s8) hA
      · refine z_bT' (decide_eq_true c) ?_
        have ew : wc (.nd .be [pa, pb]) = (wc pa).map fun c => along c pb := by
          rw [wc, wcB]
          have hne : (wc pa).map (fun x => along x ([pb].headD done)) = (wc pa).map fun c => along c pb := rfl
          rw [hne]
          have := pls_len hA
          split
          · rename_i h0
            rw [h0] at this
            exact absurd (List.eq_nil_of_length_eq_zero this) c
          · rfl
        rw [ew] at q
        repeat (walk_at "z")
        exact q p5 acc G6 H6 z6 (s25.trans s6) (hA.up s6)
end
end LW
namespace LW
open PySem PySem.Spec PyProof.Rows L2 Ys

theorem wc_ei {b : Bool} {ps : List Pl} (k : Ok b (.nd .ei ps)) (h : wc (.nd .ei ps) = []) : False := by
  have f : 1 ≤ ps.length := of_decide_eq_true k.fit
  rw [wc] at h
  rw [h] at f
  cases f
theorem wc_ag {ps : List Pl} (h : wc (.nd .ag ps) = []) : False := by rw [wc] at h; cases h
theorem wc_th {a : Pl} {r : List Pl} (h : wc (.nd .th (a :: r)) = []) : wc a = [] := by
  rw [wc, wcT] at h
  exact List.map_eq_nil_iff.mp h
theorem wc_be {a b : Pl} (h : wc (.nd .be [a, b]) = []) : wc a = [] ∧ wc b = [] := by
  rw [wc, wcB] at h
  split at h
  · rename_i h0
    rw [wcC] at h
    exact ⟨List.map_eq_nil_iff.mp h0, List.map_eq_nil_iff.mp h⟩
  · rename_i h0
    exact absurd h h0
section
variable {P : Program} {w : World} {K : PySem.W.Frag} {mg : Str → Option Value} {base : Heap} {f : Addr} {fd : FuncData} {CI : Addr}
def spSP (K : PySem.W.Frag) (n : Nat) : Sp := fun vs H Q _ => ∃ G M v p b, vs = [v] ∧ Zp G M H ∧ Dt K G v (Pl.d p) ∧ Ok b p ∧ wc p = [] ∧ p.dp < n ∧ p.dp ≤ 50 ∧ p.sz ≤ 5000 ∧ ∀ l xs G1 H1, Zp G1 (M ++ [(l, .lst xs)]) H1 → Same G G1 → Dts K G1 xs (Pl.dl (spl p)) → Q (.ref l) H1
theorem spl_len : ∀ p : Pl, (spl p).length ≤ p.sz := Pl.ind (fun s => by rw [spl, Pl.sz]; exact Nat.le_refl _) fun h ps ih => by
  have go : ∀ l : List Pl, (∀ p ∈ l, p ∈ ps) → (splB l).length ≤ Pl.szl l := by
    intro l
    induction l with
    | nil => intro _; simp [splB]
    | cons a r ihr =>
      intro hl
      have := ih a (hl a (by simp))
      have := ihr fun p hp => hl p (List.mem_cons_of_mem _ hp)
      rw [splB, Pl.szl, List.length_append]
      omega
  have := go ps fun _ h => h
  cases h with
  | th =>
    rw [spl, Pl.sz]
    cases ps with
    | nil => rw [splT]; exact Nat.zero_le _
    | cons a r =>
      rw [splT, Pl.szl]
      have := ih a (by simp)
      omega
  | an => rw [spl, Pl.sz]; simp
  | ei => rw [spl, Pl.sz] <;> first | omega | (intro e; cases e)
  | ag => rw [spl, Pl.sz] <;> first | omega | (intro e; cases e)
  | be => rw [spl, Pl.sz] <;> first | omega | (intro e; cases e)
def spTurnAt (K : PySem.W.Frag) (n : Nat) : Sp := fun vs H Q _ => ∃ G M v p b, vs = [v] ∧ Zp G M H ∧ Dt K G v (Pl.d p) ∧ Ok b p ∧ p.dp < n ∧ p.dp ≤ 50 ∧ p.sz ≤ 5000 ∧ ∀ G1 H1, Zp G1 M H1 → Same G G1 → Q (.str (turnS p)) H1
abbrev OwnWC (P : Program) (w : World) (K : PySem.W.Frag) (mg : Str → Option Value) (base : Heap) (n : Nat) : Prop := Own P w K mg base CX0 (n + 1) "world_choices" ["plan"] (spWC K n)
/-! ### of plans that may be wrong -/
def NOk (n : Nat) (d : PyData) (X : Pl → Prop) : Prop := wpD false d = none → ∃ p, d = Pl.d p ∧ Ok false p ∧ p.dp < n ∧ p.dp ≤ 50 ∧ p.sz ≤ 5000 ∧ X p
def NErr (K : PySem.W.Frag) (CI : Addr) (G : Hp) (M : List (Addr × HO)) (d : PyData) (E : XK) : Prop := ∀ e, wpD false d = some e → ∀ dd v' G1 H1, Zp G1 M H1 → Same G G1 → Dt K G1 v' e → G1 dd = some (.xd [("value", v')]) → E (.ref CI) (some dd) H1
def spNormal (K : PySem.W.Frag) (CI : Addr) (n : Nat) : Sp := fun vs H Q E => ∃ G M v d, vs = [v] ∧ Zp G M H ∧ Dt K G v d ∧ Sht d ∧ d.depth < n ∧ NOk n d (fun p => ∀ v' G1 H1, Zp G1 M H1 → Same G G1 → Dt K G1 v' (nf p).d → Q v' H1) ∧ NErr K CI G M d E
abbrev OwnWr (P : Program) (w : World) (K : PySem.W.Frag) (mg : Str → Option Value) (base : Heap) (n : Nat) : Prop := Own P w K mg base CX0 (n + 1) "wrong_part" ["value", "is_beside"] (spWrong K n)
theorem ok_normal {n : Nat} (T : Nm K mg) (S_InvalidPlan : ExcS P w K mg base CI "InvalidPlan" "value") (C_wrong_part : OwnWr P w K mg base n) (C_normal_form : Own P w K mg base CX0 (n + 1) "normal_form" ["plan"] (spNF K n)) (F : FnP K "normal" s_normal f fd) : FnOk P w K mg base (L2.CX P w) (n + 3) f fd ["plan"] (spNormal K CI n) := by
  have nd : N_normal.Nodup := sc_normal.nd
  refine F.ok sc_normal (fun vs H Q E h => ?_) (fun cdv A outer s H vs Q E hr h => ?_)
  · obtain ⟨G, M, v, d, rfl, _⟩ := h
    rfl
  have hu := hr.units
  refine ⟨_,   (pss_cons (ps_asg (pe_own C_wrong_part (hr.mono (by omega)) (by rfl) pass0 (pa_cons (pv 0) (pa_cons pe_bl pa_nil))) (pg_name (i := 1) nd rfl (by first | exact .inl rfl | exact .inr rfl)))
    (pss_cons (ps_if (pt_cmpR (k_ne (K := K) hu) (pv 1) (pe_lst pa_nil) (nomark _)) (pss_one (ps_rs S_InvalidPlan rfl (takes_of rfl rfl rfl rfl) (hr.mono (by omega)) (by rfl) (pe_ix (k_ix (K := K)) (pv 1) pe_int (fun _ _ => rfl)))) pss_nil)
    (pss_one (ps_ret (pe_own C_normal_form (hr.mono (by omega)) (by rfl) pass0 (pa_cons (pv 0) pa_nil)))))), ?_⟩
  obtain ⟨G, M, v, d, rfl, z, hd, hs, hn, q, qx⟩ := h
  repeat (walk_at "z")
  refine ⟨G, M, v, false, d, rfl, z, hd, hs, hn, fun p xs G1 H1 z1 s1 e1 h1 => ?_⟩
  repeat (walk_at "z")
  refine z_newL z1 (by simp) fun p2 G2 H2 z2 s2 e2 => ?_
  refine z_neNil (z2.seqL (SqL.of (s2 _ _ e1))) (z2.sub _ _ e2) ?_
  repeat (walk_at "z")
  cases hw : wpD false d with
  | some e =>
    rw [hw] at h1
    cases h1 with
    | cons h1 h2 =>
      cases h2
      refine z_bT' (decide_eq_true (by simp)) ?_
      repeat (walk_at "z")
      refine z_ixL z2 (SqL.of (s2 _ _ e1)) at_zero ?_
      repeat (walk_at "z")
      exact z_rsI fun dd hdd => qx e hw dd _ _ _ (z2.new hdd _) ((s1.trans s2).trans (Same.new (z2.free hdd))) (h1.up (s2.trans (Same.new (z2.free hdd)))) upd_same
  | none =>
    rw [hw] at h1
    cases h1
    refine z_bF' (decide_eq_false (by simp)) ?_
    obtain ⟨p, rfl, hO, hpn, h50, hsz, q⟩ := q hw
    repeat (walk_at "z")
    exact ⟨G2, M, v, p, false, rfl, z2, hd.up (s1.trans s2), hO, hpn, h50, hsz, fun v' G3 H3 z3 s3 h3 => q v' G3 H3 z3 ((s1.trans s2).trans s3) h3⟩
abbrev OwnN (P : Program) (w : World) (K : PySem.W.Frag) (mg : Str → Option Value) (base : Heap) (CI : Addr) (n : Nat) : Prop := Own P w K mg base (L2.CX P w) (n + 3) "normal" ["plan"] (spNormal K CI n)
def spTurn (K : PySem.W.Frag) (CI : Addr) (n : Nat) : Sp := fun vs H Q E => ∃ G M v d, vs = [v] ∧ Zp G M H ∧ Dt K G v d ∧ Sht d ∧ d.depth < n ∧ NOk n d (fun p => ∀ G1 H1, Zp G1 M H1 → Same G G1 → Q (.str (turnS (nf p))) H1) ∧ NErr K CI G M d E
def spChoices (K : PySem.W.Frag) (CI : Addr) (n : Nat) : Sp := fun vs H Q E => ∃ G M v d, vs = [v] ∧ Zp G M H ∧ Dt K G v d ∧ Sht d ∧ d.depth < n ∧ NOk n d (fun p => ∀ l xs G1 H1, Zp G1 (M ++ [(l, .lst xs)]) H1 → Same G G1 → Dts K G1 xs (Pl.dl (wc (nf p))) → Q (.ref l) H1) ∧ NErr K CI G M d E
theorem ok_choices {n : Nat} (T : Nm K mg) (C_normal : OwnN P w K mg base CI n) (C_world_choices : OwnWC P w K mg base n) (F : FnP K "choices" s_choices f fd) : FnOk P w K mg base (L2.CX P w) (n + 4) f fd ["plan"] (spChoices K CI n) := by
  have nd : N_choices.Nodup := sc_choices.nd
  refine F.ok sc_choices (fun vs H Q E h => ?_) (fun cdv A outer s H vs Q E hr h => ?_)
  · obtain ⟨G, M, v, d, rfl, _⟩ := h
    rfl
  have hu := hr.units
  refine ⟨_,   (pss_one (ps_ret (pe_own C_world_choices (hr.mono (by omega)) (by rfl) pass0 (pa_cons (pe_ownX C_normal (hr.mono (by omega)) (by rfl) (takes_of rfl rfl rfl rfl) (pa_cons (pv 0) pa_nil)) pa_nil)))), ?_⟩
  obtain ⟨G, M, v, d, rfl, z, hd, hs, hn, q, qx⟩ := h
  repeat (walk_at "z")
  refine ⟨G, M, v, d, rfl, z, hd, hs, hn, fun hw => ?_, qx⟩
  obtain ⟨p, rfl, hO, hpn, h50, hsz, q⟩ := q hw
  refine ⟨p, rfl, hO, hpn, h50, hsz, fun v' G1 H1 z1 s1 h1 => ?_⟩
  have l1 := nf_dp p
  have l2 := nf_sz p
  repeat (walk_at "z")
  exact ⟨G1, M, v', nf p, false, rfl, z1, h1, nf_ok p _ hO, by omega, by omega, by omega, fun l xs G2 H2 z2 s2 h2 => q l xs G2 H2 z2 (s1.trans s2) h2⟩
def plcs (p : Pl) : List Pl := if isDone p then [] else if (wc p).isEmpty then spl p else []
def spPlaces (K : PySem.W.Frag) (CI : Addr) (n : Nat) : Sp := fun vs H Q E => ∃ G M v d, vs = [v] ∧ Zp G M H ∧ Dt K G v d ∧ Sht d ∧ d.depth < n ∧ NOk n d (fun p => ∀ l xs G1 H1, Zp G1 (M ++ [(l, .lst xs)]) H1 → Same G G1 → Dts K G1 xs (Pl.dl (plcs (nf p))) → Q (.ref l) H1) ∧ NErr K CI G M d E
theorem turn_staff (p : Pl) : decide (V.str (turnS p) = V.str ("staff" : Str)) = (!isDone p && (wc p).isEmpty) := by
  unfold turnS
  cases isDone p <;> cases (wc p).isEmpty <;> decide +kernel
end
end LW
namespace LW
open PySem PySem.Spec PyProof.Rows L2 Ys

/-! ### the reader of texts of plans -/
structure RC (K : PySem.W.Frag) (C : Addr) : Prop where
  cl : Cls K C
  n1 : NoAttr K C "own_text"
  n2 : NoAttr K C "own_place"
  n3 : NoAttr K C "own_parts"
def rdF (t : Str) (i : Nat) (ps : Addr) : List (Str × V) := [("own_text", .str t), ("own_place", .int i), ("own_parts", .ref ps)]
def sgS (t : Str) (i : Nat) : Str := cutS t (some (i : Int)) (some ((i : Int) + 1))
def sub (t : Str) (i n : Nat) : Str := cutS t (some (i : Int)) (some ((i + n : Nat) : Int))
def letterAt (t : Str) (i : Nat) : Bool := match t.cps.toList[i]? with
  | some c => decide (c ∈ abcL)
  | none => false
def wlF (t : Str) : Nat → Nat → Nat
  | 0, _ => 0
  | k + 1, i => if letterAt t i = true then wlF t k (i + 1) + 1 else 0
def wl (t : Str) (i : Nat) : Nat := wlF t 8 i
theorem sg_some {t : Str} {i c : Nat} (h : t.cps.toList[i]? = some c) : sgS t i = ⟨#[c]⟩ := by
  have hl : i < t.length := by
    have := (List.getElem?_eq_some_iff.mp h).1
    rw [Array.length_toList] at this
    exact this
  have e1 : HT.sIx t.length 0 (some (i : Int)) = i := by rw [HT.sIx_nat]; omega
  have e2 : HT.sIx t.length t.length (some ((i : Int) + 1)) = i + 1 := by
    rw [show (i : Int) + 1 = ((i + 1 : Nat) : Int) by omega, HT.sIx_nat]
    omega
  unfold sgS cutS
  rw [e1, e2]
  have e3 : (t.cps.toList.drop i).take (i + 1 - i) = [c] := by
    rw [show i + 1 - i = 1 by omega]
    obtain ⟨h1, h2⟩ := List.getElem?_eq_some_iff.mp h
    rw [List.drop_eq_getElem_cons h1, h2]
    rfl
  rw [e3]
theorem sg_none {t : Str} {i : Nat} (h : t.cps.toList[i]? = none) : sgS t i = ("" : Str) := by
  have hl : t.length ≤ i := by
    have := List.getElem?_eq_none_iff.mp h
    rw [Array.length_toList] at this
    exact this
  have e1 : HT.sIx t.length 0 (some (i : Int)) = t.length := by rw [HT.sIx_nat]; omega
  have e2 : HT.sIx t.length t.length (some ((i : Int) + 1)) = t.length := by
    rw [show (i : Int) + 1 = ((i + 1 : Nat) : Int) by omega, HT.sIx_nat]
    omega
  unfold sgS cutS
  rw [e1, e2, Nat.sub_self, List.take_zero]
  decide +kernel
theorem one_ne {c : Nat} : (⟨#[c]⟩ : Str) ≠ ("" : Str) := fun h => by
  have := congrArg (fun s : Str => s.cps.size) h
  simp at this
  revert this
  decide +kernel
section
variable {P : Program} {w : World} {K : PySem.W.Frag} {mg : Str → Option Value} {base : Heap} {f : Addr} {fd : FuncData} {C CI : Addr}
def spSign (K : PySem.W.Frag) (C : Addr) : Sp := fun vs H Q _ => ∃ G M self dx t i ps, vs = [.ref self] ∧ Zp G ((self, .ins C dx (rdF t i ps)) :: M) H ∧ t.length ≤ 100000 ∧ Q (.str (sgS t i)) H
abbrev FnM (K : PySem.W.Frag) (m : Str) (st : Stmt) (f : Addr) (fd : FuncData) : Prop := FunD K m ("PlanReader." ++ m) (defArgs st) (defBody st) (defScope st) [] [] f fd
theorem ok_sign (T : Nm K mg) (R : RC K C) (F : FunD K "sign" "PlanReader.sign" (defArgs s_PlanReader_sign) (defBody s_PlanReader_sign) (defScope s_PlanReader_sign) [] [] f fd) : FnOk P w K mg base CX0 1 f fd ["self"] (spSign K C) := by
  have nd : N_PlanReader_sign.Nodup := sc_PlanReader_sign.nd
  refine F.ok sc_PlanReader_sign (fun vs H Q E h => ?_) (fun cdv A outer s H vs Q E hr h => ?_)
  · obtain ⟨G, M, self, dx, t, i, ps, rfl, _⟩ := h
    rfl
  have hu := hr.units
  refine ⟨_, PSs.nox   (pss_one (ps_ret (pe_slice (k_sl (K := K)) (k_fld (K := K) (pv 0) rfl) (po_some (k_fld (K := K) (pv 0) rfl)) (po_some (pe_op (k_add (K := K)) (k_fld (K := K) (pv 0) rfl) pe_int))))), ?_⟩
  obtain ⟨G, M, self, dx, t, i, ps, rfl, z, hl, q⟩ := h
  repeat (walk_at "z")
  refine z_flO z 0 rfl R.cl R.n1 rfl ?_
  repeat (walk_at "z")
  refine z_flO z 0 rfl R.cl R.n2 rfl ?_
  repeat (walk_at "z")
  refine z_flO z 0 rfl R.cl R.n2 rfl ?_
  repeat (walk_at "z")
  exact z_slS hl q
def RErr (K : PySem.W.Frag) (CI : Addr) (G : Hp) (M : List (Addr × HO)) (E : XK) (i : Nat) : Prop := ∀ dd G1 H1, Zp G1 M H1 → Same G G1 → G1 dd = some (.xd [("index", .int i)]) → E (.ref CI) (some dd) H1
theorem RErr.up {G G1 : Hp} {M : List (Addr × HO)} {E : XK} {i : Nat} (h : RErr K CI G M E i) (s : Same G G1) : RErr K CI G1 M E i := fun dd G2 H2 z2 s2 e2 => h dd G2 H2 z2 (s.trans s2) e2
theorem z_rer {G H : Hp} {M M1 : List (Addr × HO)} {E : XK} {i : Nat} (z : Zp G M1 H) (sb : M.Sublist M1) (h : RErr K CI G M E i) : RsW K CI "index" (.int i) H fun cls d H' => E cls d H' := z_rsI fun dd hd => h dd _ _ ((z.new hd _).less sb) (Same.new (z.free hd)) upd_same
def spMark (K : PySem.W.Frag) (C CI : Addr) : Sp := fun vs H Q E => ∃ G M M0 self dx t i ps s, vs = [.ref self, .str s] ∧ Zp G ((self, .ins C dx (rdF t i ps)) :: M) H ∧ t.length ≤ 100000 ∧ M0.Sublist M ∧
  (sgS t i = s → ∀ H1, Zp G ((self, .ins C dx (rdF t (i + 1) ps)) :: M) H1 → Q .non H1) ∧ (sgS t i ≠ s → RErr K CI G M0 E i)
theorem put_place {t : Str} {i : Nat} {ps : Addr} : putF "own_place" (.int ((i : Int) + 1)) (rdF t i ps) = rdF t (i + 1) ps := by
  have e1 : ¬ Str.ofString "own_text" = Str.ofString "own_place" := by decide +kernel
  unfold rdF
  simp only [putF, if_neg e1, if_pos]
  rfl
theorem ok_mark (T : Nm K mg) (R : RC K C) (S_InvalidText : ExcS P w K mg base CI "InvalidText" "index") (M_sign : Mth P w K mg base CX0 1 C "sign" ["self"] [] (spSign K C)) (F : FunD K "mark" "PlanReader.mark" (defArgs s_PlanReader_mark) (defBody s_PlanReader_mark) (defScope s_PlanReader_mark) [] [] f fd) : FnOk P w K mg base (L2.CX P w) 3 f fd ["self", "sign"] (spMark K C CI) := by
  have nd : N_PlanReader_mark.Nodup := sc_PlanReader_mark.nd
  refine F.ok sc_PlanReader_mark (fun vs H Q E h => ?_) (fun cdv A outer s H vs Q E hr h => ?_)
  · obtain ⟨G, M, M0, self, dx, t, i, ps, s, rfl, _⟩ := h
    rfl
  have hu := hr.units
  refine ⟨_,   (pss_cons (ps_if (pt_cmpR (k_ne (K := K) hu) (pe_mt0 M_sign (hr.mono (by omega)) pass0 (pv 0)) (pv 1) (nomark _)) (pss_one (ps_rs S_InvalidText rfl (takes_of rfl rfl rfl rfl) (hr.mono (by omega)) (by rfl) (k_fld (K := K) (pv 0) rfl))) pss_nil)
    (pss_one (ps_fldaug (pv 0) pe_int in_add))), ?_⟩
  obtain ⟨G, M, M0, self, dx, t, i, ps, s, rfl, z, hl, sb, q, qx⟩ := h
  repeat (walk_at "z")
  refine z_mtO z 0 rfl rfl ?_
  repeat (walk_at "z")
  refine ⟨G, M, self, dx, t, i, ps, rfl, z, hl, ?_⟩
  repeat (walk_at "z")
  refine z_neS rfl ?_
  repeat (walk_at "z")
  by_cases c : sgS t i = s
  · refine z_bT' (decide_eq_true (by rw [c])) ?_
    repeat (walk_at "z")
    refine z_faI z 0 rfl R.cl R.n2 rfl (by show 3 < 1000; decide) fun H1 z1 => ?_
    rw [put_place] at z1
    exact q c H1 z1
  · refine z_bF' (decide_eq_false fun h => c (V.str.inj h)) ?_
    repeat (walk_at "z")
    refine z_flO z 0 rfl R.cl R.n2 rfl ?_
    repeat (walk_at "z")
    exact z_rer z (sb.cons _) (qx c)
def spWordR (K : PySem.W.Frag) (C CI : Addr) : Sp := fun vs H Q E => ∃ G M M0 self dx t i ps, vs = [.ref self] ∧ Zp G ((self, .ins C dx (rdF t i ps)) :: M) H ∧ t.length ≤ 100000 ∧ M0.Sublist M ∧
  (wl t i ≠ 0 → ∀ H1, Zp G ((self, .ins C dx (rdF t (i + wl t i) ps)) :: M) H1 → Q (.str (sub t i (wl t i))) H1) ∧ (wl t i = 0 → RErr K CI G M0 E i)
theorem ok_wordR (T : Nm K mg) (R : RC K C) (S_InvalidText : ExcS P w K mg base CI "InvalidText" "index") (M_sign : Mth P w K mg base CX0 1 C "sign" ["self"] [] (spSign K C)) (F : FunD K "word" "PlanReader.word" (defArgs s_PlanReader_word) (defBody s_PlanReader_word) (defScope s_PlanReader_word) [] [] f fd) : FnOk P w K mg base (L2.CX P w) 3 f fd ["self"] (spWordR K C CI) := by
  have nd : N_PlanReader_word.Nodup := sc_PlanReader_word.nd
  refine F.ok sc_PlanReader_word (fun vs H Q E h => ?_) (fun cdv A outer s H vs Q E hr h => ?_)
  · obtain ⟨G, M, M0, self, dx, t, i, ps, rfl, _⟩ := h
    rfl
  have hu := hr.units
  refine ⟨_,   (pss_cons (ps_asg (k_fld (K := K) (pv 0) rfl) (pg_name (i := 1) nd rfl (by first | exact .inl rfl | exact .inr rfl)))
    (pss_cons (ps_while (passes_of rfl) (PW.pt (pw_and (pt_cmpR (k_ne (K := K) hu) (pe_mt0 M_sign (hr.mono (by omega)) pass0 (pv 0)) pe_str (nomark _)) (pw_and (pt_cmpR (k_in (K := K)) (pe_mt0 M_sign (hr.mono (by omega)) pass0 (pv 0)) (pe_gC T.g_LETTERS (by rfl)) (by rfl)) (pw_and1 (pt_cmpR o_lt (pe_op o_sub (k_fld (K := K) (pv 0) rfl) (pv 1)) (pe_gC T.g_LONGEST_WORD (by rfl)) (nomark _)))))) (pss_one (ps_fldaug (pv 0) pe_int in_add)))
    (pss_cons (ps_if (pt_cmpR (k_eq (K := K) hu) (k_fld (K := K) (pv 0) rfl) (pv 1) (nomark _)) (pss_one (ps_rs S_InvalidText rfl (takes_of rfl rfl rfl rfl) (hr.mono (by omega)) (by rfl) (pv 1))) pss_nil)
    (pss_one (ps_ret (pe_slice (k_sl (K := K)) (k_fld (K := K) (pv 0) rfl) (po_some (pv 1)) (po_some (k_fld (K := K) (pv 0) rfl)))))))), ?_⟩
  obtain ⟨G, M, M0, self, dx, t, i, ps, rfl, z, hl, sb, q, qx⟩ := h
  repeat (walk_at "z")
  refine z_flO z 0 rfl R.cl R.n2 rfl ?_
  repeat (walk_at "y")
  with_reducible refine z_cut (fun σ H => Zp G ((self, .ins C dx (rdF t (i + wl t i) ps)) :: M) H ∧ σ = [some (.ref self), some (.int i)]) (fun nx hnx => ?_) (fun σ H2 h2 => ?_)
  · refine z_while (fun n σ G' M' => ∃ k, n = 8 - k ∧ k ≤ 8 ∧ M' = (self, .ins C dx (rdF t (i + k) ps)) :: M ∧ G' = G ∧ σ = [some (.ref self), some (.int i)] ∧ wl t i = k + wlF t (8 - k) (i + k)) 8 z ⟨0, rfl, by decide, rfl, rfl, rfl, by unfold wl; rw [Nat.zero_add]; rfl⟩ ?_
    rintro n σ G' M' H' ⟨k, rfl, hk, rfl, rfl, rfl, hw⟩ z'
    have ex : wlF t (8 - k) (i + k) = 0 → nx [some (.ref self), some (.int i)] H' := fun e => hnx _ _ ⟨by rw [hw, e]; exact z', rfl⟩
    repeat (walk_at "z")
    refine z_mtO z' 0 rfl rfl ?_
    repeat (walk_at "z")
    refine ⟨G', M, self, dx, t, i + k, ps, rfl, z', hl, ?_⟩
    repeat (walk_at "z")
    refine z_neS rfl ?_
    repeat (walk_at "z")
    cases hc : t.cps.toList[i + k]? with
    | none =>
      refine z_bT' (decide_eq_true (by rw [sg_none hc])) ?_
      refine z_whF (ex ?_)
      have el : letterAt t (i + k) = false := by unfold letterAt; rw [hc]
      cases h8 : 8 - k with
      | zero => rfl
      | succ m => rw [wlF, el]; rfl
    | some c =>
      refine z_bF' (decide_eq_false (by rw [sg_some hc]; intro h; exact one_ne (V.str.inj h))) ?_
      repeat (walk_at "z")
      refine z_mtO z' 0 rfl rfl ?_
      repeat (walk_at "z")
      refine ⟨G', M, self, dx, t, i + k, ps, rfl, z', hl, ?_⟩
      rw [sg_some hc]
      repeat (walk_at "z")
      refine z_inS ?_
      repeat (walk_at "z")
      have el : letterAt t (i + k) = decide (c ∈ abcL) := by unfold letterAt; rw [hc]
      refine z_bd (fun c1 => ?_) (fun c1 => ?_)
      · repeat (walk_at "z")
        refine z_flO z' 0 rfl R.cl R.n2 rfl ?_
        repeat (walk_at "z")
        by_cases c2 : k < 8
        · rw [decide_eq_true (show ((i + k : Nat) : Int) - (i : Int) < 8 by omega)]
          refine z_whT ?_
          repeat (walk_at "z")
          refine z_faI z' 0 rfl R.cl R.n2 rfl (by show 3 < 1000; decide) fun H1 z1 => ?_
          rw [put_place] at z1
          refine ⟨8 - (k + 1), by omega, G', _, z1, k + 1, rfl, by omega, rfl, rfl, rfl, ?_⟩
          have e8 : 8 - k = 8 - (k + 1) + 1 := by omega
          have el' : letterAt t (i + k) = true := by rw [el]; exact decide_eq_true c1
          rw [e8, wlF, if_pos el'] at hw
          rw [hw, show i + (k + 1) = i + k + 1 by omega]
          omega
        · rw [decide_eq_false (show ¬ ((i + k : Nat) : Int) - (i : Int) < 8 by omega)]
          refine z_whF (ex ?_)
          rw [show 8 - k = 0 by omega]
          rfl
      · refine z_whF (ex ?_)
        have el' : letterAt t (i + k) = false := by rw [el]; exact decide_eq_false c1
        cases h8 : 8 - k with
        | zero => rfl
        | succ m => rw [wlF, el']; rfl
  · obtain ⟨z2, rfl⟩ := h2
    repeat (walk_at "z")
    refine z_flO z2 0 rfl R.cl R.n2 rfl ?_
    repeat (walk_at "z")
    refine z_eqS rfl ?_
    repeat (walk_at "z")
    by_cases c : wl t i = 0
    · refine z_bT' (decide_eq_true (by rw [c]; rfl)) ?_
      repeat (walk_at "z")
      exact z_rer z2 (sb.cons _) (qx c)
    · refine z_bF' (decide_eq_false (by intro h; have := V.int.inj h; omega)) ?_
      repeat (walk_at "z")
      refine z_flO z2 0 rfl R.cl R.n1 rfl ?_
      repeat (walk_at "z")
      refine z_flO z2 0 rfl R.cl R.n2 rfl ?_
      repeat (walk_at "z")
      exact z_slS hl (q c H2 z2)
end
end LW
namespace LW
open PySem PySem.Spec PyProof.Rows L2 Ys

/-! ### how a text is read, in plain Lean -/
def Hd.lo : Hd → Nat
  | .th => 0
  | .ei => 1
  | .an => 1
  | .ag => 1
  | .be => 2
def Hd.hi : Hd → Option Nat
  | .ag => some 1
  | .be => some 2
  | _ => none
theorem le_lo (h : Hd) : Hd.leV h = (Hd.lo h : Int) := by cases h <;> rfl
theorem mo_hi (h : Hd) (n : Nat) : decide (V.int (n : Int) = Hd.moV h) = decide (Hd.hi h = some n) := by
  have e : ∀ k : Nat, decide (V.int (n : Int) = V.int (k : Int)) = decide ((some k : Option Nat) = some n) := fun k => by
    by_cases c : n = k
    · subst c; rw [decide_eq_true rfl, decide_eq_true rfl]
    · rw [decide_eq_false (fun h => c (by have := V.int.inj h; omega)), decide_eq_false (fun h => c (Option.some.inj h).symm)]
  cases h
  case ag => exact e 1
  case be => exact e 2
  all_goals exact decide_eq_false (fun h => by cases h)
inductive Rs where
  | err (i : Nat)
  | name (s : Str) (i : Nat)
  | push (h : Hd) (i : Nat)
def beginR (t : Str) (i : Nat) (inBe : Bool) : Rs :=
  if wl t i = 0 then .err i else
  if sgS t (i + wl t i) = "(" then
    match headOf (sub t i (wl t i)) with
    | some h => if (decide (h = .be) && inBe) = true then .name (sub t i (wl t i)) (i + wl t i) else .push h (i + wl t i + 1)
    | none => .name (sub t i (wl t i)) (i + wl t i)
  else .name (sub t i (wl t i)) (i + wl t i)
abbrev Stk := List (Hd × List Pl)
def anyBe (A : Stk) : Bool := A.any fun f => decide (f.1 = .be)
inductive Stp where
  | err (i : Nat)
  | go (f : Option Pl) (i : Nat) (A : Stk)
def fromB : Rs → Stk → Stp
  | .err e, _ => .err e
  | .name s j, A => .go (some (.nm s)) j A
  | .push h j, A => .go none j ((h, []) :: A)
def goOn (t : Str) (found : Option Pl) (i : Nat) : Stk → Stp
  | [] => .err 0
  | (h, ps) :: A =>
    if (sgS t i = ")" ∧ Hd.lo h ≤ (ps ++ found.toList).length) ∨ Hd.hi h = some (ps ++ found.toList).length then
      if sgS t i = ")" then .go (some (.nd h (ps ++ found.toList))) (i + 1) A else .err i
    else match found with
      | some _ => if sgS t i = "," then if sgS t (i + 1) = " " then fromB (beginR t (i + 2) (anyBe ((h, ps ++ found.toList) :: A))) ((h, ps ++ found.toList) :: A) else .err (i + 1) else .err i
      | none => fromB (beginR t i (anyBe ((h, ps ++ found.toList) :: A))) ((h, ps ++ found.toList) :: A)
theorem goOn_cons {t : Str} {found : Option Pl} {i : Nat} {h : Hd} {ps : List Pl} {A : Stk} : goOn t found i ((h, ps) :: A) =
    (
    if (sgS t i = ")" ∧ Hd.lo h ≤ (ps ++ found.toList).length) ∨ Hd.hi h = some (ps ++ found.toList).length then
      if sgS t i = ")" then .go (some (.nd h (ps ++ found.toList))) (i + 1) A else .err i
    else match found with
      | some _ => if sgS t i = "," then if sgS t (i + 1) = " " then fromB (beginR t (i + 2) (anyBe ((h, ps ++ found.toList) :: A))) ((h, ps ++ found.toList) :: A) else .err (i + 1) else .err i
      | none => fromB (beginR t i (anyBe ((h, ps ++ found.toList) :: A))) ((h, ps ++ found.toList) :: A)) := by cases found <;> rfl
inductive Out where
  | ok (p : Pl)
  | err (i : Nat)
inductive Runs (t : Str) : Nat → Option Pl → Nat → Stk → Out → Prop
  | fin {p : Pl} {i : Nat} : sgS t i = "" → Runs t 0 (some p) i [] (.ok p)
  | bad {p : Pl} {i : Nat} : sgS t i ≠ "" → Runs t 0 (some p) i [] (.err i)
  | stop {f : Option Pl} {i e : Nat} {x : Hd × List Pl} {A : Stk} : goOn t f i (x :: A) = .err e → Runs t 0 f i (x :: A) (.err e)
  | step {n : Nat} {f f' : Option Pl} {i i' : Nat} {x : Hd × List Pl} {A A' : Stk} {R : Out} : goOn t f i (x :: A) = .go f' i' A' → Runs t n f' i' A' R → Runs t (n + 1) f i (x :: A) R
def Reads (t : Str) (R : Out) : Prop := (∃ e, fromB (beginR t 0 false) [] = .err e ∧ R = .err e) ∨ ∃ f i A n, fromB (beginR t 0 false) [] = .go f i A ∧ Runs t n f i A R
def cnt : Stk → Nat
  | [] => 0
  | (_, ps) :: A => ps.length + 1 + cnt A
def fo (f : Option Pl) : Nat := f.toList.length
theorem wlF_le (t : Str) : ∀ k i, i ≤ t.length → i + wlF t k i ≤ t.length
  | 0, i, h => h
  | k + 1, i, h => by
    rw [wlF]
    split
    · rename_i h1
      have : i < t.length := by
        unfold letterAt at h1
        cases hc : t.cps.toList[i]? with
        | none => rw [hc] at h1; cases h1
        | some c =>
          have := (List.getElem?_eq_some_iff.mp hc).1
          rw [Array.length_toList] at this
          exact this
      have := wlF_le t k (i + 1) this
      omega
    · exact h
theorem sg_lt {t : Str} {i : Nat} {s : Str} (h : sgS t i = s) (ne : s ≠ "") : i < t.length := by
  cases hc : t.cps.toList[i]? with
  | none => rw [sg_none hc] at h; exact absurd h.symm ne
  | some c =>
    have := (List.getElem?_eq_some_iff.mp hc).1
    rw [Array.length_toList] at this
    exact this
structure Bnd (t : Str) (f : Option Pl) (i : Nat) (A : Stk) : Prop where
  c : cnt A + fo f ≤ i
  l : i ≤ t.length
theorem bnd_begin {t : Str} {b : Bool} {i i' : Nat} {A A' : Stk} {f' : Option Pl} (c : cnt A ≤ i) (l : i ≤ t.length) (e : fromB (beginR t i b) A = .go f' i' A') : Bnd t f' i' A' := by
  have hw := wlF_le t 8 i l
  have nm : ∀ s j, fromB (.name s j) A = .go f' i' A' → j = i + wl t i → wl t i ≠ 0 → Bnd t f' i' A' := fun s j e ej h0 => by
    injection e with e1 e2 e3
    subst e1 e2 e3
    exact ⟨by simp [fo]; omega, by rw [ej]; exact hw⟩
  unfold beginR at e
  split at e
  · cases e
  rename_i h0
  split at e
  · rename_i h1
    split at e
    · split at e
      · exact nm _ _ e rfl h0
      · injection e with e1 e2 e3
        subst e1 e2 e3
        have := sg_lt h1 (by decide +kernel)
        exact ⟨by simp [fo, cnt]; omega, by omega⟩
    · exact nm _ _ e rfl h0
  · exact nm _ _ e rfl h0
theorem bnd_go {t : Str} {f f' : Option Pl} {i i' : Nat} {A A' : Stk} (B : Bnd t f i A) (e : goOn t f i A = .go f' i' A') : Bnd t f' i' A' := by
  have c := B.c
  have l := B.l
  cases A with
  | nil => cases e
  | cons x A =>
    obtain ⟨h, ps⟩ := x
    have k : cnt ((h, ps ++ f.toList) :: A) ≤ i := by
      simp only [cnt, fo] at c ⊢
      rw [List.length_append]
      omega
    rw [goOn_cons] at e
    split at e
    · split at e
      · rename_i h1
        injection e with e1 e2 e3
        subst e1 e2 e3
        have := sg_lt h1 (by decide +kernel)
        exact ⟨by simp only [fo, cnt] at c ⊢; simp; omega, by omega⟩
      · cases e
    · split at e
      · split at e
        · split at e
          · rename_i h1 h2
            have := sg_lt h2 (by decide +kernel)
            exact bnd_begin (by omega) (by omega) e
          · cases e
        · cases e
      · exact bnd_begin k l e
/-! ### what the reader keeps -/
structure Fr where
  a : Addr
  h : Hd
  vs : List V
  ps : List Pl
def Fr.ent (f : Fr) : Addr × HO := (f.a, .lst (.str f.h.s :: f.vs))
def ab (L : List Fr) : Stk := (L.map fun f => (f.h, f.ps)).reverse
def RM (C dx self ps : Addr) (t : Str) (i : Nat) (L : List Fr) (M0 : List (Addr × HO)) : List (Addr × HO) := (self, .ins C dx (rdF t i ps)) :: (ps, .lst (L.map fun f => V.ref f.a)) :: (L.map Fr.ent ++ M0)
def Fine (K : PySem.W.Frag) (G : Hp) (L : List Fr) : Prop := ∀ f ∈ L, Dts K G f.vs (Pl.dl f.ps)
theorem Fine.up {K : PySem.W.Frag} {G G1 : Hp} {L : List Fr} (h : Fine K G L) (s : Same G G1) : Fine K G1 L := fun f hf => (h f hf).up s
theorem RM_at {C dx self ps : Addr} {t : Str} {i k : Nat} {L : List Fr} {M0 : List (Addr × HO)} {f : Fr} (h : L[k]? = some f) : (RM C dx self ps t i L M0)[k + 2]? = some f.ent := by
  show (L.map Fr.ent ++ M0)[k]? = _
  have : k < (L.map Fr.ent).length := by rw [List.length_map]; exact (List.getElem?_eq_some_iff.mp h).1
  rw [List.getElem?_append_left this, List.getElem?_map, h]
  rfl
theorem RM_sub {C dx self ps : Addr} {t : Str} {i : Nat} {L : List Fr} {M0 : List (Addr × HO)} : M0.Sublist ((ps, HO.lst (L.map fun f => V.ref f.a)) :: (L.map Fr.ent ++ M0)) := (List.sublist_append_right _ _).cons _
theorem any_be (L : List Fr) : ((L.map fun f => decide (f.h = Hd.be)).any id) = anyBe (ab L) := by
  unfold anyBe ab
  rw [List.any_reverse, List.any_map, List.any_map]
  rfl
section
variable {P : Program} {w : World} {K : PySem.W.Frag} {mg : Str → Option Value} {base : Heap} {f : Addr} {fd : FuncData} {C CI : Addr}
def spBegin (K : PySem.W.Frag) (C CI : Addr) : Sp := fun vs H Q E => ∃ G M0 self dx t i ps L, vs = [.ref self] ∧ Zp G (RM C dx self ps t i L M0) H ∧ t.length ≤ 100000 ∧ L.length ≤ 100000 ∧
  (match beginR t i (anyBe (ab L)) with
    | .err e => RErr K CI G M0 E e
    | .name s j => ∀ G1 H1, Zp G1 (RM C dx self ps t j L M0) H1 → Same G G1 → Q (.str s) H1
    | .push h j => ∀ a G1 H1, Zp G1 (RM C dx self ps t j (L ++ [⟨a, h, [], []⟩]) M0) H1 → Same G G1 → Q .non H1)
theorem ok_begin (T : Nm K mg) (TB : PTab K w) (R : RC K C) (M_sign : Mth P w K mg base CX0 1 C "sign" ["self"] [] (spSign K C)) (M_mark : Mth P w K mg base (L2.CX P w) 3 C "mark" ["self", "sign"] [] (spMark K C CI)) (M_word : Mth P w K mg base (L2.CX P w) 3 C "word" ["self"] [] (spWordR K C CI))
    (F : FunD K "begin" "PlanReader.begin" (defArgs s_PlanReader_begin) (defBody s_PlanReader_begin) (defScope s_PlanReader_begin) [] [] f fd) : FnOk P w K mg base (L2.CX P w) 4 f fd ["self"] (spBegin K C CI) := by
  have nd : N_PlanReader_begin.Nodup := sc_PlanReader_begin.nd
  refine F.ok sc_PlanReader_begin (fun vs H Q E h => ?_) (fun cdv A outer s H vs Q E hr h => ?_)
  · obtain ⟨G, M0, self, dx, t, i, ps, L, rfl, _⟩ := h
    rfl
  have hu := hr.units
  refine ⟨_,   (pss_cons (ps_asg (pe_mtX0 M_word (hr.mono (by omega)) (takes_of rfl rfl rfl rfl) (pv 0)) (pg_name (i := 1) nd rfl (by first | exact .inl rfl | exact .inr rfl)))
    (pss_cons (ps_asg (pe_and (pe_cmpR (k_eq (K := K) hu) (pv 1) pe_str (nomark _)) (pe_one (pe_callB (kc_any (K := K) rfl) (by rfl) T.b_any boot_any (pa_cons (pe_lc (own := [("parts", 3)]) (tt := tYes) rfl nd (k_any (K := K) (k_fld (K := K) (pv 0) rfl)) (blkOk_by (N := N_PlanReader_begin) (sc := defScope s_PlanReader_begin) (by decide +kernel)) (fun _ _ _ _ _ => (pg_name (i := 3) nd rfl (by first | exact .inl rfl | exact .inr rfl))) (fun _ _ _ _ _ => pts_nil) (fun _ _ _ _ _ => (pe_cmpR (k_eq (K := K) hu) (pe_ix (k_ix (K := K)) (pv 3) pe_int (fun _ _ => rfl)) pe_str (nomark _)))) pa_nil)))) (pg_name (i := 2) nd rfl (by first | exact .inl rfl | exact .inr rfl)))
    (pss_cons (ps_if (PW.pt (pw_or (pt_cmpR (k_ne (K := K) hu) (pe_mt0 M_sign (hr.mono (by omega)) pass0 (pv 0)) pe_str (nomark _)) (pw_or (pt_cmpR (k_notInD (K := K) (w := w)) (pv 1) (pe_gC T.g_LEAST (by rfl)) (by rfl)) (pw_or1 (pt_val (pv 2)))))) (pss_one (ps_ret (pv 1))) pss_nil)
    (pss_cons (ps_expr (pe_mtX M_mark (hr.mono (by omega)) (takes_of rfl rfl rfl rfl) (pv 0) (pa_cons pe_str pa_nil)))
    (pss_cons (ps_expr (pe_bm PySem.F.plainAttrs_list PySem.F.slot_list_append PySem.F.type_list_append mt_append (k_fld (K := K) (pv 0) rfl) (pa_cons (pe_lst (pa_cons (pv 1) pa_nil)) pa_nil)))
    (pss_one (ps_ret pe_non))))))), ?_⟩
  obtain ⟨G, M0, self, dx, t, i, ps, L, rfl, z, hl, hL, q⟩ := h
  repeat (walk_at "z")
  refine z_mtO z 0 rfl rfl ?_
  repeat (walk_at "z")
  refine ⟨G, _, M0, self, dx, t, i, ps, rfl, z, hl, RM_sub (C := C) (dx := dx) (self := self) (t := t) (i := i), fun hw H1 z1 => ?_, fun hw => ?_⟩
  rotate_left
  · unfold beginR at q
    rw [if_pos hw] at q
    exact q
  unfold beginR at q
  rw [if_neg hw] at q
  generalize hs : sub t i (wl t i) = wd at q
  generalize hj : i + wl t i = j at q z1
  have z1 : Zp G (RM C dx self ps t j L M0) H1 := z1
  repeat (walk_at "y")
  with_reducible refine z_cut (fun σ H => ∃ G2, Zp G2 (RM C dx self ps t j L M0) H ∧ Same G G2 ∧ σ = [some (.ref self), some (.str wd), some (.bl (decide (wd = "beside") && anyBe (ab L))), none]) (fun nx hnx => ?_) (fun σ H2 h2 => ?_)
  · repeat (walk_at "z")
    refine z_eqS rfl ?_
    repeat (walk_at "z")
    by_cases c : wd = "beside"
    · refine z_bT' (decide_eq_true (by rw [c])) ?_
      repeat (walk_at "z")
      refine z_anyL ?_
      repeat (walk_at "z")
      refine z_flO z1 0 rfl R.cl R.n3 rfl ?_
      refine z_itLH (SqL.of (z1.at_ 1 rfl)) ?_
      refine lc_src src_L (fun k G' M' acc => M' = RM C dx self ps t j L M0 ∧ Same G G' ∧ acc = ((L.take k).map fun f => decide (f.h = Hd.be)).map V.bl) z1 ⟨rfl, Same.refl _, rfl⟩ (fun i G' M' M1 acc H' ⟨e, _, _⟩ z' => by subst e; exact SqL.of (z'.at_ 1 rfl)) ?_ ?_
      · rintro k x G' M' acc Dl H' hx ⟨rfl, s', rfl⟩ z'
        obtain ⟨fr, hf, rfl⟩ : ∃ fr, L[k]? = some fr ∧ x = .ref fr.a := by
          rw [List.getElem?_map] at hx
          cases e : L[k]? with
          | none => rw [e] at hx; cases hx
          | some fr => rw [e] at hx; exact ⟨fr, rfl, (Option.some.inj hx).symm⟩
        have hat : H' fr.a = some (.lst (.str fr.h.s :: fr.vs)) := z'.at_ (k + 2) (by
          have := RM_at (C := C) (dx := dx) (self := self) (ps := ps) (t := t) (i := j) (M0 := M0) hf
          rw [List.getElem?_append_left (List.getElem?_eq_some_iff.mp this).1]
          exact this)
        repeat (walk_at "z")
        refine ⟨by rfl, ?_⟩
        repeat (walk_at "z")
        refine z_ixH (SqL.of hat) at_zero ?_
        repeat (walk_at "z")
        refine z_eqS rfl ?_
        rw [str_be]
        refine z_laid z' (by rw [List.length_map, List.length_map, List.length_take]; omega) ⟨rfl, s', ?_⟩
        rw [take_snoc hf, List.map_append, List.map_append]
        rfl
      · rintro p3 G3 M3 acc G4 H3 ⟨rfl, s3, rfl⟩ s4 z4 e4
        rw [List.length_map, List.take_length] at e4
        repeat (walk_at "z")
        refine z_any (z4.seqL (SqL.of e4)) ?_
        rw [any_be]
        exact hnx _ _ ⟨G4, z4, s3.trans s4, by rw [decide_eq_true c]; rfl⟩
    · refine z_bF' (decide_eq_false fun h => c (V.str.inj h)) ?_
      exact hnx _ _ ⟨G, z1, Same.refl _, by rw [decide_eq_false c]; rfl⟩
  obtain ⟨G2, z2, s2, rfl⟩ := h2
  repeat (walk_at "z")
  refine z_mtO z2 0 rfl rfl ?_
  repeat (walk_at "z")
  refine ⟨G2, _, self, dx, t, j, ps, rfl, z2, hl, ?_⟩
  repeat (walk_at "z")
  refine z_neS rfl ?_
  repeat (walk_at "z")
  by_cases c : sgS t j = "("
  · rw [if_pos c] at q
    refine z_bT' (decide_eq_true (by rw [c])) ?_
    repeat (walk_at "z")
    refine z_notInKD TB.l ?_
    repeat (walk_at "z")
    rcases head_cases wd with ⟨h, rfl⟩ | ⟨n1, n2, _⟩
    · rw [hd_s] at q
      rw [le_at]
      refine z_bT' rfl ?_
      have eb : decide (h.s = ("beside" : Str)) = decide (h = .be) := by cases h <;> decide +kernel
      rw [eb]
      dsimp only at q
      repeat (walk_at "z")
      cases hb : (decide (h = .be) && anyBe (ab L)) with
      | true =>
        rw [hb, if_pos rfl] at q
        repeat (walk_at "z")
        exact q G2 H2 z2 s2
      | false =>
        rw [hb, if_neg Bool.false_ne_true] at q
        repeat (walk_at "z")
        refine z_mtO z2 0 rfl rfl ?_
        repeat (walk_at "z")
        refine ⟨G2, _, M0, self, dx, t, j, ps, _, rfl, z2, hl, RM_sub (C := C) (dx := dx) (self := self) (t := t) (i := j), fun _ H3 z3 => ?_, fun hn => absurd c hn⟩
        have z3 : Zp G2 (RM C dx self ps t (j + 1) L M0) H3 := z3
        repeat (walk_at "z")
        refine z_flO z3 0 rfl R.cl R.n3 rfl ?_
        refine z_tyO z3 1 rfl ?_
        repeat (walk_at "z")
        refine z_ownL z3 (by simp) fun a H4 z4 => ?_
        repeat (walk_at "z")
        refine z_append z4 1 rfl (by rw [List.length_map]; exact hL) fun H5 z5 => ?_
        repeat (walk_at "z")
        refine q a G2 H5 (z5.perm ?_) s2
        unfold RM
        simp only [List.cons_append, List.set_cons_succ, List.set_cons_zero, List.map_append, List.map_cons, List.map_nil]
        refine List.Perm.cons _ (List.Perm.cons _ ?_)
        rw [List.append_assoc, List.append_assoc]
        exact List.Perm.append_left _ List.perm_append_comm
    · rw [n1] at q
      rw [n2]
      refine z_bF' rfl ?_
      repeat (walk_at "z")
      exact q G2 H2 z2 s2
  · rw [if_neg c] at q
    refine z_bF' (decide_eq_false fun h => c (V.str.inj h)) ?_
    repeat (walk_at "z")
    exact q G2 H2 z2 s2
end
end LW
namespace LW
open PySem PySem.Spec PyProof.Rows L2 Ys

theorem snoc_at {α : Type} {L : List α} {x : α} : (L ++ [x])[L.length]? = some x := by simp
theorem at_last {xs : List V} {y : V} : atI (xs ++ [y]) (-1) = some y := by
  unfold atI ixN
  rw [if_neg (by decide), if_pos (by rw [List.length_append]; show -((xs.length + 1 : Nat) : Int) ≤ -1; omega)]
  have e : ((-1 : Int) + ((xs ++ [y]).length : Int)).toNat = xs.length := by
    rw [List.length_append]
    show ((-1 : Int) + ((xs.length + 1 : Nat) : Int)).toNat = _
    omega
  rw [e]
  show (xs ++ [y])[xs.length]? = some y
  exact snoc_at
theorem ab_snoc {L : List Fr} {fr : Fr} : ab (L ++ [fr]) = (fr.h, fr.ps) :: ab L := by unfold ab; rw [List.map_append, List.reverse_append]; rfl
theorem z_orC {tt uu : TT} {σ : L2.St} {H : Hp} {QB : Bool → Hp → Prop} (c : Bool) (h1 : ∀ QB' : Bool → Hp → Prop, QB' c H → tt σ H QB') (h2 : Bif c (QB true H) (uu σ H QB)) : tOr tt uu σ H QB := h1 _ h2
def FV (K : PySem.W.Frag) (G : Hp) (v : V) : Option Pl → Prop
  | none => v = .non
  | some p => Dt K G v p.d
theorem FV.up {K : PySem.W.Frag} {G G1 : Hp} {v : V} {f : Option Pl} (h : FV K G v f) (s : Same G G1) : FV K G1 v f := by
  cases f with
  | none => exact h
  | some p => exact Dt.up s h
theorem dt_ne {K : PySem.W.Frag} {G : Hp} {v : V} {p : Pl} (h : Dt K G v p.d) : decide (v = .non) = false := by
  cases p with
  | nm s => rw [dt_nm h]; rfl
  | nd h' ps => obtain ⟨a, xr, rfl, _⟩ := dt_nd h; rfl
theorem RM_set {C dx self ps : Addr} {t : Str} {i : Nat} {L : List Fr} {fr fr' : Fr} {M0 : List (Addr × HO)} (e : fr'.a = fr.a) : (RM C dx self ps t i (L ++ [fr]) M0).set (L.length + 2) fr'.ent = RM C dx self ps t i (L ++ [fr']) M0 := by
  unfold RM
  show (self, HO.ins C dx (rdF t i ps)) :: (ps, HO.lst ((L ++ [fr]).map fun f => V.ref f.a)) :: ((L ++ [fr]).map Fr.ent ++ M0).set L.length fr'.ent = _
  have e1 : ((L ++ [fr]).map fun f => V.ref f.a) = (L ++ [fr']).map fun f => V.ref f.a := by
    rw [List.map_append, List.map_append, List.map_cons, List.map_cons, e]
  have e2 : ((L ++ [fr]).map Fr.ent ++ M0).set L.length fr'.ent = (L ++ [fr']).map Fr.ent ++ M0 := by
    rw [List.map_append, List.map_append, List.append_assoc, List.append_assoc]
    have : L.length = (L.map Fr.ent).length := by rw [List.length_map]
    rw [this, List.set_append_right _ _ (Nat.le_refl _), Nat.sub_self]
    rfl
  rw [e1, e2]
section
variable {P : Program} {w : World} {K : PySem.W.Frag} {mg : Str → Option Value} {base : Heap} {f : Addr} {fd : FuncData} {C CI : Addr}
def spClose (K : PySem.W.Frag) (C CI : Addr) : Sp := fun vs H Q E => ∃ G M0 self dx t i ps L fr, vs = [.ref self] ∧ Zp G (RM C dx self ps t i (L ++ [fr]) M0) H ∧ Dts K G fr.vs (Pl.dl fr.ps) ∧ t.length ≤ 100000 ∧
  (sgS t i = ")" → ∀ v G1 H1, Zp G1 (RM C dx self ps t (i + 1) L M0) H1 → Same G G1 → Dt K G1 v (Pl.nd fr.h fr.ps).d → Q v H1) ∧ (sgS t i ≠ ")" → RErr K CI G M0 E i)
theorem ok_close (T : Nm K mg) (R : RC K C) (M_mark : Mth P w K mg base (L2.CX P w) 3 C "mark" ["self", "sign"] [] (spMark K C CI))
    (F : FunD K "close" "PlanReader.close" (defArgs s_PlanReader_close) (defBody s_PlanReader_close) (defScope s_PlanReader_close) [] [] f fd) : FnOk P w K mg base (L2.CX P w) 4 f fd ["self"] (spClose K C CI) := by
  have nd : N_PlanReader_close.Nodup := sc_PlanReader_close.nd
  refine F.ok sc_PlanReader_close (fun vs H Q E h => ?_) (fun cdv A outer s H vs Q E hr h => ?_)
  · obtain ⟨G, M0, self, dx, t, i, ps, L, fr, rfl, _⟩ := h
    rfl
  have hu := hr.units
  refine ⟨_,   (pss_cons (ps_expr (pe_mtX M_mark (hr.mono (by omega)) (takes_of rfl rfl rfl rfl) (pv 0) (pa_cons pe_str pa_nil)))
    (pss_one (ps_ret (pe_callTy (kc_tuple (K := K)) (by rfl) T.b_tuple boot_tuple (pa_cons (pe_bm0 PySem.F.plainAttrs_list PySem.F.slot_list_pop PySem.F.type_list_pop mt_pop (k_fld (K := K) (pv 0) rfl)) pa_nil))))), ?_⟩
  obtain ⟨G, M0, self, dx, t, i, ps, L, fr, rfl, z, hD, hl, q, qx⟩ := h
  repeat (walk_at "z")
  refine z_mtO z 0 rfl rfl ?_
  repeat (walk_at "z")
  refine ⟨G, _, M0, self, dx, t, i, ps, _, rfl, z, hl, RM_sub (C := C) (dx := dx) (self := self) (t := t) (i := i), fun c H1 z1 => ?_, fun c => qx c⟩
  have z1 : Zp G (RM C dx self ps t (i + 1) (L ++ [fr]) M0) H1 := z1
  repeat (walk_at "z")
  refine z_flO z1 0 rfl R.cl R.n3 rfl ?_
  refine z_tyO z1 1 rfl ?_
  refine z_pop (xs := L.map fun f => V.ref f.a) (y := .ref fr.a) z1 1 (by
    show some (ps, HO.lst ((L ++ [fr]).map fun f => V.ref f.a)) = _
    rw [List.map_append]
    rfl) fun H2 z2 => ?_
  have z2 : Zp G ((self, .ins C dx (rdF t (i + 1) ps)) :: (ps, .lst (L.map fun f => V.ref f.a)) :: ((L ++ [fr]).map Fr.ent ++ M0)) H2 := z2
  have hat : H2 fr.a = some (.lst (.str fr.h.s :: fr.vs)) := z2.at_ (L.length + 2) (by
    show ((L ++ [fr]).map Fr.ent ++ M0)[L.length]? = _
    rw [List.map_append, List.append_assoc]
    have : L.length = (L.map Fr.ent).length := by rw [List.length_map]
    rw [this, List.getElem?_append_right (Nat.le_refl _), Nat.sub_self]
    rfl)
  repeat (walk_at "z")
  refine z_tupH (SqL.of hat) z2 fun p G3 H3 z3 s3 e3 => ?_
  refine q c _ G3 H3 (z3.less ?_) s3 (dt_mk e3 (hD.up s3))
  unfold RM
  refine List.Sublist.cons_cons _ (List.Sublist.cons_cons _ ?_)
  rw [List.map_append]
  exact List.Sublist.append (List.sublist_append_left _ _) (List.Sublist.refl _)
def spGoOn (K : PySem.W.Frag) (C CI : Addr) : Sp := fun vs H Q E => ∃ G M0 self dx t i ps L fr v found, vs = [.ref self, v] ∧ Zp G (RM C dx self ps t i (L ++ [fr]) M0) H ∧ FV K G v found ∧ Fine K G (L ++ [fr]) ∧ t.length ≤ 100000 ∧ Bnd t found i (ab (L ++ [fr])) ∧
  (match goOn t found i (ab (L ++ [fr])) with
    | .err e => RErr K CI G M0 E e
    | .go f' i' A' => ∀ v' L' G1 H1, Zp G1 (RM C dx self ps t i' L' M0) H1 → Same G G1 → Fine K G1 L' → ab L' = A' → FV K G1 v' f' → Q v' H1)
theorem cnt_len (L : List Fr) : L.length ≤ cnt (ab L) := by
  have e : ∀ A : Stk, A.length ≤ cnt A := by
    intro A
    induction A with
    | nil => exact Nat.le_refl _
    | cons x A ih =>
      obtain ⟨h, ps⟩ := x
      simp only [cnt, List.length_cons]
      omega
  have := e (ab L)
  unfold ab at this
  rw [List.length_reverse, List.length_map] at this
  exact this
theorem ok_go_on (T : Nm K mg) (TB : PTab K w) (R : RC K C) (M_sign : Mth P w K mg base CX0 1 C "sign" ["self"] [] (spSign K C)) (M_mark : Mth P w K mg base (L2.CX P w) 3 C "mark" ["self", "sign"] [] (spMark K C CI)) (M_close : Mth P w K mg base (L2.CX P w) 4 C "close" ["self"] [] (spClose K C CI)) (M_begin : Mth P w K mg base (L2.CX P w) 4 C "begin" ["self"] [] (spBegin K C CI))
    (F : FunD K "go_on" "PlanReader.go_on" (defArgs s_PlanReader_go_on) (defBody s_PlanReader_go_on) (defScope s_PlanReader_go_on) [] [] f fd) : FnOk P w K mg base (L2.CX P w) 5 f fd ["self", "found"] (spGoOn K C CI) := by
  have nd : N_PlanReader_go_on.Nodup := sc_PlanReader_go_on.nd
  refine F.ok sc_PlanReader_go_on (fun vs H Q E h => ?_) (fun cdv A outer s H vs Q E hr h => ?_)
  · obtain ⟨G, M0, self, dx, t, i, ps, L, fr, v, found, rfl, _⟩ := h
    rfl
  have hu := hr.units
  refine ⟨_,   (pss_cons (ps_asg (pe_ix (k_ix (K := K)) (k_fld (K := K) (pv 0) rfl) (pe_un un_neg pe_int) (fun _ _ => rfl)) (pg_name (i := 2) nd rfl (by first | exact .inl rfl | exact .inr rfl)))
    (pss_cons (ps_if (pt_cmpR o_notN (pv 1) pe_non (nomark _)) (pss_one (ps_expr (pe_bm PySem.F.plainAttrs_list PySem.F.slot_list_append PySem.F.type_list_append mt_append (pv 2) (pa_cons (pv 1) pa_nil)))) pss_nil)
    (pss_cons (ps_asg (pe_op o_sub (pe_callB (kc_len (K := K) (P := P) (w := w)) (by rfl) T.b_len PySem.boot_len (pa_cons (pv 2) pa_nil)) pe_int) (pg_name (i := 3) nd rfl (by first | exact .inl rfl | exact .inr rfl)))
    (pss_cons (ps_if (PW.pt (pw_or (PW.pt (pw_and (pt_cmpR (k_eq (K := K) hu) (pe_mt0 M_sign (hr.mono (by omega)) pass0 (pv 0)) pe_str (nomark _)) (pw_and1 (pt_cmpR o_ge (pv 3) (pe_ix (k_ixD (K := K) (w := w)) (pe_gC T.g_LEAST (by rfl)) (pe_ix (k_ix (K := K)) (pv 2) pe_int (fun _ _ => rfl)) (fun _ _ => rfl)) (nomark _))))) (pw_or1 (pt_cmpR (k_eq (K := K) hu) (pv 3) (pe_ix (k_ixD (K := K) (w := w)) (pe_gC T.g_MOST (by rfl)) (pe_ix (k_ix (K := K)) (pv 2) pe_int (fun _ _ => rfl)) (fun _ _ => rfl)) (nomark _))))) (pss_one (ps_ret (pe_mtX0 M_close (hr.mono (by omega)) (takes_of rfl rfl rfl rfl) (pv 0)))) pss_nil)
    (pss_cons (ps_if (pt_cmpR o_notN (pv 1) pe_non (nomark _)) (pss_cons (ps_expr (pe_mtX M_mark (hr.mono (by omega)) (takes_of rfl rfl rfl rfl) (pv 0) (pa_cons pe_str pa_nil)))
    (pss_one (ps_expr (pe_mtX M_mark (hr.mono (by omega)) (takes_of rfl rfl rfl rfl) (pv 0) (pa_cons pe_str pa_nil))))) pss_nil)
    (pss_one (ps_ret (pe_mtX0 M_begin (hr.mono (by omega)) (takes_of rfl rfl rfl rfl) (pv 0))))))))), ?_⟩
  obtain ⟨G, M0, self, dx, t, i, ps, L, fr, v, found, rfl, z, hv, hF, hl, B, q⟩ := h
  rw [ab_snoc, goOn_cons] at q
  have Bc := B.c
  have Bl := B.l
  rw [ab_snoc] at Bc
  simp only [cnt] at Bc
  have hLc := cnt_len L
  have hfr := hF fr (by simp)
  have hvl := pls_len hfr
  obtain ⟨fa, fh, fvs, fps⟩ := fr
  dsimp only at q Bc hfr hvl
  repeat (walk_at "z")
  refine z_flO z 0 rfl R.cl R.n3 rfl ?_
  repeat (walk_at "z")
  refine z_neg ?_
  refine z_ixH (SqL.of (z.at_ 1 rfl)) (v := .ref fa) (by rw [List.map_append]; exact at_last) ?_
  repeat (walk_at "y")
  generalize hps' : fps ++ found.toList = ps' at q
  with_reducible refine z_cut (fun σ H => ∃ vs', Zp G (RM C dx self ps t i (L ++ [⟨fa, fh, vs', ps'⟩]) M0) H ∧ Dts K G vs' (Pl.dl ps') ∧ σ = [some (.ref self), some v, some (.ref fa), none]) (fun nx hnx => ?_) (fun σ H2 h2 => ?_)
  · repeat (walk_at "z")
    refine z_nN ?_
    repeat (walk_at "z")
    cases found with
    | none =>
      obtain rfl : v = .non := hv
      refine z_bT' rfl ?_
      repeat (walk_at "z")
      refine hnx _ _ ⟨fvs, ?_, ?_, rfl⟩
      · rw [← hps']
        simpa using z
      · rw [← hps']
        simpa using hfr
    | some p =>
      have hv : Dt K G v p.d := hv
      refine z_bF' (dt_ne hv) ?_
      have hk : (RM C dx self ps t i (L ++ [⟨fa, fh, fvs, fps⟩]) M0)[L.length + 2]? = some (fa, .lst (.str fh.s :: fvs)) := RM_at snoc_at
      repeat (walk_at "z")
      refine z_tyO z (L.length + 2) hk ?_
      repeat (walk_at "z")
      refine z_append z (L.length + 2) hk (by rw [List.length_cons, hvl]; omega) fun H1 z1 => ?_
      repeat (walk_at "z")
      refine hnx _ _ ⟨fvs ++ [v], ?_, ?_, rfl⟩
      · have e := RM_set (C := C) (dx := dx) (self := self) (ps := ps) (t := t) (i := i) (L := L) (fr := ⟨fa, fh, fvs, fps⟩) (fr' := ⟨fa, fh, fvs ++ [v], ps'⟩) (M0 := M0) rfl
        rw [← e]
        exact z1
      · rw [← hps']
        exact dts_app hfr (pl_all hv)
  obtain ⟨vs', z2, hD, rfl⟩ := h2
  have hn : vs'.length = ps'.length := pls_len hD
  have hk2 : (RM C dx self ps t i (L ++ [⟨fa, fh, vs', ps'⟩]) M0)[L.length + 2]? = some (fa, .lst (.str fh.s :: vs')) := RM_at snoc_at
  have hat : H2 fa = some (.lst (.str fh.s :: vs')) := z2.at_ (L.length + 2) hk2
  have hF2 : Fine K G (L ++ [⟨fa, fh, vs', ps'⟩]) := fun g hg => by
    rcases List.mem_append.mp hg with hg | hg
    · exact hF g (List.mem_append_left _ hg)
    · obtain rfl := List.mem_singleton.mp hg
      exact hD
  have eab : ab (L ++ [⟨fa, fh, vs', ps'⟩]) = (fh, ps') :: ab L := ab_snoc
  repeat (walk_at "z")
  refine z_lenH (.inl (SqL.of hat)) ?_
  repeat (walk_at "y")
  have en : ((V.str fh.s :: vs').length : Int) - 1 = (ps'.length : Int) := by rw [List.length_cons, hn]; omega
  rw [en]
  -- closed
  have fin : (sgS t i = ")" ∧ Hd.lo fh ≤ ps'.length) ∨ Hd.hi fh = some ps'.length → spClose K C CI [.ref self] H2 Q E := fun c => by
    rw [if_pos c] at q
    refine ⟨G, M0, self, dx, t, i, ps, L, _, rfl, z2, hD, hl, fun c1 v1 G1 H1 z1 s1 h1 => ?_, fun c1 => ?_⟩
    · rw [if_pos c1] at q
      exact q v1 L G1 H1 z1 s1 (fun g hg => (hF g (List.mem_append_left _ hg)).up s1) rfl h1
    · rw [if_neg c1] at q
      exact q
  repeat (walk_at "y")
  with_reducible refine z_seq ?_
  with_reducible refine z_ifS ?_
  with_reducible refine z_orC (decide (sgS t i = ")" ∧ Hd.lo fh ≤ ps'.length)) (fun QB' hq => ?_) ?_
  · repeat (walk_at "z")
    refine z_mtO z2 0 rfl rfl ?_
    repeat (walk_at "z")
    refine ⟨G, _, self, dx, t, i, ps, rfl, z2, hl, ?_⟩
    repeat (walk_at "z")
    refine z_eqS rfl ?_
    repeat (walk_at "z")
    by_cases c2 : sgS t i = ")"
    · refine z_bT' (decide_eq_true (by rw [c2])) ?_
      repeat (walk_at "z")
      refine z_ixH (SqL.of hat) at_zero ?_
      refine z_ixKD TB.l (le_at fh) ?_
      rw [le_lo]
      repeat (walk_at "z")
      have e : decide ((Hd.lo fh : Int) ≤ (ps'.length : Int)) = decide (sgS t i = ")" ∧ Hd.lo fh ≤ ps'.length) := by
        by_cases c4 : Hd.lo fh ≤ ps'.length
        · rw [decide_eq_true (show (Hd.lo fh : Int) ≤ (ps'.length : Int) by omega), decide_eq_true ⟨c2, c4⟩]
        · rw [decide_eq_false (show ¬ (Hd.lo fh : Int) ≤ (ps'.length : Int) by omega), decide_eq_false fun h => c4 h.2]
      rw [e]
      exact hq
    · refine z_bF' (decide_eq_false fun h => c2 (V.str.inj h)) ?_
      rw [decide_eq_false fun h : sgS t i = ")" ∧ Hd.lo fh ≤ ps'.length => c2 h.1] at hq
      exact hq
  by_cases c1 : sgS t i = ")" ∧ Hd.lo fh ≤ ps'.length
  · refine z_bT' (decide_eq_true c1) ?_
    repeat (walk_at "z")
    refine z_mtO z2 0 rfl rfl ?_
    repeat (walk_at "z")
    exact fin (.inl c1)
  · refine z_bF' (decide_eq_false c1) ?_
    repeat (walk_at "z")
    refine z_ixH (SqL.of hat) at_zero ?_
    refine z_ixKD TB.m (mo_at fh) ?_
    refine z_eqS (by cases fh <;> rfl) ?_
    rw [mo_hi]
    repeat (walk_at "z")
    by_cases c3 : Hd.hi fh = some ps'.length
    · refine z_bT' (decide_eq_true c3) ?_
      repeat (walk_at "z")
      refine z_mtO z2 0 rfl rfl ?_
      repeat (walk_at "z")
      exact fin (.inr c3)
    · refine z_bF' (decide_eq_false c3) ?_
      rw [if_neg (fun h => h.elim c1 c3)] at q
      have begin_ : ∀ (j : Nat) (H3 : Hp), Zp G (RM C dx self ps t j (L ++ [⟨fa, fh, vs', ps'⟩]) M0) H3 → (match fromB (beginR t j (anyBe ((fh, ps') :: ab L))) ((fh, ps') :: ab L) with
          | .err e => RErr K CI G M0 E e
          | .go f' i' A' => ∀ v' L' G1 H1, Zp G1 (RM C dx self ps t i' L' M0) H1 → Same G G1 → Fine K G1 L' → ab L' = A' → FV K G1 v' f' → Q v' H1) → spBegin K C CI [.ref self] H3 Q E := fun j H3 z3 q => by
        refine ⟨G, M0, self, dx, t, j, ps, _, rfl, z3, hl, by rw [List.length_append]; show L.length + 1 ≤ _; omega, ?_⟩
        rw [eab]
        cases hb : beginR t j (anyBe ((fh, ps') :: ab L)) with
        | err e =>
          rw [hb] at q
          exact q
        | name s k =>
          rw [hb] at q
          exact fun G1 H1 z1 s1 => q (.str s) _ G1 H1 z1 s1 (hF2.up s1) eab (by show Dt K G1 (.str s) (Pl.nm s).d; rw [Pl.d]; exact .str s)
        | push h k =>
          rw [hb] at q
          refine fun a G1 H1 z1 s1 => q .non _ G1 H1 z1 s1 (fun g hg => ?_) (by rw [ab_snoc, eab]) rfl
          rcases List.mem_append.mp hg with hg | hg
          · exact (hF2.up s1) g hg
          · obtain rfl := List.mem_singleton.mp hg
            exact .nil
      repeat (walk_at "z")
      refine z_nN ?_
      repeat (walk_at "z")
      cases found with
      | none =>
        obtain rfl : v = .non := hv
        refine z_bT' rfl ?_
        repeat (walk_at "z")
        refine z_mtO z2 0 rfl rfl ?_
        repeat (walk_at "z")
        exact begin_ i H2 z2 q
      | some p =>
        have hv : Dt K G v p.d := hv
        refine z_bF' (dt_ne hv) ?_
        repeat (walk_at "z")
        refine z_mtO z2 0 rfl rfl ?_
        repeat (walk_at "z")
        refine ⟨G, _, M0, self, dx, t, i, ps, _, rfl, z2, hl, RM_sub (C := C) (dx := dx) (self := self) (t := t) (i := i), fun c H3 z3 => ?_, fun c => ?_⟩
        rotate_left
        · dsimp only at q
          rw [if_neg c] at q
          exact q
        dsimp only at q
        rw [if_pos c] at q
        have z3 : Zp G (RM C dx self ps t (i + 1) (L ++ [⟨fa, fh, vs', ps'⟩]) M0) H3 := z3
        repeat (walk_at "z")
        refine z_mtO z3 0 rfl rfl ?_
        repeat (walk_at "z")
        refine ⟨G, _, M0, self, dx, t, i + 1, ps, _, rfl, z3, hl, RM_sub (C := C) (dx := dx) (self := self) (t := t) (i := i + 1), fun c H4 z4 => ?_, fun c => ?_⟩
        rotate_left
        · rw [if_neg c] at q
          exact q
        rw [if_pos c] at q
        have z4 : Zp G (RM C dx self ps t (i + 2) (L ++ [⟨fa, fh, vs', ps'⟩]) M0) H4 := z4
        repeat (walk_at "z")
        refine z_mtO z4 0 rfl rfl ?_
        repeat (walk_at "z")
        exact begin_ (i + 2) H4 z4 q
end
end LW
namespace LW
open PySem PySem.Spec PyProof.Rows L2 Ys

section
variable {P : Program} {w : World} {K : PySem.W.Frag} {mg : Str → Option Value} {base : Heap} {f : Addr} {fd : FuncData} {C CI : Addr}
def ROut (K : PySem.W.Frag) (CI : Addr) (G : Hp) (M0 : List (Addr × HO)) (Q : VK) (E : XK) : Out → Prop
  | .ok p => ∀ v G1 H1, Zp G1 M0 H1 → Same G G1 → Dt K G1 v p.d → Q v H1
  | .err e => RErr K CI G M0 E e
theorem ROut.up {G G1 : Hp} {M0 : List (Addr × HO)} {Q : VK} {E : XK} {R : Out} (h : ROut K CI G M0 Q E R) (s : Same G G1) : ROut K CI G1 M0 Q E R := by
  cases R with
  | ok p => exact fun v G2 H2 z2 s2 d2 => h v G2 H2 z2 (s.trans s2) d2
  | err e => exact RErr.up (K := K) (CI := CI) (show RErr K CI G M0 E e from h) s
def spWhole (K : PySem.W.Frag) (C CI : Addr) : Sp := fun vs H Q E => ∃ G M0 self dx t ps R, vs = [.ref self] ∧ Zp G (RM C dx self ps t 0 [] M0) H ∧ t.length ≤ 100000 ∧ Reads t R ∧ ROut K CI G M0 Q E R
theorem ok_whole (T : Nm K mg) (R : RC K C) (S_InvalidText : ExcS P w K mg base CI "InvalidText" "index") (M_sign : Mth P w K mg base CX0 1 C "sign" ["self"] [] (spSign K C)) (M_begin : Mth P w K mg base (L2.CX P w) 4 C "begin" ["self"] [] (spBegin K C CI)) (M_go_on : Mth P w K mg base (L2.CX P w) 5 C "go_on" ["self", "found"] [] (spGoOn K C CI))
    (F : FunD K "whole" "PlanReader.whole" (defArgs s_PlanReader_whole) (defBody s_PlanReader_whole) (defScope s_PlanReader_whole) [] [] f fd) : FnOk P w K mg base (L2.CX P w) 6 f fd ["self"] (spWhole K C CI) := by
  have nd : N_PlanReader_whole.Nodup := sc_PlanReader_whole.nd
  refine F.ok sc_PlanReader_whole (fun vs H Q E h => ?_) (fun cdv A outer s H vs Q E hr h => ?_)
  · obtain ⟨G, M0, self, dx, t, ps, Ro, rfl, _⟩ := h
    rfl
  have hu := hr.units
  refine ⟨_,   (pss_cons (ps_asg (pe_mtX0 M_begin (hr.mono (by omega)) (takes_of rfl rfl rfl rfl) (pv 0)) (pg_name (i := 1) nd rfl (by first | exact .inl rfl | exact .inr rfl)))
    (pss_cons (ps_while (passes_of rfl) (pt_cmpR (k_ne (K := K) hu) (k_fld (K := K) (pv 0) rfl) (pe_lst pa_nil) (nomark _)) (pss_one (ps_asg (pe_mtX M_go_on (hr.mono (by omega)) (takes_of rfl rfl rfl rfl) (pv 0) (pa_cons (pv 1) pa_nil)) (pg_name (i := 1) nd rfl (by first | exact .inl rfl | exact .inr rfl)))))
    (pss_cons (ps_if (pt_cmpR (k_ne (K := K) hu) (pe_mt0 M_sign (hr.mono (by omega)) pass0 (pv 0)) pe_str (nomark _)) (pss_one (ps_rs S_InvalidText rfl (takes_of rfl rfl rfl rfl) (hr.mono (by omega)) (by rfl) (k_fld (K := K) (pv 0) rfl))) pss_nil)
    (pss_one (ps_ret (pv 1)))))), ?_⟩
  obtain ⟨G, M0, self, dx, t, ps, Ro, rfl, z, hl, hR, q⟩ := h
  with_reducible refine z_cut (fun σ H => ∃ (v : V) (L : List Fr) (f : Option Pl) (i n : Nat) (G1 : Hp), Zp G1 (RM C dx self ps t i L M0) H ∧ Same G G1 ∧ Fine K G1 L ∧ FV K G1 v f ∧ Bnd t f i (ab L) ∧ Runs t n f i (ab L) Ro ∧ σ = [some (.ref self), some v]) (fun nx hnx => ?_) (fun σ H2 h2 => ?_)
  · repeat (walk_at "z")
    refine z_mtO z 0 rfl rfl ?_
    repeat (walk_at "z")
    refine ⟨G, M0, self, dx, t, 0, ps, [], rfl, z, hl, Nat.zero_le _, ?_⟩
    have e0 : anyBe (ab []) = false := rfl
    rw [e0]
    have bb := fun f' i' A' e => bnd_begin (t := t) (b := false) (i := 0) (i' := i') (A := []) (A' := A') (f' := f') (Nat.le_refl _) (Nat.zero_le _) e
    rcases hR with ⟨e, h1, rfl⟩ | ⟨f1, i1, A1, n, h1, h2⟩
    · cases hb : beginR t 0 false with
      | err e' =>
        rw [hb] at h1
        obtain rfl : e' = e := by injection h1
        exact q
      | name s j => rw [hb] at h1; cases h1
      | push h j => rw [hb] at h1; cases h1
    · cases hb : beginR t 0 false with
      | err e' => rw [hb] at h1; cases h1
      | name s j =>
        rw [hb] at h1 bb
        injection h1 with e1 e2 e3
        subst e1 e2 e3
        exact fun G1 H1 z1 s1 => hnx _ _ ⟨.str s, [], some (.nm s), j, n, G1, z1, s1, (fun g hg => by cases hg), (by show Dt K G1 (.str s) (Pl.nm s).d; rw [Pl.d]; exact .str s), bb _ _ _ rfl, h2, rfl⟩
      | push h j =>
        rw [hb] at h1 bb
        injection h1 with e1 e2 e3
        subst e1 e2 e3
        refine fun a G1 H1 z1 s1 => hnx _ _ ⟨.non, [⟨a, h, [], []⟩], none, j, n, G1, z1, s1, (fun g hg => ?_), rfl, bb _ _ _ rfl, h2, rfl⟩
        obtain rfl := List.mem_singleton.mp hg
        exact .nil
  obtain ⟨v, L, f, i, n, G1, z1, s1, hF, hv, hB, hr2, rfl⟩ := h2
  with_reducible refine z_cut (fun σ H => ∃ v p i G2, Zp G2 (RM C dx self ps t i [] M0) H ∧ Same G G2 ∧ Dt K G2 v (Pl.d p) ∧ Runs t 0 (some p) i [] Ro ∧ σ = [some (.ref self), some v]) (fun nx hnx => ?_) (fun σ H2 h2 => ?_)
  · refine z_while (fun n σ G' M' => ∃ v L f i, M' = RM C dx self ps t i L M0 ∧ Same G G' ∧ Fine K G' L ∧ FV K G' v f ∧ Bnd t f i (ab L) ∧ Runs t n f i (ab L) Ro ∧ σ = [some (.ref self), some v]) n z1 ⟨v, L, f, i, rfl, s1, hF, hv, hB, hr2, rfl⟩ ?_
    rintro n σ G' M' H' ⟨v, L, f, i, rfl, s', hF, hv, hB, hr2, rfl⟩ z'
    repeat (walk_at "z")
    refine z_flO z' 0 rfl R.cl R.n3 rfl ?_
    repeat (walk_at "z")
    refine z_newL z' (by simp) fun p2 G2 H2 z2 s2 e2 => ?_
    refine z_neNil (SqL.of (z2.at_ 1 rfl)) (z2.sub _ _ e2) ?_
    repeat (walk_at "z")
    rcases List.eq_nil_or_concat L with rfl | ⟨L', fr, rfl⟩
    · rw [decide_eq_false (by simp)]
      refine z_whF ?_
      have e0 : ab [] = [] := rfl
      rw [e0] at hr2
      cases hr2 with
      | fin h => exact hnx _ _ ⟨v, _, i, G2, z2, s'.trans s2, hv.up s2, .fin h, rfl⟩
      | bad h => exact hnx _ _ ⟨v, _, i, G2, z2, s'.trans s2, hv.up s2, .bad h, rfl⟩
    · rw [List.concat_eq_append] at hF hB hr2 z2
      rw [decide_eq_true (by simp)]
      refine z_whT ?_
      repeat (walk_at "z")
      refine z_mtO z2 0 rfl rfl ?_
      repeat (walk_at "z")
      refine ⟨G2, M0, self, dx, t, i, ps, L', fr, v, f, rfl, z2, hv.up s2, hF.up s2, hl, hB, ?_⟩
      have bg := fun f' i' A' e => bnd_go (f' := f') (i' := i') (A' := A') hB e
      rw [ab_snoc] at hr2 bg ⊢
      cases hr2 with
      | stop h =>
        rw [h]
        exact (q.up (s'.trans s2))
      | step h hr3 =>
        rw [h] at bg ⊢
        refine fun v' L2 G3 H3 z3 s3 hF3 e3 hv3 => ?_
        subst e3
        exact ⟨_, Nat.lt_succ_self _, G3, _, z3, v', L2, _, _, rfl, s'.trans (s2.trans s3), hF3, hv3, bg _ _ _ rfl, hr3, rfl⟩
  · obtain ⟨v, p, i, G2, z2, s2, hv2, hr2, rfl⟩ := h2
    repeat (walk_at "z")
    refine z_mtO z2 0 rfl rfl ?_
    repeat (walk_at "z")
    refine ⟨G2, _, self, dx, t, i, ps, rfl, z2, hl, ?_⟩
    repeat (walk_at "z")
    refine z_neS rfl ?_
    repeat (walk_at "z")
    have sb : M0.Sublist (RM C dx self ps t i [] M0) := (List.sublist_cons_self _ _).cons _
    cases hr2 with
    | fin h =>
      refine z_bT' (decide_eq_true (by rw [h])) ?_
      repeat (walk_at "z")
      exact q v G2 H2 (z2.less sb) s2 hv2
    | bad h =>
      refine z_bF' (decide_eq_false fun e => h (V.str.inj e)) ?_
      repeat (walk_at "z")
      refine z_flO z2 0 rfl R.cl R.n2 rfl ?_
      repeat (walk_at "z")
      exact z_rer z2 sb (RErr.up q s2)
def spRInit (K : PySem.W.Frag) (C CI : Addr) : Sp := fun vs H Q E => ∃ G M x dx v d, vs = [.ref x, v] ∧ Zp G (M ++ [(x, .ins C dx [])]) H ∧ Dt K G v d ∧
  (∀ t, d = .str t → ∀ ps G1 H1, Zp G1 (RM C dx x ps t 0 [] M) H1 → Same G G1 → Q .non H1) ∧ (isStrD d = false → RErr K CI G M E 0)
theorem ok_rinit (T : Nm K mg) (R : RC K C) (S_InvalidText : ExcS P w K mg base CI "InvalidText" "index") (F : FunD K "__init__" "PlanReader.__init__" (defArgs s_PlanReader_init) (defBody s_PlanReader_init) (defScope s_PlanReader_init) [] [] f fd) : FnOk P w K mg base (L2.CX P w) 3 f fd ["self", "text"] (spRInit K C CI) := by
  have nd : N_PlanReader_init.Nodup := sc_PlanReader_init.nd
  refine F.ok sc_PlanReader_init (fun vs H Q E h => ?_) (fun cdv A outer s H vs Q E hr h => ?_)
  · obtain ⟨G, M, x, dx, v, d, rfl, _⟩ := h
    rfl
  have hu := hr.units
  refine ⟨_,   (pss_cons (ps_if (pt_not (pt_val (pe_callB (kc_isi (K := K)) (by rfl) T.b_isinstance boot_isinstance (pa_cons (pv 1) (pa_cons (pe_bltn (v := .ty "str") (by rfl) T.b_str boot_str rfl) pa_nil))))) (pss_one (ps_rs S_InvalidText rfl (takes_of rfl rfl rfl rfl) (hr.mono (by omega)) (by rfl) pe_int)) pss_nil)
    (pss_cons (ps_fld (pv 0) (pv 1) rfl)
    (pss_cons (ps_fld (pv 0) pe_int rfl)
    (pss_one (ps_fld (pv 0) (pe_lst pa_nil) rfl))))), ?_⟩
  obtain ⟨G, M, x, dx, v, d, rfl, z, hd, q, qx⟩ := h
  repeat (walk_at "z")
  refine z_isi (.ty "str") (hd.up z.sub).ty (kit_ty (kit_str d)) ?_
  cases hi : isStrD d with
  | false =>
    repeat (walk_at "z")
    exact z_rer z (List.sublist_append_left _ _) (qx hi)
  | true =>
    cases hd with
    | str t =>
      repeat (walk_at "z")
      refine z_fsL z R.cl R.n1 (by decide) fun H1 z1 => ?_
      repeat (walk_at "z")
      refine z_fsL z1 R.cl R.n2 (by show 1 < 1000; decide) fun H2 z2 => ?_
      repeat (walk_at "z")
      refine z_ownL z2 (by simp) fun ps H3 z3 => ?_
      repeat (walk_at "z")
      refine z_fsI z3 M.length (by rw [List.getElem?_append_left (by simp)]; exact last_at) R.cl R.n3 (by simp only [putF]; split <;> simp) fun H4 z4 => ?_
      repeat (walk_at "z")
      have ef : putF "own_parts" (.ref ps) (putF "own_place" (.int 0) (putF "own_text" (.str t) [])) = rdF t 0 ps := by
        have e1 : ¬ Str.ofString "own_text" = Str.ofString "own_place" := by decide +kernel
        have e2 : ¬ Str.ofString "own_text" = Str.ofString "own_parts" := by decide +kernel
        have e3 : ¬ Str.ofString "own_place" = Str.ofString "own_parts" := by decide +kernel
        simp only [putF, if_neg e1, if_neg e2, if_neg e3]
        rfl
      rw [ef] at z4
      refine q t rfl ps G H4 (z4.perm ?_) (Same.refl _)
      rw [List.append_assoc, List.set_append_right _ _ (Nat.le_refl _), Nat.sub_self]
      exact List.perm_append_comm
    | _ => cases hi
def spRead (K : PySem.W.Frag) (CI : Addr) : Sp := fun vs H Q E => ∃ G M v d, vs = [v] ∧ Zp G M H ∧ Dt K G v d ∧ (∀ t, d = .str t → t.length ≤ 100000 ∧ ∃ R, Reads t R ∧ ROut K CI G M Q E R) ∧ (isStrD d = false → RErr K CI G M E 0)
theorem ok_read_plan (T : Nm K mg) (B_PlanReader : MkS P w K mg base (L2.CX P w) 3 C "PlanReader" 1 [] (fun vs zs => vs ++ zs) (spRInit K C CI)) (M_whole : Mth P w K mg base (L2.CX P w) 6 C "whole" ["self"] [] (spWhole K C CI)) (F : FnP K "read_plan" s_read_plan f fd) : FnOk P w K mg base (L2.CX P w) 7 f fd ["text"] (spRead K CI) := by
  have nd : N_read_plan.Nodup := sc_read_plan.nd
  refine F.ok sc_read_plan (fun vs H Q E h => ?_) (fun cdv A outer s H vs Q E hr h => ?_)
  · obtain ⟨G, M, v, d, rfl, _⟩ := h
    rfl
  have hu := hr.units
  refine ⟨_,   (pss_one (ps_ret (pe_mtX0 M_whole (hr.mono (by omega)) (takes_of rfl rfl rfl rfl) (pe_mkX B_PlanReader (hr.mono (by omega)) (by rfl) (takes_of rfl rfl rfl rfl) (pa_cons (pv 0) pa_nil) pk_nil)))), ?_⟩
  obtain ⟨G, M, v, d, rfl, z, hd, q, qx⟩ := h
  repeat (walk_at "z")
  refine z_mkSI z rfl rfl fun x dx H1 z1 s1 => ?_
  refine ⟨_, M, x, dx, v, d, rfl, z1, hd.up s1, fun t e ps G2 H2 z2 s2 => ⟨rfl, ?_⟩, fun hi => RErr.up (qx hi) s1⟩
  obtain ⟨hl, Ro, hR, q⟩ := q t e
  refine z_mtO z2 0 rfl rfl ?_
  repeat (walk_at "z")
  exact ⟨G2, M, x, dx, t, ps, Ro, rfl, z2, hl, hR, q.up (s1.trans s2)⟩
end
end LW
namespace LW
open PySem PySem.Spec PyProof.Rows L2 Ys
/-! ### a plan's text is read as the plan -/
def cs (s : Str) : List Nat := s.cps.toList
def rem (t : Str) (i : Nat) : List Nat := (cs t).drop i
theorem rem_at {t : Str} {i c : Nat} {r : List Nat} (h : rem t i = c :: r) : t.cps.toList[i]? = some c := by
  have e : (rem t i).head? = some c := by rw [h]; rfl
  rw [rem, List.head?_drop] at e
  exact e
theorem rem_nil {t : Str} {i : Nat} (h : rem t i = []) : t.cps.toList[i]? = none := by
  have e : (rem t i).head? = none := by rw [h]; rfl
  rw [rem, List.head?_drop] at e
  exact e
theorem rem_add {t : Str} {i : Nat} {w r : List Nat} (h : rem t i = w ++ r) : rem t (i + w.length) = r := by
  unfold rem at *
  rw [← List.drop_drop, h, List.drop_left]
theorem rem_add' {t : Str} {i n : Nat} {w r : List Nat} (h : rem t i = w ++ r) (e : w.length = n) : rem t (i + n) = r := by
  subst e
  exact rem_add h
def Stops (r : List Nat) : Prop := ∀ c, r.head? = some c → c ∉ abcL
theorem wlF_of {t : Str} : ∀ (k i : Nat) (w r : List Nat), rem t i = w ++ r → (∀ c ∈ w, c ∈ abcL) → w.length ≤ k → Stops r → wlF t k i = w.length
  | 0, i, w, r, h, hw, hl, hs => by rw [wlF]; omega
  | k + 1, i, [], r, h, hw, hl, hs => by
    have e : letterAt t i = false := by
      unfold letterAt
      cases r with
      | nil => rw [rem_nil h]
      | cons c r => rw [rem_at h]; exact decide_eq_false (hs c rfl)
    rw [wlF, e]
    rfl
  | k + 1, i, c :: w, r, h, hw, hl, hs => by
    have e : letterAt t i = true := by
      unfold letterAt
      rw [rem_at h]
      exact decide_eq_true (hw c (by simp))
    have h2 : rem t (i + 1) = w ++ r := rem_add (w := [c]) h
    rw [wlF, if_pos e, wlF_of k (i + 1) w r h2 (fun x hx => hw x (by simp [hx])) (by simp at hl; omega) hs]
    rfl
theorem sub_of {t : Str} {i n : Nat} {s : Str} {r : List Nat} (h : rem t i = cs s ++ r) (e : s.length = n) : LW.sub t i n = s := by
  have hl : (cs s).length = n := by rw [← e]; exact Array.length_toList
  have hlen : (cs t).length = t.length := Array.length_toList
  have hin : i + n ≤ t.length ∨ n = 0 := by
    have := congrArg List.length h
    rw [rem, List.length_drop, List.length_append, hl, hlen] at this
    omega
  have e1 : HT.sIx t.length 0 (some (i : Int)) = min i t.length := HT.sIx_nat _ _ _
  have e2 : HT.sIx t.length t.length (some ((i + n : Nat) : Int)) = min (i + n) t.length := HT.sIx_nat _ _ _
  unfold LW.sub cutS
  rw [e1, e2]
  have e3 : (t.cps.toList.drop (min i t.length)).take (min (i + n) t.length - min i t.length) = cs s := by
    rcases hin with hin | rfl
    · rw [show min i t.length = i by omega, show min (i + n) t.length - i = n by omega]
      show (rem t i).take n = _
      rw [h, ← hl, List.take_left]
    · rw [show min (i + 0) t.length - min i t.length = 0 by omega, List.take_zero]
      exact (List.eq_nil_of_length_eq_zero hl).symm
  rw [e3]
  show (⟨s.cps.toList.toArray⟩ : Str) = s
  rw [Array.toArray_toList]
theorem sg_rem {t : Str} {i c : Nat} {r : List Nat} (h : rem t i = c :: r) : sgS t i = ⟨#[c]⟩ := sg_some (rem_at h)
theorem one_inj {c d : Nat} (h : (⟨#[c]⟩ : Str) = ⟨#[d]⟩) : c = d := by injection h with h; simpa using h
theorem s40 : ("(" : Str) = ⟨#[40]⟩ := by decide +kernel
theorem s41 : (")" : Str) = ⟨#[41]⟩ := by decide +kernel
theorem s44 : ("," : Str) = ⟨#[44]⟩ := by decide +kernel
theorem s32 : (" " : Str) = ⟨#[32]⟩ := by decide +kernel
def tx (p : Pl) : List Nat := cs (txt p)
def T : List Pl → List Nat
  | [] => [41]
  | q :: qs => [44, 32] ++ (tx q ++ T qs)
theorem cs_app (x y : Str) : cs (x ++ y) = cs x ++ cs y := by
  show (x.cps ++ y.cps).toList = _
  rw [Array.toList_append]
  rfl
theorem join_T : ∀ (q : Pl) (qs : List Pl), cs (Txt.join ", " ((q :: qs).map txt)) ++ [41] = tx q ++ T qs := by
  have e : ∀ l : List Pl, cs (Txt.join ", " (l.map txt)) = TL.joinL [44, 32] (l.map tx) := fun l => by
    have := TL.tl_join ", " (l.map txt)
    rw [TL.join_eq]
    have e2 : TL.tl (", " : Str) = [44, 32] := by decide +kernel
    rw [e2, List.map_map] at this
    exact this
  intro q qs
  rw [e]
  induction qs generalizing q with
  | nil => rfl
  | cons a r ih =>
    have := ih a
    show tx q ++ ([44, 32] ++ TL.joinL [44, 32] ((a :: r).map tx)) ++ [41] = _
    rw [List.append_assoc, List.append_assoc, this]
    rfl
theorem tx_nd (h : Hd) (ps : List Pl) : tx (.nd h ps) = cs h.s ++ (40 :: (cs (Txt.join ", " (ps.map txt)) ++ [41])) := by
  unfold tx
  rw [txt, txtl_map, cs_app, cs_app, cs_app]
  have e1 : cs ("(" : Str) = [40] := by decide +kernel
  have e2 : cs (")" : Str) = [41] := by decide +kernel
  rw [e1, e2]
  simp
theorem hd_abc (h : Hd) : ∀ c ∈ cs h.s, c ∈ abcL := by cases h <;> decide +kernel
theorem wd_abc {s : Str} (h : Wd s) : ∀ c ∈ cs s, c ∈ abcL := fun c hc => by
  have e : abcL = (List.range 26).map (· + 97) := by decide +kernel
  have h2 := h.2.2 c hc
  rw [e]
  exact List.mem_map.mpr ⟨c - 97, List.mem_range.mpr (by omega), by omega⟩
theorem tx_head (p : Pl) (k : Nms p) : ∃ c r, tx p = c :: r ∧ c ∈ abcL := by
  cases p with
  | nm s =>
    cases k with
    | nm k =>
      have e : tx (.nm s) = cs s := by unfold tx; rw [txt]
      rw [e]
      cases hc : cs s with
      | nil =>
        have : s.length = 0 := by
          have := congrArg List.length hc
          rw [cs, Array.length_toList] at this
          exact this
        have := k.1
        omega
      | cons c r => exact ⟨c, r, rfl, wd_abc k c (by rw [hc]; simp)⟩
  | nd h ps =>
    rw [tx_nd]
    cases hc : cs h.s with
    | nil => cases h <;> exact absurd hc (by decide +kernel)
    | cons c r => exact ⟨c, _, rfl, hd_abc h c (by rw [hc]; simp)⟩
def Ends_ (r : List Nat) : Prop := ∀ c, r.head? = some c → c ∉ abcL ∧ c ≠ 40
theorem T_ends : ∀ qs : List Pl, Ends_ (T qs)
  | [] => fun c h => by
    obtain rfl : 41 = c := by simpa [T] using h
    decide +kernel
  | q :: qs => fun c h => by
    obtain rfl : 44 = c := by simpa [T] using h
    decide +kernel
theorem hi_lt {h : Hd} {n m : Nat} (f : h.fit m = true) (l : n < m) : Hd.hi h ≠ some n := by
  cases h
  case ag =>
    have f : m = 1 := of_decide_eq_true f
    intro e
    have := Option.some.inj (show some 1 = some n from e)
    omega
  case be =>
    have f : m = 2 := of_decide_eq_true f
    intro e
    have := Option.some.inj (show some 2 = some n from e)
    omega
  all_goals (intro e; cases e)
theorem lo_le {h : Hd} {m : Nat} (f : h.fit m = true) : Hd.lo h ≤ m := by
  cases h
  case th => exact Nat.zero_le _
  case ei => exact of_decide_eq_true f
  case an => exact of_decide_eq_true f
  case ag => have f : m = 1 := of_decide_eq_true f; show 1 ≤ m; omega
  case be => have f : m = 2 := of_decide_eq_true f; show 2 ≤ m; omega
def ReadsAt (t : Str) (p : Pl) : Prop := ∀ (i : Nat) (r : List Nat) (A : Stk) (R : Out) (n : Nat), Ok (anyBe A) p → rem t i = tx p ++ r → Ends_ r → Runs t n (some p) (i + (tx p).length) A R →
  ∃ f' i' A' m, fromB (beginR t i (anyBe A)) A = .go f' i' A' ∧ Runs t m f' i' A' R
theorem cs_len (s : Str) : (cs s).length = s.length := Array.length_toList
theorem begin_name {t : Str} {i : Nat} {b : Bool} {s : Str} {r : List Nat} (h : rem t i = cs s ++ r) (k : Wd s) (e : Ends_ r) : beginR t i b = .name s (i + s.length) := by
  have hw : wl t i = s.length := by
    unfold wl
    rw [wlF_of 8 i (cs s) r h (wd_abc k) (by rw [cs_len]; exact k.2.1) (fun c hc => (e c hc).1), cs_len]
  have hs : LW.sub t i (wl t i) = s := sub_of h hw.symm
  have h2 : rem t (i + s.length) = r := rem_add' h (cs_len s)
  unfold beginR
  rw [hs, hw, if_neg (by have := k.1; omega), if_neg]
  intro h40
  cases r with
  | nil => rw [sg_none (rem_nil h2)] at h40; revert h40; decide +kernel
  | cons c r =>
    rw [sg_rem h2, s40] at h40
    exact (e c rfl).2 (one_inj h40)
theorem begin_push {t : Str} {i : Nat} {b : Bool} {h : Hd} {r : List Nat} (e : rem t i = cs h.s ++ (40 :: r)) (nb : (decide (h = .be) && b) = false) : beginR t i b = .push h (i + h.s.length + 1) := by
  have hs40 : Stops (40 :: r) := fun c hc => by
    obtain rfl : 40 = c := by simpa using hc
    decide +kernel
  have hw : wl t i = h.s.length := by
    unfold wl
    rw [wlF_of 8 i (cs h.s) _ e (hd_abc h) (by rw [cs_len]; exact hd_len h) hs40, cs_len]
  have hs : LW.sub t i (wl t i) = h.s := sub_of e hw.symm
  have h2 : rem t (i + h.s.length) = 40 :: r := rem_add' e (cs_len h.s)
  have h1 : 1 ≤ h.s.length := by cases h <;> decide +kernel
  unfold beginR
  rw [hs, hw, if_neg (by omega), if_pos (by rw [sg_rem h2, s40]), hd_s]
  show (if (decide (h = .be) && b) = true then _ else _) = _
  rw [nb, if_neg Bool.false_ne_true]
theorem sg_ne41 {t : Str} {i c : Nat} {r : List Nat} (h : rem t i = c :: r) (n : c ≠ 41) : sgS t i ≠ ")" := by
  rw [sg_rem h, s41]
  exact fun e => n (one_inj e)
theorem rest_runs {t : Str} {h : Hd} {A : Stk} {R : Out} {n : Nat} : ∀ (qs : List Pl) (dn : List Pl) (q : Pl) (j : Nat) (r : List Nat), h.fit (dn ++ q :: qs).length = true → (∀ p ∈ qs, ReadsAt t p ∧ Ok (decide (h = .be) || anyBe A) p) → rem t j = T qs ++ r →
    Runs t n (some (.nd h (dn ++ q :: qs))) (j + (T qs).length) A R → ∃ m, Runs t m (some q) j ((h, dn) :: A) R
  | [], dn, q, j, r, f, _, e, k => by
    have g : goOn t (some q) j ((h, dn) :: A) = .go (some (.nd h (dn ++ [q]))) (j + 1) A := by
      have hs : sgS t j = ")" := by rw [sg_rem e, s41]
      rw [goOn_cons]
      have c : (sgS t j = ")" ∧ Hd.lo h ≤ (dn ++ (some q).toList).length) ∨ Hd.hi h = some (dn ++ (some q).toList).length := .inl ⟨hs, lo_le f⟩
      rw [if_pos c, if_pos hs]
      rfl
    exact ⟨_, .step g k⟩
  | q2 :: qs, dn, q, j, r, f, hq, e, k => by
    have e1 : rem t j = 44 :: (32 :: (tx q2 ++ (T qs ++ r))) := by rw [e]; simp [T]
    have e2 : rem t (j + 1) = 32 :: (tx q2 ++ (T qs ++ r)) := rem_add (w := [44]) e1
    have e3 : rem t (j + 2) = tx q2 ++ (T qs ++ r) := rem_add (w := [44, 32]) e1
    obtain ⟨hr, ho⟩ := hq q2 (by simp)
    have h1 : sgS t j = "," := by rw [sg_rem e1, s44]
    have h2 : sgS t (j + 1) = " " := by rw [sg_rem e2, s32]
    have h0 : sgS t j ≠ ")" := sg_ne41 e1 (by decide)
    have en : Ends_ (T qs ++ r) := fun c hc => by
      refine T_ends qs c ?_
      cases qs with
      | nil => simpa [T] using hc
      | cons a b => simpa [T] using hc
    have el : (dn ++ [q]) ++ q2 :: qs = dn ++ q :: q2 :: qs := by simp
    have ih : ∃ m, Runs t m (some q2) (j + 2 + (tx q2).length) ((h, dn ++ [q]) :: A) R := by
      refine rest_runs (n := n) qs (dn ++ [q]) q2 _ r (by rw [el]; exact f) (fun p hp => hq p (by simp [hp])) (rem_add e3) ?_
      rw [el]
      have : j + 2 + (tx q2).length + (T qs).length = j + (T (q2 :: qs)).length := by simp [T]; omega
      rw [this]
      exact k
    obtain ⟨m1, ih⟩ := ih
    have ea : anyBe ((h, dn ++ [q]) :: A) = (decide (h = .be) || anyBe A) := rfl
    obtain ⟨f', i', A', m2, g1, g2⟩ := hr (j + 2) (T qs ++ r) ((h, dn ++ [q]) :: A) R m1 (by rw [ea]; exact ho) e3 en ih
    have g : goOn t (some q) j ((h, dn) :: A) = .go f' i' A' := by
      rw [goOn_cons]
      have c : ¬ ((sgS t j = ")" ∧ Hd.lo h ≤ (dn ++ (some q).toList).length) ∨ Hd.hi h = some (dn ++ (some q).toList).length) := fun c => c.elim (fun c => h0 c.1) (hi_lt f (by simp))
      rw [if_neg c, if_pos h1, if_pos h2]
      exact g1
    exact ⟨_, .step g g2⟩
theorem reads_nd {t : Str} {h : Hd} {ps : List Pl} (ih : ∀ p ∈ ps, ReadsAt t p) (i : Nat) (r : List Nat) (A : Stk) (R : Out) (n : Nat) (k : Ok (anyBe A) (.nd h ps)) (e : rem t i = tx (.nd h ps) ++ r) (hr : Runs t n (some (.nd h ps)) (i + (tx (.nd h ps)).length) A R) :
    ∃ f' i' A' m, fromB (beginR t i (anyBe A)) A = .go f' i' A' ∧ Runs t m f' i' A' R := by
  cases k with
  | nd f c ko =>
    rw [tx_nd] at e hr
    have nb : (decide (h = .be) && anyBe A) = false := by
      cases hb : anyBe A with
      | false => rw [Bool.and_false]
      | true => rw [decide_eq_false (c hb)]; rfl
    have e' : rem t i = cs h.s ++ (40 :: (cs (Txt.join ", " (ps.map txt)) ++ [41] ++ r)) := by rw [e]; simp
    rw [begin_push e' nb]
    have e2 : rem t (i + h.s.length + 1) = cs (Txt.join ", " (ps.map txt)) ++ [41] ++ r := rem_add (w := [40]) (rem_add' e' (cs_len h.s))
    have ei : i + (cs h.s ++ (40 :: (cs (Txt.join ", " (ps.map txt)) ++ [41]))).length = i + h.s.length + 1 + (cs (Txt.join ", " (ps.map txt)) ++ [41]).length := by
      rw [List.length_append, List.length_cons, cs_len]; omega
    rw [ei] at hr
    have ko' : ∀ p ∈ ps, Ok (decide (h = .be) || anyBe A) p := fun p hp => by rw [Bool.or_comm]; exact ko p hp
    generalize i + h.s.length + 1 = j at e2 hr
    have main : ∃ m, Runs t m none j ((h, []) :: A) R := by
      cases ps with
      | nil =>
        have hj : cs (Txt.join ", " (([] : List Pl).map txt)) = [] := by
          have : Txt.join ", " ([] : List Str) = ("" : Str) := by rw [TL.join_eq]; rfl
          show cs (Txt.join ", " ([] : List Str)) = []
          rw [this]
          decide +kernel
        rw [hj] at e2 hr
        have hs : sgS t j = ")" := by rw [sg_rem e2, s41]
        have g : goOn t none j ((h, []) :: A) = .go (some (.nd h [])) (j + 1) A := by
          rw [goOn_cons]
          have c : (sgS t j = ")" ∧ Hd.lo h ≤ (([] : List Pl) ++ (none : Option Pl).toList).length) ∨ Hd.hi h = some (([] : List Pl) ++ (none : Option Pl).toList).length := .inl ⟨hs, lo_le f⟩
          rw [if_pos c, if_pos hs]
          rfl
        exact ⟨_, .step g hr⟩
      | cons q qs =>
        rw [join_T] at e2 hr
        have e3 : rem t j = tx q ++ (T qs ++ r) := by rw [e2, List.append_assoc]
        have en2 : Ends_ (T qs ++ r) := fun c hc => by
          refine T_ends qs c ?_
          cases qs with
          | nil => simpa [T] using hc
          | cons a b => simpa [T] using hc
        rw [List.length_append, ← Nat.add_assoc] at hr
        obtain ⟨m1, h1⟩ := rest_runs qs [] q (j + (tx q).length) r f (fun p hp => ⟨ih p (by simp [hp]), ko' p (by simp [hp])⟩) (rem_add e3) hr
        have ea : anyBe ((h, ([] : List Pl)) :: A) = (decide (h = .be) || anyBe A) := rfl
        obtain ⟨f', i', A', m2, g1, g2⟩ := ih q (by simp) j (T qs ++ r) ((h, []) :: A) R m1 (by rw [ea]; exact ko' q (by simp)) e3 en2 h1
        obtain ⟨c, r', hc, hl⟩ := tx_head q (Ok.nms _ _ (ko' q (by simp)))
        have h0 : sgS t j ≠ ")" := by
          rw [hc] at e3
          refine sg_ne41 e3 fun e41 => ?_
          rw [e41] at hl
          revert hl
          decide +kernel
        have g : goOn t none j ((h, []) :: A) = .go f' i' A' := by
          rw [goOn_cons]
          have c : ¬ ((sgS t j = ")" ∧ Hd.lo h ≤ (([] : List Pl) ++ (none : Option Pl).toList).length) ∨ Hd.hi h = some (([] : List Pl) ++ (none : Option Pl).toList).length) := fun c => c.elim (fun c => h0 c.1) (hi_lt f (by simp))
          rw [if_neg c]
          exact g1
        exact ⟨_, .step g g2⟩
    obtain ⟨m, hm⟩ := main
    exact ⟨_, _, _, m, rfl, hm⟩
theorem reads_at (t : Str) : ∀ p, ReadsAt t p := Pl.ind (fun s => fun i r A R n k e en hr => by
    have et : tx (.nm s) = cs s := by unfold tx; rw [txt]
    rw [et] at e hr
    cases k with
    | nm k =>
      rw [begin_name e k en]
      exact ⟨_, _, _, n, rfl, by rw [← cs_len]; exact hr⟩) fun h ps ih => fun i r A R n k e en hr => reads_nd ih i r A R n k e hr
theorem reads_txt {p : Pl} (k : Ok false p) : Reads (txt p) (.ok p) := by
  have e : rem (txt p) 0 = tx p ++ [] := by unfold rem tx; rw [List.drop_zero, List.append_nil]
  have en : Ends_ [] := fun c h => by cases h
  have e2 := rem_add e
  rw [Nat.zero_add] at e2
  have hr : Runs (txt p) 0 (some p) (0 + (tx p).length) [] (.ok p) := by
    rw [Nat.zero_add]
    exact .fin (sg_none (rem_nil e2))
  obtain ⟨f', i', A', m, g1, g2⟩ := reads_at (txt p) p 0 [] [] (.ok p) 0 k e en hr
  exact .inr ⟨f', i', A', m, g1, g2⟩
end LW
namespace LW
open PySem PySem.Spec PyProof.Rows L2 Ys

/-! ### drawn plans -/
def cst : Nat → Nat
  | 0 => 4
  | d + 1 => 4 + 4 * cst d
def szB : Nat → Nat
  | 0 => 1
  | d + 1 => 1 + 4 * szB d
theorem cst_pos : ∀ d, 4 ≤ cst d
  | 0 => Nat.le_refl _
  | d + 1 => by rw [cst]; omega
theorem szB_pos : ∀ d, 1 ≤ szB d
  | 0 => Nat.le_refl _
  | d + 1 => by rw [szB]; omega
inductive NarP : Pl → Prop where
  | nm {s : Str} : NarP (.nm s)
  | nd {h : Hd} {ps : List Pl} : ps.length ≤ 4 → (∀ p ∈ ps, NarP p) → NarP (.nd h ps)
structure Dr (inner : Bool) (d : Nat) (ns : List Str) (q : Pl) : Prop where
  ok : Ok inner q
  dp : q.dp ≤ d + 1
  sz : q.sz ≤ szB d
  mem : ∀ s ∈ nmsL q, s ∈ ns
  ar : NarP q
theorem nmsLl_mem {s : Str} : ∀ {qs : List Pl}, s ∈ nmsLl qs → ∃ q ∈ qs, s ∈ nmsL q
  | [], h => by simp [nmsLl] at h
  | q :: qs, h => by
    rw [nmsLl] at h
    rcases List.mem_append.mp h with h | h
    · exact ⟨q, by simp, h⟩
    · obtain ⟨p, hp, hs⟩ := nmsLl_mem h
      exact ⟨p, List.mem_cons_of_mem _ hp, hs⟩
theorem szl_le {n : Nat} : ∀ {qs : List Pl}, (∀ q ∈ qs, q.sz ≤ n) → Pl.szl qs ≤ qs.length * n
  | [], _ => by simp [Pl.szl]
  | q :: qs, h => by
    have h1 := h q (by simp)
    have h2 := szl_le fun p hp => h p (List.mem_cons_of_mem _ hp)
    rw [Pl.szl, List.length_cons, Nat.add_mul, Nat.one_mul]
    omega
section
variable {P : Program} {w : World} {K : PySem.W.Frag} {mg : Str → Option Value} {base : Heap} {f : Addr} {fd : FuncData}
def nmsLl' (qs : List Pl) : Nat := (nmsLl qs).length
def spPlan (K : PySem.W.Frag) (n : Nat) : Sp := fun vs H Q _ => ∃ p o G M b na ns ra, ∃ rm : Int, ∃ d : Nat, ∃ inner, vs = [.ref p, .ref na, .ref ra, .int d, .bl inner] ∧ Zp G ((p, o) :: (ra, .lst [.int rm]) :: M) H ∧ Pen K G b o ∧ b + cst d ≤ 100000000000 ∧
  SqL K G na (ns.map V.str) ∧ ns ≠ [] ∧ ns.length ≤ 1000 ∧ (∀ s ∈ ns, Wd s) ∧ 0 ≤ rm ∧ rm ≤ 1000 ∧ d < n ∧
  ∀ v q G1 H1 o1, ∀ rm' : Int, Zp G1 ((p, o1) :: (ra, .lst [.int rm']) :: M) H1 → Same G G1 → Pen K G1 (b + cst d) o1 → Dt K G1 v (Pl.d q) → Dr inner d ns q → 0 ≤ rm' → ((nmsL q).length : Int) + rm' ≤ rm → Q v H1
end
end LW
namespace LW
open PySem PySem.Spec PyProof.Rows L2 Ys
/-! ### how long a plan is when shown -/
theorem rc_one {q c : Nat} (hq : q = 34 ∨ q = 39) (h1 : 97 ≤ c) (h2 : c ≤ 122) : (Builtin.Str.reprChar q c).length = 1 := by
  have h : (List.range 26).all (fun k => decide ((Builtin.Str.reprChar 34 (97 + k)).length = 1) && decide ((Builtin.Str.reprChar 39 (97 + k)).length = 1)) = true := by decide +kernel
  have := List.all_eq_true.mp h (c - 97) (List.mem_range.mpr (by omega))
  have e : 97 + (c - 97) = c := by omega
  rw [e] at this
  obtain ⟨a, b⟩ := Bool.and_eq_true_iff.mp this
  rcases hq with rfl | rfl
  · exact of_decide_eq_true a
  · exact of_decide_eq_true b
theorem fold_one {q : Nat} (hq : q = 34 ∨ q = 39) : ∀ (l : List Nat) (n : Nat), (∀ c ∈ l, 97 ≤ c ∧ c ≤ 122) → l.foldl (fun n c => n + (Builtin.Str.reprChar q c).length) n = n + l.length
  | [], n, _ => rfl
  | c :: r, n, h => by
    have hc := h c (List.mem_cons_self ..)
    rw [List.foldl_cons, rc_one hq hc.1 hc.2, fold_one hq r _ fun d hd => h d (List.mem_cons_of_mem _ hd), List.length_cons]
    omega
theorem rt_len {s : Str} (h : Lt s) : (reprText s).length = s.length + 2 := by
  have hq : reprQuote s = 34 ∨ reprQuote s = 39 := by
    unfold reprQuote
    split
    · exact .inl rfl
    · exact .inr rfl
  rw [← reprLen_eq, ← Array.foldl_toList, fold_one hq _ _ h]
  have e : s.cps.toList.length = s.length := by simp [Str.length]
  omega
theorem joinP : ∀ ts : List Str, (Str.join ", " ts).length ≤ piled ts
  | [] => Nat.zero_le _
  | t :: ts => by
    have := join_length_add (t :: ts) (by simp)
    omega
theorem tup_len (ts : List Str) : (tupleText ts).length ≤ piled ts + 3 := by
  have h1 := joinP ts
  unfold tupleText
  have e1 : ((",)" : String) : Str).length = 2 := rfl
  have e2 : ((")" : String) : Str).length = 1 := rfl
  have e3 : ((if (ts.length == 1) = true then ",)" else ")" : String) : Str).length ≤ 2 := by
    split
    · exact Nat.le_of_eq e1
    · rw [e2]; decide
  rw [PySem.Str.length_append, PySem.Str.length_append]
  have e4 : (("(" : Str)).length = 1 := rfl
  rw [e4]
  omega
theorem tf_len : ∀ (ts : List Str) (k : Nat) (acc : Str), (textFrom k acc ts).length ≤ acc.length + piled ts
  | [], k, acc => by show acc.length ≤ _; exact Nat.le_add_right _ _
  | t :: r, k, acc => by
    have ih := tf_len r (k + 1) (acc ++ (if k > 0 then ", " else "" : String) ++ t)
    have e : (acc ++ (if k > 0 then ", " else "" : String) ++ t).length ≤ acc.length + 2 + t.length := by
      rw [PySem.Str.length_append, PySem.Str.length_append]
      have : ((if k > 0 then ", " else "" : String) : Str).length ≤ 2 := by split <;> decide
      omega
    show (textFrom (k + 1) _ r).length ≤ _
    rw [piled_cons]
    omega
theorem lst_len (ts : List Str) : (listText ts).length ≤ piled ts + 2 := by
  have h := tf_len ts 0 "["
  have e1 : (("[" : String) : Str).length = 1 := rfl
  have e2 : (("]" : String) : Str).length = 1 := rfl
  unfold listText
  rw [PySem.Str.length_append, e2]
  rw [e1] at h
  omega
theorem sAll_map : ∀ ds : List PyData, PyData.shownAll ds = ds.map PyData.shown
  | [] => rfl
  | d :: ds => congrArg (PyData.shown d :: ·) (sAll_map ds)
theorem sAll_ok : ∀ {ds : List PyData}, (∀ d ∈ ds, d.showable = true) → PyData.showableAll ds = true
  | [], _ => rfl
  | d :: ds, h => by
    show (d.showable && PyData.showableAll ds) = true
    rw [h d (List.mem_cons_self ..), sAll_ok fun e he => h e (List.mem_cons_of_mem _ he)]
    rfl
theorem hd_lt (h : Hd) : Lt h.s ∧ h.s.length ≤ 6 := by
  have e : ∀ s : Str, (s.cps.toList.all fun c => decide (97 ≤ c) && decide (c ≤ 122)) = true → Lt s := fun s k c hc => by
    have := List.all_eq_true.mp k c hc
    simpa using this
  cases h <;> exact ⟨e _ (by decide +kernel), by decide +kernel⟩
structure Shw (d : PyData) (n : Nat) : Prop where
  ok : d.showable = true
  le : d.shown.length ≤ n
theorem Shw.mono {n m : Nat} {d : PyData} (h : Shw d n) (hn : n ≤ m) : Shw d m := ⟨h.ok, Nat.le_trans h.le hn⟩
theorem shw_wd {s : Str} (h : Wd s) : Shw (.str s) 10 := ⟨rfl, by
  show (reprText s).length ≤ 10
  rw [rt_len h.2.2]
  have := h.2.1
  omega⟩
theorem piled_pls {ps : List Pl} (h : ∀ p ∈ ps, (Pl.d p).shown.length + 2 ≤ 16 * p.sz) : piled (PyData.shownAll (Pl.dl ps)) ≤ 16 * Pl.szl ps := by
  induction ps with
  | nil => exact Nat.zero_le _
  | cons p ps ih =>
    have h1 := h p (by simp)
    have h2 := ih fun q hq => h q (List.mem_cons_of_mem _ hq)
    rw [Pl.dl]
    show piled (PyData.shown (Pl.d p) :: PyData.shownAll (Pl.dl ps)) ≤ _
    rw [piled_cons, Pl.szl]
    omega
theorem shw_pl0 : ∀ p, Nms p → (Pl.d p).showable = true ∧ (Pl.d p).shown.length + 2 ≤ 16 * p.sz := Pl.ind (fun s k => by
    cases k with
    | nm k =>
      rw [Pl.d, Pl.sz]
      have := (shw_wd k).le
      exact ⟨rfl, by omega⟩) fun h ps ih k => by
  have hk := fun p hp => ih p hp (k.kids p hp)
  have h1 := piled_pls fun p hp => (hk p hp).2
  rw [Pl.d, Pl.sz]
  refine ⟨?_, ?_⟩
  · show (true && PyData.showableAll (Pl.dl ps)) = true
    rw [Bool.true_and]
    refine sAll_ok fun d hd => ?_
    rw [dl_map] at hd
    obtain ⟨p, hp, rfl⟩ := List.mem_map.mp hd
    exact (hk p hp).1
  · show (tupleText (reprText h.s :: PyData.shownAll (Pl.dl ps))).length + 2 ≤ _
    have h2 := tup_len (reprText h.s :: PyData.shownAll (Pl.dl ps))
    rw [piled_cons, rt_len (hd_lt h).1] at h2
    have := (hd_lt h).2
    omega
theorem shw_pl {p : Pl} (k : Nms p) : Shw p.d (16 * p.sz) := ⟨(shw_pl0 p k).1, by have := (shw_pl0 p k).2; omega⟩
theorem shw_pls {ps : List Pl} (k : ∀ p ∈ ps, Nms p) : Shw (.list (Pl.dl ps)) (16 * Pl.szl ps + 2) := by
  refine ⟨?_, ?_⟩
  · show PyData.showableAll (Pl.dl ps) = true
    refine sAll_ok fun d hd => ?_
    rw [dl_map] at hd
    obtain ⟨p, hp, rfl⟩ := List.mem_map.mp hd
    exact (shw_pl (k p hp)).ok
  · show (listText (PyData.shownAll (Pl.dl ps))).length ≤ _
    have h1 := lst_len (PyData.shownAll (Pl.dl ps))
    have h2 := piled_pls fun p hp => (shw_pl0 p (k p hp)).2
    omega
theorem piled_le {n : Nat} : ∀ {ts : List Str}, (∀ t ∈ ts, t.length ≤ n) → piled ts ≤ (n + 2) * ts.length
  | [], _ => Nat.zero_le _
  | t :: ts, h => by
    have h1 := h t (List.mem_cons_self ..)
    have h2 := piled_le (ts := ts) fun u hu => h u (List.mem_cons_of_mem _ hu)
    rw [piled_cons, List.length_cons, Nat.mul_add, Nat.mul_one]
    omega
theorem shw_tup {n : Nat} {ds : List PyData} (h : ∀ d ∈ ds, Shw d n) : Shw (.tuple ds) ((n + 2) * ds.length + 3) := by
  refine ⟨sAll_ok fun d hd => (h d hd).ok, ?_⟩
  show (tupleText (PyData.shownAll ds)).length ≤ _
  have h1 := tup_len (PyData.shownAll ds)
  have h2 := piled_le (n := n) (ts := PyData.shownAll ds) fun t ht => by
    rw [sAll_map] at ht
    obtain ⟨d, hd, rfl⟩ := List.mem_map.mp ht
    exact (h d hd).le
  rw [sAll_map, List.length_map] at h2
  rw [sAll_map] at h1 ⊢
  omega
theorem shw_lst {n : Nat} {ds : List PyData} (h : ∀ d ∈ ds, Shw d n) : Shw (.list ds) ((n + 2) * ds.length + 2) := by
  refine ⟨sAll_ok fun d hd => (h d hd).ok, ?_⟩
  show (listText (PyData.shownAll ds)).length ≤ _
  have h1 := lst_len (PyData.shownAll ds)
  have h2 := piled_le (n := n) (ts := PyData.shownAll ds) fun t ht => by
    rw [sAll_map] at ht
    obtain ⟨d, hd, rfl⟩ := List.mem_map.mp ht
    exact (h d hd).le
  rw [sAll_map, List.length_map] at h2
  rw [sAll_map] at h1 ⊢
  omega
end LW
namespace LW
open PySem PySem.Spec PyProof.Rows L2 Ys

/-! ### what is in normal form -/
def isTh : Pl → Bool
  | .nd .th _ => true
  | _ => false
inductive Nfm : Pl → Prop
  | nm {s : Str} : Nfm (.nm s)
  | nd {h : Hd} {ps : List Pl} : (∀ q ∈ ps, Nfm q) → (h = .th → (∀ q ∈ ps, isTh q = false) ∧ ps.length ≠ 1) → (h = .be → ∀ q ∈ ps, isDone q = false) → Nfm (.nd h ps)
theorem Nfm.kids {h : Hd} {ps : List Pl} (k : Nfm (.nd h ps)) : ∀ q ∈ ps, Nfm q := by cases k with | nd a b c => exact a
theorem Nfm.th {ps : List Pl} (k : Nfm (.nd .th ps)) : (∀ q ∈ ps, isTh q = false) ∧ ps.length ≠ 1 := by cases k with | nd a b c => exact b rfl
theorem Nfm.be {ps : List Pl} (k : Nfm (.nd .be ps)) : ∀ q ∈ ps, isDone q = false := by cases k with | nd a b c => exact c rfl
theorem Nfm.done : Nfm done := .nd (fun q h => by cases h) (fun _ => ⟨(fun q h => by cases h), by decide⟩) (fun h => by cases h)
theorem parts1_other {p : Pl} (h : isTh p = false) : parts1 p = [p] := by
  cases p with
  | nm s => rfl
  | nd hd ps =>
    cases hd with
    | th => exact Bool.noConfusion (show true = false from h)
    | _ => rfl
theorem flat_none : ∀ {l : List Pl}, (∀ q ∈ l, isTh q = false) → flat l = l
  | [], _ => rfl
  | a :: r, h => by
    show parts1 a ++ flat r = a :: r
    rw [parts1_other (h a (by simp)), flat_none fun q hq => h q (List.mem_cons_of_mem _ hq)]
    rfl
theorem parts1_nfm {p : Pl} (k : Nfm p) : ∀ q ∈ parts1 p, Nfm q ∧ isTh q = false := by
  cases hp : isTh p with
  | false =>
    rw [parts1_other hp]
    intro q hq
    rw [List.mem_singleton.mp hq]
    exact ⟨k, hp⟩
  | true =>
    cases p with
    | nm s => cases hp
    | nd h ps =>
      cases h with
      | th => exact fun q hq => ⟨k.kids q hq, k.th.1 q hq⟩
      | _ => cases hp
theorem flat_nfm : ∀ {l : List Pl}, (∀ x ∈ l, Nfm x) → ∀ q ∈ flat l, Nfm q ∧ isTh q = false
  | [], _, q, hq => by cases hq
  | a :: r, h, q, hq => by
    rcases List.mem_append.mp (show q ∈ parts1 a ++ flat r from hq) with z | z
    · exact parts1_nfm (h a (by simp)) q z
    · exact flat_nfm (fun x hx => h x (List.mem_cons_of_mem _ hx)) q z
theorem wrap_nfm {l : List Pl} (h : ∀ q ∈ l, Nfm q ∧ isTh q = false) : Nfm (wrap l) := by
  rcases wrap_cases l with ⟨x, e1, e2⟩ | e
  · rw [e2]
    exact (h x (by rw [e1]; simp)).1
  · rw [e]
    by_cases hl : l.length = 1
    · match l, hl, e, h with
      | [x], _, e, h => 
        have : wrap [x] = x := rfl
        rw [← e, this]
        exact (h x (by simp)).1
    · exact .nd (fun q hq => (h q hq).1) (fun _ => ⟨fun q hq => (h q hq).2, hl⟩) (fun h => by cases h)
theorem seqn_nfm {l : List Pl} (h : ∀ x ∈ l, Nfm x) : Nfm (seqn l) := wrap_nfm (flat_nfm h)
theorem along_nfm {a b : Pl} (h1 : Nfm a) (h2 : Nfm b) : Nfm (along a b) := by
  unfold along
  split
  · exact h2
  · split
    · exact h1
    · rename_i c1 c2
      exact .nd (fun q hq => by
        rcases List.mem_cons.mp hq with rfl | hq
        · exact h1
        · rw [List.mem_singleton.mp hq]; exact h2) (fun h => by cases h) fun _ q hq => by
        rcases List.mem_cons.mp hq with rfl | hq
        · exact Bool.eq_false_iff.mpr c1
        · rw [List.mem_singleton.mp hq]; exact Bool.eq_false_iff.mpr c2
theorem mk_nfm {h : Hd} {ps : List Pl} (k : ∀ x ∈ ps, Nfm x) (hf : h.fit ps.length = true) : Nfm (mk h ps) := by
  cases h with
  | th => exact seqn_nfm k
  | be =>
    match ps, (of_decide_eq_true hf : ps.length = 2), k with
    | [a, b], _, k => exact along_nfm (k a (by simp)) (k b (by simp))
  | ei => exact .nd k (fun h => by cases h) (fun h => by cases h)
  | an => exact .nd k (fun h => by cases h) (fun h => by cases h)
  | ag => exact .nd k (fun h => by cases h) (fun h => by cases h)
theorem nf_nfm : ∀ p b, Ok b p → Nfm (nf p) := Pl.ind (fun s b k => by rw [nf]; exact .nm) fun h ps ih b k => by
  rw [nf, nfl_map]
  refine mk_nfm (fun x hx => ?_) (by rw [List.length_map]; exact k.fit)
  obtain ⟨q, hq, rfl⟩ := List.mem_map.mp hx
  exact ih q hq _ (k.kids q hq)
theorem nfm_nf : ∀ p b, Ok b p → Nfm p → nf p = p := Pl.ind (fun s b _ _ => by rw [nf]) fun h ps ih b k n => by
  have e : ps.map nf = ps := by
    have : ps.map nf = ps.map id := List.map_congr_left fun q hq => ih q hq _ (k.kids q hq) (n.kids q hq)
    rw [this, List.map_id]
  rw [nf, nfl_map, e]
  cases h with
  | th =>
    obtain ⟨h1, h2⟩ := n.th
    show wrap (flat ps) = _
    rw [flat_none h1]
    rcases wrap_cases ps with ⟨x, e1, _⟩ | e
    · rw [e1] at h2; exact absurd rfl h2
    · exact e
  | be =>
    have nb := n.be
    match ps, (of_decide_eq_true k.fit : ps.length = 2), nb with
    | [a, b], _, nb =>
      show along a b = _
      unfold along
      rw [nb a (by simp), nb b (by simp)]
      rfl
  | ei => rfl
  | an => rfl
  | ag => rfl
theorem wc_nfm : ∀ p b, Ok b p → Nfm p → ∀ c ∈ wc p, Nfm c := Pl.ind (fun s b _ _ c hc => by rw [wc] at hc; cases hc) fun h ps ih b k n c hc => by
  have hk := k.kids
  cases h with
  | ei => rw [wc] at hc; exact n.kids c hc
  | an => rw [wc] at hc; cases hc
  | ag =>
    rw [wc] at hc
    rcases List.mem_cons.mp hc with rfl | hc
    · exact .done
    · rw [List.mem_singleton.mp hc]
      match ps, (of_decide_eq_true k.fit : ps.length = 1), n with
      | [a], _, n =>
        refine seqn_nfm fun x hx => ?_
        rcases List.mem_cons.mp hx with rfl | hx
        · exact n.kids _ (by simp)
        · rw [List.mem_singleton.mp hx]; exact n
  | th =>
    rw [wc] at hc
    cases ps with
    | nil => cases hc
    | cons a r =>
      rw [wcT] at hc
      obtain ⟨x, hx, rfl⟩ := List.mem_map.mp hc
      refine seqn_nfm fun y hy => ?_
      rcases List.mem_cons.mp hy with rfl | hy
      · exact ih a (by simp) _ (hk a (by simp)) (n.kids a (by simp)) _ hx
      · exact n.kids y (by simp [hy])
  | be =>
    rw [wc] at hc
    match ps, (of_decide_eq_true k.fit : ps.length = 2), n, ih, hk with
    | [a, b2], _, n, ih, hk =>
      have na := n.kids a (by simp)
      have nb := n.kids b2 (by simp)
      rw [wcB] at hc
      split at hc
      · rw [wcC] at hc
        obtain ⟨x, hx, rfl⟩ := List.mem_map.mp hc
        exact along_nfm na (ih b2 (by simp) _ (hk b2 (by simp)) nb x hx)
      · rename_i l _ 
        obtain ⟨x, hx, rfl⟩ := List.mem_map.mp hc
        exact along_nfm (ih a (by simp) _ (hk a (by simp)) na x hx) nb
/-! ### the places, by the law -/
mutual
def frt : Pl → List Pl
  | .nm s => [.nm s]
  | .nd .an ps => [.nd .an ps]
  | .nd .th ps => frtT ps
  | .nd .be ps => frtB ps
  | .nd .ei _ => []
  | .nd .ag _ => []
def frtT : List Pl → List Pl
  | [] => []
  | a :: _ => frt a
def frtB : List Pl → List Pl
  | [] => []
  | a :: r => frt a ++ frtB r
end
theorem frt_spl : ∀ p b, Ok b p → wc p = [] → frt p = spl p := Pl.ind (fun s b _ _ => by rw [frt, spl]) fun h ps ih b k e => by
  have hk := k.kids
  cases h with
  | ei => exact absurd e fun e => (wc_ei k e).elim
  | ag => exact absurd e fun e => (wc_ag e).elim
  | an => rw [frt, spl]
  | th =>
    rw [frt, spl]
    cases ps with
    | nil => rw [frtT, splT]
    | cons a r => rw [frtT, splT]; exact ih a (by simp) _ (hk a (by simp)) (wc_th e)
  | be =>
    match ps, (of_decide_eq_true k.fit : ps.length = 2), ih, hk, e with
    | [a, b2], _, ih, hk, e =>
      obtain ⟨e1, e2⟩ := wc_be e
      have s1 : spl (.nd .be [a, b2]) = spl a ++ (spl b2 ++ []) := by rw [spl, splB, splB, splB] <;> exact fun h => by cases h
      rw [s1, frt, frtB, frtB, frtB, ih a (by simp) _ (hk a (by simp)) e1, ih b2 (by simp) _ (hk b2 (by simp)) e2]
theorem frt_sz : ∀ p, Pl.szl (frt p) ≤ p.sz := Pl.ind (fun s => by rw [frt]; simp [Pl.szl]) fun h ps ih => by
  cases h with
  | ei => rw [frt]; simp [Pl.szl]
  | ag => rw [frt]; simp [Pl.szl]
  | an => rw [frt]; simp [Pl.szl]
  | th =>
    rw [frt]
    cases ps with
    | nil => rw [frtT]; simp [Pl.szl]
    | cons a r =>
      rw [frtT, Pl.sz, Pl.szl]
      have := ih a (by simp)
      omega
  | be =>
    rw [frt, Pl.sz]
    have go : ∀ l : List Pl, (∀ p ∈ l, p ∈ ps) → Pl.szl (frtB l) ≤ Pl.szl l := by
      intro l
      induction l with
      | nil => intro _; rw [frtB]; exact Nat.le_refl _
      | cons a r ihr =>
        intro hl
        have h1 := ih a (hl a (by simp))
        have h2 := ihr fun p hp => hl p (List.mem_cons_of_mem _ hp)
        rw [frtB, Pl.szl, szl_app]
        omega
    have := go ps fun _ h => h
    omega
theorem frt_nms : ∀ p, Nms p → ∀ q ∈ frt p, Nms q := Pl.ind (fun s k q hq => by rw [frt] at hq; rw [List.mem_singleton.mp hq]; exact k) fun h ps ih k q hq => by
  cases h with
  | ei => rw [frt] at hq; cases hq
  | ag => rw [frt] at hq; cases hq
  | an => rw [frt] at hq; rw [List.mem_singleton.mp hq]; exact k
  | th =>
    rw [frt] at hq
    cases ps with
    | nil => rw [frtT] at hq; cases hq
    | cons a r => rw [frtT] at hq; exact ih a (by simp) (k.kids a (by simp)) q hq
  | be =>
    rw [frt] at hq
    have go : ∀ l : List Pl, (∀ p ∈ l, p ∈ ps) → q ∈ frtB l → Nms q := by
      intro l
      induction l with
      | nil => intro _ h; rw [frtB] at h; cases h
      | cons a r ihr =>
        intro hl h
        rw [frtB] at h
        rcases List.mem_append.mp h with h | h
        · exact ih a (hl a (by simp)) (k.kids a (hl a (by simp))) q h
        · exact ihr (fun p hp => hl p (List.mem_cons_of_mem _ hp)) h
    exact go ps (fun _ h => h) hq
/-! ### how much the choices show -/
theorem wc_few : ∀ p b, Ok b p → (wc p).length ≤ 2 ∨ ∀ c ∈ wc p, c.sz + (wc p).length ≤ p.sz := Pl.ind (fun s b _ => .inl (by rw [wc]; exact Nat.zero_le _)) fun h ps ih b k => by
  have hk := k.kids
  have seq_le : ∀ (x : Pl) (r : List Pl), (seqn (x :: r)).sz ≤ 1 + x.sz + Pl.szl r := fun x r => by
    have h1 := flat_sz (x :: r)
    rw [Pl.szl] at h1
    unfold seqn
    rcases wrap_cases (flat (x :: r)) with ⟨y, e1, e2⟩ | e
    · rw [e2]
      rw [e1, Pl.szl, Pl.szl] at h1
      omega
    · rw [e, Pl.sz]
      omega
  have al_le : ∀ x y : Pl, (along x y).sz ≤ 1 + x.sz + y.sz := fun x y => by
    unfold along
    split
    · omega
    · split
      · omega
      · simp only [Pl.sz, Pl.szl]; omega
  cases h with
  | ei =>
    refine .inr fun c hc => ?_
    rw [wc] at hc ⊢
    rw [Pl.sz]
    have go : ∀ l : List Pl, c ∈ l → c.sz + l.length ≤ 1 + Pl.szl l := by
      intro l
      induction l with
      | nil => intro h; cases h
      | cons a r ihr =>
        intro h
        rw [Pl.szl, List.length_cons]
        rcases List.mem_cons.mp h with rfl | h
        · have := len_szl r
          omega
        · have := ihr h
          have := sz_pos a
          omega
    have := go ps hc
    omega
  | an => exact .inl (by rw [wc]; exact Nat.zero_le _)
  | ag => exact .inl (by rw [wc]; exact Nat.le_refl _)
  | th =>
    cases ps with
    | nil => exact .inl (by rw [wc, wcT]; exact Nat.zero_le _)
    | cons a r =>
      have e : wc (.nd .th (a :: r)) = (wc a).map fun x => seqn (x :: r) := by rw [wc, wcT]
      rcases ih a (by simp) _ (hk a (by simp)) with h1 | h1
      · exact .inl (by rw [e, List.length_map]; exact h1)
      · refine .inr fun c hc => ?_
        rw [e] at hc ⊢
        obtain ⟨x, hx, rfl⟩ := List.mem_map.mp hc
        have := h1 x hx
        have := seq_le x r
        rw [List.length_map, Pl.sz, Pl.szl]
        omega
  | be =>
    match ps, (of_decide_eq_true k.fit : ps.length = 2), ih, hk with
    | [a, b2], _, ih, hk =>
      rcases hw : (wc a).map (fun x => along x b2) with _ | ⟨y, ys⟩
      · have e : wc (.nd .be [a, b2]) = (wc b2).map fun x => along a x := by
          rw [wc, wcB]
          have : (wc a).map (fun x => along x ([b2].headD done)) = [] := hw
          rw [this, wcC]
        rcases ih b2 (by simp) _ (hk b2 (by simp)) with h1 | h1
        · exact .inl (by rw [e, List.length_map]; exact h1)
        · refine .inr fun c hc => ?_
          rw [e] at hc ⊢
          obtain ⟨x, hx, rfl⟩ := List.mem_map.mp hc
          have := h1 x hx
          have := al_le a x
          rw [List.length_map]
          simp only [Pl.sz, Pl.szl]
          omega
      · have e : wc (.nd .be [a, b2]) = (wc a).map fun x => along x b2 := by
          rw [wc, wcB]
          have : (wc a).map (fun x => along x ([b2].headD done)) = (wc a).map fun x => along x b2 := rfl
          rw [this, hw]
        rcases ih a (by simp) _ (hk a (by simp)) with h1 | h1
        · exact .inl (by rw [e, List.length_map]; exact h1)
        · refine .inr fun c hc => ?_
          rw [e] at hc ⊢
          obtain ⟨x, hx, rfl⟩ := List.mem_map.mp hc
          have := h1 x hx
          have := al_le x b2
          rw [List.length_map]
          simp only [Pl.sz, Pl.szl]
          omega
theorem szl_mul2 {n : Nat} : ∀ {ps : List Pl}, (∀ p ∈ ps, p.sz ≤ n) → Pl.szl ps ≤ ps.length * n
  | [], _ => by simp [Pl.szl]
  | q :: qs, h => by
    have h1 := h q (by simp)
    have h2 := szl_mul2 fun p hp => h p (List.mem_cons_of_mem _ hp)
    rw [Pl.szl, List.length_cons, Nat.add_mul, Nat.one_mul]
    omega
theorem wc_szl5 {p : Pl} {b : Bool} (k : Ok b p) (h : p.sz ≤ 1365) : Pl.szl (wc p) ≤ 600000 := by
  rcases wc_few p b k with h1 | h1
  · have h2 := szl_mul2 (n := 2732) (ps := wc p) fun c hc => by
      have := (wc_nx p b k c hc).sz
      omega
    have h3 : (wc p).length * 2732 ≤ 2 * 2732 := Nat.mul_le_mul_right _ h1
    omega
  · have hl := wc_len p b k
    have h2 := szl_mul2 (n := 1365 - (wc p).length) (ps := wc p) fun c hc => by
      have := h1 c hc
      omega
    have key : (List.range 1366).all (fun n => decide (n * (1365 - n) ≤ 600000)) = true := by decide +kernel
    have := of_decide_eq_true (List.all_eq_true.mp key (wc p).length (List.mem_range.mpr (by omega)))
    omega
end LW
namespace LW
open PySem PySem.Spec PyProof.Rows L2 Ys

section
variable {P : Program} {w : World} {K : PySem.W.Frag} {mg : Str → Option Value} {base : Heap} {f : Addr} {fd : FuncData}
theorem ok_law_row (T : Nm K mg) (F : FnP K "_law_row" s_law_row f fd) : FnOk P w K mg base CX0 1 f fd ["_law_parts"] (spSeq K) := by
  have nd : N_law_row.Nodup := sc_law_row.nd
  refine F.ok sc_law_row (fun vs H Q E h => ?_) (fun cdv A outer s H vs Q E hr h => ?_)
  · obtain ⟨G, M, a, xs, ps, rfl, _⟩ := h
    rfl
  have hu := hr.units
  refine ⟨_, PSs.nox   (pss_cons (ps_asg (pe_lst pa_nil) (pg_name (i := 1) nd rfl (by first | exact .inl rfl | exact .inr rfl)))
    (pss_cons (ps_for PassesOwn.never rfl (k_any (K := K) (pv 0)) (pg_name (i := 2) nd rfl (by first | exact .inl rfl | exact .inr rfl)) (pss_one (ps_expr (pe_bm PySem.F.plainAttrs_list PySem.F.slot_list_extend PySem.F.type_list_extend (mt_ext2 (K := K)) (pv 1) (pa_cons (pe_ifExp (PW.pt (pw_and (pt_val (pe_callB (kc_isi (K := K)) (by rfl) T.b_isinstance boot_isinstance (pa_cons (pv 2) (pa_cons (pe_bltn (v := .ty "tuple") (by rfl) T.b_tuple boot_tuple rfl) pa_nil)))) (pw_and1 (pt_cmpR (k_eq (K := K) hu) (pe_ix (k_ix (K := K)) (pv 2) pe_int (fun _ _ => rfl)) pe_str (nomark _))))) (pe_callTy (kc_list (K := K)) (by rfl) T.b_list boot_list (pa_cons (pe_slice (k_sl (K := K)) (pv 2) (po_some pe_int) po_none) pa_nil)) (pe_lst (pa_cons (pv 2) pa_nil))) pa_nil)))))
    (pss_one (ps_ret (pe_ifExp (pt_cmpR (k_eq (K := K) hu) (pe_callB (kc_len (K := K) (P := P) (w := w)) (by rfl) T.b_len PySem.boot_len (pa_cons (pv 1) pa_nil)) pe_int (nomark _)) (pe_ix (k_ix (K := K)) (pv 1) pe_int (fun _ _ => rfl)) (pe_op (k_add (K := K)) (pe_tup (pa_cons pe_str pa_nil)) (pe_callTy (kc_tuple (K := K)) (by rfl) T.b_tuple boot_tuple (pa_cons (pv 1) pa_nil)))))))), ?_⟩
  obtain ⟨G, M, a, xs, ps, rfl, z, hS, hD, hz, q⟩ := h
  repeat (walk_at "z")
  refine z_ownL z (by simp) fun fa H1 z1 => ?_
  repeat (walk_at "z")
  refine z_anyL ?_
  repeat (walk_at "z")
  refine z_itL z1 hS ?_
  refine for_src src_L (fun i σ G' M' => ∃ k2 acc, M' = M ++ [(fa, .lst acc)] ∧ Same G G' ∧ Dts K G' acc (Pl.dl (flat (ps.take i))) ∧ σ = [some (.ref a), some (.ref fa), k2]) z1 ⟨_, [], rfl, Same.refl _, .nil, rfl⟩ (fun i σ G' M' H' ⟨_, _, _, s', _⟩ z' => z'.seqL (upL s' hS)) ?_ ?_
  · rintro i x σ G' M' H' hx ⟨k2, acc, rfl, s', hA, rfl⟩ z'
    obtain ⟨p, hp, hx'⟩ := pl_at (hD.up s') hx
    have hl : (flat (ps.take (i + 1))).length ≤ 20000 := Nat.le_trans (len_szl _) (Nat.le_trans (flat_sz _) (Nat.le_trans (szl_take ps _) hz))
    have e1 : flat (ps.take (i + 1)) = flat (ps.take i) ++ parts1 p := by
      rw [take_snoc hp, flat_app]
      show _ ++ (parts1 p ++ []) = _
      rw [List.append_nil]
    rw [e1, List.length_append] at hl
    have hal := pls_len hA
    repeat (walk_at "z")
    refine z_tyO z' M.length last_at ?_
    repeat (walk_at "z")
    refine z_isi (.ty "tuple") (hx'.up z'.sub).ty (kit_ty (kit_tup p.d)) ?_
    cases p with
    | nm s =>
      rw [Pl.d]
      repeat (walk_at "z")
      refine z_bF' rfl ?_
      repeat (walk_at "z")
      refine z_newL z' (by simp) fun p2 G2 H2 z2 s2 e2 => ?_
      repeat (walk_at "z")
      refine z_extLast z2 (z2.sub _ _ e2) (by rw [hal]; simp [parts1] at hl; simp; omega) fun H3 z3 => ?_
      repeat (walk_at "z")
      refine ⟨_, _, z3, _, _, rfl, s'.trans s2, ?_, rfl⟩
      rw [e1]
      exact dts_app (hA.up s2) (by show Dts K G2 [x] (Pl.dl [.nm s]); rw [dl_map]; exact .cons (hx'.up s2) .nil)
    | nd h rs =>
      obtain ⟨b, xr, rfl, hB, hR⟩ := dt_nd hx'
      have hr' := pls_len hR
      rw [Pl.d]
      repeat (walk_at "z")
      refine z_bT' rfl ?_
      repeat (walk_at "z")
      refine z_ixT z' hB at_zero ?_
      repeat (walk_at "z")
      refine z_eqS rfl ?_
      rw [str_th]
      repeat (walk_at "z")
      refine z_bd (fun c => ?_) (fun c => ?_)
      · subst c
        repeat (walk_at "z")
        refine z_slT z' hB fun p2 G2 H2 z2 s2 e2 => ?_
        rw [cut_tail] at e2
        repeat (walk_at "z")
        refine z_listG z2 (.inr e2) fun p4 G4 H4 z4 s4 e4 => ?_
        repeat (walk_at "z")
        refine z_extLast z4 (z4.sub _ _ e4) (by rw [hal, hr']; simp [parts1] at hl; omega) fun H3 z3 => ?_
        repeat (walk_at "z")
        refine ⟨_, _, z3, _, _, rfl, s'.trans (s2.trans s4), ?_, rfl⟩
        rw [e1]
        exact dts_app (hA.up (s2.trans s4)) (hR.up (s2.trans s4))
      · have ep : parts1 (.nd h rs) = [.nd h rs] := by unfold parts1; cases h <;> first | rfl | exact absurd rfl c
        repeat (walk_at "z")
        refine z_newL z' (by simp) fun p2 G2 H2 z2 s2 e2 => ?_
        repeat (walk_at "z")
        refine z_extLast z2 (z2.sub _ _ e2) (by rw [hal]; rw [ep] at hl; simp at hl; simp; omega) fun H3 z3 => ?_
        repeat (walk_at "z")
        refine ⟨_, _, z3, _, _, rfl, s'.trans s2, ?_, rfl⟩
        rw [e1, ep]
        exact dts_app (hA.up s2) (by rw [dl_map]; exact .cons (hx'.up s2) .nil)
  · rintro σ G1 M1 H2 ⟨k2, acc, rfl, s1, hA, rfl⟩ z2
    rw [pls_len hD, List.take_length] at hA
    have hal := pls_len hA
    have hfl : (flat ps).length ≤ 20000 := Nat.le_trans (len_szl _) (Nat.le_trans (flat_sz _) hz)
    have hM := SqL.of (K := K) (z2.at_ M.length last_at)
    repeat (walk_at "z")
    refine z_lenH (.inl hM) ?_
    repeat (walk_at "z")
    refine z_eqS rfl ?_
    repeat (walk_at "z")
    by_cases c : acc.length = 1
    · refine z_bT' (decide_eq_true (by rw [c]; rfl)) ?_
      repeat (walk_at "z")
      match acc, c, hA, hM with
      | [x], _, hA, hM =>
        refine z_ixH hM at_zero ?_
        obtain ⟨p, hp⟩ : ∃ p, flat ps = [p] := by
          match flat ps, hal with
          | [p], _ => exact ⟨p, rfl⟩
        have e : seqn ps = p := by unfold seqn; rw [hp]; rfl
        rw [hp, dl_map] at hA
        cases hA with
        | cons h1 h2 => exact q x _ _ z2.cut s1 (by rw [e]; exact h1)
    · refine z_bF' (decide_eq_false (by intro e; have := V.int.inj e; omega)) ?_
      repeat (walk_at "z")
      refine z_newT z2 (by simp) fun p3 G3 H3 z3 s3 e3 => ?_
      repeat (walk_at "z")
      refine z_tupO z3 M.length last_at fun p4 G4 H4 z4 s4 e4 => ?_
      refine z_addT z4 (upT s4 (SqT.of e3)) e4 (by simp; omega) fun p5 G5 H5 z5 s5 e5 => ?_
      refine q _ _ _ z5.cut (s1.trans (s3.trans (s4.trans s5))) ?_
      have e : seqn ps = .nd .th (flat ps) := by
        unfold seqn
        rcases wrap_cases (flat ps) with ⟨x, e1, _⟩ | e
        · rw [e1] at hal; exact absurd hal c
        · exact e
      rw [e]
      exact dt_mk e5 (hA.up (s3.trans (s4.trans s5)))

theorem ok_law_two (T : Nm K mg) (F : FnP K "_law_two" s_law_two f fd) : FnOk P w K mg base CX0 1 f fd ["_law_one", "_law_second"] (spAlong K) := by
  have nd : N_law_two.Nodup := sc_law_two.nd
  refine F.ok sc_law_two (fun vs H Q E h => ?_) (fun cdv A outer s H vs Q E hr h => ?_)
  · obtain ⟨G, M, v1, v2, a, b, rfl, _⟩ := h
    rfl
  have hu := hr.units
  refine ⟨_, PSs.nox   (pss_cons (ps_if (pt_cmpR (k_inT (K := K) T.sys (room128 hr)) (pe_tup (pa_cons pe_str pa_nil)) (pe_tup (pa_cons (pv 0) (pa_cons (pv 1) pa_nil))) (by rfl)) (pss_one (ps_ret (pe_ifExp (pt_cmpR (k_eq (K := K) hu) (pv 0) (pe_tup (pa_cons pe_str pa_nil)) (nomark _)) (pv 1) (pv 0)))) pss_nil)
    (pss_one (ps_ret (pe_tup (pa_cons pe_str (pa_cons (pv 0) (pa_cons (pv 1) pa_nil))))))), ?_⟩
  obtain ⟨G, M, v1, v2, a, b, rfl, z, h1, h2, n1, n2, l1, l2, q⟩ := h
  have dn : ∀ {G : Hp} {p : Addr}, G p = some (.tup [.str "then"]) → Dt K G (.ref p) (.tuple [.str "then"]) := fun e => .tup (SqT.of e) (.cons (.str _) .nil)
  repeat (walk_at "z")
  refine z_newT z (by simp) fun p1 G1 H1 z1 s1 e1 => ?_
  repeat (walk_at "z")
  refine z_newT z1 (by simp) fun p2 G2 H2 z2 s2 e2 => ?_
  have h1' := h1.up (s1.trans s2)
  have h2' := h2.up (s1.trans s2)
  refine ⟨.tuple [.str "then"], [a.d, b.d], (dn (s2 _ _ e1)).up z2.sub, (Dt.tup (SqT.of e2) (.cons h1' (.cons h2' .nil))).up z2.sub, done_shaped, can_all (fun d hd => ?_), ?_⟩
  · rcases List.mem_cons.mp hd with rfl | hd
    · exact pd_can a n1
    · rw [List.mem_singleton.mp hd]
      exact pd_can b n2
  have ea : ([a.d, b.d].any fun z => PyData.eqv z (.tuple [.str "then"])) = (isDone a || isDone b) := by
    simp only [List.any_cons, List.any_nil, eqv_done, Bool.or_false]
  rw [ea]
  cases c1 : isDone a with
  | true =>
    rw [Bool.true_or]
    repeat (walk_at "z")
    refine z_newT z2 (by simp) fun p3 G3 H3 z3 s3 e3 => ?_
    refine z_eqD z3 (h1'.up s3) (dn e3) (pd_shaped n1 (by omega)) done_shaped ?_
    rw [eqv_done, c1]
    repeat (walk_at "z")
    exact q v2 G3 H3 z3 (s1.trans (s2.trans s3)) (by unfold along; rw [c1]; exact h2'.up s3)
  | false =>
    rw [Bool.false_or]
    cases c2 : isDone b with
    | true =>
      repeat (walk_at "z")
      refine z_newT z2 (by simp) fun p3 G3 H3 z3 s3 e3 => ?_
      refine z_eqD z3 (h1'.up s3) (dn e3) (pd_shaped n1 (by omega)) done_shaped ?_
      rw [eqv_done, c1]
      repeat (walk_at "z")
      exact q v1 G3 H3 z3 (s1.trans (s2.trans s3)) (by unfold along; rw [c1, c2]; exact h1'.up s3)
    | false =>
      repeat (walk_at "z")
      refine z_newT z2 (by simp) fun p G3 H3 z3 s3 e3 => ?_
      refine q _ G3 H3 z3 (s1.trans (s2.trans s3)) ?_
      unfold along
      rw [c1, c2]
      exact dt_mk (h := .be) (ps := [a, b]) (SqT.of e3) (by rw [dl_map]; exact .cons (h1'.up s3) (.cons (h2'.up s3) .nil))
theorem ok_law_form {n : Nat} (T : Nm K mg) (C_law_row : Own P w K mg base CX0 1 "_law_row" ["_law_parts"] (spSeq K)) (C_law_two : Own P w K mg base CX0 1 "_law_two" ["_law_one", "_law_second"] (spAlong K)) (C_law_form : Own P w K mg base CX0 (n + 1) "_law_form" ["_law_plan"] (spNF K n)) (F : FnP K "_law_form" s_law_form f fd) : FnOk P w K mg base CX0 (n + 2) f fd ["_law_plan"] (spNF K (n + 1)) := by
  have nd : N_law_form.Nodup := sc_law_form.nd
  refine F.ok sc_law_form (fun vs H Q E h => ?_) (fun cdv A outer s H vs Q E hr h => ?_)
  · obtain ⟨G, M, v, p, b, rfl, _⟩ := h
    rfl
  have hu := hr.units
  refine ⟨_, PSs.nox   (pss_cons (ps_if (pt_val (pe_callB (kc_isi (K := K)) (by rfl) T.b_isinstance boot_isinstance (pa_cons (pv 0) (pa_cons (pe_bltn (v := .ty "str") (by rfl) T.b_str boot_str rfl) pa_nil)))) (pss_one (ps_ret (pv 0))) pss_nil)
    (pss_cons (ps_setLc (i := 1) (own := [("_law_part", 2)]) (tt := tYes) rfl nd rfl rfl (sw_true rfl rfl rfl (by decide +kernel)) (k_any (K := K) (pe_slice (k_sl (K := K)) (pv 0) (po_some pe_int) po_none)) (blkOk_by (N := N_law_form) (sc := defScope s_law_form) (by decide +kernel)) (fun _ _ _ _ _ => (pg_name (i := 2) nd rfl (by first | exact .inl rfl | exact .inr rfl))) (fun _ _ _ _ _ => pts_nil) (fun _ _ _ _ _ => (pe_own C_law_form (hr.mono (by omega)) (by rfl) pass0 (pa_cons (pv 2) pa_nil))))
    (pss_cons (ps_if (pt_cmpR (k_eq (K := K) hu) (pe_ix (k_ix (K := K)) (pv 0) pe_int (fun _ _ => rfl)) pe_str (nomark _)) (pss_one (ps_ret (pe_own C_law_row (hr.mono (by omega)) (by rfl) pass0 (pa_cons (pv 1) pa_nil)))) pss_nil)
    (pss_one (ps_ret (pe_ifExp (pt_cmpR (k_eq (K := K) hu) (pe_ix (k_ix (K := K)) (pv 0) pe_int (fun _ _ => rfl)) pe_str (nomark _)) (pe_own C_law_two (hr.mono (by omega)) (by rfl) pass0 (pa_cons (pe_ix (k_ix (K := K)) (pv 1) pe_int (fun _ _ => rfl)) (pa_cons (pe_ix (k_ix (K := K)) (pv 1) pe_int (fun _ _ => rfl)) pa_nil))) (pe_op (k_add (K := K)) (pe_tup (pa_cons (pe_ix (k_ix (K := K)) (pv 0) pe_int (fun _ _ => rfl)) pa_nil)) (pe_callTy (kc_tuple (K := K)) (by rfl) T.b_tuple boot_tuple (pa_cons (pv 1) pa_nil))))))))), ?_⟩
  obtain ⟨G, M, v, p, b, rfl, z, hd, hO, hn, h50, hsz, q⟩ := h
  repeat (walk_at "z")
  refine z_isi (.ty "str") (hd.up z.sub).ty (kit_ty (kit_str p.d)) ?_
  cases p with
  | nm s =>
    rw [Pl.d]
    repeat (walk_at "z")
    refine z_bT' rfl ?_
    repeat (walk_at "z")
    exact q v G H z (Same.refl _) (by rw [nf]; exact hd)
  | nd h ps =>
    obtain ⟨a, xr, rfl, hS, hR⟩ := dt_nd hd
    rw [Pl.dp] at hn h50
    rw [Pl.sz] at hsz
    have hps := pls_len hR
    rw [Pl.d]
    repeat (walk_at "z")
    refine z_bF' rfl ?_
    repeat (walk_at "z")
    refine z_anyT ?_
    repeat (walk_at "z")
    refine z_slT z hS fun p2 G2 H2 z2 s2 e2 => ?_
    rw [cut_tail] at e2
    refine z_itT z2 e2 ?_
    refine lc_src src_T (fun i G' M' acc => M' = M ∧ Same G2 G' ∧ Dts K G' acc (Pl.dl ((ps.take i).map nf))) z2 ⟨rfl, Same.refl _, .nil⟩ (fun i G' M' M1 acc H' ⟨_, s', _⟩ z' => z'.seqT (upT s' e2)) ?_ ?_
    · rintro i x G' M' acc Dl H' hx ⟨rfl, s', hA⟩ z'
      obtain ⟨p, hp, hx'⟩ := pl_at (hR.up (s2.trans s')) hx
      have hm := List.mem_of_getElem? hp
      have h1 := dp_mem hm
      have h2 := sz_mem hm
      have hlt : i < ps.length := (List.getElem?_eq_some_iff.mp hp).1
      have hl2 := len_szl ps
      have hal := pls_len hA
      rw [List.length_map, List.length_take] at hal
      repeat (walk_at "z")
      refine ⟨by rfl, ?_⟩
      repeat (walk_at "z")
      refine ⟨G', _, x, p, _, rfl, z', hx', hO.kids p hm, by omega, by omega, by omega, fun v' G3 H3 z3 s3 h3 => ?_⟩
      refine z_laid z3 (by omega) ⟨rfl, s'.trans s3, ?_⟩
      rw [take_snoc hp, List.map_append]
      exact dts_app (hA.up s3) (by rw [dl_map]; exact .cons h3 .nil)
    rintro p3 G3' M3 acc G3 H3 ⟨rfl, s3', hA⟩ s3 z3 e3
    rw [hps, List.take_length] at hA
    have hA := hA.up s3
    have s23 := s2.trans (s3'.trans s3)
    have hk : ∀ x ∈ ps.map nf, Ok (b || decide (h = .be)) x := fun x hx => by
      obtain ⟨p, hp, rfl⟩ := List.mem_map.mp hx
      exact nf_ok p _ (hO.kids p hp)
    have hdp : ∀ x ∈ ps.map nf, x.dp ≤ 50 := fun x hx => by
      obtain ⟨p, hp, rfl⟩ := List.mem_map.mp hx
      have := nf_dp p
      have := dp_mem hp
      omega
    have hz : Pl.szl (ps.map nf) ≤ 5000 := by
      have := nfl_sz ps fun p _ => nf_sz p
      rw [nfl_map] at this
      omega
    have enf : nf (.nd h ps) = mk h (ps.map nf) := by rw [nf, nfl_map]
    rw [enf] at q
    repeat (walk_at "z")
    refine z_ixT z3 (upT s23 hS) at_zero ?_
    repeat (walk_at "z")
    refine z_eqS rfl ?_
    rw [str_th]
    repeat (walk_at "z")
    refine z_bd (fun c => ?_) (fun c => ?_)
    · subst c
      repeat (walk_at "z")
      exact ⟨G3, _, p3, acc, _, rfl, z3, SqL.of e3, hA, by omega, fun v G4 H4 z4 s4 h4 => q v G4 H4 z4 (s23.trans s4) h4⟩
    · repeat (walk_at "z")
      refine z_ixT z3 (upT s23 hS) at_zero ?_
      repeat (walk_at "z")
      refine z_eqS rfl ?_
      rw [str_be]
      repeat (walk_at "z")
      refine z_bd (fun c2 => ?_) (fun c2 => ?_)
      · subst c2
        have f2 : ps.length = 2 := of_decide_eq_true hO.fit
        obtain ⟨x, y, hxy⟩ : ∃ x y, ps.map nf = [x, y] := by
          match ps, f2 with
          | [x, y], _ => exact ⟨_, _, rfl⟩
        rw [hxy] at hA hk hdp q
        rw [dl_map] at hA
        cases hA with
        | cons hA1 hA2 =>
        cases hA2 with
        | cons hA2 hA3 =>
        cases hA3
        repeat (walk_at "z")
        refine z_ixL z3 (SqL.of e3) at_zero ?_
        repeat (walk_at "z")
        refine z_ixL z3 (SqL.of e3) at_one ?_
        repeat (walk_at "z")
        have d1 := hdp x (by simp)
        have d2 := hdp y (by simp)
        exact ⟨G3, _, _, _, x, y, rfl, z3, hA1, hA2, Ok.nms _ _ (hk x (by simp)), Ok.nms _ _ (hk y (by simp)), by omega, by omega, fun v G4 H4 z4 s4 h4 => q v G4 H4 z4 (s23.trans s4) h4⟩
      · have hal := pls_len hA
        rw [List.length_map] at hal
        have hl2 := len_szl ps
        repeat (walk_at "z")
        refine z_ixT z3 (upT s23 hS) at_zero ?_
        repeat (walk_at "z")
        refine z_newT z3 (by simp) fun p4 G4 H4 z4 s4 e4 => ?_
        repeat (walk_at "z")
        refine z_tupL z4 (SqL.of (s4 _ _ e3)) fun p5 G5 H5 z5 s5 e5 => ?_
        refine z_addT z5 (upT s5 (SqT.of e4)) e5 (by simp; omega) fun p6 G6 H6 z6 s6 e6 => ?_
        have s46 := s4.trans (s5.trans s6)
        refine q _ G6 H6 z6 (s23.trans s46) ?_
        have e : mk h (ps.map nf) = .nd h (ps.map nf) := by
          rcases mk_cases h (ps.map nf) with ⟨e, _⟩ | ⟨_, _, e, _⟩ | ⟨_, e⟩
          · exact absurd e c
          · exact absurd e c2
          · exact e
        rw [e]
        exact dt_mk e6 (hA.up s46)
theorem ok_law_names {n : Nat} (T : Nm K mg) (C_law_names : Own P w K mg base CX0 (n + 1) "_law_names" ["_law_plan"] (spNames K n)) (F : FnP K "_law_names" s_law_names f fd) : FnOk P w K mg base CX0 (n + 2) f fd ["_law_plan"] (spNames K (n + 1)) := by
  have nd : N_law_names.Nodup := sc_law_names.nd
  refine F.ok sc_law_names (fun vs H Q E h => ?_) (fun cdv A outer s H vs Q E hr h => ?_)
  · obtain ⟨G, M, v, p, rfl, _⟩ := h
    rfl
  have hu := hr.units
  refine ⟨_, PSs.nox   (pss_cons (ps_if (pt_val (pe_callB (kc_isi (K := K)) (by rfl) T.b_isinstance boot_isinstance (pa_cons (pv 0) (pa_cons (pe_bltn (v := .ty "str") (by rfl) T.b_str boot_str rfl) pa_nil)))) (pss_one (ps_ret (pe_lst (pa_cons (pv 0) pa_nil)))) pss_nil)
    (pss_cons (ps_asg (pe_lst pa_nil) (pg_name (i := 1) nd rfl (by first | exact .inl rfl | exact .inr rfl)))
    (pss_cons (ps_for PassesOwn.never rfl (k_any (K := K) (pe_slice (k_sl (K := K)) (pv 0) (po_some pe_int) po_none)) (pg_name (i := 2) nd rfl (by first | exact .inl rfl | exact .inr rfl)) (pss_one (ps_expr (pe_bm PySem.F.plainAttrs_list PySem.F.slot_list_extend PySem.F.type_list_extend (mt_ext2 (K := K)) (pv 1) (pa_cons (pe_own C_law_names (hr.mono (by omega)) (by rfl) pass0 (pa_cons (pv 2) pa_nil)) pa_nil)))))
    (pss_one (ps_ret (pv 1)))))), ?_⟩
  obtain ⟨G, M, v, p, rfl, z, hd, hn, hsz, q⟩ := h
  repeat (walk_at "z")
  refine z_isi (.ty "str") (hd.up z.sub).ty (kit_ty (kit_str p.d)) ?_
  cases p with
  | nm s =>
    have e := dt_nm hd
    subst e
    rw [Pl.d]
    repeat (walk_at "z")
    refine z_bT' rfl ?_
    repeat (walk_at "z")
    refine z_newL z (by simp) fun l G1 H1 z1 s1 e1 => ?_
    exact q l G1 H1 z1 s1 (by rw [nmsL]; exact e1)
  | nd h ps =>
    obtain ⟨a, xr, rfl, hS, hR⟩ := dt_nd hd
    rw [Pl.dp] at hn
    rw [Pl.sz] at hsz
    have hps := pls_len hR
    rw [Pl.d]
    repeat (walk_at "z")
    refine z_bF' rfl ?_
    repeat (walk_at "z")
    refine z_ownL z (by simp) fun fa H1 z1 => ?_
    repeat (walk_at "z")
    refine z_anyT ?_
    repeat (walk_at "z")
    refine z_slT z1 hS fun p2 G2 H2 z2 s2 e2 => ?_
    rw [cut_tail] at e2
    refine z_itT z2 e2 ?_
    refine for_src src_T (fun i σ G' M' => ∃ k2, M' = M ++ [(fa, .lst ((nmsLl (ps.take i)).map V.str))] ∧ Same G2 G' ∧ σ = [some (.ref a), some (.ref fa), k2]) z2 ⟨_, rfl, Same.refl _, rfl⟩ (fun i σ G' M' H' ⟨_, _, s', _⟩ z' => z'.seqT (upT s' e2)) ?_ ?_
    · rintro i x σ G' M' H' hx ⟨k2, rfl, s', rfl⟩ z'
      obtain ⟨p, hp, hx'⟩ := pl_at (hR.up (s2.trans s')) hx
      have hm := List.mem_of_getElem? hp
      have h1 := dp_mem hm
      have h2 := sz_mem hm
      have hl : (nmsLl (ps.take (i + 1))).length ≤ 5000 := by
        have := nmsLl_take ps (i + 1)
        have := nms_len (.nd h ps)
        rw [nmsL, Pl.sz] at this
        omega
      have e1 : nmsLl (ps.take (i + 1)) = nmsLl (ps.take i) ++ nmsL p := by
        rw [take_snoc hp, nmsLl_app]
        simp [nmsLl]
      rw [e1, List.length_append] at hl
      repeat (walk_at "z")
      refine z_tyO z' M.length last_at ?_
      repeat (walk_at "z")
      refine ⟨G', _, x, p, rfl, z', hx', by omega, by omega, fun l G3 H3 z3 s3 e3 => ?_⟩
      repeat (walk_at "z")
      refine z_extLast z3 (z3.sub _ _ e3) (by rw [List.length_map, List.length_map]; omega) fun H4 z4 => ?_
      repeat (walk_at "z")
      exact ⟨_, _, z4, _, by rw [e1, List.map_append], s'.trans s3, rfl⟩
    · rintro σ G3 M3 H3 ⟨k2, rfl, s3, rfl⟩ z3
      rw [hps, List.take_length] at z3
      repeat (walk_at "z")
      have e : nmsL (.nd h ps) = nmsLl ps := by rw [nmsL]
      rw [e] at q
      exact q fa _ _ z3.fix (s2.trans (s3.trans (Same.new (z3.own M.length _ _ last_at).2))) upd_same

end
end LW
namespace LW
open PySem PySem.Spec PyProof.Rows L2 Ys

section
variable {P : Program} {w : World} {K : PySem.W.Frag} {mg : Str → Option Value} {base : Heap} {f : Addr} {fd : FuncData}
end
end LW
namespace LW
open PySem PySem.Spec PyProof.Rows L2 Ys

def boolD : PyData → Bool
  | .bool _ => true
  | _ => false
theorem kit_int (d : PyData) : kitB (tyD d) "int" = some (intD d || boolD d) := by cases d <;> (simp only [tyD, intD, boolD]; decide +kernel)
theorem kit_bool (d : PyData) : kitB (tyD d) "bool" = some (boolD d) := by cases d <;> (simp only [tyD, boolD]; decide +kernel)
def isLD : PyData → Bool
  | .list _ => true
  | _ => false
def isTDV : PyData → Bool
  | .tuple _ => true
  | _ => false
theorem kit_list {K : PySem.W.Frag} (d : PyData) : PySem.W.kitAny K (.type (tyD d)) [.type "list", .type "tuple"] = some (listD d) := by
  have k1 : kitB (tyD d) "list" = some (isLD d) := by cases d <;> (simp only [tyD, isLD]; decide +kernel)
  have k2 : kitB (tyD d) "tuple" = some (isTDV d) := by cases d <;> (simp only [tyD, isTDV]; decide +kernel)
  refine kitAny_cons (kit_ty k1) (fun h => kitAny_cons (kit_ty k2) (fun h2 => ?_) fun h2 => ?_) fun h => ?_
  · rw [kitAny_nil]
    cases d <;> first | rfl | (cases h2; done) | (cases h; done)
  · cases d <;> first | rfl | cases h2
  · cases d <;> first | rfl | cases h
def withinD (a b : Int) : PyData → Bool
  | .int i => decide (a ≤ i) && decide (i ≤ b)
  | _ => false
def moreD (m : Option Int) (ds : List PyData) : Bool := match m with
  | none => true
  | some m => decide ((ds.length : Int) ≤ m)
def wordsD (m : Option Int) (d : PyData) : Bool := listD d && (moreD m (itemsD d) && (itemsD d).all wordD)
def strOf : PyData → Str
  | .str s => s
  | _ => ""
def diffD (m : Option Int) (d : PyData) : Bool := wordsD m d && decide ((dd ((itemsD d).map strOf)).length = (itemsD d).length)
def mV : Option Int → V
  | none => .non
  | some i => .int i
section
variable {P : Program} {w : World} {K : PySem.W.Frag} {mg : Str → Option Value} {base : Heap} {f : Addr} {fd : FuncData}
def spInt (K : PySem.W.Frag) : Sp := fun vs H Q _ => ∃ G M v d, vs = [v] ∧ Zp G M H ∧ Dt K G v d ∧ Q (.bl (intD d)) H
theorem ok_is_integer (T : Nm K mg) (F : FnP K "is_integer" s_is_integer f fd) : FnOk P w K mg base CX0 1 f fd ["value"] (spInt K) := by
  have nd : N_is_integer.Nodup := sc_is_integer.nd
  refine F.ok sc_is_integer (fun vs H Q E h => ?_) (fun cdv A outer s H vs Q E hr h => ?_)
  · obtain ⟨G, M, v, d, rfl, _⟩ := h
    rfl
  have hu := hr.units
  refine ⟨_, PSs.nox   (pss_one (ps_ret (pe_and (pe_callB (kc_isi (K := K)) (by rfl) T.b_isinstance boot_isinstance (pa_cons (pv 0) (pa_cons (pe_bltn (v := .ty "int") (by rfl) T.b_int boot_int rfl) pa_nil))) (pe_one (pe_not (pe_callB (kc_isi (K := K)) (by rfl) T.b_isinstance boot_isinstance (pa_cons (pv 0) (pa_cons (pe_bltn (v := .ty "bool") (by rfl) T.b_bool boot_bool rfl) pa_nil)))))))), ?_⟩
  obtain ⟨G, M, v, d, rfl, z, hd, q⟩ := h
  repeat (walk_at "z")
  refine z_isi (.ty "int") (hd.up z.sub).ty (kit_ty (kit_int d)) ?_
  repeat (walk_at "z")
  have e : intD d = ((intD d || boolD d) && !boolD d) := by cases d <;> rfl
  cases h1 : (intD d || boolD d) with
  | false =>
    repeat (walk_at "z")
    rw [e, h1] at q
    exact q
  | true =>
    repeat (walk_at "z")
    refine z_isi (.ty "bool") (hd.up z.sub).ty (kit_ty (kit_bool d)) ?_
    repeat (walk_at "z")
    rw [e, h1, Bool.true_and] at q
    exact q
def spWithin (K : PySem.W.Frag) : Sp := fun vs H Q _ => ∃ G M v d a b, vs = [v, .int a, .int b] ∧ Zp G M H ∧ Dt K G v d ∧ Q (.bl (withinD a b d)) H
theorem ok_is_within (T : Nm K mg) (C_is_integer : Own P w K mg base CX0 1 "is_integer" ["value"] (spInt K)) (F : FnP K "is_within" s_is_within f fd) : FnOk P w K mg base CX0 2 f fd ["value", "least", "most"] (spWithin K) := by
  have nd : N_is_within.Nodup := sc_is_within.nd
  refine F.ok sc_is_within (fun vs H Q E h => ?_) (fun cdv A outer s H vs Q E hr h => ?_)
  · obtain ⟨G, M, v, d, a, b, rfl, _⟩ := h
    rfl
  have hu := hr.units
  refine ⟨_, PSs.nox   (pss_one (ps_ret (pe_and (pe_own C_is_integer (hr.mono (by omega)) (by rfl) pass0 (pa_cons (pv 0) pa_nil)) (pe_one (pe_chain o_le o_le (pv 1) (pv 0) (pv 2)))))), ?_⟩
  obtain ⟨G, M, v, d, a, b, rfl, z, hd, q⟩ := h
  repeat (walk_at "z")
  refine ⟨G, M, v, d, rfl, z, hd, ?_⟩
  repeat (walk_at "z")
  cases hi : intD d with
  | false =>
    repeat (walk_at "z")
    have e : withinD a b d = false := by cases d <;> first | rfl | cases hi
    rw [e] at q
    exact q
  | true =>
    cases hd with
    | int i =>
      repeat (walk_at "z")
      refine z_b2 (fun c => ?_) (fun c => ?_)
      · repeat (walk_at "z")
        have e : withinD a b (.int i) = decide (i ≤ b) := by
          show (decide (a ≤ i) && _) = _
          rw [c]
          rfl
        rw [e] at q
        exact q
      · have e : withinD a b (.int i) = false := by
          show (decide (a ≤ i) && _) = _
          rw [c]
          rfl
        rw [e] at q
        exact q
    | _ => cases hi
def spIsList (K : PySem.W.Frag) : Sp := fun vs H Q _ => ∃ G M v d, vs = [v] ∧ Zp G M H ∧ Ar K G M v d ∧ ∀ G1 H1, Zp G1 M H1 → Same G G1 → Q (.bl (listD d)) H1
theorem ok_is_list (T : Nm K mg) (F : FnP K "is_list" s_is_list f fd) : FnOk P w K mg base CX0 1 f fd ["value"] (spIsList K) := by
  have nd : N_is_list.Nodup := sc_is_list.nd
  refine F.ok sc_is_list (fun vs H Q E h => ?_) (fun cdv A outer s H vs Q E hr h => ?_)
  · obtain ⟨G, M, v, d, rfl, _⟩ := h
    rfl
  have hu := hr.units
  refine ⟨_, PSs.nox   (pss_one (ps_ret (pe_callB (kc_isi (K := K)) (by rfl) T.b_isinstance boot_isinstance (pa_cons (pv 0) (pa_cons (pe_tup (pa_cons (pe_bltn (v := .ty "list") (by rfl) T.b_list boot_list rfl) (pa_cons (pe_bltn (v := .ty "tuple") (by rfl) T.b_tuple boot_tuple rfl) pa_nil))) pa_nil))))), ?_⟩
  obtain ⟨G, M, v, d, rfl, z, hd, q⟩ := h
  repeat (walk_at "z")
  refine z_newT z (by simp) fun p1 G1 H1 z1 s1 e1 => ?_
  repeat (walk_at "z")
  refine z_isi2 z1 e1 (.cons (.ty "list") (.cons (.ty "tuple") .nil)) ((hd.up s1).ty z1) (kit_list d) ?_
  exact q G1 _ z1 s1
abbrev OwnWV (P : Program) (w : World) (K : PySem.W.Frag) (mg : Str → Option Value) (base : Heap) : Prop := Own P w K mg base CX0 1 "is_word" ["value"] (spWord K)
abbrev OwnL (P : Program) (w : World) (K : PySem.W.Frag) (mg : Str → Option Value) (base : Heap) : Prop := Own P w K mg base CX0 1 "is_list" ["value"] (spIsList K)
def FineD (d : PyData) : Prop := (itemsD d).length ≤ 500 ∧ ∀ e ∈ itemsD d, ShortD e
def spAreWords (K : PySem.W.Frag) : Sp := fun vs H Q _ => ∃ G M v d m, vs = [v, mV m] ∧ Zp G M H ∧ Ar K G M v d ∧ FineD d ∧ ∀ G1 H1, Zp G1 M H1 → Same G G1 → Q (.bl (wordsD m d)) H1
theorem words_lc {G : Hp} {M : List (Addr × HO)} {H : Hp} {J : It} {xs : List V} {ds : List PyData} {OK : Hp → Prop} {σ : L2.St} {Q : VK} {v mv : V} (S : Src J xs OK) (hd : Dts K G xs ds) (z : Zp G M H) (hf : ds.length ≤ 500) (hs : ∀ e ∈ ds, ShortD e)
    (ok : ∀ G' M1 H', Same G G' → Zp G' (M ++ M1) H' → OK H') (q : ∀ p G1 H1, Zp G1 M H1 → Same G G1 → G1 p = some (.lst ((ds.map wordD).map V.bl)) → Q (.ref p) H1) (hσ : σ = [some v, some mv, none]) :
    LcW J (gName 2) tYes (tCall (spWord K) [] E0 (tCons (tVar 2) tNil)) [2] σ H Q := by
  subst hσ
  have hl := hd.len (ds := ds)
  refine lc_src S (fun i G' M' acc => M' = M ∧ Same G G' ∧ acc = ((ds.take i).map wordD).map V.bl) z ⟨rfl, Same.refl G, rfl⟩ ?_ ?_ ?_
  · rintro i G' M' M1 acc H' ⟨rfl, s1, _⟩ z'
    exact ok G' M1 H' s1 z'
  · rintro i x G2 M2 acc Dl H2 hx ⟨rfl, s2, rfl⟩ z2
    obtain ⟨d, h1, h2⟩ := hd.at_ hx
    repeat (walk_at "z")
    refine ⟨by rfl, ?_⟩
    repeat (walk_at "z")
    refine ⟨G2, _, x, d, rfl, z2, h2.up s2, hs d (List.mem_of_getElem? h1), fun G3 H3 z3 s3 => ?_⟩
    refine z_laid z3 (by rw [List.length_map, List.length_map, List.length_take]; omega) ⟨rfl, s2.trans s3, ?_⟩
    rw [List.take_add_one, h1]
    simp
  · rintro p2 G2 M2 acc G3 H3 ⟨rfl, s2, rfl⟩ s3 z3 e3
    rw [hl, List.take_length] at e3
    exact q p2 G3 H3 z3 (s2.trans s3) e3
theorem ok_are_words (T : Nm K mg) (C_is_word : OwnWV P w K mg base) (C_is_list : OwnL P w K mg base) (F : FunD K "are_words" "are_words" (defArgs s_are_words) (defBody s_are_words) (defScope s_are_words) [.non] [] f fd) : FnOk P w K mg base CX0 2 f fd ["value", "most"] (spAreWords K) := by
  have nd : N_are_words.Nodup := sc_are_words.nd
  refine F.ok sc_are_words (fun vs H Q E h => ?_) (fun cdv A outer s H vs Q E hr h => ?_)
  · obtain ⟨G, M, v, d, m, rfl, _⟩ := h
    rfl
  have hu := hr.units
  refine ⟨_, PSs.nox   (pss_cons (ps_if (PW.pt (pw_or (pt_not (pt_val (pe_own C_is_list (hr.mono (by omega)) (by rfl) pass0 (pa_cons (pv 0) pa_nil)))) (pw_or1 (PW.pt (pw_and (pt_cmpR o_notN (pv 1) pe_non (nomark _)) (pw_and1 (pt_cmpR o_gt (pe_callB (kc_len (K := K) (P := P) (w := w)) (by rfl) T.b_len PySem.boot_len (pa_cons (pv 0) pa_nil)) (pv 1) (nomark _)))))))) (pss_one (ps_ret pe_bl)) pss_nil)
    (pss_one (ps_ret (pe_callB (kc_all (K := K) rfl) (by rfl) T.b_all boot_all (pa_cons (pe_lc (own := [("word", 2)]) (tt := tYes) rfl nd (k_any (K := K) (pv 0)) (blkOk_by (N := N_are_words) (sc := defScope s_are_words) (by decide +kernel)) (fun _ _ _ _ _ => (pg_name (i := 2) nd rfl (by first | exact .inl rfl | exact .inr rfl))) (fun _ _ _ _ _ => pts_nil) (fun _ _ _ _ _ => (pe_own C_is_word (hr.mono (by omega)) (by rfl) pass0 (pa_cons (pv 2) pa_nil)))) pa_nil))))), ?_⟩
  obtain ⟨G, M, v, d, m, rfl, z, hd, ⟨hf, hs⟩, q⟩ := h
  repeat (walk_at "z")
  refine ⟨G, M, v, d, rfl, z, hd, fun G1 H1 z1 s1 => ?_⟩
  repeat (walk_at "z")
  cases hl : listD d with
  | false =>
    repeat (walk_at "z")
    have e : wordsD m d = false := by
      unfold wordsD
      rw [hl]
      rfl
    have := q G1 H1 z1 s1
    rw [e] at this
    exact this
  | true =>
    have big : ∀ (J : It) (a : Addr) (xs : List V) (OK : Hp → Prop), Src J xs OK → Dts K G xs (itemsD d) → (∀ G' M1 H', Same G G' → Zp G' (M ++ M1) H' → OK H') →
        ∀ Q2 : VK, (moreD m (itemsD d) = true → (∀ p G2 H2, Zp G2 M H2 → Same G1 G2 → G2 p = some (.lst (((itemsD d).map wordD).map V.bl)) → Q2 (.ref p) H2) → LcW J (gName 2) tYes (tCall (spWord K) [] E0 (tCons (tVar 2) tNil)) [2] (L2.start N_are_words [v, mV m]) H1 Q2) :=
      fun J a xs OK S hD ok Q2 hm q2 => words_lc S (hD.up s1) z1 hf hs (fun G' M1 H' s' z' => ok G' M1 H' (s1.trans s') z') (fun p G2 H2 z2 s2 e2 => q2 p G2 H2 z2 s2 e2) rfl
    have no : moreD m (itemsD d) = false → Q (.bl false) H1 := fun hm => by
      have e : wordsD m d = false := by
        unfold wordsD
        rw [hm, Bool.false_and, Bool.and_false]
      have := q G1 H1 z1 s1
      rw [e] at this
      exact this
    have yes : moreD m (itemsD d) = true → ∀ p G2 H2, Zp G2 M H2 → Same G1 G2 → G2 p = some (.lst (((itemsD d).map wordD).map V.bl)) → rAllG K [.ref p] H2 Q := fun hm p G2 H2 z2 s2 e2 => by
      refine z_all z2 (SqL.of e2) ?_
      have e : wordsD m d = ((itemsD d).map wordD).all id := by
        unfold wordsD
        rw [hl, hm, all_map_bl]
        rfl
      have := q G2 H2 z2 (s1.trans s2)
      rw [e] at this
      exact this
    cases d with
    | list ds =>
      obtain ⟨a, xs, rfl, k1, k2, k3⟩ := hd.list z
      have h1 := k3 G1 H1 z1 s1
      have h2 := k2.up s1
      cases m with
      | none =>
        repeat (walk_at "z")
        refine z_nN ?_
        repeat (walk_at "z")
        rw [show decide (mV none = V.non) = true from rfl]
        repeat (walk_at "z")
        refine z_anyL ?_
        repeat (walk_at "z")
        refine z_itLH h1 ?_
        refine big _ a xs _ src_L k2 (fun G' M1 H' s' z' => k3 G' H' z'.cut s') _ rfl (fun p G2 H2 z2 s2 e2 => ?_)
        repeat (walk_at "z")
        exact yes rfl p G2 H2 z2 s2 e2
      | some m =>
        repeat (walk_at "z")
        refine z_nN ?_
        repeat (walk_at "z")
        rw [show decide (mV (some m) = V.non) = false from rfl]
        repeat (walk_at "z")
        refine z_lenH (.inl h1) ?_
        rw [h2.len (ds := ds)]
        repeat (walk_at "z")
        refine z_I0 (j := m) ?_
        repeat (walk_at "z")
        cases hm : moreD (some m) ds with
        | false =>
          have : m < (ds.length : Int) := by have := of_decide_eq_false hm; omega
          rw [decide_eq_true this]
          repeat (walk_at "z")
          exact no hm
        | true =>
          have : ¬ m < (ds.length : Int) := by have := of_decide_eq_true hm; omega
          rw [decide_eq_false this]
          repeat (walk_at "z")
          refine z_anyL ?_
          repeat (walk_at "z")
          refine z_itLH h1 ?_
          refine big _ a xs _ src_L k2 (fun G' M1 H' s' z' => k3 G' H' z'.cut s') _ hm (fun p G2 H2 z2 s2 e2 => ?_)
          repeat (walk_at "z")
          exact yes hm p G2 H2 z2 s2 e2
    | tuple ds =>
      obtain ⟨a, xs, rfl, h1, h2⟩ := hd.tup
      cases m with
      | none =>
        repeat (walk_at "z")
        refine z_nN ?_
        repeat (walk_at "z")
        rw [show decide (mV none = V.non) = true from rfl]
        repeat (walk_at "z")
        refine z_anyT ?_
        repeat (walk_at "z")
        refine z_itT z1 (upT s1 h1) ?_
        refine big _ a xs _ src_T h2 (fun G' M1 H' s' z' => z'.seqT (upT s' h1)) _ rfl (fun p G2 H2 z2 s2 e2 => ?_)
        repeat (walk_at "z")
        exact yes rfl p G2 H2 z2 s2 e2
      | some m =>
        repeat (walk_at "z")
        refine z_nN ?_
        repeat (walk_at "z")
        rw [show decide (mV (some m) = V.non) = false from rfl]
        repeat (walk_at "z")
        refine z_lenT z1 (upT s1 h1) ?_
        rw [h2.len (ds := ds)]
        repeat (walk_at "z")
        refine z_I0 (j := m) ?_
        repeat (walk_at "z")
        cases hm : moreD (some m) ds with
        | false =>
          have : m < (ds.length : Int) := by have := of_decide_eq_false hm; omega
          rw [decide_eq_true this]
          repeat (walk_at "z")
          exact no hm
        | true =>
          have : ¬ m < (ds.length : Int) := by have := of_decide_eq_true hm; omega
          rw [decide_eq_false this]
          repeat (walk_at "z")
          refine z_anyT ?_
          repeat (walk_at "z")
          refine z_itT z1 (upT s1 h1) ?_
          refine big _ a xs _ src_T h2 (fun G' M1 H' s' z' => z'.seqT (upT s' h1)) _ hm (fun p G2 H2 z2 s2 e2 => ?_)
          repeat (walk_at "z")
          exact yes hm p G2 H2 z2 s2 e2
    | _ => cases hl
end
end LW
namespace LW
open PySem PySem.Spec PyProof.Rows L2 Ys

theorem strs_of : ∀ {ds : List PyData}, ds.all wordD = true → ds = (ds.map strOf).map PyData.str
  | [], _ => rfl
  | d :: ds, h => by
    obtain ⟨h1, h2⟩ := Bool.and_eq_true_iff.mp (show (wordD d && ds.all wordD) = true from h)
    rw [List.map_cons, List.map_cons, ← strs_of h2]
    cases d <;> first | rfl | cases h1
theorem dts_strs {K : PySem.W.Frag} {G : Hp} : ∀ {xs : List V} {ss : List Str}, Dts K G xs (ss.map PyData.str) → xs = ss.map V.str
  | [], [], _ => rfl
  | _, s :: ss, h => by
    cases h with
    | cons h1 h2 =>
      cases h1
      rw [List.map_cons, ← dts_strs h2]
  | _ :: _, [], h => by cases h
theorem ar_strs {K : PySem.W.Frag} {G H : Hp} {M : List (Addr × HO)} {v : V} {d : PyData} {ss : List Str} (z : Zp G M H) (h : Ar K G M v d) (hl : listD d = true) (hi : itemsD d = ss.map PyData.str) :
    ∃ a, v = .ref a ∧ ∀ G1 H1, Zp G1 M H1 → Same G G1 → SqL K H1 a (ss.map V.str) ∨ SqT K H1 a (ss.map V.str) := by
  cases d with
  | list ds =>
    obtain ⟨a, xs, rfl, h1, h2, h3⟩ := h.list z
    rw [show ds = ss.map PyData.str from hi] at h2
    obtain rfl := dts_strs h2
    exact ⟨a, rfl, fun G1 H1 z1 s1 => .inl (h3 G1 H1 z1 s1)⟩
  | tuple ds =>
    obtain ⟨a, xs, rfl, h1, h2⟩ := h.tup
    rw [show ds = ss.map PyData.str from hi] at h2
    obtain rfl := dts_strs h2
    exact ⟨a, rfl, fun G1 H1 z1 s1 => .inr (z1.seqT (upT s1 h1))⟩
  | _ => cases hl
theorem dd_lenV {l ss : List Str} (h : ∀ x, x ∈ l ↔ x ∈ ss) (nd : l.Nodup) : l.length = (dd ss).length :=
  ((List.perm_ext_iff_of_nodup nd (dd_nodup ss)).mpr fun x => (h x).trans mem_dd.symm).length_eq
section
variable {P : Program} {w : World} {K : PySem.W.Frag} {mg : Str → Option Value} {base : Heap} {f : Addr} {fd : FuncData}
def spDiff (K : PySem.W.Frag) : Sp := fun vs H Q _ => ∃ G M v d m, vs = [v, mV m] ∧ Zp G M H ∧ Ar K G M v d ∧ FineD d ∧ ∀ G1 H1, Zp G1 M H1 → Same G G1 → Q (.bl (diffD m d)) H1
theorem ok_diff (T : Nm K mg) (C_are_words : Own P w K mg base CX0 2 "are_words" ["value", "most"] (spAreWords K)) (F : FunD K "are_different_words" "are_different_words" (defArgs s_are_different_words) (defBody s_are_different_words) (defScope s_are_different_words) [.non] [] f fd) :
    FnOk P w K mg base CX0 3 f fd ["value", "most"] (spDiff K) := by
  have nd : N_are_different_words.Nodup := sc_are_different_words.nd
  refine F.ok sc_are_different_words (fun vs H Q E h => ?_) (fun cdv A outer s H vs Q E hr h => ?_)
  · obtain ⟨G, M, v, d, m, rfl, _⟩ := h
    rfl
  have hu := hr.units
  refine ⟨_, PSs.nox   (pss_one (ps_ret (pe_and (pe_own C_are_words (hr.mono (by omega)) (by rfl) pass0 (pa_cons (pv 0) (pa_cons (pv 1) pa_nil))) (pe_one (pe_cmpR (k_eq (K := K) hu) (pe_callB (kc_len (K := K) (P := P) (w := w)) (by rfl) T.b_len PySem.boot_len (pa_cons (pe_callTy (kc_set (K := K) (P := P) (w := w) rfl) (by rfl) T.b_set boot_set (pa_cons (pv 0) pa_nil)) pa_nil)) (pe_callB (kc_len (K := K) (P := P) (w := w)) (by rfl) T.b_len PySem.boot_len (pa_cons (pv 0) pa_nil)) (nomark _)))))), ?_⟩
  obtain ⟨G, M, v, d, m, rfl, z, hd, hf, q⟩ := h
  repeat (walk_at "z")
  refine ⟨G, M, v, d, m, rfl, z, hd, hf, fun G1 H1 z1 s1 => ?_⟩
  repeat (walk_at "z")
  cases hw : wordsD m d with
  | false =>
    repeat (walk_at "z")
    have := q G1 H1 z1 s1
    unfold diffD at this
    rw [hw] at this
    exact this
  | true =>
    obtain ⟨hl, h2⟩ := Bool.and_eq_true_iff.mp hw
    obtain ⟨_, h3⟩ := Bool.and_eq_true_iff.mp h2
    have hi := strs_of h3
    obtain ⟨a, rfl, hS⟩ := ar_strs z hd hl hi
    have hlen : ((itemsD d).map strOf).length = (itemsD d).length := List.length_map ..
    have hfl := hf.1
    repeat (walk_at "z")
    refine z_setH z1 (hS G1 H1 z1 s1) (by omega) fun p l G2 H2 z2 s2 e2 m2 nd2 l2 => ?_
    repeat (walk_at "z")
    refine z_lenX z2 e2 (by omega) ?_
    repeat (walk_at "z")
    refine z_lenH (hS G2 _ z2 (s1.trans s2)) ?_
    repeat (walk_at "z")
    refine z_eqS rfl ?_
    have := q G2 _ z2 (s1.trans s2)
    unfold diffD at this
    rw [hw, Bool.true_and, ← dd_lenV m2 nd2] at this
    rw [List.length_map, hlen]
    have e : decide (V.int (l.length : Int) = V.int ((itemsD d).length : Int)) = decide (l.length = (itemsD d).length) := by
      by_cases c : l.length = (itemsD d).length
      · rw [decide_eq_true c, c]
        exact decide_eq_true rfl
      · rw [decide_eq_false c]
        exact decide_eq_false fun h => c (by have := V.int.inj h; omega)
    rw [e]
    exact this
def spAscA (K : PySem.W.Frag) : Sp := fun vs H Q _ => ∃ G M v d, ∃ ss : List Str, vs = [v] ∧ Zp G M H ∧ Ar K G M v d ∧ listD d = true ∧ itemsD d = ss.map PyData.str ∧ ss.length < 64 ∧
  ∀ p G1 H1, Zp G1 M H1 → Same G G1 → SqT K G1 p ((asc ss).map V.str) → Q (.ref p) H1
theorem ok_ascA (T : Nm K mg) (F : FnP K "ascending" s_ascending f fd) : FnOk P w K mg base CX0 1 f fd ["words"] (spAscA K) := by
  have nd : N_ascending.Nodup := sc_ascending.nd
  refine F.ok sc_ascending (fun vs H Q E h => ?_) (fun cdv A outer s H vs Q E hr h => ?_)
  · obtain ⟨G, M, v, d, ss, rfl, _⟩ := h
    rfl
  have hu := hr.units
  refine ⟨_, PSs.nox   (pss_one (ps_ret (pe_callTy (kc_tuple (K := K)) (by rfl) T.b_tuple boot_tuple (pa_cons (pe_callB (kc_sorted (K := K) (P := P) (w := w) rfl) (by rfl) T.b_sorted boot_sorted (pa_cons (pe_callTy (kc_set (K := K) (P := P) (w := w) rfl) (by rfl) T.b_set boot_set (pa_cons (pv 0) pa_nil)) pa_nil)) pa_nil)))), ?_⟩
  obtain ⟨G, M, v, d, ss, rfl, z, hd, hl, hi, hs, q⟩ := h
  obtain ⟨a, rfl, hS⟩ := ar_strs z hd hl hi
  repeat (walk_at "z")
  refine z_setH z (hS G H z (Same.refl G)) (by omega) fun p l G2 H2 z2 s2 e2 m2 nd2 l2 => ?_
  repeat (walk_at "z")
  refine z_sortX z2 e2 m2 nd2 (by omega) fun p3 G3 H3 z3 s3 e3 => ?_
  repeat (walk_at "z")
  exact z_tupL z3 (SqL.of e3) fun p4 G4 H4 z4 s4 h4 => q p4 G4 H4 z4 ((s2.trans s3).trans s4) h4
end
end LW
namespace LW
open PySem PySem.Spec PyProof.Rows L2 Ys

/-! ### tasks -/
structure TkD where
  role : Option Str
  many : Int
  l1 : List Str
  l2 : List Str
  l3 : List Str
  l4 : List Str
def rV : Option Str → V
  | none => .non
  | some s => .str s
def rP : Option Str → PyData
  | none => .none
  | some s => .str s
theorem rDt {K : PySem.W.Frag} {G : Hp} (r : Option Str) : Dt K G (rV r) (rP r) := by cases r <;> constructor
structure TaskC (K : PySem.W.Frag) (C : Addr) : Prop where
  cl : Cls K C
  n1 : NoAttr K C "own_role"
  n2 : NoAttr K C "own_many"
  n3 : NoAttr K C "own_other"
  n4 : NoAttr K C "own_same"
  n5 : NoAttr K C "own_takes"
  n6 : NoAttr K C "own_forgets"
def tfs (t : TkD) (t1 t2 t3 t4 : Addr) : List (Str × V) := [("own_role", rV t.role), ("own_many", .int t.many), ("own_other", .ref t1), ("own_same", .ref t2), ("own_takes", .ref t3), ("own_forgets", .ref t4)]
def TkI (K : PySem.W.Frag) (G : Hp) (C a : Addr) (t : TkD) : Prop := ∃ dx t1 t2 t3 t4, G a = some (.ins C dx (tfs t t1 t2 t3 t4)) ∧ SqT K G t1 (t.l1.map V.str) ∧ SqT K G t2 (t.l2.map V.str) ∧ SqT K G t3 (t.l3.map V.str) ∧ SqT K G t4 (t.l4.map V.str)
theorem TkI.up {K : PySem.W.Frag} {G G1 : Hp} {C a : Addr} {t : TkD} (s : Same G G1) (h : TkI K G C a t) : TkI K G1 C a t := by
  obtain ⟨dx, t1, t2, t3, t4, h0, h1, h2, h3, h4⟩ := h
  exact ⟨dx, t1, t2, t3, t4, s _ _ h0, upT s h1, upT s h2, upT s h3, upT s h4⟩
structure OkL (d : PyData) (ss : List Str) : Prop where
  li : listD d = true
  it : itemsD d = ss.map PyData.str
  wd : ∀ s ∈ ss, wordS s = true
  nd : ss.Nodup
  le : ss.length ≤ 60
theorem strOf_map : ∀ ss : List Str, (ss.map PyData.str).map strOf = ss
  | [] => rfl
  | s :: ss => congrArg (s :: ·) (strOf_map ss)
theorem wordS_len {s : Str} (h : wordS s = true) : s.length ≤ 8 := by
  obtain ⟨_, h2⟩ := Bool.and_eq_true_iff.mp h
  obtain ⟨h3, _⟩ := Bool.and_eq_true_iff.mp h2
  exact of_decide_eq_true h3
theorem OkL.fine {d : PyData} {ss : List Str} (h : OkL d ss) : FineD d := by
  refine ⟨by rw [h.it, List.length_map]; have := h.le; omega, fun e he => ?_⟩
  rw [h.it] at he
  obtain ⟨s, hs, rfl⟩ := List.mem_map.mp he
  rintro s' e'
  cases e'
  have := wordS_len (h.wd s hs)
  omega
theorem OkL.diff {d : PyData} {ss : List Str} (h : OkL d ss) : diffD none d = true := by
  unfold diffD wordsD
  rw [h.li, h.it, strOf_map, List.length_map]
  have e : (ss.map PyData.str).all wordD = true := by
    rw [List.all_eq_true]
    intro x hx
    obtain ⟨s, hs, rfl⟩ := List.mem_map.mp hx
    exact h.wd s hs
  rw [e, ← dd_lenV (fun x => Iff.rfl) h.nd]
  simp [moreD]
theorem ar_up {K : PySem.W.Frag} {G G1 : Hp} {M M1 : List (Addr × HO)} {v : V} {d : PyData} (h : Ar K G M v d) (s : Same G G1) (t : ∀ u ∈ M, u ∈ M1) : Ar K G1 M1 v d := (h.up s).sub t
section
variable {P : Program} {w : World} {K : PySem.W.Frag} {mg : Str → Option Value} {base : Heap} {f : Addr} {fd : FuncData} {C : Addr}
def OkRole (r : Option Str) : Prop := ∀ s, r = some s → wordS s = true
def spInit (K : PySem.W.Frag) (C : Addr) : Sp := fun vs H Q _ => ∃ x dx G M r m v1 v2 v3 v4 d1 d2 d3 d4, ∃ s1 s2 s3 s4 : List Str, vs = [.ref x, rV r, .int m, v1, v2, v3, v4] ∧ Zp G (M ++ [(x, .ins C dx [])]) H ∧ OkRole r ∧ 1 ≤ m ∧ m ≤ 3 ∧
  (Ar K G M v1 d1 ∧ OkL d1 s1) ∧ (Ar K G M v2 d2 ∧ OkL d2 s2) ∧ (Ar K G M v3 d3 ∧ OkL d3 s3) ∧ (Ar K G M v4 d4 ∧ OkL d4 s4) ∧
  ∀ G1 H1, Zp G1 M H1 → Same G G1 → TkI K G1 C x ⟨r, m, asc s1, asc s2, asc s3, asc s4⟩ → Q .non H1
theorem ok_init (T : Nm K mg) (TC : TaskC K C) (C_is_word : OwnWV P w K mg base) (C_is_within : Own P w K mg base CX0 2 "is_within" ["value", "least", "most"] (spWithin K))
    (C_are_different_words_1 : OwnA P w K mg base CX0 3 "are_different_words" ["value", "most"] [.non] (spDiff K)) (C_ascendingA : Own P w K mg base CX0 1 "ascending" ["words"] (spAscA K))
    {kws : List (Str × V)} (F : FunD K "__init__" "Task.__init__" (defArgs s_Task_init) (defBody s_Task_init) (defScope s_Task_init) [.non] kws f fd) :
    FnOk P w K mg base CX0 4 f fd ["self", "role", "many", "other", "same", "takes", "forgets"] (spInit K C) := by
  have nd : N_Task_init.Nodup := sc_Task_init.nd
  refine F.ok sc_Task_init (fun vs H Q E h => ?_) (fun cdv A outer s H vs Q E hr h => ?_)
  · obtain ⟨x, dx, G, M, r, m, v1, v2, v3, v4, d1, d2, d3, d4, s1, s2, s3, s4, rfl, _⟩ := h
    rfl
  have hu := hr.units
  refine ⟨_, PSs.nox   (pss_cons (ps_if (PW.pt (pw_and (pt_cmpR o_notN (pv 1) pe_non (nomark _)) (pw_and1 (pt_not (pt_val (pe_own C_is_word (hr.mono (by omega)) (by rfl) pass0 (pa_cons (pv 1) pa_nil))))))) (pss_one ps_never) pss_nil)
    (pss_cons (ps_if (pt_not (pt_val (pe_own C_is_within (hr.mono (by omega)) (by rfl) pass0 (pa_cons (pv 2) (pa_cons pe_int (pa_cons (pe_gC T.g_MANY (by rfl)) pa_nil)))))) (pss_one ps_never) pss_nil)
    (pss_cons (ps_for PassesOwn.never rfl (k_tup (K := K) (pe_tup (pa_cons (pe_tup (pa_cons pe_str (pa_cons (pv 3) pa_nil))) (pa_cons (pe_tup (pa_cons pe_str (pa_cons (pv 4) pa_nil))) (pa_cons (pe_tup (pa_cons pe_str (pa_cons (pv 5) pa_nil))) (pa_cons (pe_tup (pa_cons pe_str (pa_cons (pv 6) pa_nil))) pa_nil)))))) (kg_tup (K := K) (n := 2) rfl (pgs_cons (pg_name (i := 7) nd rfl (by first | exact .inl rfl | exact .inr rfl)) (pgs_cons (pg_name (i := 8) nd rfl (by first | exact .inl rfl | exact .inr rfl)) pgs_nil))) (pss_one (ps_if (pt_not (pt_val (pe_ownA C_are_different_words_1 (hr.mono (by decide)) (by rfl) pass0 (pa_cons (pv 8) pa_nil)))) (pss_one ps_never) pss_nil)))
    (pss_cons (ps_fld (pv 0) (pv 1) rfl)
    (pss_cons (ps_fld (pv 0) (pv 2) rfl)
    (pss_cons (ps_fld (pv 0) (pe_own C_ascendingA (hr.mono (by omega)) (by rfl) pass0 (pa_cons (pv 3) pa_nil)) rfl)
    (pss_cons (ps_fld (pv 0) (pe_own C_ascendingA (hr.mono (by omega)) (by rfl) pass0 (pa_cons (pv 4) pa_nil)) rfl)
    (pss_cons (ps_fld (pv 0) (pe_own C_ascendingA (hr.mono (by omega)) (by rfl) pass0 (pa_cons (pv 5) pa_nil)) rfl)
    (pss_one (ps_fld (pv 0) (pe_own C_ascendingA (hr.mono (by omega)) (by rfl) pass0 (pa_cons (pv 6) pa_nil)) rfl)))))))))), ?_⟩
  obtain ⟨x, dx, G, M, r, m, v1, v2, v3, v4, d1, d2, d3, d4, ss1, ss2, ss3, ss4, rfl, z, hr1, hm1, hm2, ⟨a1, o1⟩, ⟨a2, o2⟩, ⟨a3, o3⟩, ⟨a4, o4⟩, q⟩ := h
  have up : ∀ {G : Hp} {v : V} {d : PyData}, Ar K G M v d → Ar K G (M ++ [(x, .ins C dx [])]) v d := fun h => h.sub fun u hu => List.mem_append_left _ hu
  have up2 : ∀ (fs : List (Str × V)), ∀ u ∈ M, u ∈ M ++ [(x, HO.ins C dx fs)] := fun fs u hu => List.mem_append_left _ hu
  with_reducible refine z_cut (fun σ H1 => ∃ G1, Zp G1 (M ++ [(x, .ins C dx [])]) H1 ∧ Same G G1 ∧ σ = L2.start N_Task_init [.ref x, rV r, .int m, v1, v2, v3, v4]) (fun nx hnx => ?_) (fun σ H1 h1 => ?_)
  · repeat (walk_at "z")
    refine z_nN ?_
    repeat (walk_at "z")
    cases r with
    | none =>
      rw [show decide (rV none = V.non) = true from rfl]
      repeat (walk_at "z")
      exact hnx _ _ ⟨G, z, Same.refl G, rfl⟩
    | some rs =>
      rw [show decide (rV (some rs) = V.non) = false from rfl]
      repeat (walk_at "z")
      have hw := hr1 rs rfl
      refine ⟨G, _, .str rs, .str rs, rfl, z, .str rs, ?_, fun G1 H1 z1 s1 => ?_⟩
      · rintro s' e'
        cases e'
        have := wordS_len hw
        omega
      rw [show wordD (.str rs) = true from hw]
      repeat (walk_at "z")
      exact hnx _ _ ⟨G1, z1, s1, rfl⟩
  obtain ⟨G1, z1, s1, rfl⟩ := h1
  with_reducible refine z_cut (fun σ H2 => H2 = H1 ∧ σ = L2.start N_Task_init [.ref x, rV r, .int m, v1, v2, v3, v4]) (fun nx hnx => ?_) (fun σ H2 h2 => ?_)
  · repeat (walk_at "z")
    refine ⟨G1, _, _, .int m, 1, 3, rfl, z1, .int m, ?_⟩
    repeat (walk_at "z")
    rw [show withinD 1 3 (.int m) = true by show (decide (1 ≤ m) && decide (m ≤ 3)) = true; rw [decide_eq_true hm1, decide_eq_true hm2]; rfl]
    repeat (walk_at "z")
    exact hnx _ _ ⟨rfl, rfl⟩
  obtain ⟨rfl, rfl⟩ := h2
  with_reducible refine z_cut (fun σ H3 => ∃ G2 k7 k8, Zp G2 (M ++ [(x, .ins C dx [])]) H3 ∧ Same G1 G2 ∧ σ = [some (.ref x), some (rV r), some (.int m), some v1, some v2, some v3, some v4, k7, k8]) (fun nx hnx => ?_) (fun σ H3 h3 => ?_)
  · repeat (walk_at "z")
    refine z_newT z1 (by simp) fun p2 G2 H2 z2 s2 e2 => ?_
    repeat (walk_at "z")
    refine z_newT z2 (by simp) fun p3 G3 H3 z3 s3 e3 => ?_
    repeat (walk_at "z")
    refine z_newT z3 (by simp) fun p4 G4 H4 z4 s4 e4 => ?_
    repeat (walk_at "z")
    refine z_newT z4 (by simp) fun p5 G5 H5 z5 s5 e5 => ?_
    repeat (walk_at "z")
    refine z_newT z5 (by simp) fun p6 G6 H6 z6 s6 e6 => ?_
    repeat (walk_at "z")
    refine z_itT z6 (SqT.of e6) ?_
    have t0 : Same G G6 := s1.trans (s2.trans (s3.trans (s4.trans (s5.trans s6))))
    refine for_src src_T (fun i σ G' M' => ∃ k7 k8, M' = M ++ [(x, .ins C dx [])] ∧ Same G6 G' ∧ σ = [some (.ref x), some (rV r), some (.int m), some v1, some v2, some v3, some v4, k7, k8]) z6 ⟨_, _, rfl, Same.refl _, rfl⟩
      (fun i σ G' M' H' ⟨_, _, _, s', _⟩ z' => z'.seqT (upT s' (SqT.of e6))) ?_ ?_
    · rintro i x1 σ G' M' H' hx ⟨k7, k8, rfl, s', rfl⟩ z'
      have hmem : x1 ∈ [V.ref p2, V.ref p3, V.ref p4, V.ref p5] := List.mem_of_getElem? hx
      obtain ⟨pp, fl, v, d, ss, rfl, hp, ha, ho⟩ : ∃ pp, ∃ fl : Str, ∃ v d ss, x1 = .ref pp ∧ G6 pp = some (.tup [.str fl, v]) ∧ Ar K G M v d ∧ OkL d ss := by
        simp at hmem
        rcases hmem with rfl | rfl | rfl | rfl
        · exact ⟨p2, _, v1, d1, ss1, rfl, s6 _ _ (s5 _ _ (s4 _ _ (s3 _ _ e2))), a1, o1⟩
        · exact ⟨p3, _, v2, d2, ss2, rfl, s6 _ _ (s5 _ _ (s4 _ _ e3)), a2, o2⟩
        · exact ⟨p4, _, v3, d3, ss3, rfl, s6 _ _ (s5 _ _ e4), a3, o3⟩
        · exact ⟨p5, _, v4, d4, ss4, rfl, s6 _ _ e5, a4, o4⟩
      refine z_gtup z' (SqT.of (s' _ _ hp)) rfl ?_
      repeat (walk_at "z")
      refine ⟨G', _, v, d, none, rfl, z', up (ha.up (t0.trans s')), ho.fine, fun G7 H7 z7 s7 => ?_⟩
      repeat (walk_at "z")
      rw [ho.diff]
      repeat (walk_at "z")
      exact ⟨G7, _, z7, _, _, rfl, s'.trans s7, rfl⟩
    · rintro σ G' M' H' ⟨k7, k8, rfl, s', rfl⟩ z'
      exact hnx _ _ ⟨G', k7, k8, z', s2.trans (s3.trans (s4.trans (s5.trans (s6.trans s')))), rfl⟩
  obtain ⟨G2, k7, k8, z2, s2, rfl⟩ := h3
  have s12 := s1.trans s2
  repeat (walk_at "z")
  refine z_fsL z2 TC.cl TC.n1 (by decide) fun H4 z4 => ?_
  repeat (walk_at "z")
  refine z_fsL z4 TC.cl TC.n2 (by repeat (first | decide | refine putF_lt ?_)) fun H5 z5 => ?_
  repeat (walk_at "z")
  refine ⟨G2, _, v1, d1, ss1, rfl, z5, ar_up a1 s12 (up2 _), o1.li, o1.it, by have := o1.le; omega, fun p6 G6 H6 z6 s6 h6 => ?_⟩
  repeat (walk_at "z")
  refine z_fsL z6 TC.cl TC.n3 (by repeat (first | decide | refine putF_lt ?_)) fun H7 z7 => ?_
  repeat (walk_at "z")
  refine ⟨G6, _, v2, d2, ss2, rfl, z7, ar_up a2 (s12.trans s6) (up2 _), o2.li, o2.it, by have := o2.le; omega, fun p8 G8 H8 z8 s8 h8 => ?_⟩
  repeat (walk_at "z")
  refine z_fsL z8 TC.cl TC.n4 (by repeat (first | decide | refine putF_lt ?_)) fun H9 z9 => ?_
  repeat (walk_at "z")
  refine ⟨G8, _, v3, d3, ss3, rfl, z9, ar_up a3 (s12.trans (s6.trans s8)) (up2 _), o3.li, o3.it, by have := o3.le; omega, fun p10 G10 H10 z10 s10 h10 => ?_⟩
  repeat (walk_at "z")
  refine z_fsL z10 TC.cl TC.n5 (by repeat (first | decide | refine putF_lt ?_)) fun H11 z11 => ?_
  repeat (walk_at "z")
  refine ⟨G10, _, v4, d4, ss4, rfl, z11, ar_up a4 (s12.trans (s6.trans (s8.trans s10))) (up2 _), o4.li, o4.it, by have := o4.le; omega, fun p12 G12 H12 z12 s12' h12 => ?_⟩
  repeat (walk_at "z")
  refine z_fsL z12 TC.cl TC.n6 (by repeat (first | decide | refine putF_lt ?_)) fun H13 z13 => ?_
  have fr : G12 x = none := (z13.own M.length _ _ last_at).2
  have sN := Same.new (o := HO.ins C dx (tfs ⟨r, m, asc ss1, asc ss2, asc ss3, asc ss4⟩ p6 p8 p10 p12)) fr
  refine q _ _ z13.fix (s12.trans (s6.trans (s8.trans (s10.trans (s12'.trans sN))))) ⟨dx, p6, p8, p10, p12, upd_same, upT (s8.trans (s10.trans (s12'.trans sN))) h6, upT (s10.trans (s12'.trans sN)) h8, upT (s12'.trans sN) h10, upT sN h12⟩
end
end LW
namespace LW
open PySem PySem.Spec PyProof.Rows L2 Ys

def strsP (l : List Str) : PyData := .tuple (l.map PyData.str)
def likeP (t : TkD) : PyData := .tuple [rP t.role, .int t.many, .tuple [strsP t.l1, strsP t.l2, strsP t.l3, strsP t.l4]]
def plainP (t : TkD) : PyData := .tuple [rP t.role, .int t.many, strsP t.l1, strsP t.l2, strsP t.l3, strsP t.l4]
structure GoodL (l : List Str) : Prop where
  wd : ∀ s ∈ l, wordS s = true
  le : l.length ≤ 60
structure GoodT (t : TkD) : Prop where
  ro : OkRole t.role
  g1 : GoodL t.l1
  g2 : GoodL t.l2
  g3 : GoodL t.l3
  g4 : GoodL t.l4
theorem wordS_lt {s : Str} (h : wordS s = true) : Lt s := fun c hc => by
  obtain ⟨_, h2⟩ := Bool.and_eq_true_iff.mp h
  obtain ⟨_, h3⟩ := Bool.and_eq_true_iff.mp h2
  exact abc_mem (of_decide_eq_true (List.all_eq_true.mp h3 c hc))
theorem wd_word {s : Str} (h : Wd s) : wordS s = true := by
  unfold wordS
  rw [decide_eq_true h.1, decide_eq_true h.2.1]
  show s.cps.toList.all _ = true
  rw [List.all_eq_true]
  intro c hc
  refine decide_eq_true ?_
  have := h.2.2 c hc
  have e : abcL = (List.range 26).map (· + 97) := by decide +kernel
  rw [e, List.mem_map]
  exact ⟨c - 97, List.mem_range.mpr (by omega), by omega⟩
structure Fin (d : PyData) (n : Nat) : Prop where
  cl : d.canLay0 = true
  dp : d.depth ≤ n
theorem Fin.sh {d : PyData} {n : Nat} (h : Fin d n) (hn : n ≤ 60) : SeqAt.shaped d = true := by
  unfold SeqAt.shaped
  rw [h.cl]
  have := h.dp
  simp
  omega
theorem fin_all {n : Nat} : ∀ {ds : List PyData}, (∀ d ∈ ds, Fin d n) → PyData.canLayAll0 ds = true ∧ PyData.depthAll ds ≤ n
  | [], _ => ⟨rfl, Nat.zero_le _⟩
  | d :: ds, h => by
    obtain ⟨h1, h2⟩ := fin_all (ds := ds) fun e he => h e (List.mem_cons_of_mem _ he)
    have h0 := h d (List.mem_cons_self ..)
    refine ⟨?_, ?_⟩
    · show (d.canLay0 && PyData.canLayAll0 ds) = true
      rw [h0.cl, h1]
      rfl
    · show max d.depth (PyData.depthAll ds) ≤ n
      have := h0.dp
      omega
theorem fin_tup {n : Nat} {ds : List PyData} (h : ∀ d ∈ ds, Fin d n) : Fin (.tuple ds) (n + 1) := ⟨(fin_all h).1, Nat.succ_le_succ (fin_all h).2⟩
theorem fin_mono {n m : Nat} {d : PyData} (h : Fin d n) (hn : n ≤ m) : Fin d m := ⟨h.cl, Nat.le_trans h.dp hn⟩
theorem fin_str {s : Str} (h : wordS s = true) : Fin (.str s) 0 := ⟨(wordS_lt h).ok, Nat.zero_le _⟩
theorem fin_int (i : Int) : Fin (.int i) 0 := ⟨rfl, Nat.zero_le _⟩
theorem fin_role {r : Option Str} (h : OkRole r) : Fin (rP r) 0 := by
  cases r with
  | none => exact ⟨rfl, Nat.zero_le _⟩
  | some s => exact fin_str (h s rfl)
theorem fin_strs {l : List Str} (h : GoodL l) : Fin (strsP l) 1 := fin_tup fun d hd => by
  obtain ⟨s, hs, rfl⟩ := List.mem_map.mp hd
  exact fin_str (h.wd s hs)
theorem fin_like {t : TkD} (h : GoodT t) : Fin (likeP t) 3 := by
  refine fin_tup (n := 2) fun d hd => ?_
  rcases List.mem_cons.mp hd with rfl | hd
  · exact fin_mono (fin_role h.ro) (by decide)
  rcases List.mem_cons.mp hd with rfl | hd
  · exact fin_mono (fin_int _) (by decide)
  rcases List.mem_cons.mp hd with rfl | hd
  · refine fin_tup (n := 1) fun d hd => ?_
    rcases List.mem_cons.mp hd with rfl | hd
    · exact fin_strs h.g1
    rcases List.mem_cons.mp hd with rfl | hd
    · exact fin_strs h.g2
    rcases List.mem_cons.mp hd with rfl | hd
    · exact fin_strs h.g3
    rcases List.mem_cons.mp hd with rfl | hd
    · exact fin_strs h.g4
    · cases hd
  · cases hd
theorem fin_plain {t : TkD} (h : GoodT t) : Fin (plainP t) 2 := by
  refine fin_tup (n := 1) fun d hd => ?_
  rcases List.mem_cons.mp hd with rfl | hd
  · exact fin_mono (fin_role h.ro) (by decide)
  rcases List.mem_cons.mp hd with rfl | hd
  · exact fin_mono (fin_int _) (by decide)
  rcases List.mem_cons.mp hd with rfl | hd
  · exact fin_strs h.g1
  rcases List.mem_cons.mp hd with rfl | hd
  · exact fin_strs h.g2
  rcases List.mem_cons.mp hd with rfl | hd
  · exact fin_strs h.g3
  rcases List.mem_cons.mp hd with rfl | hd
  · exact fin_strs h.g4
  · cases hd
structure TaskT (K : PySem.W.Frag) (C : Addr) : Prop where
  cl : Cls K C
  ha : PySem.W.findIn K (.ref C) "__class__" = some (some (.builtin "object.__class__"))
  hn : PySem.W.specialIn K (.builtin "object.__class__") "__get__" = some (some (.builtin "getset_descriptor.__get__"))
  ht : PySem.W.takesIn K (.builtin "object.__class__") = some true
  hm : PySem.W.mroIn K C (.type "object") = some true
  own : ((PySem.W.clsIn K C).isSome && PySem.W.typeIn K (.ref C) == some (.type "type")) = true
theorem TaskT.ty {K : PySem.W.Frag} {C : Addr} (h : TaskT K C) {H : Hp} {a dx : Addr} {fs : List (Str × V)} (e : H a = some (.ins C dx fs)) : TyX K H (.ref a) (.ref C) := .base (.ins e h.cl h.ha h.hn h.ht h.hm)
theorem TkI.obj {K : PySem.W.Frag} {G : Hp} {C a : Addr} {t : TkD} (h : TkI K G C a t) : ∃ dx fs, G a = some (.ins C dx fs) := let ⟨dx, t1, t2, t3, t4, h0, _⟩ := h; ⟨dx, _, h0⟩
section
variable {P : Program} {w : World} {K : PySem.W.Frag} {mg : Str → Option Value} {base : Heap} {f : Addr} {fd : FuncData} {C : Addr}
def spGet (x : Str) (C : Addr) : Sp := fun vs H Q _ => ∃ a dx fs v, vs = [.ref a] ∧ H a = some (.ins C dx fs) ∧ fs.lookup x = some v ∧ Q v H

theorem ok_g1 (TC : TaskC K C) (F : FunD K "role" "Task.role" (defArgs s_Task_role) (defBody s_Task_role) (defScope s_Task_role) [] [] f fd) : FnOk P w K mg base CX0 1 f fd ["self"] (spGet "own_role" C) := by
  have nd : N_Task_role.Nodup := sc_Task_role.nd
  refine F.ok sc_Task_role (fun vs H Q E h => ?_) (fun cdv A outer s H vs Q E hr h => ?_)
  · obtain ⟨a, dx, fs, v, rfl, _⟩ := h
    rfl
  have hu := hr.units
  refine ⟨_, PSs.nox   (pss_one (ps_ret (k_fld (K := K) (pv 0) rfl))), ?_⟩
  obtain ⟨a, dx, fs, v, rfl, ha, l, q⟩ := h
  repeat (walk_at "z")
  exact ⟨a, C, dx, fs, v, rfl, ha, TC.cl, TC.n1, l, q⟩

theorem ok_g2 (TC : TaskC K C) (F : FunD K "many" "Task.many" (defArgs s_Task_many) (defBody s_Task_many) (defScope s_Task_many) [] [] f fd) : FnOk P w K mg base CX0 1 f fd ["self"] (spGet "own_many" C) := by
  have nd : N_Task_many.Nodup := sc_Task_many.nd
  refine F.ok sc_Task_many (fun vs H Q E h => ?_) (fun cdv A outer s H vs Q E hr h => ?_)
  · obtain ⟨a, dx, fs, v, rfl, _⟩ := h
    rfl
  have hu := hr.units
  refine ⟨_, PSs.nox   (pss_one (ps_ret (k_fld (K := K) (pv 0) rfl))), ?_⟩
  obtain ⟨a, dx, fs, v, rfl, ha, l, q⟩ := h
  repeat (walk_at "z")
  exact ⟨a, C, dx, fs, v, rfl, ha, TC.cl, TC.n2, l, q⟩

theorem ok_g3 (TC : TaskC K C) (F : FunD K "other" "Task.other" (defArgs s_Task_other) (defBody s_Task_other) (defScope s_Task_other) [] [] f fd) : FnOk P w K mg base CX0 1 f fd ["self"] (spGet "own_other" C) := by
  have nd : N_Task_other.Nodup := sc_Task_other.nd
  refine F.ok sc_Task_other (fun vs H Q E h => ?_) (fun cdv A outer s H vs Q E hr h => ?_)
  · obtain ⟨a, dx, fs, v, rfl, _⟩ := h
    rfl
  have hu := hr.units
  refine ⟨_, PSs.nox   (pss_one (ps_ret (k_fld (K := K) (pv 0) rfl))), ?_⟩
  obtain ⟨a, dx, fs, v, rfl, ha, l, q⟩ := h
  repeat (walk_at "z")
  exact ⟨a, C, dx, fs, v, rfl, ha, TC.cl, TC.n3, l, q⟩

theorem ok_g4 (TC : TaskC K C) (F : FunD K "same" "Task.same" (defArgs s_Task_same) (defBody s_Task_same) (defScope s_Task_same) [] [] f fd) : FnOk P w K mg base CX0 1 f fd ["self"] (spGet "own_same" C) := by
  have nd : N_Task_same.Nodup := sc_Task_same.nd
  refine F.ok sc_Task_same (fun vs H Q E h => ?_) (fun cdv A outer s H vs Q E hr h => ?_)
  · obtain ⟨a, dx, fs, v, rfl, _⟩ := h
    rfl
  have hu := hr.units
  refine ⟨_, PSs.nox   (pss_one (ps_ret (k_fld (K := K) (pv 0) rfl))), ?_⟩
  obtain ⟨a, dx, fs, v, rfl, ha, l, q⟩ := h
  repeat (walk_at "z")
  exact ⟨a, C, dx, fs, v, rfl, ha, TC.cl, TC.n4, l, q⟩

theorem ok_g5 (TC : TaskC K C) (F : FunD K "takes" "Task.takes" (defArgs s_Task_takes) (defBody s_Task_takes) (defScope s_Task_takes) [] [] f fd) : FnOk P w K mg base CX0 1 f fd ["self"] (spGet "own_takes" C) := by
  have nd : N_Task_takes.Nodup := sc_Task_takes.nd
  refine F.ok sc_Task_takes (fun vs H Q E h => ?_) (fun cdv A outer s H vs Q E hr h => ?_)
  · obtain ⟨a, dx, fs, v, rfl, _⟩ := h
    rfl
  have hu := hr.units
  refine ⟨_, PSs.nox   (pss_one (ps_ret (k_fld (K := K) (pv 0) rfl))), ?_⟩
  obtain ⟨a, dx, fs, v, rfl, ha, l, q⟩ := h
  repeat (walk_at "z")
  exact ⟨a, C, dx, fs, v, rfl, ha, TC.cl, TC.n5, l, q⟩

theorem ok_g6 (TC : TaskC K C) (F : FunD K "forgets" "Task.forgets" (defArgs s_Task_forgets) (defBody s_Task_forgets) (defScope s_Task_forgets) [] [] f fd) : FnOk P w K mg base CX0 1 f fd ["self"] (spGet "own_forgets" C) := by
  have nd : N_Task_forgets.Nodup := sc_Task_forgets.nd
  refine F.ok sc_Task_forgets (fun vs H Q E h => ?_) (fun cdv A outer s H vs Q E hr h => ?_)
  · obtain ⟨a, dx, fs, v, rfl, _⟩ := h
    rfl
  have hu := hr.units
  refine ⟨_, PSs.nox   (pss_one (ps_ret (k_fld (K := K) (pv 0) rfl))), ?_⟩
  obtain ⟨a, dx, fs, v, rfl, ha, l, q⟩ := h
  repeat (walk_at "z")
  exact ⟨a, C, dx, fs, v, rfl, ha, TC.cl, TC.n6, l, q⟩

def spLike (K : PySem.W.Frag) (C : Addr) : Sp := fun vs H Q _ => ∃ G M a t, vs = [.ref a] ∧ Zp G M H ∧ TkI K G C a t ∧ ∀ p G1 H1, Zp G1 M H1 → Same G G1 → Dt K G1 (.ref p) (likeP t) → Q (.ref p) H1
theorem ok_like (TC : TaskC K C) (F : FunD K "likeness" "Task.likeness" (defArgs s_Task_likeness) (defBody s_Task_likeness) (defScope s_Task_likeness) [] [] f fd) : FnOk P w K mg base CX0 1 f fd ["self"] (spLike K C) := by
  have nd : N_Task_likeness.Nodup := sc_Task_likeness.nd
  refine F.ok sc_Task_likeness (fun vs H Q E h => ?_) (fun cdv A outer s H vs Q E hr h => ?_)
  · obtain ⟨G, M, a, t, rfl, _⟩ := h
    rfl
  have hu := hr.units
  refine ⟨_, PSs.nox   (pss_cons (ps_asg (pe_tup (pa_cons (k_fld (K := K) (pv 0) rfl) (pa_cons (k_fld (K := K) (pv 0) rfl) (pa_cons (k_fld (K := K) (pv 0) rfl) (pa_cons (k_fld (K := K) (pv 0) rfl) pa_nil))))) (pg_name (i := 1) nd rfl (by first | exact .inl rfl | exact .inr rfl)))
    (pss_one (ps_ret (pe_tup (pa_cons (k_fld (K := K) (pv 0) rfl) (pa_cons (k_fld (K := K) (pv 0) rfl) (pa_cons (pv 1) pa_nil))))))), ?_⟩
  obtain ⟨G, M, a, t, rfl, z, ⟨dx, t1, t2, t3, t4, h0, h1, h2, h3, h4⟩, q⟩ := h
  repeat (walk_at "z")
  refine z_flI z h0 TC.cl TC.n3 (by rfl) ?_
  repeat (walk_at "z")
  refine z_flI z h0 TC.cl TC.n4 (by rfl) ?_
  repeat (walk_at "z")
  refine z_flI z h0 TC.cl TC.n5 (by rfl) ?_
  repeat (walk_at "z")
  refine z_flI z h0 TC.cl TC.n6 (by rfl) ?_
  repeat (walk_at "z")
  refine z_newT z (by simp) fun p1 G1 H1 z1 s1 e1 => ?_
  repeat (walk_at "z")
  refine z_flI z1 (s1 _ _ h0) TC.cl TC.n1 (by rfl) ?_
  repeat (walk_at "z")
  refine z_flI z1 (s1 _ _ h0) TC.cl TC.n2 (by rfl) ?_
  repeat (walk_at "z")
  refine z_newT z1 (by simp) fun p2 G2 H2 z2 s2 e2 => ?_
  have s12 := s1.trans s2
  exact q p2 G2 _ z2 s12 (.tup (SqT.of e2) (.cons (rDt _) (.cons (.int _) (.cons (.tup (SqT.of (s2 _ _ e1)) (.cons (.tup (upT s12 h1) (dts_str _)) (.cons (.tup (upT s12 h2) (dts_str _)) (.cons (.tup (upT s12 h3) (dts_str _)) (.cons (.tup (upT s12 h4) (dts_str _)) .nil))))) .nil))))
def spEqT (K : PySem.W.Frag) (C : Addr) : Sp := fun vs H Q _ => ∃ G M a t v, vs = [.ref a, v] ∧ Zp G M H ∧ TkI K G C a t ∧ GoodT t ∧
  ((∃ b u, v = .ref b ∧ TkI K G C b u ∧ GoodT u ∧ ∀ G1 H1, Zp G1 M H1 → Same G G1 → Q (.bl (PyData.eqv (likeP t) (likeP u))) H1) ∨ ∃ d, Dt K G v d ∧ Q (.bl false) H)
theorem sub_own (K : PySem.W.Frag) (C : Addr) (d : PyData) : PySem.W.subIn K (.type (tyD d)) (.ref C) = some false := by
  have go : ∀ (T : String) (l : List Value), fastBuiltinMro T = some l → (∀ v ∈ l, ∃ n, v = .type n) → PySem.W.subIn K (.type T) (.ref C) = some false := by
    intro T l e h
    show (fastBuiltinMro T).map (·.contains (.ref C)) = some false
    rw [e]
    show some (l.contains (.ref C)) = some false
    congr 1
    rw [List.contains_eq_any_beq, List.any_eq_false]
    intro v hv
    obtain ⟨n, rfl⟩ := h v hv
    simp
  have h1 : ∀ (a : String), ∀ v ∈ [Value.type a, Value.type "object"], ∃ n, v = .type n := fun a v hv => by
    simp at hv
    rcases hv with rfl | rfl <;> exact ⟨_, rfl⟩
  have h3 : ∀ v ∈ [Value.type "bool", Value.type "int", Value.type "object"], ∃ n, v = .type n := fun v hv => by
    simp at hv
    rcases hv with rfl | rfl | rfl <;> exact ⟨_, rfl⟩
  cases d with
  | none => exact go "NoneType" [.type "NoneType", .type "object"] (by decide +kernel) (h1 _)
  | bool _ => exact go "bool" [.type "bool", .type "int", .type "object"] (by decide +kernel) h3
  | int _ => exact go "int" [.type "int", .type "object"] (by decide +kernel) (h1 _)
  | str _ => exact go "str" [.type "str", .type "object"] (by decide +kernel) (h1 _)
  | list _ => exact go "list" [.type "list", .type "object"] (by decide +kernel) (h1 _)
  | tuple _ => exact go "tuple" [.type "tuple", .type "object"] (by decide +kernel) (h1 _)
  | dict _ => exact go "dict" [.type "dict", .type "object"] (by decide +kernel) (h1 _)
theorem kit_own {K : PySem.W.Frag} {C : Addr} (h : ((PySem.W.clsIn K C).isSome && PySem.W.typeIn K (.ref C) == some (.type "type")) = true) (d : PyData) : PySem.W.kitOne K (.type (tyD d)) (.ref C) = some false := by
  show (if (Value.type (tyD d) == Value.ref C) = true then some true else (if ((PySem.W.clsIn K C).isSome && PySem.W.typeIn K (.ref C) == some (.type "type")) = true then PySem.W.subIn K (.type (tyD d)) (.ref C) else none)) = some false
  rw [if_neg (by simp), if_pos h, sub_own]
theorem nf_own (K : PySem.W.Frag) (C : Addr) (d : PyData) : PySem.W.notFirst K C (.type (tyD d)) = true := by
  unfold PySem.W.notFirst
  rw [sub_own]
  simp
theorem ok_eq (T : Nm K mg) (TT : TaskT K C) (g_Task : mg "Task" = some (.ref C)) (M_likeness : Mth P w K mg base CX0 1 C "likeness" ["self"] [] (spLike K C)) (F : FunD K "__eq__" "Task.__eq__" (defArgs s_Task_eq) (defBody s_Task_eq) (defScope s_Task_eq) [] [] f fd) :
    FnOk P w K mg base CX0 2 f fd ["self", "other"] (spEqT K C) := by
  have nd : N_Task_eq.Nodup := sc_Task_eq.nd
  refine F.ok sc_Task_eq (fun vs H Q E h => ?_) (fun cdv A outer s H vs Q E hr h => ?_)
  · obtain ⟨G, M, a, t, v, rfl, _⟩ := h
    rfl
  have hu := hr.units
  refine ⟨_, PSs.nox   (pss_one (ps_ret (pe_and (pe_callB (kc_isi (K := K)) (by rfl) T.b_isinstance boot_isinstance (pa_cons (pv 1) (pa_cons (pe_glob (v := .ref C) (by rfl) g_Task rfl) pa_nil))) (pe_one (pe_cmpR (k_eq (K := K) hu) (pe_mt0 M_likeness (hr.mono (by omega)) pass0 (pv 0)) (pe_mt0 M_likeness (hr.mono (by omega)) pass0 (pv 1)) (nomark _)))))), ?_⟩
  obtain ⟨G, M, a, t, v, rfl, z, ht, gt, h⟩ := h
  obtain ⟨da, fa, ea⟩ := ht.obj
  rcases h with ⟨b, u, rfl, hu2, gu, q⟩ | ⟨d, hd, q⟩
  · obtain ⟨db, fb, eb⟩ := hu2.obj
    repeat (walk_at "z")
    refine z_isi (.own C) (TT.ty (z.sub _ _ eb)) (if_pos (by simp)) ?_
    repeat (walk_at "z")
    obtain ⟨dx, t1, t2, t3, t4, h0, _⟩ := ht
    refine z_mtI z h0 (by rfl) ?_
    repeat (walk_at "z")
    refine ⟨G, M, a, t, rfl, z, ⟨dx, t1, t2, t3, t4, h0, ‹_›⟩, fun p1 G1 H1 z1 s1 e1 => ?_⟩
    repeat (walk_at "z")
    obtain ⟨dy, u1, u2, u3, u4, k0, k1⟩ := hu2
    refine z_mtI z1 (s1 _ _ k0) (by rfl) ?_
    repeat (walk_at "z")
    refine ⟨G1, M, b, u, rfl, z1, TkI.up s1 ⟨dy, u1, u2, u3, u4, k0, k1⟩, fun p2 G2 H2 z2 s2 e2 => ?_⟩
    repeat (walk_at "z")
    refine z_eqD z2 (e1.up s2) e2 ((fin_like gt).sh (by decide)) ((fin_like gu).sh (by decide)) ?_
    exact q G2 _ z2 (s1.trans s2)
  · repeat (walk_at "z")
    refine z_isi (.own C) (hd.up z.sub).ty (kit_own TT.own d) ?_
    repeat (walk_at "z")
    exact q
end
end LW
namespace LW
open PySem PySem.Spec PyProof.Rows L2 Ys

/-! ### kinds and tasks, in dicts that stay -/
def Kds (K : PySem.W.Frag) (G : Hp) : List (Key × V) → List (Str × List Str) → Prop := Paired fun p q => p.1 = .inr q.1 ∧ ∃ d, Dt K G p.2 d ∧ listD d = true ∧ itemsD d = q.2.map PyData.str
def Tks (K : PySem.W.Frag) (G : Hp) (C : Addr) : List (Key × V) → List (Str × TkD) → Prop := Paired fun p q => p.1 = .inr q.1 ∧ ∃ a, p.2 = .ref a ∧ TkI K G C a q.2
theorem Kds.up {K : PySem.W.Frag} {G G1 : Hp} {kvs kn} (h : Kds K G kvs kn) (s : Same G G1) : Kds K G1 kvs kn := L2.Paired.mapP h fun _ _ ⟨e, d, h1, h2⟩ => ⟨e, d, h1.up s, h2⟩
theorem Tks.up {K : PySem.W.Frag} {G G1 : Hp} {C : Addr} {kvs tn} (h : Tks K G C kvs tn) (s : Same G G1) : Tks K G1 C kvs tn := L2.Paired.mapP h fun _ _ ⟨e, a, h1, h2⟩ => ⟨e, a, h1, h2.up s⟩
theorem paired_keys {β : Type} {R : Key × V → Str × β → Prop} (hR : ∀ p q, R p q → p.1 = .inr q.1) : ∀ {kvs : List (Key × V)} {kn : List (Str × β)}, Paired R kvs kn → kvs.map (·.1) = (kn.map (·.1)).map .inr
  | _, _, .nil => rfl
  | _, _, .cons h t => by
    rw [List.map_cons, List.map_cons, List.map_cons, hR _ _ h, paired_keys hR t]
theorem Kds.keys {K : PySem.W.Frag} {G : Hp} {kvs kn} (h : Kds K G kvs kn) : kvs.map (·.1) = (kn.map (·.1)).map .inr := paired_keys (fun _ _ h => h.1) h
theorem Tks.keys {K : PySem.W.Frag} {G : Hp} {C : Addr} {kvs tn} (h : Tks K G C kvs tn) : kvs.map (·.1) = (tn.map (·.1)).map .inr := paired_keys (fun _ _ h => h.1) h
theorem inr_nodup : ∀ {ks : List Str}, ks.Nodup → (ks.map (fun k => (Sum.inr k : Key))).Nodup := fun h => h.map _ fun a b n e => n (Sum.inr.inj e)
theorem keys_len {α β : Type} {R : α → β → Prop} : ∀ {xs : List α} {ys : List β}, Paired R xs ys → xs.length = ys.length := fun h => Paired.length h
structure GoodK (kn : List (Str × List Str)) : Prop where
  l1 : 1 ≤ kn.length
  l3 : kn.length ≤ 3
  nd : (kn.map (·.1)).Nodup
  wd : ∀ q ∈ kn, wordS q.1 = true
  rs : ∀ q ∈ kn, q.2.length ≤ 4 ∧ q.2.Nodup ∧ ∀ s ∈ q.2, wordS s = true
structure GoodTs (tn : List (Str × TkD)) : Prop where
  l8 : tn.length ≤ 8
  nd : (tn.map (·.1)).Nodup
  wd : ∀ q ∈ tn, wordS q.1 = true
theorem dd_id : ∀ {l : List Str}, l.Nodup → dd l = l
  | [], _ => rfl
  | x :: r, h => by
    obtain ⟨h1, h2⟩ := List.nodup_cons.mp h
    show (if x ∈ r then dd r else x :: dd r) = _
    rw [if_neg h1, dd_id h2]
theorem diff_true {d : PyData} {ss : List Str} {m : Int} (hl : listD d = true) (hi : itemsD d = ss.map PyData.str) (hm : (ss.length : Int) ≤ m) (nd : ss.Nodup) (hw : ∀ s ∈ ss, wordS s = true) : diffD (some m) d = true := by
  unfold diffD wordsD
  have e1 : (ss.map PyData.str).map strOf = ss := strOf_map ss
  rw [hl, hi, e1, dd_id nd, List.length_map]
  have e2 : (ss.map PyData.str).all wordD = true := by
    rw [List.all_map, List.all_eq_true]
    exact hw
  rw [e2]
  unfold moreD
  simp
  omega
theorem fine_strs {d : PyData} {ss : List Str} (hi : itemsD d = ss.map PyData.str) (hm : ss.length ≤ 500) (hw : ∀ s ∈ ss, wordS s = true) : FineD d := by
  refine ⟨by rw [hi, List.length_map]; exact hm, fun e he => ?_⟩
  rw [hi] at he
  obtain ⟨s, hs, rfl⟩ := List.mem_map.mp he
  rintro s' e'
  cases e'
  have := wordS_len (hw s hs)
  omega
theorem pair_at {α β : Type} {R : α → β → Prop} : ∀ {xs : List α} {ys : List β} {i : Nat}, Paired R xs ys → i < xs.length → ∃ x y, xs[i]? = some x ∧ ys[i]? = some y ∧ R x y
  | _, _, _, .nil, h => absurd h (Nat.not_lt_zero _)
  | _, _, 0, .cons h _, _ => ⟨_, _, rfl, rfl, h⟩
  | _, _, i + 1, .cons _ t, h => pair_at (i := i) t (Nat.lt_of_succ_lt_succ h)
theorem key_at {kvs : List (Key × V)} {i : Nat} {x : V} (hx : (kvs.map (fun p => kV p.1))[i]? = some x) : ∃ p, kvs[i]? = some p ∧ x = kV p.1 := by
  rw [List.getElem?_map] at hx
  obtain ⟨p, h1, h2⟩ := Option.map_eq_some_iff.mp hx
  exact ⟨p, h1, h2.symm⟩
theorem kit_dict : kitB "dict" "dict" = some true := by decide +kernel
theorem all_true : ∀ n : Nat, ((List.replicate n true).map V.bl) = (List.replicate n true).map V.bl := fun _ => rfl
section
variable {P : Program} {w : World} {K : PySem.W.Frag} {mg : Str → Option Value} {base : Heap} {f : Addr} {fd : FuncData} {C : Addr}
def spAscD (K : PySem.W.Frag) : Sp := fun vs H Q _ => ∃ G M d kvs, ∃ ks : List Str, vs = [.ref d] ∧ Zp G M H ∧ FzD G d kvs ∧ kvs.map (·.1) = ks.map .inr ∧ ks.length < 64 ∧
  ∀ p G1 H1, Zp G1 M H1 → Same G G1 → SqT K G1 p ((asc ks).map V.str) → Q (.ref p) H1
theorem ok_ascD (T : Nm K mg) (F : FnP K "ascending" s_ascending f fd) : FnOk P w K mg base CX0 1 f fd ["words"] (spAscD K) := by
  have nd : N_ascending.Nodup := sc_ascending.nd
  refine F.ok sc_ascending (fun vs H Q E h => ?_) (fun cdv A outer s H vs Q E hr h => ?_)
  · obtain ⟨G, M, d, kvs, ks, rfl, _⟩ := h
    rfl
  have hu := hr.units
  refine ⟨_, PSs.nox   (pss_one (ps_ret (pe_callTy (kc_tuple (K := K)) (by rfl) T.b_tuple boot_tuple (pa_cons (pe_callB (kc_sorted (K := K) (P := P) (w := w) rfl) (by rfl) T.b_sorted boot_sorted (pa_cons (pe_callTy (kc_setD (P := P) (w := w) rfl) (by rfl) T.b_set boot_set (pa_cons (pv 0) pa_nil)) pa_nil)) pa_nil)))), ?_⟩
  obtain ⟨G, M, d, kvs, ks, rfl, z, hd, hk, hs, q⟩ := h
  repeat (walk_at "z")
  refine z_setD z hd hk (by omega) fun p l G2 H2 z2 s2 e2 m2 nd2 l2 => ?_
  repeat (walk_at "z")
  refine z_sortX z2 e2 m2 nd2 (by omega) fun p3 G3 H3 z3 s3 e3 => ?_
  repeat (walk_at "z")
  exact z_tupL z3 (SqL.of e3) fun p4 G4 H4 z4 s4 h4 => q p4 G4 H4 z4 ((s2.trans s3).trans s4) h4
def spKinds (K : PySem.W.Frag) : Sp := fun vs H Q _ => ∃ G M d kvs kn, vs = [.ref d] ∧ Zp G M H ∧ FzD G d kvs ∧ Kds K G kvs kn ∧ GoodK kn ∧ ∀ G1 H1, Zp G1 M H1 → Same G G1 → Q (.bl true) H1
theorem ok_are_kinds (T : Nm K mg) (C_is_word : Own P w K mg base CX0 1 "is_word" ["value"] (spWord K)) (C_are_different_words : Own P w K mg base CX0 3 "are_different_words" ["value", "most"] (spDiff K)) (F : FnP K "are_kinds" s_are_kinds f fd) :
    FnOk P w K mg base CX0 4 f fd ["value"] (spKinds K) := by
  have nd : N_are_kinds.Nodup := sc_are_kinds.nd
  refine F.ok sc_are_kinds (fun vs H Q E h => ?_) (fun cdv A outer s H vs Q E hr h => ?_)
  · obtain ⟨G, M, d, kvs, kn, rfl, _⟩ := h
    rfl
  have hu := hr.units
  refine ⟨_, PSs.nox   (pss_cons (ps_if (PW.pt (pw_or (pt_not (pt_val (pe_callB (kc_isi (K := K)) (by rfl) T.b_isinstance boot_isinstance (pa_cons (pv 0) (pa_cons (pe_bltn (v := .ty "dict") (by rfl) T.b_dict boot_dict rfl) pa_nil))))) (pw_or1 (pt_not (pt_chain o_le o_le pe_int (pe_callB c_lenD (by rfl) T.b_len PySem.boot_len (pa_cons (pv 0) pa_nil)) (pe_gC T.g_KINDS (by rfl))))))) (pss_one (ps_ret pe_bl)) pss_nil)
    (pss_one (ps_ret (pe_callB (kc_all (K := K) rfl) (by rfl) T.b_all boot_all (pa_cons (pe_lc (own := [("kind", 1)]) (tt := tYes) rfl nd (pi_keys (pv 0)) (blkOk_by (N := N_are_kinds) (sc := defScope s_are_kinds) (by decide +kernel)) (fun _ _ _ _ _ => (pg_name (i := 1) nd rfl (by first | exact .inl rfl | exact .inr rfl))) (fun _ _ _ _ _ => pts_nil) (fun _ _ _ _ _ => (pe_and (pe_own C_is_word (hr.mono (by omega)) (by rfl) pass0 (pa_cons (pv 1) pa_nil)) (pe_one (pe_own C_are_different_words (hr.mono (by omega)) (by rfl) pass0 (pa_cons (pe_dget (hu_of hr) (pv 0) (pv 1) (fun _ _ => rfl)) (pa_cons (pe_gC T.g_ROLES (by rfl)) pa_nil))))))) pa_nil))))), ?_⟩
  obtain ⟨G, M, d, kvs, kn, rfl, z, hd, hk, gk, q⟩ := h
  obtain ⟨od, hod⟩ := hd
  have hl : kvs.length = kn.length := keys_len hk
  have g1 := gk.l1
  have g3 := gk.l3
  repeat (walk_at "z")
  refine z_isi (.ty "dict") (.fDict (z.sub _ _ hod)) (kit_ty kit_dict) ?_
  repeat (walk_at "z")
  refine z_lenD z ⟨od, hod⟩ ?_
  repeat (walk_at "z")
  refine z_bT' (by rw [hl]; exact decide_eq_true (by omega)) ?_
  repeat (walk_at "z")
  refine z_bT' (by rw [hl]; exact decide_eq_true (by omega)) ?_
  repeat (walk_at "z")
  refine z_itK z hod ?_
  refine lc_src src_K (fun i G' M' acc => M' = M ∧ Same G G' ∧ acc = (List.replicate i true).map V.bl) z ⟨rfl, Same.refl G, rfl⟩ ?_ ?_ ?_
  · rintro i G' M' M1 acc H' ⟨rfl, s1, _⟩ z'
    exact z'.sub _ _ (s1 _ _ hod)
  · rintro i x G2 M2 acc Dl H2 hx ⟨rfl, s2, rfl⟩ z2
    have hi : i < kvs.length := by
      have := (List.getElem?_eq_some_iff.mp hx).1
      simpa using this
    obtain ⟨⟨pk, pv'⟩, ⟨qk, qr⟩, h1, h2, hpk, dd, hdd, hli, hit⟩ := pair_at hk hi
    obtain ⟨p, h3, rfl⟩ := key_at hx
    rw [h1] at h3
    obtain rfl := Option.some.inj h3
    have hpk : pk = .inr qk := hpk
    subst hpk
    have hq := List.mem_of_getElem? h2
    have hit : itemsD dd = qr.map PyData.str := hit
    have r0 : qr.length ≤ 4 ∧ qr.Nodup ∧ ∀ s ∈ qr, wordS s = true := gk.rs _ hq
    obtain ⟨r1, r2, r3⟩ := r0
    have hw : wordS qk = true := gk.wd _ hq
    have hnd : (kvs.map (·.1)).Nodup := by rw [hk.keys]; exact inr_nodup gk.nd
    repeat (walk_at "z")
    refine ⟨by rfl, ?_⟩
    repeat (walk_at "z")
    refine ⟨G2, _, _, .str qk, rfl, z2, .str qk, ?_, fun G3 H3 z3 s3 => ?_⟩
    · rintro s' e'
      cases e'
      have := wordS_len hw
      omega
    rw [show wordD (.str qk) = true from hw]
    repeat (walk_at "z")
    refine z_dgF z3 (FzD.up ⟨od, hod⟩ (s2.trans s3)) (valV_ix hnd h1) ?_
    repeat (walk_at "z")
    refine ⟨G3, _, _, dd, some 4, rfl, z3, .inl (hdd.up (s2.trans s3)), fine_strs hit (by omega) r3, fun G4 H4 z4 s4 => ?_⟩
    rw [diff_true hli hit (by omega) r2 r3]
    refine z_laid z4 (by rw [List.length_map, List.length_replicate]; omega) ⟨rfl, (s2.trans s3).trans s4, ?_⟩
    rw [List.replicate_succ', List.map_append]
    rfl
  · rintro p2 G2 M2 acc G3 H3 ⟨rfl, s2, rfl⟩ s3 z3 e3
    refine z_all z3 (SqL.of e3) ?_
    rw [show (List.replicate (kvs.map (fun p => kV p.1)).length true).all id = true by rw [List.all_eq_true]; intro b hb; exact (List.mem_replicate.mp hb).2]
    exact q G3 H3 z3 (s2.trans s3)
def spTasks (K : PySem.W.Frag) (C : Addr) : Sp := fun vs H Q _ => ∃ G M d kvs tn, vs = [.ref d] ∧ Zp G M H ∧ FzD G d kvs ∧ Tks K G C kvs tn ∧ GoodTs tn ∧ ∀ G1 H1, Zp G1 M H1 → Same G G1 → Q (.bl true) H1
theorem ok_are_tasks (T : Nm K mg) (TT : TaskT K C) (g_Task : mg "Task" = some (.ref C)) (C_is_word : Own P w K mg base CX0 1 "is_word" ["value"] (spWord K)) (F : FnP K "are_tasks" s_are_tasks f fd) :
    FnOk P w K mg base CX0 2 f fd ["value"] (spTasks K C) := by
  have nd : N_are_tasks.Nodup := sc_are_tasks.nd
  refine F.ok sc_are_tasks (fun vs H Q E h => ?_) (fun cdv A outer s H vs Q E hr h => ?_)
  · obtain ⟨G, M, d, kvs, tn, rfl, _⟩ := h
    rfl
  have hu := hr.units
  refine ⟨_, PSs.nox   (pss_cons (ps_if (pt_not (pt_val (pe_callB (kc_isi (K := K)) (by rfl) T.b_isinstance boot_isinstance (pa_cons (pv 0) (pa_cons (pe_bltn (v := .ty "dict") (by rfl) T.b_dict boot_dict rfl) pa_nil))))) (pss_one (ps_ret pe_bl)) pss_nil)
    (pss_one (ps_ret (pe_callB (kc_all (K := K) rfl) (by rfl) T.b_all boot_all (pa_cons (pe_lc (own := [("name", 1)]) (tt := tYes) rfl nd (pi_keys (pv 0)) (blkOk_by (N := N_are_tasks) (sc := defScope s_are_tasks) (by decide +kernel)) (fun _ _ _ _ _ => (pg_name (i := 1) nd rfl (by first | exact .inl rfl | exact .inr rfl))) (fun _ _ _ _ _ => pts_nil) (fun _ _ _ _ _ => (pe_and (pe_own C_is_word (hr.mono (by omega)) (by rfl) pass0 (pa_cons (pv 1) pa_nil)) (pe_one (pe_callB (kc_isi (K := K)) (by rfl) T.b_isinstance boot_isinstance (pa_cons (pe_dget (hu_of hr) (pv 0) (pv 1) (fun _ _ => rfl)) (pa_cons (pe_glob (v := .ref C) (by rfl) g_Task rfl) pa_nil))))))) pa_nil))))), ?_⟩
  obtain ⟨G, M, d, kvs, tn, rfl, z, hd, hk, gk, q⟩ := h
  obtain ⟨od, hod⟩ := hd
  have hl : kvs.length = tn.length := keys_len hk
  have g8 := gk.l8
  repeat (walk_at "z")
  refine z_isi (.ty "dict") (.fDict (z.sub _ _ hod)) (kit_ty kit_dict) ?_
  repeat (walk_at "z")
  refine z_itK z hod ?_
  refine lc_src src_K (fun i G' M' acc => M' = M ∧ Same G G' ∧ acc = (List.replicate i true).map V.bl) z ⟨rfl, Same.refl G, rfl⟩ ?_ ?_ ?_
  · rintro i G' M' M1 acc H' ⟨rfl, s1, _⟩ z'
    exact z'.sub _ _ (s1 _ _ hod)
  · rintro i x G2 M2 acc Dl H2 hx ⟨rfl, s2, rfl⟩ z2
    have hi : i < kvs.length := by
      have := (List.getElem?_eq_some_iff.mp hx).1
      simpa using this
    obtain ⟨⟨pk, pv'⟩, ⟨qk, qr⟩, h1, h2, hpk, a, hpa, hta⟩ := pair_at hk hi
    obtain ⟨p, h3, rfl⟩ := key_at hx
    rw [h1] at h3
    obtain rfl := Option.some.inj h3
    have hpk : pk = .inr qk := hpk
    subst hpk
    have hpa : pv' = .ref a := hpa
    subst hpa
    have hq := List.mem_of_getElem? h2
    have hw : wordS qk = true := gk.wd _ hq
    have hnd : (kvs.map (·.1)).Nodup := by rw [hk.keys]; exact inr_nodup gk.nd
    repeat (walk_at "z")
    refine ⟨by rfl, ?_⟩
    repeat (walk_at "z")
    refine ⟨G2, _, _, .str qk, rfl, z2, .str qk, ?_, fun G3 H3 z3 s3 => ?_⟩
    · rintro s' e'
      cases e'
      have := wordS_len hw
      omega
    rw [show wordD (.str qk) = true from hw]
    repeat (walk_at "z")
    refine z_dgF z3 (FzD.up ⟨od, hod⟩ (s2.trans s3)) (valV_ix hnd h1) ?_
    repeat (walk_at "z")
    obtain ⟨dx, fs, ea⟩ := (hta.up (s2.trans s3)).obj
    refine z_isi (.own C) (TT.ty (z3.sub _ _ ea)) (if_pos (by simp)) ?_
    refine z_laid z3 (by rw [List.length_map, List.length_replicate]; omega) ⟨rfl, s2.trans s3, ?_⟩
    rw [List.replicate_succ', List.map_append]
    rfl
  · rintro p2 G2 M2 acc G3 H3 ⟨rfl, s2, rfl⟩ s3 z3 e3
    refine z_all z3 (SqL.of e3) ?_
    rw [show (List.replicate (kvs.map (fun p => kV p.1)).length true).all id = true by rw [List.all_eq_true]; intro b hb; exact (List.mem_replicate.mp hb).2]
    exact q G3 H3 z3 (s2.trans s3)
end
end LW
namespace LW
open PySem PySem.Spec PyProof.Rows L2 Ys

/-! ### how many names, how many levels -/
def lenI (p : Pl) : Int := ((nmsL p).length : Int)
def dpI (p : Pl) : Int := (p.dp : Int)
theorem lenI_sum : ∀ ps : List Pl, (ps.map lenI).sum = ((nmsLl ps).length : Int)
  | [] => rfl
  | p :: ps => by
    rw [List.map_cons, List.sum_cons, lenI_sum ps, nmsLl, List.length_append]
    unfold lenI
    omega
theorem dpI_max : ∀ ps : List Pl, ((Pl.dpl ps : Nat) : Int) ∈ (0 : Int) :: ps.map dpI ∧ ∀ y ∈ (0 : Int) :: ps.map dpI, y ≤ ((Pl.dpl ps : Nat) : Int)
  | [] => by simp [Pl.dpl]
  | p :: ps => by
    obtain ⟨h1, h2⟩ := dpI_max ps
    rw [Pl.dpl]
    refine ⟨?_, fun y hy => ?_⟩
    · by_cases c : Pl.dpl ps ≤ p.dp
      · rw [Nat.max_eq_left c]
        simp [dpI]
      · rw [Nat.max_eq_right (by omega)]
        rcases List.mem_cons.mp h1 with e | e
        · omega
        · exact List.mem_cons_of_mem _ (List.mem_cons_of_mem _ e)
    · rcases List.mem_cons.mp hy with rfl | hy
      · omega
      · rcases List.mem_cons.mp hy with rfl | hy
        · unfold dpI; omega
        · have := h2 y (List.mem_cons_of_mem _ hy)
          omega
section
variable {P : Program} {w : World} {K : PySem.W.Frag} {mg : Str → Option Value} {base : Heap} {f : Addr} {fd : FuncData}
def spNum (K : PySem.W.Frag) (g : Pl → Int) (n : Nat) : Sp := fun vs H Q _ => ∃ G M v p, vs = [v] ∧ Zp G M H ∧ Dt K G v (Pl.d p) ∧ p.dp < n ∧ p.sz ≤ 5000 ∧ ∀ G1 H1, Zp G1 M H1 → Same G G1 → Q (.int (g p)) H1
theorem ok_count {n : Nat} (T : Nm K mg) (C_count_names : Own P w K mg base CX0 (n + 1) "count_names" ["plan"] (spNum K lenI n)) (F : FnP K "count_names" s_count_names f fd) : FnOk P w K mg base CX0 (n + 2) f fd ["plan"] (spNum K lenI (n + 1)) := by
  have nd : N_count_names.Nodup := sc_count_names.nd
  refine F.ok sc_count_names (fun vs H Q E h => ?_) (fun cdv A outer s H vs Q E hr h => ?_)
  · obtain ⟨G, M, v, p, rfl, _⟩ := h
    rfl
  have hu := hr.units
  refine ⟨_, PSs.nox   (pss_cons (ps_if (pt_val (pe_callB (kc_isi (K := K)) (by rfl) T.b_isinstance boot_isinstance (pa_cons (pv 0) (pa_cons (pe_bltn (v := .ty "str") (by rfl) T.b_str boot_str rfl) pa_nil)))) (pss_one (ps_ret pe_int)) pss_nil)
    (pss_one (ps_ret (pe_callB (kc_sum (K := K) rfl) (by rfl) T.b_sum boot_sum (pa_cons (pe_lc (own := [("part", 1)]) (tt := tYes) rfl nd (k_any (K := K) (pe_slice (k_sl (K := K)) (pv 0) (po_some pe_int) po_none)) (blkOk_by (N := N_count_names) (sc := defScope s_count_names) (by decide +kernel)) (fun _ _ _ _ _ => (pg_name (i := 1) nd rfl (by first | exact .inl rfl | exact .inr rfl))) (fun _ _ _ _ _ => pts_nil) (fun _ _ _ _ _ => (pe_own C_count_names (hr.mono (by omega)) (by rfl) pass0 (pa_cons (pv 1) pa_nil)))) pa_nil))))), ?_⟩
  obtain ⟨G, M, v, p, rfl, z, hd, hn, hsz, q⟩ := h
  repeat (walk_at "z")
  refine z_isi (.ty "str") (hd.up z.sub).ty (kit_ty (kit_str p.d)) ?_
  cases p with
  | nm s =>
    have e := dt_nm hd
    subst e
    rw [Pl.d]
    repeat (walk_at "z")
    refine z_bT' rfl ?_
    repeat (walk_at "z")
    have := q G H z (Same.refl G)
    unfold lenI at this
    rw [nmsL] at this
    exact this
  | nd h ps =>
    obtain ⟨a, xr, rfl, hS, hR⟩ := dt_nd hd
    rw [Pl.dp] at hn
    rw [Pl.sz] at hsz
    have hps := pls_len hR
    rw [Pl.d]
    repeat (walk_at "z")
    refine z_bF' rfl ?_
    repeat (walk_at "z")
    refine z_anyT ?_
    repeat (walk_at "z")
    refine z_slT z hS fun p2 G2 H2 z2 s2 e2 => ?_
    rw [cut_tail] at e2
    refine z_itT z2 e2 ?_
    refine lc_src src_T (fun i G' M' acc => M' = M ∧ Same G2 G' ∧ acc = ((ps.take i).map lenI).map V.int) z2 ⟨rfl, Same.refl _, rfl⟩ (fun i G' M' M1 acc H' ⟨_, s', _⟩ z' => z'.seqT (upT s' e2)) ?_ ?_
    · rintro i x G' M' acc Dl H' hx ⟨rfl, s', rfl⟩ z'
      obtain ⟨p, hp, hx'⟩ := pl_at (hR.up (s2.trans s')) hx
      have hm := List.mem_of_getElem? hp
      have h1 := dp_mem hm
      have h2 := sz_mem hm
      have hi := (List.getElem?_eq_some_iff.mp hp).1
      have h3 := len_szl ps
      repeat (walk_at "z")
      refine ⟨by rfl, ?_⟩
      repeat (walk_at "z")
      refine ⟨G', _, x, p, rfl, z', hx', by omega, by omega, fun G3 H3 z3 s3 => ?_⟩
      refine z_laid z3 (by rw [List.length_map, List.length_map, List.length_take]; omega) ⟨rfl, s'.trans s3, ?_⟩
      rw [List.take_add_one, hp]
      simp
    · rintro p3 G3 M3 acc G4 H4 ⟨rfl, s3, rfl⟩ s4 z4 e4
      rw [hps, List.take_length] at e4
      refine z_sum z4 (SqL.of e4) ?_
      rw [lenI_sum]
      have := q G4 H4 z4 ((s2.trans s3).trans s4)
      unfold lenI at this
      rw [nmsL] at this
      exact this
theorem ok_levels {n : Nat} (T : Nm K mg) (C_levels_of : Own P w K mg base CX0 (n + 1) "levels_of" ["plan"] (spNum K dpI n)) (F : FnP K "levels_of" s_levels_of f fd) : FnOk P w K mg base CX0 (n + 2) f fd ["plan"] (spNum K dpI (n + 1)) := by
  have nd : N_levels_of.Nodup := sc_levels_of.nd
  refine F.ok sc_levels_of (fun vs H Q E h => ?_) (fun cdv A outer s H vs Q E hr h => ?_)
  · obtain ⟨G, M, v, p, rfl, _⟩ := h
    rfl
  have hu := hr.units
  refine ⟨_, PSs.nox   (pss_cons (ps_if (pt_val (pe_callB (kc_isi (K := K)) (by rfl) T.b_isinstance boot_isinstance (pa_cons (pv 0) (pa_cons (pe_bltn (v := .ty "str") (by rfl) T.b_str boot_str rfl) pa_nil)))) (pss_one (ps_ret pe_int)) pss_nil)
    (pss_one (ps_ret (pe_op (k_add (K := K)) pe_int (pe_callB (kc_max (K := K) rfl) (by rfl) T.b_max boot_max (pa_cons (pe_op (k_add (K := K)) (pe_lst (pa_cons pe_int pa_nil)) (pe_lc (own := [("part", 1)]) (tt := tYes) rfl nd (k_any (K := K) (pe_slice (k_sl (K := K)) (pv 0) (po_some pe_int) po_none)) (blkOk_by (N := N_levels_of) (sc := defScope s_levels_of) (by decide +kernel)) (fun _ _ _ _ _ => (pg_name (i := 1) nd rfl (by first | exact .inl rfl | exact .inr rfl))) (fun _ _ _ _ _ => pts_nil) (fun _ _ _ _ _ => (pe_callTy c_int (by rfl) T.b_int boot_int (pa_cons (pe_own C_levels_of (hr.mono (by omega)) (by rfl) pass0 (pa_cons (pv 1) pa_nil)) pa_nil))))) pa_nil)))))), ?_⟩
  obtain ⟨G, M, v, p, rfl, z, hd, hn, hsz, q⟩ := h
  repeat (walk_at "z")
  refine z_isi (.ty "str") (hd.up z.sub).ty (kit_ty (kit_str p.d)) ?_
  cases p with
  | nm s =>
    have e := dt_nm hd
    subst e
    rw [Pl.d]
    repeat (walk_at "z")
    refine z_bT' rfl ?_
    repeat (walk_at "z")
    have := q G H z (Same.refl G)
    unfold dpI at this
    rw [Pl.dp] at this
    exact this
  | nd h ps =>
    obtain ⟨a, xr, rfl, hS, hR⟩ := dt_nd hd
    rw [Pl.dp] at hn
    rw [Pl.sz] at hsz
    have hps := pls_len hR
    rw [Pl.d]
    repeat (walk_at "z")
    refine z_bF' rfl ?_
    repeat (walk_at "z")
    refine z_newL z (by simp) fun l0 G1 H1 z1 s1 e1 => ?_
    repeat (walk_at "z")
    refine z_anyT ?_
    repeat (walk_at "z")
    refine z_slT z1 (upT s1 hS) fun p2 G2 H2 z2 s2 e2 => ?_
    rw [cut_tail] at e2
    refine z_itT z2 e2 ?_
    refine lc_src src_T (fun i G' M' acc => M' = M ∧ Same G2 G' ∧ acc = ((ps.take i).map dpI).map V.int) z2 ⟨rfl, Same.refl _, rfl⟩ (fun i G' M' M1 acc H' ⟨_, s', _⟩ z' => z'.seqT (upT s' e2)) ?_ ?_
    · rintro i x G' M' acc Dl H' hx ⟨rfl, s', rfl⟩ z'
      obtain ⟨p, hp, hx'⟩ := pl_at (hR.up ((s1.trans s2).trans s')) hx
      have hm := List.mem_of_getElem? hp
      have h1 := dp_mem hm
      have h2 := sz_mem hm
      have hi := (List.getElem?_eq_some_iff.mp hp).1
      have h3 := len_szl ps
      repeat (walk_at "z")
      refine ⟨by rfl, ?_⟩
      repeat (walk_at "z")
      refine ⟨G', _, x, p, rfl, z', hx', by omega, by omega, fun G3 H3 z3 s3 => ?_⟩
      repeat (walk_at "z")
      refine z_laid z3 (by rw [List.length_map, List.length_map, List.length_take]; omega) ⟨rfl, s'.trans s3, ?_⟩
      rw [List.take_add_one, hp]
      simp
    · rintro p3 G3 M3 acc G4 H4 ⟨rfl, s3, rfl⟩ s4 z4 e4
      rw [hps, List.take_length] at e4
      have h3 := len_szl ps
      obtain ⟨m1, m2⟩ := dpI_max ps
      refine z_addL z4 (((s2.trans s3).trans s4) _ _ e1) e4 (by simp; omega) fun p5 G5 H5 z5 s5 e5 => ?_
      repeat (walk_at "z")
      refine z_max (ns := (0 : Int) :: ps.map dpI) z5 (SqL.of e5) m1 m2 ?_
      repeat (walk_at "z")
      have := q G5 H5 z5 (((s1.trans s2).trans s3).trans (s4.trans s5))
      unfold dpI at this
      rw [Pl.dp] at this
      rw [show (1 : Int) + ((Pl.dpl ps : Nat) : Int) = ((Pl.dpl ps + 1 : Nat) : Int) by omega]
      exact this
end
end LW
namespace LW
open PySem PySem.Spec PyProof.Rows L2 Ys

section
variable {P : Program} {w : World} {K : PySem.W.Frag} {mg : Str → Option Value} {base : Heap} {f : Addr} {fd : FuncData} {CI CT : Addr}
structure PV (K : PySem.W.Frag) (G : Hp) (ns : List Str) (v : V) (p : Pl) : Prop where
  dt : Dt K G v p.d
  ok : Ok false p
  dp : p.dp ≤ 16
  sz : p.sz ≤ 600
  ndp : (Ys.nf p).dp ≤ 5
  nm : (nmsL p).length ≤ 16
  mem : ∀ s ∈ nmsL p, s ∈ ns
theorem PV.up {G G1 : Hp} {ns : List Str} {v : V} {p : Pl} (h : PV K G ns v p) (s : Same G G1) : PV K G1 ns v p := ⟨h.dt.up s, h.ok, h.dp, h.sz, h.ndp, h.nm, h.mem⟩
theorem nms_parts1 (p : Pl) : nmsLl (parts1 p) = nmsL p := by
  unfold parts1
  split
  · rw [nmsL]
  · simp [nmsLl]
theorem nms_flat : ∀ ps : List Pl, nmsLl (flat ps) = nmsLl ps
  | [] => rfl
  | p :: ps => by rw [flat, nmsLl_app, nms_parts1, nms_flat ps, nmsLl]
theorem nms_wrap (xs : List Pl) : nmsL (wrap xs) = nmsLl xs := by
  rcases wrap_cases xs with ⟨x, e1, e⟩ | e
  · rw [e, e1]; simp [nmsLl]
  · rw [e, nmsL]
theorem nms_done {a : Pl} (h : isDone a = true) : nmsL a = [] := by
  unfold isDone at h
  split at h
  · simp [nmsL, nmsLl]
  · cases h
theorem nms_along (a b : Pl) : nmsL (along a b) = nmsL a ++ nmsL b := by
  unfold along
  split
  · rename_i h; rw [nms_done h]; rfl
  · split
    · rename_i h; rw [nms_done h, List.append_nil]
    · simp [nmsL, nmsLl]
theorem nms_mk (h : Hd) (ps : List Pl) : nmsL (mk h ps) = nmsLl ps := by
  rcases mk_cases h ps with ⟨_, e⟩ | ⟨a, b, _, rfl, e⟩ | ⟨_, e⟩ <;> rw [e]
  · rw [seqn, nms_wrap, nms_flat]
  · rw [nms_along]; simp [nmsLl]
  · rw [nmsL]
theorem nms_nf : ∀ p, nmsL (nf p) = nmsL p := Pl.ind (fun s => by rw [nf]) fun h ps ih => by
  rw [nf, nms_mk, nfl_map, nmsL]
  induction ps with
  | nil => rfl
  | cons p ps ihp =>
    rw [List.map_cons, nmsLl, nmsLl, ih p (by simp), ihp fun q hq => ih q (List.mem_cons_of_mem _ hq)]
theorem PV.nf {G : Hp} {ns : List Str} {v v' : V} {p : Pl} (h : PV K G ns v p) (d : Dt K G v' (Ys.nf p).d) : PV K G ns v' (Ys.nf p) :=
  ⟨d, nf_ok p false h.ok, Nat.le_trans (nf_dp p) h.dp, Nat.le_trans (nf_sz p) h.sz, Nat.le_trans (nf_dp _) h.ndp, by rw [nms_nf]; exact h.nm, by rw [nms_nf]; exact h.mem⟩
theorem PV.nok {G : Hp} {ns : List Str} {v : V} {p : Pl} {X : Pl → Prop} (h : PV K G ns v p) (x : X p) : NOk 17 p.d X := fun _ => ⟨p, rfl, h.ok, by have := h.dp; omega, by have := h.dp; omega, by have := h.sz; omega, x⟩
theorem PV.nerr {G : Hp} {M : List (Addr × HO)} {ns : List Str} {v : V} {p : Pl} {E : XK} (h : PV K G ns v p) : NErr K CI G M p.d E := fun e he => by
  rw [wp_ok p false h.ok] at he
  cases he
theorem PV.dep {G : Hp} {ns : List Str} {v : V} {p : Pl} (h : PV K G ns v p) : p.d.depth < 17 := by
  have := pd_dep p
  have := h.dp
  omega
theorem c_normal {G H : Hp} {M : List (Addr × HO)} {ns : List Str} {v : V} {p : Pl} {Q : VK} {E : XK} (h : PV K G ns v p) (z : Zp G M H) (q : ∀ v' G1 H1, Zp G1 M H1 → Same G G1 → PV K G1 ns v' (nf p) → Q v' H1) : spNormal K CI 17 [v] H Q E :=
  ⟨G, M, v, p.d, rfl, z, h.dt, pl_sht p (Ok.nms _ _ h.ok), h.dep, h.nok fun v' G1 H1 z1 s1 d1 => q v' G1 H1 z1 s1 ((h.up s1).nf d1), h.nerr⟩
theorem c_names {G H : Hp} {M : List (Addr × HO)} {ns : List Str} {v : V} {p : Pl} {Q : VK} {E : XK} (h : PV K G ns v p) (z : Zp G M H) (q : ∀ l G1 H1, Zp G1 M H1 → Same G G1 → SqT K G1 l ((asc (nmsL p)).map V.str) → Q (.ref l) H1) : spNamesIn K 17 [v] H Q E :=
  ⟨G, M, v, p, rfl, z, h.dt, by have := h.dp; omega, by have := h.sz; omega, by have := h.nm; omega, q⟩
theorem c_text {G H : Hp} {M : List (Addr × HO)} {ns : List Str} {v : V} {p : Pl} {Q : VK} {E : XK} (h : PV K G ns v p) (z : Zp G M H) (q : ∀ G1 H1, Zp G1 M H1 → Same G G1 → Q (.str (txt p)) H1) : spText K 17 [v] H Q E := ⟨G, M, v, p, rfl, z, h.dt, Ok.nms _ _ h.ok, by have := h.dp; omega, by have := h.sz; omega, q⟩
theorem c_num {G H : Hp} {M : List (Addr × HO)} {ns : List Str} {v : V} {p : Pl} {g : Pl → Int} {Q : VK} {E : XK} (h : PV K G ns v p) (z : Zp G M H) (q : ∀ G1 H1, Zp G1 M H1 → Same G G1 → Q (.int (g p)) H1) : spNum K g 17 [v] H Q E := ⟨G, M, v, p, rfl, z, h.dt, by have := h.dp; omega, by have := h.sz; omega, q⟩
def spPlanFor (K : PySem.W.Frag) : Sp := fun vs H Q _ => ∃ G M v d kvs ks p, vs = [v, .ref d] ∧ Zp G M H ∧ PV K G ks v p ∧ FzD G d kvs ∧ kvs.map (·.1) = ks.map .inr ∧ ∀ v' G1 H1, Zp G1 M H1 → Same G G1 → PV K G1 ks v' (nf p) → Q v' H1
theorem ok_plan_for (T : Nm K mg) (C_normal : Own P w K mg base (L2.CX P w) 20 "normal" ["plan"] (spNormal K CI 17)) (C_count_names : Own P w K mg base CX0 18 "count_names" ["plan"] (spNum K lenI 17)) (C_levels_of : Own P w K mg base CX0 18 "levels_of" ["plan"] (spNum K dpI 17))
    (C_names_in : Own P w K mg base CX0 19 "names_in" ["plan"] (spNamesIn K 17)) (F : FnP K "plan_for" s_plan_for f fd) : FnOk P w K mg base CX0 21 f fd ["plan", "tasks"] (spPlanFor K) := by
  have nd : N_plan_for.Nodup := sc_plan_for.nd
  refine F.ok sc_plan_for (fun vs H Q E h => ?_) (fun cdv A outer s H vs Q E hr h => ?_)
  · obtain ⟨G, M, v, d, kvs, ks, p, rfl, _⟩ := h
    rfl
  have hu := hr.units
  refine ⟨_, PSs.nox   (pss_cons (ps_asg (pe_own C_normal (hr.mono (by omega)) (by rfl) passX0 (pa_cons (pv 0) pa_nil)) (pg_name (i := 2) nd rfl (by first | exact .inl rfl | exact .inr rfl)))
    (pss_cons (ps_if (pt_cmpR o_gt (pe_own C_count_names (hr.mono (by omega)) (by rfl) pass0 (pa_cons (pv 0) pa_nil)) (pe_gC T.g_NAMES (by rfl)) (nomark _)) (pss_one ps_never) pss_nil)
    (pss_cons (ps_if (pt_cmpR o_gt (pe_own C_levels_of (hr.mono (by omega)) (by rfl) pass0 (pa_cons (pv 2) pa_nil)) (pe_gC T.g_LEVELS (by rfl)) (nomark _)) (pss_one ps_never) pss_nil)
    (pss_cons (ps_for PassesOwn.never rfl (k_any (K := K) (pe_own C_names_in (hr.mono (by omega)) (by rfl) pass0 (pa_cons (pv 0) pa_nil))) (pg_name (i := 3) nd rfl (by first | exact .inl rfl | exact .inr rfl)) (pss_one (ps_if (pt_cmp (pc_dnotin (hu_of hr) (pv 3) (pv 1))) (pss_one ps_never) pss_nil)))
    (pss_one (ps_ret (pv 2))))))), ?_⟩
  obtain ⟨G, M, v, d, kvs, ks, p, rfl, z, hp, hd, hk, q⟩ := h
  repeat (walk_at "z")
  refine c_normal hp z fun v' G1 H1 z1 s1 hp1 => ?_
  repeat (walk_at "z")
  refine c_num (hp.up s1) z1 fun G2 H2 z2 s2 => ?_
  repeat (walk_at "z")
  refine z_bF' (decide_eq_false (by unfold lenI; have := hp.nm; omega)) ?_
  repeat (walk_at "z")
  refine c_num (hp1.up s2) z2 fun G3 H3 z3 s3 => ?_
  repeat (walk_at "z")
  refine z_bF' (decide_eq_false (by unfold dpI; have := hp.ndp; omega)) ?_
  repeat (walk_at "z")
  refine z_anyT ?_
  repeat (walk_at "z")
  refine c_names (hp.up ((s1.trans s2).trans s3)) z3 fun l G4 H4 z4 s4 e4 => ?_
  have s14 := ((s1.trans s2).trans s3).trans s4
  refine z_itT z4 e4 ?_
  refine for_src src_T (fun i σ G' M' => ∃ k3, M' = M ∧ Same G4 G' ∧ σ = [some v, some (.ref d), some v', k3]) z4 ⟨_, rfl, Same.refl _, rfl⟩ (fun i σ G' M' H' ⟨_, _, s', _⟩ z' => z'.seqT (upT s' e4)) ?_ ?_
  · rintro i x σ G' M' H' hx ⟨k3, rfl, s', rfl⟩ z'
    obtain ⟨nm, hnm, rfl⟩ := List.mem_map.mp (List.mem_of_getElem? hx)
    have hin : (.inr nm : Key) ∈ kvs.map (·.1) := by
      rw [hk]
      exact List.mem_map.mpr ⟨nm, hp.mem nm (asc_mem.mp hnm), rfl⟩
    repeat (walk_at "z")
    refine z_diF (k := .inr nm) z' (hd.up (s14.trans s')) ?_
    rw [valV_isin hin]
    repeat (walk_at "z")
    exact ⟨G', _, z', _, rfl, s', rfl⟩
  · rintro σ G' M' H' ⟨k3, rfl, s', rfl⟩ z'
    repeat (walk_at "z")
    exact q v' G' H' z' (s14.trans s') (hp1.up (((s2.trans s3).trans s4).trans s'))
end
end LW
namespace LW
open PySem PySem.Spec PyProof.Rows L2 Ys

/-! ### remembered names, width -/
abbrev PrpT (P : Program) (w : World) (K : PySem.W.Frag) (mg : Str → Option Value) (base : Heap) (C : Addr) (x y : Str) : Prop := Prp P w K mg base CX0 1 C x (spGet y C)
def condL (tn : List (Str × TkD)) : List Str := tn.flatMap fun q => q.2.l1 ++ q.2.l2
def remP (tn : List (Str × TkD)) : List Str := asc (condL tn)
def numsP (tn : List (Str × TkD)) (nm : Str) : List Int := 0 :: (tn.filter fun q => decide (q.1 = nm) || decide (nm ∈ q.2.l3)).map (·.2.many)
def maxI (l : List Int) : Int := l.foldr max 0
theorem maxI_ub : ∀ {l : List Int}, ∀ y ∈ l, y ≤ maxI l
  | x :: r, y, h => by
    show y ≤ max x (maxI r)
    rcases List.mem_cons.mp h with rfl | h
    · omega
    · have := maxI_ub y h
      omega
theorem maxI_in : ∀ l : List Int, maxI l ∈ (0 : Int) :: l
  | [] => List.mem_singleton.mpr rfl
  | x :: r => by
    show max x (maxI r) ∈ _
    by_cases c : maxI r ≤ x
    · rw [Int.max_eq_left c]
      simp
    · rw [Int.max_eq_right (by omega)]
      rcases List.mem_cons.mp (maxI_in r) with e | e
      · rw [e]; simp
      · exact List.mem_cons_of_mem _ (List.mem_cons_of_mem _ e)
theorem maxI_num (tn : List (Str × TkD)) (nm : Str) : maxI (numsP tn nm) ∈ numsP tn nm := by
  have := maxI_in (numsP tn nm)
  rcases List.mem_cons.mp this with e | e
  · rw [e]; exact List.mem_cons_self ..
  · exact e
def widP (tn : List (Str × TkD)) : Int := ((remP tn).map fun nm => maxI (numsP tn nm)).sum
theorem inV_strs {x : Str} : ∀ l : List Str, inV (.str x) (l.map V.str) = decide (x ∈ l)
  | [] => rfl
  | y :: l => by
    show ((eqV (.str y) (.str x)) || inV (.str x) (l.map V.str)) = _
    rw [inV_strs l]
    by_cases c : x = y
    · subst c
      simp [eqV]
    · have : eqV (.str y) (.str x) = false := by
        show decide _ = false
        exact decide_eq_false fun e => c e.symm
      rw [this]
      simp [c]
theorem flat_strs (l : List Str) : (l.map V.str).all flatV = true := by
  rw [List.all_map, List.all_eq_true]
  exact fun _ _ => rfl
theorem z_inT {K : PySem.W.Frag} {G H : Hp} {M : List (Addr × HO)} {a : Addr} {x : Str} {l : List Str} {Q : VK} (z : Zp G M H) (h : SqT K G a (l.map V.str)) (q : Q (.bl (decide (x ∈ l))) H) : rInG K false (.str x) (.ref a) H Q :=
  .inr ⟨a, _, rfl, .inr (z.seqT h), rfl, flat_strs l, by rw [inV_strs]; exact q⟩
theorem tk_at {K : PySem.W.Frag} {G : Hp} {C : Addr} {kvs : List (Key × V)} {tn : List (Str × TkD)} {i : Nat} (h : Tks K G C kvs tn) (hi : i < kvs.length) : ∃ nm t a, kvs[i]? = some (.inr nm, .ref a) ∧ tn[i]? = some (nm, t) ∧ TkI K G C a t := by
  obtain ⟨⟨pk, pv'⟩, ⟨qk, qt⟩, h1, h2, e1, a, e2, h3⟩ := pair_at h hi
  have e1 : pk = .inr qk := e1
  have e2 : pv' = .ref a := e2
  subst e1 e2
  exact ⟨qk, qt, a, h1, h2, h3⟩
theorem take_cond {tn : List (Str × TkD)} {i : Nat} {q : Str × TkD} (h : tn[i]? = some q) : condL (tn.take (i + 1)) = condL (tn.take i) ++ (q.2.l1 ++ q.2.l2) := by
  unfold condL
  rw [List.take_add_one, h, List.flatMap_append]
  simp
theorem cond_le (tn : List (Str × TkD)) (i : Nat) : (condL (tn.take i)).length ≤ (condL tn).length := by
  have e : condL tn = condL (tn.take i) ++ condL (tn.drop i) := by unfold condL; rw [← List.flatMap_append, List.take_append_drop]
  rw [e, List.length_append]
  omega
section
variable {P : Program} {w : World} {K : PySem.W.Frag} {mg : Str → Option Value} {base : Heap} {f : Addr} {fd : FuncData} {C : Addr}
def spRem (K : PySem.W.Frag) (C : Addr) : Sp := fun vs H Q _ => ∃ G M d kvs tn, vs = [.ref d] ∧ Zp G M H ∧ FzD G d kvs ∧ Tks K G C kvs tn ∧ (condL tn).length < 64 ∧ ∀ p G1 H1, Zp G1 M H1 → Same G G1 → SqT K G1 p ((remP tn).map V.str) → Q (.ref p) H1
theorem ok_rem (T : Nm K mg) (R_other : PrpT P w K mg base C "other" "own_other") (R_same : PrpT P w K mg base C "same" "own_same") (C_ascending : Own P w K mg base CX0 1 "ascending" ["words"] (spAsc K)) (F : FnP K "remembered_in" s_remembered_in f fd) :
    FnOk P w K mg base CX0 3 f fd ["tasks"] (spRem K C) := by
  have nd : N_remembered_in.Nodup := sc_remembered_in.nd
  refine F.ok sc_remembered_in (fun vs H Q E h => ?_) (fun cdv A outer s H vs Q E hr h => ?_)
  · obtain ⟨G, M, d, kvs, tn, rfl, _⟩ := h
    rfl
  have hu := hr.units
  refine ⟨_, PSs.nox   (pss_one (ps_ret (pe_own C_ascending (hr.mono (by omega)) (by rfl) pass0 (pa_cons (pe_lc2 (own := [("task", 1), ("name", 2)]) (vs1 := [2]) (tt := tYes) (tt1 := tYes) rfl nd (pi_values (pv 0)) (blkOk_by (N := N_remembered_in) (sc := defScope s_remembered_in) (by decide +kernel)) (by decide) (fun _ _ _ _ _ => (pg_name (i := 1) nd rfl (by first | exact .inl rfl | exact .inr rfl))) (fun _ _ _ _ _ => pts_nil) (fun _ _ _ _ _ => (k_any (K := K) (pe_op (k_add (K := K)) (pe_pr R_other (hr.mono (by decide)) pass0 (pv 1)) (pe_pr R_same (hr.mono (by decide)) pass0 (pv 1))))) (fun _ _ _ _ _ => (pg_name (i := 2) nd rfl (by first | exact .inl rfl | exact .inr rfl))) (fun _ _ _ _ _ => pts_nil) (fun _ _ _ _ _ => (pv 2))) pa_nil)))), ?_⟩
  obtain ⟨G, M, d, kvs, tn, rfl, z, ⟨od, hod⟩, hk, hc, q⟩ := h
  have hl : kvs.length = tn.length := keys_len hk
  repeat (walk_at "z")
  refine z_itV z hod ?_
  refine lc2_src src_V (fun i G' M' acc => M' = M ∧ Same G G' ∧ acc = (condL (tn.take i)).map V.str) z ⟨rfl, Same.refl G, by simp [condL]⟩ ?_ ?_ ?_
  · rintro i G' M' M1 acc H' ⟨rfl, s1, _⟩ z'
    exact z'.sub _ _ (s1 _ _ hod)
  · rintro i x G2 M2 acc Dl H2 hx ⟨rfl, s2, rfl⟩ z2
    have hi : i < kvs.length := by
      have := (List.getElem?_eq_some_iff.mp hx).1
      simpa using this
    obtain ⟨nm, t, a, h1, h2, h3⟩ := tk_at hk hi
    rw [List.getElem?_map, h1] at hx
    obtain rfl : V.ref a = x := Option.some.inj hx
    obtain ⟨dx, t1, t2, t3, t4, h0, e1, e2, _⟩ := h3.up s2
    have hle := cond_le tn (i + 1)
    have hcd : condL (tn.take (i + 1)) = condL (tn.take i) ++ (t.l1 ++ t.l2) := take_cond h2
    rw [hcd, List.length_append, List.length_append] at hle
    repeat (walk_at "z")
    refine ⟨by rfl, ?_⟩
    repeat (walk_at "z")
    refine z_anyT ?_
    repeat (walk_at "z")
    refine z_prI z2 h0 ⟨a, dx, _, _, rfl, z2.sub _ _ h0, (by rfl), ?_⟩
    repeat (walk_at "z")
    refine z_prI z2 h0 ⟨a, dx, _, _, rfl, z2.sub _ _ h0, (by rfl), ?_⟩
    refine z_addT z2 e1 e2 (by rw [List.length_map, List.length_map]; omega) fun p3 G3 H3 z3 s3 e3 => ?_
    refine z_itT z3 e3 ?_
    rw [← List.map_append] at e3
    refine lc2_in (src_T (xs := (t.l1 ++ t.l2).map V.str)) (fun j G' M' acc => M' = M2 ∧ Same G3 G' ∧ acc = (condL (tn.take i)).map V.str ++ ((t.l1 ++ t.l2).take j).map V.str) z3 ⟨rfl, Same.refl G3, by simp⟩ ?_ ?_ ?_
    · rintro j G' M' M1 acc H' ⟨rfl, s1, _⟩ z'
      exact z'.seqT (upT s1 e3)
    · rintro j y G4 M4 acc H4 hy ⟨rfl, s4, rfl⟩ z4
      rw [List.getElem?_map] at hy
      obtain ⟨s', hs, rfl⟩ := Option.map_eq_some_iff.mp hy
      repeat (walk_at "z")
      refine ⟨by rfl, ?_⟩
      repeat (walk_at "z")
      refine z_laid z4 (by rw [List.length_append, List.length_map, List.length_map, List.length_take, List.length_append]; omega) ⟨rfl, s4, ?_⟩
      rw [List.take_add_one, hs]
      simp
    · rintro G4 M4 acc H4 ⟨rfl, s4, rfl⟩ z4
      refine z_left z4 ⟨rfl, s2.trans (s3.trans s4), ?_⟩
      rw [hcd, List.length_map, List.take_length, List.map_append]
      simp only [List.map_append]
  · rintro p G2 M2 acc G3 H3 ⟨rfl, s2, rfl⟩ s3 z3 e3
    rw [List.length_map, hl, List.take_length] at e3
    repeat (walk_at "z")
    exact ⟨G3, _, p, condL tn, rfl, z3, SqL.of (z3.sub _ _ e3), hc, fun p4 G4 H4 z4 s4 h4 => q p4 G4 H4 z4 ((s2.trans s3).trans s4) h4⟩
def hitP (nm : Str) (q : Str × TkD) : Bool := decide (q.1 = nm) || decide (nm ∈ q.2.l3)
def numsJ (tn : List (Str × TkD)) (nm : Str) (j : Nat) : List Int := 0 :: ((tn.take j).filter (hitP nm)).map (·.2.many)
theorem numsJ_all (tn : List (Str × TkD)) (nm : Str) : numsJ tn nm tn.length = numsP tn nm := by
  unfold numsJ numsP
  rw [List.take_length]
  rfl
theorem numsJ_len (tn : List (Str × TkD)) (nm : Str) (j : Nat) : (numsJ tn nm j).length ≤ tn.length + 1 := by
  unfold numsJ
  rw [List.length_cons, List.length_map]
  have := List.length_filter_le (hitP nm) (tn.take j)
  rw [List.length_take] at this
  omega
theorem numsJ_succ {tn : List (Str × TkD)} {nm : Str} {j : Nat} {q : Str × TkD} (h : tn[j]? = some q) : numsJ tn nm (j + 1) = if hitP nm q = true then numsJ tn nm j ++ [q.2.many] else numsJ tn nm j := by
  unfold numsJ
  rw [List.take_add_one, h, List.filter_append, List.map_append]
  by_cases c : hitP nm q = true
  · rw [if_pos c]
    simp [List.filter, c]
  · rw [if_neg c]
    simp [List.filter, c]
def spWid (K : PySem.W.Frag) (C : Addr) : Sp := fun vs H Q _ => ∃ G M d kvs tn, vs = [.ref d] ∧ Zp G M H ∧ FzD G d kvs ∧ Tks K G C kvs tn ∧ (condL tn).length < 64 ∧ tn.length ≤ 1000 ∧ ∀ G1 H1, Zp G1 M H1 → Same G G1 → Q (.int (widP tn)) H1
theorem ok_wid (T : Nm K mg) (R_takes : PrpT P w K mg base C "takes" "own_takes") (R_many : PrpT P w K mg base C "many" "own_many") (C_remembered_in : Own P w K mg base CX0 3 "remembered_in" ["tasks"] (spRem K C)) (F : FnP K "width_of" s_width_of f fd) :
    FnOk P w K mg base CX0 4 f fd ["tasks"] (spWid K C) := by
  have nd : N_width_of.Nodup := sc_width_of.nd
  refine F.ok sc_width_of (fun vs H Q E h => ?_) (fun cdv A outer s H vs Q E hr h => ?_)
  · obtain ⟨G, M, d, kvs, tn, rfl, _⟩ := h
    rfl
  have hu := hr.units
  refine ⟨_, PSs.nox   (pss_cons (ps_asg pe_int (pg_name (i := 1) nd rfl (by first | exact .inl rfl | exact .inr rfl)))
    (pss_cons (ps_for PassesOwn.never rfl (k_any (K := K) (pe_own C_remembered_in (hr.mono (by omega)) (by rfl) pass0 (pa_cons (pv 0) pa_nil))) (pg_name (i := 2) nd rfl (by first | exact .inl rfl | exact .inr rfl)) (pss_cons (ps_asg (pe_lst (pa_cons pe_int pa_nil)) (pg_name (i := 3) nd rfl (by first | exact .inl rfl | exact .inr rfl)))
    (pss_cons (ps_for PassesOwn.never rfl (pi_items (pv 0)) (kg_tup (K := K) (n := 2) rfl (pgs_cons (pg_name (i := 4) nd rfl (by first | exact .inl rfl | exact .inr rfl)) (pgs_cons (pg_name (i := 5) nd rfl (by first | exact .inl rfl | exact .inr rfl)) pgs_nil))) (pss_one (ps_if (PW.pt (pw_or (pt_cmpR (k_eq (K := K) hu) (pv 4) (pv 2) (nomark _)) (pw_or1 (pt_cmpR (k_in (K := K)) (pv 2) (pe_pr R_takes (hr.mono (by decide)) pass0 (pv 5)) (by rfl))))) (pss_one (ps_expr (pe_bm PySem.F.plainAttrs_list PySem.F.slot_list_append PySem.F.type_list_append mt_append (pv 3) (pa_cons (pe_pr R_many (hr.mono (by decide)) pass0 (pv 5)) pa_nil)))) pss_nil)))
    (pss_one (ps_asg (pe_op (k_add (K := K)) (pv 1) (pe_callB (kc_max (K := K) rfl) (by rfl) T.b_max boot_max (pa_cons (pe_lc (own := [("number", 6)]) (tt := tYes) rfl nd (k_any (K := K) (pv 3)) (blkOk_by (N := N_width_of) (sc := defScope s_width_of) (by decide +kernel)) (fun _ _ _ _ _ => (pg_name (i := 6) nd rfl (by first | exact .inl rfl | exact .inr rfl))) (fun _ _ _ _ _ => pts_nil) (fun _ _ _ _ _ => (pe_callTy c_int (by rfl) T.b_int boot_int (pa_cons (pv 6) pa_nil)))) pa_nil))) (pg_name (i := 1) nd rfl (by first | exact .inl rfl | exact .inr rfl)))))))
    (pss_one (ps_ret (pv 1))))), ?_⟩
  obtain ⟨G, M, d, kvs, tn, rfl, z, ⟨od, hod⟩, hk, hc, ht, q⟩ := h
  have hl : kvs.length = tn.length := keys_len hk
  repeat (walk_at "z")
  refine z_anyT ?_
  repeat (walk_at "z")
  refine ⟨G, M, d, kvs, tn, rfl, z, ⟨od, hod⟩, hk, hc, fun l1 G1 H1 z1 s1 e1 => ?_⟩
  refine z_itT z1 e1 ?_
  refine for_src src_T (fun i σ G' M' => ∃ k2 k3 k4 k5 k6, M' = M ∧ Same G1 G' ∧ σ = [some (.ref d), some (.int (((remP tn).take i).map fun nm => maxI (numsP tn nm)).sum), k2, k3, k4, k5, k6]) z1 ⟨_, _, _, _, _, rfl, Same.refl _, rfl⟩ (fun i σ G' M' H' ⟨_, _, _, _, _, _, s', _⟩ z' => z'.seqT (upT s' e1)) ?_ ?_
  · rintro i x σ G' M' H' hx ⟨k2, k3, k4, k5, k6, rfl, s', rfl⟩ z'
    rw [List.getElem?_map] at hx
    obtain ⟨nm, hnm, rfl⟩ := Option.map_eq_some_iff.mp hx
    repeat (walk_at "z")
    refine z_ownL z' (by simp) fun l H2 z2 => ?_
    repeat (walk_at "z")
    refine z_itI z2 ((s1.trans s') _ _ hod) ?_
    refine for_items (fun j σ G'' M'' => ∃ k4 k5, M'' = M' ++ [(l, .lst ((numsJ tn nm j).map V.int))] ∧ Same G' G'' ∧ σ = [some (.ref d), some (.int (((remP tn).take i).map fun nm => maxI (numsP tn nm)).sum), some (.str nm), some (.ref l), k4, k5, k6]) z2 ⟨_, _, rfl, Same.refl _, rfl⟩ (fun j σ G'' M'' ⟨_, _, _, s'', _⟩ => ((s1.trans s').trans s'') _ _ hod) ?_ ?_
    · rintro j k v Tt σ G2 M2 G3 H3 hkv ⟨k4', k5', rfl, s2, rfl⟩ z3 s3 eT
      have hj : j < kvs.length := (List.getElem?_eq_some_iff.mp hkv).1
      obtain ⟨nm', t, a, h1, h2, h3⟩ := tk_at hk hj
      rw [h1] at hkv
      obtain ⟨rfl, rfl⟩ : (.inr nm' : Key) = k ∧ V.ref a = v := by simpa using hkv
      obtain ⟨dx, t1, t2, t3, t4, h0, e1', e2', e3', e4'⟩ := h3.up (((s1.trans s').trans s2).trans s3)
      have hln := numsJ_len tn nm j
      have hsu := numsJ_succ (nm := nm) h2
      refine z_gtup z3 (SqT.of eT) rfl ?_
      repeat (walk_at "z")
      refine z_eqS rfl ?_
      have fin : hitP nm (nm', t) = true → ∀ H4, Zp G3 ((M' ++ [(l, HO.lst ((numsJ tn nm j).map V.int))]).set M'.length (l, .lst ((numsJ tn nm j).map V.int ++ [V.int t.many]))) H4 → Zp G3 (M' ++ [(l, .lst ((numsJ tn nm (j + 1)).map V.int))]) H4 := fun hh H4 z4 => by
        rw [List.set_append_right _ _ (Nat.le_refl _), Nat.sub_self] at z4
        rw [hsu, if_pos hh, List.map_append]
        exact z4
      by_cases c : nm' = nm
      · rw [decide_eq_true (show kV (.inr nm') = V.str nm by rw [c]; rfl)]
        repeat (walk_at "z")
        refine z_tyO z3 M'.length last_at ?_
        repeat (walk_at "z")
        refine z_prI z3 h0 ⟨a, dx, _, _, rfl, z3.sub _ _ h0, (by rfl), ?_⟩
        repeat (walk_at "z")
        refine z_append z3 M'.length last_at (by rw [List.length_map]; omega) fun H4 z4 => ?_
        repeat (walk_at "z")
        exact ⟨G3, _, fin (by unfold hitP; rw [decide_eq_true c]; rfl) H4 z4, _, _, rfl, s2.trans s3, rfl⟩
      · rw [decide_eq_false (show ¬ kV (.inr nm') = V.str nm from fun e => c (V.str.inj e))]
        repeat (walk_at "z")
        refine z_prI z3 h0 ⟨a, dx, _, _, rfl, z3.sub _ _ h0, (by rfl), ?_⟩
        refine z_inT z3 e3' ?_
        by_cases c2 : nm ∈ t.l3
        · rw [decide_eq_true c2]
          repeat (walk_at "z")
          refine z_tyO z3 M'.length last_at ?_
          repeat (walk_at "z")
          refine z_prI z3 h0 ⟨a, dx, _, _, rfl, z3.sub _ _ h0, (by rfl), ?_⟩
          repeat (walk_at "z")
          refine z_append z3 M'.length last_at (by rw [List.length_map]; omega) fun H4 z4 => ?_
          repeat (walk_at "z")
          exact ⟨G3, _, fin (by unfold hitP; rw [decide_eq_true c2, Bool.or_true]) H4 z4, _, _, rfl, s2.trans s3, rfl⟩
        · rw [decide_eq_false c2]
          repeat (walk_at "z")
          have hn : ¬ hitP nm (nm', t) = true := by unfold hitP; rw [decide_eq_false c, decide_eq_false c2]; simp
          rw [if_neg hn] at hsu
          exact ⟨G3, _, z3, _, _, by rw [hsu], s2.trans s3, rfl⟩
    · rintro σ G2 M2 H3 ⟨k4', k5', rfl, s2, rfl⟩ z3
      rw [hl, numsJ_all] at z3
      have z4 := z3.fix
      have fr : G2 l = none := (z3.own M'.length _ _ last_at).2
      have s4 : Same G2 (upd G2 l (.lst ((numsP tn nm).map V.int))) := Same.new fr
      have hle := numsJ_len tn nm tn.length
      rw [numsJ_all] at hle
      repeat (walk_at "z")
      refine z_anyL ?_
      repeat (walk_at "z")
      refine z_itL z4 (SqL.of upd_same) ?_
      refine lc_src src_L (fun j G5 M5 acc => M5 = M' ∧ Same (upd G2 l (.lst ((numsP tn nm).map V.int))) G5 ∧ acc = ((numsP tn nm).take j).map V.int) z4 ⟨rfl, Same.refl _, rfl⟩ (fun j G5 M5 M1 acc H5 ⟨_, s5, _⟩ z5 => z5.seqL (upL s5 (SqL.of upd_same))) ?_ ?_
      · rintro j y G5 M5 acc Dl H5 hy ⟨rfl, s5, rfl⟩ z5
        rw [List.getElem?_map] at hy
        obtain ⟨n, hn, rfl⟩ := Option.map_eq_some_iff.mp hy
        repeat (walk_at "z")
        refine ⟨by rfl, ?_⟩
        repeat (walk_at "z")
        refine z_laid z5 (by rw [List.length_map, List.length_take]; omega) ⟨rfl, s5, ?_⟩
        rw [List.take_add_one, hn]
        simp
      · rintro p G5 M5 acc G6 H6 ⟨rfl, s5, rfl⟩ s6 z6 e6
        rw [List.length_map, List.take_length] at e6
        repeat (walk_at "z")
        refine z_max z6 (SqL.of e6) (maxI_num tn nm) (fun y hy => maxI_ub y hy) ?_
        repeat (walk_at "z")
        refine ⟨G6, M5, z6, some (.str nm), some (.ref l), k4', k5', k6, rfl, s'.trans (s2.trans (s4.trans (s5.trans s6))), ?_⟩
        rw [List.take_add_one, hnm]
        simp
  · rintro σ G' M' H' ⟨k2, k3, k4, k5, k6, rfl, s', rfl⟩ z'
    repeat (walk_at "z")
    have := q G' H' z' (s1.trans s')
    unfold widP at this
    rw [List.length_map, List.take_length]
    exact this
end
end LW
namespace LW
open PySem PySem.Spec PyProof.Rows L2 Ys

/-! ### books -/
def lookT (tn : List (Str × TkD)) (k : Str) : TkD := match tn.find? (fun q => decide (q.1 = k)) with
  | some q => q.2
  | none => ⟨none, 1, [], [], [], []⟩
def ordT (tn : List (Str × TkD)) : List (Str × TkD) := (asc (tn.map (·.1))).map fun k => (k, lookT tn k)
def lookK (kn : List (Str × List Str)) (k : Str) : List Str := match kn.find? (fun q => decide (q.1 = k)) with
  | some q => q.2
  | none => []
def ordK (kn : List (Str × List Str)) : List (Str × List Str) := (asc (kn.map (·.1))).map fun k => (k, asc (lookK kn k))
theorem find_nd {β : Type} : ∀ {l : List (Str × β)} {k : Str} {t : β}, (l.map (·.1)).Nodup → (k, t) ∈ l → l.find? (fun q => decide (q.1 = k)) = some (k, t)
  | q :: l, k, t, nd, h => by
    obtain ⟨n1, n2⟩ := List.nodup_cons.mp (show (q.1 :: l.map (·.1)).Nodup from nd)
    rw [List.find?_cons]
    by_cases c : q.1 = k
    · rw [decide_eq_true c]
      rcases List.mem_cons.mp h with e | h
      · rw [e]
      · exact absurd (List.mem_map.mpr ⟨(k, t), h, c.symm⟩) n1
    · rw [decide_eq_false c]
      rcases List.mem_cons.mp h with e | h
      · exact absurd (by rw [← e]) c
      · exact find_nd n2 h
theorem lookT_of {tn : List (Str × TkD)} {k : Str} {t : TkD} (nd : (tn.map (·.1)).Nodup) (h : (k, t) ∈ tn) : lookT tn k = t := by
  unfold lookT
  rw [find_nd nd h]
theorem lookK_of {kn : List (Str × List Str)} {k : Str} {t : List Str} (nd : (kn.map (·.1)).Nodup) (h : (k, t) ∈ kn) : lookK kn k = t := by
  unfold lookK
  rw [find_nd nd h]
theorem ordT_keys (tn : List (Str × TkD)) : (ordT tn).map (·.1) = asc (tn.map (·.1)) := by
  unfold ordT
  rw [List.map_map]
  exact List.map_id _
theorem ordK_keys (kn : List (Str × List Str)) : (ordK kn).map (·.1) = asc (kn.map (·.1)) := by
  unfold ordK
  rw [List.map_map]
  exact List.map_id _
theorem paired_snoc {α β : Type} {R : α → β → Prop} {x : α} {y : β} (h : R x y) : ∀ {xs : List α} {ys : List β}, Paired R xs ys → Paired R (xs ++ [x]) (ys ++ [y])
  | _, _, .nil => .cons h .nil
  | _, _, .cons a b => .cons a (paired_snoc h b)
theorem find_at {β : Type} {l : List (Str × β)} {k : Str} (h : k ∈ l.map (·.1)) : ∃ (i : Nat) (t : β), l[i]? = some (k, t) := by
  obtain ⟨⟨k', t⟩, hq, rfl⟩ := List.mem_map.mp h
  obtain ⟨i, hi⟩ := List.getElem?_of_mem hq
  exact ⟨i, t, hi⟩
theorem dd_len_le : ∀ l : List Str, (dd l).length ≤ l.length
  | [] => Nat.le_refl _
  | x :: r => by
    have := dd_len_le r
    unfold dd
    split
    · exact Nat.le_succ_of_le this
    · exact Nat.succ_le_succ this
theorem asc_len_le (l : List Str) : (asc l).length ≤ l.length := by
  unfold asc
  rw [(List.mergeSort_perm _ _).length_eq]
  exact dd_len_le l
theorem key_new {ks : List Str} {i : Nat} {k : Str} {acc : List (Key × V)} (nd : ks.Nodup) (h : ks[i]? = some k) (e : acc.map (·.1) = (ks.take i).map .inr) : valV acc (.inr k) = none := by
  refine valV_out ?_
  rw [e]
  intro hm
  obtain ⟨k', h1, h2⟩ := List.mem_map.mp hm
  obtain rfl : k' = k := Sum.inr.inj h2
  obtain ⟨j, hj⟩ := List.getElem?_of_mem h1
  rw [List.getElem?_take] at hj
  split at hj
  · rename_i c
    have hj1 := (List.getElem?_eq_some_iff.mp hj).1
    have := (List.getElem?_inj hj1 nd).mp (hj.trans h.symm)
    omega
  · cases hj
theorem z_dgS {G H : Hp} {M : List (Addr × HO)} {d : Addr} {kvs : List (Key × V)} {k : Str} {v : V} {Q : VK} (z : Zp G M H) (h : FzD G d kvs) (e : valV kvs (.inr k) = some v) (q : Q v H) : DgW (.ref d) (.str k) H Q := ⟨d, v, rfl, .inl ⟨kvs, .inr k, h.rd z, rfl, e.symm⟩, q⟩
structure NeedOk (tn : List (Str × TkD)) : Prop where
  cl : (condL tn).length < 64
  rm : (remP tn).length ≤ 3
  wd : widP tn ≤ 5
def Kdt (K : PySem.W.Frag) (G : Hp) : List (Key × V) → List (Str × List Str) → Prop := Paired fun p q => p.1 = .inr q.1 ∧ ∃ a, p.2 = .ref a ∧ SqT K G a (q.2.map V.str)
theorem Kdt.up {K : PySem.W.Frag} {G G1 : Hp} {kvs kn} (h : Kdt K G kvs kn) (s : Same G G1) : Kdt K G1 kvs kn := L2.Paired.mapP h fun _ _ ⟨e, d, h1, h2⟩ => ⟨e, d, h1, upT s h2⟩
theorem Kdt.keys {K : PySem.W.Frag} {G : Hp} {kvs kn} (h : Kdt K G kvs kn) : kvs.map (·.1) = (kn.map (·.1)).map .inr := paired_keys (fun _ _ h => h.1) h
theorem Kdt.kds {K : PySem.W.Frag} {G : Hp} {kvs kn} (h : Kdt K G kvs kn) : Kds K G kvs kn := L2.Paired.mapP h fun _ _ ⟨e, a, h1, h2⟩ => ⟨e, .tuple _, by rw [h1]; exact .tup h2 (dts_str _), rfl, rfl⟩
structure BkD where
  kinds : List (Str × List Str)
  tasks : List (Str × TkD)
  plan : Pl
def BkI (K : PySem.W.Frag) (G : Hp) (C CB x : Addr) (B : BkD) : Prop := ∃ dx vp dk dt kk kt, G x = some (.ins CB dx [("own_plan", vp), ("own_kinds", .ref dk), ("own_tasks", .ref dt)]) ∧ PV K G (B.tasks.map (·.1)) vp B.plan ∧ FzD G dk kk ∧ Kdt K G kk B.kinds ∧ FzD G dt kt ∧ Tks K G C kt B.tasks
theorem BkI.up {K : PySem.W.Frag} {G G1 : Hp} {C CB x : Addr} {B : BkD} (h : BkI K G C CB x B) (s : Same G G1) : BkI K G1 C CB x B := by
  obtain ⟨dx, vp, dk, dt, kk, kt, h0, h1, h2, h3, h4, h5⟩ := h
  exact ⟨dx, vp, dk, dt, kk, kt, s _ _ h0, h1.up s, h2.up s, h3.up s, h4.up s, h5.up s⟩
def BkF (K : PySem.W.Frag) (G : Hp) (C : Addr) (fs : List (Str × V)) (B : BkD) : Prop := ∃ vp dk dt kk kt, fs = [(("own_plan" : Str), vp), (("own_kinds" : Str), V.ref dk), (("own_tasks" : Str), V.ref dt)] ∧ PV K G (B.tasks.map (·.1)) vp B.plan ∧ FzD G dk kk ∧ Kdt K G kk B.kinds ∧ FzD G dt kt ∧ Tks K G C kt B.tasks
theorem BkF.up {K : PySem.W.Frag} {G G1 : Hp} {C : Addr} {fs : List (Str × V)} {B : BkD} (h : BkF K G C fs B) (s : Same G G1) : BkF K G1 C fs B := by
  obtain ⟨vp, dk, dt, kk, kt, h0, h1, h2, h3, h4, h5⟩ := h
  exact ⟨vp, dk, dt, kk, kt, h0, h1.up s, h2.up s, h3.up s, h4.up s, h5.up s⟩
theorem BkF.at_ {K : PySem.W.Frag} {G : Hp} {C CB x dx : Addr} {fs : List (Str × V)} {B : BkD} (h : BkF K G C fs B) (e : G x = some (.ins CB dx fs)) : BkI K G C CB x B := by
  obtain ⟨vp, dk, dt, kk, kt, h0, h1⟩ := h
  subst h0
  exact ⟨dx, vp, dk, dt, kk, kt, e, h1⟩
structure BookC (K : PySem.W.Frag) (C : Addr) : Prop where
  cl : Cls K C
  n1 : NoAttr K C "own_plan"
  n2 : NoAttr K C "own_kinds"
  n3 : NoAttr K C "own_tasks"
section
variable {P : Program} {w : World} {K : PySem.W.Frag} {mg : Str → Option Value} {base : Heap} {f : Addr} {fd : FuncData} {C CB : Addr}
theorem PV.of_mem {G : Hp} {ns ms : List Str} {v : V} {p : Pl} (h : PV K G ns v p) (m : ∀ s ∈ ns, s ∈ ms) : PV K G ms v p := ⟨h.dt, h.ok, h.dp, h.sz, h.ndp, h.nm, fun s hs => m s (h.mem s hs)⟩
def spNeed (K : PySem.W.Frag) (C : Addr) : Sp := fun vs H Q _ => ∃ G M d kvs tn, vs = [.ref d] ∧ Zp G M H ∧ FzD G d kvs ∧ Tks K G C kvs tn ∧ NeedOk tn ∧ tn.length ≤ 1000 ∧ ∀ G1 H1, Zp G1 M H1 → Same G G1 → Q .non H1
theorem ok_need (T : Nm K mg) (C_remembered_in : Own P w K mg base CX0 3 "remembered_in" ["tasks"] (spRem K C)) (C_width_of : Own P w K mg base CX0 4 "width_of" ["tasks"] (spWid K C)) (F : FnP K "need_tasks" s_need_tasks f fd) :
    FnOk P w K mg base CX0 5 f fd ["tasks"] (spNeed K C) := by
  have nd : N_need_tasks.Nodup := sc_need_tasks.nd
  refine F.ok sc_need_tasks (fun vs H Q E h => ?_) (fun cdv A outer s H vs Q E hr h => ?_)
  · obtain ⟨G, M, d, kvs, tn, rfl, _⟩ := h
    rfl
  have hu := hr.units
  refine ⟨_, PSs.nox   (pss_cons (ps_if (pt_cmpR o_gt (pe_callB (kc_len (K := K) (P := P) (w := w)) (by rfl) T.b_len PySem.boot_len (pa_cons (pe_own C_remembered_in (hr.mono (by omega)) (by rfl) pass0 (pa_cons (pv 0) pa_nil)) pa_nil)) (pe_gC T.g_REMEMBERED (by rfl)) (nomark _)) (pss_one ps_never) pss_nil)
    (pss_one (ps_if (pt_cmpR o_gt (pe_own C_width_of (hr.mono (by omega)) (by rfl) pass0 (pa_cons (pv 0) pa_nil)) (pe_gC T.g_WIDTH (by rfl)) (nomark _)) (pss_one ps_never) pss_nil))), ?_⟩
  obtain ⟨G, M, d, kvs, tn, rfl, z, hd, hk, hn, hl, q⟩ := h
  have r3 := hn.rm
  have w5 := hn.wd
  repeat (walk_at "z")
  refine ⟨G, M, d, kvs, tn, rfl, z, hd, hk, hn.cl, fun p G1 H1 z1 s1 e1 => ?_⟩
  repeat (walk_at "z")
  refine z_lenT z1 e1 ?_
  repeat (walk_at "z")
  refine z_bF' (decide_eq_false (by rw [List.length_map]; omega)) ?_
  repeat (walk_at "z")
  refine ⟨G1, M, d, kvs, tn, rfl, z1, hd.up s1, hk.up s1, hn.cl, hl, fun G2 H2 z2 s2 => ?_⟩
  repeat (walk_at "z")
  refine z_bF' (decide_eq_false (by omega)) ?_
  repeat (walk_at "z")
  exact q G2 H2 z2 (s1.trans s2)
def spOrd (K : PySem.W.Frag) (C : Addr) : Sp := fun vs H Q _ => ∃ G M d kvs tn, vs = [.ref d] ∧ Zp G M H ∧ FzD G d kvs ∧ Tks K G C kvs tn ∧ (tn.map (·.1)).Nodup ∧ tn.length ≤ 60 ∧ ∀ p kvs' G1 H1, Zp G1 M H1 → Same G G1 → FzD G1 p kvs' → Tks K G1 C kvs' (ordT tn) → Q (.ref p) H1
theorem ok_order (T : Nm K mg) (C_ascendingD : Own P w K mg base CX0 1 "ascending" ["words"] (spAscD K)) (F : FnP K "in_order" s_in_order f fd) : FnOk P w K mg base CX0 2 f fd ["pairs"] (spOrd K C) := by
  have nd : N_in_order.Nodup := sc_in_order.nd
  refine F.ok sc_in_order (fun vs H Q E h => ?_) (fun cdv A outer s H vs Q E hr h => ?_)
  · obtain ⟨G, M, d, kvs, tn, rfl, _⟩ := h
    rfl
  have hu := hr.units
  refine ⟨_, PSs.nox   (pss_one (ps_ret (pe_frz (pe_dc (own := [("key", 1)]) (tt := tYes) rfl nd (k_any (K := K) (pe_own C_ascendingD (hr.mono (by omega)) (by rfl) pass0 (pa_cons (pv 0) pa_nil))) (blkOk_by (N := N_in_order) (sc := defScope s_in_order) (by decide +kernel)) (fun _ _ _ _ _ => (pg_name (i := 1) nd rfl (by first | exact .inl rfl | exact .inr rfl))) (fun _ _ _ _ _ => pts_nil) (fun _ _ _ _ _ => (pv 1)) (fun _ _ _ _ _ => (pe_dget (hu_of hr) (pv 0) (pv 1) (fun _ _ => rfl))))))), ?_⟩
  obtain ⟨G, M, d, kvs, tn, rfl, z, hd, hk, hnd, hl, q⟩ := h
  have hkn : (kvs.map (·.1)).Nodup := by rw [hk.keys]; exact inr_nodup hnd
  repeat (walk_at "z")
  refine z_anyT ?_
  repeat (walk_at "z")
  refine ⟨G, M, d, kvs, tn.map (·.1), rfl, z, hd, hk.keys, by rw [List.length_map]; omega, fun p1 G1 H1 z1 s1 e1 => ?_⟩
  refine z_itT z1 e1 ?_
  have hal := asc_len_le (tn.map (·.1))
  rw [List.length_map] at hal
  refine dc_src src_T (fun i G' M' acc => M' = M ∧ Same G1 G' ∧ Tks K G' C acc ((ordT tn).take i)) z1 ⟨rfl, Same.refl _, by rw [List.take_zero]; exact .nil⟩ (fun i G' M' M1 acc H' ⟨_, s', _⟩ z' => z'.seqT (upT s' e1)) ?_ ?_
  · rintro i x G2 M2 acc Dl H2 hx ⟨rfl, s2, hA⟩ z2
    rw [List.getElem?_map] at hx
    obtain ⟨k, hki, rfl⟩ := Option.map_eq_some_iff.mp hx
    have hm : k ∈ tn.map (·.1) := asc_mem.mp (List.mem_of_getElem? hki)
    obtain ⟨j, t, hj⟩ := find_at hm
    have hlen : kvs.length = tn.length := keys_len hk
    obtain ⟨nm, t', a, h1, h2, h3⟩ := tk_at hk (i := j) (by rw [hlen]; exact (List.getElem?_eq_some_iff.mp hj).1)
    rw [hj] at h2
    obtain ⟨rfl, rfl⟩ : k = nm ∧ t = t' := by simpa using h2
    have hoi : (ordT tn)[i]? = some (k, t) := by
      unfold ordT
      rw [List.getElem?_map, hki, Option.map_some, lookT_of hnd (List.mem_of_getElem? hj)]
    have hi := (List.getElem?_eq_some_iff.mp hki).1
    have hal2 := keys_len hA
    rw [List.length_take] at hal2
    repeat (walk_at "z")
    refine ⟨by rfl, ?_⟩
    repeat (walk_at "z")
    refine z_dgF z2 (hd.up (s1.trans s2)) (valV_ix hkn h1) ?_
    refine z_laidD (k := .inr k) z2 (by omega) ⟨rfl, s2, ?_⟩
    rw [putK_new _ (key_new (asc_nodup _) hki (by rw [hA.keys, List.map_take, ordT_keys])), List.take_add_one, hoi]
    exact paired_snoc ⟨rfl, a, rfl, h3.up (s1.trans s2)⟩ hA
  · rintro p G2 M2 acc H2 ⟨rfl, s2, hA⟩ z2
    rw [List.length_map] at hA
    have e : (ordT tn).length = (asc (tn.map (·.1))).length := by unfold ordT; rw [List.length_map]
    rw [← e, List.take_length] at hA
    exact z_frzL z2 fun G3 H3 z3 s3 f3 => q p acc G3 H3 z3 ((s1.trans s2).trans s3) f3 (hA.up s3)
def spBookM (K : PySem.W.Frag) (C CB : Addr) : Sp := fun vs H Q _ => ∃ G M x dx dk dt v kk kn kt tn p, vs = [.ref x, .ref dk, .ref dt, v] ∧ Zp G (M ++ [(x, .ins CB dx [])]) H ∧ FzD G dk kk ∧ Kds K G kk kn ∧ GoodK kn ∧ FzD G dt kt ∧ Tks K G C kt tn ∧ GoodTs tn ∧ NeedOk tn ∧ PV K G (tn.map (·.1)) v p ∧
  ∀ fs G1 H1, Zp G1 (M ++ [(x, .ins CB dx fs)]) H1 → Same G G1 → BkF K G1 C fs ⟨ordK kn, ordT tn, nf p⟩ → Q .non H1
theorem ok_bookM (T : Nm K mg) (BC : BookC K CB) (C_are_kinds : Own P w K mg base CX0 4 "are_kinds" ["value"] (spKinds K)) (C_are_tasks : Own P w K mg base CX0 2 "are_tasks" ["value"] (spTasks K C)) (C_plan_for : Own P w K mg base CX0 21 "plan_for" ["plan", "tasks"] (spPlanFor K))
    (C_need_tasks : Own P w K mg base CX0 5 "need_tasks" ["tasks"] (spNeed K C)) (C_ascendingD : Own P w K mg base CX0 1 "ascending" ["words"] (spAscD K)) (C_ascendingA : Own P w K mg base CX0 1 "ascending" ["words"] (spAscA K)) (C_in_order : Own P w K mg base CX0 2 "in_order" ["pairs"] (spOrd K C))
    (F : FunD K "__init__" "Book.__init__" (defArgs s_Book_init) (defBody s_Book_init) (defScope s_Book_init) [] [] f fd) : FnOk P w K mg base CX0 22 f fd ["self", "kinds", "tasks", "plan"] (spBookM K C CB) := by
  have nd : N_Book_init.Nodup := sc_Book_init.nd
  refine F.ok sc_Book_init (fun vs H Q E h => ?_) (fun cdv A outer s H vs Q E hr h => ?_)
  · obtain ⟨G, M, x, dx, dk, dt, v, kk, kn, kt, tn, p, rfl, _⟩ := h
    rfl
  have hu := hr.units
  refine ⟨_, PSs.nox   (pss_cons (ps_if (pt_not (pt_val (pe_own C_are_kinds (hr.mono (by omega)) (by rfl) pass0 (pa_cons (pv 1) pa_nil)))) (pss_one ps_never) pss_nil)
    (pss_cons (ps_if (pt_not (pt_val (pe_own C_are_tasks (hr.mono (by omega)) (by rfl) pass0 (pa_cons (pv 2) pa_nil)))) (pss_one ps_never) pss_nil)
    (pss_cons (ps_if (pt_cmpR o_gt (pe_callB c_lenD (by rfl) T.b_len PySem.boot_len (pa_cons (pv 2) pa_nil)) (pe_gC T.g_TASKS (by rfl)) (nomark _)) (pss_one ps_never) pss_nil)
    (pss_cons (ps_fld (pv 0) (pe_own C_plan_for (hr.mono (by omega)) (by rfl) pass0 (pa_cons (pv 3) (pa_cons (pv 2) pa_nil))) rfl)
    (pss_cons (ps_expr (pe_own C_need_tasks (hr.mono (by omega)) (by rfl) pass0 (pa_cons (pv 2) pa_nil)))
    (pss_cons (ps_fld (pv 0) (pe_frz (pe_dc (own := [("kind", 4)]) (tt := tYes) rfl nd (k_any (K := K) (pe_own C_ascendingD (hr.mono (by omega)) (by rfl) pass0 (pa_cons (pv 1) pa_nil))) (blkOk_by (N := N_Book_init) (sc := defScope s_Book_init) (by decide +kernel)) (fun _ _ _ _ _ => (pg_name (i := 4) nd rfl (by first | exact .inl rfl | exact .inr rfl))) (fun _ _ _ _ _ => pts_nil) (fun _ _ _ _ _ => (pv 4)) (fun _ _ _ _ _ => (pe_own C_ascendingA (hr.mono (by omega)) (by rfl) pass0 (pa_cons (pe_dget (hu_of hr) (pv 1) (pv 4) (fun _ _ => rfl)) pa_nil))))) rfl)
    (pss_one (ps_fld (pv 0) (pe_own C_in_order (hr.mono (by omega)) (by rfl) pass0 (pa_cons (pv 2) pa_nil)) rfl)))))))), ?_⟩
  obtain ⟨G, M, x, dx, dk, dt, v, kk, kn, kt, tn, p, rfl, z, hdk, hkn, gk, hdt, htn, gt, hnd, hp, q⟩ := h
  have hlt : kt.length = tn.length := keys_len htn
  have g8 := gt.l8
  have g3 := gk.l3
  repeat (walk_at "z")
  refine ⟨G, _, dk, kk, kn, rfl, z, hdk, hkn, gk, fun G1 H1 z1 s1 => ?_⟩
  repeat (walk_at "z")
  refine ⟨G1, _, dt, kt, tn, rfl, z1, hdt.up s1, htn.up s1, gt, fun G2 H2 z2 s2 => ?_⟩
  repeat (walk_at "z")
  refine z_lenD z2 (hdt.up (s1.trans s2)) ?_
  repeat (walk_at "z")
  refine z_bF' (decide_eq_false (by omega)) ?_
  repeat (walk_at "z")
  refine ⟨G2, _, v, dt, kt, tn.map (·.1), p, rfl, z2, hp.up (s1.trans s2), hdt.up (s1.trans s2), htn.keys, fun v' G3 H3 z3 s3 hp3 => ?_⟩
  have s13 := (s1.trans s2).trans s3
  repeat (walk_at "z")
  refine z_fsL z3 BC.cl BC.n1 (by decide) fun H4 z4 => ?_
  repeat (walk_at "z")
  refine ⟨G3, _, dt, kt, tn, rfl, z4, hdt.up s13, htn.up s13, hnd, by omega, fun G5 H5 z5 s5 => ?_⟩
  have s15 := s13.trans s5
  repeat (walk_at "z")
  refine z_anyT ?_
  repeat (walk_at "z")
  refine ⟨G5, _, dk, kk, kn.map (·.1), rfl, z5, hdk.up s15, hkn.keys, by rw [List.length_map]; omega, fun p6 G6 H6 z6 s6 e6 => ?_⟩
  refine z_itT z6 e6 ?_
  have s16 := s15.trans s6
  have hknd : (kk.map (·.1)).Nodup := by rw [hkn.keys]; exact inr_nodup gk.nd
  have hal := asc_len_le (kn.map (·.1))
  rw [List.length_map] at hal
  refine dc_src src_T (fun i G' M' acc => M' = M ++ [(x, .ins CB dx [("own_plan", v')])] ∧ Same G6 G' ∧ Kdt K G' acc ((ordK kn).take i)) z6 ⟨rfl, Same.refl _, by rw [List.take_zero]; exact .nil⟩ (fun i G' M' M1 acc H' ⟨_, s', _⟩ z' => z'.seqT (upT s' e6)) ?_ ?_
  · rintro i y G7 M7 acc Dl H7 hx ⟨rfl, s7, hA⟩ z7
    rw [List.getElem?_map] at hx
    obtain ⟨k, hki, rfl⟩ := Option.map_eq_some_iff.mp hx
    have hm : k ∈ kn.map (·.1) := asc_mem.mp (List.mem_of_getElem? hki)
    obtain ⟨j, rs, hj⟩ := find_at hm
    have hlen : kk.length = kn.length := keys_len hkn
    obtain ⟨⟨pk, pv'⟩, ⟨qk, qr⟩, h1, h2, hpk, d', hdd, hli, hit⟩ := pair_at hkn (i := j) (by rw [hlen]; exact (List.getElem?_eq_some_iff.mp hj).1)
    rw [hj] at h2
    obtain ⟨rfl, rfl⟩ : k = qk ∧ rs = qr := by simpa using h2
    have hpk : pk = .inr k := hpk
    subst hpk
    have hit : itemsD d' = rs.map PyData.str := hit
    have hrs : rs.length ≤ 4 := (gk.rs (k, rs) (List.mem_of_getElem? hj)).1
    have hoi : (ordK kn)[i]? = some (k, asc rs) := by
      unfold ordK
      rw [List.getElem?_map, hki, Option.map_some, lookK_of gk.nd (List.mem_of_getElem? hj)]
    have hal2 := keys_len hA
    rw [List.length_take] at hal2
    have hi := (List.getElem?_eq_some_iff.mp hki).1
    repeat (walk_at "z")
    refine ⟨by rfl, ?_⟩
    repeat (walk_at "z")
    refine z_dgS z7 (hdk.up (s16.trans s7)) (valV_ix hknd h1) ?_
    repeat (walk_at "z")
    refine ⟨G7, _, pv', d', rs, rfl, z7, .inl (hdd.up (s16.trans s7)), hli, hit, by omega, fun p8 G8 H8 z8 s8 e8 => ?_⟩
    refine z_laidD (k := .inr k) z8 (by omega) ⟨rfl, s7.trans s8, ?_⟩
    rw [putK_new _ (key_new (asc_nodup _) hki (by rw [hA.keys, List.map_take, ordK_keys])), List.take_add_one, hoi]
    exact paired_snoc ⟨rfl, p8, rfl, e8⟩ (hA.up s8)
  · rintro p7 G7 M7 acc H7 ⟨rfl, s7, hA⟩ z7
    rw [List.length_map] at hA
    have e : (ordK kn).length = (asc (kn.map (·.1))).length := by unfold ordK; rw [List.length_map]
    rw [← e, List.take_length] at hA
    refine z_frzL z7 fun G8 H8 z8 s8 f8 => ?_
    have s18 := (s16.trans s7).trans s8
    repeat (walk_at "z")
    refine z_fsL z8 BC.cl BC.n2 (by simp) fun H9 z9 => ?_
    repeat (walk_at "z")
    refine ⟨G8, _, dt, kt, tn, rfl, z9, hdt.up s18, htn.up s18, gt.nd, by omega, fun p10 kt' G10 H10 z10 s10 f10 t10 => ?_⟩
    repeat (walk_at "z")
    refine z_fsL z10 BC.cl BC.n3 (putF_lt (n := 999) (by simp)) fun H11 z11 => ?_
    exact q _ G10 H11 z11 (s18.trans s10) ⟨v', p7, p10, acc, kt', rfl, PV.of_mem (hp3.up ((((s5.trans s6).trans s7).trans s8).trans s10)) (fun s hs => by
      show s ∈ (ordT tn).map (·.1)
      rw [ordT_keys]
      exact asc_mem.mpr hs), f8.up s10, (hA.up s8).up s10, f10, t10⟩
def spBook (K : PySem.W.Frag) (C CB : Addr) : Sp := fun vs H Q _ => ∃ G M x dx dk dt v kk kn kt tn p, vs = [.ref x, .ref dk, .ref dt, v] ∧ Zp G (M ++ [(x, .ins CB dx [])]) H ∧ FzD G dk kk ∧ Kds K G kk kn ∧ GoodK kn ∧ FzD G dt kt ∧ Tks K G C kt tn ∧ GoodTs tn ∧ NeedOk tn ∧ PV K G (tn.map (·.1)) v p ∧
  ∀ G1 H1, Zp G1 M H1 → Same G G1 → BkI K G1 C CB x ⟨ordK kn, ordT tn, nf p⟩ → Q .non H1
theorem spBook_of {vs : List V} {H : Hp} {Q : VK} {E : XK} (h : spBook K C CB vs H Q E) : spBookM K C CB vs H Q E := by
  obtain ⟨G, M, x, dx, dk, dt, v, kk, kn, kt, tn, p, h0, z, h1, h2, h3, h4, h5, h6, h7, h8, q⟩ := h
  refine ⟨G, M, x, dx, dk, dt, v, kk, kn, kt, tn, p, h0, z, h1, h2, h3, h4, h5, h6, h7, h8, fun fs G1 H1 z1 s1 hb => ?_⟩
  have fr : G1 x = none := (z1.own M.length _ _ last_at).2
  have sN := Same.new (o := HO.ins CB dx fs) fr
  exact q _ _ z1.fix (s1.trans sN) ((hb.up sN).at_ upd_same)
end
end LW
namespace LW
open PySem PySem.Spec PyProof.Rows L2 Ys

/-! ### what plan_for finds wrong in a plan -/
inductive Due where
  | many (i : Int)
  | task (s : Str)
def due (ks : List Str) (p : Pl) : Option Due := if 16 < (nmsL p).length then some (.many 16) else if 5 < (Ys.nf p).dp then some (.many 5) else ((asc (nmsL p)).filter fun s => !decide (s ∈ ks)).head?.map .task
theorem strange_at {ks : List Str} {s : Str} : ∀ {l : List Str} {i : Nat}, l[i]? = some s → (∀ x ∈ l.take i, x ∈ ks) → s ∉ ks → (l.filter fun s => !decide (s ∈ ks)).head? = some s
  | [], _, h, _, _ => by simp at h
  | x :: l, 0, h, _, hs => by
    obtain rfl : x = s := by simpa using h
    rw [List.filter_cons, if_pos (by simp [hs])]
    rfl
  | x :: l, i + 1, h, ha, hs => by
    rw [List.filter_cons, if_neg (by simpa using ha x (by simp))]
    exact strange_at (l := l) (i := i) (by simpa using h) (fun y hy => ha y (by rw [List.take_succ_cons]; exact List.mem_cons_of_mem _ hy)) hs
theorem strange_no {ks l : List Str} (h : ∀ x ∈ l, x ∈ ks) : (l.filter fun s => !decide (s ∈ ks)).head? = none := by
  have : (l.filter fun s => !decide (s ∈ ks)) = [] := List.filter_eq_nil_iff.mpr fun x hx => by simp [h x hx]
  rw [this]
  rfl
theorem due_nm {ks : List Str} {p : Pl} (h : 16 < (nmsL p).length) : due ks p = some (.many 16) := if_pos h
theorem due_dp {ks : List Str} {p : Pl} (h : ¬ 16 < (nmsL p).length) (h2 : 5 < (Ys.nf p).dp) : due ks p = some (.many 5) := by
  unfold due
  rw [if_neg h, if_pos h2]
theorem due_tk {ks : List Str} {p : Pl} (h : ¬ 16 < (nmsL p).length) (h2 : ¬ 5 < (Ys.nf p).dp) : due ks p = ((asc (nmsL p)).filter fun s => !decide (s ∈ ks)).head?.map .task := by
  unfold due
  rw [if_neg h, if_neg h2]
section
variable {P : Program} {w : World} {K : PySem.W.Frag} {mg : Str → Option Value} {base : Heap} {f : Addr} {fd : FuncData} {C CB CI CM CU : Addr}
theorem valV_isno {kvs : List (Key × V)} {k : Key} (h : k ∉ kvs.map (·.1)) : (valV kvs k).isSome = false := by rw [valV_out h]; rfl
structure PW (K : PySem.W.Frag) (G : Hp) (v : V) (p : Pl) : Prop where
  dt : Dt K G v p.d
  ok : Ok false p
  dp : p.dp ≤ 15
  sz : p.sz ≤ 600
  nm : (nmsL p).length < 64
theorem PW.up {G G1 : Hp} {v : V} {p : Pl} (h : PW K G v p) (s : Same G G1) : PW K G1 v p := ⟨h.dt.up s, h.ok, h.dp, h.sz, h.nm⟩
theorem PW.nf {G : Hp} {v v' : V} {p : Pl} (h : PW K G v p) (d : Dt K G v' (Ys.nf p).d) : PW K G v' (Ys.nf p) :=
  ⟨d, nf_ok p false h.ok, Nat.le_trans (nf_dp p) h.dp, Nat.le_trans (nf_sz p) h.sz, by rw [nms_nf]; exact h.nm⟩
theorem PW.dep {G : Hp} {v : V} {p : Pl} (h : PW K G v p) : p.d.depth < 17 := by
  have := pd_dep p
  have := h.dp
  omega
theorem w_normal {G H : Hp} {M : List (Addr × HO)} {v : V} {p : Pl} {Q : VK} {E : XK} (h : PW K G v p) (z : Zp G M H) (q : ∀ v' G1 H1, Zp G1 M H1 → Same G G1 → PW K G1 v' (nf p) → Q v' H1) : spNormal K CI 17 [v] H Q E :=
  ⟨G, M, v, p.d, rfl, z, h.dt, pl_sht p (Ok.nms _ _ h.ok), h.dep, fun _ => ⟨p, rfl, h.ok, by have := h.dp; omega, by have := h.dp; omega, by have := h.sz; omega, fun v' G1 H1 z1 s1 d1 => q v' G1 H1 z1 s1 ((h.up s1).nf d1)⟩, fun e he => by
    rw [wp_ok p false h.ok] at he
    cases he⟩
theorem w_names {G H : Hp} {M : List (Addr × HO)} {v : V} {p : Pl} {Q : VK} {E : XK} (h : PW K G v p) (z : Zp G M H) (q : ∀ l G1 H1, Zp G1 M H1 → Same G G1 → SqT K G1 l ((asc (nmsL p)).map V.str) → Q (.ref l) H1) : spNamesIn K 17 [v] H Q E :=
  ⟨G, M, v, p, rfl, z, h.dt, by have := h.dp; omega, by have := h.sz; omega, h.nm, q⟩
theorem w_num {G H : Hp} {M : List (Addr × HO)} {v : V} {p : Pl} {g : Pl → Int} {Q : VK} {E : XK} (h : PW K G v p) (z : Zp G M H) (q : ∀ G1 H1, Zp G1 M H1 → Same G G1 → Q (.int (g p)) H1) : spNum K g 17 [v] H Q E := ⟨G, M, v, p, rfl, z, h.dt, by have := h.dp; omega, by have := h.sz; omega, q⟩
def DErr (K : PySem.W.Frag) (CM CU : Addr) (G : Hp) (M : List (Addr × HO)) (E : XK) : Due → Prop
  | .many i => ∀ dx G1 H1, Zp G1 M H1 → Same G G1 → G1 dx = some (.xd [("limit", .int i)]) → E (.ref CM) (some dx) H1
  | .task s => ∀ dx G1 H1, Zp G1 M H1 → Same G G1 → G1 dx = some (.xd [("value", .str s)]) → E (.ref CU) (some dx) H1
theorem DErr.up {G G1 : Hp} {M : List (Addr × HO)} {E : XK} : ∀ {e : Due}, DErr K CM CU G M E e → Same G G1 → DErr K CM CU G1 M E e
  | .many _, h, s => fun dx G2 H2 z2 s2 hx => h dx G2 H2 z2 (s.trans s2) hx
  | .task _, h, s => fun dx G2 H2 z2 s2 hx => h dx G2 H2 z2 (s.trans s2) hx
theorem DErr.more {G G1 : Hp} {M : List (Addr × HO)} {o : Addr × HO} {E : XK} : ∀ {e : Due}, DErr K CM CU G M E e → Same G G1 → DErr K CM CU G1 (M ++ [o]) E e
  | .many _, h, s => fun dx G2 H2 z2 s2 hx => h dx G2 H2 z2.cut (s.trans s2) hx
  | .task _, h, s => fun dx G2 H2 z2 s2 hx => h dx G2 H2 z2.cut (s.trans s2) hx
def spPlanG (K : PySem.W.Frag) (CM CU : Addr) : Sp := fun vs H Q E => ∃ G M v d kvs ks p, vs = [v, .ref d] ∧ Zp G M H ∧ PW K G v p ∧ FzD G d kvs ∧ kvs.map (·.1) = ks.map .inr ∧ (due ks p = none → ∀ v' G1 H1, Zp G1 M H1 → Same G G1 → PV K G1 ks v' (nf p) → Q v' H1) ∧ ∀ e, due ks p = some e → DErr K CM CU G M E e
theorem ok_plan_g (T : Nm K mg) (S_TooMany : ExcG P w K mg base CM "TooMany" "limit") (S_UnknownTask : ExcG P w K mg base CU "UnknownTask" "value") (C_normal : Own P w K mg base (L2.CX P w) 20 "normal" ["plan"] (spNormal K CI 17)) (C_count_names : Own P w K mg base CX0 18 "count_names" ["plan"] (spNum K lenI 17)) (C_levels_of : Own P w K mg base CX0 18 "levels_of" ["plan"] (spNum K dpI 17))
    (C_names_in : Own P w K mg base CX0 19 "names_in" ["plan"] (spNamesIn K 17)) (F : FnP K "plan_for" s_plan_for f fd) : FnOk P w K mg base (L2.CX P w) 21 f fd ["plan", "tasks"] (spPlanG K CM CU) := by
  have nd : N_plan_for.Nodup := sc_plan_for.nd
  refine F.ok sc_plan_for (fun vs H Q E h => ?_) (fun cdv A outer s H vs Q E hr h => ?_)
  · obtain ⟨G, M, v, d, kvs, ks, p, rfl, _⟩ := h
    rfl
  have hu := hr.units
  refine ⟨_,   (pss_cons (ps_asg (pe_ownX C_normal (hr.mono (by omega)) (by rfl) (takes_of rfl rfl rfl rfl) (pa_cons (pv 0) pa_nil)) (pg_name (i := 2) nd rfl (by first | exact .inl rfl | exact .inr rfl)))
    (pss_cons (ps_if (pt_cmpR o_gt (pe_own C_count_names (hr.mono (by omega)) (by rfl) pass0 (pa_cons (pv 0) pa_nil)) (pe_gC T.g_NAMES (by rfl)) (nomark _)) (pss_one (ps_rsG S_TooMany rfl (takes_of rfl rfl rfl rfl) (hr.mono (by omega)) (by rfl) (pe_gC T.g_NAMES (by rfl)))) pss_nil)
    (pss_cons (ps_if (pt_cmpR o_gt (pe_own C_levels_of (hr.mono (by omega)) (by rfl) pass0 (pa_cons (pv 2) pa_nil)) (pe_gC T.g_LEVELS (by rfl)) (nomark _)) (pss_one (ps_rsG S_TooMany rfl (takes_of rfl rfl rfl rfl) (hr.mono (by omega)) (by rfl) (pe_gC T.g_LEVELS (by rfl)))) pss_nil)
    (pss_cons (ps_for (passes_of rfl) rfl (k_any (K := K) (pe_own C_names_in (hr.mono (by omega)) (by rfl) pass0 (pa_cons (pv 0) pa_nil))) (pg_name (i := 3) nd rfl (by first | exact .inl rfl | exact .inr rfl)) (pss_one (ps_if (pt_cmp (pc_dnotin (hu_of hr) (pv 3) (pv 1))) (pss_one (ps_rsG S_UnknownTask rfl (takes_of rfl rfl rfl rfl) (hr.mono (by omega)) (by rfl) (pv 3))) pss_nil)))
    (pss_one (ps_ret (pv 2))))))), ?_⟩
  obtain ⟨G, M, v, d, kvs, ks, p, rfl, z, hp, hd, hk, q, qx⟩ := h
  repeat (walk_at "z")
  refine w_normal hp z fun v' G1 H1 z1 s1 hp1 => ?_
  repeat (walk_at "z")
  refine w_num (hp.up s1) z1 fun G2 H2 z2 s2 => ?_
  repeat (walk_at "z")
  by_cases h16 : 16 < (nmsL p).length
  · refine z_bT' (decide_eq_true (by unfold lenI; omega)) ?_
    repeat (walk_at "z")
    exact z_rsI fun dd hdd => qx _ (due_nm h16) dd _ _ (z2.new hdd _) ((s1.trans s2).trans (Same.new (z2.free hdd))) upd_same
  refine z_bF' (decide_eq_false (by unfold lenI; omega)) ?_
  repeat (walk_at "z")
  refine w_num (hp1.up s2) z2 fun G3 H3 z3 s3 => ?_
  have s13 := (s1.trans s2).trans s3
  repeat (walk_at "z")
  by_cases h5 : 5 < (Ys.nf p).dp
  · refine z_bT' (decide_eq_true (by unfold dpI; omega)) ?_
    repeat (walk_at "z")
    exact z_rsI fun dd hdd => qx _ (due_dp h16 h5) dd _ _ (z3.new hdd _) (s13.trans (Same.new (z3.free hdd))) upd_same
  refine z_bF' (decide_eq_false (by unfold dpI; omega)) ?_
  repeat (walk_at "z")
  refine z_anyT ?_
  repeat (walk_at "z")
  refine w_names (hp.up s13) z3 fun l G4 H4 z4 s4 e4 => ?_
  have s14 := s13.trans s4
  have et := due_tk (ks := ks) h16 h5
  refine z_itT z4 e4 ?_
  refine for_src src_T (fun i σ G' M' => ∃ k3, M' = M ∧ Same G4 G' ∧ (∀ x ∈ (asc (nmsL p)).take i, x ∈ ks) ∧ σ = [some v, some (.ref d), some v', k3]) z4 ⟨_, rfl, Same.refl _, (fun x hx => by simp at hx), rfl⟩ (fun i σ G' M' H' ⟨_, _, s', _⟩ z' => z'.seqT (upT s' e4)) ?_ ?_
  · rintro i x σ G' M' H' hx ⟨k3, rfl, s', hin, rfl⟩ z'
    rw [List.getElem?_map] at hx
    obtain ⟨nm, hnm, rfl⟩ := Option.map_eq_some_iff.mp hx
    repeat (walk_at "z")
    refine z_diF (k := .inr nm) z' (hd.up (s14.trans s')) ?_
    by_cases hm : nm ∈ ks
    · have hkey : (.inr nm : Key) ∈ kvs.map (·.1) := by
        rw [hk]
        exact List.mem_map.mpr ⟨nm, hm, rfl⟩
      rw [valV_isin hkey]
      repeat (walk_at "z")
      exact ⟨G', _, z', _, rfl, s', fun x hx => by
        rw [take_snoc hnm] at hx
        rcases List.mem_append.mp hx with hx | hx
        · exact hin x hx
        · rw [List.mem_singleton.mp hx]; exact hm, rfl⟩
    · have hkey : (.inr nm : Key) ∉ kvs.map (·.1) := by
        rw [hk]
        intro h0
        obtain ⟨y, hy, e⟩ := List.mem_map.mp h0
        cases e
        exact hm hy
      have hno : (valV kvs (.inr nm)).isSome = false := valV_isno hkey
      rw [hno]
      refine ⟨true, rfl, ?_⟩
      repeat (walk_at "z")
      exact z_rsI fun dd hdd => qx (.task nm) (by rw [et, strange_at hnm hin hm]; rfl) dd _ _ (z'.new hdd _) ((s14.trans s').trans (Same.new (z'.free hdd))) upd_same
  · rintro σ G' M' H' ⟨k3, rfl, s', hin, rfl⟩ z'
    rw [List.length_map, List.take_length] at hin
    repeat (walk_at "z")
    refine q (by rw [et, strange_no hin]; rfl) v' G' H' z' (s14.trans s') ?_
    have h1 := hp1.up (((s2.trans s3).trans s4).trans s')
    exact ⟨h1.dt, h1.ok, by have := h1.dp; omega, h1.sz, Nat.le_trans (nf_dp _) (by omega), by rw [nms_nf]; omega, fun x hx => hin x (asc_mem.mpr (by rw [nms_nf] at hx; exact hx))⟩
def spBookG (K : PySem.W.Frag) (C CB CM CU : Addr) : Sp := fun vs H Q E => ∃ G M x dx dk dt v kk kn kt tn p, vs = [.ref x, .ref dk, .ref dt, v] ∧ Zp G (M ++ [(x, .ins CB dx [])]) H ∧ FzD G dk kk ∧ Kds K G kk kn ∧ GoodK kn ∧ FzD G dt kt ∧ Tks K G C kt tn ∧ GoodTs tn ∧ NeedOk tn ∧ PW K G v p ∧
  (due (tn.map (·.1)) p = none → ∀ fs G1 H1, Zp G1 (M ++ [(x, .ins CB dx fs)]) H1 → Same G G1 → BkF K G1 C fs ⟨ordK kn, ordT tn, nf p⟩ → Q .non H1) ∧ ∀ e, due (tn.map (·.1)) p = some e → DErr K CM CU G M E e
theorem ok_book_g (T : Nm K mg) (BC : BookC K CB) (C_are_kinds : Own P w K mg base CX0 4 "are_kinds" ["value"] (spKinds K)) (C_are_tasks : Own P w K mg base CX0 2 "are_tasks" ["value"] (spTasks K C)) (C_plan_for : Own P w K mg base (L2.CX P w) 21 "plan_for" ["plan", "tasks"] (spPlanG K CM CU))
    (C_need_tasks : Own P w K mg base CX0 5 "need_tasks" ["tasks"] (spNeed K C)) (C_ascendingD : Own P w K mg base CX0 1 "ascending" ["words"] (spAscD K)) (C_ascendingA : Own P w K mg base CX0 1 "ascending" ["words"] (spAscA K)) (C_in_order : Own P w K mg base CX0 2 "in_order" ["pairs"] (spOrd K C))
    (F : FunD K "__init__" "Book.__init__" (defArgs s_Book_init) (defBody s_Book_init) (defScope s_Book_init) [] [] f fd) : FnOk P w K mg base (L2.CX P w) 22 f fd ["self", "kinds", "tasks", "plan"] (spBookG K C CB CM CU) := by
  have nd : N_Book_init.Nodup := sc_Book_init.nd
  refine F.ok sc_Book_init (fun vs H Q E h => ?_) (fun cdv A outer s H vs Q E hr h => ?_)
  · obtain ⟨G, M, x, dx, dk, dt, v, kk, kn, kt, tn, p, rfl, _⟩ := h
    rfl
  have hu := hr.units
  refine ⟨_,   (pss_cons (ps_if (pt_not (pt_val (pe_own C_are_kinds (hr.mono (by omega)) (by rfl) pass0 (pa_cons (pv 1) pa_nil)))) (pss_one ps_never) pss_nil)
    (pss_cons (ps_if (pt_not (pt_val (pe_own C_are_tasks (hr.mono (by omega)) (by rfl) pass0 (pa_cons (pv 2) pa_nil)))) (pss_one ps_never) pss_nil)
    (pss_cons (ps_if (pt_cmpR o_gt (pe_callB c_lenD (by rfl) T.b_len PySem.boot_len (pa_cons (pv 2) pa_nil)) (pe_gC T.g_TASKS (by rfl)) (nomark _)) (pss_one ps_never) pss_nil)
    (pss_cons (ps_fld (pv 0) (pe_ownX C_plan_for (hr.mono (by omega)) (by rfl) (takes_of rfl rfl rfl rfl) (pa_cons (pv 3) (pa_cons (pv 2) pa_nil))) rfl)
    (pss_cons (ps_expr (pe_own C_need_tasks (hr.mono (by omega)) (by rfl) pass0 (pa_cons (pv 2) pa_nil)))
    (pss_cons (ps_fld (pv 0) (pe_frz (pe_dc (own := [("kind", 4)]) (tt := tYes) rfl nd (k_any (K := K) (pe_own C_ascendingD (hr.mono (by omega)) (by rfl) pass0 (pa_cons (pv 1) pa_nil))) (blkOk_by (N := N_Book_init) (sc := defScope s_Book_init) (by decide +kernel)) (fun _ _ _ _ _ => (pg_name (i := 4) nd rfl (by first | exact .inl rfl | exact .inr rfl))) (fun _ _ _ _ _ => pts_nil) (fun _ _ _ _ _ => (pv 4)) (fun _ _ _ _ _ => (pe_own C_ascendingA (hr.mono (by omega)) (by rfl) pass0 (pa_cons (pe_dget (hu_of hr) (pv 1) (pv 4) (fun _ _ => rfl)) pa_nil))))) rfl)
    (pss_one (ps_fld (pv 0) (pe_own C_in_order (hr.mono (by omega)) (by rfl) pass0 (pa_cons (pv 2) pa_nil)) rfl)))))))), ?_⟩
  obtain ⟨G, M, x, dx, dk, dt, v, kk, kn, kt, tn, p, rfl, z, hdk, hkn, gk, hdt, htn, gt, hnd, hp, q, qx⟩ := h
  have hlt : kt.length = tn.length := keys_len htn
  have g8 := gt.l8
  have g3 := gk.l3
  repeat (walk_at "z")
  refine ⟨G, _, dk, kk, kn, rfl, z, hdk, hkn, gk, fun G1 H1 z1 s1 => ?_⟩
  repeat (walk_at "z")
  refine ⟨G1, _, dt, kt, tn, rfl, z1, hdt.up s1, htn.up s1, gt, fun G2 H2 z2 s2 => ?_⟩
  repeat (walk_at "z")
  refine z_lenD z2 (hdt.up (s1.trans s2)) ?_
  repeat (walk_at "z")
  refine z_bF' (decide_eq_false (by omega)) ?_
  repeat (walk_at "z")
  refine ⟨G2, _, v, dt, kt, tn.map (·.1), p, rfl, z2, hp.up (s1.trans s2), hdt.up (s1.trans s2), htn.keys, fun hdu v' G3 H3 z3 s3 hp3 => ?_, fun e he => (qx e he).more (s1.trans s2)⟩
  have s13 := (s1.trans s2).trans s3
  repeat (walk_at "z")
  refine z_fsL z3 BC.cl BC.n1 (by decide) fun H4 z4 => ?_
  repeat (walk_at "z")
  refine ⟨G3, _, dt, kt, tn, rfl, z4, hdt.up s13, htn.up s13, hnd, by omega, fun G5 H5 z5 s5 => ?_⟩
  have s15 := s13.trans s5
  repeat (walk_at "z")
  refine z_anyT ?_
  repeat (walk_at "z")
  refine ⟨G5, _, dk, kk, kn.map (·.1), rfl, z5, hdk.up s15, hkn.keys, by rw [List.length_map]; omega, fun p6 G6 H6 z6 s6 e6 => ?_⟩
  refine z_itT z6 e6 ?_
  have s16 := s15.trans s6
  have hknd : (kk.map (·.1)).Nodup := by rw [hkn.keys]; exact inr_nodup gk.nd
  have hal := asc_len_le (kn.map (·.1))
  rw [List.length_map] at hal
  refine dc_src src_T (fun i G' M' acc => M' = M ++ [(x, .ins CB dx [("own_plan", v')])] ∧ Same G6 G' ∧ Kdt K G' acc ((ordK kn).take i)) z6 ⟨rfl, Same.refl _, by rw [List.take_zero]; exact .nil⟩ (fun i G' M' M1 acc H' ⟨_, s', _⟩ z' => z'.seqT (upT s' e6)) ?_ ?_
  · rintro i y G7 M7 acc Dl H7 hx ⟨rfl, s7, hA⟩ z7
    rw [List.getElem?_map] at hx
    obtain ⟨k, hki, rfl⟩ := Option.map_eq_some_iff.mp hx
    have hm : k ∈ kn.map (·.1) := asc_mem.mp (List.mem_of_getElem? hki)
    obtain ⟨j, rs, hj⟩ := find_at hm
    have hlen : kk.length = kn.length := keys_len hkn
    obtain ⟨⟨pk, pv'⟩, ⟨qk, qr⟩, h1, h2, hpk, d', hdd, hli, hit⟩ := pair_at hkn (i := j) (by rw [hlen]; exact (List.getElem?_eq_some_iff.mp hj).1)
    rw [hj] at h2
    obtain ⟨rfl, rfl⟩ : k = qk ∧ rs = qr := by simpa using h2
    have hpk : pk = .inr k := hpk
    subst hpk
    have hit : itemsD d' = rs.map PyData.str := hit
    have hrs : rs.length ≤ 4 := (gk.rs (k, rs) (List.mem_of_getElem? hj)).1
    have hoi : (ordK kn)[i]? = some (k, asc rs) := by
      unfold ordK
      rw [List.getElem?_map, hki, Option.map_some, lookK_of gk.nd (List.mem_of_getElem? hj)]
    have hal2 := keys_len hA
    rw [List.length_take] at hal2
    have hi := (List.getElem?_eq_some_iff.mp hki).1
    repeat (walk_at "z")
    refine ⟨by rfl, ?_⟩
    repeat (walk_at "z")
    refine z_dgS z7 (hdk.up (s16.trans s7)) (valV_ix hknd h1) ?_
    repeat (walk_at "z")
    refine ⟨G7, _, pv', d', rs, rfl, z7, .inl (hdd.up (s16.trans s7)), hli, hit, by omega, fun p8 G8 H8 z8 s8 e8 => ?_⟩
    refine z_laidD (k := .inr k) z8 (by omega) ⟨rfl, s7.trans s8, ?_⟩
    rw [putK_new _ (key_new (asc_nodup _) hki (by rw [hA.keys, List.map_take, ordK_keys])), List.take_add_one, hoi]
    exact paired_snoc ⟨rfl, p8, rfl, e8⟩ (hA.up s8)
  · rintro p7 G7 M7 acc H7 ⟨rfl, s7, hA⟩ z7
    rw [List.length_map] at hA
    have e : (ordK kn).length = (asc (kn.map (·.1))).length := by unfold ordK; rw [List.length_map]
    rw [← e, List.take_length] at hA
    refine z_frzL z7 fun G8 H8 z8 s8 f8 => ?_
    have s18 := (s16.trans s7).trans s8
    repeat (walk_at "z")
    refine z_fsL z8 BC.cl BC.n2 (by simp) fun H9 z9 => ?_
    repeat (walk_at "z")
    refine ⟨G8, _, dt, kt, tn, rfl, z9, hdt.up s18, htn.up s18, gt.nd, by omega, fun p10 kt' G10 H10 z10 s10 f10 t10 => ?_⟩
    repeat (walk_at "z")
    refine z_fsL z10 BC.cl BC.n3 (putF_lt (n := 999) (by simp)) fun H11 z11 => ?_
    exact q hdu _ G10 H11 z11 (s18.trans s10) ⟨v', p7, p10, acc, kt', rfl, PV.of_mem (hp3.up ((((s5.trans s6).trans s7).trans s8).trans s10)) (fun s hs => by
      show s ∈ (ordT tn).map (·.1)
      rw [ordT_keys]
      exact asc_mem.mpr hs), f8.up s10, (hA.up s8).up s10, f10, t10⟩

/-! ### the plan of a book set -/
theorem z_flL {K : PySem.W.Frag} {G H : Hp} {M : List (Addr × HO)} {a C dx : Addr} {fs : List (Str × V)} {fl : Str} {v : V} {Q : VK} (z : Zp G (M ++ [(a, .ins C dx fs)]) H) (c : Cls K C) (n : NoAttr K C fl) (l : fs.lookup fl = some v) (q : Q v H) : FlW K fl (.ref a) H Q := ⟨a, C, dx, fs, v, rfl, z.at_ M.length last_at, c, n, l, q⟩
end
section
variable {X : Cx} {n : Nat} {f C : Addr} {fd : FuncData} {ps : List Str} {sp : Sp} {o value : Expr} {ta tv : TE} {pos pos' : Pos} {W : WX}
def sPsetX (C : Addr) (sp : Sp) (W : WX) (ta tv : TE) : TS := fun D σ H => tv σ H fun y H1 => ta σ H1 fun x H2 => ∃ c dx fs, x = .ref c ∧ H2 c = some (.ins C dx fs) ∧ sp [x, y] H2 (fun _ H3 => D.nx σ H3) (WE W σ)
theorem ps_psetX {nm : Str} (F : FnOk X.prog X.w X.K X.mg X.base (L2.CX X.prog X.w) n f fd ps sp) (ha : PE X o ta) (hv : PE X value tv) (c : Cls X.K C) (hp : PropSet X.K C nm f) (hbd : Binds X.K fd ps []) (tk : Takes X W) (hr : Room (n + 2) X.A)
    (hs : swapsWith value (some (.Attribute o nm pos')) pos.line X.env = pure false) : PS X (.Assign [.Attribute o nm pos'] value pos) (sPsetX C sp W ta tv) := by
  refine ⟨fun pins s σ H D I h => ?_⟩
  refine plainObj_wpAny_Assign_Attribute (thn (hv.run pins s σ H _ I h) fun u s1 ⟨y, H1, I1, ry, q⟩ => thn (ha.run pins s1 σ H1 _ I1 q) fun ov s2 ⟨x, H2, I2, rx, k, dx, fs, ex, ea, q2⟩ => ?_) hs
  subst ex
  obtain rfl : ov = Value.ref k := rx
  obtain ⟨mA, J, _⟩ := ins_get I2.hok ea
  obtain ⟨od, J, _⟩ := J.look
  obtain ⟨m, hF⟩ := I2.fr
  obtain ⟨p, a0, rest, h1, h2, h3⟩ := hp.ex
  have I3 := I2.tok (s2.toks + 1)
  refine PySem.W.set_prop hF I2.ok.mod.kin J c.sa c.po h1 h2 h3 ?_
  have hl := F.len _ _ _ _ q2
  refine codeAny_mono (F.run X.A.in1.in1 X.stack _ H2 ⟨[.ref k, u], []⟩ [.ref k, u] [.ref k, y] _ (WE W σ) hr.in1.in1 I3.env0.in1.in1 (by
    have := hbd _ [.ref k, u] I3.kIn (by simpa using hl)
    simpa using this) (.cons rfl (.cons ry .nil)) q2) fun r s' hq => ?_
  match r, hq with
  | .error e, hq => exact passAt tk σ pins H2 _ e s' I3 hq
  | .ok (.ret w), hq =>
    obtain ⟨v, H4, I4, _, q4⟩ := I3.after hq
    exact ⟨σ, H4, I4, q4⟩
  | .ok .next, hq => exact False.elim hq
  | .ok .brk, hq => exact False.elim hq
  | .ok .cont, hq => exact False.elim hq
def PsetX (C : Addr) (sp : Sp) (E : XK) (D : Ends) (σ : L2.St) (y x : V) (H2 : Hp) : Prop := ∃ c dx fs, x = .ref c ∧ H2 c = some (.ins C dx fs) ∧ sp [x, y] H2 (fun _ H3 => D.nx σ H3) E
theorem z_psetX {D : Ends} {σ : L2.St} {H : Hp} (h : tv σ H fun y H1 => ta σ H1 fun x H2 => PsetX C sp (WE W σ) D σ y x H2) : sPsetX C sp W ta tv D σ H := h
end
section
variable {P : Program} {w : World} {K : PySem.W.Frag} {mg : Str → Option Value} {base : Heap} {f : Addr} {fd : FuncData} {C CB CI CM CU : Addr}
def Err1 (K : PySem.W.Frag) (CI : Addr) (G : Hp) (M : List (Addr × HO)) (e : PyData) (E : XK) : Prop := ∀ dx v' G1 H1, Zp G1 M H1 → Same G G1 → Dt K G1 v' e → G1 dx = some (.xd [("value", v')]) → E (.ref CI) (some dx) H1
def spPlanBad (K : PySem.W.Frag) (CI : Addr) : Sp := fun vs H Q E => ∃ G M v d dd e, vs = [v, .ref d] ∧ Zp G M H ∧ Dt K G v dd ∧ Sht dd ∧ dd.depth < 17 ∧ wpD false dd = some e ∧ Err1 K CI G M e E
theorem ok_plan_bad (T : Nm K mg) (C_normal : Own P w K mg base (L2.CX P w) 20 "normal" ["plan"] (spNormal K CI 17)) (C_count_names : Own P w K mg base CX0 18 "count_names" ["plan"] (spNum K lenI 17)) (C_levels_of : Own P w K mg base CX0 18 "levels_of" ["plan"] (spNum K dpI 17))
    (C_names_in : Own P w K mg base CX0 19 "names_in" ["plan"] (spNamesIn K 17)) (F : FnP K "plan_for" s_plan_for f fd) : FnOk P w K mg base (L2.CX P w) 21 f fd ["plan", "tasks"] (spPlanBad K CI) := by
  have nd : N_plan_for.Nodup := sc_plan_for.nd
  refine F.ok sc_plan_for (fun vs H Q E h => ?_) (fun cdv A outer s H vs Q E hr h => ?_)
  · obtain ⟨G, M, v, d, dd, e, rfl, _⟩ := h
    rfl
  have hu := hr.units
  refine ⟨_,   (pss_cons (ps_asg (pe_ownX C_normal (hr.mono (by omega)) (by rfl) (takes_of rfl rfl rfl rfl) (pa_cons (pv 0) pa_nil)) (pg_name (i := 2) nd rfl (by first | exact .inl rfl | exact .inr rfl)))
    (pss_cons (ps_if (pt_cmpR o_gt (pe_own C_count_names (hr.mono (by omega)) (by rfl) pass0 (pa_cons (pv 0) pa_nil)) (pe_gC T.g_NAMES (by rfl)) (nomark _)) (pss_one ps_never) pss_nil)
    (pss_cons (ps_if (pt_cmpR o_gt (pe_own C_levels_of (hr.mono (by omega)) (by rfl) pass0 (pa_cons (pv 2) pa_nil)) (pe_gC T.g_LEVELS (by rfl)) (nomark _)) (pss_one ps_never) pss_nil)
    (pss_cons (ps_for (passes_of rfl) rfl (k_any (K := K) (pe_own C_names_in (hr.mono (by omega)) (by rfl) pass0 (pa_cons (pv 0) pa_nil))) (pg_name (i := 3) nd rfl (by first | exact .inl rfl | exact .inr rfl)) (pss_one (ps_if (pt_cmp (pc_dnotin (hu_of hr) (pv 3) (pv 1))) (pss_one ps_never) pss_nil)))
    (pss_one (ps_ret (pv 2))))))), ?_⟩
  obtain ⟨G, M, v, d, dd, e, rfl, z, hd, hs, hn, he, q⟩ := h
  repeat (walk_at "z")
  refine ⟨G, M, v, dd, rfl, z, hd, hs, hn, fun hw => (by rw [he] at hw; cases hw), fun e' he' dx v' G1 H1 z1 s1 d1 hx => ?_⟩
  rw [he] at he'
  cases he'
  exact q dx v' G1 H1 z1 s1 d1 hx
def spPSetG (K : PySem.W.Frag) (C CB CM CU : Addr) : Sp := fun vs H Q E => ∃ G M x dx fs B v p, vs = [.ref x, v] ∧ Zp G (M ++ [(x, .ins CB dx fs)]) H ∧ BkF K G C fs B ∧ PW K G v p ∧
  (due (B.tasks.map (·.1)) p = none → ∀ fs' G1 H1, Zp G1 (M ++ [(x, .ins CB dx fs')]) H1 → Same G G1 → BkF K G1 C fs' ⟨B.kinds, B.tasks, nf p⟩ → Q .non H1) ∧ ∀ e, due (B.tasks.map (·.1)) p = some e → DErr K CM CU G (M ++ [(x, .ins CB dx fs)]) E e
def spPSetB (K : PySem.W.Frag) (C CB CI : Addr) : Sp := fun vs H Q E => ∃ G M x dx fs B v dd e, vs = [.ref x, v] ∧ Zp G (M ++ [(x, .ins CB dx fs)]) H ∧ BkF K G C fs B ∧ Dt K G v dd ∧ Sht dd ∧ dd.depth < 17 ∧ wpD false dd = some e ∧ Err1 K CI G (M ++ [(x, .ins CB dx fs)]) e E
theorem ok_pset_g (T : Nm K mg) (BC : BookC K CB) (C_plan_for : Own P w K mg base (L2.CX P w) 21 "plan_for" ["plan", "tasks"] (spPlanG K CM CU)) (F : FunD K "plan" "Book.plan" (defArgs s_Book_plan_set) (defBody s_Book_plan_set) (defScope s_Book_plan_set) [] [] f fd) :
    FnOk P w K mg base (L2.CX P w) 22 f fd ["self", "plan"] (spPSetG K C CB CM CU) := by
  have nd : N_Book_plan_set.Nodup := sc_Book_plan_set.nd
  refine F.ok sc_Book_plan_set (fun vs H Q E h => ?_) (fun cdv A outer s H vs Q E hr h => ?_)
  · obtain ⟨G, M, x, dx, fs, B, v, p, rfl, _⟩ := h
    rfl
  refine ⟨_,   (pss_one (ps_fld (pv 0) (pe_ownX C_plan_for (hr.mono (by omega)) (by rfl) (takes_of rfl rfl rfl rfl) (pa_cons (pv 1) (pa_cons (k_fld (K := K) (pv 0) rfl) pa_nil))) rfl)), ?_⟩
  obtain ⟨G, M, x, dx, fs, B, v, p, rfl, z, ⟨vp, dk, dt, kk, kt, rfl, hp, hok, hkn, hot, htn⟩, hv, q, qx⟩ := h
  repeat (walk_at "z")
  refine z_flL z BC.cl BC.n3 (by rfl) ?_
  repeat (walk_at "z")
  refine ⟨G, _, v, dt, kt, B.tasks.map (·.1), p, rfl, z, hv, hot, htn.keys, fun hdu v' G1 H1 z1 s1 hv1 => ?_, qx⟩
  repeat (walk_at "z")
  refine z_fsL z1 BC.cl BC.n1 (by simp) fun H2 z2 => ?_
  repeat (walk_at "z")
  exact q hdu _ G1 H2 z2 s1 ⟨v', dk, dt, kk, kt, rfl, hv1, hok.up s1, hkn.up s1, hot.up s1, htn.up s1⟩
theorem ok_pset_b (T : Nm K mg) (BC : BookC K CB) (C_plan_for : Own P w K mg base (L2.CX P w) 21 "plan_for" ["plan", "tasks"] (spPlanBad K CI)) (F : FunD K "plan" "Book.plan" (defArgs s_Book_plan_set) (defBody s_Book_plan_set) (defScope s_Book_plan_set) [] [] f fd) :
    FnOk P w K mg base (L2.CX P w) 22 f fd ["self", "plan"] (spPSetB K C CB CI) := by
  have nd : N_Book_plan_set.Nodup := sc_Book_plan_set.nd
  refine F.ok sc_Book_plan_set (fun vs H Q E h => ?_) (fun cdv A outer s H vs Q E hr h => ?_)
  · obtain ⟨G, M, x, dx, fs, B, v, dd, e, rfl, _⟩ := h
    rfl
  refine ⟨_,   (pss_one (ps_fld (pv 0) (pe_ownX C_plan_for (hr.mono (by omega)) (by rfl) (takes_of rfl rfl rfl rfl) (pa_cons (pv 1) (pa_cons (k_fld (K := K) (pv 0) rfl) pa_nil))) rfl)), ?_⟩
  obtain ⟨G, M, x, dx, fs, B, v, dd, e, rfl, z, ⟨vp, dk, dt, kk, kt, rfl, hp, hok, hkn, hot, htn⟩, hd, hs, hn, he, q⟩ := h
  repeat (walk_at "z")
  refine z_flL z BC.cl BC.n3 (by rfl) ?_
  repeat (walk_at "z")
  exact ⟨G, _, v, dt, dd, e, rfl, z, hd, hs, hn, he, q⟩
structure PSetX (P : Program) (w : World) (K : PySem.W.Frag) (mg : Str → Option Value) (base : Heap) (CB : Addr) (sp : Sp) : Prop where
  ex : ∃ g fd, PropSet K CB "plan" g ∧ FnOk P w K mg base (L2.CX P w) 22 g fd ["self", "plan"] sp ∧ Binds K fd ["self", "plan"] []
theorem ok_set_plan_g (BC : BookC K CB) (S : PSetX P w K mg base CB (spPSetG K C CB CM CU)) (F : FunD K "set_plan" "Book.set_plan" (defArgs s_Book_set_plan) (defBody s_Book_set_plan) (defScope s_Book_set_plan) [] [] f fd) :
    FnOk P w K mg base (L2.CX P w) 25 f fd ["self", "plan"] (spPSetG K C CB CM CU) := by
  have nd : N_Book_set_plan.Nodup := sc_Book_set_plan.nd
  refine F.ok sc_Book_set_plan (fun vs H Q E h => ?_) (fun cdv A outer s H vs Q E hr h => ?_)
  · obtain ⟨G, M, x, dx, fs, B, v, p, rfl, _⟩ := h
    rfl
  obtain ⟨g, fd', PS, FS, BS⟩ := S.ex
  refine ⟨_,   (pss_one (ps_psetX FS (pv 0) (pv 1) BC.cl PS BS (takes_of rfl rfl rfl rfl) (hr.mono (by omega)) rfl)), ?_⟩
  obtain ⟨G, M, x, dx, fs, B, v, p, rfl, z, hB, hv, q, qx⟩ := h
  repeat (walk_at "z")
  refine z_psetX ?_
  repeat (walk_at "z")
  refine ⟨x, dx, fs, rfl, z.at_ M.length last_at, G, M, x, dx, fs, B, v, p, rfl, z, hB, hv, fun hdu fs' G1 H1 z1 s1 hB1 => ?_, qx⟩
  repeat (walk_at "z")
  exact q hdu fs' G1 H1 z1 s1 hB1
theorem ok_set_plan_b (BC : BookC K CB) (S : PSetX P w K mg base CB (spPSetB K C CB CI)) (F : FunD K "set_plan" "Book.set_plan" (defArgs s_Book_set_plan) (defBody s_Book_set_plan) (defScope s_Book_set_plan) [] [] f fd) :
    FnOk P w K mg base (L2.CX P w) 25 f fd ["self", "plan"] (spPSetB K C CB CI) := by
  have nd : N_Book_set_plan.Nodup := sc_Book_set_plan.nd
  refine F.ok sc_Book_set_plan (fun vs H Q E h => ?_) (fun cdv A outer s H vs Q E hr h => ?_)
  · obtain ⟨G, M, x, dx, fs, B, v, dd, e, rfl, _⟩ := h
    rfl
  obtain ⟨g, fd', PS, FS, BS⟩ := S.ex
  refine ⟨_,   (pss_one (ps_psetX FS (pv 0) (pv 1) BC.cl PS BS (takes_of rfl rfl rfl rfl) (hr.mono (by omega)) rfl)), ?_⟩
  obtain ⟨G, M, x, dx, fs, B, v, dd, e, rfl, z, hB, hd, hs, hn, he, q⟩ := h
  repeat (walk_at "z")
  refine z_psetX ?_
  repeat (walk_at "z")
  exact ⟨x, dx, fs, rfl, z.at_ M.length last_at, G, M, x, dx, fs, B, v, dd, e, rfl, z, hB, hd, hs, hn, he, q⟩
def spBPlanF (K : PySem.W.Frag) (C CB : Addr) : Sp := fun vs H Q _ => ∃ G M x dx fs B, vs = [.ref x] ∧ Zp G (M ++ [(x, .ins CB dx fs)]) H ∧ BkF K G C fs B ∧ ∀ v, PV K G (B.tasks.map (·.1)) v B.plan → Q v H
theorem ok_bplan_f (BC : BookC K CB) (F : FunD K "plan" "Book.plan" (defArgs s_Book_plan) (defBody s_Book_plan) (defScope s_Book_plan) [] [] f fd) : FnOk P w K mg base CX0 1 f fd ["self"] (spBPlanF K C CB) := by
  have nd : N_Book_plan.Nodup := sc_Book_plan.nd
  refine F.ok sc_Book_plan (fun vs H Q E h => ?_) (fun cdv A outer s H vs Q E hr h => ?_)
  · obtain ⟨G, M, x, dx, fs, B, rfl, _⟩ := h
    rfl
  refine ⟨_, PSs.nox   (pss_one (ps_ret (k_fld (K := K) (pv 0) rfl))), ?_⟩
  obtain ⟨G, M, x, dx, fs, B, rfl, z, ⟨vp, dk, dt, kk, kt, rfl, hp, hok, hkn, hot, htn⟩, q⟩ := h
  repeat (walk_at "z")
  refine z_flL z BC.cl BC.n1 (by rfl) ?_
  exact q vp hp
end
end LW
namespace LW
open PySem PySem.Spec PyProof.Rows L2 Ys

section
variable {P : Program} {w : World} {K : PySem.W.Frag} {mg : Str → Option Value} {base : Heap} {f : Addr} {fd : FuncData} {C CB CI CM CU : Addr}
theorem wd_a : Wd "a" := ⟨by decide, by decide, fun c hc => by
  have h : c ∈ [97] := hc
  rw [List.mem_singleton.mp h]
  decide⟩
theorem dpl_take {ps : List Pl} {p : Pl} {i : Nat} (h : ps[i]? = some p) : Pl.dpl (ps.take (i + 1)) = max (Pl.dpl (ps.take i)) p.dp := by
  rw [take_snoc h]
  generalize ps.take i = qs
  induction qs with
  | nil => simp [Pl.dpl]
  | cons q qs ih => rw [List.cons_append, Pl.dpl, ih, Pl.dpl, Nat.max_assoc]
theorem ok_law_levels {n : Nat} (T : Nm K mg) (C_law_levels : Own P w K mg base CX0 (n + 1) "_law_levels" ["_law_plan"] (spNum K dpI n)) (F : FnP K "_law_levels" s_law_levels f fd) : FnOk P w K mg base CX0 (n + 2) f fd ["_law_plan"] (spNum K dpI (n + 1)) := by
  have nd : N_law_levels.Nodup := sc_law_levels.nd
  refine F.ok sc_law_levels (fun vs H Q E h => ?_) (fun cdv A outer s H vs Q E hr h => ?_)
  · obtain ⟨G, M, v, p, rfl, _⟩ := h
    rfl
  have hu := hr.units
  refine ⟨_, PSs.nox   (pss_cons (ps_if (pt_val (pe_callB (kc_isi (K := K)) (by rfl) T.b_isinstance boot_isinstance (pa_cons (pv 0) (pa_cons (pe_bltn (v := .ty "str") (by rfl) T.b_str boot_str rfl) pa_nil)))) (pss_one (ps_ret pe_int)) pss_nil)
    (pss_cons (ps_asg pe_int (pg_name (i := 1) nd rfl (by first | exact .inl rfl | exact .inr rfl)))
    (pss_cons (ps_for PassesOwn.never rfl (k_any (K := K) (pe_slice (k_sl (K := K)) (pv 0) (po_some pe_int) po_none)) (pg_name (i := 2) nd rfl (by first | exact .inl rfl | exact .inr rfl)) (pss_one (ps_asg (pe_callB (call_max2 rfl) (by rfl) T.b_max boot_max (pa_cons (pv 1) (pa_cons (pe_own C_law_levels (hr.mono (by omega)) (by rfl) pass0 (pa_cons (pv 2) pa_nil)) pa_nil))) (pg_name (i := 1) nd rfl (by first | exact .inl rfl | exact .inr rfl)))))
    (pss_one (ps_ret (pe_op (k_add (K := K)) (pv 1) pe_int)))))), ?_⟩
  obtain ⟨G, M, v, p, rfl, z, hd, hn, hsz, q⟩ := h
  repeat (walk_at "z")
  refine z_isi (.ty "str") (hd.up z.sub).ty (kit_ty (kit_str p.d)) ?_
  cases p with
  | nm s =>
    have e := dt_nm hd
    subst e
    rw [Pl.d]
    repeat (walk_at "z")
    refine z_bT' rfl ?_
    repeat (walk_at "z")
    have := q G H z (Same.refl G)
    unfold dpI at this
    rw [Pl.dp] at this
    exact this
  | nd h ps =>
    obtain ⟨a, xr, rfl, hS, hR⟩ := dt_nd hd
    rw [Pl.dp] at hn
    rw [Pl.sz] at hsz
    have hps := pls_len hR
    rw [Pl.d]
    repeat (walk_at "z")
    refine z_bF' rfl ?_
    repeat (walk_at "z")
    refine z_anyT ?_
    repeat (walk_at "z")
    refine z_slT z hS fun p2 G2 H2 z2 s2 e2 => ?_
    rw [cut_tail] at e2
    refine z_itT z2 e2 ?_
    refine for_src src_T (fun i σ G' M' => ∃ k2, M' = M ∧ Same G2 G' ∧ σ = [some (.ref a), some (.int (Pl.dpl (ps.take i) : Nat)), k2]) z2 ⟨_, rfl, Same.refl _, rfl⟩ (fun i σ G' M' H' ⟨_, _, s', _⟩ z' => z'.seqT (upT s' e2)) ?_ ?_
    · rintro i x σ G' M' H' hx ⟨k2, rfl, s', rfl⟩ z'
      obtain ⟨p, hp, hx'⟩ := pl_at (hR.up (s2.trans s')) hx
      have hm := List.mem_of_getElem? hp
      have h1 := dp_mem hm
      have h2 := sz_mem hm
      repeat (walk_at "z")
      refine ⟨G', _, x, p, rfl, z', hx', by omega, by omega, fun G3 H3 z3 s3 => ?_⟩
      repeat (walk_at "z")
      refine ⟨_, _, rfl, ?_⟩
      repeat (walk_at "z")
      refine ⟨G3, _, z3, some x, rfl, s'.trans s3, ?_⟩
      rw [dpl_take hp]
      have : (if dpI p > ((Pl.dpl (ps.take i) : Nat) : Int) then dpI p else ((Pl.dpl (ps.take i) : Nat) : Int)) = ((max (Pl.dpl (ps.take i)) p.dp : Nat) : Int) := by
        unfold dpI
        split <;> omega
      rw [this]
      rfl
    · rintro σ G3 M3 H3 ⟨k2, rfl, s3, rfl⟩ z3
      rw [hps, List.take_length]
      repeat (walk_at "z")
      have := q G3 H3 z3 (s2.trans s3)
      unfold dpI at this
      rw [Pl.dp] at this
      rw [show ((Pl.dpl ps : Nat) : Int) + (1 : Int) = ((Pl.dpl ps + 1 : Nat) : Int) by omega]
      exact this
def DueV (K : PySem.W.Frag) (G : Hp) (v : V) : Option Due → Prop
  | none => v = .non
  | some (.many i) => ∃ a, v = .ref a ∧ SqT K G a [.str "many", .int i]
  | some (.task s) => ∃ a, v = .ref a ∧ SqT K G a [.str "task", .str s]
def spDue (K : PySem.W.Frag) : Sp := fun vs H Q _ => ∃ G M v d kvs ks p, vs = [v, .ref d] ∧ Zp G M H ∧ PW K G v p ∧ FzD G d kvs ∧ kvs.map (·.1) = ks.map .inr ∧ ∀ v' G1 H1, Zp G1 M H1 → Same G G1 → DueV K G1 v' (due ks p) → Q v' H1
theorem ok_law_due (T : Nm K mg) (C_law_form : Own P w K mg base CX0 18 "_law_form" ["_law_plan"] (spNF K 17)) (C_law_names : Own P w K mg base CX0 18 "_law_names" ["_law_plan"] (spNames K 17)) (C_law_levels : Own P w K mg base CX0 18 "_law_levels" ["_law_plan"] (spNum K dpI 17)) (F : FnP K "_law_due" s_law_due f fd) : FnOk P w K mg base CX0 19 f fd ["_law_plan", "_law_known"] (spDue K) := by
  have nd : N_law_due.Nodup := sc_law_due.nd
  refine F.ok sc_law_due (fun vs H Q E h => ?_) (fun cdv A outer s H vs Q E hr h => ?_)
  · obtain ⟨G, M, v, d, kvs, ks, p, rfl, _⟩ := h
    rfl
  have hu := hr.units
  refine ⟨_, PSs.nox   (pss_cons (ps_asg (pe_own C_law_form (hr.mono (by omega)) (by rfl) pass0 (pa_cons (pv 0) pa_nil)) (pg_name (i := 2) nd rfl (by first | exact .inl rfl | exact .inr rfl)))
    (pss_cons (ps_if (pt_cmpR o_gt (pe_callB (kc_len (K := K) (P := P) (w := w)) (by rfl) T.b_len PySem.boot_len (pa_cons (pe_own C_law_names (hr.mono (by omega)) (by rfl) pass0 (pa_cons (pv 0) pa_nil)) pa_nil)) pe_int (nomark _)) (pss_one (ps_ret (pe_tup (pa_cons pe_str (pa_cons pe_int pa_nil))))) pss_nil)
    (pss_cons (ps_if (pt_cmpR o_gt (pe_own C_law_levels (hr.mono (by omega)) (by rfl) pass0 (pa_cons (pv 2) pa_nil)) pe_int (nomark _)) (pss_one (ps_ret (pe_tup (pa_cons pe_str (pa_cons pe_int pa_nil))))) pss_nil)
    (pss_cons (ps_setLc (i := 3) (own := [("_law_name", 4)]) rfl nd rfl rfl (sw_true rfl rfl rfl (by decide +kernel)) (k_any (K := K) (pe_callB (kc_sorted (K := K) (P := P) (w := w) rfl) (by rfl) T.b_sorted boot_sorted (pa_cons (pe_callTy (kc_set (K := K) (P := P) (w := w) rfl) (by rfl) T.b_set boot_set (pa_cons (pe_own C_law_names (hr.mono (by omega)) (by rfl) pass0 (pa_cons (pv 0) pa_nil)) pa_nil)) pa_nil))) (blkOk_by (N := N_law_due) (sc := defScope s_law_due) (by decide +kernel)) (fun _ _ _ _ _ => (pg_name (i := 4) nd rfl (by first | exact .inl rfl | exact .inr rfl))) (fun _ _ _ _ _ => pts_one (pt_cmp (pc_dnotin (hu_of hr) (pv 4) (pv 1)))) (fun _ _ _ _ _ => (pv 4)))
    (pss_one (ps_ret (pe_ifExp (pt_cmpR (k_ne (K := K) hu) (pv 3) (pe_lst pa_nil) (nomark _)) (pe_tup (pa_cons pe_str (pa_cons (pe_ix (k_ix (K := K)) (pv 3) pe_int (fun _ _ => rfl)) pa_nil))) pe_non))))))), ?_⟩
  obtain ⟨G, M, v, d, kvs, ks, p, rfl, z, hp, hd, hk, q⟩ := h
  have h15 := hp.dp
  have h600 := hp.sz
  have h64 := hp.nm
  repeat (walk_at "z")
  refine ⟨G, M, v, p, false, rfl, z, hp.dt, hp.ok, by omega, by omega, by omega, fun v' G1 H1 z1 s1 d1 => ?_⟩
  have hp1 := (hp.up s1).nf d1
  repeat (walk_at "z")
  refine ⟨G1, M, v, p, rfl, z1, hp.dt.up s1, by omega, by omega, fun l G2 H2 z2 s2 e2 => ?_⟩
  repeat (walk_at "z")
  refine z_lenL z2 (SqL.of e2) ?_
  rw [List.length_map]
  repeat (walk_at "z")
  have s12 := s1.trans s2
  by_cases h16 : 16 < (nmsL p).length
  · refine z_bT' (decide_eq_true (by omega)) ?_
    repeat (walk_at "z")
    refine z_newT z2 (by simp) fun p3 G3 H3 z3 s3 e3 => ?_
    exact q _ G3 H3 z3 (s12.trans s3) (by rw [due_nm h16]; exact ⟨p3, rfl, SqT.of e3⟩)
  refine z_bF' (decide_eq_false (by omega)) ?_
  repeat (walk_at "z")
  refine w_num (hp1.up s2) z2 fun G3 H3 z3 s3 => ?_
  have s13 := s12.trans s3
  repeat (walk_at "z")
  by_cases h5 : 5 < (Ys.nf p).dp
  · refine z_bT' (decide_eq_true (by unfold dpI; omega)) ?_
    repeat (walk_at "z")
    refine z_newT z3 (by simp) fun p4 G4 H4 z4 s4 e4 => ?_
    exact q _ G4 H4 z4 (s13.trans s4) (by rw [due_dp h16 h5]; exact ⟨p4, rfl, SqT.of e4⟩)
  refine z_bF' (decide_eq_false (by unfold dpI; omega)) ?_
  have et := due_tk (ks := ks) h16 h5
  repeat (walk_at "z")
  refine z_anyL ?_
  repeat (walk_at "z")
  refine ⟨G3, M, v, p, rfl, z3, hp.dt.up s13, by omega, by omega, fun l4 G4 H4 z4 s4 e4 => ?_⟩
  repeat (walk_at "z")
  refine z_setH z4 (.inl (z4.seqL (SqL.of e4))) (by omega) fun p5 l5 G5 H5 z5 s5 e5 m5 nd5 l5' => ?_
  repeat (walk_at "z")
  refine z_sortX z5 e5 m5 nd5 (by omega) fun p6 G6 H6 z6 s6 e6 => ?_
  have s16 := s13.trans (s4.trans (s5.trans s6))
  refine z_itL z6 (SqL.of e6) ?_
  refine lc_src src_L (fun i G' M' acc => M' = M ∧ Same G6 G' ∧ acc = (((asc (nmsL p)).take i).filter fun s => !decide (s ∈ ks)).map V.str) z6 ⟨rfl, Same.refl _, rfl⟩ (fun i G' M' M1 acc H' ⟨_, s', _⟩ z' => z'.seqL (SqL.of (s' _ _ e6))) ?_ ?_
  · rintro i x G' M' acc Dl H' hx ⟨rfl, s', rfl⟩ z'
    rw [List.getElem?_map] at hx
    obtain ⟨nm, hnm, rfl⟩ := Option.map_eq_some_iff.mp hx
    have hlen := asc_len_le (nmsL p)
    have hfl := List.length_filter_le (fun s => !decide (s ∈ ks)) ((asc (nmsL p)).take i)
    rw [List.length_take] at hfl
    repeat (walk_at "z")
    refine ⟨by rfl, ?_⟩
    repeat (walk_at "z")
    refine z_diF (k := .inr nm) z' (hd.up (s16.trans s')) ?_
    by_cases hm : nm ∈ ks
    · have hkey : (.inr nm : Key) ∈ kvs.map (·.1) := by
        rw [hk]
        exact List.mem_map.mpr ⟨nm, hm, rfl⟩
      have hno : (valV kvs (.inr nm)).isSome = true := valV_isin hkey
      rw [hno]
      refine ⟨false, rfl, ?_⟩
      repeat (walk_at "z")
      refine z_left z' ⟨rfl, s', ?_⟩
      rw [take_snoc hnm, List.filter_append, List.filter_cons, if_neg (by simp [hm])]
      simp
    · have hkey : (.inr nm : Key) ∉ kvs.map (·.1) := by
        rw [hk]
        intro h0
        obtain ⟨y, hy, e⟩ := List.mem_map.mp h0
        cases e
        exact hm hy
      have hno : (valV kvs (.inr nm)).isSome = false := valV_isno hkey
      rw [hno]
      refine ⟨true, rfl, ?_⟩
      repeat (walk_at "z")
      refine z_laid z' (by rw [List.length_map]; omega) ⟨rfl, s', ?_⟩
      rw [take_snoc hnm, List.filter_append, List.filter_cons, if_pos (by simp [hm])]
      simp
  rintro p7 G7 M7 acc G8 H7 ⟨rfl, s7, rfl⟩ s8 z8 e8
  rw [List.length_map, List.take_length] at e8
  have s18 := s16.trans (s7.trans s8)
  repeat (walk_at "z")
  refine z_newL z8 (by simp) fun p9 G9 H9 z9 s9 e9 => ?_
  refine z_neNil (z9.seqL (SqL.of (s9 _ _ e8))) (z9.sub _ _ e9) ?_
  repeat (walk_at "z")
  cases hs : ((asc (nmsL p)).filter fun s => !decide (s ∈ ks)) with
  | nil =>
    rw [hs] at et e8
    refine z_bF' (decide_eq_false (by simp)) ?_
    repeat (walk_at "z")
    exact q _ G9 H9 z9 (s18.trans s9) (by rw [et]; rfl)
  | cons s1' r =>
    rw [hs] at et e8
    refine z_bT' (decide_eq_true (by simp)) ?_
    repeat (walk_at "z")
    refine z_ixL z9 (SqL.of (s9 _ _ e8)) at_zero ?_
    repeat (walk_at "z")
    refine z_newT z9 (by simp) fun p10 G10 H10 z10 s10 e10 => ?_
    exact q _ G10 H10 z10 ((s18.trans s9).trans s10) (by rw [et]; exact ⟨p10, rfl, SqT.of e10⟩)
structure TP (k : Nat) (p : Pl) : Prop where
  ok : Ok false p
  dp : p.dp ≤ k + 1
  sz : p.sz ≤ 40 + 5 * k
  nm : (nmsL p).length ≤ 17 + k
def spTall (K : PySem.W.Frag) : Sp := fun vs H Q _ => ∃ p o G M b v pl n, vs = [.ref p, v, .int n] ∧ Zp G ((p, o) :: M) H ∧ Pen K G b o ∧ b ≤ 100000000000 ∧ Dt K G v (Pl.d pl) ∧ TP 0 pl ∧ 0 ≤ n ∧ n ≤ 5 ∧
  ∀ v' pl' G1 H1 o1, Zp G1 ((p, o1) :: M) H1 → Same G G1 → Pen K G1 (b + 5) o1 → Dt K G1 v' (Pl.d pl') → TP 5 pl' → Q v' H1
theorem ok_law_tall (T : Nm K mg) (C_law_pick : OwnP P w K mg base) (F : FnP K "_law_tall" s_law_tall f fd) : FnOk P w K mg base CX0 3 f fd ["_law_pen_here", "_law_part", "_law_levels_here"] (spTall K) := by
  have nd : N_law_tall.Nodup := sc_law_tall.nd
  refine F.ok sc_law_tall (fun vs H Q E h => ?_) (fun cdv A outer s H vs Q E hr h => ?_)
  · obtain ⟨p, o, G, M, b, v, pl, n, rfl, _⟩ := h
    rfl
  have hu := hr.units
  refine ⟨_, PSs.nox   (pss_cons (ps_for PassesOwn.never rfl (pi_range1 (by rfl) (T.b_range) (pa_cons (pv 2) pa_nil)) (pg_name (i := 3) nd rfl (by first | exact .inl rfl | exact .inr rfl)) (pss_one (ps_asg (pe_own C_law_pick (hr.mono (by omega)) (by rfl) pass0 (pa_cons (pv 0) (pa_cons (pe_lst (pa_cons (pe_tup (pa_cons pe_str (pa_cons (pv 1) pa_nil))) (pa_cons (pe_tup (pa_cons pe_str (pa_cons (pv 1) (pa_cons pe_str pa_nil)))) (pa_cons (pe_tup (pa_cons pe_str (pa_cons (pv 1) pa_nil))) (pa_cons (pe_tup (pa_cons pe_str (pa_cons (pe_tup (pa_cons pe_str (pa_cons pe_str pa_nil))) (pa_cons (pv 1) pa_nil)))) pa_nil))))) pa_nil))) (pg_name (i := 1) nd rfl (by first | exact .inl rfl | exact .inr rfl)))))
    (pss_one (ps_ret (pv 1)))), ?_⟩
  obtain ⟨p, o, G, M, b, v, pl, n, rfl, z, hp, hb, hd, ht, n0, n5, q⟩ := h
  repeat (walk_at "z")
  refine z_itR (by omega) (by omega) ?_
  refine for_src src_R (fun i σ G' M' => ∃ o' v' pl' k3, M' = (p, o') :: M ∧ Same G G' ∧ Pen K G' (b + i) o' ∧ Dt K G' v' (Pl.d pl') ∧ TP i pl' ∧ σ = [some (.ref p), some v', some (.int n), k3]) z ⟨o, v, pl, _, rfl, Same.refl _, hp, hd, ht, rfl⟩ (fun _ _ _ _ _ _ _ => trivial) ?_ ?_
  · rintro i x σ G0 M0 H0 hx ⟨o0, v0, p0, k3, rfl, s0, hp0, d0, t0, rfl⟩ z0
    obtain ⟨hi, rfl⟩ := rng_at hx
    have hi5 : i < 5 := by omega
    have hok := t0.ok
    have hdp := t0.dp
    have hsz := t0.sz
    have hnm := t0.nm
    repeat (walk_at "z")
    refine z_newT z0 (by simp) fun p1 G1 H1 z1 s1 e1 => ?_
    repeat (walk_at "z")
    refine z_newT z1 (by simp) fun p2 G2 H2 z2 s2 e2 => ?_
    repeat (walk_at "z")
    refine z_newT z2 (by simp) fun p3 G3 H3 z3 s3 e3 => ?_
    repeat (walk_at "z")
    refine z_newT z3 (by simp) fun p4 G4 H4 z4 s4 e4 => ?_
    repeat (walk_at "z")
    refine z_newT z4 (by simp) fun p5 G5 H5 z5 s5 e5 => ?_
    repeat (walk_at "z")
    refine z_newL z5 (by simp) fun p6 G6 H6 z6 s6 e6 => ?_
    repeat (walk_at "z")
    have s06 := s1.trans (s2.trans (s3.trans (s4.trans (s5.trans s6))))
    refine ⟨p, o0, G6, M, b + i, _, rfl, z6, hp0.up s06, by omega, .inl ⟨p6, _, rfl, .inl (SqL.of e6), by simp, by simp, fun vv G7 H7 o7 hv z7 s7 hp7 => ?_⟩⟩
    have s07 := s06.trans s7
    have da : ∀ G : Hp, Dt K G (.str "a") (Pl.d (.nm "a")) := fun G => by rw [Pl.d]; exact .str _
    have oa : Ok false (.nm "a") := .nm wd_a
    have o2 : Ok false (.nd .th [.nm "a"]) := .nd rfl (fun h => by cases h) fun x hx => by rw [List.mem_singleton.mp hx]; exact oa
    have key : ∃ pl', Dt K G7 vv (Pl.d pl') ∧ TP (i + 1) pl' := by
      simp only [List.mem_cons, List.not_mem_nil, or_false] at hv
      rcases hv with rfl | rfl | rfl | rfl
      · refine ⟨.nd .an [p0], dt_mk (h := .an) (SqT.of ((s2.trans (s3.trans (s4.trans (s5.trans (s6.trans s7))))) _ _ e1)) (.cons (d0.up s07) .nil), .nd rfl (fun h => by cases h) (fun x hx => by rw [List.mem_singleton.mp hx]; exact hok), ?_, ?_, ?_⟩
        · simp only [Pl.dp, Pl.dpl]; omega
        · simp only [Pl.sz, Pl.szl]; omega
        · simp only [nmsL, nmsLl, List.append_nil]; omega
      · refine ⟨.nd .ei [p0, .nm "a"], dt_mk (h := .ei) (SqT.of ((s3.trans (s4.trans (s5.trans (s6.trans s7)))) _ _ e2)) (.cons (d0.up s07) (.cons (da _) .nil)), .nd rfl (fun h => by cases h) (fun x hx => by
          rcases List.mem_cons.mp hx with rfl | hx
          · exact hok
          · rw [List.mem_singleton.mp hx]; exact oa), ?_, ?_, ?_⟩
        · simp only [Pl.dp, Pl.dpl]; omega
        · simp only [Pl.sz, Pl.szl]; omega
        · simp only [nmsL, nmsLl, List.append_nil, List.length_append, List.length_singleton]; omega
      · refine ⟨.nd .ag [p0], dt_mk (h := .ag) (SqT.of ((s4.trans (s5.trans (s6.trans s7))) _ _ e3)) (.cons (d0.up s07) .nil), .nd rfl (fun h => by cases h) (fun x hx => by rw [List.mem_singleton.mp hx]; exact hok), ?_, ?_, ?_⟩
        · simp only [Pl.dp, Pl.dpl]; omega
        · simp only [Pl.sz, Pl.szl]; omega
        · simp only [nmsL, nmsLl, List.append_nil]; omega
      · refine ⟨.nd .th [.nd .th [.nm "a"], p0], dt_mk (h := .th) (SqT.of ((s6.trans s7) _ _ e5)) (.cons (dt_mk (h := .th) (SqT.of ((s5.trans (s6.trans s7)) _ _ e4)) (.cons (da _) .nil)) (.cons (d0.up s07) .nil)), .nd rfl (fun h => by cases h) (fun x hx => by
          rcases List.mem_cons.mp hx with rfl | hx
          · exact o2
          · rw [List.mem_singleton.mp hx]; exact hok), ?_, ?_, ?_⟩
        · simp only [Pl.dp, Pl.dpl]; omega
        · simp only [Pl.sz, Pl.szl]; omega
        · simp only [nmsL, nmsLl, List.append_nil, List.length_append, List.length_singleton]; omega
    obtain ⟨pl', d', t'⟩ := key
    repeat (walk_at "z")
    exact ⟨G7, _, z7, o7, vv, pl', _, rfl, s0.trans s07, hp7, d', t', rfl⟩
  · rintro σ G3 M3 H3 ⟨o3, v3, p3, k3, rfl, s3, hp3, d3, t3, rfl⟩ z3
    rw [rngV_len] at hp3 t3
    repeat (walk_at "z")
    exact q v3 p3 G3 H3 o3 z3 s3 (hp3.mono (by omega)) d3 ⟨t3.ok, by have := t3.dp; omega, by have := t3.sz; omega, by have := t3.nm; omega⟩
end
end LW
namespace LW
open PySem PySem.Spec PyProof.Rows L2 Ys
/-! ### the law -/
def gVd (ds mz : List V) (vs zs : List V) : List V := vs ++ (ds ++ mz)
def tk0 : TkD := ⟨none, 1, [], [], [], []⟩
theorem gl0 : GoodL [] := ⟨(fun s h => by cases h), Nat.zero_le _⟩
theorem gt0 : GoodT tk0 := ⟨(fun s h => by cases h), gl0, gl0, gl0, gl0⟩
theorem okl0 : OkL (strsP []) [] := ⟨rfl, rfl, (fun s h => by cases h), List.nodup_nil, Nat.zero_le _⟩
theorem asc0 : asc [] = [] := by simp [asc, dd]
structure All0 (tn : List (Str × TkD)) (ts : List Str) : Prop where
  nd : (tn.map (·.1)).Nodup
  mem : ∀ x, x ∈ tn.map (·.1) ↔ x ∈ ts
  t0 : ∀ q ∈ tn, q.2 = tk0
  le : tn.length ≤ ts.length
theorem put_tks {K : PySem.W.Frag} {G : Hp} {C a : Addr} {acc : List (Key × V)} {tn : List (Str × TkD)} {ts : List Str} {s : Str} (h : Tks K G C acc tn) (h0 : All0 tn ts) (ha : TkI K G C a tk0) :
    ∃ tn', Tks K G C (putK acc (.inr s) (.ref a)) tn' ∧ All0 tn' (ts ++ [s]) := by
  by_cases c : s ∈ tn.map (·.1)
  · refine ⟨tn, ?_, h0.nd, fun x => ?_, h0.t0, by rw [List.length_append]; have := h0.le; omega⟩
    · have hk : (.inr s : Key) ∈ acc.map (·.1) := by rw [h.keys]; exact List.mem_map.mpr ⟨s, c, rfl⟩
      have hs := valV_isin hk
      unfold putK
      rw [valV_any, hs, if_pos rfl]
      have t0 := h0.t0
      clear hk hs c h0
      induction h with
      | nil => exact .nil
      | cons e r ih =>
        rw [List.map_cons]
        refine .cons ?_ (ih fun q hq => t0 q (List.mem_cons_of_mem _ hq))
        obtain ⟨e1, b, e2, e3⟩ := e
        split
        · exact ⟨e1, a, rfl, by rw [t0 _ (List.mem_cons_self ..)]; exact ha⟩
        · exact ⟨e1, b, e2, e3⟩
    · rw [h0.mem x, List.mem_append, List.mem_singleton]
      exact ⟨.inl, fun h => h.elim id fun e => (h0.mem x).mp (by rw [e]; exact c)⟩
  · have hn : valV acc (.inr s) = none := valV_out (by
      rw [h.keys]
      intro hm
      obtain ⟨y, hy, e⟩ := List.mem_map.mp hm
      obtain rfl : y = s := Sum.inr.inj e
      exact c hy)
    refine ⟨tn ++ [(s, tk0)], by rw [putK_new _ hn]; exact paired_snoc ⟨rfl, a, rfl, ha⟩ h, ?_, fun x => ?_, fun q hq => ?_, by rw [List.length_append, List.length_append]; have := h0.le; simp; omega⟩
    · rw [List.map_append, List.nodup_append]
      refine ⟨h0.nd, by simp, fun x hx y hy => ?_⟩
      obtain rfl : y = s := by simpa using hy
      exact fun e => c (by rw [← e]; exact hx)
    · rw [List.map_append, List.mem_append, List.mem_append, h0.mem x]
      simp
    · rcases List.mem_append.mp hq with hq | hq
      · exact h0.t0 q hq
      · rw [List.mem_singleton.mp hq]
theorem prs_up {K : PySem.W.Frag} {G G1 : Hp} : ∀ {ps : List Addr} {kvs : List (Key × V)}, Paired (fun p (kv : Key × V) => SqT K G p [kV kv.1, kv.2]) ps kvs → Same G G1 → Paired (fun p (kv : Key × V) => SqT K G1 p [kV kv.1, kv.2]) ps kvs
  | _, _, .nil, _ => .nil
  | _, _, .cons h r, s => .cons (upT s h) (prs_up r s)
def Kv0 (K : PySem.W.Frag) (G : Hp) (C : Addr) : List (Key × V) → List Str → Prop := Paired fun kv s => kv.1 = .inr s ∧ ∃ a, kv.2 = .ref a ∧ TkI K G C a tk0
theorem Kv0.up {K : PySem.W.Frag} {G G1 : Hp} {C : Addr} {kvs ts} (h : Kv0 K G C kvs ts) (s : Same G G1) : Kv0 K G1 C kvs ts := L2.Paired.mapP h fun _ _ ⟨e, a, h1, h2⟩ => ⟨e, a, h1, h2.up s⟩
theorem merge_tks {K : PySem.W.Frag} {G : Hp} {C : Addr} : ∀ {kvs : List (Key × V)} {us : List Str} {acc : List (Key × V)} {tn : List (Str × TkD)} {ts : List Str}, Kv0 K G C kvs us → Tks K G C acc tn → All0 tn ts → ∃ tn', Tks K G C (mergeK acc kvs) tn' ∧ All0 tn' (ts ++ us)
  | _, _, acc, tn, ts, .nil, h, h0 => ⟨tn, h, by rw [List.append_nil]; exact h0⟩
  | kv :: kvs, s :: us, acc, tn, ts, .cons e r, h, h0 => by
    obtain ⟨e1, a, e2, e3⟩ := e
    obtain ⟨k, v⟩ := kv
    have e1 : k = .inr s := e1
    have e2 : v = .ref a := e2
    subst e1 e2
    obtain ⟨tn1, h1, h2⟩ := put_tks h h0 e3 (s := s)
    obtain ⟨tn2, h3, h4⟩ := merge_tks r h1 h2
    exact ⟨tn2, h3, by rw [List.append_assoc] at h4; exact h4⟩
theorem All0.cond {tn : List (Str × TkD)} {ts : List Str} (h : All0 tn ts) : condL tn = [] := by
  unfold condL
  rw [List.flatMap_eq_nil_iff]
  intro q hq
  rw [h.t0 q hq]
  rfl
theorem All0.need {tn : List (Str × TkD)} {ts : List Str} (h : All0 tn ts) : NeedOk tn := by
  have e : remP tn = [] := by unfold remP; rw [h.cond, asc0]
  refine ⟨by rw [h.cond]; decide, by rw [e]; decide, by unfold widP; rw [e]; exact (by decide : (0 : Int) ≤ 5)⟩
theorem lookT_mem {tn : List (Str × TkD)} {k : Str} (h : k ∈ tn.map (·.1)) (nd : (tn.map (·.1)).Nodup) : (k, lookT tn k) ∈ tn := by
  obtain ⟨i, t, hi⟩ := find_at h
  have hm := List.mem_of_getElem? hi
  rw [lookT_of nd hm]
  exact hm
theorem lookK_mem {kn : List (Str × List Str)} {k : Str} (h : k ∈ kn.map (·.1)) (nd : (kn.map (·.1)).Nodup) : (k, lookK kn k) ∈ kn := by
  obtain ⟨i, t, hi⟩ := find_at h
  have hm := List.mem_of_getElem? hi
  rw [lookK_of nd hm]
  exact hm
section
variable {P : Program} {w : World} {K : PySem.W.Frag} {mg : Str → Option Value} {base : Heap} {f : Addr} {fd : FuncData} {C CB CI CT : Addr}
theorem PV.showP {G H : Hp} {M : List (Addr × HO)} {ns : List Str} {v : V} {p : Pl} {Q : VK} (h : PV K G ns v p) (z : Zp G M H) (q : Q (.str p.d.shown) H) : Ys.rRepr K [v] H Q := by
  have s := shw_pl (Ok.nms _ _ h.ok)
  have := pd_dep p
  have h1 := h.dp
  have h2 := h.sz
  exact z_repr z h.dt s.ok (by omega) (Nat.le_trans s.le (by omega)) q
theorem nf_nf {p : Pl} (h : Ok false p) : nf (nf p) = nf p := nfm_nf _ _ (nf_ok p false h) (nf_nfm p false h)
end
end LW
namespace LW
open PySem PySem.Spec PyProof.Rows L2 Ys

/-! ### what calls a lambda -/
def Caught (K : PySem.W.Frag) (CI CM CU : Addr) (cls : Value) (d : Option Addr) (H' : Hp) (Q : VK) : Prop :=
  (cls = .ref CI ∧ ∃ dd v, d = some dd ∧ H' dd = some (.xd [("value", v)]) ∧ Ys.rRepr K [v] H' fun r H2 => NewT [.str "plan", r] H2 Q) ∨
  (cls = .ref CM ∧ ∃ dd v, d = some dd ∧ H' dd = some (.xd [("limit", v)]) ∧ NewT [.str "many", v] H' Q) ∨
  (cls = .ref CU ∧ ∃ dd v, d = some dd ∧ H' dd = some (.xd [("value", v)]) ∧ NewT [.str "task", v] H' Q)
def TTtd (K : PySem.W.Frag) (CI CM CU : Addr) : (XK → Hp → VK → Prop) → Hp → VK → Prop := fun tl H Q => ∀ E : XK, (∀ cls d H', Caught K CI CM CU cls d H' Q → E cls d H') → tl E H fun _ H' => Q .non H'
structure ToC (K : PySem.W.Frag) (mg : Str → Option Value) (CI CM CU : Addr) : Prop where
  ex : ∃ g fd, FnP K "_law_told" s_law_told g fd ∧ mg "_law_told" = some (.ref g) ∧ Binds K fd ["_law_call"] []
  gCI : mg "InvalidPlan" = some (.ref CI)
  gCM : mg "TooMany" = some (.ref CM)
  gCU : mg "UnknownTask" = some (.ref CU)
  ov : mg "OverflowError" = none
  lo : mg "LookupError" = none
  xfI : XfC K CI
  xcM : ExcC K CM
  xfM : XfC K CM
  xcU : ExcC K CU
  xfU : XfC K CU
  noI : PySem.W.findIn K (.ref CI) "value" = some none
  noM : PySem.W.findIn K (.ref CM) "limit" = some none
  noU : PySem.W.findIn K (.ref CU) "value" = some none
  eII : PySem.W.exmOne K (.ref CI) (.ref CI) = some true
  eMI : PySem.W.exmOne K (.ref CM) (.ref CI) = some false
  eMM : PySem.W.exmOne K (.ref CM) (.ref CM) = some true
  eUI : PySem.W.exmOne K (.ref CU) (.ref CI) = some false
  eUM : PySem.W.exmOne K (.ref CU) (.ref CM) = some false
  eUU : PySem.W.exmOne K (.ref CU) (.ref CU) = some true
  ktM : PySem.W.kitOne K (.ref CM) (.type "OverflowError") = some true
  ktU : PySem.W.kitOne K (.ref CU) (.type "LookupError") = some true
theorem told_gives {X : Cx} {CI CM CU g : Addr} {cdg : Value} {q : Str} {k : Nat} (T : Nm X.K X.mg) (TC : ToC X.K X.mg CI CM CU) (hg : X.A.guards = some []) (hr : Room (k + 2) X.A) : GivesTo2 X N_law_told "_law_told" (defScope s_law_told) g cdg (defBody s_law_told) "_law_call" q (TTtd X.K CI CM CU) := by
  intro f c' s H Q tl act hc h
  have nd : N_law_told.Nodup := sc_law_told.nd
  have hu := (hr.deeper (envOfC "_law_told" (defScope s_law_told) s.heap.objs.size g cdg)).units
  refine ⟨_, PSs.nox (pss_cons (ps_try_names (Wout := fun _ _ _ _ => False) (tb := fun W D σ H => σ[0]? = some (some (.ref f)) ∧ H c' = some (LamX.CodeO c' q) ∧ tl (WE W σ) H fun _ H' => D.nx σ H') rfl rfl nd takes0
    (fun W pn xe tW pW => ⟨fun pins s' σ H' D I h' => (by
      exact (pss_one (ps_expr (act W pn xe _ _ tW))).run pins s' σ H' D I h')⟩)
    (.cons (x := "InvalidPlan") (n := "e") (c := .ref CI) (i := 1) rfl rfl ⟨by rfl, by decide, .inl TC.gCI⟩ (fun a oe cls d pn hz hf => pss_one (ps_ret (pe_tup (pa_cons pe_str (pa_cons (pe_callB (kc_repr (K := X.K) hg T.sys hu) (by rfl) T.b_repr boot_repr (pa_cons (pe_xf TC.xfI TC.noI hz hf (pv 1)) pa_nil)) pa_nil)))))
    (.cons (x := "TooMany") (n := "e") (c := .ref CM) (i := 1) rfl rfl ⟨by rfl, by decide, .inl TC.gCM⟩ (fun a oe cls d pn hz hf => pss_one (ps_ret (pe_ifExp (pt_val (pe_callB (call_isX TC.xcM hz hf) (by rfl) T.b_isinstance boot_isinstance (pa_cons (pv 1) (pa_cons (pe_bltn (v := .ty "OverflowError") (by rfl) TC.ov PyProof.Rows.Boot.«OverflowError» rfl) pa_nil)))) (pe_tup (pa_cons pe_str (pa_cons (pe_xf TC.xfM TC.noM hz hf (pv 1)) pa_nil))) pe_str)))
    (.cons (x := "UnknownTask") (n := "e") (c := .ref CU) (i := 1) rfl rfl ⟨by rfl, by decide, .inl TC.gCU⟩ (fun a oe cls d pn hz hf => pss_one (ps_ret (pe_ifExp (pt_val (pe_callB (call_isX TC.xcU hz hf) (by rfl) T.b_isinstance boot_isinstance (pa_cons (pv 1) (pa_cons (pe_bltn (v := .ty "LookupError") (by rfl) TC.lo PyProof.Rows.Boot.«LookupError» rfl) pa_nil)))) (pe_tup (pa_cons pe_str (pa_cons (pe_xf TC.xfU TC.noU hz hf (pv 1)) pa_nil))) pe_str))) .nil))))
    (pss_one (ps_ret pe_non))), ?_⟩
  repeat (walk_at "z")
  refine ⟨rfl, hc, h _ fun cls d H' hcau => ?_⟩
  rcases hcau with ⟨e, dd, v, ed, hx, qv⟩ | ⟨e, dd, v, ed, hx, qv⟩ | ⟨e, dd, v, ed, hx, qv⟩
  · subst e ed
    refine ⟨true, TC.eII, fun _ e he => ?_, fun z => by cases z⟩
    repeat (walk_at "z")
    refine ⟨_, rfl, rfl, rfl, dd, _, _, rfl, hx, rfl, ?_⟩
    repeat (walk_at "z")
    obtain ⟨x, dx, ex, hd, h1, h2, h3, qr⟩ := qv
    refine ⟨x, dx, ex, hd, h1, h2, h3, ?_⟩
    repeat (walk_at "z")
    exact qr
  · subst e ed
    refine ⟨false, TC.eMI, (fun z => by cases z), fun _ => ⟨true, TC.eMM, fun _ e he => ?_, fun z => by cases z⟩⟩
    repeat (walk_at "z")
    refine ⟨.ty "OverflowError", .type "OverflowError", true, dd, _, rfl, rfl, .ty _, TC.ktM, rfl, hx, ?_⟩
    repeat (walk_at "z")
    refine ⟨_, rfl, rfl, rfl, dd, _, _, rfl, hx, rfl, ?_⟩
    repeat (walk_at "z")
    exact qv
  · subst e ed
    refine ⟨false, TC.eUI, (fun z => by cases z), fun _ => ⟨false, TC.eUM, (fun z => by cases z), fun _ => ⟨true, TC.eUU, fun _ e he => ?_, fun z => by cases z⟩⟩⟩
    repeat (walk_at "z")
    refine ⟨.ty "LookupError", .type "LookupError", true, dd, _, rfl, rfl, .ty _, TC.ktU, rfl, hx, ?_⟩
    repeat (walk_at "z")
    refine ⟨_, rfl, rfl, rfl, dd, _, _, rfl, hx, rfl, ?_⟩
    repeat (walk_at "z")
    exact qv
section
variable {X : Cx} {CI CM CU c P : Addr} {k : Nat} {q : Str} {params : Arguments} {body : Expr} {scope : Scope} {t : XK → TE} {p lpos pos : Pos}
theorem pe_told (T : Nm X.K X.mg) (TC : ToC X.K X.mg CI CM CU) (hgu : X.A.guards = some []) (hg : Gl X "_law_told") (TB : LamX.TabB X.base X.mg c P) (hcode : X.env.code = .ref c) (hq : X.env.qual ++ "<lambda>" = q) (hr : Room (k + 2) X.A) (L : LamX.LamS X.env.scope scope) (hdef : defaultsOf params X.env = ([], []))
    (hbind : ∀ (q : Str) (cl : List (Str × Addr)) (pm cv ctv : Value), bindArgs (PySem.W.kla_fn "<lambda>" q params body scope cl pm cv ctv) ⟨[], []⟩ = pure [])
    (hbody : ∀ (A : Around) (outer : List Env) (s : Shared) (H : Hp) (E : XK) (f c' : Addr), Room k (A.deeper (LamX.lamEnv X scope s.heap.objs.size f c')) → PE (LamX.lamCx X A outer s H E scope f c') body (t E)) :
    PE X (.Call (.Name "_law_told" p) [.Lambda params body scope lpos] [] pos) (tLamC P q (TTtd X.K CI CM CU) t) := by
  obtain ⟨g, fd, F, hm, hb⟩ := TC.ex
  exact pe_lamC hg hm F.kp F hb sc_law_told rfl (.inl rfl) (fun cdv => told_gives T TC hgu hr) TB hcode hq hr L hdef hbind hbody
end
end LW
namespace LW
open PySem PySem.Spec PyProof.Rows L2 Ys

theorem z_reprH {K : PySem.W.Frag} {H : Hp} {v : V} {d : PyData} {Q : VK} (h : Dt K H v d) (s : Shw d 16000000) (s2 : d.depth ≤ 60) (q : Q (.str d.shown) H) : Ys.rRepr K [v] H Q := ⟨v, d, rfl, h, s.ok, s2, Nat.le_trans s.le (by decide), q⟩
theorem z_repT {K : PySem.W.Frag} {G H : Hp} {M : List (Addr × HO)} {a : Addr} {xs : List V} {n : Int} {Q : VK} (z : Zp G M H) (h : SqT K G a xs) (h0 : xs ≠ []) (h1 : 2 ≤ n) (h2 : n ≤ 1000) (hl : xs.length ≤ 1000) (q : ∀ p G1 H1, Zp G1 M H1 → Same G G1 → SqT K G1 p (List.replicate n.toNat xs).flatten → Q (.ref p) H1) : rRepT K (.ref a) (.int n) H Q :=
  ⟨a, n, xs, rfl, rfl, z.seqT h, h0, h1, h2, hl, fun p hp => q p _ _ (z.new hp _) (Same.new (z.free hp)) (SqT.of upd_same)⟩
def abcd : List Str := ["a", "b", "c", "d"]
theorem wd_abcd {s : Str} (h : s ∈ abcd) : Wd s := by
  simp only [abcd, List.mem_cons, List.not_mem_nil, or_false] at h
  rcases h with rfl | rfl | rfl | rfl
  · exact wd_a
  · exact ⟨by decide, by decide, fun c hc => by
      have h : c ∈ [98] := hc
      rw [List.mem_singleton.mp h]
      decide⟩
  · exact ⟨by decide, by decide, fun c hc => by
      have h : c ∈ [99] := hc
      rw [List.mem_singleton.mp h]
      decide⟩
  · exact ⟨by decide, by decide, fun c hc => by
      have h : c ∈ [100] := hc
      rw [List.mem_singleton.mp h]
      decide⟩
/-! ### a row of names -/
theorem nms_row (l : List Str) : nmsLl (l.map Pl.nm) = l := by
  induction l with
  | nil => rfl
  | cons a r ih => rw [List.map_cons, nmsLl, nmsL, ih]; rfl
theorem sz_row (l : List Str) : Pl.szl (l.map Pl.nm) = l.length := by
  induction l with
  | nil => rfl
  | cons a r ih => rw [List.map_cons, Pl.szl, Pl.sz, ih, List.length_cons]; omega
theorem dp_row (l : List Str) : Pl.dpl (l.map Pl.nm) = 0 := by
  induction l with
  | nil => rfl
  | cons a r ih => rw [List.map_cons, Pl.dpl, Pl.dp, ih]; rfl
theorem dts_row {K : PySem.W.Frag} {G : Hp} (l : List Str) : Dts K G (l.map V.str) (Pl.dl (l.map Pl.nm)) := by
  induction l with
  | nil => exact .nil
  | cons a r ih => exact .cons (by rw [Pl.d]; exact .str _) ih
theorem tp_row {l : List Str} (h : ∀ s ∈ l, s ∈ abcd) (hl : l.length ≤ 17) : TP 0 (.nd .th (l.map Pl.nm)) := ⟨.nd rfl (fun h => by cases h) fun x hx => by
  obtain ⟨s, hs, rfl⟩ := List.mem_map.mp hx
  exact .nm (wd_abcd (h s hs)), by rw [Pl.dp, dp_row]; omega, by rw [Pl.sz, sz_row]; omega, by rw [nmsL, nms_row]; omega⟩
theorem TP.pw {K : PySem.W.Frag} {G : Hp} {v : V} {p : Pl} (h : TP 5 p) (d : Dt K G v p.d) : PW K G v p := ⟨d, h.ok, by have := h.dp; omega, by have := h.sz; omega, by have := h.nm; omega⟩
theorem due_mem {ks ks' : List Str} (h : ∀ s, s ∈ ks ↔ s ∈ ks') (p : Pl) : due ks p = due ks' p := by
  unfold due
  have : (fun s => !decide (s ∈ ks)) = fun s => !decide (s ∈ ks') := funext fun s => by
    by_cases c : s ∈ ks
    · rw [decide_eq_true c, decide_eq_true ((h s).mp c)]
    · rw [decide_eq_false c, decide_eq_false fun x => c ((h s).mpr x)]
  rw [this]
theorem due_ok {ks : List Str} {p : Pl} (h1 : (nmsL p).length ≤ 16) (h2 : (Ys.nf p).dp ≤ 5) (h : ∀ s ∈ nmsL p, s ∈ ks) : due ks p = none := by
  rw [due_tk (by omega) (by omega), strange_no fun x hx => h x (asc_mem.mp hx)]
  rfl
theorem due_task {ks : List Str} {p : Pl} {s : Str} (h : due ks p = some (.task s)) : s ∈ nmsL p := by
  unfold due at h
  split at h
  · cases h
  · split at h
    · cases h
    · obtain ⟨y, hy, e⟩ := Option.map_eq_some_iff.mp h
      cases e
      exact asc_mem.mp (List.mem_filter.mp (List.mem_of_mem_head? hy)).1
/-! ### what is told -/
def dueD : Option Due → PyData
  | none => .none
  | some (.many i) => .tuple [.str "many", .int i]
  | some (.task s) => .tuple [.str "task", .str s]
theorem DueV.dt {K : PySem.W.Frag} {G : Hp} {v : V} : ∀ {e : Option Due}, DueV K G v e → Dt K G v (dueD e)
  | none, h => by
    have h : v = .non := h
    rw [h]
    exact .non
  | some (.many _), h => by
    obtain ⟨a, rfl, e⟩ := h
    exact .tup e (.cons (.str _) (.cons (.int _) .nil))
  | some (.task _), h => by
    obtain ⟨a, rfl, e⟩ := h
    exact .tup e (.cons (.str _) (.cons (.str _) .nil))
theorem DueV.non {K : PySem.W.Frag} {G : Hp} {v : V} : ∀ {e : Option Due}, DueV K G v e → decide (v = .non) = e.isNone
  | none, h => by
    have h : v = .non := h
    rw [h]
    rfl
  | some (.many _), h => by
    obtain ⟨a, rfl, e⟩ := h
    rfl
  | some (.task _), h => by
    obtain ⟨a, rfl, e⟩ := h
    rfl
theorem shp_pair {x : Str} {d : PyData} (hx : PyData.strOk x = true) (hd : d.canLay0 = true) (h0 : d.depth = 0) : SeqAt.shaped (.tuple [.str x, d]) = true := by
  unfold SeqAt.shaped
  rw [Bool.and_eq_true_iff]
  refine ⟨?_, ?_⟩
  · show PyData.canLayAll0 [.str x, d] = true
    refine can_all fun e he => ?_
    simp only [List.mem_cons, List.not_mem_nil, or_false] at he
    rcases he with rfl | rfl
    · exact hx
    · exact hd
  · rw [decide_eq_true_iff]
    show PyData.depthAll [.str x, d] + 1 ≤ 64
    have : PyData.depthAll [.str x, d] = max 0 (max d.depth 0) := rfl
    rw [this, h0]
    decide
theorem due_shp {e : Option Due} (h : ∀ s, e = some (.task s) → Wd s) : SeqAt.shaped (dueD e) = true := by
  match e, h with
  | none, _ => rfl
  | some (.many i), _ => exact shp_pair (by decide +kernel) rfl rfl
  | some (.task s), h => exact shp_pair (by decide +kernel) (h s rfl).2.2.ok rfl
section
variable {K : PySem.W.Frag} {CI CM CU P : Addr} {q : Str} {σ : L2.St} {Q : VK} {te : XK → TE} {G H : Hp} {M : List (Addr × HO)} {ps : Array Value}
theorem z_told (z : Zp G M H) (k : Nat) (e : M[k]? = some (P, .tbl ps)) (t : TbOk G q ps) (du : Option Due) (OK : Hp → List (Addr × HO) → Array Value → Prop)
    (body : ∀ E G1 H1 ps1, Zp G1 (M.set k (P, .tbl ps1)) H1 → Same G G1 → (∀ e, du = some e → DErr K CM CU G1 (M.set k (P, .tbl ps1)) E e) → ∀ Qn : Hp → Prop, (du = none → ∀ G2 M2 H2, OK G2 M2 ps1 → Zp G2 M2 H2 → Same G1 G2 → Qn H2) → te E σ H1 fun _ H' => Qn H')
    (fin : ∀ rv G2 M2 H2 ps2, Zp G2 M2 H2 → Same G G2 → TbOk G2 q ps2 → (du = none → OK G2 M2 ps2) → (∀ e, du = some e → M2 = M.set k (P, .tbl ps2)) → Dt K G2 rv (dueD du) → Q rv H2) : tLamC P q (TTtd K CI CM CU) te σ H Q := by
  refine z_lamC z k e t fun G1 H1 ps' z1 s1 t1 => ?_
  intro E hE
  refine body E G1 H1 ps' z1 s1 (fun e' he => ?_) (fun H' => Q .non H') (fun hd G2 M2 H2 ok z2 s2 => fin .non G2 M2 H2 ps' z2 (s1.trans s2) (t1.up s2) (fun _ => ok) (fun e h => by rw [hd] at h; cases h) (by rw [hd]; exact .non))
  match e', he with
  | .many i, he => exact fun dx G2 H2 z2 s2 hx => hE _ _ _ (.inr (.inl ⟨rfl, dx, _, rfl, z2.sub _ _ hx, z_newT z2 (by simp) fun p3 G3 H3 z3 s3 e3 => fin (.ref p3) G3 _ H3 ps' z3 (s1.trans (s2.trans s3)) (t1.up (s2.trans s3)) (fun h => by rw [he] at h; cases h) (fun _ _ => rfl) (by rw [he]; exact .tup (SqT.of e3) (.cons (.str _) (.cons (.int _) .nil)))⟩))
  | .task s, he => exact fun dx G2 H2 z2 s2 hx => hE _ _ _ (.inr (.inr ⟨rfl, dx, _, rfl, z2.sub _ _ hx, z_newT z2 (by simp) fun p3 G3 H3 z3 s3 e3 => fin (.ref p3) G3 _ H3 ps' z3 (s1.trans (s2.trans s3)) (t1.up (s2.trans s3)) (fun h => by rw [he] at h; cases h) (fun _ _ => rfl) (by rw [he]; exact .tup (SqT.of e3) (.cons (.str _) (.cons (.str _) .nil)))⟩))
theorem z_toldB (z : Zp G M H) (k : Nat) (e : M[k]? = some (P, .tbl ps)) (t : TbOk G q ps) (wd : PyData) (hs : Shw wd 16000000) (hn : wd.depth ≤ 60)
    (body : ∀ E G1 H1 ps1, Zp G1 (M.set k (P, .tbl ps1)) H1 → Same G G1 → Err1 K CI G1 (M.set k (P, .tbl ps1)) wd E → ∀ Qn : Hp → Prop, te E σ H1 fun _ H' => Qn H')
    (fin : ∀ rv G2 H2 ps2, Zp G2 (M.set k (P, .tbl ps2)) H2 → Same G G2 → TbOk G2 q ps2 → Dt K G2 rv (.tuple [.str "plan", .str wd.shown]) → Q rv H2) : tLamC P q (TTtd K CI CM CU) te σ H Q := by
  refine z_lamC z k e t fun G1 H1 ps' z1 s1 t1 => ?_
  intro E hE
  exact body E G1 H1 ps' z1 s1 (fun dx v' G2 H2 z2 s2 d2 hx => hE _ _ _ (.inl ⟨rfl, dx, v', rfl, z2.sub _ _ hx, z_reprH (z2.dt d2) hs hn (z_newT z2 (by simp) fun p3 G3 H3 z3 s3 e3 => fin (.ref p3) G3 H3 ps' z3 (s1.trans (s2.trans s3)) (t1.up (s2.trans s3)) (.tup (SqT.of e3) (.cons (.str _) (.cons (.str _) .nil))))⟩)) (fun H' => Q .non H')
end
/-! ### what is no plan -/
structure Wrong (d : PyData) : Prop where
  wp : wpD false d = some d
  sht : Sht d
  dp : d.depth ≤ 2
  shw : Shw d 1000
  so : PyData.strOk d.shown = true
theorem sht_str {s : Str} (h : s.length ≤ 100) : Sht (.str s) := .nt rfl fun t e => by cases e; exact Nat.le_trans h (by decide)
def wrongs : List PyData := [.int 5, .tuple [], .list [.str "a"], .tuple [.str "any"]]
def then16 : Pl := .nd .th (List.replicate 16 (.nm "a"))
def longP : Pl := .nd .ag [then16]
def leftP : Pl := .nd .th (List.replicate 16 (.nm "a") ++ [longP])
theorem nf_longP : nf longP = longP := by rfl
theorem wc_longP : wc longP = [done, leftP] := by rfl
theorem nms_leftP : (nmsL leftP).length = 32 := by rfl
theorem nf_leftP : nf leftP = leftP := by rfl
theorem ok_then16 : Ok false then16 := .nd rfl (fun h => by cases h) fun x hx => by rw [(List.mem_replicate.mp hx).2]; exact .nm wd_a
theorem ok_longP : Ok false longP := .nd rfl (fun h => by cases h) fun x hx => by rw [List.mem_singleton.mp hx]; exact ok_then16
theorem ok_leftP : Ok false leftP := .nd rfl (fun h => by cases h) fun x hx => by
  rcases List.mem_append.mp hx with hx | hx
  · rw [(List.mem_replicate.mp hx).2]; exact .nm wd_a
  · rw [List.mem_singleton.mp hx]; exact ok_longP
theorem due_longP {ks : List Str} (h : ("a" : Str) ∈ ks) : due ks longP = none := due_ok (by decide) (by decide) fun s hs => by
  have hs : s ∈ List.replicate 16 ("a" : Str) := hs
  rw [(List.mem_replicate.mp hs).2]
  exact h
theorem kds_p {K : PySem.W.Frag} {G : Hp} {nl : Addr} (e : G nl = some (.lst [])) : Kds K G [(.inr ("p" : Str), .ref nl)] [("p", [])] := .cons ⟨rfl, .list [], .lst (SqL.of e) .nil, rfl, rfl⟩ .nil
theorem good_p : GoodK [(("p" : Str), [])] := ⟨by decide, by decide, by simp, fun q hq => by rw [List.mem_singleton.mp hq]; decide +kernel, fun q hq => by rw [List.mem_singleton.mp hq]; exact ⟨by decide, List.nodup_nil, fun s hs => by cases hs⟩⟩
theorem pw_a {K : PySem.W.Frag} {G : Hp} : PW K G (.str "a") (.nm "a") := ⟨by rw [Pl.d]; exact .str _, .nm wd_a, by rw [Pl.dp]; decide, by rw [Pl.sz]; decide, by decide⟩
theorem due_a {ks : List Str} (h : ("a" : Str) ∈ ks) : due ks (.nm "a") = none := due_ok (by decide) (by decide) fun s hs => by
  have hs : s ∈ [("a" : Str)] := hs
  rw [List.mem_singleton.mp hs]
  exact h
end LW
namespace LW
open PySem PySem.Spec PyProof.Rows L2 Ys

theorem wrong_of {d : PyData} (h : d ∈ wrongs) : Wrong d := by
  simp only [wrongs, List.mem_cons, List.not_mem_nil, or_false] at h
  rcases h with rfl | rfl | rfl | rfl
  · exact ⟨by rfl, (.nt rfl fun s e => by cases e), by decide, ⟨by decide +kernel, by decide +kernel⟩, by decide +kernel⟩
  · exact ⟨by rfl, (.tup fun e h => by cases h), by decide, ⟨by decide +kernel, by decide +kernel⟩, by decide +kernel⟩
  · exact ⟨by rfl, (.nt rfl fun s e => by cases e), by decide, ⟨by decide +kernel, by decide +kernel⟩, by decide +kernel⟩
  · exact ⟨by rfl, (.tup fun e h => by rw [List.mem_singleton.mp h]; exact sht_str (by decide)), by decide, ⟨by decide +kernel, by decide +kernel⟩, by decide +kernel⟩
theorem wd_nms : ∀ p, Nms p → ∀ s ∈ nmsL p, Wd s := Pl.ind (fun s k t h => by
    rw [nmsL] at h
    rw [List.mem_singleton.mp h]
    cases k with
    | nm k => exact k) fun h ps ih k => by
  rw [nmsL]
  have kids := k.kids
  clear k
  induction ps with
  | nil => intro s hs; cases hs
  | cons p ps ihp =>
    intro s hs
    rw [nmsLl] at hs
    rcases List.mem_append.mp hs with hs | hs
    · exact ih p (List.mem_cons_self ..) (kids p (List.mem_cons_self ..)) s hs
    · exact ihp (fun q hq => ih q (List.mem_cons_of_mem _ hq)) (fun q hq => kids q (List.mem_cons_of_mem _ hq)) s hs
theorem bf_set {K : PySem.W.Frag} {G : Hp} {C : Addr} {fs : List (Str × V)} {B : BkD} (h : BkF K G C fs B) : fs.lookup ("set_plan" : Str) = none := by
  obtain ⟨_, _, _, _, _, rfl, _⟩ := h
  rfl
theorem wp_spoilt {p : Pl} {d : PyData} (h : Ok false p) (hd : Wrong d) : wpD false (.tuple [.str "then", p.d, d]) = some d := by
  have e : wpD false (.tuple (.str Hd.th.s :: [p.d, d])) = wpL (false || decide (Hd.th = .be)) [p.d, d] := wp_go (b := false) (h := .th) (r := [p.d, d]) rfl rfl
  have e2 : wpL (false || decide (Hd.th = .be)) [p.d, d] = some d := by
    rw [show (false || decide (Hd.th = .be)) = false from rfl, wpL, wp_ok p false h]
    show wpL false [d] = some d
    rw [wpL, hd.wp]
  exact e.trans e2
section
variable {P : Program} {w : World} {K : PySem.W.Frag} {mg : Str → Option Value} {base : Heap} {f : Addr} {fd : FuncData} {C CB CI CM CU cL pT : Addr}
theorem w_choices {G H : Hp} {M : List (Addr × HO)} {v : V} {p : Pl} {Q : VK} {E : XK} (h : PW K G v p) (z : Zp G M H) (q : ∀ l xs G1 H1, Zp G1 M H1 → Same G G1 → G1 l = some (.lst xs) → Dts K G1 xs (Pl.dl (wc (nf p))) → Q (.ref l) H1) : spChoices K CI 17 [v] H Q E :=
  ⟨G, M, v, p.d, rfl, z, h.dt, pl_sht p (Ok.nms _ _ h.ok), h.dep, fun _ => ⟨p, rfl, h.ok, by have := h.dp; omega, by have := h.dp; omega, by have := h.sz; omega, fun l xs G1 H1 z1 s1 d1 => by
    have fr : G1 l = none := (z1.own M.length _ _ last_at).2
    have sN := Same.new (o := HO.lst xs) fr
    exact q l xs _ H1 z1.fix (s1.trans sN) upd_same (d1.up sN)⟩, fun e he => by
    rw [wp_ok p false h.ok] at he
    cases he⟩
def spPenM (K : PySem.W.Frag) : Sp := fun vs H Q _ => ∃ (a : Addr) (G : Hp) (M : List (Addr × HO)) (ns : List Int), vs = [.ref a] ∧ Zp G M H ∧ SqL K G a (ns.map V.int) ∧ ∀ p G1 H1 o1, Zp G1 ((p, o1) :: M) H1 → Same G G1 → Pen K G1 0 o1 → Q (.ref p) H1
theorem ok_penM (T : Nm K mg) (F : FnP K "_law_pen" s_law_pen f fd) : FnOk P w K mg base CX0 1 f fd ["_law_script"] (spPenM K) := by
  have nd : N_law_pen.Nodup := sc_law_pen.nd
  refine F.ok sc_law_pen (fun vs H Q E h => ?_) (fun cdv A outer s H vs Q E hr h => ?_)
  · obtain ⟨a, G, M, ns, rfl, _⟩ := h
    rfl
  have hu := hr.units
  refine ⟨_, PSs.nox   (pss_one (ps_ret (pe_disp (pps_cons pe_str (pe_callTy (kc_list (K := K)) (by rfl) T.b_list boot_list (pa_cons (pe_slice (k_sl (K := K)) (pv 0) po_none (po_some pe_int)) pa_nil)) (pps_cons pe_str pe_int (pps_cons pe_str pe_int pps_nil))) (by rfl) (by rfl) (fun z => by cases z) (by decide)))), ?_⟩
  obtain ⟨a, G, M, ns, rfl, z, hS, q⟩ := h
  repeat (walk_at "z")
  refine z_disp z fun p H1 z1 => ?_
  repeat (walk_at "z")
  refine z_slL z1 hS fun a2 G2 H2 z2 s2 e2 => ?_
  rw [cut_map] at e2
  repeat (walk_at "z")
  refine z_listG z2 (.inl (SqL.of e2)) fun a3 G3 H3 z3 s3 e3 => ?_
  repeat (walk_at "z")
  refine z_dispE (M := M) z3 [(.inr ("cells" : Str), .ref a3), (.inr ("place" : Str), .int 0), (.inr ("rest" : Str), .int 0)] rfl (by show 3 ≤ 15; decide) fun H4 z4 => ?_
  refine q p G3 H4 _ (z4.perm (by exact List.perm_append_comm)) (s2.trans s3) ⟨a3, 0, 0, _, ?_, SqL.of e3, ?_, by decide, by decide, by decide⟩
  · have e1 : ¬ Str.ofString "cells" = Str.ofString "rest" := by decide +kernel
    have e2 : ¬ Str.ofString "place" = Str.ofString "rest" := by decide +kernel
    have e3 : ¬ Str.ofString "cells" = Str.ofString "place" := by decide +kernel
    simp [mergeK, putK, e1, e2, e3, penO]
  · rw [List.length_take]
    have : HT.sIx ns.length ns.length (some 63) = min 63 ns.length := HT.sIx_nat ns.length ns.length 63
    rw [this]
    omega

def spLaw (K : PySem.W.Frag) (pT : Addr) : Sp := fun vs H Q _ => ∃ G a, ∃ ns : List Int, vs = [.ref a] ∧ Zp G [(pT, .tbl #[])] H ∧ SqL K G a (ns.map V.int) ∧ ns.length ≤ 63 ∧ ∀ H1, Q (.bl true) H1
abbrev QL : Str := "law.<locals>.<lambda>"
structure LawC (P : Program) (w : World) (K : PySem.W.Frag) (mg : Str → Option Value) (base : Heap) (C CB CI CM CU : Addr) (es : List V) : Prop where
  pen : Own P w K mg base CX0 1 "_law_pen" ["_law_script"] (spPenM K)
  drw : OwnD P w K mg base
  pick : OwnP P w K mg base
  tall : Own P w K mg base CX0 3 "_law_tall" ["_law_pen_here", "_law_part", "_law_levels_here"] (spTall K)
  due : Own P w K mg base CX0 19 "_law_due" ["_law_plan", "_law_known"] (spDue K)
  form : Own P w K mg base CX0 18 "_law_form" ["_law_plan"] (spNF K 17)
  names : Own P w K mg base CX0 18 "_law_names" ["_law_plan"] (spNames K 17)
  nor : Own P w K mg base (L2.CX P w) 20 "normal" ["plan"] (spNormal K CI 17)
  cho : Own P w K mg base (L2.CX P w) 21 "choices" ["plan"] (spChoices K CI 17)
  task : MkS P w K mg base CX0 4 C "Task" 0 [] (gVd [.non] (.int 1 :: es)) (spInit K C)
  book : MkS P w K mg base (L2.CX P w) 22 CB "Book" 3 [] (fun vs zs => vs ++ zs) (spBookG K C CB CM CU)
  plan : Prp P w K mg base CX0 1 CB "plan" (spBPlanF K C CB)
  setg : Mth P w K mg base (L2.CX P w) 25 CB "set_plan" ["self", "plan"] [] (spPSetG K C CB CM CU)
  setb : Mth P w K mg base (L2.CX P w) 25 CB "set_plan" ["self", "plan"] [] (spPSetB K C CB CI)
  to : ToC K mg CI CM CU
  es : ∃ e1 e2 e3 e4, es = [.ref e1, .ref e2, .ref e3, .ref e4] ∧ ∀ G, SqT K G e1 [] ∧ SqT K G e2 [] ∧ SqT K G e3 [] ∧ SqT K G e4 []
theorem ok_law {es : List V} (T : Nm K mg) (L : LawC P w K mg base C CB CI CM CU es) (B_law : LamX.TabB base mg cL pT) (F : FnP K "law" s_law f fd) (hcd : fd.code = .ref cL) : FnG P w K mg base CX0 30 f fd ["_law_script"] (spLaw K pT) := by
  obtain ⟨e1, e2, e3, e4, rfl, hE⟩ := L.es
  have C_law_pen := L.pen
  have C_law_draw := L.drw
  have C_law_pick := L.pick
  have C_law_tall := L.tall
  have C_law_due := L.due
  have C_law_form := L.form
  have C_law_names := L.names
  have C_normal := L.nor
  have C_choices := L.cho
  have B_Task_0_ := L.task
  have B_Book := L.book
  have R_plan := L.plan
  have M_set_g := L.setg
  have M_set_b := L.setb
  have nd : N_law.Nodup := sc_law.nd
  refine okGC F hcd sc_law (fun vs H Q E h => ?_) (fun A outer s H vs Q E hg hr h => ?_)
  · obtain ⟨G, a, ns, rfl, _⟩ := h
    rfl
  have hu := hr.units
  refine ⟨_, PSs.nox   (pss_cons (ps_asg (pe_own C_law_pen (hr.mono (by omega)) (by rfl) pass0 (pa_cons (pv 0) pa_nil)) (pg_name (i := 1) nd rfl (by first | exact .inl rfl | exact .inr rfl)))
    (pss_cons (ps_asg (pe_frz (pe_callTy (c_dictP (K := K) rfl) (by rfl) T.b_dict boot_dict (pa_cons (pe_lc (own := [("_law_word", 14)]) (tt := tYes) rfl nd (k_tup (K := K) (pe_tup (pa_cons pe_str (pa_cons pe_str pa_nil)))) (blkOk_by (N := N_law) (sc := defScope s_law) (by decide +kernel)) (fun _ _ _ _ _ => (pg_name (i := 14) nd rfl (by first | exact .inl rfl | exact .inr rfl))) (fun _ _ _ _ _ => pts_nil) (fun _ _ _ _ _ => (pe_tup (pa_cons (pv 14) (pa_cons (pe_mk0 B_Task_0_ (hr.mono (by decide)) (by rfl) pass0 pk_nil) pa_nil))))) pa_nil))) (pg_name (i := 2) nd rfl (by first | exact .inl rfl | exact .inr rfl)))
    (pss_cons (ps_for PassesOwn.never rfl (pi_range1 (by rfl) (T.b_range) (pa_cons (pe_op (k_add (K := K)) pe_int (pe_callB (c_min2 rfl) (by rfl) T.b_min boot_min (pa_cons pe_int (pa_cons (pe_callB (kc_len (K := K) (P := P) (w := w)) (by rfl) T.b_len PySem.boot_len (pa_cons (pv 0) pa_nil)) pa_nil)))) pa_nil)) (pg_name (i := 3) nd rfl (by first | exact .inl rfl | exact .inr rfl)) (pss_cons (ps_asg (pe_tup (pa_cons (pe_mk B_Book (hr.mono (by omega)) (by rfl) passX0 (pa_cons (pe_frz (pe_disp (pps_cons pe_str (pe_lst pa_nil) pps_nil) (by rfl) (by rfl) (fun z => by cases z) (by decide))) (pa_cons (pv 2) (pa_cons pe_str pa_nil))) pk_nil) (pa_cons (pe_lst (pa_cons pe_str (pa_cons pe_str (pa_cons pe_str (pa_cons (pe_own C_law_pick (hr.mono (by omega)) (by rfl) pass0 (pa_cons (pv 1) (pa_cons (pe_lst (pa_cons pe_str (pa_cons pe_str (pa_cons pe_str pa_nil)))) pa_nil))) pa_nil))))) pa_nil))) (kg_tup (K := K) (n := 2) rfl (pgs_cons (pg_name (i := 12) nd rfl (by first | exact .inl rfl | exact .inr rfl)) (pgs_cons (pg_name (i := 13) nd rfl (by first | exact .inl rfl | exact .inr rfl)) pgs_nil))))
    (pss_cons (ps_asg (pe_own C_law_pick (hr.mono (by omega)) (by rfl) pass0 (pa_cons (pv 1) (pa_cons (pe_lst (pa_cons pe_int (pa_cons pe_int (pa_cons pe_int (pa_cons pe_int (pa_cons pe_int pa_nil)))))) pa_nil))) (pg_name (i := 6) nd rfl (by first | exact .inl rfl | exact .inr rfl)))
    (pss_cons (ps_asg (pe_op (k_add (K := K)) (pe_tup (pa_cons pe_str pa_nil)) (pe_callTy (kc_tuple (K := K)) (by rfl) T.b_tuple boot_tuple (pa_cons (pe_lc (own := [("_law_k", 15)]) (tt := tYes) rfl nd (pi_range1 (by rfl) (T.b_range) (pa_cons (pv 6) pa_nil)) (blkOk_by (N := N_law) (sc := defScope s_law) (by decide +kernel)) (fun _ _ _ _ _ => (pg_name (i := 15) nd rfl (by first | exact .inl rfl | exact .inr rfl))) (fun _ _ _ _ _ => pts_nil) (fun _ _ _ _ _ => (pe_own C_law_pick (hr.mono (by omega)) (by rfl) pass0 (pa_cons (pv 1) (pa_cons (pv 13) pa_nil))))) pa_nil))) (pg_name (i := 7) nd rfl (by first | exact .inl rfl | exact .inr rfl)))
    (pss_cons (ps_asg (pe_own C_law_tall (hr.mono (by omega)) (by rfl) pass0 (pa_cons (pv 1) (pa_cons (pv 7) (pa_cons (pe_own C_law_draw (hr.mono (by omega)) (by rfl) pass0 (pa_cons (pv 1) (pa_cons pe_int pa_nil))) pa_nil)))) (pg_name (i := 8) nd rfl (by first | exact .inl rfl | exact .inr rfl)))
    (pss_cons (ps_asg (pe_own C_law_due (hr.mono (by omega)) (by rfl) pass0 (pa_cons (pv 8) (pa_cons (pv 2) pa_nil))) (pg_name (i := 9) nd rfl (by first | exact .inl rfl | exact .inr rfl)))
    (pss_cons (ps_if (pt_cmpR (k_ne (K := K) hu) (pe_told (k := 27) (q := QL) T L.to hg (by rfl) B_law rfl (by rfl) (hr.mono (by omega)) (LamX.lamS_by (show LamX.lamSB (defScope s_law) _ = true from by decide +kernel)) (by rfl) (fun _ _ _ _ _ => by rfl) (fun A2 o2 s2 H2 E2 f2 c2 hr2 => (pe_mkX B_Book (hr2.mono (by omega)) (by rfl) (takes_of rfl rfl rfl rfl) (pa_cons (pe_frz (pe_disp (pps_cons pe_str (pe_lst pa_nil) pps_nil) (by rfl) (by rfl) (fun z => by cases z) (by decide))) (pa_cons (pv 2) (pa_cons (pv 8) pa_nil))) pk_nil))) (pv 9) (nomark _)) (pss_one (ps_ret pe_bl)) pss_nil)
    (pss_cons (ps_if (pt_cmpR (k_ne (K := K) hu) (pe_told (k := 27) (q := QL) T L.to hg (by rfl) B_law rfl (by rfl) (hr.mono (by omega)) (LamX.lamS_by (show LamX.lamSB (defScope s_law) _ = true from by decide +kernel)) (by rfl) (fun _ _ _ _ _ => by rfl) (fun A2 o2 s2 H2 E2 f2 c2 hr2 => (pe_mtX M_set_g (hr2.mono (by omega)) (takes_of rfl rfl rfl rfl) (pv 12) (pa_cons (pv 8) pa_nil)))) (pv 9) (nomark _)) (pss_one (ps_ret pe_bl)) pss_nil)
    (pss_cons (ps_if (pt_cmpR (k_ne (K := K) hu) (pe_callB (kc_repr (K := K) hg T.sys hu) (by rfl) T.b_repr boot_repr (pa_cons (pe_pr R_plan (hr.mono (by decide)) pass0 (pv 12)) pa_nil)) (pe_callB (kc_repr (K := K) hg T.sys hu) (by rfl) T.b_repr boot_repr (pa_cons (pe_ifExp (pt_cmpR o_notN (pv 9) pe_non (nomark _)) pe_str (pe_own C_law_form (hr.mono (by omega)) (by rfl) pass0 (pa_cons (pv 8) pa_nil))) pa_nil)) (nomark _)) (pss_one (ps_ret pe_bl)) pss_nil)
    (pss_cons (ps_asg (pe_own C_law_pick (hr.mono (by omega)) (by rfl) pass0 (pa_cons (pv 1) (pa_cons (pe_lst (pa_cons pe_int (pa_cons (pe_tup pa_nil) (pa_cons (pe_lst (pa_cons pe_str pa_nil)) (pa_cons (pe_tup (pa_cons pe_str pa_nil)) pa_nil))))) pa_nil))) (pg_name (i := 10) nd rfl (by first | exact .inl rfl | exact .inr rfl)))
    (pss_cons (ps_asg (pe_tup (pa_cons pe_str (pa_cons (pv 8) (pa_cons (pv 10) pa_nil)))) (pg_name (i := 11) nd rfl (by first | exact .inl rfl | exact .inr rfl)))
    (pss_one (ps_if (pt_cmpR (k_ne (K := K) hu) (pe_told (k := 27) (q := QL) T L.to hg (by rfl) B_law rfl (by rfl) (hr.mono (by omega)) (LamX.lamS_by (show LamX.lamSB (defScope s_law) _ = true from by decide +kernel)) (by rfl) (fun _ _ _ _ _ => by rfl) (fun A2 o2 s2 H2 E2 f2 c2 hr2 => (pe_mtX M_set_b (hr2.mono (by omega)) (takes_of rfl rfl rfl rfl) (pv 12) (pa_cons (pv 11) pa_nil)))) (pe_tup (pa_cons pe_str (pa_cons (pe_callB (kc_repr (K := K) hg T.sys hu) (by rfl) T.b_repr boot_repr (pa_cons (pv 10) pa_nil)) pa_nil))) (nomark _)) (pss_one (ps_ret pe_bl)) pss_nil)))))))))))))
    (pss_cons (ps_asg (pe_tup (pa_cons pe_str (pa_cons (pe_op (k_add (K := K)) (pe_tup (pa_cons pe_str pa_nil)) (pe_op op_repT (pe_tup (pa_cons pe_str pa_nil)) pe_int)) pa_nil))) (pg_name (i := 4) nd rfl (by first | exact .inl rfl | exact .inr rfl)))
    (pss_cons (ps_asg (pe_ix (k_ix (K := K)) (pe_own C_choices (hr.mono (by omega)) (by rfl) passX0 (pa_cons (pe_pr R_plan (hr.mono (by decide)) pass0 (pe_mk B_Book (hr.mono (by omega)) (by rfl) passX0 (pa_cons (pe_frz (pe_disp (pps_cons pe_str (pe_lst pa_nil) pps_nil) (by rfl) (by rfl) (fun z => by cases z) (by decide))) (pa_cons (pv 2) (pa_cons (pv 4) pa_nil))) pk_nil)) pa_nil)) pe_int (fun _ _ => rfl)) (pg_name (i := 5) nd rfl (by first | exact .inl rfl | exact .inr rfl)))
    (pss_one (ps_ret (pe_and (pe_cmpR (k_eq (K := K) hu) (pe_callB (kc_len (K := K) (P := P) (w := w)) (by rfl) T.b_len PySem.boot_len (pa_cons (pe_own C_law_names (hr.mono (by omega)) (by rfl) pass0 (pa_cons (pv 5) pa_nil)) pa_nil)) pe_int (nomark _)) (pe_one (pe_cmpR (k_eq (K := K) hu) (pe_callB (kc_repr (K := K) hg T.sys hu) (by rfl) T.b_repr boot_repr (pa_cons (pe_own C_normal (hr.mono (by omega)) (by rfl) passX0 (pa_cons (pv 5) pa_nil)) pa_nil)) (pe_callB (kc_repr (K := K) hg T.sys hu) (by rfl) T.b_repr boot_repr (pa_cons (pv 5) pa_nil)) (nomark _))))))))))), ?_⟩
  obtain ⟨G, a, ns, rfl, z, hS, hn, q⟩ := h
  repeat (walk_at "z")
  refine ⟨a, G, _, ns, rfl, z, hS, fun p G1 H1 o1 z1 s1 hp1 => ?_⟩
  repeat (walk_at "z")
  -- the known tasks
  refine z_newT z1 (by simp) fun pw G2 H2 z2 s2 e2' => ?_
  refine z_itT z2 (SqT.of e2') ?_
  refine lc_src src_T (fun i G' M' acc => M' = [(p, o1), (pT, .tbl #[])] ∧ Same G2 G' ∧ ∃ ps kvs, acc = ps.map V.ref ∧ Paired (fun p (kv : Key × V) => SqT K G' p [kV kv.1, kv.2]) ps kvs ∧ Kv0 K G' C kvs ((["a", "b"] : List Str).take i)) z2 ⟨rfl, Same.refl _, [], [], rfl, .nil, .nil⟩ (fun i G' M' M1 acc H' ⟨_, s', _⟩ z' => z'.seqT (upT s' (SqT.of e2'))) ?_ ?_
  · rintro j y G3 M3 acc Dl H3 hy ⟨rfl, s3, ps, kvs, rfl, hps, hkv⟩ z3
    rw [show [V.str "a", V.str "b"] = (["a", "b"] : List Str).map V.str from rfl, List.getElem?_map] at hy
    obtain ⟨tw', hj, rfl⟩ := Option.map_eq_some_iff.mp hy
    have hlen : ps.length = ((["a", "b"] : List Str).take j).length := (keys_len hps).trans (keys_len hkv)
    rw [List.length_take] at hlen
    have hlen : ps.length = min j 2 := hlen
    repeat (walk_at "z")
    refine ⟨by rfl, ?_⟩
    repeat (walk_at "z")
    refine z_mkI z3 rfl rfl fun x dx H4 z4 s4 => ?_
    refine ⟨x, dx, _, _, none, 1, _, _, _, _, _, _, _, _, [], [], [], [], rfl, z4, (fun s h => by cases h), by decide, by decide, ⟨.inl (.tup (hE _).1 .nil), okl0⟩, ⟨.inl (.tup (hE _).2.1 .nil), okl0⟩, ⟨.inl (.tup (hE _).2.2.1 .nil), okl0⟩, ⟨.inl (.tup (hE _).2.2.2 .nil), okl0⟩, fun G5 H5 z5 s5 kx => ⟨rfl, ?_⟩⟩
    rw [asc0] at kx
    have kx : TkI K G5 C x tk0 := kx
    repeat (walk_at "z")
    refine z_newT z5 (by simp) fun pt G6 H6 z6 s6 f6 => ?_
    have s36 := (s4.trans s5).trans s6
    refine z_laid z6 (by rw [List.length_map]; omega) ⟨rfl, s3.trans s36, ps ++ [pt], kvs ++ [(.inr tw', .ref x)], by simp, ?_, ?_⟩
    · exact paired_snoc (R := fun p (kv : Key × V) => SqT K G6 p [kV kv.1, kv.2]) (SqT.of f6) (prs_up hps s36)
    · rw [List.take_add_one, hj]
      exact paired_snoc ⟨rfl, x, rfl, kx.up s6⟩ (hkv.up s36)
  rintro pl2 G3 M3 acc G4 H4 ⟨rfl, s3, ps, kvs, rfl, hps, hkv⟩ s4 z4 e4'
  have hkv : Kv0 K G3 C kvs ["a", "b"] := hkv
  repeat (walk_at "z")
  refine z_dictP z4 (SqL.of e4') (prs_up hps s4) fun dt H5 z5 => ?_
  refine z_frzL z5 fun G6 H6 z6 s6 ft => ?_
  obtain ⟨tn, htn, h0⟩ := merge_tks (hkv.up (s4.trans s6)) (acc := []) (tn := []) (ts := []) .nil ⟨List.nodup_nil, (fun x => by simp), (fun q hq => by cases hq), Nat.le_refl _⟩
  rw [List.nil_append] at h0
  have s16 := s2.trans (s3.trans (s4.trans s6))
  have hp6 := hp1.up s16
  have gts : GoodTs tn := ⟨by have := h0.le; simp at this; omega, h0.nd, fun q hq => wd_word (by
    have := (h0.mem _).mp (List.mem_map.mpr ⟨q, hq, rfl⟩)
    simp only [List.mem_cons, List.not_mem_nil, or_false] at this
    rcases this with e | e
    · rw [e]; exact wd_a
    · rw [e]; exact wd_abcd (by simp [abcd]))⟩
  have hka : ("a" : Str) ∈ tn.map (·.1) := (h0.mem _).mpr (by simp)
  have hS6 := upL (s1.trans s16) hS
  generalize hkvs : mergeK [] kvs = kvs' at ft htn
  clear hps hkv e4' z5 z4 z2 z1 z hp1
  repeat (walk_at "z")
  refine z_lenH (.inl (z6.seqL hS6)) ?_
  rw [List.length_map]
  repeat (walk_at "z")
  refine z_min2 ?_
  generalize hn8 : (if (ns.length : Int) < 4 then (ns.length : Int) else 4) = n8
  have n80 : 0 ≤ n8 ∧ n8 ≤ 4 := by rw [← hn8]; split <;> omega
  repeat (walk_at "z")
  refine z_itR (by omega) (by omega) ?_
  refine for_src src_R (fun i σ G' M' => ∃ o' ps k3 k4 k5 k6 k7 k8 k9 k10 k11 k12 k13 k14 k15, M' = [(p, o'), (pT, .tbl ps)] ∧ TbOk G' QL ps ∧ Same G6 G' ∧ Pen K G' (40 * i) o' ∧ σ = [some (.ref a), some (.ref p), some (.ref dt), k3, k4, k5, k6, k7, k8, k9, k10, k11, k12, k13, k14, k15])
    z6 ⟨o1, #[], _, _, _, _, _, _, _, _, _, _, _, _, _, rfl, .nil, Same.refl _, hp6, rfl⟩ (fun _ _ _ _ _ _ _ => trivial) ?_ ?_
  · rintro i x σ G0 M0 H0 hx ⟨o0, ps0, k3, k4, k5, k6, k7, k8, k9, k10, k11, k12, k13, k14, k15, rfl, tb0, sm0, hp0, rfl⟩ z0
    obtain ⟨hi, rfl⟩ := rng_at hx
    have hb : 40 * i ≤ 4000 := by omega
    generalize hbb : 40 * i = b at hp0 hb
    have ft0 := ft.up sm0
    have htn0 := htn.up sm0
    -- the book
    repeat (walk_at "z")
    refine z_disp z0 fun dk H1 z1 => ?_
    repeat (walk_at "z")
    refine z_newL z1 (by simp) fun nl G2 H2 z2 s2 f2 => ?_
    repeat (walk_at "z")
    refine z_dispE (M := [(p, o0), (pT, .tbl ps0)]) z2 [(.inr ("p" : Str), .ref nl)] rfl (by show 1 ≤ 15; decide) fun H3 z3 => ?_
    have z3 : Zp G2 ([(p, o0), (pT, .tbl ps0)] ++ [(dk, .dK [(.inr ("p" : Str), .ref nl)])]) H3 := z3
    refine z_frzL z3 fun G4 H4 z4 s4 fk => ?_
    have s24 := s2.trans s4
    repeat (walk_at "z")
    refine z_mkI z4 rfl rfl fun bk dbk H5 z5 s5 => ?_
    have s05 := s24.trans s5
    refine ⟨_, _, bk, dbk, dk, dt, .str "a", _, [("p", [])], _, tn, .nm "a", rfl, z5, fk.up s5, (kds_p (s4 _ _ f2)).up s5, good_p, ft0.up s05, htn0.up s05, gts, h0.need, pw_a, fun _ fs6 G6 H6 z6 s6 bf => ⟨rfl, ?_⟩, fun e he => by rw [due_a hka] at he; cases he⟩
    have s06 := s05.trans s6
    have tb6 := tb0.up s06
    have hp6 := hp0.up s06
    have ft6 := ft0.up s06
    have htn6 := htn0.up s06
    have z6 : Zp G6 [(p, o0), (pT, .tbl ps0), (bk, .ins CB dbk fs6)] H6 := z6
    clear z5 z4 z3 z2 z1 z0 hp0 tb0 f2 fk
    repeat (walk_at "z")
    refine z_newL z6 (by simp) fun q7 G7 H7 z7 s7 e7 => ?_
    repeat (walk_at "z")
    refine ⟨p, o0, G7, _, b, _, rfl, z7, hp6.up s7, by omega, .inl ⟨q7, _, rfl, .inl (SqL.of e7), by simp, by simp, fun v8 G8 H8 o8 hv8 z8 s8 hp8 => ?_⟩⟩
    obtain ⟨x8, rfl, hx8⟩ : ∃ s, v8 = .str s ∧ s ∈ abcd := by
      simp only [List.mem_cons, List.not_mem_nil, or_false] at hv8
      rcases hv8 with rfl | rfl | rfl <;> exact ⟨_, rfl, by simp [abcd]⟩
    repeat (walk_at "z")
    refine z_newL z8 (by simp) fun np G9 H9 z9 s9 e9 => ?_
    repeat (walk_at "z")
    refine z_newT z9 (by simp) fun pt G10 H10 z10 s10 e10 => ?_
    refine z_gtup z10 (SqT.of e10) rfl ?_
    have hN10 : SqL K G10 np (([("a" : Str), "b", "b", x8]).map V.str) := SqL.of (s10 _ _ e9)
    have habc : ∀ s ∈ [("a" : Str), "b", "b", x8], s ∈ abcd := fun s hs => by
      simp only [List.mem_cons, List.not_mem_nil, or_false] at hs
      rcases hs with rfl | rfl | rfl | rfl
      · simp [abcd]
      · simp [abcd]
      · simp [abcd]
      · exact hx8
    have s610 := s7.trans (s8.trans (s9.trans s10))
    have hp10 := hp8.up (s9.trans s10)
    have z10 : Zp G10 [(p, o8), (pT, .tbl ps0), (bk, .ins CB dbk fs6)] H10 := z10
    clear z9 z8 z7 z6 hp8 hp6 e9 e10 e7
    repeat (walk_at "z")
    refine z_newL z10 (by simp) fun q11 G11 H11 z11 s11 e11 => ?_
    repeat (walk_at "z")
    refine ⟨p, o8, G11, _, _, _, rfl, z11, hp10.up s11, by omega, .inl ⟨q11, _, rfl, .inl (SqL.of e11), by simp, by simp, fun v12 G12 H12 o12 hv12 z12 s12 hp12 => ?_⟩⟩
    obtain ⟨nn, rfl, nn1, nn17⟩ : ∃ i, v12 = V.int i ∧ 1 ≤ i ∧ i ≤ 17 := by
      simp only [List.mem_cons, List.not_mem_nil, or_false] at hv12
      rcases hv12 with rfl | rfl | rfl | rfl | rfl <;> exact ⟨_, rfl, by decide, by decide⟩
    repeat (walk_at "z")
    refine z_newT z12 (by simp) fun ph G13 H13 z13 s13 e13 => ?_
    repeat (walk_at "z")
    refine z_itR (by omega) (by omega) ?_
    have hN13 := upL (s11.trans (s12.trans s13)) hN10
    refine lc_src src_R (fun i G' M' acc => ∃ o', ∃ ss : List Str, M' = [(p, o'), (pT, .tbl ps0), (bk, .ins CB dbk fs6)] ∧ Same G13 G' ∧ Pen K G' (b + 1 + 1 + i) o' ∧ acc = ss.map V.str ∧ ss.length = i ∧ ∀ t ∈ ss, t ∈ abcd) z13 ⟨o12, [], rfl, Same.refl _, hp12.up s13, rfl, rfl, by simp⟩ (fun _ _ _ _ _ _ _ _ => trivial) ?_ ?_
    · rintro i x G2 M2 acc Dl H2 hx ⟨o2, ss, rfl, s2, hp2, rfl, rfl, hss⟩ z2
      have hi : ss.length < 17 := by
        have := (List.getElem?_eq_some_iff.mp hx).1
        rw [rngV_len] at this
        omega
      repeat (walk_at "z")
      refine ⟨by rfl, ?_⟩
      repeat (walk_at "z")
      refine ⟨p, o2, G2, _, _, _, rfl, z2, hp2, by omega, .inl ⟨np, _, rfl, .inl (upL s2 hN13), by simp, by simp, fun vv G3 H3 o3 hv z3 s3 hp3 => ?_⟩⟩
      obtain ⟨nm, hnm, rfl⟩ := List.mem_map.mp hv
      refine z_laid (M := [(p, o3), (pT, .tbl ps0), (bk, .ins CB dbk fs6)]) z3 (by rw [List.length_map]; omega) ⟨o3, ss ++ [nm], rfl, s2.trans s3, hp3, by simp, by simp, fun t ht => ?_⟩
      rcases List.mem_append.mp ht with ht | ht
      · exact hss t ht
      · rw [List.mem_singleton.mp ht]; exact habc nm hnm
    rintro p14 G14 M14 acc G15 H15 ⟨o14, ss, rfl, s14, hp14, rfl, hlen, hss⟩ s15 z15 e15
    rw [rngV_len] at hlen hp14
    have hl17 : ss.length ≤ 17 := by omega
    have hp14 := hp14.mono (c := b + 19) (by omega)
    repeat (walk_at "z")
    refine z_tupL z15 (SqL.of e15) fun p16 G16 H16 z16 s16 e16 => ?_
    have s1316 := s14.trans (s15.trans s16)
    refine z_addT z16 (upT s1316 (SqT.of e13)) e16 (by rw [List.length_map]; simp; omega) fun p17 G17 H17 z17 s17 e17 => ?_
    have d17 : Dt K G17 (.ref p17) (Pl.nd .th (ss.map Pl.nm)).d := dt_mk (h := .th) e17 (dts_row ss)
    have t17 := tp_row hss hl17
    have hp17 := hp14.up (s15.trans (s16.trans s17))
    have s617 := s610.trans (s11.trans (s12.trans (s13.trans (s1316.trans s17))))
    have z17 : Zp G17 [(p, o14), (pT, .tbl ps0), (bk, .ins CB dbk fs6)] H17 := z17
    clear z16 z15 z13 z12 z11 z10 hp14 hp12 hp10 e11 e13 e15 e16 e17 hN13 hN10
    repeat (walk_at "z")
    refine ⟨p, o14, G17, _, _, _, rfl, z17, hp17, by omega, by decide, by decide, fun dr G18 H18 o18 z18 s18 hp18 d0 d6 => ?_⟩
    repeat (walk_at "z")
    refine ⟨p, o18, G18, _, _, _, _, dr, rfl, z18, hp18, by omega, d17.up s18, t17, by omega, by omega, fun v19 pl G19 H19 o19 z19 s19 hp19 d19 t19 => ?_⟩
    have s619 := s617.trans (s18.trans s19)
    have ft19 := ft6.up s619
    have htn19 := htn6.up s619
    have bf19 := bf.up s619
    have tb19 := tb6.up s619
    repeat (walk_at "z")
    refine ⟨G19, _, v19, dt, _, tn.map (·.1), pl, rfl, z19, t19.pw d19, ft19, htn19.keys, fun v20 G20 H20 z20 s20 hv20 => ?_⟩
    have tb20 := tb19.up s20
    have hp20 := hp19.up s20
    have d20 := d19.up s20
    have ft20 := ft19.up s20
    have htn20 := htn19.up s20
    have bf20 := bf19.up s20
    have z20 : Zp G20 [(p, o19), (pT, .tbl ps0), (bk, .ins CB dbk fs6)] H20 := z20
    have nms := Ok.nms _ _ t19.ok
    have wdd : ∀ s, due (tn.map (·.1)) pl = some (.task s) → Wd s := fun s h => wd_nms pl nms s (due_task h)
    have shd := due_shp wdd
    clear z19 z18 z17 hp18 hp17 hp19 d19 d17 tb19 ft19 htn19 bf19 hx
    -- a new book
    repeat (walk_at "z")
    refine z_told (K := K) (CI := CI) (CM := CM) (CU := CU) z20 1 rfl tb20 (due (tn.map (·.1)) pl) (fun _ M2 ps2 => M2 = [(p, o19), (pT, .tbl ps2), (bk, .ins CB dbk fs6)]) (fun E1 G1 H1 ps1 z1 s1 hbad Qn hok => ?_) (fun rv G21 M21 H21 ps21 z21 s21 tb21 h1 h2 hrv => ?_)
    · repeat (walk_at "z")
      refine z_disp z1 fun dk2 H2 z2 => ?_
      repeat (walk_at "z")
      refine z_newL z2 (by simp) fun nl2 G3 H3 z3 s3 f3 => ?_
      repeat (walk_at "z")
      refine z_dispE (M := [(p, o19), (pT, .tbl ps1), (bk, .ins CB dbk fs6)]) z3 [(.inr ("p" : Str), .ref nl2)] rfl (by show 1 ≤ 15; decide) fun H4 z4 => ?_
      have z4 : Zp G3 ([(p, o19), (pT, .tbl ps1), (bk, .ins CB dbk fs6)] ++ [(dk2, .dK [(.inr ("p" : Str), .ref nl2)])]) H4 := z4
      refine z_frzL z4 fun G5 H5 z5 s5 fk2 => ?_
      repeat (walk_at "z")
      refine z_mkSI z5 rfl rfl fun xb dxb H6 z6 s6 => ?_
      have s16 := s3.trans (s5.trans s6)
      have s2016 := s1.trans s16
      exact ⟨_, _, xb, dxb, dk2, dt, v19, _, [("p", [])], _, tn, pl, rfl, z6, fk2.up s6, (kds_p (s5 _ _ f3)).up s6, good_p, ft20.up s2016, htn20.up s2016, gts, h0.need, t19.pw (d20.up s2016), fun hdu fs G7 H7 z7 s7 _ => ⟨rfl, hok hdu G7 _ H7 rfl z7.cut (s16.trans s7)⟩, fun e he => (hbad e he).up s16⟩
    obtain rfl : M21 = [(p, o19), (pT, .tbl ps21), (bk, .ins CB dbk fs6)] := by
      cases hdu : due (tn.map (·.1)) pl with
      | none => exact h1 hdu
      | some e => exact h2 e hdu
    clear h1 h2
    repeat (walk_at "z")
    refine z_neD z21 hrv (hv20.dt.up s21) shd shd ?_
    rw [SeqAt.eqv_refl _ (SeqAt.canLay_of_shaped shd)]
    have bf21 := bf20.up s21
    have d21 := d20.up s21
    clear z20 tb20
    -- set_plan
    repeat (walk_at "z")
    refine z_told (K := K) (CI := CI) (CM := CM) (CU := CU) z21 1 rfl tb21 (due (tn.map (·.1)) pl) (fun G2 M2 ps2 => ∃ fs', M2 = [(p, o19), (pT, .tbl ps2), (bk, .ins CB dbk fs')] ∧ BkF K G2 C fs' ⟨ordK [("p", [])], ordT tn, nf pl⟩) (fun E1 G1 H1 ps1 z1 s1 hbad Qn hok => ?_) (fun rv2 G22 M22 H22 ps22 z22 s22 tb22 h1 h2 hrv2 => ?_)
    · have hde : due ((ordT tn).map (·.1)) pl = due (tn.map (·.1)) pl := due_mem (fun s => by rw [ordT_keys]; exact asc_mem) pl
      repeat (walk_at "z")
      refine ⟨bk, dbk, fs6, rfl, z1.at_ 2 rfl, bf_set (bf21.up s1), ?_⟩
      repeat (walk_at "z")
      exact ⟨G1, [(p, o19), (pT, .tbl ps1)], bk, dbk, fs6, ⟨ordK [("p", [])], ordT tn, nf (.nm "a")⟩, v19, pl, rfl, z1, bf21.up s1, t19.pw (d21.up s1), fun hdu fs' G2 H2 z2 s2 bf2 => hok (by rw [← hde]; exact hdu) G2 _ H2 ⟨fs', rfl, bf2⟩ z2 s2, fun e he => hbad e (by rw [← hde]; exact he)⟩
    have hbk : ∃ fs' B', M22 = [(p, o19), (pT, .tbl ps22), (bk, .ins CB dbk fs')] ∧ BkF K G22 C fs' B' ∧ B'.plan = (if (due (tn.map (·.1)) pl).isNone then nf pl else .nm "a") ∧ (B'.tasks = ordT tn) := by
      cases hdu : due (tn.map (·.1)) pl with
      | none =>
        obtain ⟨fs', e, bf⟩ := h1 hdu
        exact ⟨fs', _, e, bf, rfl, rfl⟩
      | some e => exact ⟨fs6, _, h2 e hdu, bf21.up s22, rfl, rfl⟩
    obtain ⟨fs22, B22, rfl, bf22, hB22, hT22⟩ := hbk
    clear h1 h2
    repeat (walk_at "z")
    refine z_neD z22 hrv2 (hv20.dt.up (s21.trans s22)) shd shd ?_
    rw [SeqAt.eqv_refl _ (SeqAt.canLay_of_shaped shd)]
    have d22 := d21.up s22
    have hv22 := hv20.non
    have z22 : Zp G22 [(p, o19), (pT, .tbl ps22), (bk, .ins CB dbk fs22)] H22 := z22
    clear z21 tb21
    repeat (walk_at "z")
    refine ⟨bk, dbk, fs22, rfl, z22.at_ 2 rfl, G22, [(p, o19), (pT, .tbl ps22)], bk, dbk, fs22, B22, rfl, z22, bf22, fun vp hvp => ?_⟩
    have nmb := Ok.nms _ _ hvp.ok
    have szb := hvp.sz
    have dpb := pd_dep B22.plan
    have dpb2 := hvp.dp
    repeat (walk_at "z")
    refine z_reprH (z22.dt hvp.dt) ((shw_pl nmb).mono (by omega)) (by omega) ?_
    repeat (walk_at "z")
    refine ⟨rfl, ?_⟩
    rw [hv22]
    have hp22 := hp20.up (s21.trans s22)
    have bbound : b + 19 + 1 + 5 ≤ b + 26 := by omega
    -- the rest of the lap
    cases hdu : (due (tn.map (·.1)) pl).isNone with
    | true =>
      rw [hdu, if_pos rfl] at hB22
      repeat (walk_at "z")
      refine ⟨G22, _, v19, pl, false, rfl, z22, d22, t19.ok, by have := t19.dp; omega, by have := t19.dp; omega, by have := t19.sz; omega, fun v23 G23 H23 z23 s23 d23 => ?_⟩
      repeat (walk_at "z")
      refine z_reprH (z23.dt d23) ((shw_pl (Ok.nms _ _ (nf_ok pl false t19.ok))).mono (by have := nf_sz pl; have := t19.sz; omega)) (by have := pd_dep (nf pl); have := nf_dp pl; have := t19.dp; omega) ?_
      rw [hB22]
      repeat (walk_at "z")
      refine z_neS rfl ?_
      rw [decide_eq_true rfl]
      repeat (walk_at "z")
      refine z_newT z23 (by simp) fun w1 G31 H31 z31 s31 e31 => ?_
      repeat (walk_at "z")
      refine z_newL z31 (by simp) fun w2 G32 H32 z32 s32 e32 => ?_
      repeat (walk_at "z")
      refine z_newT z32 (by simp) fun w3 G33 H33 z33 s33 e33 => ?_
      repeat (walk_at "z")
      refine z_newL z33 (by simp) fun w4 G34 H34 z34 s34 e34 => ?_
      repeat (walk_at "z")
      have s2234 := s23.trans (s31.trans (s32.trans (s33.trans s34)))
      refine ⟨p, o19, G34, _, _, _, rfl, z34, hp22.up s2234, by omega, .inl ⟨w4, _, rfl, .inl (SqL.of e34), by simp, by simp, fun vw G35 H35 o35 hvw z35 s35 hp35 => ?_⟩⟩
      have s2235 := s2234.trans s35
      obtain ⟨wd, hwd, dwd⟩ : ∃ d, d ∈ wrongs ∧ Dt K G35 vw d := by
        simp only [List.mem_cons, List.not_mem_nil, or_false] at hvw
        rcases hvw with rfl | rfl | rfl | rfl
        · exact ⟨.int 5, by simp [wrongs], .int _⟩
        · exact ⟨.tuple [], by simp [wrongs], .tup (SqT.of ((s32.trans (s33.trans (s34.trans s35))) _ _ e31)) .nil⟩
        · exact ⟨.list [.str "a"], by simp [wrongs], .lst (SqL.of ((s33.trans (s34.trans s35)) _ _ e32)) (.cons (.str _) .nil)⟩
        · exact ⟨.tuple [.str "any"], by simp [wrongs], .tup (SqT.of ((s34.trans s35) _ _ e33)) (.cons (.str _) .nil)⟩
      have W := wrong_of hwd
      have wdp := W.dp
      have z35 : Zp G35 [(p, o35), (pT, .tbl ps22), (bk, .ins CB dbk fs22)] H35 := z35
      clear z34 z33 z32 z31 e31 e32 e33 e34 hvw
      repeat (walk_at "z")
      refine z_newT z35 (by simp) fun sp G36 H36 z36 s36 e36 => ?_
      have s2236 := s2235.trans s36
      have dsp : Dt K G36 (.ref sp) (.tuple [.str "then", pl.d, wd]) := .tup (SqT.of e36) (.cons (.str _) (.cons (d22.up s2236) (.cons (dwd.up s36) .nil)))
      have bf36 := bf22.up s2236
      repeat (walk_at "z")
      refine z_toldB (K := K) (CI := CI) (CM := CM) (CU := CU) z36 1 rfl (tb22.up s2236) wd (W.shw.mono (by decide)) (by omega) (fun E1 G1 H1 ps1 z1 s1 hbad Qn => ?_) (fun rv3 G37 H37 ps37 z37 s37 tb37 hrv3 => ?_)
      · repeat (walk_at "z")
        refine ⟨bk, dbk, fs22, rfl, z1.at_ 2 rfl, bf_set bf36, ?_⟩
        repeat (walk_at "z")
        refine ⟨G1, [(p, o35), (pT, .tbl ps1)], bk, dbk, fs22, B22, .ref sp, _, wd, rfl, z1, bf36.up s1, dsp.up s1, .tup (fun e he => ?_), ?_, wp_spoilt t19.ok W, hbad⟩
        · simp only [List.mem_cons, List.not_mem_nil, or_false] at he
          rcases he with rfl | rfl | rfl
          · exact sht_str (by decide)
          · exact pl_sht pl nms
          · exact W.sht
        · have h1 := pd_dep pl
          have h2 := t19.dp
          show PyData.depthAll [.str "then", pl.d, wd] + 1 < 17
          have h3 : PyData.depthAll [.str "then", pl.d, wd] ≤ 10 := dep_all fun e he => by
            simp only [List.mem_cons, List.not_mem_nil, or_false] at he
            rcases he with rfl | rfl | rfl
            · exact Nat.zero_le _
            · omega
            · omega
          omega
      repeat (walk_at "z")
      refine z_reprH (z37.dt (dwd.up (s36.trans s37))) (W.shw.mono (by decide)) (by omega) ?_
      repeat (walk_at "z")
      refine z_newT z37 (by simp) fun p38 G38 H38 z38 s38 e38 => ?_
      have shw2 : SeqAt.shaped (.tuple [.str "plan", .str wd.shown]) = true := shp_pair (by decide +kernel) W.so rfl
      refine z_neD z38 (hrv3.up s38) (.tup (SqT.of e38) (.cons (.str _) (.cons (.str _) .nil))) shw2 shw2 ?_
      rw [SeqAt.eqv_refl _ (SeqAt.canLay_of_shaped shw2)]
      repeat (walk_at "z")
      have s2238 := s2236.trans (s37.trans s38)
      have z38 : Zp G38 ([(p, o35), (pT, .tbl ps37)] ++ [(bk, .ins CB dbk fs22)]) H38 := z38
      exact ⟨G38, _, z38.cut, o35, ps37, _, _, _, _, _, _, _, _, _, _, _, _, _, rfl, tb37.up s38, sm0.trans (s06.trans (s619.trans (s20.trans ((s21.trans s22).trans s2238)))), (hp35.up (s36.trans (s37.trans s38))).mono (by omega), rfl⟩
    | false =>
      have hB22 : B22.plan = .nm "a" := hB22.trans (by rw [hdu]; rfl)
      repeat (walk_at "z")
      refine z_reprH (d := .str "a") (.str _) ⟨rfl, by decide +kernel⟩ (by decide) ?_
      rw [hB22, Pl.d]
      repeat (walk_at "z")
      refine z_neS rfl ?_
      rw [decide_eq_true rfl]
      repeat (walk_at "z")
      refine z_newT z22 (by simp) fun w1 G31 H31 z31 s31 e31 => ?_
      repeat (walk_at "z")
      refine z_newL z31 (by simp) fun w2 G32 H32 z32 s32 e32 => ?_
      repeat (walk_at "z")
      refine z_newT z32 (by simp) fun w3 G33 H33 z33 s33 e33 => ?_
      repeat (walk_at "z")
      refine z_newL z33 (by simp) fun w4 G34 H34 z34 s34 e34 => ?_
      repeat (walk_at "z")
      have s2234 := (Same.refl G22).trans (s31.trans (s32.trans (s33.trans s34)))
      refine ⟨p, o19, G34, _, _, _, rfl, z34, hp22.up s2234, by omega, .inl ⟨w4, _, rfl, .inl (SqL.of e34), by simp, by simp, fun vw G35 H35 o35 hvw z35 s35 hp35 => ?_⟩⟩
      have s2235 := s2234.trans s35
      obtain ⟨wd, hwd, dwd⟩ : ∃ d, d ∈ wrongs ∧ Dt K G35 vw d := by
        simp only [List.mem_cons, List.not_mem_nil, or_false] at hvw
        rcases hvw with rfl | rfl | rfl | rfl
        · exact ⟨.int 5, by simp [wrongs], .int _⟩
        · exact ⟨.tuple [], by simp [wrongs], .tup (SqT.of ((s32.trans (s33.trans (s34.trans s35))) _ _ e31)) .nil⟩
        · exact ⟨.list [.str "a"], by simp [wrongs], .lst (SqL.of ((s33.trans (s34.trans s35)) _ _ e32)) (.cons (.str _) .nil)⟩
        · exact ⟨.tuple [.str "any"], by simp [wrongs], .tup (SqT.of ((s34.trans s35) _ _ e33)) (.cons (.str _) .nil)⟩
      have W := wrong_of hwd
      have wdp := W.dp
      have z35 : Zp G35 [(p, o35), (pT, .tbl ps22), (bk, .ins CB dbk fs22)] H35 := z35
      clear z34 z33 z32 z31 e31 e32 e33 e34 hvw
      repeat (walk_at "z")
      refine z_newT z35 (by simp) fun sp G36 H36 z36 s36 e36 => ?_
      have s2236 := s2235.trans s36
      have dsp : Dt K G36 (.ref sp) (.tuple [.str "then", pl.d, wd]) := .tup (SqT.of e36) (.cons (.str _) (.cons (d22.up s2236) (.cons (dwd.up s36) .nil)))
      have bf36 := bf22.up s2236
      repeat (walk_at "z")
      refine z_toldB (K := K) (CI := CI) (CM := CM) (CU := CU) z36 1 rfl (tb22.up s2236) wd (W.shw.mono (by decide)) (by omega) (fun E1 G1 H1 ps1 z1 s1 hbad Qn => ?_) (fun rv3 G37 H37 ps37 z37 s37 tb37 hrv3 => ?_)
      · repeat (walk_at "z")
        refine ⟨bk, dbk, fs22, rfl, z1.at_ 2 rfl, bf_set bf36, ?_⟩
        repeat (walk_at "z")
        refine ⟨G1, [(p, o35), (pT, .tbl ps1)], bk, dbk, fs22, B22, .ref sp, _, wd, rfl, z1, bf36.up s1, dsp.up s1, .tup (fun e he => ?_), ?_, wp_spoilt t19.ok W, hbad⟩
        · simp only [List.mem_cons, List.not_mem_nil, or_false] at he
          rcases he with rfl | rfl | rfl
          · exact sht_str (by decide)
          · exact pl_sht pl nms
          · exact W.sht
        · have h1 := pd_dep pl
          have h2 := t19.dp
          show PyData.depthAll [.str "then", pl.d, wd] + 1 < 17
          have h3 : PyData.depthAll [.str "then", pl.d, wd] ≤ 10 := dep_all fun e he => by
            simp only [List.mem_cons, List.not_mem_nil, or_false] at he
            rcases he with rfl | rfl | rfl
            · exact Nat.zero_le _
            · omega
            · omega
          omega
      repeat (walk_at "z")
      refine z_reprH (z37.dt (dwd.up (s36.trans s37))) (W.shw.mono (by decide)) (by omega) ?_
      repeat (walk_at "z")
      refine z_newT z37 (by simp) fun p38 G38 H38 z38 s38 e38 => ?_
      have shw2 : SeqAt.shaped (.tuple [.str "plan", .str wd.shown]) = true := shp_pair (by decide +kernel) W.so rfl
      refine z_neD z38 (hrv3.up s38) (.tup (SqT.of e38) (.cons (.str _) (.cons (.str _) .nil))) shw2 shw2 ?_
      rw [SeqAt.eqv_refl _ (SeqAt.canLay_of_shaped shw2)]
      repeat (walk_at "z")
      have s2238 := s2236.trans (s37.trans s38)
      have z38 : Zp G38 ([(p, o35), (pT, .tbl ps37)] ++ [(bk, .ins CB dbk fs22)]) H38 := z38
      exact ⟨G38, _, z38.cut, o35, ps37, _, _, _, _, _, _, _, _, _, _, _, _, _, rfl, tb37.up s38, sm0.trans (s06.trans (s619.trans (s20.trans ((s21.trans s22).trans s2238)))), (hp35.up (s36.trans (s37.trans s38))).mono (by omega), rfl⟩
  · rintro σ G3 M3 H3 ⟨o3, ps3, k3, k4, k5, k6, k7, k8, k9, k10, k11, k12, k13, k14, k15, rfl, tb3, sm3, hp3, rfl⟩ z3
    have ft3 := ft.up sm3
    have htn3 := htn.up sm3
    repeat (walk_at "z")
    refine z_newT z3 (by simp) fun a4 G4 H4 z4 s4 e4 => ?_
    repeat (walk_at "z")
    refine z_newT z4 (by simp) fun a5 G5 H5 z5 s5 e5 => ?_
    repeat (walk_at "z")
    refine z_repT z5 (SqT.of e5) (by simp) (by decide) (by decide) (by simp) fun a6 G6' H6' z6' s6' e6' => ?_
    refine z_addT z6' (upT (s5.trans s6') (SqT.of e4)) e6' (by decide) fun a7 G7 H7 z7 s7 e7 => ?_
    have e7 : SqT K G7 a7 (.str Hd.th.s :: (List.replicate 16 ("a" : Str)).map V.str) := e7
    repeat (walk_at "z")
    refine z_newT z7 (by simp) fun a8 G8 H8 z8 s8 e8 => ?_
    have d7 : Dt K G8 (.ref a7) then16.d := dt_mk (h := .th) (upT s8 e7) (dts_row (List.replicate 16 ("a" : Str)))
    have d8 : Dt K G8 (.ref a8) longP.d := dt_mk (h := .ag) (SqT.of e8) (.cons d7 .nil)
    have s38 := s4.trans (s5.trans (s6'.trans (s7.trans s8)))
    repeat (walk_at "z")
    refine z_disp z8 fun dk H1 z1 => ?_
    repeat (walk_at "z")
    refine z_newL z1 (by simp) fun nl G2 H2 z2 s2 f2 => ?_
    repeat (walk_at "z")
    refine z_dispE (M := [(p, o3), (pT, .tbl ps3)]) z2 [(.inr ("p" : Str), .ref nl)] rfl (by show 1 ≤ 15; decide) fun H9 z9 => ?_
    have z9 : Zp G2 ([(p, o3), (pT, .tbl ps3)] ++ [(dk, .dK [(.inr ("p" : Str), .ref nl)])]) H9 := z9
    refine z_frzL z9 fun G10 H10 z10 s10 fk => ?_
    repeat (walk_at "z")
    refine z_mkI z10 rfl rfl fun bk dbk H11 z11 s11 => ?_
    have s811 := s2.trans (s10.trans s11)
    have s311 := s38.trans s811
    refine ⟨_, _, bk, dbk, dk, dt, .ref a8, _, [("p", [])], _, tn, longP, rfl, z11, fk.up s11, (kds_p (s10 _ _ f2)).up s11, good_p, ft3.up s311, htn3.up s311, gts, h0.need, ⟨d8.up s811, ok_longP, by decide, by decide, by decide⟩, fun _ fs G12 H12 z12 s12 bf => ⟨rfl, ?_⟩, fun e he => by rw [due_longP hka] at he; cases he⟩
    repeat (walk_at "z")
    refine ⟨bk, dbk, fs, rfl, z12.at_ 2 rfl, G12, [(p, o3), (pT, .tbl ps3)], bk, dbk, fs, _, rfl, z12, bf, fun vp hvp => ?_⟩
    have hvp : PV K G12 _ vp longP := nf_longP ▸ hvp
    repeat (walk_at "z")
    refine w_choices (p := longP) ⟨hvp.dt, hvp.ok, by decide, by decide, by decide⟩ z12 fun l xs G13 H13 z13 s13 e13 d13 => ?_
    rw [nf_longP, wc_longP] at d13
    obtain ⟨x0, xr, rfl, h0', h1'⟩ := pl_cons d13
    obtain ⟨x1, xr', rfl, h1', h2'⟩ := pl_cons h1'
    repeat (walk_at "z")
    refine z_ixL z13 (SqL.of e13) at_one ?_
    repeat (walk_at "z")
    refine ⟨G13, _, x1, leftP, rfl, z13, h1', by decide, by decide, fun l2 G14 H14 z14 s14 e14 => ?_⟩
    repeat (walk_at "z")
    refine z_lenL z14 (SqL.of e14) ?_
    rw [List.length_map, nms_leftP]
    repeat (walk_at "z")
    refine z_eqS rfl ?_
    rw [show decide (V.int ((32 : Nat) : Int) = V.int 32) = true from decide_eq_true rfl]
    repeat (walk_at "z")
    refine w_normal (p := leftP) ⟨h1'.up s14, ok_leftP, by decide, by decide, by decide⟩ z14 fun v15 G15 H15 z15 s15 p15 => ?_
    have d15 : Dt K G15 v15 leftP.d := nf_leftP ▸ p15.dt
    have shl := (shw_pl (Ok.nms _ _ ok_leftP)).mono (show 16 * leftP.sz ≤ 16000000 by decide)
    have dpl : leftP.d.depth ≤ 60 := Nat.le_trans (pd_dep leftP) (by decide)
    repeat (walk_at "z")
    refine z_reprH (z15.dt d15) shl dpl ?_
    repeat (walk_at "z")
    refine z_reprH (z15.dt (h1'.up (s14.trans s15))) shl dpl ?_
    repeat (walk_at "z")
    refine z_eqS rfl ?_
    rw [decide_eq_true rfl]
    repeat (walk_at "z")
    exact q _
end
end LW
/-! facts of the written part: setters, own items -/
namespace Ys
open PySem PySem.Spec PyProof.Rows L2
theorem fPset_ok {x m : Str} {K : PySem.W.Frag} (h : fPset x m K = true) : PropSet K (He.ga K x) m (sA x m K) := by
  obtain ⟨h1, h⟩ := Bool.and_eq_true_iff.mp h
  obtain ⟨h2, h4⟩ := Bool.and_eq_true_iff.mp h
  refine ⟨cA x m K, ?_⟩
  cases q : PySem.W.recIn K (cA x m K) "property" with
  | none => rw [q] at h4; cases h4
  | some l =>
    rw [q] at h4
    cases l with
    | nil => cases h4
    | cons v r =>
      cases r with
      | nil => cases h4
      | cons u r =>
        cases u with
        | ref g => exact ⟨v, r, of_decide_eq_true h1, of_decide_eq_true h2, by rw [of_decide_eq_true h4]⟩
        | _ => cases h4
end Ys
namespace LW
open PySem PySem.Spec PyProof.Rows L2 Ys

section
variable {K : PySem.W.Frag} {f : Addr} {fd : FuncData}
theorem kbindsN {x qual : Str} {params : Arguments} {body : List Stmt} {scope : Scope} {ps : List Str} (F : FunD K x qual params body scope [] [] f fd) (n : Nat) (ks : List Str)
    (h : ∀ (kV doc pm : Value) (an : Option Addr) (cdv ct : Value) (us ws : List Value), us.length = n → ws.length = ks.length → bindArgs (PySem.W.fnOf x qual params body scope .none kV doc pm an cdv ct) ⟨us, ks.zip ws⟩ = pure (ps.zip (us ++ ws))) : KBn K fd ps n ks (fun us ws => us ++ ws) fun vs zs => vs ++ zs := by
  obtain ⟨oc, od, dV, kV, doc, pm, an, cdv, ct, osl, rfl, lk, hcd, hD, hK⟩ := F.ex
  rcases hD with ⟨_, rfl⟩ | ⟨e, _⟩
  · exact ⟨fun s us ws _ l1 l2 => .of_eq (h kV doc pm an cdv ct us ws l1 l2), fun r1 r2 => r1.append r2⟩
  · exact absurd rfl e
theorem kb_normal (F : FnP K "normal" s_normal f fd) : KBn K fd ["plan"] 0 ["plan"] (fun us ws => us ++ ws) fun vs zs => vs ++ zs :=
  kbindsN F 0 ["plan"] fun _ _ _ _ _ _ us ws l1 l2 => match us, ws, l1, l2 with | [], [_], _, _ => rfl
theorem kb_names_in (F : FnP K "names_in" s_names_in f fd) : KBn K fd ["plan"] 0 ["plan"] (fun us ws => us ++ ws) fun vs zs => vs ++ zs :=
  kbindsN F 0 ["plan"] fun _ _ _ _ _ _ us ws l1 l2 => match us, ws, l1, l2 with | [], [_], _, _ => rfl
theorem kb_plan_text (F : FnP K "plan_text" s_plan_text f fd) : KBn K fd ["plan"] 0 ["plan"] (fun us ws => us ++ ws) fun vs zs => vs ++ zs :=
  kbindsN F 0 ["plan"] fun _ _ _ _ _ _ us ws l1 l2 => match us, ws, l1, l2 with | [], [_], _, _ => rfl
theorem kb_choices (F : FnP K "choices" s_choices f fd) : KBn K fd ["plan"] 0 ["plan"] (fun us ws => us ++ ws) fun vs zs => vs ++ zs :=
  kbindsN F 0 ["plan"] fun _ _ _ _ _ _ us ws l1 l2 => match us, ws, l1, l2 with | [], [_], _, _ => rfl
theorem kb_read_plan (F : FnP K "read_plan" s_read_plan f fd) : KBn K fd ["text"] 0 ["text"] (fun us ws => us ++ ws) fun vs zs => vs ++ zs :=
  kbindsN F 0 ["text"] fun _ _ _ _ _ _ us ws l1 l2 => match us, ws, l1, l2 with | [], [_], _, _ => rfl
abbrev FRI (K : PySem.W.Frag) (f : Addr) (fd : FuncData) : Prop := FunD K "__init__" "PlanReader.__init__" (defArgs s_PlanReader_init) (defBody s_PlanReader_init) (defScope s_PlanReader_init) [] [] f fd
theorem kb_rinit (F : FRI K f fd) : KBn K fd ["self", "text"] 2 [] (fun us ws => us ++ ws) fun vs zs => vs ++ zs :=
  kbindsN F 2 [] fun _ _ _ _ _ _ us ws l1 l2 => match us, ws, l1, l2 with | [_, _], [], _, _ => rfl
end
end LW
namespace LW
open PySem PySem.Spec PyProof.Rows L2 Ys
/-! ### recursion, by its depth -/
section
variable {P : Program} {w : World} {K : PySem.W.Frag} {mg : Str → Option Value} {base : Heap} {f : Addr} {fd : FuncData}
theorem fn_none {CX : CXT} {k : Nat} {ps : List Str} {sp : Sp} (v : ∀ vs H Q E, ¬ sp vs H Q E) : FnOk P w K mg base CX k f fd ps sp :=
  ⟨fun vs H Q E h => absurd h (v vs H Q E), fun _ _ _ H _ _ vs Q E _ _ _ _ h => absurd h (v vs H Q E)⟩
theorem rec_at {x : Str} {k : Nat} {ps : List Str} {sp : Nat → Sp} (v : ∀ vs H Q E, ¬ sp 0 vs H Q E) (step : ∀ n, Own P w K mg base CX0 (n + k) x ps (sp n) → FnOk P w K mg base CX0 (n + k + 1) f fd ps (sp (n + 1))) (hm : mg x = some (.ref f)) (hk : PySem.W.keepIn K (.ref f) = true) (hb : Binds K fd ps []) : ∀ n, Own P w K mg base CX0 (n + k) x ps (sp n)
  | 0 => ⟨⟨f, fd, fn_none v, hm, hk, hb⟩⟩
  | n + 1 => ⟨⟨f, fd, by
      have := step n (rec_at v step hm hk hb n)
      rwa [Nat.add_right_comm] at this, hm, hk, hb⟩⟩
theorem no_wrong : ∀ vs H Q E, ¬ spWrong K 0 vs H Q E := fun _ _ _ _ ⟨_, _, _, _, _, _, _, _, _, h, _⟩ => absurd h (Nat.not_lt_zero _)
theorem no_names : ∀ vs H Q E, ¬ spNames K 0 vs H Q E := fun _ _ _ _ ⟨_, _, _, _, _, _, _, h, _⟩ => absurd h (Nat.not_lt_zero _)
theorem no_text : ∀ vs H Q E, ¬ spText K 0 vs H Q E := fun _ _ _ _ ⟨_, _, _, _, _, _, _, _, h, _⟩ => absurd h (Nat.not_lt_zero _)
theorem no_wc : ∀ vs H Q E, ¬ spWC K 0 vs H Q E := fun _ _ _ _ ⟨_, _, _, _, _, _, _, _, _, h, _⟩ => absurd h (Nat.not_lt_zero _)
theorem no_sp : ∀ vs H Q E, ¬ spSP K 0 vs H Q E := fun _ _ _ _ ⟨_, _, _, _, _, _, _, _, _, _, h, _⟩ => absurd h (Nat.not_lt_zero _)
theorem no_plan : ∀ vs H Q E, ¬ spPlan K 0 vs H Q E := fun _ _ _ _ ⟨_, _, _, _, _, _, _, _, _, _, _, _, _, _, _, _, _, _, _, _, _, h, _⟩ => absurd h (Nat.not_lt_zero _)
theorem no_nf : ∀ vs H Q E, ¬ spNF K 0 vs H Q E := fun _ _ _ _ ⟨_, _, _, _, _, _, _, _, _, h, _⟩ => absurd h (Nat.not_lt_zero _)
end
end LW
namespace Ys
open PySem PySem.Spec PyProof.Rows L2
/-! ### the Hook, with methods that say super() -/
theorem obC_eq {n : Nat} {fb : List (PySem.W.Frag → Bool)} {fn fc : List DefY} (s : PySem.W.SharedT) : obC n fb fn fc s = (hookC n fb fn fc).obs s.abs := by
  have e : HandSHeadRun.getT s = s.abs.heap.get? := funext (HandSHeadRun.getT_eq s)
  unfold obC
  rw [e]
  rfl
section
variable {fb : List (PySem.W.Frag → Bool)} {fn fc : List DefY} {K : PySem.W.Frag}
theorem SaysC.both (c : SaysC fb fn fc K) : SaysZ fb fn K ∧ (fc.map fun d => fnC K (d.ad K)) = fc.map DefY.val := by
  have h2 : (fn.map fun d => fnY K (d.ad K)) ++ (fc.map fun d => fnC K (d.ad K)) = fn.map DefY.val ++ fc.map DefY.val := congrArg Prod.snd c
  obtain ⟨h3, h4⟩ := List.append_inj h2 (by rw [List.length_map, List.length_map])
  have h1 : ((fb.all fun f => f K) && fn.all fun d => d.ok K) = true := congrArg Prod.fst c
  exact ⟨Prod.ext h1 h3, h4⟩
theorem SaysC.sup (c : SaysC fb fn fc K) (i : Nat) {d : DefY} (h : fc[i]? = some d := by rfl) : fnC K (d.ad K) = d.val := by
  have := congrArg (fun l : List He.FnW => l[i]?) c.both.2
  simp only [List.getElem?_map, h, Option.map_some] at this
  exact Option.some.inj this
end
/-! ### an own error's class -/
theorem oexB_ok {K : PySem.W.Frag} {C : Addr} (h : oexB K C = true) : ∃ nm q N bs bm sn sub ab col dd k0 k1 k2 k3 k5, K.lookup C = some (excClassObj nm q C N bs bm true sn sub ab col dd k0 k1 k2 k3 k5 "ValueError.__new__") ∧ PySem.HandSPX.refsVE bm = true := by
  unfold oexB at h
  split at h
  · rename_i t dd c sl look
    split at h
    · rename_i D bm k0 k1 k2 k3 m k5 hm hl
      obtain ⟨j, i⟩ := Bool.and_eq_true_iff.mp h
      obtain ⟨j1, j⟩ := Bool.and_eq_true_iff.mp j
      obtain ⟨j2, j3⟩ := Bool.and_eq_true_iff.mp j
      obtain ⟨i1, i⟩ := Bool.and_eq_true_iff.mp i
      obtain ⟨i2, i3⟩ := Bool.and_eq_true_iff.mp i
      have e1 := of_decide_eq_true j1
      have e2 := of_decide_eq_true j2
      have e3 := of_decide_eq_true j3
      obtain ⟨y1, y2, y3, y4, y5, y6, y7, y8, y9, y10, y11⟩ := c
      dsimp only at hm i2 i3
      have z3 : y11 = false := by cases y11 <;> simp_all
      have es : sl = #[k0, k1, k2, k3, some (.builtin m), k5] := Array.toList_inj.mp (by rw [hl])
      subst e1 e2 e3 hm es i2 z3
      exact ⟨y1, y5, y4, y2, bm, y7, y8, y9, y10, dd, k0, k1, k2, k3, k5, look, i1⟩
    · cases h
  · cases h
theorem oexA_ok {x : Str} {K : PySem.W.Frag} (h : oexA x K = true) : OexC K (He.ga K x) := by
  obtain ⟨h1, h⟩ := Bool.and_eq_true_iff.mp h
  obtain ⟨h2, h⟩ := Bool.and_eq_true_iff.mp h
  obtain ⟨h3, h⟩ := Bool.and_eq_true_iff.mp h
  obtain ⟨h4, h5⟩ := Bool.and_eq_true_iff.mp h
  exact { cls := oexB_ok h1, sa := of_decide_eq_true h2, exC := of_decide_eq_true h3, tyC := of_decide_eq_true h4, kC := h5 }
structure ExcA (K : PySem.W.Frag) (C : Addr) (fld : Str) : Prop where
  xf : XfC K C
  xc : ExcC K C
  no : PySem.W.findIn K (.ref C) fld = some none
  ex : PySem.W.exmOne K (.ref C) (.ref C) = some true
  kt : PySem.W.kitOne K (.ref C) (.type "ValueError") = some true
theorem excA_ok {x fld : Str} {K : PySem.W.Frag} (h : excA x fld K = true) : ExcA K (He.ga K x) fld := by
  obtain ⟨h1, h⟩ := Bool.and_eq_true_iff.mp h
  obtain ⟨h2, h⟩ := Bool.and_eq_true_iff.mp h
  obtain ⟨h3, h⟩ := Bool.and_eq_true_iff.mp h
  obtain ⟨h4, h⟩ := Bool.and_eq_true_iff.mp h
  obtain ⟨h5, h⟩ := Bool.and_eq_true_iff.mp h
  obtain ⟨h6, h⟩ := Bool.and_eq_true_iff.mp h
  obtain ⟨h7, h8⟩ := Bool.and_eq_true_iff.mp h
  have X := xfB_ok h1
  exact ⟨X, ⟨X.ga, X.gg, X.exC, X.hdC, of_decide_eq_true h2, of_decide_eq_true h3, of_decide_eq_true h4, of_decide_eq_true h5⟩, of_decide_eq_true h6, of_decide_eq_true h7, of_decide_eq_true h8⟩
/-! ### its __init__ -/
theorem fileB_ok {K : PySem.W.Frag} {cd : Value} {file : Str} (h : fileB K cd file = true) : ∃ a, cd = .ref a ∧ ∃ ccl cdd vs ccs z tf, K.lookup a = some ⟨ccl, cdd, .fields vs, ccs⟩ ∧ vs[2]? = some (.str z tf) ∧ (file == z) = true := by
  unfold fileB at h
  split at h
  · rename_i a
    split at h
    · rename_i c1 c2 vs c3 lk
      split at h
      · rename_i z tf hv
        exact ⟨a, rfl, c1, c2, vs, c3, z, tf, lk, hv, h⟩
      · cases h
    · cases h
  · cases h
theorem cloB_ok {K : PySem.W.Frag} {clo : List (Str × Addr)} {C : Addr} (h : cloB K clo C = true) : ∃ c, clo = [(("__class__" : Str), c)] ∧ ∃ cl cld csl, K.lookup c = some ⟨cl, cld, .cell (some (.ref C)), csl⟩ := by
  unfold cloB at h
  split at h
  · rename_i n c
    obtain ⟨h1, h2⟩ := Bool.and_eq_true_iff.mp h
    split at h2
    · rename_i c1 c2 D c3 lk
      have e1 := of_decide_eq_true h1
      have e2 := of_decide_eq_true h2
      subst e1 e2
      exact ⟨c, rfl, _, _, _, lk⟩
    · cases h2
  · cases h
theorem supA_ok {P : Program} {x fld : Str} {K : PySem.W.Frag} {d : DefY} (hf : d.ad K = cA x "__init__" K) (hn : d.name = "__init__") (e : fnC K (d.ad K) = d.val) (h : supA x d.qual fld P.main.file K = true) :
    ∃ fd, SupF P K (gA x K) (cA x "__init__" K) fld d.qual d.params d.body d.scope fd ∧ (∃ kV doc pm an cdv ct cc, fd = PySem.W.ksFn "__init__" d.qual d.params d.body d.scope .none kV doc pm an cdv ct cc) ∧
      PySem.W.findIn K (.ref (gA x K)) "__init__" = some (some (.ref (cA x "__init__" K))) ∧ PySem.W.typeIn K (.ref (cA x "__init__" K)) = some (.type "function") := by
  obtain ⟨h0, h⟩ := Bool.and_eq_true_iff.mp h
  obtain ⟨h1, h⟩ := Bool.and_eq_true_iff.mp h
  obtain ⟨h2, h⟩ := Bool.and_eq_true_iff.mp h
  obtain ⟨h3, h⟩ := Bool.and_eq_true_iff.mp h
  obtain ⟨h4, h⟩ := Bool.and_eq_true_iff.mp h
  obtain ⟨h5, h⟩ := Bool.and_eq_true_iff.mp h
  obtain ⟨h6, h⟩ := Bool.and_eq_true_iff.mp h
  obtain ⟨h7, h8⟩ := Bool.and_eq_true_iff.mp h
  rw [hf] at e
  split at h0
  · rename_i oc od g osl lk
    obtain ⟨j1, j⟩ := Bool.and_eq_true_iff.mp h0
    obtain ⟨j2, j⟩ := Bool.and_eq_true_iff.mp j
    obtain ⟨j3, j4⟩ := Bool.and_eq_true_iff.mp j
    obtain ⟨a, ha, jf⟩ := fileB_ok j2
    obtain ⟨c, hc, jc⟩ := cloB_ok j3
    have j4 := of_decide_eq_true j4
    unfold fnC at e
    rw [lk] at e
    obtain ⟨g1, g2, g3, g4, g5, g6, g7, g8, g9, g10, g11, g12, g13, g14, g15⟩ := g
    obtain ⟨i1, i2, i3, i4, i5, i6, i7⟩ : g1 = d.name ∧ g2 = d.qual ∧ g3 = d.params ∧ g4 = .stmts d.body ∧ g5 = d.scope ∧ g6 = mainGlobals ∧ g15 = builtinsNs := by
      have e' : (some (g1, g2, g3, g4, g5, g6, [], g15) : He.FnW) = some (d.name, d.qual, d.params, .stmts d.body, d.scope, mainGlobals, [], builtinsNs) := e
      simpa only [Option.some.injEq, Prod.mk.injEq, true_and] using e'
    have hc : g7 = [(("__class__" : Str), c)] := hc
    have ha : g13 = .ref a := ha
    have j4 : g8 = .none := j4
    rw [hn] at i1
    subst i1 i2 i3 i4 i5 i6 i7 hc ha j4
    exact ⟨_, ⟨⟨oc, od, osl, .none, g9, g10, g11, g12, a, g14, c, rfl, lk, j1, jf, jc⟩, of_decide_eq_true h1, of_decide_eq_true h2, of_decide_eq_true h3, of_decide_eq_true h4, of_decide_eq_true h5, of_decide_eq_true h6⟩, ⟨_, _, _, _, _, _, _, rfl⟩, of_decide_eq_true h7, of_decide_eq_true h8⟩
  · cases h0
end Ys
namespace Ys
open PySem PySem.Spec PyProof.Rows L2
/-! ### the Hook, with tables -/
theorem obCT_eq {n : Nat} {fb : List (PySem.W.Frag → Bool)} {fn fc : List DefY} {ts : List He.Tab} (s : PySem.W.SharedT) : obCT n fb fn fc ts s = (hookCT n fb fn fc ts).obs s.abs := by
  have e : HandSHeadRun.getT s = s.abs.heap.get? := funext (HandSHeadRun.getT_eq s)
  unfold obCT
  rw [e]
  rfl
section
variable {fb : List (PySem.W.Frag → Bool)} {fn fc : List DefY} {ts : List He.Tab} {w : World} {K : PySem.W.Frag}
theorem SaysCT.c (c : SaysCT fb fn fc ts w K) : SaysC fb fn fc K := congrArg (fun z : AlCT => z.1) c
theorem SaysCT.tab (c : SaysCT fb fn fc ts w K) (i : Nat) {t : He.Tab} (h : ts[i]? = some t := by rfl) : He.dicW K (t.1 K) = some (He.keysIn w.params t.2) := by
  have e : ts.map (fun t => He.dicW K (t.1 K)) = ts.map fun t => some (He.keysIn w.params t.2) := congrArg (fun z : AlCT => z.2) c
  have e2 : (ts.map fun t => He.dicW K (t.1 K))[i]? = (ts.map fun t => some (He.keysIn w.params t.2))[i]? := by rw [e]
  rw [List.getElem?_map, List.getElem?_map, h] at e2
  exact Option.some.inj e2
end
theorem lookup_mem {z : Str} {v : V} : ∀ {kvs : List (Str × V)}, kvs.lookup z = some v → (z, v) ∈ kvs
  | (k, x) :: r, h => by
    rw [List.lookup_cons] at h
    split at h
    · rename_i e
      have e := eq_of_beq e
      subst e
      rw [Option.some.inj h]
      exact List.mem_cons_self ..
    · exact List.mem_cons_of_mem _ (lookup_mem h)
theorem lookup_no {z : Str} : ∀ {kvs : List (Str × V)}, kvs.lookup z = none → z ∉ kvs.map (·.1)
  | [], _ => by simp
  | (k, x) :: r, h => by
    rw [List.lookup_cons] at h
    split at h
    · cases h
    · rename_i e
      have := lookup_no h
      simp only [List.map_cons, List.mem_cons, not_or]
      refine ⟨fun e2 => ?_, this⟩
      rw [e2, beq_self_eq_true] at e
      cases e
theorem keysLit_mem {P : Params} : ∀ {l : List DictEntry} {ks : List Str}, l.map He.keyOf = He.keysIn P ks → ∀ e ∈ l, ∃ x t, e.key = .str x t ∧ x ∈ ks
  | [], _, _, _, h => by cases h
  | e :: r, [], h, _, _ => by cases h
  | e :: r, k :: ks, h, e', he => by
    have h1 : He.keyOf e :: r.map He.keyOf = some (k, PyData.keyHash P k) :: He.keysIn P ks := h
    injection h1 with h2 h3
    rcases List.mem_cons.mp he with rfl | he
    · unfold He.keyOf at h2
      split at h2
      · rename_i x t q
        have h4 := Option.some.inj h2
        obtain ⟨h5, h6⟩ := Prod.mk.inj h4
        exact ⟨x, t, q, by rw [h5]; exact List.mem_cons_self ..⟩
      · cases h2
    · obtain ⟨x, t, q, m⟩ := keysLit_mem h3 e' he
      exact ⟨x, t, q, List.mem_cons_of_mem _ m⟩
theorem dicW_at {K : PySem.W.Frag} {w : World} {a : Addr} {ks : List Str} (h : He.dicW K a = some (He.keysIn w.params ks)) : ∃ es n, KDict K w a es n ∧ es.toList.map He.keyOf = He.keysIn w.params ks := by
  obtain ⟨es, n, D⟩ := He.dicW_ok h
  refine ⟨es, n, D, ?_⟩
  unfold He.dicW at h
  rw [D.at_] at h
  dsimp only at h
  split at h
  · exact Option.some.inj h
  · cases h
theorem tabD_of {K : PySem.W.Frag} {w : World} {a : PySem.W.Frag → Addr} {kvs : List (Str × V)} (h : He.dicW K (a K) = some (He.keysIn w.params (kvs.map (·.1)))) (hv : valsV kvs a K = true) : TabD K w (a K) kvs := by
  obtain ⟨es, n, D, hk⟩ := dicW_at h
  refine ⟨⟨es, n, D⟩, fun z v l => ?_, fun z l => ?_⟩
  · have h2 := List.all_eq_true.mp hv _ (lookup_mem l)
    cases e : PySem.W.nsIn K (a K) z with
    | none =>
      simp only [e] at h2
      cases h2
    | some r =>
      simp only [e] at h2
      cases r with
      | none => cases h2
      | some u => exact ⟨u, rfl, He.relB_ok h2⟩
  · have hn := lookup_no l
    unfold PySem.W.nsIn
    rw [D.at_]
    have f0 : es.toList.find? (·.key.isStr z) = none := by
      refine List.find?_eq_none.mpr fun e he c => ?_
      obtain ⟨x, t, q, m⟩ := keysLit_mem hk e he
      rw [q] at c
      have e2 : x = z := eq_of_beq (show (x == z) = true from c)
      exact hn (e2 ▸ m)
    have f1 : es.toList.any (·.refKey) = false := by
      refine Bool.eq_false_iff.mpr fun c => ?_
      obtain ⟨e, he, c⟩ := List.any_eq_true.mp c
      obtain ⟨x, t, q, m⟩ := keysLit_mem hk e he
      unfold DictEntry.refKey at c
      rw [q] at c
      cases c
    simp only [f0, f1]
    rfl
end Ys
namespace Ys
open PySem PySem.Spec PyProof.Rows L2
/-! ### the Hook, with tables of code objects -/
theorem obL_eq {n : Nat} {fb : List (PySem.W.Frag → Bool)} {fn fc : List DefY} {ts : List He.Tab} {tf : List (PySem.W.Frag → Addr)} (s : PySem.W.SharedT) : obL n fb fn fc ts tf s = (hookL n fb fn fc ts tf).obs s.abs := by
  have e : HandSHeadRun.getT s = s.abs.heap.get? := funext (HandSHeadRun.getT_eq s)
  unfold obL
  rw [e]
  rfl
theorem cdOf_eq {K : PySem.W.Frag} {x qual : Str} {params : Arguments} {body : List Stmt} {scope : Scope} {dvs : List V} {kws : List (Str × V)} {f : Addr} {fd : FuncData} (F : FunD K x qual params body scope dvs kws f fd) : fd.code = .ref (cdOf K f) := by
  obtain ⟨oc, od, dV, kV, doc, pm, an, cdv, ct, osl, rfl, lk, hcd, _, _⟩ := F.ex
  obtain ⟨c, rfl⟩ := He.codeIn_ref hcd
  unfold cdOf
  rw [lk]
end Ys
/-! the Hook with tables of code objects, over all objects up to an address -/
namespace Ys
open PySem PySem.Spec PyProof.Rows L2
theorem obRL_eq {n : Nat} {fb : List (PySem.W.Frag → Bool)} {fn fc : List DefY} {ts : List He.Tab} {tf : List (PySem.W.Frag → Addr)} (s : PySem.W.SharedT) : obRL n fb fn fc ts tf s = (hookRL n fb fn fc ts tf).obs s.abs := by
  have e : HandSHeadRun.getT s = s.abs.heap.get? := funext (HandSHeadRun.getT_eq s)
  unfold obRL
  rw [e]
  rfl
end Ys
namespace Ys
open PySem PySem.Spec PyProof.Rows L2
/-! ### an own error's class below any base -/
theorem oexEB_ok {K : PySem.W.Frag} {C : Addr} {newId : String} {tl : List Value} (h : oexEB K C newId tl = true) : ∃ nm q N bs sn sub ab col dd k0 k1 k2 k3 k5, K.lookup C = some (excClassObj nm q C N bs tl true sn sub ab col dd k0 k1 k2 k3 k5 newId) := by
  unfold oexEB at h
  split at h
  · rename_i t dd c sl look
    split at h
    · rename_i D bm k0 k1 k2 k3 m k5 hm hl
      obtain ⟨j, i⟩ := Bool.and_eq_true_iff.mp h
      obtain ⟨j1, j⟩ := Bool.and_eq_true_iff.mp j
      obtain ⟨j2, j3⟩ := Bool.and_eq_true_iff.mp j
      obtain ⟨i1, i⟩ := Bool.and_eq_true_iff.mp i
      obtain ⟨i2, i3⟩ := Bool.and_eq_true_iff.mp i
      have e1 := of_decide_eq_true j1
      have e2 := of_decide_eq_true j2
      have e3 := of_decide_eq_true j3
      have e4 : bm = tl := eq_of_beq i1
      obtain ⟨y1, y2, y3, y4, y5, y6, y7, y8, y9, y10, y11⟩ := c
      dsimp only at hm i2 i3
      have z3 : y11 = false := by cases y11 <;> simp_all
      have es : sl = #[k0, k1, k2, k3, some (.builtin m), k5] := Array.toList_inj.mp (by rw [hl])
      subst e1 e2 e3 e4 hm es i2 z3
      exact ⟨y1, y5, y4, y2, y7, y8, y9, y10, dd, k0, k1, k2, k3, k5, look⟩
    · cases h
  · cases h
theorem oexEA_ok {x : Str} {newId : String} {tl : List Value} {K : PySem.W.Frag} (h : oexEA x newId tl K = true) : OexE K (gA x K) newId tl := by
  obtain ⟨h1, h⟩ := Bool.and_eq_true_iff.mp h
  obtain ⟨h2, h⟩ := Bool.and_eq_true_iff.mp h
  obtain ⟨h3, h⟩ := Bool.and_eq_true_iff.mp h
  obtain ⟨h4, h5⟩ := Bool.and_eq_true_iff.mp h
  exact ⟨oexEB_ok h1, of_decide_eq_true h2, of_decide_eq_true h3, of_decide_eq_true h4, h5⟩
theorem excX_ok {x : Str} {K : PySem.W.Frag} (h : excX x K = true) : XfC K (gA x K) ∧ ExcC K (gA x K) := by
  obtain ⟨h1, h⟩ := Bool.and_eq_true_iff.mp h
  obtain ⟨h2, h⟩ := Bool.and_eq_true_iff.mp h
  obtain ⟨h3, h⟩ := Bool.and_eq_true_iff.mp h
  obtain ⟨h4, h5⟩ := Bool.and_eq_true_iff.mp h
  have X := xfB_ok h1
  exact ⟨X, X.ga, X.gg, X.exC, X.hdC, of_decide_eq_true h2, of_decide_eq_true h3, of_decide_eq_true h4, of_decide_eq_true h5⟩
theorem supEA_ok {P : Program} {x : Str} {flds : List Str} {B initId : String} {K : PySem.W.Frag} {d : DefY} (hf : d.ad K = cA x "__init__" K) (hn : d.name = "__init__") (e : fnC K (d.ad K) = d.val) (h : supEA x d.qual flds B initId P.main.file K = true) :
    ∃ fd, SupE P K (gA x K) (cA x "__init__" K) B initId flds d.qual d.params d.body d.scope fd ∧ (∃ kV doc pm an cdv ct cc, fd = PySem.W.ksFn "__init__" d.qual d.params d.body d.scope .none kV doc pm an cdv ct cc) ∧
      PySem.W.findIn K (.ref (gA x K)) "__init__" = some (some (.ref (cA x "__init__" K))) ∧ PySem.W.typeIn K (.ref (cA x "__init__" K)) = some (.type "function") := by
  obtain ⟨h0, h⟩ := Bool.and_eq_true_iff.mp h
  obtain ⟨h1, h⟩ := Bool.and_eq_true_iff.mp h
  obtain ⟨h2, h⟩ := Bool.and_eq_true_iff.mp h
  obtain ⟨h3, h⟩ := Bool.and_eq_true_iff.mp h
  obtain ⟨h4, h⟩ := Bool.and_eq_true_iff.mp h
  obtain ⟨h5, h⟩ := Bool.and_eq_true_iff.mp h
  obtain ⟨h6, h⟩ := Bool.and_eq_true_iff.mp h
  obtain ⟨h7, h8⟩ := Bool.and_eq_true_iff.mp h
  rw [hf] at e
  split at h0
  · rename_i oc od g osl lk
    obtain ⟨j1, j⟩ := Bool.and_eq_true_iff.mp h0
    obtain ⟨j2, j⟩ := Bool.and_eq_true_iff.mp j
    obtain ⟨j3, j4⟩ := Bool.and_eq_true_iff.mp j
    obtain ⟨a, ha, jf⟩ := fileB_ok j2
    obtain ⟨c, hc, jc⟩ := cloB_ok j3
    have j4 := of_decide_eq_true j4
    unfold fnC at e
    rw [lk] at e
    obtain ⟨g1, g2, g3, g4, g5, g6, g7, g8, g9, g10, g11, g12, g13, g14, g15⟩ := g
    obtain ⟨i1, i2, i3, i4, i5, i6, i7⟩ : g1 = d.name ∧ g2 = d.qual ∧ g3 = d.params ∧ g4 = .stmts d.body ∧ g5 = d.scope ∧ g6 = mainGlobals ∧ g15 = builtinsNs := by
      have e' : (some (g1, g2, g3, g4, g5, g6, [], g15) : He.FnW) = some (d.name, d.qual, d.params, .stmts d.body, d.scope, mainGlobals, [], builtinsNs) := e
      simpa only [Option.some.injEq, Prod.mk.injEq, true_and] using e'
    have hc : g7 = [(("__class__" : Str), c)] := hc
    have ha : g13 = .ref a := ha
    have j4 : g8 = .none := j4
    rw [hn] at i1
    subst i1 i2 i3 i4 i5 i6 i7 hc ha j4
    exact ⟨_, ⟨⟨oc, od, osl, .none, g9, g10, g11, g12, a, g14, c, rfl, lk, j1, jf, jc⟩, of_decide_eq_true h1, of_decide_eq_true h2, of_decide_eq_true h3, of_decide_eq_true h4, fun f hf => of_decide_eq_true (List.all_eq_true.mp h5 f hf), of_decide_eq_true h6⟩, ⟨_, _, _, _, _, _, _, rfl⟩, of_decide_eq_true h7, of_decide_eq_true h8⟩
  · cases h0
end Ys
namespace LW
open PySem PySem.Spec PyProof.Rows L2 Ys

section
variable {K : PySem.W.Frag} {f : Addr} {fd : FuncData}
theorem bd_words2 (F : FunD K "are_words" "are_words" (defArgs s_are_words) (defBody s_are_words) (defScope s_are_words) [.non] [] f fd) : Binds K fd ["value", "most"] [] := by
  obtain ⟨ds, hv, hb⟩ := F.binds1 (ps := ["value", "most"]) 2 1 (by simp) rfl (fun T kV doc pm an cdv ct us its l1 l2 => by
    match us, its, l1, l2 with
    | [u1, u2], [i1], _, _ => exact ⟨_, rfl, rfl⟩)
  cases hv
  exact hb
theorem bd_diff1 (F : FunD K "are_different_words" "are_different_words" (defArgs s_are_different_words) (defBody s_are_different_words) (defScope s_are_different_words) [.non] [] f fd) : ∃ ds, Vals [V.non] ds ∧ Binds K fd ["value", "most"] ds :=
  F.binds1 (ps := ["value", "most"]) 1 0 (by simp) rfl (fun T kV doc pm an cdv ct us its l1 l2 => by
    match us, its, l1, l2 with
    | [u1], [i1], _, _ => exact ⟨_, rfl, rfl⟩)

theorem bd_diff2 (F : FunD K "are_different_words" "are_different_words" (defArgs s_are_different_words) (defBody s_are_different_words) (defScope s_are_different_words) [.non] [] f fd) : Binds K fd ["value", "most"] [] := by
  obtain ⟨ds, hv, hb⟩ := F.binds1 (ps := ["value", "most"]) 2 1 (by simp) rfl (fun T kV doc pm an cdv ct us its l1 l2 => by
    match us, its, l1, l2 with
    | [u1, u2], [i1], _, _ => exact ⟨_, rfl, rfl⟩)
  cases hv
  exact hb
end
section
variable {K : PySem.W.Frag} {f : Addr} {fd : FuncData} {e1 e2 e3 e4 : V}
abbrev psI : List Str := ["self", "role", "many", "other", "same", "takes", "forgets"]
abbrev kwI (e1 e2 e3 e4 : V) : List (Str × V) := [("many", .int 1), ("other", e1), ("same", e2), ("takes", e3), ("forgets", e4)]
abbrev FI (K : PySem.W.Frag) (e1 e2 e3 e4 : V) (f : Addr) (fd : FuncData) : Prop := FunD K "__init__" "Task.__init__" (defArgs s_Task_init) (defBody s_Task_init) (defScope s_Task_init) [.non] (kwI e1 e2 e3 e4) f fd
theorem kb3 (F : FI K e1 e2 e3 e4 f fd) : ∃ g, KBn K fd psI 1 [] g (gVd [.non] [.int 1, e1, e2, e3, e4]) := by
  obtain ⟨its, mv, hb⟩ := F.kbinds (ps := psI) 1 [] (kwI e1 e2 e3 e4) (fun us its mv ws => us ++ (its ++ mv)) (by simp) (by simp) (fun q hq => hq) (fun a b c _ => a.append (b.append c))
    (fun T D doc pm an cdv ct us its mv ws l1 l2 l3 l4 => by
      match us, its, mv, ws, l1, l2, l3, l4 with
      | [u1], [i1], [m1, m2, m3, m4, m5], [], _, _, _, _ => exact ⟨_, rfl, ⟨_, _, _, _, _, _, rfl, rfl, ⟨_, _, _, _, _, _, rfl, rfl, ⟨_, _, _, _, _, _, rfl, rfl, ⟨_, _, _, _, _, _, rfl, rfl, ⟨_, _, _, _, _, _, rfl, rfl, rfl⟩⟩⟩⟩⟩⟩)
  exact ⟨_, hb⟩

abbrev FBI (K : PySem.W.Frag) (f : Addr) (fd : FuncData) : Prop := FunD K "__init__" "Book.__init__" (defArgs s_Book_init) (defBody s_Book_init) (defScope s_Book_init) [] [] f fd
theorem kb_book (F : FBI K f fd) : KBn K fd ["self", "kinds", "tasks", "plan"] 4 [] (fun us ws => us ++ ws) fun vs zs => vs ++ zs :=
  kbindsN F 4 [] fun _ _ _ _ _ _ us ws l1 l2 => match us, ws, l1, l2 with | [_, _, _, _], [], _, _ => rfl
theorem no_num {g : Pl → Int} : ∀ vs H Q E, ¬ spNum K g 0 vs H Q E := fun _ _ _ _ ⟨_, _, _, _, _, _, _, h, _⟩ => absurd h (Nat.not_lt_zero _)
end
end LW
namespace LW
open PySem PySem.Spec PyProof.Rows L2 Ys

theorem okSup0 {w : World} {K : PySem.W.Frag} {mg : Str → Option Value} {base : Heap} {C fI : Addr} {fd : FuncData} (S : SupF PR K C fI "value" "InvalidPlan.__init__" (defArgs s_x0) (defBody s_x0) (defScope s_x0) fd) (T : OexC K C) : FnOk PR w K mg base CX0 1 fI fd ["self", "value"] (spSup K C "value") :=
  ok_sup (x := "value") S ⟨by decide +kernel, by rfl, by rfl, by rfl, by rfl, rfl, rfl, rfl, ⟨_, rfl, rfl⟩, by decide, by decide⟩ T (fun env h => by cases env; subst h; exact ⟨_, rfl⟩) (fun env h => by cases env; subst h; rfl) (fun env h => by cases env; subst h; rfl) (fun env h => by cases env; subst h; rfl) (by decide +kernel)
theorem okSup1 {w : World} {K : PySem.W.Frag} {mg : Str → Option Value} {base : Heap} {C fI : Addr} {fd : FuncData} (S : SupE PR K C fI "OverflowError" "OverflowError.__init__" ["limit"] "TooMany.__init__" (defArgs s_x1) (defBody s_x1) (defScope s_x1) fd) (T : OexE K C "OverflowError.__new__" [.type "OverflowError", .type "ArithmeticError", .type "Exception", .type "BaseException", .type "object"]) : FnOk PR w K mg base CX0 1 fI fd ["self", "limit"] (spSup K C "limit") :=
  ok_supE (x := "limit") S ⟨by decide +kernel, by rfl, by rfl, by decide +kernel, by rfl, rfl, rfl, ⟨_, rfl, rfl⟩⟩ (by decide +kernel) (by decide +kernel) bOverflow T (fun env h => by cases env; subst h; exact ⟨_, rfl⟩) (fun env h => by cases env; subst h; rfl) (fun env h => by cases env; subst h; rfl) (fun env h => by cases env; subst h; rfl) (by decide +kernel)
theorem okSup2 {w : World} {K : PySem.W.Frag} {mg : Str → Option Value} {base : Heap} {C fI : Addr} {fd : FuncData} (S : SupE PR K C fI "LookupError" "LookupError.__init__" ["value"] "UnknownTask.__init__" (defArgs s_x2) (defBody s_x2) (defScope s_x2) fd) (T : OexE K C "LookupError.__new__" [.type "LookupError", .type "Exception", .type "BaseException", .type "object"]) : FnOk PR w K mg base CX0 1 fI fd ["self", "value"] (spSup K C "value") :=
  ok_supE (x := "value") S ⟨by decide +kernel, by rfl, by rfl, by decide +kernel, by rfl, rfl, rfl, ⟨_, rfl, rfl⟩⟩ (by decide +kernel) (by decide +kernel) bLookup T (fun env h => by cases env; subst h; exact ⟨_, rfl⟩) (fun env h => by cases env; subst h; rfl) (fun env h => by cases env; subst h; rfl) (fun env h => by cases env; subst h; rfl) (by decide +kernel)
abbrev esK (K : PySem.W.Frag) : List V := [.ref (kA "Task" "__init__" "other" K), .ref (kA "Task" "__init__" "same" K), .ref (kA "Task" "__init__" "takes" K), .ref (kA "Task" "__init__" "forgets" K)]
theorem facts {w : World} {K : PySem.W.Frag} {h : Heap} {mg : Str → Option Value} {f : Addr} (X : K.In h) (G : h.Ns mainGlobals mg) (hfa : mg ("law" : Str) = some (.ref f)) (cl : SaysL fb fn fc ts tf w h K) :
    ∃ fd : FuncData, (∀ (s : Shared) (v : Value), BindsTo s fd ⟨[v], []⟩ [("_law_script", v)]) ∧ ∀ base : Heap, K.In base → base.Ns mainGlobals mg → (∀ p ∈ tf.map (cTb K), LamX.TabB base mg p.1 p.2) → FnG PR w K mg base CX0 30 f fd ["_law_script"] (spLaw K (cTb K (gA "law")).2) := by
  have ct0 := cl.ct
  have cc0 := ct0.c
  have c := cc0.both.1
  obtain ⟨fd_is_word, F_is_word⟩ : ∃ fd, FnP K "is_word" s_is_word (gA "is_word" K) fd := c.def_ 0
  obtain ⟨fd_is_integer, F_is_integer⟩ : ∃ fd, FnP K "is_integer" s_is_integer (gA "is_integer" K) fd := c.def_ 1
  obtain ⟨fd_is_within, F_is_within⟩ : ∃ fd, FnP K "is_within" s_is_within (gA "is_within" K) fd := c.def_ 2
  obtain ⟨fd_is_list, F_is_list⟩ : ∃ fd, FnP K "is_list" s_is_list (gA "is_list" K) fd := c.def_ 3
  obtain ⟨fd_are_words, F_are_words⟩ : ∃ fd, FunD K "are_words" "are_words" (defArgs s_are_words) (defBody s_are_words) (defScope s_are_words) [.non] [] (gA "are_words" K) fd := c.def_ 4
  obtain ⟨fd_are_different_words, F_are_different_words⟩ : ∃ fd, FunD K "are_different_words" "are_different_words" (defArgs s_are_different_words) (defBody s_are_different_words) (defScope s_are_different_words) [.non] [] (gA "are_different_words" K) fd := c.def_ 5
  obtain ⟨fd_ascending, F_ascending⟩ : ∃ fd, FnP K "ascending" s_ascending (gA "ascending" K) fd := c.def_ 6
  obtain ⟨fd_is_formed, F_is_formed⟩ : ∃ fd, FnP K "is_formed" s_is_formed (gA "is_formed" K) fd := c.def_ 7
  obtain ⟨fd_wrong_part, F_wrong_part⟩ : ∃ fd, FnP K "wrong_part" s_wrong_part (gA "wrong_part" K) fd := c.def_ 8
  obtain ⟨fd_sequence, F_sequence⟩ : ∃ fd, FnP K "sequence" s_sequence (gA "sequence" K) fd := c.def_ 9
  obtain ⟨fd_alongside, F_alongside⟩ : ∃ fd, FnP K "alongside" s_alongside (gA "alongside" K) fd := c.def_ 10
  obtain ⟨fd_normal_form, F_normal_form⟩ : ∃ fd, FnP K "normal_form" s_normal_form (gA "normal_form" K) fd := c.def_ 11
  obtain ⟨fd_normal, F_normal⟩ : ∃ fd, FnP K "normal" s_normal (gA "normal" K) fd := c.def_ 12
  obtain ⟨fd_name_list, F_name_list⟩ : ∃ fd, FnP K "name_list" s_name_list (gA "name_list" K) fd := c.def_ 13
  obtain ⟨fd_names_in, F_names_in⟩ : ∃ fd, FnP K "names_in" s_names_in (gA "names_in" K) fd := c.def_ 14
  obtain ⟨fd_world_choices, F_world_choices⟩ : ∃ fd, FnP K "world_choices" s_world_choices (gA "world_choices" K) fd := c.def_ 15
  obtain ⟨fd_choices, F_choices⟩ : ∃ fd, FnP K "choices" s_choices (gA "choices" K) fd := c.def_ 16
  obtain ⟨fd_remembered_in, F_remembered_in⟩ : ∃ fd, FnP K "remembered_in" s_remembered_in (gA "remembered_in" K) fd := c.def_ 17
  obtain ⟨fd_width_of, F_width_of⟩ : ∃ fd, FnP K "width_of" s_width_of (gA "width_of" K) fd := c.def_ 18
  obtain ⟨fd_need_tasks, F_need_tasks⟩ : ∃ fd, FnP K "need_tasks" s_need_tasks (gA "need_tasks" K) fd := c.def_ 19
  obtain ⟨fd_are_kinds, F_are_kinds⟩ : ∃ fd, FnP K "are_kinds" s_are_kinds (gA "are_kinds" K) fd := c.def_ 20
  obtain ⟨fd_are_tasks, F_are_tasks⟩ : ∃ fd, FnP K "are_tasks" s_are_tasks (gA "are_tasks" K) fd := c.def_ 21
  obtain ⟨fd_count_names, F_count_names⟩ : ∃ fd, FnP K "count_names" s_count_names (gA "count_names" K) fd := c.def_ 22
  obtain ⟨fd_levels_of, F_levels_of⟩ : ∃ fd, FnP K "levels_of" s_levels_of (gA "levels_of" K) fd := c.def_ 23
  obtain ⟨fd_plan_for, F_plan_for⟩ : ∃ fd, FnP K "plan_for" s_plan_for (gA "plan_for" K) fd := c.def_ 24
  obtain ⟨fd_in_order, F_in_order⟩ : ∃ fd, FnP K "in_order" s_in_order (gA "in_order" K) fd := c.def_ 25
  obtain ⟨fd_law_pen, F_law_pen⟩ : ∃ fd, FnP K "_law_pen" s_law_pen (gA "_law_pen" K) fd := c.def_ 26
  obtain ⟨fd_law_draw, F_law_draw⟩ : ∃ fd, FnP K "_law_draw" s_law_draw (gA "_law_draw" K) fd := c.def_ 27
  obtain ⟨fd_law_pick, F_law_pick⟩ : ∃ fd, FnP K "_law_pick" s_law_pick (gA "_law_pick" K) fd := c.def_ 28
  obtain ⟨fd_law_row, F_law_row⟩ : ∃ fd, FnP K "_law_row" s_law_row (gA "_law_row" K) fd := c.def_ 29
  obtain ⟨fd_law_two, F_law_two⟩ : ∃ fd, FnP K "_law_two" s_law_two (gA "_law_two" K) fd := c.def_ 30
  obtain ⟨fd_law_form, F_law_form⟩ : ∃ fd, FnP K "_law_form" s_law_form (gA "_law_form" K) fd := c.def_ 31
  obtain ⟨fd_law_names, F_law_names⟩ : ∃ fd, FnP K "_law_names" s_law_names (gA "_law_names" K) fd := c.def_ 32
  obtain ⟨fd_law_told, F_law_told⟩ : ∃ fd, FnP K "_law_told" s_law_told (gA "_law_told" K) fd := c.def_ 33
  obtain ⟨fd_law_levels, F_law_levels⟩ : ∃ fd, FnP K "_law_levels" s_law_levels (gA "_law_levels" K) fd := c.def_ 34
  obtain ⟨fd_law_due, F_law_due⟩ : ∃ fd, FnP K "_law_due" s_law_due (gA "_law_due" K) fd := c.def_ 35
  obtain ⟨fd_law_tall, F_law_tall⟩ : ∃ fd, FnP K "_law_tall" s_law_tall (gA "_law_tall" K) fd := c.def_ 36
  obtain ⟨fd_law, F_law⟩ : ∃ fd, FnP K "law" s_law (gA "law" K) fd := c.def_ 37
  obtain ⟨fd_b_setp, F_b_setp⟩ : ∃ fd, FunD K "set_plan" "Book.set_plan" (defArgs s_Book_set_plan) (defBody s_Book_set_plan) (defScope s_Book_set_plan) [] [] (cA "Book" "set_plan" K) fd := c.def_ 44
  obtain ⟨fd_b_pset, F_b_pset⟩ : ∃ fd, FunD K "plan" "Book.plan" (defArgs s_Book_plan_set) (defBody s_Book_plan_set) (defScope s_Book_plan_set) [] [] (sA "Book" "plan" K) fd := c.def_ 45
  obtain ⟨fd_bp_plan, F_bp_plan⟩ : ∃ fd, FunD K "plan" "Book.plan" (defArgs s_Book_plan) (defBody s_Book_plan) (defScope s_Book_plan) [] [] (pA "Book" "plan" K) fd := c.def_ 46
  obtain ⟨fd_tinit, F_tinit⟩ : ∃ fd, FI K (.ref (kA "Task" "__init__" "other" K)) (.ref (kA "Task" "__init__" "same" K)) (.ref (kA "Task" "__init__" "takes" K)) (.ref (kA "Task" "__init__" "forgets" K)) (cA "Task" "__init__" K) fd := c.def_ 38
  obtain ⟨fd_g_many, F_g_many⟩ : ∃ fd, FunD K "many" "Task.many" (defArgs s_Task_many) (defBody s_Task_many) (defScope s_Task_many) [] [] (pA "Task" "many" K) fd := c.def_ 39
  obtain ⟨fd_g_other, F_g_other⟩ : ∃ fd, FunD K "other" "Task.other" (defArgs s_Task_other) (defBody s_Task_other) (defScope s_Task_other) [] [] (pA "Task" "other" K) fd := c.def_ 40
  obtain ⟨fd_g_same, F_g_same⟩ : ∃ fd, FunD K "same" "Task.same" (defArgs s_Task_same) (defBody s_Task_same) (defScope s_Task_same) [] [] (pA "Task" "same" K) fd := c.def_ 41
  obtain ⟨fd_g_takes, F_g_takes⟩ : ∃ fd, FunD K "takes" "Task.takes" (defArgs s_Task_takes) (defBody s_Task_takes) (defScope s_Task_takes) [] [] (pA "Task" "takes" K) fd := c.def_ 42
  obtain ⟨fd_binit, F_binit⟩ : ∃ fd, FBI K (cA "Book" "__init__" K) fd := c.def_ 43
  have T : Nm K mg := ⟨sysB_ok (c.at_ 0), He.free_ok X G (c.at_ 47), He.free_ok X G (c.at_ 48), He.free_ok X G (c.at_ 49), He.free_ok X G (c.at_ 50), He.free_ok X G (c.at_ 51), He.free_ok X G (c.at_ 52), He.free_ok X G (c.at_ 53), He.free_ok X G (c.at_ 54), He.free_ok X G (c.at_ 55), He.free_ok X G (c.at_ 56), He.free_ok X G (c.at_ 57), He.free_ok X G (c.at_ 58), He.free_ok X G (c.at_ 59), He.free_ok X G (c.at_ 60), He.free_ok X G (c.at_ 61), He.free_ok X G (c.at_ 62), He.free_ok X G (c.at_ 63), let ⟨t, e⟩ := He.str_ok X G (c.at_ 66); ⟨_, e, t, rfl⟩, let ⟨t, e⟩ := He.int_ok X G (c.at_ 67); ⟨_, e, t, rfl⟩, ⟨_, He.glo_ok X G (c.at_ 42), rfl⟩, ⟨_, He.glo_ok X G (c.at_ 43), rfl⟩, ⟨_, He.glo_ok X G (c.at_ 44), rfl⟩, fun H => He.tupB_ok (c.at_ 76) H, let ⟨t, e⟩ := He.int_ok X G (c.at_ 68); ⟨_, e, t, rfl⟩, let ⟨t, e⟩ := He.int_ok X G (c.at_ 69); ⟨_, e, t, rfl⟩, let ⟨t, e⟩ := He.int_ok X G (c.at_ 70); ⟨_, e, t, rfl⟩, let ⟨t, e⟩ := He.int_ok X G (c.at_ 71); ⟨_, e, t, rfl⟩, let ⟨t, e⟩ := He.int_ok X G (c.at_ 72); ⟨_, e, t, rfl⟩, let ⟨t, e⟩ := He.int_ok X G (c.at_ 73); ⟨_, e, t, rfl⟩, let ⟨t, e⟩ := He.int_ok X G (c.at_ 74); ⟨_, e, t, rfl⟩, let ⟨t, e⟩ := He.int_ok X G (c.at_ 75); ⟨_, e, t, rfl⟩⟩
  have e := hfa.symm.trans (He.glo_ok X G (c.at_ 38))
  cases e
  have TB : PTab K w := ⟨tabD_of (ct0.tab 0) (c.at_ 77), tabD_of (ct0.tab 1) (c.at_ 78)⟩
  have TC : TaskC K (gA "Task" K) := ⟨He.cls_ok (c.at_ 79), He.noat_ok (c.at_ 81), He.noat_ok (c.at_ 82), He.noat_ok (c.at_ 83), He.noat_ok (c.at_ 84), He.noat_ok (c.at_ 85), He.noat_ok (c.at_ 86)⟩
  have BC : BookC K (gA "Book" K) := ⟨He.cls_ok (c.at_ 80), He.noat_ok (c.at_ 87), He.noat_ok (c.at_ 88), He.noat_ok (c.at_ 89)⟩
  have TT : TaskT K (gA "Task" K) := by
    obtain ⟨h1, h2⟩ := Bool.and_eq_true_iff.mp (c.at_ 96)
    obtain ⟨h3, h4⟩ := Bool.and_eq_true_iff.mp h2
    obtain ⟨h5, h6⟩ := Bool.and_eq_true_iff.mp h4
    obtain ⟨h7, h8⟩ := Bool.and_eq_true_iff.mp h6
    exact ⟨TC.cl, of_decide_eq_true h1, of_decide_eq_true h3, of_decide_eq_true h5, of_decide_eq_true h7, h8⟩
  have b := FunD.bindsA (ps := ["_law_script"]) F_law fun _ _ _ _ _ _ us hl => match us, hl with | [_], _ => rfl
  refine ⟨fd_law, fun s v => b s [v] rfl, fun base _ _ tb => ?_⟩
  have B_law := tb (cTb K (gA "law")) (List.mem_map.mpr ⟨gA "law", by simp [tf], rfl⟩)
  have L : LawC PR w K mg base (gA "Task" K) (gA "Book" K) (gA "InvalidPlan" K) (gA "TooMany" K) (gA "UnknownTask" K) (esK K) := by
    have S_InvalidPlan : ExcS PR w K mg base (gA "InvalidPlan" K) "InvalidPlan" "value" := by
      obtain ⟨fd_x, S_x, ⟨kV, doc, pm, an, cdv, ct, cc, e_x⟩, iC, tI⟩ := supA_ok (P := PR) (x := "InvalidPlan") (fld := "value") (d := dSup0) rfl rfl (cc0.sup 0) (c.at_ 103)
      have O_x := oexA_ok (c.at_ 102)
      exact ⟨O_x, ⟨_, fd_x, "value", iC, tI, okSup0 S_x O_x, by
        rw [e_x]
        exact .all fun us hl => match us, hl with | [_, _], _ => rfl⟩, He.glo_ok X G (c.at_ 39)⟩
    have S_TooMany : ExcG PR w K mg base (gA "TooMany" K) "TooMany" "limit" := by
      obtain ⟨fd_x, S_x, ⟨kV, doc, pm, an, cdv, ct, cc, e_x⟩, iC, tI⟩ := supEA_ok (P := PR) (x := "TooMany") (flds := ["limit"]) (B := "OverflowError") (initId := "OverflowError.__init__") (d := dSup1) rfl rfl (cc0.sup 1) (c.at_ 106)
      have O_x := oexEA_ok (c.at_ 105)
      exact ⟨⟨_, _, _, _, bOverflow, O_x⟩, ⟨_, fd_x, "limit", iC, tI, okSup1 S_x O_x, by
        rw [e_x]
        exact .all fun us hl => match us, hl with | [_, _], _ => rfl⟩, He.glo_ok X G (c.at_ 40)⟩
    have S_UnknownTask : ExcG PR w K mg base (gA "UnknownTask" K) "UnknownTask" "value" := by
      obtain ⟨fd_x, S_x, ⟨kV, doc, pm, an, cdv, ct, cc, e_x⟩, iC, tI⟩ := supEA_ok (P := PR) (x := "UnknownTask") (flds := ["value"]) (B := "LookupError") (initId := "LookupError.__init__") (d := dSup2) rfl rfl (cc0.sup 2) (c.at_ 111)
      have O_x := oexEA_ok (c.at_ 110)
      exact ⟨⟨_, _, _, _, bLookup, O_x⟩, ⟨_, fd_x, "value", iC, tI, okSup2 S_x O_x, by
        rw [e_x]
        exact .all fun us hl => match us, hl with | [_, _], _ => rfl⟩, He.glo_ok X G (c.at_ 41)⟩
    have C_is_word : Own PR w K mg base CX0 1 "is_word" ["value"] (spWord K) := ⟨⟨_, _, ok_is_word T F_is_word, He.glo_ok X G (c.at_ 1), F_is_word.kp, F_is_word.bindsN fun _ _ _ _ _ _ us hl => match us, hl with | [_], _ => rfl⟩⟩
    have C_ascending : Own PR w K mg base CX0 1 "ascending" ["words"] (spAsc K) := ⟨⟨_, _, ok_asc T F_ascending, He.glo_ok X G (c.at_ 7), F_ascending.kp, F_ascending.bindsN fun _ _ _ _ _ _ us hl => match us, hl with | [_], _ => rfl⟩⟩
    have C_ascendingA : Own PR w K mg base CX0 1 "ascending" ["words"] (spAscA K) := ⟨⟨_, _, ok_ascA T F_ascending, He.glo_ok X G (c.at_ 7), F_ascending.kp, F_ascending.bindsN fun _ _ _ _ _ _ us hl => match us, hl with | [_], _ => rfl⟩⟩
    have C_ascendingD : Own PR w K mg base CX0 1 "ascending" ["words"] (spAscD K) := ⟨⟨_, _, ok_ascD T F_ascending, He.glo_ok X G (c.at_ 7), F_ascending.kp, F_ascending.bindsN fun _ _ _ _ _ _ us hl => match us, hl with | [_], _ => rfl⟩⟩
    have C_is_integer : Own PR w K mg base CX0 1 "is_integer" ["value"] (spInt K) := ⟨⟨_, _, ok_is_integer T F_is_integer, He.glo_ok X G (c.at_ 2), F_is_integer.kp, F_is_integer.bindsN fun _ _ _ _ _ _ us hl => match us, hl with | [_], _ => rfl⟩⟩
    have C_is_within : Own PR w K mg base CX0 2 "is_within" ["value", "least", "most"] (spWithin K) := ⟨⟨_, _, ok_is_within T C_is_integer F_is_within, He.glo_ok X G (c.at_ 3), F_is_within.kp, F_is_within.bindsN fun _ _ _ _ _ _ us hl => match us, hl with | [_, _, _], _ => rfl⟩⟩
    have C_is_list : Own PR w K mg base CX0 1 "is_list" ["value"] (spIsList K) := ⟨⟨_, _, ok_is_list T F_is_list, He.glo_ok X G (c.at_ 4), F_is_list.kp, F_is_list.bindsN fun _ _ _ _ _ _ us hl => match us, hl with | [_], _ => rfl⟩⟩
    have C_are_words : Own PR w K mg base CX0 2 "are_words" ["value", "most"] (spAreWords K) := ⟨⟨_, _, ok_are_words T C_is_word C_is_list F_are_words, He.glo_ok X G (c.at_ 5), F_are_words.kp, bd_words2 F_are_words⟩⟩
    have C_are_different_words : Own PR w K mg base CX0 3 "are_different_words" ["value", "most"] (spDiff K) := ⟨⟨_, _, ok_diff T C_are_words F_are_different_words, He.glo_ok X G (c.at_ 6), F_are_different_words.kp, bd_diff2 F_are_different_words⟩⟩
    have C_diff1 : OwnA PR w K mg base CX0 3 "are_different_words" ["value", "most"] [.non] (spDiff K) := by
      obtain ⟨ds, hv, hb⟩ := bd_diff1 F_are_different_words
      exact ⟨⟨_, _, ds, ok_diff T C_are_words F_are_different_words, He.glo_ok X G (c.at_ 6), F_are_different_words.kp, hb, hv⟩⟩
    have C_is_formed : Own PR w K mg base CX0 1 "is_formed" ["value"] (spFormed K) := ⟨⟨_, _, ok_is_formed T TB F_is_formed, He.glo_ok X G (c.at_ 8), F_is_formed.kp, F_is_formed.bindsN fun _ _ _ _ _ _ us hl => match us, hl with | [_], _ => rfl⟩⟩
    have C_wrong_part : ∀ n, Own PR w K mg base CX0 (n + 1) "wrong_part" ["value", "is_beside"] (spWrong K n) := rec_at no_wrong (fun n C => ok_wrong T C_is_word C_is_formed C F_wrong_part) (He.glo_ok X G (c.at_ 9)) F_wrong_part.kp (F_wrong_part.bindsN fun _ _ _ _ _ _ us hl => match us, hl with | [_, _], _ => rfl)
    have C_sequence : Own PR w K mg base CX0 1 "sequence" ["parts"] (spSeq K) := ⟨⟨_, _, ok_sequence T F_sequence, He.glo_ok X G (c.at_ 10), F_sequence.kp, F_sequence.bindsN fun _ _ _ _ _ _ us hl => match us, hl with | [_], _ => rfl⟩⟩
    have C_alongside : Own PR w K mg base CX0 1 "alongside" ["one", "other"] (spAlong K) := ⟨⟨_, _, ok_alongside T F_alongside, He.glo_ok X G (c.at_ 11), F_alongside.kp, F_alongside.bindsN fun _ _ _ _ _ _ us hl => match us, hl with | [_, _], _ => rfl⟩⟩
    have C_normal_form : ∀ n, Own PR w K mg base CX0 (n + 1) "normal_form" ["plan"] (spNF K n) := rec_at no_nf (fun n C => ok_normal_form T C_sequence C_alongside C F_normal_form) (He.glo_ok X G (c.at_ 12)) F_normal_form.kp (F_normal_form.bindsN fun _ _ _ _ _ _ us hl => match us, hl with | [_], _ => rfl)
    have C_name_list : ∀ n, Own PR w K mg base CX0 (n + 1) "name_list" ["plan"] (spNames K n) := rec_at no_names (fun n C => ok_name_list T C F_name_list) (He.glo_ok X G (c.at_ 14)) F_name_list.kp (F_name_list.bindsN fun _ _ _ _ _ _ us hl => match us, hl with | [_], _ => rfl)
    have C_world_choices : ∀ n, Own PR w K mg base CX0 (n + 1) "world_choices" ["plan"] (spWC K n) := rec_at no_wc (fun n C => ok_world_choices T C_sequence C_alongside C F_world_choices) (He.glo_ok X G (c.at_ 16)) F_world_choices.kp (F_world_choices.bindsN fun _ _ _ _ _ _ us hl => match us, hl with | [_], _ => rfl)
    have C_names_in : Own PR w K mg base CX0 19 "names_in" ["plan"] (spNamesIn K 17) := ⟨⟨_, _, ok_names_in T (C_name_list 17) C_ascending F_names_in, He.glo_ok X G (c.at_ 15), F_names_in.kp, F_names_in.bindsN fun _ _ _ _ _ _ us hl => match us, hl with | [_], _ => rfl⟩⟩
    have C_normal : Own PR w K mg base (L2.CX PR w) 20 "normal" ["plan"] (spNormal K (gA "InvalidPlan" K) 17) := ⟨⟨_, _, ok_normal T S_InvalidPlan (C_wrong_part 17) (C_normal_form 17) F_normal, He.glo_ok X G (c.at_ 13), F_normal.kp, F_normal.bindsN fun _ _ _ _ _ _ us hl => match us, hl with | [_], _ => rfl⟩⟩
    have R_many : PrpT PR w K mg base (gA "Task" K) "many" "own_many" := ⟨⟨_, _, _, fProp_ok (c.at_ 92), ok_g2 TC F_g_many, F_g_many.bindsN fun _ _ _ _ _ _ us hl => match us, hl with | [_], _ => rfl⟩, TC.cl⟩
    have R_other : PrpT PR w K mg base (gA "Task" K) "other" "own_other" := ⟨⟨_, _, _, fProp_ok (c.at_ 93), ok_g3 TC F_g_other, F_g_other.bindsN fun _ _ _ _ _ _ us hl => match us, hl with | [_], _ => rfl⟩, TC.cl⟩
    have R_same : PrpT PR w K mg base (gA "Task" K) "same" "own_same" := ⟨⟨_, _, _, fProp_ok (c.at_ 94), ok_g4 TC F_g_same, F_g_same.bindsN fun _ _ _ _ _ _ us hl => match us, hl with | [_], _ => rfl⟩, TC.cl⟩
    have R_takes : PrpT PR w K mg base (gA "Task" K) "takes" "own_takes" := ⟨⟨_, _, _, fProp_ok (c.at_ 95), ok_g5 TC F_g_takes, F_g_takes.bindsN fun _ _ _ _ _ _ us hl => match us, hl with | [_], _ => rfl⟩, TC.cl⟩
    have gT := He.glo_ok X G (c.at_ 45)
    have gBk := He.glo_ok X G (c.at_ 46)
    have B_Task : MkS PR w K mg base CX0 4 (gA "Task" K) "Task" 0 [] (gVd [.non] (.int 1 :: esK K)) (spInit K (gA "Task" K)) := by
      obtain ⟨g, hb⟩ := kb3 F_tinit
      exact ⟨⟨_, _, _, g, He.mkr_ok (c.at_ 90), ok_init T TC C_is_word C_is_within C_diff1 C_ascendingA F_tinit, gT, hb⟩⟩
    have C_remembered_in : Own PR w K mg base CX0 3 "remembered_in" ["tasks"] (spRem K (gA "Task" K)) := ⟨⟨_, _, ok_rem T R_other R_same C_ascending F_remembered_in, He.glo_ok X G (c.at_ 18), F_remembered_in.kp, F_remembered_in.bindsN fun _ _ _ _ _ _ us hl => match us, hl with | [_], _ => rfl⟩⟩
    have C_width_of : Own PR w K mg base CX0 4 "width_of" ["tasks"] (spWid K (gA "Task" K)) := ⟨⟨_, _, ok_wid T R_takes R_many C_remembered_in F_width_of, He.glo_ok X G (c.at_ 19), F_width_of.kp, F_width_of.bindsN fun _ _ _ _ _ _ us hl => match us, hl with | [_], _ => rfl⟩⟩
    have C_need_tasks : Own PR w K mg base CX0 5 "need_tasks" ["tasks"] (spNeed K (gA "Task" K)) := ⟨⟨_, _, ok_need T C_remembered_in C_width_of F_need_tasks, He.glo_ok X G (c.at_ 20), F_need_tasks.kp, F_need_tasks.bindsN fun _ _ _ _ _ _ us hl => match us, hl with | [_], _ => rfl⟩⟩
    have C_are_kinds : Own PR w K mg base CX0 4 "are_kinds" ["value"] (spKinds K) := ⟨⟨_, _, ok_are_kinds T C_is_word C_are_different_words F_are_kinds, He.glo_ok X G (c.at_ 21), F_are_kinds.kp, F_are_kinds.bindsN fun _ _ _ _ _ _ us hl => match us, hl with | [_], _ => rfl⟩⟩
    have C_are_tasks : Own PR w K mg base CX0 2 "are_tasks" ["value"] (spTasks K (gA "Task" K)) := ⟨⟨_, _, ok_are_tasks T TT gT C_is_word F_are_tasks, He.glo_ok X G (c.at_ 22), F_are_tasks.kp, F_are_tasks.bindsN fun _ _ _ _ _ _ us hl => match us, hl with | [_], _ => rfl⟩⟩
    have C_count_names : ∀ n, Own PR w K mg base CX0 (n + 1) "count_names" ["plan"] (spNum K lenI n) := rec_at no_num (fun n C => ok_count T C F_count_names) (He.glo_ok X G (c.at_ 23)) F_count_names.kp (F_count_names.bindsN fun _ _ _ _ _ _ us hl => match us, hl with | [_], _ => rfl)
    have C_levels_of : ∀ n, Own PR w K mg base CX0 (n + 1) "levels_of" ["plan"] (spNum K dpI n) := rec_at no_num (fun n C => ok_levels T C F_levels_of) (He.glo_ok X G (c.at_ 24)) F_levels_of.kp (F_levels_of.bindsN fun _ _ _ _ _ _ us hl => match us, hl with | [_], _ => rfl)
    have C_choices : Own PR w K mg base (L2.CX PR w) 21 "choices" ["plan"] (spChoices K (gA "InvalidPlan" K) 17) := ⟨⟨_, _, ok_choices T C_normal (C_world_choices 17) F_choices, He.glo_ok X G (c.at_ 17), F_choices.kp, F_choices.bindsN fun _ _ _ _ _ _ us hl => match us, hl with | [_], _ => rfl⟩⟩
    have C_plan_for : Own PR w K mg base (L2.CX PR w) 21 "plan_for" ["plan", "tasks"] (spPlanG K (gA "TooMany" K) (gA "UnknownTask" K)) := ⟨⟨_, _, ok_plan_g T S_TooMany S_UnknownTask C_normal (C_count_names 17) (C_levels_of 17) C_names_in F_plan_for, He.glo_ok X G (c.at_ 25), F_plan_for.kp, F_plan_for.bindsN fun _ _ _ _ _ _ us hl => match us, hl with | [_, _], _ => rfl⟩⟩
    have C_plan_bad : Own PR w K mg base (L2.CX PR w) 21 "plan_for" ["plan", "tasks"] (spPlanBad K (gA "InvalidPlan" K)) := ⟨⟨_, _, ok_plan_bad T C_normal (C_count_names 17) (C_levels_of 17) C_names_in F_plan_for, He.glo_ok X G (c.at_ 25), F_plan_for.kp, F_plan_for.bindsN fun _ _ _ _ _ _ us hl => match us, hl with | [_, _], _ => rfl⟩⟩
    have C_in_order : Own PR w K mg base CX0 2 "in_order" ["pairs"] (spOrd K (gA "Task" K)) := ⟨⟨_, _, ok_order T C_ascendingD F_in_order, He.glo_ok X G (c.at_ 26), F_in_order.kp, F_in_order.bindsN fun _ _ _ _ _ _ us hl => match us, hl with | [_], _ => rfl⟩⟩
    have B_Book : MkS PR w K mg base (L2.CX PR w) 22 (gA "Book" K) "Book" 3 [] (fun vs zs => vs ++ zs) (spBookG K (gA "Task" K) (gA "Book" K) (gA "TooMany" K) (gA "UnknownTask" K)) := ⟨⟨_, _, _, _, He.mkr_ok (c.at_ 91), ok_book_g T BC C_are_kinds C_are_tasks C_plan_for C_need_tasks C_ascendingD C_ascendingA C_in_order F_binit, gBk, kb_book F_binit⟩⟩
    have PS_g : PSetX PR w K mg base (gA "Book" K) (spPSetG K (gA "Task" K) (gA "Book" K) (gA "TooMany" K) (gA "UnknownTask" K)) := ⟨⟨_, _, fPset_ok (c.at_ 120), ok_pset_g T BC C_plan_for F_b_pset, F_b_pset.bindsN fun _ _ _ _ _ _ us hl => match us, hl with | [_, _], _ => rfl⟩⟩
    have M_set_g : Mth PR w K mg base (L2.CX PR w) 25 (gA "Book" K) "set_plan" ["self", "plan"] [] (spPSetG K (gA "Task" K) (gA "Book" K) (gA "TooMany" K) (gA "UnknownTask" K)) := ⟨⟨_, _, [], He.meth_ok (c.at_ 119), ok_set_plan_g BC PS_g F_b_setp, F_b_setp.bindsN fun _ _ _ _ _ _ us hl => match us, hl with | [_, _], _ => rfl, .nil⟩, BC.cl⟩
    have PS_b : PSetX PR w K mg base (gA "Book" K) (spPSetB K (gA "Task" K) (gA "Book" K) (gA "InvalidPlan" K)) := ⟨⟨_, _, fPset_ok (c.at_ 120), ok_pset_b T BC C_plan_bad F_b_pset, F_b_pset.bindsN fun _ _ _ _ _ _ us hl => match us, hl with | [_, _], _ => rfl⟩⟩
    have M_set_b : Mth PR w K mg base (L2.CX PR w) 25 (gA "Book" K) "set_plan" ["self", "plan"] [] (spPSetB K (gA "Task" K) (gA "Book" K) (gA "InvalidPlan" K)) := ⟨⟨_, _, [], He.meth_ok (c.at_ 119), ok_set_plan_b BC PS_b F_b_setp, F_b_setp.bindsN fun _ _ _ _ _ _ us hl => match us, hl with | [_, _], _ => rfl, .nil⟩, BC.cl⟩
    have R_plan : Prp PR w K mg base CX0 1 (gA "Book" K) "plan" (spBPlanF K (gA "Task" K) (gA "Book" K)) := ⟨⟨_, _, _, fProp_ok (c.at_ 121), ok_bplan_f BC F_bp_plan, F_bp_plan.bindsN fun _ _ _ _ _ _ us hl => match us, hl with | [_], _ => rfl⟩, BC.cl⟩
    have C_law_pen : Own PR w K mg base CX0 1 "_law_pen" ["_law_script"] (spPenM K) := ⟨⟨_, _, ok_penM T F_law_pen, He.glo_ok X G (c.at_ 27), F_law_pen.kp, F_law_pen.bindsN fun _ _ _ _ _ _ us hl => match us, hl with | [_], _ => rfl⟩⟩
    have C_law_draw : Own PR w K mg base CX0 1 "_law_draw" ["_law_pen_here", "_law_number"] (spDraw K) := ⟨⟨_, _, ok_draw T F_law_draw, He.glo_ok X G (c.at_ 28), F_law_draw.kp, F_law_draw.bindsN fun _ _ _ _ _ _ us hl => match us, hl with | [_, _], _ => rfl⟩⟩
    have C_law_pick : Own PR w K mg base CX0 2 "_law_pick" ["_law_pen_here", "_law_items"] (spPick K) := ⟨⟨_, _, ok_pick T C_law_draw F_law_pick, He.glo_ok X G (c.at_ 29), F_law_pick.kp, F_law_pick.bindsN fun _ _ _ _ _ _ us hl => match us, hl with | [_, _], _ => rfl⟩⟩
    have C_law_row : Own PR w K mg base CX0 1 "_law_row" ["_law_parts"] (spSeq K) := ⟨⟨_, _, ok_law_row T F_law_row, He.glo_ok X G (c.at_ 30), F_law_row.kp, F_law_row.bindsN fun _ _ _ _ _ _ us hl => match us, hl with | [_], _ => rfl⟩⟩
    have C_law_two : Own PR w K mg base CX0 1 "_law_two" ["_law_one", "_law_second"] (spAlong K) := ⟨⟨_, _, ok_law_two T F_law_two, He.glo_ok X G (c.at_ 31), F_law_two.kp, F_law_two.bindsN fun _ _ _ _ _ _ us hl => match us, hl with | [_, _], _ => rfl⟩⟩
    have C_law_form : ∀ n, Own PR w K mg base CX0 (n + 1) "_law_form" ["_law_plan"] (spNF K n) := rec_at no_nf (fun n C => ok_law_form T C_law_row C_law_two C F_law_form) (He.glo_ok X G (c.at_ 32)) F_law_form.kp (F_law_form.bindsN fun _ _ _ _ _ _ us hl => match us, hl with | [_], _ => rfl)
    have C_law_names : ∀ n, Own PR w K mg base CX0 (n + 1) "_law_names" ["_law_plan"] (spNames K n) := rec_at no_names (fun n C => ok_law_names T C F_law_names) (He.glo_ok X G (c.at_ 33)) F_law_names.kp (F_law_names.bindsN fun _ _ _ _ _ _ us hl => match us, hl with | [_], _ => rfl)
    have C_law_levels : ∀ n, Own PR w K mg base CX0 (n + 1) "_law_levels" ["_law_plan"] (spNum K dpI n) := rec_at no_num (fun n C => ok_law_levels T C F_law_levels) (He.glo_ok X G (c.at_ 35)) F_law_levels.kp (F_law_levels.bindsN fun _ _ _ _ _ _ us hl => match us, hl with | [_], _ => rfl)
    have C_law_due : Own PR w K mg base CX0 19 "_law_due" ["_law_plan", "_law_known"] (spDue K) := ⟨⟨_, _, ok_law_due T (C_law_form 17) (C_law_names 17) (C_law_levels 17) F_law_due, He.glo_ok X G (c.at_ 36), F_law_due.kp, F_law_due.bindsN fun _ _ _ _ _ _ us hl => match us, hl with | [_, _], _ => rfl⟩⟩
    have C_law_tall : Own PR w K mg base CX0 3 "_law_tall" ["_law_pen_here", "_law_part", "_law_levels_here"] (spTall K) := ⟨⟨_, _, ok_law_tall T C_law_pick F_law_tall, He.glo_ok X G (c.at_ 37), F_law_tall.kp, F_law_tall.bindsN fun _ _ _ _ _ _ us hl => match us, hl with | [_, _, _], _ => rfl⟩⟩
    have A_x := excA_ok (c.at_ 101)
    have XM := excX_ok (c.at_ 104)
    have XU := excX_ok (c.at_ 109)
    have TO : ToC K mg (gA "InvalidPlan" K) (gA "TooMany" K) (gA "UnknownTask" K) := ⟨⟨_, _, F_law_told, He.glo_ok X G (c.at_ 34), F_law_told.bindsN fun _ _ _ _ _ _ us hl => match us, hl with | [_], _ => rfl⟩, He.glo_ok X G (c.at_ 39), He.glo_ok X G (c.at_ 40), He.glo_ok X G (c.at_ 41), He.free_ok X G (c.at_ 64), He.free_ok X G (c.at_ 65), A_x.xf, XM.2, XM.1, XU.2, XU.1, A_x.no, of_decide_eq_true (c.at_ 107), of_decide_eq_true (c.at_ 112), A_x.ex, of_decide_eq_true (c.at_ 114), of_decide_eq_true (c.at_ 115), of_decide_eq_true (c.at_ 116), of_decide_eq_true (c.at_ 117), of_decide_eq_true (c.at_ 118), of_decide_eq_true (c.at_ 108), of_decide_eq_true (c.at_ 113)⟩
    exact ⟨C_law_pen, C_law_draw, C_law_pick, C_law_tall, C_law_due, C_law_form 17, C_law_names 17, C_normal, C_choices, B_Task, B_Book, R_plan, M_set_g, M_set_b, TO, ⟨_, _, _, _, rfl, fun H => ⟨fNil_ok (c.at_ 97) H, fNil_ok (c.at_ 98) H, fNil_ok (c.at_ 99) H, fNil_ok (c.at_ 100) H⟩⟩⟩
  exact ok_law T L B_law F_law (cdOf_eq F_law)
end LW
open PySem PySem.W PySem.Calls PyProof.Rows
theorem PySem.Challenge.cw_fewhands_k26_plans_that_books_refuse_holds : PySem.Challenge.rw_fewhands_k26_plans_that_books_refuse.Holds := by
  w_on; o_law
  refine HandSHeadRun.head_any (r := OpenLaw.row PySem.Challenge.rw_fewhands_k26_plans_that_books_refuse) (q := view (OpenLaw.row PySem.Challenge.rw_fewhands_k26_plans_that_books_refuse).prog [86]) (H := LW.hk) (ob := Ys.obRL 3000 LW.fb LW.fn LW.fc LW.ts LW.tf) (M := 14000) (loose := LW.loose) (d := HandSHeadRun.topDef (OpenLaw.row PySem.Challenge.rw_fewhands_k26_plans_that_books_refuse).prog 86) (kwd := []) Ys.obRL_eq
    (by kernel_rfl) (fun s => by kernel_rfl) LW.run (by kernel_rfl) (by kernel_rfl) (by kernel_rfl) (by rfl) (by first | assumption | decide +kernel) (by decide +kernel) ⟨rfl, rfl, rfl, rfl, rfl, by decide +kernel⟩ ?hw ?hc
  case hw => w_witness2
  case hc =>
    refine Ys.walk_ofGT (l := PySem.Challenge.rw_fewhands_k26_plans_that_books_refuse) (n := 63) (k := 30) (x := "_law_script") (CX := fun _ => L2.CX0) rfl (by decide) (by kernel_rfl) ⟨rfl, by decide, by decide⟩ ?F (fun _ _ _ _ _ z => z)
    intro w mg fa h Y G hmg0
    obtain ⟨K, KX, c⟩ := Y
    have hmg : mg ("law" : PySem.Str) = some (.ref fa) := by
      have e : (HandSHeadRun.topDef (OpenLaw.row PySem.Challenge.rw_fewhands_k26_plans_that_books_refuse).prog 86).name = ("law" : PySem.Str) := by kernel_rfl
      rw [← e]
      exact hmg0
    obtain ⟨fd, hb, hF⟩ := LW.facts (w := w) KX G hmg c
    refine ⟨K, fd, LW.tf.map (Ys.cTb K), LW.spLaw K (Ys.cTb K (Ys.gA "law")).2, KX, ⟨fun p hp => ?_, fun p hp => ?_, fun p hp => ?_, ?_⟩, hb, fun G H a ns hl z hS => ⟨G, a, ns, rfl, z, hS, hl, fun _ => rfl⟩, hF⟩
    · obtain ⟨g, hg, rfl⟩ := List.mem_map.mp hp
      exact c.emp g hg
    · obtain ⟨g, hg, rfl⟩ := List.mem_map.mp hp
      exact c.out g hg
    · obtain ⟨g, hg, rfl⟩ := List.mem_map.mp hp
      exact PySem.W.codeHd_of_K KX (c.hd g hg)
    · rw [List.map_map]
      exact c.nd
