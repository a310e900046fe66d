import PyProof.Rows.All
import Wide.All
import OpenK.AllK
import Wide.FinOn
import HandS.ForMost
import HandS.SetTxt0
import HandS.Set
import HandS.SetFor
import HandS.Strs
import HandS.More
import PyProof.ReprRoads
import PyProof.CallFns
import KE.KStateDown
import HandS.Defaults
import HandS.Head0
import HandS.Head1
import HandS.Head2
import HandS.HeadEnd
import HandS.HeadHook1
import HandS.HeadHook2
import HandS.Conv
import HandS.TupAny
import HandS.Wide
import HandS.Flow
import HandS.NoneIn
import HandS.IsInst
import HandS.Text
import HandS.Property
import HandS.OwnEq
import HandS.MakeKwOnly
import HandS.MakeKw
import HandS.TupSets
import HandS.Dict
import HandS.DictComp
import HandS.Iter
import HandS.WordsDict
import KE.KExcSuper
import KE.RegKSuper
import HandS.Exc
import HandS.ExcInit
import HandS.ExcField
import HandS.ExcIs
import HandS.ExcSuper
import KE.KIsAll
import KE.KTryMore
import HandS.WordsExc
import HandS.RaiseMore
import HandS.ExcOwn
import HandS.Star
import HandS.Style
import HandS.AnyAll
import HandS.HeadHook3
import PyProof.AutoSeq1
import KE.KDictSum
import PyProof.TupleOfSeq
import HandS.DictEq
import HandS.ClsMeth
import HandS.CallLocal
import KE.KParD
import KE.KDictKeyed
import KE.KeyNested
import KE.KDictWalk
import HandS.Small
import HandS.Lambda
import HandS.EndBits
import HandS.TryMany
import KE.KExcPX
import HandS.ExcValue
import HandS.DeepEq
import KE.KNestM
import HandS.HeadHook4
import HandS.HeadNt
import PySem.Challenge.RW_fewhands_k03_staffs_refused
import HandS.DictSub
import HandS.CallSlots
set_option Elab.async false
set_option linter.all false
set_option maxRecDepth 100000
set_option maxHeartbeats 40000000
namespace Ys
open PySem PySem.Spec PyProof.Rows L2
def sysB (K : PySem.W.Frag) : Bool := match K.lookup sysModules with
  | some o => o.cls == .type "dict"
  | none => false
structure DefY where
  ad : PySem.W.Frag → Addr
  name : Str
  qual : Str
  params : Arguments
  body : List Stmt
  scope : Scope
  dfl : List He.Dv := []
  kwd : List (Str × He.Dv) := []
def fnY (K : PySem.W.Frag) (a : Addr) : He.FnW := (K.lookup a).bind fun o => match o.data with
  | .func fd => some (fd.name, fd.qualname, fd.params, fd.body, fd.scope, fd.globals, fd.closure, fd.builtins)
  | _ => none
def DefY.val (d : DefY) : He.FnW := some (d.name, d.qual, d.params, .stmts d.body, d.scope, mainGlobals, [], builtinsNs)
def DefY.dvs (K : PySem.W.Frag) (d : DefY) : List V := d.dfl.map (He.Dv.v K)
def DefY.kws (K : PySem.W.Frag) (d : DefY) : List (Str × V) := d.kwd.map fun q => (q.1, q.2.v K)
def DefY.ok (K : PySem.W.Frag) (d : DefY) : Bool := PySem.W.keepIn K (.ref (d.ad K)) && ((K.lookup (d.ad K)).elim false fun o => match o.data with
  | .func fd => PySem.W.codeIn K fd.code d.qual && (He.dflB K fd.defaults (d.dvs K) && He.kwdB K fd.kwdefaults (d.kws K))
  | _ => false)
def obsZ (fb : List (PySem.W.Frag → Bool)) (fn : List DefY) (K : PySem.W.Frag) : He.AlD := ((fb.all fun f => f K) && fn.all fun d => d.ok K, fn.map fun d => fnY K (d.ad K))
def valZ (fn : List DefY) : He.AlD := (true, fn.map DefY.val)
def SaysZ (fb : List (PySem.W.Frag → Bool)) (fn : List DefY) (K : PySem.W.Frag) : Prop := obsZ fb fn K = valZ fn
def frZ (n : Nat) (g : Addr → Option Obj) : PySem.W.Frag := He.frG g (sysModules :: He.asD g n)
def hookZ (n : Nat) (fb : List (PySem.W.Frag → Bool)) (fn : List DefY) : PySem.W.Hook where
  α := He.AlD
  obs := fun s => obsZ fb fn (frZ n s.heap.get?)
  val := fun _ => valZ fn
  says := fun _ h => ∃ K : PySem.W.Frag, K.In h ∧ SaysZ fb fn K
  of := fun _ _ e => ⟨_, He.frG_in, e⟩
  keeps := fun _ _ _ ⟨K, hK, c⟩ k => ⟨K, PySem.W.Frag.In.keeps hK k, c⟩
def obZ (n : Nat) (fb : List (PySem.W.Frag → Bool)) (fn : List DefY) (s : PySem.W.SharedT) : He.AlD := obsZ fb fn (frZ n (HandSHeadRun.getT s))
def gA (x : Str) (K : PySem.W.Frag) : Addr := He.ga K x
def cA (x m : Str) (K : PySem.W.Frag) : Addr := He.ma K (He.ga K x) m
def pA (x m : Str) (K : PySem.W.Frag) : Addr := match PySem.W.recIn K (cA x m K) "property" with
  | some (.ref g :: _) => g
  | _ => 0
def kA (x f m : Str) (K : PySem.W.Frag) : Addr := match K.lookup (cA x f K) with
  | some ⟨_, _, .func fd, _⟩ => (match fd.kwdefaults with
    | .ref D => (match PySem.W.nsIn K D m with
      | some (some (.ref a)) => a
      | _ => 0)
    | _ => 0)
  | _ => 0
def fProp (x m : Str) (K : PySem.W.Frag) : Bool := decide (PySem.W.findIn K (.ref (He.ga K x)) m = some (some (.ref (cA x m K)))) && (decide (PySem.W.specialIn K (.ref (cA x m K)) "__get__" = some (some (.builtin "property.__get__"))) &&
  (decide (PySem.W.takesIn K (.ref (cA x m K)) = some true) && (match PySem.W.recIn K (cA x m K) "property" with
    | some (.ref g :: _) => decide (g = pA x m K)
    | _ => false)))
def fTy (x : Str) (K : PySem.W.Frag) : Bool := decide (PySem.W.findIn K (.ref (He.ga K x)) "__class__" = some (some (.builtin "object.__class__"))) && (decide (PySem.W.specialIn K (.builtin "object.__class__") "__get__" = some (some (.builtin "getset_descriptor.__get__"))) &&
  (decide (PySem.W.takesIn K (.builtin "object.__class__") = some true) && (decide (PySem.W.mroIn K (He.ga K x) (.type "object") = some true) && ((PySem.W.clsIn K (He.ga K x)).isSome && PySem.W.typeIn K (.ref (He.ga K x)) == some (.type "type")))))
def fNe (x : Str) (K : PySem.W.Frag) : Bool := decide (PySem.W.findIn K (.ref (He.ga K x)) "__ne__" = some (some (.builtin "object.__ne__")))
def fNil (a : PySem.W.Frag → Addr) (K : PySem.W.Frag) : Bool := match K.lookup (a K) with
  | some ⟨.type c, _, .seq its _, _⟩ => decide (c = "tuple") && decide (its.size = 0)
  | _ => false
abbrev noObj : Obj := { cls := .none, data := .fields #[] }
def fnC (K : PySem.W.Frag) (a : Addr) : He.FnW := (K.lookup a).bind fun o => match o.data with
  | .func g => some (g.name, g.qualname, g.params, g.body, g.scope, g.globals, [], g.builtins)
  | _ => none
def obsC (fb : List (PySem.W.Frag → Bool)) (fn fc : List DefY) (K : PySem.W.Frag) : He.AlD := ((fb.all fun f => f K) && fn.all fun d => d.ok K, (fn.map fun d => fnY K (d.ad K)) ++ fc.map fun d => fnC K (d.ad K))
def valC (fn fc : List DefY) : He.AlD := (true, fn.map DefY.val ++ fc.map DefY.val)
def SaysC (fb : List (PySem.W.Frag → Bool)) (fn fc : List DefY) (K : PySem.W.Frag) : Prop := obsC fb fn fc K = valC fn fc
def frC (n : Nat) (g : Addr → Option Obj) : PySem.W.Frag := He.frG g (cStatics :: sysModules :: He.asD g n)
def hookC (n : Nat) (fb : List (PySem.W.Frag → Bool)) (fn fc : List DefY) : PySem.W.Hook where
  α := He.AlD
  val := fun _ => valC fn fc
  obs := fun t => obsC fb fn fc (frC n t.heap.get?)
  says := fun _ h => ∃ K : PySem.W.Frag, K.In h ∧ SaysC fb fn fc K
  keeps := fun _ _ _ ⟨K, i, c⟩ k => ⟨K, i.keeps k, c⟩
  of := fun _ _ e => ⟨_, He.frG_in, e⟩
def obC (n : Nat) (fb : List (PySem.W.Frag → Bool)) (fn fc : List DefY) (s : PySem.W.SharedT) : He.AlD := obsC fb fn fc (frC n (HandSHeadRun.getT s))
def oexB (K : PySem.W.Frag) (C : Addr) : Bool := match K.lookup C with
  | some ⟨.type t, _, .cls c, sl⟩ => (match c.mro, sl.toList with
    | .ref D :: bm, [_, _, _, _, some (.builtin m), _] => (decide (t = "type") && (decide (D = C) && decide (m = "ValueError.__new__"))) && (PySem.HandSPX.refsVE bm && (c.hasDict && !c.hasDel))
    | _, _ => false)
  | _ => false
def oexA (x : Str) (K : PySem.W.Frag) : Bool := oexB K (He.ga K x) && (decide (PySem.W.findIn K (.ref (He.ga K x)) "__setattr__" = some (some (.builtin "object.__setattr__"))) && (decide (PySem.W.subIn K (.ref (He.ga K x)) (.type "BaseException") = some true) &&
  (decide (PySem.W.typeIn K (.ref (He.ga K x)) = some (.type "type")) && PySem.W.keepIn K (.ref (He.ga K x)))))
def excA (x fld : Str) (K : PySem.W.Frag) : Bool := xfB K (He.ga K x) && (decide (PySem.W.findIn K (.ref (He.ga K x)) "__class__" = some (some (.builtin "object.__class__"))) && (decide (PySem.W.specialIn K (.builtin "object.__class__") "__get__" = some (some (.builtin "getset_descriptor.__get__"))) &&
  (decide (PySem.W.takesIn K (.builtin "object.__class__") = some true) && (decide (PySem.W.mroIn K (He.ga K x) (.type "object") = some true) && (decide (PySem.W.findIn K (.ref (He.ga K x)) fld = some none) &&
  (decide (PySem.W.exmOne K (.ref (He.ga K x)) (.ref (He.ga K x)) = some true) && decide (PySem.W.kitOne K (.ref (He.ga K x)) (.type "ValueError") = some true)))))))
def fileB (K : PySem.W.Frag) (cd : Value) (file : Str) : Bool := match cd with
  | .ref a => (match K.lookup a with
    | some ⟨_, _, .fields vs, _⟩ => (match (vs[2]? : Option Value) with
      | some (.str z _) => file == z
      | _ => false)
    | _ => false)
  | _ => false
def cloB (K : PySem.W.Frag) (clo : List (Str × Addr)) (C : Addr) : Bool := match clo with
  | [(n, c)] => decide (n = "__class__") && (match K.lookup c with
    | some ⟨_, _, .cell (some (.ref D)), _⟩ => decide (D = C)
    | _ => false)
  | _ => false
def supA (x qual fld file : Str) (K : PySem.W.Frag) : Bool := (match K.lookup (cA x "__init__" K) with
    | some ⟨_, _, .func g, _⟩ => PySem.W.codeIn K g.code qual && (fileB K g.code file && (cloB K g.closure (gA x K) && decide (g.defaults = .none)))
    | _ => false) &&
  (decide (PySem.W.ks_superIn K (gA x K) (gA x K) "__init__" = some (some (.builtin "ValueError.__init__"))) && (decide (PySem.W.subIn K (.ref (gA x K)) (.type "ValueError") = some true) && (decide (PySem.W.nsIn K cStatics "thirdparty.any" = some none) &&
  (decide (PySem.W.nsIn K mainGlobals "super" = some none) && (decide (PySem.W.findIn K (.ref (gA x K)) fld = some none) && (decide (PySem.W.mroIn K (gA x K) (.ref (gA x K)) = some true) &&
  (decide (PySem.W.findIn K (.ref (gA x K)) "__init__" = some (some (.ref (cA x "__init__" K)))) && decide (PySem.W.typeIn K (.ref (cA x "__init__" K)) = some (.type "function")))))))))
def sA (x m : Str) (K : PySem.W.Frag) : Addr := match PySem.W.recIn K (cA x m K) "property" with
  | some (_ :: .ref g :: _) => g
  | _ => 0
def fPset (x m : Str) (K : PySem.W.Frag) : Bool := decide (PySem.W.takerIn K (He.ga K x) m = some (some (.ref (cA x m K)))) && (decide (PySem.W.typeIn K (.ref (cA x m K)) = some (.type "property")) &&
  (match PySem.W.recIn K (cA x m K) "property" with
    | some (_ :: .ref g :: _) => decide (g = sA x m K)
    | _ => false))
def fFn (x m : Str) (K : PySem.W.Frag) : Bool := PySem.W.fnIn K (cA x m K)
abbrev AlCT : Type := He.AlD × List (Option (List (Option (Str × Int))))
def obsCT (fb : List (PySem.W.Frag → Bool)) (fn fc : List DefY) (ts : List He.Tab) (K : PySem.W.Frag) : AlCT := (obsC fb fn fc K, ts.map fun t => He.dicW K (t.1 K))
def valCT (fn fc : List DefY) (ts : List He.Tab) (w : World) : AlCT := (valC fn fc, ts.map fun t => some (He.keysIn w.params t.2))
def SaysCT (fb : List (PySem.W.Frag → Bool)) (fn fc : List DefY) (ts : List He.Tab) (w : World) (K : PySem.W.Frag) : Prop := obsCT fb fn fc ts K = valCT fn fc ts w
def hookCT (n : Nat) (fb : List (PySem.W.Frag → Bool)) (fn fc : List DefY) (ts : List He.Tab) : PySem.W.Hook where
  α := AlCT
  val := fun w => valCT fn fc ts w
  obs := fun t => obsCT fb fn fc ts (frC n t.heap.get?)
  says := fun w h => ∃ K : PySem.W.Frag, K.In h ∧ SaysCT fb fn fc ts w K
  keeps := fun _ _ _ ⟨K, i, c⟩ k => ⟨K, i.keeps k, c⟩
  of := fun _ _ e => ⟨_, He.frG_in, e⟩
def obCT (n : Nat) (fb : List (PySem.W.Frag → Bool)) (fn fc : List DefY) (ts : List He.Tab) (s : PySem.W.SharedT) : AlCT := obsCT fb fn fc ts (frC n (HandSHeadRun.getT s))
def valsV (kvs : List (Str × V)) (a : PySem.W.Frag → Addr) (K : PySem.W.Frag) : Bool := kvs.all fun q => match PySem.W.nsIn K (a K) q.1 with
  | some (some u) => He.relB q.2 u
  | _ => false
def cdOf (K : PySem.W.Frag) (f : Addr) : Addr := match K.lookup f with
  | some ⟨_, _, .func fd, _⟩ => (match fd.code with
    | .ref c => c
    | _ => 0)
  | _ => 0
def cTb (K : PySem.W.Frag) (f : PySem.W.Frag → Addr) : Addr × Addr := (cdOf K (f K), He.tabOf K (cdOf K (f K)))
def tabsOk (g : Addr → Option Obj) (tf : List (PySem.W.Frag → Addr)) (K : PySem.W.Frag) : Bool := (tf.all fun f => PySem.W.codeHdIn K (cTb K f).1 (cTb K f).2 && (match g (cTb K f).2 with
  | some o => He.emptyTab o
  | none => false)) && decide ((tf.map fun f => (cTb K f).2).Nodup)
abbrev AlL : Type := AlCT × Bool
def frL (n : Nat) (g : Addr → Option Obj) : PySem.W.Frag := He.frT g (cStatics :: sysModules :: He.asD g n)
def obsLK (fb : List (PySem.W.Frag → Bool)) (fn fc : List DefY) (ts : List He.Tab) (tf : List (PySem.W.Frag → Addr)) (g : Addr → Option Obj) (K : PySem.W.Frag) : AlL := (obsCT fb fn fc ts K, tabsOk g tf K)
structure SaysL (fb : List (PySem.W.Frag → Bool)) (fn fc : List DefY) (ts : List He.Tab) (tf : List (PySem.W.Frag → Addr)) (w : World) (h : Heap) (K : PySem.W.Frag) : Prop where
  ct : SaysCT fb fn fc ts w K
  hd : ∀ f ∈ tf, PySem.W.codeHdIn K (cTb K f).1 (cTb K f).2 = true
  out : ∀ f ∈ tf, K.lookup (cTb K f).2 = none
  emp : ∀ f ∈ tf, h.get? (cTb K f).2 = some noObj
  nd : (tf.map fun f => (cTb K f).2).Nodup
theorem saysL_of {n : Nat} {fb : List (PySem.W.Frag → Bool)} {fn fc : List DefY} {ts : List He.Tab} {tf : List (PySem.W.Frag → Addr)} {w : World} {h : Heap} (e : obsLK fb fn fc ts tf h.get? (frL n h.get?) = (valCT fn fc ts w, true)) : SaysL fb fn fc ts tf w h (frL n h.get?) := by
  have e1 : obsCT fb fn fc ts (frL n h.get?) = valCT fn fc ts w := congrArg (fun z : AlL => z.1) e
  have e2 : tabsOk h.get? tf (frL n h.get?) = true := congrArg (fun z : AlL => z.2) e
  obtain ⟨h1, h2⟩ := He.ba e2
  have key : ∀ f ∈ tf, PySem.W.codeHdIn (frL n h.get?) (cTb (frL n h.get?) f).1 (cTb (frL n h.get?) f).2 = true ∧ ∃ o, h.get? (cTb (frL n h.get?) f).2 = some o ∧ He.emptyTab o = true := fun f hf => by
    obtain ⟨h3, h4⟩ := He.ba (List.all_eq_true.mp h1 f hf)
    cases q : h.get? (cTb (frL n h.get?) f).2 with
    | none => rw [q] at h4; cases h4
    | some o => rw [q] at h4; exact ⟨h3, o, rfl, h4⟩
  refine ⟨e1, fun f hf => (key f hf).1, fun f hf => ?_, fun f hf => ?_, of_decide_eq_true h2⟩
  · obtain ⟨_, o, q, z⟩ := key f hf
    exact He.frT_none q z
  · obtain ⟨_, o, q, z⟩ := key f hf
    rw [q, He.emptyTab_eq z]
def hookL (n : Nat) (fb : List (PySem.W.Frag → Bool)) (fn fc : List DefY) (ts : List He.Tab) (tf : List (PySem.W.Frag → Addr)) : PySem.W.Hook where
  α := AlL
  val := fun w => (valCT fn fc ts w, true)
  obs := fun t => obsLK fb fn fc ts tf t.heap.get? (frL n t.heap.get?)
  says := fun w h => ∃ K : PySem.W.Frag, K.In h ∧ SaysL fb fn fc ts tf w h K
  keeps := fun _ _ _ ⟨K, i, c⟩ k => ⟨K, i.keeps k, ⟨c.ct, c.hd, c.out, fun f hf => k _ _ (c.emp f hf), c.nd⟩⟩
  of := fun _ _ e => ⟨_, He.frT_in, saysL_of e⟩
def obL (n : Nat) (fb : List (PySem.W.Frag → Bool)) (fn fc : List DefY) (ts : List He.Tab) (tf : List (PySem.W.Frag → Addr)) (s : PySem.W.SharedT) : AlL := obsLK fb fn fc ts tf (HandSHeadRun.getT s) (frL n (HandSHeadRun.getT s))
def frRL (n : Nat) (g : Addr → Option Obj) : PySem.W.Frag := He.frT g (List.range n)
theorem saysRL_of {n : Nat} {fb : List (PySem.W.Frag → Bool)} {fn fc : List DefY} {ts : List He.Tab} {tf : List (PySem.W.Frag → Addr)} {w : World} {h : Heap} (e : obsLK fb fn fc ts tf h.get? (frRL n h.get?) = (valCT fn fc ts w, true)) : SaysL fb fn fc ts tf w h (frRL n h.get?) := by
  have e1 : obsCT fb fn fc ts (frRL n h.get?) = valCT fn fc ts w := congrArg (fun z : AlL => z.1) e
  have e2 : tabsOk h.get? tf (frRL n h.get?) = true := congrArg (fun z : AlL => z.2) e
  obtain ⟨h1, h2⟩ := He.ba e2
  have key : ∀ f ∈ tf, PySem.W.codeHdIn (frRL n h.get?) (cTb (frRL n h.get?) f).1 (cTb (frRL n h.get?) f).2 = true ∧ ∃ o, h.get? (cTb (frRL n h.get?) f).2 = some o ∧ He.emptyTab o = true := fun f hf => by
    obtain ⟨h3, h4⟩ := He.ba (List.all_eq_true.mp h1 f hf)
    cases q : h.get? (cTb (frRL n h.get?) f).2 with
    | none => rw [q] at h4; cases h4
    | some o => rw [q] at h4; exact ⟨h3, o, rfl, h4⟩
  refine ⟨e1, fun f hf => (key f hf).1, fun f hf => ?_, fun f hf => ?_, of_decide_eq_true h2⟩
  · obtain ⟨_, o, q, z⟩ := key f hf
    exact He.frT_none q z
  · obtain ⟨_, o, q, z⟩ := key f hf
    rw [q, He.emptyTab_eq z]
def hookRL (n : Nat) (fb : List (PySem.W.Frag → Bool)) (fn fc : List DefY) (ts : List He.Tab) (tf : List (PySem.W.Frag → Addr)) : PySem.W.Hook where
  α := AlL
  val := fun w => (valCT fn fc ts w, true)
  obs := fun t => obsLK fb fn fc ts tf t.heap.get? (frRL n t.heap.get?)
  says := fun w h => ∃ K : PySem.W.Frag, K.In h ∧ SaysL fb fn fc ts tf w h K
  keeps := fun _ _ _ ⟨K, i, c⟩ k => ⟨K, i.keeps k, ⟨c.ct, c.hd, c.out, fun f hf => k _ _ (c.emp f hf), c.nd⟩⟩
  of := fun _ _ e => ⟨_, He.frT_in, saysRL_of e⟩
def obRL (n : Nat) (fb : List (PySem.W.Frag → Bool)) (fn fc : List DefY) (ts : List He.Tab) (tf : List (PySem.W.Frag → Addr)) (s : PySem.W.SharedT) : AlL := obsLK fb fn fc ts tf (HandSHeadRun.getT s) (frRL n (HandSHeadRun.getT s))
def kmA (x m : Str) (K : PySem.W.Frag) : Addr := He5.wf K (gA x K) "classmethod" m
def fKm (x m : Str) (K : PySem.W.Frag) : Bool := PySem.W.readsIn K (gA x K) (.type "type") && (He5.wrapB K (gA x K) "classmethod" "classmethod.__get__" m && PySem.W.fnIn K (kmA x m K))
def fSelf (x : Str) (K : PySem.W.Frag) : Bool := PySem.W.selfFirst K (gA x K)
end Ys
namespace LW
open PySem PySem.Spec PyProof.Rows L2 Ys
abbrev P0 : Program := PySem.Challenge.pw_fewhands_k03_staffs_refused
def top (i : Nat) : Stmt := P0.main.body.getD i (.Pass ⟨0, 0, 0, 0⟩)
def inner : Stmt → Nat → Stmt
  | .ClassDef _ _ _ body _ _ _ _ _ _ _, j => (body.filter fun y => match y with | .FunctionDef .. => true | _ => false).getD j (.Pass ⟨0, 0, 0, 0⟩)
  | s, _ => s
abbrev s_wall : Stmt := top 0
abbrev s_is_word : Stmt := top 7
abbrev s_is_integer : Stmt := top 8
abbrev s_is_within : Stmt := top 9
abbrev s_ascending : Stmt := top 10
abbrev s_valid_numbers : Stmt := top 13
abbrev s_Staff_init : Stmt := (inner (top 14) 0)
abbrev s_Staff_of : Stmt := (inner (top 14) 1)
abbrev s_Staff_kinds : Stmt := (inner (top 14) 2)
abbrev s_Staff_total : Stmt := (inner (top 14) 3)
abbrev s_Staff_numbers : Stmt := (inner (top 14) 4)
abbrev s_Staff_persons_of : Stmt := (inner (top 14) 5)
abbrev s_Staff_fits_in : Stmt := (inner (top 14) 6)
abbrev s_Staff_within : Stmt := (inner (top 14) 7)
abbrev s_Staff_iter : Stmt := (inner (top 14) 8)
abbrev s_Staff_getitem : Stmt := (inner (top 14) 9)
abbrev s_Staff_eq : Stmt := (inner (top 14) 10)
abbrev s_Staff_add : Stmt := (inner (top 14) 11)
abbrev s_Staff_sub : Stmt := (inner (top 14) 12)
abbrev s_Staff_or : Stmt := (inner (top 14) 13)
abbrev s_Staff_and : Stmt := (inner (top 14) 14)
abbrev s_greater : Stmt := top 15
abbrev s_smaller : Stmt := top 16
abbrev s_staff_with : Stmt := top 17
abbrev s_law_pen : Stmt := top 19
abbrev s_law_draw : Stmt := top 20
abbrev s_law_pick : Stmt := top 21
abbrev s_law_words : Stmt := top 22
abbrev s_law_any_value : Stmt := top 23
abbrev s_law_is_word : Stmt := top 24
abbrev s_law_is_integer : Stmt := top 25
abbrev s_law_told : Stmt := top 26
abbrev s_law_due : Stmt := top 27
abbrev s_law : Stmt := top 28
abbrev PR : Program := (PySem.Challenge.rw_fewhands_k03_staffs_refused).prog
abbrev s_x : Stmt := inner (top 2) 0
def dSup : DefY := ⟨cA "InvalidStaff" "__init__", "__init__", "InvalidStaff.__init__", defArgs s_x, defBody s_x, defScope s_x, [], []⟩
def fb : List (PySem.W.Frag → Bool) := [sysB, fun K => He.Fa.ok K (.glo "is_word"), fun K => He.Fa.ok K (.glo "is_integer"), fun K => He.Fa.ok K (.glo "is_within"), fun K => He.Fa.ok K (.glo "ascending"), fun K => He.Fa.ok K (.glo "valid_numbers"), fun K => He.Fa.ok K (.glo "_law_pen"), fun K => He.Fa.ok K (.glo "_law_draw"), fun K => He.Fa.ok K (.glo "_law_pick"), fun K => He.Fa.ok K (.glo "_law_words"), fun K => He.Fa.ok K (.glo "_law_any_value"), fun K => He.Fa.ok K (.glo "_law_is_word"), fun K => He.Fa.ok K (.glo "_law_is_integer"), fun K => He.Fa.ok K (.glo "_law_told"), fun K => He.Fa.ok K (.glo "_law_due"), fun K => He.Fa.ok K (.glo "law"), fun K => He.Fa.ok K (.glo "Staff"), fun K => He.Fa.ok K (.glo "InvalidStaff"), fun K => He.Fa.ok K (.free "len"), fun K => He.Fa.ok K (.free "int"), fun K => He.Fa.ok K (.free "list"), fun K => He.Fa.ok K (.free "tuple"), fun K => He.Fa.ok K (.free "set"), fun K => He.Fa.ok K (.free "dict"), fun K => He.Fa.ok K (.free "str"), fun K => He.Fa.ok K (.free "bool"), fun K => He.Fa.ok K (.free "sorted"), fun K => He.Fa.ok K (.free "min"), fun K => He.Fa.ok K (.free "max"), fun K => He.Fa.ok K (.free "sum"), fun K => He.Fa.ok K (.free "all"), fun K => He.Fa.ok K (.free "any"), fun K => He.Fa.ok K (.free "repr"), fun K => He.Fa.ok K (.free "range"), fun K => He.Fa.ok K (.free "isinstance"), fun K => He.Fa.ok K (.free "ValueError"), fun K => He.Fa.ok K (.str "LETTERS" "abcdefghijklmnopqrstuvwxyz"), fun K => He.Fa.ok K (.int "LONGEST_WORD" 8), fun K => He.Fa.ok K (.int "MOST_PERSONS" 1000000000000000000000000000000), fun K => He.Fa.ok K (.cls "Staff"), fun K => He.Fa.ok K (.noat "Staff" "own_numbers"), fun K => He.Fa.ok K (.mkr "Staff"), fTy "Staff", fKm "Staff" "of", oexA "InvalidStaff", excA "InvalidStaff" "value", supA "InvalidStaff" "InvalidStaff.__init__" "value" PR.main.file, fun K => decide (PySem.W.kitOne K (.ref (gA "InvalidStaff" K)) (.type "ValueError") = some true)]
def fn : List DefY := [⟨gA "is_word", "is_word", "is_word", defArgs s_is_word, defBody s_is_word, defScope s_is_word, [], []⟩, ⟨gA "is_integer", "is_integer", "is_integer", defArgs s_is_integer, defBody s_is_integer, defScope s_is_integer, [], []⟩, ⟨gA "is_within", "is_within", "is_within", defArgs s_is_within, defBody s_is_within, defScope s_is_within, [], []⟩, ⟨gA "ascending", "ascending", "ascending", defArgs s_ascending, defBody s_ascending, defScope s_ascending, [], []⟩, ⟨gA "valid_numbers", "valid_numbers", "valid_numbers", defArgs s_valid_numbers, defBody s_valid_numbers, defScope s_valid_numbers, [], []⟩, ⟨gA "_law_pen", "_law_pen", "_law_pen", defArgs s_law_pen, defBody s_law_pen, defScope s_law_pen, [], []⟩, ⟨gA "_law_draw", "_law_draw", "_law_draw", defArgs s_law_draw, defBody s_law_draw, defScope s_law_draw, [], []⟩, ⟨gA "_law_pick", "_law_pick", "_law_pick", defArgs s_law_pick, defBody s_law_pick, defScope s_law_pick, [], []⟩, ⟨gA "_law_words", "_law_words", "_law_words", defArgs s_law_words, defBody s_law_words, defScope s_law_words, [], []⟩, ⟨gA "_law_any_value", "_law_any_value", "_law_any_value", defArgs s_law_any_value, defBody s_law_any_value, defScope s_law_any_value, [], []⟩, ⟨gA "_law_is_word", "_law_is_word", "_law_is_word", defArgs s_law_is_word, defBody s_law_is_word, defScope s_law_is_word, [], []⟩, ⟨gA "_law_is_integer", "_law_is_integer", "_law_is_integer", defArgs s_law_is_integer, defBody s_law_is_integer, defScope s_law_is_integer, [], []⟩, ⟨gA "_law_told", "_law_told", "_law_told", defArgs s_law_told, defBody s_law_told, defScope s_law_told, [], []⟩, ⟨gA "_law_due", "_law_due", "_law_due", defArgs s_law_due, defBody s_law_due, defScope s_law_due, [], []⟩, ⟨gA "law", "law", "law", defArgs s_law, defBody s_law, defScope s_law, [], []⟩, ⟨cA "Staff" "__init__", "__init__", "Staff.__init__", defArgs s_Staff_init, defBody s_Staff_init, defScope s_Staff_init, [], []⟩, ⟨kmA "Staff" "of", "of", "Staff.of", defArgs s_Staff_of, defBody s_Staff_of, defScope s_Staff_of, [], []⟩]
def fc : List DefY := [dSup]
def ts : List He.Tab := []
abbrev R : PySem.W.OpenRow := PySem.W.OpenLaw.row PySem.Challenge.rw_fewhands_k03_staffs_refused
def tf : List (PySem.W.Frag → Addr) := [gA "law"]
abbrev hk : PySem.W.Hook := hookRL 1500 fb fn fc ts tf
def loose : List Str := ["_wall", "InvalidStaff", "TooFew", "LETTERS", "LONGEST_WORD", "is_word", "is_integer", "is_within", "ascending", "MOST_PERSONS", "valid_numbers", "Staff", "greater", "smaller", "staff_with", "_law_pen", "_law_draw", "_law_pick", "_law_words", "_law_any_value", "_law_is_word", "_law_is_integer", "_law_told", "_law_due"]
theorem run (w : World) : HandSHeadRun.RunEq R (PySem.W.view R.prog [28]) hk (obRL 1500 fb fn fc ts tf) 4000 loose w := by
  intro os
  kernel_rfl
end LW
/-! sets of texts: made of a list or a tuple, counted, sorted -/
namespace Ys
open PySem PySem.Spec PyProof.Rows L2

def TxSet (P : Program) (w : World) (h : Heap) (a : Addr) (l : List Str) : Prop :=
  ∃ D : Froz.SD, h.get? a = some (Froz.sObj "set" D) ∧ Froz.TxOk P w D l ∧ l.Nodup ∧ Ris D.2.2.place.toList ∧ (w.params.followText "set-order" = true ∨ D.2.2.led = true)

section
variable {P : Program} {w : World} {A : Around} {E : Value → Shared → Prop} {s : Shared}

theorem TxSet.same {h h' : Heap} {a : Addr} {l : List Str} (R : TxSet P w h a l) (k : ∀ o, h.get? a = some o → h'.get? a = some o) : TxSet P w h' a l :=
  let ⟨D, e, r⟩ := R
  ⟨D, k _ e, r⟩

theorem tail_tab (ep : Nat) (es : Array (Int × Value)) (t : SetTable) (b : Bool) (r : Ris t.place.toList) : Ris (Froz.tailTx ep es t b).2.2.place.toList ∧ (Froz.tailTx ep es t b).2.2.led = t.led := by
  unfold Froz.tailTx
  by_cases c : (!b && t.tooFull) = true
  · rw [if_pos c]
    exact ⟨relayAll_ris _ _ _, relayAll_led _ _ _⟩
  · rw [if_neg c]
    exact ⟨r, rfl⟩
theorem add_tab (hs : Int) (v : Value) (D : Froz.SD) (r : Ris D.2.2.place.toList) : Ris (Froz.addTx hs v D).2.2.place.toList ∧ (Froz.addTx hs v D).2.2.led = D.2.2.led := by
  have r1 := layNew_ris D.2.2 D.1 hs v r
  have l1 := layNew_led D.2.2 D.1 hs v
  unfold Froz.addTx
  have core : ∀ t : SetTable, Ris t.place.toList → t.led = D.2.2.led → ∀ ep es b, Ris (Froz.tailTx ep es t b).2.2.place.toList ∧ (Froz.tailTx ep es t b).2.2.led = D.2.2.led := fun t h1 h2 ep es b =>
    ⟨(tail_tab ep es t b h1).1, (tail_tab ep es t b h1).2.trans h2⟩
  refine core _ ?_ ?_ _ _ _
  · split
    · exact r1
    · exact r1
  · split
    · exact l1
    · exact l1

theorem add_there {a : Addr} {D : Froz.SD} {l : List Str} {k : Str} {u : Tok} {Q : Bool → Shared → Prop} (ho : s.heap.get? a = some (Froz.sObj "set" D)) (F : Froz.TxOk P w D l) (hk : k ∈ l) (hb : l.length < scanBound)
    (h : Q false s) : wpAny (model P w) A (setAddHashed a (.str k u) (hashStr w k)) Q E s := by
  obtain ⟨es, ep, t⟩ := D
  have e1 : (Froz.sObj "set" (es, ep, t)).data = .set es ep t := rfl
  have e2 : t.fits es.size = true := F.fit
  have e3 : ElemsOf (PySem.strKind P w) es.toList := F.el
  have e4 : es.size < scanBound := by
    have z : es.size = l.length := F.sz
    rw [z]
    exact hb
  have e5 : (PySem.strKind P w).is k (.str k u) = true := Froz.is_str k u
  unfold setAddHashed setAddHashedIn
  refine wpAny_holding (wpAny_bind (wpAny_setState_of ho e1 e2 ?_))
  dsimp only
  rw [byScan_of rfl e4 e3]
  simp only [↓reduceIte]
  unfold setAddByScan
  refine wpAny_bind (wpAny_bind (wpAny_rule (wpAny_bind (wpAny_setScan_of (knd := PySem.strKind P w) (k := k) e5 ho e1 e2 e3 ?_))))
  cases q : List.findIdx? (fun e => (PySem.strKind P w).is k e.2) es.toList with
  | some j =>
    dsimp only
    exact wpAny_pure (wpAny_pure h)
  | none =>
    obtain ⟨e, he, z⟩ := (F.mem k).mp hk
    have y := List.findIdx?_eq_none_iff.mp q e he
    rw [z] at y
    cases y
theorem add_txt {a : Addr} {l : List Str} {k : Str} {u : Tok} {Q : Bool → Shared → Prop} (R : TxSet P w s.heap a l) (hb : l.length + 1 < scanBound)
    (h : ∀ (b : Bool) (h' : Heap) (l' : List Str), Heap.SameBut a s.heap h' → TxSet P w h' a l' → (∀ x, x ∈ l' ↔ x ∈ l ∨ x = k) → l'.length ≤ l.length + 1 → Q b { s with heap := h' }) :
    wpAny (model P w) A (setAddHashed a (.str k u) (hashStr w k)) Q E s := by
  obtain ⟨D, ho, F, nd, r, ld⟩ := R
  by_cases hk : k ∈ l
  · refine add_there ho F hk (by omega) ?_
    refine h false s.heap l (Heap.SameBut.refl a s.heap) ⟨D, ho, F, nd, r, ld⟩ (fun x => ⟨.inl, fun z => z.elim id fun e => e ▸ hk⟩) (Nat.le_succ _)
  · refine Froz.add_x ho F hk hb ?_
    have ex : (s.heap.update a (fun _ => Froz.sObj "set" (Froz.addTx (hashStr w k) (.str k u) D))).get? a = some (Froz.sObj "set" (Froz.addTx (hashStr w k) (.str k u) D)) := Froz.get_upd _ ho rfl
    obtain ⟨t1, t2⟩ := add_tab (hashStr w k) (.str k u) D r
    refine h true _ (k :: l) (Heap.SameBut.update s.heap a _) ⟨_, ex, Froz.add_ok u F, List.nodup_cons.mpr ⟨hk, nd⟩, t1, ?_⟩ (fun x => ?_) (Nat.le_refl _)
    · rw [t2]
      exact ld
    · rw [List.mem_cons]
      exact Or.comm

theorem fill_txt {I : Addr} {fp wr : List Addr} {G : Array GenState → Array GenState → Prop} {n : Nat} {Pv : Nat → Value → Prop} {St : Nat → Shared → Prop} {R : Result → Shared → Prop}
    (W : WalksS P w A.in1 I fp wr G n Pv St) (S : Addr) (hS : S ∉ fp) (xs : List Str) (hn : xs.length = n) (hfew : n + 1 < scanBound) (hval : ∀ i v, Pv i v → ∃ t, v = .str (xs.getD i Str.empty) t) :
    ∀ (k i : Nat) (s : Shared), n - i = k → i ≤ n → St i s → (∃ l, TxSet P w s.heap S l ∧ (∀ x, x ∈ l ↔ x ∈ xs.take i) ∧ l.length ≤ i) →
      (∀ s' l, Moved (S :: wr) G s s' → TxSet P w s'.heap S l → (∀ x, x ∈ l ↔ x ∈ xs) → l.length ≤ n → R (.ok (.ret .none)) s') →
      codeAny (model P w) A (.builtin "set.update.loop" ⟨[.ref S, .ref I], []⟩) R s := by
  have nw : S ∉ wr := fun z => hS (W.sub _ z)
  have sub : ∀ b ∈ wr, b ∈ S :: wr := fun b hb => List.mem_cons_of_mem _ hb
  intro k
  induction k with
  | zero =>
    intro i s hk hi st ⟨l, T, m, len⟩ hR
    obtain rfl : i = n := by omega
    refine codeAny_builtin PyProof.Rows.F.entry_set_update_loop ?_
    rw [Around.under_plainId PyProof.Rows.F.plain_set_update_loop _]
    refine wpAny_bind (W.done s _ _ st fun s' mv => ?_)
    refine wpAny_pure (hR s' l (mv.mono sub) (T.same fun o e => mv.heap S o nw e) (fun x => ?_) len)
    rw [m x, ← hn, List.take_length]
  | succ k ih =>
    intro i s hk hi st ⟨l, T, m, len⟩ hR
    have hlt : i < n := by omega
    refine codeAny_builtin PyProof.Rows.F.entry_set_update_loop ?_
    rw [Around.under_plainId PyProof.Rows.F.plain_set_update_loop _]
    refine wpAny_bind (W.item i s _ _ hlt st fun v s' hv st' mv => ?_)
    obtain ⟨t, rfl⟩ := hval i v hv
    have T' : TxSet P w s'.heap S l := T.same fun o e => mv.heap S o nw e
    refine wpAny_bind (wpAny_holding ?_)
    unfold setAdd
    refine wpAny_holding (wpAny_bind ((PySem.strKind P w).pyHash (k := xs.getD i Str.empty) (strKind_is _ _ _ _) ?_))
    refine add_txt (s := { s' with toks := s'.toks + 1 }) T' (by omega) fun b h' l' hsb T2 m2 len2 => ?_
    have hg : xs[i]? = some (xs.getD i Str.empty) := by
      have : i < xs.length := by omega
      rw [List.getD_eq_getElem?_getD, List.getElem?_eq_getElem this]
      rfl
    refine wpAny_pure ⟨plainId_quiet PyProof.Rows.F.plain_set_update_loop _, ih (i + 1) _ (by omega) hlt (W.frame _ s' _ _ st' (Nat.le_succ _) fun b hb o e => ?_) ⟨l', T2, fun x => ?_, by omega⟩ fun s'' l2 mv'' T'' m'' len'' => ?_⟩
    · rw [hsb.2 b (fun z : b = S => hS (by rw [← z]; exact hb))]
      exact e
    · rw [m2 x, m x, List.take_succ, hg, List.mem_append]
      simp
    · refine hR s'' l2 (Moved.trans W.gtrans ((mv.mono sub).then_heap (Nat.le_succ _) fun b o hb e => ?_) mv'') T'' m'' len''
      rw [hsb.2 b (fun z : b = S => hb (by rw [z]; exact List.mem_cons_self))]
      exact e
end
end Ys
namespace Ys
open PySem PySem.Spec PyProof.Rows L2
section
variable {P : Program} {w : World} {A : Around} {E : Value → Shared → Prop} {s : Shared}
abbrev bare (w : World) : Obj := { cls := .type "set", dict := none, data := .set #[] 0 (.fresh 0 0 (!w.params.followText "set-order")) }
theorem none_from {h : Heap} {b : Addr} (z : h.objs.size ≤ b) : h.get? b = none := by
  cases q : h.get? b with
  | none => rfl
  | some o => exact absurd (Nat.lt_of_lt_of_le (Heap.lt_size q) z) (Nat.lt_irrefl _)
theorem bare_txt {h : Heap} {a : Addr} (e : h.get? a = some (bare w)) : TxSet P w h a [] := by
  refine ⟨(#[], 0, .fresh 0 0 (!w.params.followText "set-order")), e, Froz.TxOk.nil rfl, List.nodup_nil, List.Pairwise.nil, ?_⟩
  show _ ∨ (!w.params.followText "set-order") = true
  cases w.params.followText "set-order"
  · exact .inr rfl
  · exact .inl rfl
structure TxSrc (P : Program) (w : World) (T : String) (l : Addr) (xs : List Str) (h : Heap) : Prop where
  type : ∀ s' : Shared, (∀ b o, h.get? b = some o → s'.heap.get? b = some o) → s'.TypeIs (.ref l) T
  set : isSubtype (.type T) (.type "set") = pure false
  froz : isSubtype (.type T) (.type "frozenset") = pure false
  nd : (Value.type T == Value.type "dict") = false
  lt : l < h.objs.size
  iter : ∀ (A : Around) (s' : Shared) (E : Value → Shared → Prop) (Q : Value → Shared → Prop), (∀ b o, h.get? b = some o → s'.heap.get? b = some o) →
    (∀ it : Obj, (∀ A' : Around, A'.handled = none → l ≠ s'.heap.objs.size → ∃ (Pv : Nat → Value → Prop) (St : Nat → Heap → Prop),
        Walks P w A' s'.heap.objs.size [s'.heap.objs.size, l] [s'.heap.objs.size] xs.length Pv St ∧ (∀ i v, Pv i v → ∃ t, v = .str (xs.getD i Str.empty) t) ∧ St 0 (s'.heap.push it)) →
      Q (.ref s'.heap.objs.size) { s' with heap := s'.heap.push it }) →
    wpAny (model P w) A (pyIter (.ref l)) Q E s'
theorem src_list {l : Addr} {items : Array Value} {xs : List Str} {h : Heap} (hl : h.IsList l items) (hi : StrsAre items.toList xs) : TxSrc P w "list" l xs h where
  type := fun s' k => by
    obtain ⟨o, e, c, _⟩ := hl
    exact ⟨o, k _ _ e, c⟩
  set := F.sub_list_set
  froz := F.sub_list_frozenset
  nd := by decide
  lt := by
    obtain ⟨o, e, _⟩ := hl
    exact Heap.lt_size e
  iter := fun A s' E Q k hQ => by
    have hl' : s'.heap.IsList l items := by
      obtain ⟨o, e, r⟩ := hl
      exact ⟨o, k _ _ e, r⟩
    refine wpAny_pyIter_list hl' (hQ _ fun A' hA ne => ⟨fun i v => items[i]? = some v, fun i z => z.IsListIter s'.heap.objs.size l i ∧ z.IsList l items, ?_, fun i v hv => SS.strs_at hi i v (by rw [Array.getElem?_toList]; exact hv), ⟨⟨_, Heap.get?_push_size _ rfl, rfl, rfl⟩, hl'.push _⟩⟩)
    have e : xs.length = items.size := by rw [← StrsAre.len_eq hi, Array.length_toList]
    rw [e]
    exact Walks.list hA _ l ne items
theorem src_tuple {l : Addr} {items : Array Value} {xs : List Str} {h : Heap} (hl : h.IsTuple l items) (hi : StrsAre items.toList xs) : TxSrc P w "tuple" l xs h where
  type := fun s' k => by
    obtain ⟨o, e, c, _⟩ := hl
    exact ⟨o, k _ _ e, c⟩
  set := F.sub_tuple_set
  froz := F.sub_tuple_frozenset
  nd := by decide
  lt := by
    obtain ⟨o, e, _⟩ := hl
    exact Heap.lt_size e
  iter := fun A s' E Q k hQ => by
    have hl' : s'.heap.IsTuple l items := by
      obtain ⟨o, e, r⟩ := hl
      exact ⟨o, k _ _ e, r⟩
    refine wpAny_pyIter_tuple hl' (hQ _ fun A' hA ne => ⟨fun i v => items[i]? = some v, fun i z => z.IsTupleIter s'.heap.objs.size l i ∧ z.IsTuple l items, ?_, fun i v hv => SS.strs_at hi i v (by rw [Array.getElem?_toList]; exact hv), ⟨⟨_, Heap.get?_push_size _ rfl, rfl, rfl⟩, hl'.push _⟩⟩)
    have e : xs.length = items.size := by rw [← StrsAre.len_eq hi, Array.length_toList]
    rw [e]
    exact Walks.tuple hA _ l ne items

theorem make_txt {T : String} {l : Addr} {xs : List Str} {Q : Value → Shared → Prop} (hh : A.handled = none) (S : TxSrc P w T l xs s.heap) (few : xs.length + 1 < scanBound)
    (h : ∀ (h' : Heap) (tk : Nat) (l' : List Str), TxSet P w h' s.heap.objs.size l' → (∀ x, x ∈ l' ↔ x ∈ xs) → l'.length ≤ xs.length → (∀ b o, s.heap.get? b = some o → h'.get? b = some o) →
      Q (.ref s.heap.objs.size) { s with heap := h', toks := tk }) : wpAny (model P w) A (call (.type "set") [.ref l]) Q E s := by
  have a1 := F.called_set.made
  have a2 := F.called_set.sub
  have a3 := F.called_set.notType
  have a4 := F.called_set.canCreate
  have a5 := F.typeCall_set_1 (.ref l)
  obtain ⟨c, tl, a6⟩ := F.called_set.mro
  refine wpAny_call (codeAny_of_tree ?_)
  show wpAny _ _ (callAny (.type "set") _) _ _ _
  refine wpAny_pure ⟨Code.quiet_builtin _ (by decide +kernel), codeAny_builtin F.entry_type_call ?_⟩
  rw [Around.under_plain (weight_type_call_type "set" [.ref l] []) rfl]
  repeat (any_goals (first | assumption | wp_step))
  refine codeAny_mono (L2.code_set_led1 (.ref l) (E := E) (Q₁ := fun v z => v = .ref s.heap.objs.size ∧ z = { s with heap := s.heap.push (bare w) }) ⟨rfl, rfl⟩) fun r s1 hr => ?_
  cases r with
  | error e => exact hr
  | ok fl =>
    cases fl with
    | next => exact hr.elim
    | brk => exact hr.elim
    | cont => exact hr.elim
    | ret v =>
      obtain ⟨rfl, rfl⟩ := hr
      have b0 : (s.heap.push (bare w)).get? s.heap.objs.size = some (bare w) := Heap.get?_push_size _ rfl
      have b1 : Shared.TypeIs { s with heap := s.heap.push (bare w) } (.ref s.heap.objs.size) "set" := ⟨_, b0, rfl⟩
      have b2 := F.called_set.init.lookup
      have b3 := F.called_set.init.bind (.ref s.heap.objs.size)
      repeat (any_goals (first | assumption | wp_step))
      refine codeAny_mono (codeAny_call_builtin (R := wants (fun r z => r = .none ∧ ∃ h' tk l', z = { s with heap := h', toks := tk } ∧ TxSet P w h' s.heap.objs.size l' ∧ (∀ x, x ∈ l' ↔ x ∈ xs) ∧ l'.length ≤ xs.length ∧
          (∀ b o, s.heap.get? b = some o → h'.get? b = some o)) E) F.called_set.init.plain F.entry_set_init (check_set_init_1 b1 ?_)) fun r2 s2 hr2 => ?_
      · have k1 : ∀ b o, s.heap.get? b = some o → (s.heap.push (bare w)).get? b = some o := fun b o e => Heap.get?_push_of_some _ e
        have c1 : Shared.TypeIs { s with heap := s.heap.push (bare w) } (.ref l) T := S.type _ k1
        have c2 := S.set
        have c3 := S.froz
        have c4 := S.nd
        unfold Builtin.«set.__init__» noKeywords Builtin.Frozenset.updateFrom
        generalize hPI : pyIter = PI
        wp_walk
        subst hPI
        have hsz : (s.heap.push (bare w)).objs.size = s.heap.objs.size + 1 := Heap.size_push ..
        have lt := S.lt
        refine S.iter _ _ _ _ k1 fun it hit => ?_
        refine wpAny_bind (wpAny_runValue ?_)
        obtain ⟨Pv, St, W, hv, st⟩ := hit A.in1.in1.in1 (by simp [hh]) (by show l ≠ (s.heap.push (bare w)).objs.size; rw [hsz]; exact Nat.ne_of_lt (Nat.lt_succ_of_lt lt))
        have ns : s.heap.objs.size ∉ [(s.heap.push (bare w)).objs.size, l] := by
          rw [hsz]
          simp only [List.mem_cons, List.not_mem_nil, or_false, not_or]
          exact ⟨Nat.ne_of_lt (Nat.lt_succ_self _), Nat.ne_of_gt lt⟩
        refine fill_txt W.toS s.heap.objs.size ns xs rfl few hv (xs.length - 0) 0 _ (by omega) (Nat.zero_le _) st ⟨[], ?_, (fun x => by simp), Nat.zero_le _⟩ fun s' l' mv T' m len => ?_
        · exact bare_txt (Heap.get?_push_of_some _ b0)
        · obtain ⟨h', g', d', tk', os'⟩ := s'
          obtain rfl : g' = s.gens := mv.gens
          obtain rfl : d' = s.drawn := mv.drawn
          obtain rfl : os' = s.os := mv.os
          refine wpAny_pure (wpAny_pure ⟨rfl, h', tk', l', rfl, T', m, len, fun b o e => ?_⟩)
          have hb : b < s.heap.objs.size := Heap.lt_size e
          refine mv.heap b o ?_ (Heap.get?_push_of_some _ (Heap.get?_push_of_some _ e))
          simp only [List.mem_cons, List.not_mem_nil, or_false, not_or]
          refine ⟨Nat.ne_of_lt hb, ?_⟩
          show b ≠ (s.heap.push (bare w)).objs.size
          rw [hsz]
          exact Nat.ne_of_lt (Nat.lt_succ_of_lt hb)
      · cases r2 with
        | error e => exact hr2
        | ok f2 =>
          cases f2 with
          | next => exact hr2.elim
          | brk => exact hr2.elim
          | cont => exact hr2.elim
          | ret r =>
            obtain ⟨rfl, h', tk, l', rfl, T', m, len, k⟩ := hr2
            repeat (any_goals (first | assumption | wp_step))
            exact h _ _ _ T' m len k
end
end Ys
namespace Ys
open PySem PySem.Spec PyProof.Rows L2
section
variable {P : Program} {w : World} {A : Around} {E : Value → Shared → Prop} {s : Shared}
theorem txt_vals {es : List (Int × Value)} (h : ElemsOf (PySem.strKind P w) es) : ∀ e ∈ es, ∃ (x : Str) (t : Tok), e.2 = .str x t := fun e he => by
  obtain ⟨⟨k, hk, _⟩, _⟩ := h e he
  obtain ⟨t, q⟩ := Value.isStrOf_shape (x := k) (v := e.2) hk
  exact ⟨k, t, q⟩
def txtOf : Value → Str
  | .str x _ => x
  | _ => Str.empty
theorem strsAre_txt : ∀ {us : List Value}, (∀ u ∈ us, ∃ (x : Str) (t : Tok), u = .str x t) → StrsAre us (us.map txtOf)
  | [], _ => .nil
  | u :: us, h => by
    obtain ⟨x, t, rfl⟩ := h u List.mem_cons_self
    exact .cons x t (strsAre_txt fun v hv => h v (List.mem_cons_of_mem _ hv))
theorem perm_len : ∀ (l m : List Str), l.Nodup → (∀ x ∈ l, x ∈ m) → m.length ≤ l.length → m.Perm l
  | [], m, _, _, h => by
    have e : m = [] := List.length_eq_zero_iff.mp (Nat.le_zero.mp h)
    rw [e]
  | x :: l, m, nd, h, hl => by
    obtain ⟨n1, n2⟩ := List.nodup_cons.mp nd
    have hx : x ∈ m := h x List.mem_cons_self
    have p := List.perm_cons_erase hx
    have e : m.length = (m.erase x).length + 1 := by rw [p.length_eq, List.length_cons]
    refine p.trans (.cons x (perm_len l (m.erase x) n2 (fun y hy => ?_) (by rw [List.length_cons] at hl; omega)))
    have ne : y ≠ x := fun z => n1 (z ▸ hy)
    exact (List.mem_erase_of_ne ne).mpr (h y (List.mem_cons_of_mem _ hy))
theorem sort_txt {a : Addr} {l : List Str} {Q : Value → Shared → Prop} (hh : A.handled = none) (T : TxSet P w s.heap a l) (few : l.length < 64)
    (hQ : ∀ s' p (out : List Value) (c : Nat) (ys : List Str), (∀ b o, s.heap.get? b = some o → s'.heap.get? b = some o) → s'.gens = s.gens → s'.os = s.os → s.heap.objs.size ≤ p →
      s'.heap.get? p = some { cls := .type "list", data := .seq out.toArray c } → StrsAre out ys → ys.Perm l → sortedS ys = true → Q (.ref p) s') :
    wpAny (model P w) A (call (.builtin "sorted") [.ref a]) Q E s := by
  obtain ⟨⟨es, ep, t⟩, ho, F, nd, r, ld⟩ := T
  have fit : t.fits es.size = true := F.fit
  have sz : es.size = l.length := F.sz
  have el : ElemsOf (PySem.strKind P w) es.toList := F.el
  have vals := txt_vals el
  refine Calls.call_function_entry kind_sorted plain_sorted entry_sorted (args_sorted1 _) ?_
  unfold Builtin.«sorted»
  refine wpAny_bind (m := checkCount "sorted" 1 1 _) (wpAny_pure ?_)
  refine wpAny_bind (collect_set (A := A.in1) hh ⟨_, ho, rfl, rfl⟩ fit (by rw [sz]; unfold scanBound; omega) r ld fun s1 vs k1 hz g1 o1 pm => ?_)
  have hv : ∀ v ∈ vs, ∃ (x : Str) (t : Tok), v = .str x t := fun v hv => by
    obtain ⟨e, he, q⟩ := List.mem_map.mp (pm.mem_iff.mp hv)
    obtain ⟨x, t, z⟩ := vals e he
    exact ⟨x, t, by rw [← q, z]⟩
  have hS := strsAre_txt hv
  have hlen : vs.length = l.length := by rw [pm.length_eq, List.length_map, Array.length_toList, sz]
  -- the texts of the set's entries are l, in some order
  have pl : (vs.map txtOf).Perm l := by
    have p1 : (vs.map txtOf).Perm ((es.toList.map (·.2)).map txtOf) := pm.map txtOf
    have mem : ∀ x, x ∈ (es.toList.map (·.2)).map txtOf ↔ x ∈ l := fun x => by
      rw [F.mem x, List.map_map, List.mem_map]
      constructor
      · rintro ⟨e, he, q⟩
        obtain ⟨y, t, z⟩ := vals e he
        refine ⟨e, he, ?_⟩
        have : y = x := by
          have q' : txtOf e.2 = x := q
          rw [z] at q'
          exact q'
        rw [z, this]
        exact Froz.is_str x t
      · rintro ⟨e, he, q⟩
        obtain ⟨t, z⟩ := Value.isStrOf_shape (x := x) (v := e.2) q
        exact ⟨e, he, by show txtOf e.2 = x; rw [z]; rfl⟩
    have len : ((es.toList.map (·.2)).map txtOf).length = l.length := by rw [List.length_map, List.length_map, Array.length_toList, sz]
    refine p1.trans ?_
    exact perm_len l _ nd (fun x hx => (mem x).mpr hx) (Nat.le_of_eq len)
  refine wpAny_bind (wpAny_newList ?_ (by rw [hlen, sizeLine_eq]; omega))
  have hoL : (s1.heap.push (seqObj "list" vs.toArray 0)).get? s1.heap.objs.size = some (seqObj "list" vs.toArray 0) := Heap.get?_push_size _ rfl
  show wpAny _ _ _ _ _ { s1 with heap := s1.heap.push (seqObj "list" vs.toArray 0) }
  refine wpAny_bind (wpAny_holding (wpAny_call_entry slot_list_sort ⟨_, hoL, rfl⟩ entry_list_sort
    (list_sort_treeK strKind_oneLt (s := { s1 with heap := s1.heap.push (seqObj "list" vs.toArray 0) }) hoL hS.keysOf (fun v1 v2 rest e => keyKind_strs (by rw [← e]; exact hS)) (by rw [hlen]; exact few) fun st' hp hs => ⟨_, rfl, ?_⟩)
    (args_list_sort _)))
  obtain ⟨ys, b1, b2, b3⟩ := sorted_out_str hS hp hs
  obtain ⟨c, hc⟩ := sortedHeap_at (vs := vs) (out := (arrOf st').map (·.2)) hoL
  refine wpAny_pure ⟨_, rfl, hQ _ s1.heap.objs.size ((arrOf st').map (·.2)).toList c ys (fun b u e => ?_) g1 o1 hz (by rw [Array.toArray_toList]; exact hc) b1 (b2.trans pl) b3⟩
  have q := k1 b u e
  have hlt := Heap.lt_size q
  show (sortedHeap (s1.heap.push (seqObj "list" vs.toArray 0)) s1.heap.objs.size vs ((arrOf st').map (·.2))).get? b = some u
  rw [sortedHeap_old (Nat.ne_of_lt hlt) (by rw [size_push']; exact Nat.lt_succ_of_lt hlt)]
  exact Heap.get?_push_of_some _ q
end

/-! ### over the abstract heap -/
def TxO (P : Program) (w : World) (a : Addr) (l : List Str) : HO := .ext fun h => TxSet P w h a l
section
variable {X : Cx}
theorem txO_ok {P : Program} {w : World} {H : Hp} {h : Heap} {a : Addr} {l : List Str} (T : TxSet P w h a l) : ObjOk P w H h a (TxO P w a l) := by
  have ⟨D, e, _⟩ := T
  exact ⟨T, ⟨_, e⟩, fun h1 h2 p k => TxSet.same p k⟩
def rSetTx (K : PySem.W.Frag) (P : Program) (w : World) : List V → Hp → VK → Prop := fun vs H Q => ∃ (p : Addr) (xs : List Str), vs = [V.ref p] ∧ (SqL K H p (xs.map V.str) ∨ SqT K H p (xs.map V.str)) ∧ xs.length < 1000 ∧
  ∀ a l, (∀ x, x ∈ l ↔ x ∈ xs) → l.Nodup → l.length ≤ xs.length → H a = none → Q (.ref a) (upd H a (TxO P w a l))
theorem cr_setTx (hc : X.calm = true) : CallR X (.type "set") (rSetTx X.K X.prog X.w) := by
  intro pins s σ H vs us Q I r h
  obtain ⟨p, xs, rfl, hq, few, q⟩ := h
  rw [Vals.ref1 r]
  have fin : ∀ T, TxSrc X.prog X.w T p xs s.heap → wpAny (model X.prog X.w) X.A (call (.type "set") [.ref p]) (EP X pins σ Q) X.xe s := fun T S => by
    refine make_txt (I.ok.hd hc) S (by unfold scanBound; omega) fun h' tk l' T' m len k => ?_
    have nd : l'.Nodup := let ⟨_, _, _, nd, _⟩ := T'; nd
    exact ⟨.ref s.heap.objs.size, upd H s.heap.objs.size (TxO X.prog X.w s.heap.objs.size l'), I.laid (t' := tk) k (Nat.le_refl _) (txO_ok T'), rfl, q _ l' m nd len (I.hok.fresh (Nat.le_refl _))⟩
  rcases hq with hq | hq
  · obtain ⟨its, rv, pl, hz⟩ := I.list hq
    exact fin "list" (src_list pl.isList (by simpa using rv.strs))
  · obtain ⟨its, rv, pl, hz⟩ := I.tuple hq
    exact fin "tuple" (src_tuple pl (by simpa using rv.strs))
def rSortTx (P : Program) (w : World) : List V → Hp → VK → Prop := fun vs H Q => ∃ (a : Addr) (l : List Str), vs = [V.ref a] ∧ H a = some (TxO P w a l) ∧ l.length < 64 ∧
  ∀ (ys : List Str) (p : Addr), ys.Perm l → sortedS ys = true → H p = none → Q (.ref p) (upd H p (.lst (ys.map V.str)))
theorem cr_sortTx (hc : X.calm = true) : CallR X (.builtin "sorted") (rSortTx X.prog X.w) := by
  intro pins s σ H vs us Q I r h
  obtain ⟨a, l, rfl, ha, few, q⟩ := h
  rw [Vals.ref1 r]
  have T : TxSet X.prog X.w s.heap a l := (I.hok a _ ha).1
  refine sort_txt (I.ok.hd hc) T few fun s' p out c ys k g o hp hg hS pm so => ?_
  have hn : H p = none := I.hok.fresh hp
  have hlen : (ys.map V.str).length ≤ sizeLine := by rw [List.length_map, pm.length_eq, sizeLine_eq]; omega
  obtain ⟨h', g', d', tk', os'⟩ := s'
  obtain rfl : os' = s.os := o
  refine ⟨.ref p, upd H p (.lst (ys.map V.str)), I.call (h' := h') (g' := g') (d' := d') (t' := tk') (ch := []) (Un.laid k hp hn) (I.hok.laid k hp ⟨hlen, out, c, vals_of_strs hS, hg⟩) ?_ (fun _ z => nomatch z), rfl, q ys p pm so hn⟩
  obtain rfl : g' = s.gens := g
  exact I.bare
def rLenTx (P : Program) (w : World) : List V → Hp → VK → Prop := fun vs H Q => ∃ (a : Addr) (l : List Str), vs = [V.ref a] ∧ H a = some (TxO P w a l) ∧ l.length < 1000 ∧ Q (.int l.length) H
theorem cr_lenTx : CallR X (.builtin "len") (rLenTx X.prog X.w) := by
  intro pins s σ H vs us Q I r h
  obtain ⟨a, l, rfl, ha, few, q⟩ := h
  rw [Vals.ref1 r]
  have T : TxSet X.prog X.w s.heap a l := (I.hok a _ ha).1
  obtain ⟨⟨es, ep, t⟩, ho, F, nd, rs, ld⟩ := T
  have sz : es.size = l.length := F.sz
  refine call_len_set ho ⟨rfl, rfl, rfl⟩ rfl F.fit (by rw [sz]; omega) ⟨.int l.length, H, I.tok _, ⟨_, by rw [sz]⟩, q⟩
end

end Ys
namespace Ys
open PySem PySem.Spec PyProof.Rows L2
/-! ### data, dicts too -/
def kD : Key → PyData
  | .inl i => .int i
  | .inr x => .str x
mutual
inductive Dt (K : PySem.W.Frag) (H : Hp) : V → PyData → Prop
  | non : Dt K H .non .none
  | bl (b : Bool) : Dt K H (.bl b) (.bool b)
  | int (i : Int) : Dt K H (.int i) (.int i)
  | str (x : Str) : Dt K H (.str x) (.str x)
  | lst {a : Addr} {xs : List V} {ds : List PyData} : SqL K H a xs → Dts K H xs ds → Dt K H (.ref a) (.list ds)
  | tup {a : Addr} {xs : List V} {ds : List PyData} : SqT K H a xs → Dts K H xs ds → Dt K H (.ref a) (.tuple ds)
  | dct {a : Addr} {kvs : List (Key × V)} {ds : List (PyData × PyData)} : Rd H a (.dK kvs) → ds.map (·.1) = kvs.map (fun p => kD p.1) → Dts K H (kvs.map (·.2)) (ds.map (·.2)) → Dt K H (.ref a) (.dict ds)
inductive Dts (K : PySem.W.Frag) (H : Hp) : List V → List PyData → Prop
  | nil : Dts K H [] []
  | cons {v : V} {vs : List V} {d : PyData} {ds : List PyData} : Dt K H v d → Dts K H vs ds → Dts K H (v :: vs) (d :: ds)
end
section
variable {X : Cx} {pins : List (Addr × Obj)} {σ : L2.St} {H : Hp} {s : Shared}
def SysIn (K : PySem.W.Frag) : Prop := ∃ o, K.lookup sysModules = some o ∧ o.cls = .type "dict"
theorem sys_ne (I : Inv X pins σ H s) (S : SysIn X.K) {a : Addr} {u : HO} (h : Rd H a u) : a ≠ sysModules := by
  rintro rfl
  obtain ⟨o, e, _⟩ := S
  have n := (I.bs _ _ (I.mod.kin _ _ e)).2
  rcases h with h | ⟨_, h⟩
  · rw [n] at h; cases h
  · rw [n] at h; cases h
theorem sys_neL (I : Inv X pins σ H s) (S : SysIn X.K) {a : Addr} {xs : List V} (h : SqL X.K H a xs) : a ≠ sysModules := by
  rcases h with h | ⟨o, its, n, hk, hc, _⟩
  · exact sys_ne I S h
  · rintro rfl
    obtain ⟨o', e, c⟩ := S
    rw [hk] at e
    cases e
    rw [hc] at c
    exact absurd c (by decide)
theorem kD_reads {h : Heap} {k : Key} {v : Value} (e : keyIs k v = true) : Reads h v (kD k) [] := by
  rcases keyIs_shape e with ⟨i, t, rfl, rfl⟩ | ⟨x, t, rfl, rfl⟩
  · exact .int i t
  · exact .str x t
theorem keys_reads {h : Heap} : ∀ {es : List DictEntry} {kvs : List (Key × Value)} {ks : List PyData}, Pairs (mixKind X.prog X.w) es kvs → ks = kvs.map (fun p => kD p.1) → ReadsAll h (es.map (·.key)) ks []
  | _, _, _, .nil, e => by subst e; exact .nil
  | _, _, _, .cons a b r, e => by
    subst e
    exact .cons (kD_reads a) (keys_reads r rfl)
theorem pairs_vals : ∀ {es : List DictEntry} {kvs : List (Key × Value)}, Pairs (mixKind X.prog X.w) es kvs → es.map (·.val) = kvs.map (·.2)
  | _, _, .nil => rfl
  | _, _, .cons a b r => by rw [List.map_cons, List.map_cons, b, pairs_vals r]
theorem kv_vals : ∀ {kvs : List (Key × V)} {vs : List (Key × Value)}, KV kvs vs → Vals (kvs.map (·.2)) (vs.map (·.2))
  | _, _, .nil => .nil
  | _, _, .cons r t => .cons r.2 (kv_vals t)
theorem kv_keys : ∀ {kvs : List (Key × V)} {vs : List (Key × Value)}, KV kvs vs → kvs.map (fun p => kD p.1) = vs.map (fun p => kD p.1)
  | _, _, .nil => rfl
  | _, _, .cons r t => by rw [List.map_cons, List.map_cons, r.1, kv_keys t]
theorem size_snd : ∀ ds : List (PyData × PyData), sizeOf (ds.map (·.2)) ≤ sizeOf ds
  | [] => Nat.le_refl _
  | (k, v) :: ds => by
    have ih := size_snd ds
    simp only [List.map_cons, List.cons.sizeOf_spec, Prod.mk.sizeOf_spec]
    omega
mutual
theorem Dt.reads (I : Inv X pins σ H s) (S : SysIn X.K) : ∀ (d : PyData) (v : V) (u : Value), Dt X.K H v d → RelV v u → ∃ as, Reads s.heap u d as ∧ sysModules ∉ as
  | .none, _, _, h, r => by
    cases h
    cases r
    exact ⟨_, .none, by simp⟩
  | .bool b, _, _, h, r => by
    cases h
    cases r
    exact ⟨_, .bool b, by simp⟩
  | .int i, _, _, h, r => by
    cases h
    obtain ⟨t, rfl⟩ := r
    exact ⟨_, .int i t, by simp⟩
  | .str x, _, _, h, r => by
    cases h
    obtain ⟨t, rfl⟩ := r
    exact ⟨_, .str x t, by simp⟩
  | .list ds, _, _, h, r => by
    cases h with
    | lst hs ha =>
      cases r
      have ne := sys_neL I S hs
      obtain ⟨its, rv, ⟨o, n, ho, hc, _, hd⟩, _⟩ := I.list hs
      obtain ⟨as, hr, na⟩ := Dts.reads I S ds _ its ha rv
      exact ⟨_, .list ho hc hd hr, fun z => (List.mem_cons.mp z).elim (fun e => ne e.symm) na⟩
  | .tuple ds, _, _, h, r => by
    cases h with
    | tup hs ha =>
      cases r
      obtain ⟨its, rv, ⟨o, ho, hc, n, hd⟩, _⟩ := I.tuple hs
      obtain ⟨as, hr, na⟩ := Dts.reads I S ds _ its ha rv
      exact ⟨_, .tuple ho hc hd hr, na⟩
  | .dict ds, _, _, h, r => by
    cases h with
    | dct hs hk ha =>
      cases r
      have ne := sys_ne I S hs
      obtain ⟨_, _, vs, rel, o, es, ep, ho, hx, hd, _, hp, _⟩ := dk_rd I.hok hs
      obtain ⟨as, hr, na⟩ := Dts.reads I S (ds.map (·.2)) _ (vs.map (·.2)) ha (kv_vals rel)
      refine ⟨_, .dict ho hx.1 hd (keys_reads hp (hk.trans (kv_keys rel))) (by rw [pairs_vals hp]; exact hr), fun z => ?_⟩
      exact (List.mem_append.mp z).elim (fun e => ne (List.mem_singleton.mp e).symm) na
termination_by d => sizeOf d
decreasing_by
  · simp only [PyData.list.sizeOf_spec]; omega
  · simp only [PyData.tuple.sizeOf_spec]; omega
  · have := size_snd ds
    simp only [PyData.dict.sizeOf_spec]; omega
theorem Dts.reads (I : Inv X pins σ H s) (S : SysIn X.K) : ∀ (ds : List PyData) (vs : List V) (us : List Value), Dts X.K H vs ds → Vals vs us → ∃ as, ReadsAll s.heap us ds as ∧ sysModules ∉ as
  | [], _, _, h, r => by
    cases h
    cases r
    exact ⟨_, .nil, by simp⟩
  | d :: ds, _, _, h, r => by
    cases h with
    | cons h1 h2 =>
      cases r with
      | cons r1 r2 =>
        obtain ⟨as, q1, n1⟩ := Dt.reads I S d _ _ h1 r1
        obtain ⟨bs, q2, n2⟩ := Dts.reads I S ds _ _ h2 r2
        exact ⟨_, .cons q1 q2, fun z => (List.mem_append.mp z).elim n1 n2⟩
termination_by ds => sizeOf ds
decreasing_by
  · simp only [List.cons.sizeOf_spec]; omega
  · simp only [List.cons.sizeOf_spec]; omega
end
/-! data without dicts -/
mutual
theorem Dt.dp {K : PySem.W.Frag} : ∀ (d : PyData) (v : V), d.canLay0 = true → Dt K H v d → Dp K H v d
  | .none, _, _, h => by cases h; exact .non
  | .bool b, _, _, h => by cases h; exact .bl b
  | .int i, _, _, h => by cases h; exact .int i
  | .str x, _, _, h => by cases h; exact .str x
  | .list ds, _, c, h => by
    cases h with
    | lst hs ha => exact .lst hs (Dts.dp ds _ (by simpa only [PyData.canLay0] using c) ha)
  | .tuple ds, _, c, h => by
    cases h with
    | tup hs ha => exact .tup hs (Dts.dp ds _ (by simpa only [PyData.canLay0] using c) ha)
  | .dict _, _, c, _ => by simp [PyData.canLay0] at c
theorem Dts.dp {K : PySem.W.Frag} : ∀ (ds : List PyData) (vs : List V), PyData.canLayAll0 ds = true → Dts K H vs ds → DpAll K H vs ds
  | [], _, _, h => by cases h; exact .nil
  | d :: ds, _, c, h => by
    cases h with
    | cons h1 h2 =>
      have c' : (d.canLay0 && PyData.canLayAll0 ds) = true := by simpa only [PyData.canLayAll0] using c
      obtain ⟨c1, c2⟩ := Bool.and_eq_true_iff.mp c'
      exact .cons (Dt.dp d _ c1 h1) (Dts.dp ds _ c2 h2)
end
end

/-! ### repr -/
section
variable {X : Cx}
def rRepr (K : PySem.W.Frag) : List V → Hp → VK → Prop := fun vs H Q => ∃ (x : V) (d : PyData), vs = [x] ∧ Dt K H x d ∧ d.showable = true ∧ d.depth ≤ 60 ∧ d.shown.length ≤ sizeLine ∧ Q (.str d.shown) H
theorem cr_repr (hg : X.A.guards = some []) (S : SysIn X.K) (hu : X.A.units + 64 < cLine) : CallR X (.builtin "repr") (rRepr X.K) := by
  intro pins s σ H vs us Q I r h
  obtain ⟨x, d, rfl, hd, sh, dp, sz, q⟩ := h
  obtain ⟨u, rfl, rx⟩ := vals1 r
  obtain ⟨as, hr, na⟩ := Dt.reads I S d x u hd rx
  cases x with
  | non =>
    cases rx; cases hd
    simp only [PyData.shown] at q
    exact PySem.P.repr_of_none ⟨.str _, H, I.tok _, ⟨_, rfl⟩, q⟩
  | bl b =>
    cases rx; cases hd
    simp only [PyData.shown] at q
    exact PySem.P.repr_of_bool ⟨.str _, H, I.tok _, ⟨_, rfl⟩, q⟩
  | int i =>
    obtain ⟨t, rfl⟩ := rx; cases hd
    simp only [PyData.shown] at q
    have hz : i.natAbs.log2 < 1920 := by simpa [PyData.showable] using sh
    exact PySem.P.repr_of_int hz ⟨.str _, H, I.tok _, ⟨_, rfl⟩, q⟩
  | str z =>
    obtain ⟨t, rfl⟩ := rx; cases hd
    simp only [PyData.shown] at q sz
    exact PySem.P.repr_of_str ⟨.str _, H, I.tok _, ⟨_, rfl⟩, q⟩ sz
  | byt _ => cases hd
  | flt _ => cases hd
  | ty _ => cases hd
  | ref a =>
    cases rx
    refine repr_of_reads' hr sh (fun _ => na) hg (by omega) (fun _ _ e => e) (fun h' u tk k => ?_) sz
    exact ⟨.str _, H, I.kept (t' := tk) k, ⟨_, rfl⟩, q⟩
end

/-! ### a def that is told that nothing is being shown -/
structure FnG (P : Program) (w : World) (K : PySem.W.Frag) (mg : Str → Option Value) (base : Heap) (CX : CXT) (k : Nat) (f : Addr) (fd : FuncData) (ps : List Str) (sp : Sp) : Prop where
  len : ∀ vs H Q E, sp vs H Q E → vs.length = ps.length
  run : ∀ (A : Around) (outer : List Env) (s : Shared) (H : Hp) (args : Args) (us : List Value) (vs : List V) (Q : VK) (E : XK), A.guards = some [] → Room k A → Env0 P w K mg base A outer s H → BindsTo s fd args (ps.zip us) → Vals vs us → sp vs H Q E →
    codeAny (model P w) A (.call (.ref f) args) (CR CX outer P w H s Q E) s
theorem FnOk.g {P : Program} {w : World} {K : PySem.W.Frag} {mg : Str → Option Value} {base : Heap} {CX : CXT} {k : Nat} {f : Addr} {fd : FuncData} {ps : List Str} {sp : Sp} (F : FnOk P w K mg base CX k f fd ps sp) : FnG P w K mg base CX k f fd ps sp :=
  ⟨F.len, fun A outer s H args us vs Q E _ => F.run A outer s H args us vs Q E⟩
end Ys
namespace Ys
open PySem PySem.Spec PyProof.Rows L2
section
variable {P : Program} {w : World} {K : PySem.W.Frag} {mg : Str → Option Value} {base : Heap} {x qual : Str} {params : Arguments} {body : List Stmt} {scope : Scope} {dvs : List V} {kws : List (Str × V)} {f : Addr} {fd : FuncData}
theorem okG {CX : CXT} {N ps : List Str} {k : Nat} {sp : Sp} (F : FunD K x qual params body scope dvs kws f fd) (S : FnScope N ps scope) (len : ∀ vs H Q E, sp vs H Q E → vs.length = ps.length)
    (hb : ∀ (cdv : Value) (A : Around) (outer : List Env) (s : Shared) (H : Hp) (vs : List V) (Q : VK) (E : XK), A.guards = some [] → Room k (A.deeper (envOfC qual scope s.heap.objs.size f cdv)) → sp vs H Q E →
      ∃ t, PSs (cxOf CX P w K mg base N qual scope f cdv A outer s H E) body t ∧ t { nx := fun _ H' => Q .non H', rt := Q } (start N vs) H) : FnG P w K mg base CX (k + 1) f fd ps sp := by
  obtain ⟨oc, od, dV, kV, doc, pm, an, cdv, ct, osl, rfl, lk, hcd, _, _⟩ := F.ex
  refine ⟨len, fun A outer s H args us vs Q E hg hr e0 hbd r hsp => ?_⟩
  have KX : K.In s.heap := e0.mod.kin.keeps fun b o e => (e0.bs b o e).1
  have lim : s.heap.NoLimit := e0.mod.nolimit.keeps fun b o e => (e0.bs b o e).1
  refine codeAny_call_function hr.depth (KX _ _ lk) rfl S.co S.gen rfl (PySem.W.codeRec_of KX hcd) (hbd _ _ _ _ (wpAny_newFunctionEnv_cells S.kind (fun y hy => ?_) fun env he s1 z => ?_))
  · rcases S.par y.1 (List.of_mem_zip (show (y.1, y.2) ∈ ps.zip us from hy)).1 with q | q
    · exact .inl q
    · exact .inr ⟨q, PySem.W.cellsFrom_some _ _ _ (.inl q)⟩
  · subst he
    refine ⟨lim.keeps z.toInCall.keep, codeAny_func ?_⟩
    obtain ⟨t, ht, hq⟩ := hb cdv A outer s H vs Q E hg (hr.deeper _) hsp
    have I : Inv (cxOf CX P w K mg base N qual scope f cdv A outer s H E) [] (start N vs) H s1 := inv_start S hr.hd e0 (len _ _ _ _ hsp) r z
    refine wpAny_mono (ht.run [] s1 (start N vs) H _ I hq) (fun fl s' hs => ?_) fun e s' hs => hs
    cases fl with
    | ret u => exact let ⟨v, σ', H', J, rv, q⟩ := hs; ⟨v, H', J.os, J.bare, J.base, J.hok, rv, q⟩
    | next => exact let ⟨σ', H', J, q⟩ := hs; ⟨.non, H', J.os, J.bare, J.base, J.hok, rfl, q⟩
    | brk => exact let ⟨_, _, _, q⟩ := hs; q.elim
    | cont => exact let ⟨_, _, _, q⟩ := hs; q.elim
end

theorem law_callG {P : Program} {w : World} {K : PySem.W.Frag} {mg mb : Str → Option Value} {CX : CXT} {k : Nat} {fa a : Addr} {fd : FuncData} {x : Str} {sp : Sp} {s1 : Shared} {vs : List Value} {ns : List Int}
    (KX : K.In s1.heap) (hns : s1.heap.Ns mainGlobals mg) (hb : s1.heap.Ns builtinsNs mb) (hbb : ∀ x : Str, x ≠ "__name__" → mb x = bootBuiltins x) (hlim : s1.heap.NoLimit) (hg : s1.gens = #[])
    (ha : s1.heap.get? a = some { cls := .type "list", data := .seq vs.toArray }) (hi : IntsAre vs ns) (hl : ns.length ≤ sizeLine) (hr : Room k callerA)
    (F : ∀ base : Heap, K.In base → base.Ns mainGlobals mg → FnG P w K mg base CX k fa fd [x] sp) (hbind : ∀ (s : Shared) (u : Value), BindsTo s fd ⟨[u], []⟩ [(x, u)])
    (hsp : ∀ H : Hp, Only H → SqL K H a (ns.map V.int) → sp [.ref a] H (fun v _ => v = .bl true) fun _ _ _ => False) (hCX : ∀ H e s', CX [] H s1 (fun _ _ _ => False) e s' → False) :
    codeAny (model P w) callerA (.call (.ref fa) ⟨[.ref a], []⟩) (fun r s' => r = .ok (.ret (.bool true)) ∧ OldK s1.heap s'.heap ∧ s'.os = s1.os ∧ AllBare s'.gens) s1 := by
  have rv := vals_ints hi
  have len := hi.length
  -- what is tracked: the script, where the written part does not hold it
  obtain ⟨H, hO, hS, hok, hA, hK⟩ : ∃ H : Hp, Only H ∧ SqL K H a (ns.map V.int) ∧ HOk P w H s1.heap ∧ (∀ b u, H b = some u → b = a) ∧ (∀ u, H a = some u → K.lookup a = none) := by
    cases hk : K.lookup a with
    | some o =>
      have e := KX a o hk
      rw [ha] at e
      cases e
      exact ⟨fun _ => none, fun _ => .inl rfl, .inr ⟨_, vs.toArray, _, hk, rfl, rfl, rfl, by rw [List.size_toArray, len]; exact hl, by simpa using rv⟩, (fun b u (z : (none : Option HO) = some u) => by cases z), (fun b u (z : (none : Option HO) = some u) => by cases z), (fun u (z : (none : Option HO) = some u) => by cases z)⟩
    | none =>
      have at_ : ∀ b u, (if b = a then some (HO.frz { cls := .type "list", data := .seq vs.toArray } (.lst (ns.map V.int))) else none) = some u → b = a ∧ u = .frz { cls := .type "list", data := .seq vs.toArray } (.lst (ns.map V.int)) := fun b u z => by
        by_cases c : b = a
        · rw [if_pos c] at z
          exact ⟨c, (Option.some.inj z).symm⟩
        · rw [if_neg c] at z
          cases z
      refine ⟨fun b => if b = a then some (.frz { cls := .type "list", data := .seq vs.toArray } (.lst (ns.map V.int))) else none, fun b => ?_, .inl (.inr ⟨_, if_pos rfl⟩), fun b u z => ?_, fun b u z => (at_ b u z).1, fun _ _ => rfl⟩
      · by_cases c : b = a
        · exact .inr ⟨_, _, if_pos c⟩
        · exact .inl (if_neg c)
      · obtain ⟨rfl, rfl⟩ := at_ b u z
        exact ⟨ha, by rw [List.length_map]; exact hl, vs, _, rv, ha⟩
  have free : ∀ {b : Addr} {o : Obj} {es : Array DictEntry} {ep : Nat}, s1.heap.get? b = some o → o.data = .dict es ep → H b = none := fun {b o es ep} e d => by
    cases q : H b with
    | none => rfl
    | some u =>
      obtain rfl := hA b u q
      rw [ha] at e
      cases e
      exact nomatch (show Data.seq vs.toArray _ = Data.dict es ep from d)
  have ns_ : ∀ {b : Addr} {m : Str → Option Value}, s1.heap.Ns b m → (hidT s1.heap H).Ns b m := fun {b m} ⟨o, es, ep, e, d, r⟩ => ⟨o, es, ep, hidT_get e (free e d), d, r⟩
  have kb : K.In (hidT s1.heap H) := fun b o e => hidT_get (KX b o e) (by
    cases q : H b with
    | none => rfl
    | some u =>
      obtain rfl := hA b u q
      rw [hK u q] at e
      cases e)
  have md : Mod K mg (hidT s1.heap H) := ⟨kb, ns_ hns, ⟨mb, ns_ hb, hbb⟩, let ⟨mc, h1, h2⟩ := hlim; ⟨mc, ns_ h1, h2⟩⟩
  have e0 : Env0 P w K mg (hidT s1.heap H) callerA [] s1 H := ⟨rfl, md, fun b o e => of_hidT e, Nat.le_of_eq (hidT_size _ _), trivial, fun b hb => absurd (show b ∈ ([] : List Addr) from hb) (by simp), hok, .of_eq hg⟩
  refine codeAny_mono ((F _ kb (ns_ hns)).run callerA [] s1 H ⟨[.ref a], []⟩ [.ref a] [.ref a] _ _ rfl hr e0 (hbind s1 (.ref a)) (.cons rfl .nil) (hsp H hO hS)) fun r s' h => ?_
  cases r with
  | error e => exact (hCX H e s' h).elim
  | ok fl =>
    cases fl with
    | next => exact False.elim h
    | brk => exact False.elim h
    | cont => exact False.elim h
    | ret u =>
      obtain ⟨v, H', os, bare, un, hok', r', q⟩ := h
      obtain rfl : v = .bl true := q
      obtain rfl : u = Value.bool true := r'
      refine ⟨rfl, OldK.of_keep fun b o e => ?_, os, bare⟩
      cases q : H b with
      | none => exact un.keep b o e q (fun z => absurd (show b ∈ ([] : List Addr) from z) (by simp)) (by simp)
      | some u =>
        rcases hO b with z | ⟨ob, xs, z⟩
        · rw [q] at z; cases z
        · obtain ⟨e1, _⟩ := hok b _ z
          obtain ⟨e2, _⟩ := hok' b _ (un.frzs b ob _ z)
          rw [e] at e1
          cases e1
          exact e2

theorem walk_ofG {l : PySem.W.OpenLaw} {n k : Nat} {q : Program} {loose : List Str} {XP : (Str → Option Value) → Heap → Prop} {YP : World → Heap → Prop} {d : DefRec} {CX : World → CXT} {x : Str}
    (hn : l.most = some n) (hn2 : n ≤ sizeLine) (hdf : d.params.defaults = []) (hr : Room k callerA)
    (F : ∀ (w : World) (mg : Str → Option Value) (fa : Addr) (h : Heap), YP w h → h.Ns mainGlobals mg → mg d.name = some (.ref fa) →
      ∃ (K : PySem.W.Frag) (fd : FuncData) (sp : Sp), K.In h ∧ (∀ (s : Shared) (u : Value), BindsTo s fd ⟨[u], []⟩ [(x, u)]) ∧
        (∀ (H : Hp) (a : Addr) (ns : List Int), ns.length ≤ n → Only H → SqL K H a (ns.map V.int) → sp [.ref a] H (fun v _ => v = .bl true) fun _ _ _ => False) ∧
        ∀ base : Heap, K.In base → base.Ns mainGlobals mg → FnG l.prog w K mg base (CX w) k fa fd [x] sp)
    (hCX : ∀ (w : World) (H : Hp) (s : Shared) (e : Value) (s' : Shared), CX w [] H s (fun _ _ _ => False) e s' → False) :
    PySem.W.WalkO q loose XP YP l.row.toRowW d [] (fun f vs => PySem.call f vs) := by
  refine Att.attach_call hn hdf fun w s0 s1 mg mb fa o pm cd doc a vs ns G Y ho hd hcd hmg hobj hints hlen hg => ?_
  obtain ⟨K, fd, sp, KX, hb, hsp, hF⟩ := F w mg fa _ Y G.T.g hmg
  exact law_callG KX G.T.g G.T.b G.T.builtins G.T.nolimit hg hobj hints (Nat.le_trans hlen hn2) hr hF hb (fun H hO hS => hsp H a ns hlen hO hS) fun H e s' => hCX w H s1 e s'

/-! ### the Hook: any look at the written part, which holds the table of modules too -/
def obsY (fb : PySem.W.Frag → Bool) (fn : List He.DefD) (K : PySem.W.Frag) : He.AlD := (fb K && fn.all fun d => d.ok K, fn.map fun d => He.fnW K d.at_)
def SaysY (fb : PySem.W.Frag → Bool) (fn : List He.DefD) (K : PySem.W.Frag) : Prop := obsY fb fn K = He.valD fn
def frY (n : Nat) (g : Addr → Option Obj) : PySem.W.Frag := He.frG g (sysModules :: He.asD g n)
def hookY (n : Nat) (fb : PySem.W.Frag → Bool) (fn : List He.DefD) : PySem.W.Hook where
  α := He.AlD
  obs := fun s => obsY fb fn (frY n s.heap.get?)
  val := fun _ => He.valD fn
  says := fun _ h => ∃ K : PySem.W.Frag, K.In h ∧ SaysY fb fn K
  of := fun _ _ e => ⟨_, He.frG_in, e⟩
  keeps := fun _ _ _ ⟨K, hK, c⟩ k => ⟨K, PySem.W.Frag.In.keeps hK k, c⟩
def obY (n : Nat) (fb : PySem.W.Frag → Bool) (fn : List He.DefD) (s : PySem.W.SharedT) : He.AlD := obsY fb fn (frY n (HandSHeadRun.getT s))
theorem obY_eq {n : Nat} {fb : PySem.W.Frag → Bool} {fn : List He.DefD} (s : PySem.W.SharedT) : obY n fb fn s = (hookY n fb fn).obs s.abs := by
  have e : HandSHeadRun.getT s = s.abs.heap.get? := funext (HandSHeadRun.getT_eq s)
  unfold obY
  rw [e]
  rfl
section
variable {fb : PySem.W.Frag → Bool} {fn : List He.DefD} {K : PySem.W.Frag}
theorem SaysY.look (c : SaysY fb fn K) : fb K = true := (He.ba (show (fb K && fn.all fun d => d.ok K) = true from congrArg (fun z : He.AlD => z.1) c)).1
theorem SaysY.def_ (c : SaysY fb fn K) (i : Nat) {d : He.DefD} (h : fn[i]? = some d := by rfl) : ∃ fd, FunD K d.name d.qual d.params d.body d.scope (d.dvs K) (d.kws K) (He.fAd K d.at_) fd := by
  have c2 := (He.ba (show (fb K && fn.all fun d => d.ok K) = true from congrArg (fun z : He.AlD => z.1) c)).2
  have e : (fn.map fun d => He.fnW K d.at_)[i]? = (fn.map He.DefD.val)[i]? := by rw [show fn.map (fun d => He.fnW K d.at_) = fn.map He.DefD.val from congrArg (fun z : He.AlD => z.2) c]
  rw [List.getElem?_map, List.getElem?_map, h] at e
  exact He.DefD.funD (Option.some.inj e) (List.all_eq_true.mp c2 d (List.mem_of_getElem? h))
theorem sysB_ok (h : sysB K = true) : SysIn K := by
  unfold sysB at h
  cases q : K.lookup sysModules with
  | none => rw [q] at h; cases h
  | some o =>
    rw [q] at h
    exact ⟨o, q, eq_of_beq h⟩
end
end Ys
namespace Ys
open PySem PySem.Spec PyProof.Rows L2
/-! ### the state: G is known and stays, M may change -/
structure Zp (G : Hp) (M : List (Addr × HO)) (H : Hp) : Prop where
  sub : ∀ a o, G a = some o → H a = some o
  own : ∀ (i : Nat) p o, M[i]? = some (p, o) → H p = some o ∧ G p = none
  nd : (M.map (·.1)).Nodup
section
variable {G G0 G1 H H1 : Hp} {M M1 : List (Addr × HO)} {p a : Addr} {o o1 : HO} {K : PySem.W.Frag} {v : V} {d : PyData} {xs vs : List V} {ds : List PyData}
theorem Zp.free (z : Zp G M H) (h : H p = none) : G p = none := by
  cases q : G p with
  | none => rfl
  | some o => rw [z.sub p o q] at h; cases h
theorem Zp.ne (z : Zp G M H) (h : H p = none) {i : Nat} {q : Addr} (e : M[i]? = some (q, o)) : q ≠ p := by
  rintro rfl
  rw [(z.own i q o e).1] at h
  cases h
theorem Same.new (h : G p = none) : Same G (upd G p o) := fun b u e => by
  rw [upd_ne (ne_of_none e h)]
  exact e
theorem Zp.new (z : Zp G M H) (h : H p = none) (o : HO) : Zp (upd G p o) M (upd H p o) where
  sub := fun a u e => by
    by_cases c : a = p
    · subst c
      rw [upd_same] at e ⊢
      exact e
    · rw [upd_ne c] at e ⊢
      exact z.sub a u e
  own := fun i q u e => by
    have ne := z.ne h e
    rw [upd_ne ne, upd_ne ne]
    exact z.own i q u e
  nd := z.nd
theorem Zp.add (z : Zp G M H) (h : H p = none) (o : HO) : Zp G (M ++ [(p, o)]) (upd H p o) where
  sub := fun a u e => by
    rw [upd_ne (ne_of_none (z.sub a u e) h)]
    exact z.sub a u e
  own := fun i q u e => by
    by_cases c : i < M.length
    · rw [List.getElem?_append_left c] at e
      rw [upd_ne (z.ne h e)]
      exact z.own i q u e
    · rw [List.getElem?_append_right (by omega)] at e
      have e0 : i - M.length = 0 := by
        cases n : i - M.length with
        | zero => rfl
        | succ k => rw [n] at e; simp at e
      rw [e0] at e
      obtain ⟨rfl, rfl⟩ : p = q ∧ o = u := by simpa using e
      exact ⟨upd_same, z.free h⟩
  nd := by
    rw [List.map_append, List.nodup_append]
    refine ⟨z.nd, by simp, fun x hx y hy => ?_⟩
    obtain ⟨⟨q, u⟩, hq, rfl⟩ := List.mem_map.mp hx
    obtain rfl : y = p := by simpa using hy
    obtain ⟨i, hi⟩ := List.getElem?_of_mem hq
    exact z.ne h hi
theorem Zp.at_ (z : Zp G M H) (i : Nat) (e : M[i]? = some (p, o)) : H p = some o := (z.own i p o e).1
theorem Zp.put (z : Zp G M H) (i : Nat) (e : M[i]? = some (p, o)) (o1 : HO) : Zp G (M.set i (p, o1)) (upd H p o1) where
  sub := fun a u q => by
    have n := (z.own i p o e).2
    rw [upd_ne (ne_of_none q n)]
    exact z.sub a u q
  own := fun j q u ej => by
    by_cases c : j = i
    · subst c
      rw [List.getElem?_set_self (List.getElem?_eq_some_iff.mp e).1] at ej
      obtain ⟨rfl, rfl⟩ : p = q ∧ o1 = u := by simpa using ej
      exact ⟨upd_same, (z.own j p o e).2⟩
    · rw [List.getElem?_set_ne (fun h => c h.symm)] at ej
      have ne : q ≠ p := by
        rintro rfl
        have hi := (List.getElem?_eq_some_iff.mp e).1
        have hj := (List.getElem?_eq_some_iff.mp ej).1
        have e1 : (M.map (·.1))[i]? = some q := by rw [List.getElem?_map, e]; rfl
        have e2 : (M.map (·.1))[j]? = some q := by rw [List.getElem?_map, ej]; rfl
        exact c ((List.getElem?_inj (by simpa using hj) z.nd).mp (e2.trans e1.symm))
      rw [upd_ne ne]
      exact z.own j q u ej
  nd := by
    have e1 : ((M.set i (p, o1)).map (·.1)) = M.map (·.1) := by
      rw [List.map_set]
      apply List.ext_getElem?
      intro j
      by_cases c : j = i
      · subst c
        have hi := (List.getElem?_eq_some_iff.mp e).1
        rw [List.getElem?_set_self (by simpa using hi), List.getElem?_map, e]
        rfl
      · rw [List.getElem?_set_ne (fun h => c h.symm)]
    rw [e1]
    exact z.nd
theorem Zp.fix (z : Zp G (M ++ [(p, o)]) H) : Zp (upd G p o) M H := by
  have e : (M ++ [(p, o)])[M.length]? = some (p, o) := by simp
  obtain ⟨h1, h2⟩ := z.own _ p o e
  have nd := z.nd
  rw [List.map_append, List.nodup_append] at nd
  refine ⟨fun a u q => ?_, fun i q u ei => ?_, nd.1⟩
  · by_cases c : a = p
    · subst c
      rw [upd_same] at q
      rw [h1]
      exact q
    · rw [upd_ne c] at q
      exact z.sub a u q
  · have hi := (List.getElem?_eq_some_iff.mp ei).1
    have ne : q ≠ p := by
      have := nd.2.2 q (List.mem_map.mpr ⟨(q, u), List.mem_of_getElem? ei, rfl⟩) p (by simp)
      exact this
    rw [upd_ne ne]
    exact z.own i q u (by rw [List.getElem?_append_left hi]; exact ei)
theorem Zp.cut (z : Zp G (M ++ M1) H) : Zp G M H where
  sub := z.sub
  own := fun i q u e => z.own i q u (by rw [List.getElem?_append_left (List.getElem?_eq_some_iff.mp e).1]; exact e)
  nd := by
    have nd := z.nd
    rw [List.map_append, List.nodup_append] at nd
    exact nd.1
theorem Zp.seqL (z : Zp G M H) (h : SqL K G a xs) : SqL K H a xs := by
  rcases h with (h | ⟨o, h⟩) | h
  · exact .inl (.inl (z.sub _ _ h))
  · exact .inl (.inr ⟨o, z.sub _ _ h⟩)
  · exact .inr h
theorem Zp.seqT (z : Zp G M H) (h : SqT K G a xs) : SqT K H a xs := by
  rcases h with (h | ⟨o, h⟩) | h
  · exact .inl (.inl (z.sub _ _ h))
  · exact .inl (.inr ⟨o, z.sub _ _ h⟩)
  · exact .inr h
theorem upL (s : Same G G1) (h : SqL K G a xs) : SqL K G1 a xs := s.seq h
theorem upT (s : Same G G1) (h : SqT K G a xs) : SqT K G1 a xs := by
  rcases h with (h | ⟨o, h⟩) | h
  · exact .inl (.inl (s _ _ h))
  · exact .inl (.inr ⟨o, s _ _ h⟩)
  · exact .inr h
theorem upR (s : Same G G1) (h : Rd G a o) : Rd G1 a o := by
  rcases h with h | ⟨o, h⟩
  · exact .inl (s _ _ h)
  · exact .inr ⟨o, s _ _ h⟩
end
mutual
theorem Dt.up {K : PySem.W.Frag} {G G1 : Hp} (s : Same G G1) : ∀ {v : V} {d : PyData}, Dt K G v d → Dt K G1 v d
  | _, _, .non => .non
  | _, _, .bl b => .bl b
  | _, _, .int i => .int i
  | _, _, .str x => .str x
  | _, _, .lst h a => .lst (upL s h) (Dts.up s a)
  | _, _, .tup h a => .tup (upT s h) (Dts.up s a)
  | _, _, .dct h k a => .dct (upR s h) k (Dts.up s a)
theorem Dts.up {K : PySem.W.Frag} {G G1 : Hp} (s : Same G G1) : ∀ {v : List V} {d : List PyData}, Dts K G v d → Dts K G1 v d
  | _, _, .nil => .nil
  | _, _, .cons h a => .cons (Dt.up s h) (Dts.up s a)
end
theorem Zp.dt {K : PySem.W.Frag} {G H : Hp} {M : List (Addr × HO)} {v : V} {d : PyData} (z : Zp G M H) (h : Dt K G v d) : Dt K H v d := h.up z.sub
end Ys
namespace Ys
open PySem PySem.Spec PyProof.Rows L2
/-! ### operators over any values -/
section
variable {X : Cx}
def rCatL (K : PySem.W.Frag) : R2 := fun x y H Q => ∃ l b xs zs, x = .ref l ∧ y = .ref b ∧ H l = some (.lst xs) ∧ H b = some (.lst zs) ∧ xs.length + zs.length ≤ sizeLine ∧ ∀ p, H p = none → Q (.ref p) (upd H p (.lst (xs ++ zs)))
def rStr2 : R2 := fun x y H Q => ∃ i j, x = .str i ∧ y = .str j ∧ i.length + j.length ≤ sizeLine ∧ Q (.str (i ++ j)) H
def rAddG (K : PySem.W.Frag) : R2 := fun x y H Q => rI0 (fun i j => .int (i + j)) x y H Q ∨ rStr2 x y H Q ∨ rCat x y H Q ∨ rCatA K x y H Q
theorem op_addG : OpR X (binaryOp .Add) (rAddG X.K) := op_add.or ((show OpR X (binaryOp .Add) rStr2 from op_add_str).or (op_cat.or op_catA))
def rEqLen (K : PySem.W.Frag) (r : Bool) : R2 := fun x y H Q => ∃ a b xs ys, x = V.ref a ∧ y = V.ref b ∧ SqL K H a xs ∧ SqL K H b ys ∧ xs.length ≠ ys.length ∧ Q (.bl r) H
theorem isl {X : Cx} {pins : List (Addr × Obj)} {σ : L2.St} {H : Hp} {s : Shared} {a : Addr} {xs : List V} (I : Inv X pins σ H s) (h : SqL X.K H a xs) : ∃ its : List Value, its.length = xs.length ∧ s.heap.IsList a its.toArray := by
  obtain ⟨its, rv, ⟨o, n, ho, hc, hx, hd⟩, _⟩ := I.list h
  exact ⟨its, rv.length.symm, o, ho, hc, n, hd⟩
theorem op_eqLen (hu : X.A.units + 64 < cLine) : OpR X (compareOp .Eq) (rEqLen X.K false) := by
  intro pins s σ H x y v u Q I rx ry ⟨a, b, xs, ys, e1, e2, h1, h2, hne, q⟩
  subst e1 e2
  cases rx
  cases ry
  obtain ⟨i1, l1, j1⟩ := isl I h1
  obtain ⟨i2, l2, j2⟩ := isl I h2
  exact PySem.SeqAt.RcAt.lists_lengths j1 j2 (by rw [List.size_toArray, List.size_toArray, l1, l2]; exact bne_iff_ne.mpr hne) (by omega) X.prog X.w X.xe _ ⟨.bl false, H, I, rfl, q⟩
theorem op_neLen (hu : X.A.units + 64 < cLine) : OpR X (compareOp .NotEq) (rEqLen X.K true) := by
  intro pins s σ H x y v u Q I rx ry ⟨a, b, xs, ys, e1, e2, h1, h2, hne, q⟩
  subst e1 e2
  cases rx
  cases ry
  obtain ⟨i1, l1, j1⟩ := isl I h1
  obtain ⟨i2, l2, j2⟩ := isl I h2
  exact PySem.SeqAt.RcNeAt.lists_lengths j1 j2 (by rw [List.size_toArray, List.size_toArray, l1, l2]; exact bne_iff_ne.mpr hne) (by omega) X.prog X.w X.xe _ ⟨.bl true, H, I, rfl, q⟩
def rEqG (K : PySem.W.Frag) : R2 := fun x y H Q => rEq x y H Q ∨ rEqD K x y H Q ∨ rEqLen K false x y H Q
def rNeG (K : PySem.W.Frag) : R2 := fun x y H Q => rNe x y H Q ∨ rNeD K x y H Q ∨ rEqLen K true x y H Q
theorem op_eqG (hu : X.A.units + 64 < cLine) : OpR X (compareOp .Eq) (rEqG X.K) := op_eq.or ((op_eqD hu).or (op_eqLen hu))
theorem op_neG (hu : X.A.units + 64 < cLine) : OpR X (compareOp .NotEq) (rNeG X.K) := op_ne.or ((op_neD hu).or (op_neLen hu))
def rSlG (K : PySem.W.Frag) : V → Option Int → Option Int → Hp → VK → Prop := fun x lo hi H Q => rSlL K x lo hi H Q ∨ rSlA K x lo hi H Q ∨ rSlS x lo hi H Q
theorem sl_any : SlR X (rSlG X.K) := sl_list.or (sl_tupA.or sl_str)
abbrev rMulG : R2 := rI CMulW fun i j => .int (i * j)
abbrev rDivG : R2 := rI CDivW fun i j => .int (i / j)
abbrev rModG : R2 := rI (fun _ j => 0 < j) fun i j => .int (i % j)
abbrev rPowG : R2 := rI CPow fun i j => .int (i ^ j.toNat)
abbrev rSubG : R2 := rI0 fun i j => .int (i - j)
abbrev rLtG : R2 := rI0 fun i j => .bl (decide (i < j))
abbrev rLeG : R2 := rI0 fun i j => .bl (decide (i ≤ j))
abbrev rGtG : R2 := rI0 fun i j => .bl (decide (j < i))
abbrev rGeG : R2 := rI0 fun i j => .bl (decide (j ≤ i))
theorem o_sub : OpR X (binaryOp .Sub) rSubG := op_sub
theorem o_mul : OpR X (binaryOp .Mult) rMulG := op_mulW
theorem o_div : OpR X (binaryOp .FloorDiv) rDivG := op_fdivW
theorem o_mod : OpR X (binaryOp .Mod) rModG := op_mod
theorem o_pow : OpR X (binaryOp .Pow) rPowG := op_pow
theorem o_lt : OpR X (compareOp .Lt) rLtG := op_lt
theorem o_le : OpR X (compareOp .LtE) rLeG := op_le
theorem o_gt : OpR X (compareOp .Gt) rGtG := op_gt
theorem o_ge : OpR X (compareOp .GtE) rGeG := op_ge
abbrev rIsNon : R2 := fun x y H Q => y = .non ∧ Q (.bl (decide (x = .non))) H
abbrev rNotNon : R2 := fun x y H Q => y = .non ∧ Q (.bl (!decide (x = .non))) H
theorem o_isN : OpR X (compareOp .Is) rIsNon := op_isN
theorem o_notN : OpR X (compareOp .IsNot) rNotNon := op_notN
def rInG (K : PySem.W.Frag) (neg : Bool) : R2 := fun x y H Q => (∃ c z, x = V.str ⟨#[c]⟩ ∧ y = V.str z ∧ Q (.bl (if neg then !decide (c ∈ z.cps.toList) else decide (c ∈ z.cps.toList))) H) ∨ rIn K neg x y H Q
theorem o_in : OpR X (compareOp .In) (rInG X.K false) := by
  refine OpR.or ?_ op_in_seq
  intro pins s σ H x y v u Q I rx ry ⟨c, z, e1, e2, q⟩
  exact op_in_sign pins s σ H x y v u Q I rx ry ⟨c, z, e1, e2, by simpa using q⟩
theorem o_notIn : OpR X (compareOp .NotIn) (rInG X.K true) := by
  refine OpR.or ?_ op_notIn_seq
  intro pins s σ H x y v u Q I rx ry ⟨c, z, e1, e2, q⟩
  exact op_notIn_sign pins s σ H x y v u Q I rx ry ⟨c, z, e1, e2, by simpa using q⟩
def rIntG : List V → Hp → VK → Prop := fun xs H Q => (∃ i, xs = [.int i] ∧ Q (.int i) H) ∨ ∃ k, xs = [.bl k] ∧ Q (.int (if k then 1 else 0)) H
theorem c_int : CallR X (.type "int") rIntG := call_int1
def rLenG (K : PySem.W.Frag) (P : Program) (w : World) : List V → Hp → VK → Prop := fun xs H Q => (∃ x n, xs = [x] ∧ LenV K x H n ∧ Q (.int n) H) ∨ rLenTx P w xs H Q
theorem c_len : CallR X (.builtin "len") (rLenG X.K X.prog X.w) := CallR.or call_len cr_lenTx
def rListG (K : PySem.W.Frag) : List V → Hp → VK → Prop := fun xs H Q => ∃ p ys, xs = [V.ref p] ∧ (SqL K H p ys ∨ SqT K H p ys) ∧ ∀ l, H l = none → Q (.ref l) (upd H l (.lst ys))
theorem c_list : CallR X (.type "list") (rListG X.K) := call_list_of
def rTupG (K : PySem.W.Frag) : List V → Hp → VK → Prop := fun xs H Q => ∃ p ys, xs = [V.ref p] ∧ ((SqL K H p ys ∧ ∀ l, H l = none → Q (.ref l) (upd H l (.tup ys))) ∨ (SqT K H p ys ∧ Q (.ref p) H))
theorem c_tuple : CallR X (.type "tuple") (rTupG X.K) := call_tuple_of
def rMin2 : List V → Hp → VK → Prop := fun xs H Q => ∃ i j, xs = [V.int i, V.int j] ∧ Q (.int (if j < i then j else i)) H
theorem c_min2 (hc : X.calm = true) : CallR X (.builtin "min") rMin2 := call_min2 hc
def rAllG (K : PySem.W.Frag) : List V → Hp → VK → Prop := fun vs H Q => ∃ (a : Addr) (bs : List Bool), vs = [V.ref a] ∧ SqL K H a (bs.map V.bl) ∧ Q (.bl (bs.all id)) H
theorem c_all (hc : X.calm = true) : CallR X (.builtin "all") (rAllG X.K) := cr_all hc
def rSortG (K : PySem.W.Frag) (P : Program) (w : World) : List V → Hp → VK → Prop := fun vs H Q => rSortTx P w vs H Q ∨ rSortedS K vs H Q
theorem c_sorted (hc : X.calm = true) : CallR X (.builtin "sorted") (rSortG X.K X.prog X.w) := CallR.or (cr_sortTx hc) cr_sortedS
end

/-! ### the steps of a reading -/
def Bif (c : Bool) (A B : Prop) : Prop := if c = true then A else B
def IsB (x : V) (H : Hp) (Q : Bool → Hp → Prop) : Prop := ∃ k, x = .bl k ∧ Q k H
def IsP (x : V) (H : Hp) (Q : Option Int → Hp → Prop) : Prop := ∃ i, x = .int i ∧ Q (some i) H
def NewT (xs : List V) (H : Hp) (Q : VK) : Prop := xs.length ≤ sizeLine ∧ ∀ p, H p = none → Q (.ref p) (upd H p (.tup xs))
def NewL (xs : List V) (H : Hp) (Q : VK) : Prop := xs.length ≤ sizeLine ∧ ∀ p, H p = none → Q (.ref p) (upd H p (.lst xs))
section
variable {K : PySem.W.Frag} {G H : Hp} {M : List (Addr × HO)} {σ : L2.St} {Q : VK} {QB : Bool → Hp → Prop} {QO : Option Int → Hp → Prop} {QA : List V → Hp → Prop} {D : Ends} {ta tb te : TE} {tt uu : TT} {tr t : TA} {t1 t2 : TS} {r : R2} {A B : Prop} {c : Bool} {v x y : V} {i j : Int} {k : Nat} {p a b : Addr} {xs ys vs : List V} {sp : Sp} {E : XK} {g : TG}
theorem z_var (h : σ[k]? = some (some v)) (q : Q v H) : tVar k σ H Q := ⟨v, h, q⟩
theorem z_c (q : Q v H) : tC v σ H Q := q
theorem z_op (h : ta σ H fun x H1 => tb σ H1 fun y H2 => r x y H2 Q) : tOp r ta tb σ H Q := h
theorem z_un {r : V → Hp → VK → Prop} (h : ta σ H fun x H1 => r x H1 Q) : tUn r ta σ H Q := h
theorem z_test (h : te σ H fun x H1 => IsB x H1 QB) : tTest te σ H QB := h
theorem z_tB (h : te σ H fun x H1 => IsB x H1 QB) : tB te σ H QB := h
theorem z_isB (q : QB c H) : IsB (.bl c) H QB := ⟨c, rfl, q⟩
theorem z_bT (h : A) : Bif true A B := by unfold Bif; rw [if_pos rfl]; exact h
theorem z_bF (h : B) : Bif false A B := by unfold Bif; rw [if_neg Bool.false_ne_true]; exact h
theorem z_b2 (h1 : c = true → A) (h2 : c = false → B) : Bif c A B := by
  cases c with
  | true => exact z_bT (h1 rfl)
  | false => exact z_bF (h2 rfl)
theorem z_bN (h : Bif c B A) : Bif (!c) A B := by cases c with | true => exact h | false => exact h
theorem z_bD {p : Prop} [Decidable p] (h1 : p → A) (h2 : ¬ p → B) : Bif (decide p) A B := z_b2 (fun h => h1 (of_decide_eq_true h)) fun h => h2 (of_decide_eq_false h)
theorem z_and (h : tt σ H fun c H1 => Bif c (uu σ H1 QB) (QB false H1)) : tAnd tt uu σ H QB := h
theorem z_or (h : tt σ H fun c H1 => Bif c (QB true H1) (uu σ H1 QB)) : tOr tt uu σ H QB := h
theorem z_not (h : tt σ H fun c H1 => QB (!c) H1) : tNot tt σ H QB := h
theorem z_andV (h : ta σ H fun x H1 => IsB x H1 fun c H1 => Bif c (tb σ H1 Q) (Q (.bl false) H1)) : tAndV ta tb σ H Q := h
theorem z_orV (h : ta σ H fun x H1 => IsB x H1 fun c H1 => Bif c (Q (.bl true) H1) (tb σ H1 Q)) : tOrV ta tb σ H Q := h
theorem z_notV (h : ta σ H fun x H1 => IsB x H1 fun c H1 => Q (.bl (!c)) H1) : tNotV ta σ H Q := h
theorem z_if (h : tt σ H fun c H1 => Bif c (ta σ H1 Q) (tb σ H1 Q)) : tIf tt ta tb σ H Q := h
theorem z_nil (q : QA [] H) : tNil σ H QA := q
theorem z_cons (h : ta σ H fun x H1 => tr σ H1 fun xs H2 => QA (x :: xs) H2) : tCons ta tr σ H QA := h
theorem z_tup (h : t σ H fun xs H1 => NewT xs H1 Q) : tTup t σ H Q := h
theorem z_lst (h : t σ H fun xs H1 => NewL xs H1 Q) : tLst t σ H Q := h
theorem z_cb {r : List V → Hp → VK → Prop} (h : t σ H fun vs H1 => r vs H1 Q) : tCB r t σ H Q := h
theorem z_call {dvs : List V} (h : t σ H fun vs H1 => sp (vs ++ dvs) H1 Q E) : tCall sp dvs E t σ H Q := h
theorem z_sl {r : V → Option Int → Option Int → Hp → VK → Prop} {tl th : TO} (h : te σ H fun x H1 => tl σ H1 fun l H2 => th σ H2 fun u H3 => r x l u H3 Q) : tSl r te tl th σ H Q := h
theorem z_np (q : QO none H) : tNoPart σ H QO := q
theorem z_part (h : te σ H fun x H1 => IsP x H1 QO) : tPart te σ H QO := h
theorem z_isP (q : QO (some i) H) : IsP (.int i) H QO := ⟨i, rfl, q⟩
theorem z_seq (h : t1 ⟨t2 D, D.rt, D.bk, D.ct⟩ σ H) : tSeq t1 t2 D σ H := h
theorem z_asg (h : te σ H fun x H1 => g x σ H1 D.nx) : tAsg te g D σ H := h
theorem z_name {R : L2.St → Hp → Prop} (q : R (σ.set k (some v)) H) : gName k v σ H R := q
theorem z_ifS (h : tt σ H fun b H1 => Bif b (t1 D σ H1) (t2 D σ H1)) : tIfS tt t1 t2 D σ H := h
theorem z_ret (h : te σ H D.rt) : tRet te D σ H := h
theorem z_retN (q : D.rt .non H) : tRetN D σ H := q
theorem z_drop (h : te σ H fun _ H1 => D.nx σ H1) : tDrop te D σ H := h
theorem z_next (q : D.nx σ H) : tNext D σ H := q
theorem z_par {k l : Nat} {w : V} (h : t σ H fun vs H1 => ∃ v w, vs = [v, w] ∧ D.nx ((σ.set k (some v)).set l (some w)) H1) : tPar k l t D σ H := h
theorem z_dget (h : ta σ H fun x H1 => tb σ H1 fun y H2 => ∃ a v, x = .ref a ∧ DGet H2 a y (some v) ∧ Q v H2) : tDGet ta tb σ H Q := h

/-! new objects -/
theorem z_newT (z : Zp G M H) (hl : xs.length ≤ 100000) (q : ∀ p G1 H1, Zp G1 M H1 → Same G G1 → G1 p = some (.tup xs) → Q (.ref p) H1) : NewT xs H Q :=
  ⟨Nat.le_trans hl (by decide), fun p hp => q p _ _ (z.new hp _) (Same.new (z.free hp)) upd_same⟩
theorem z_newL (z : Zp G M H) (hl : xs.length ≤ 100000) (q : ∀ p G1 H1, Zp G1 M H1 → Same G G1 → G1 p = some (.lst xs) → Q (.ref p) H1) : NewL xs H Q :=
  ⟨Nat.le_trans hl (by decide), fun p hp => q p _ _ (z.new hp _) (Same.new (z.free hp)) upd_same⟩
theorem z_ownL (z : Zp G M H) (hl : xs.length ≤ 100000) (q : ∀ p H1, Zp G (M ++ [(p, .lst xs)]) H1 → Q (.ref p) H1) : NewL xs H Q :=
  ⟨Nat.le_trans hl (by decide), fun p hp => q p _ (z.add hp _)⟩

/-! operators -/
theorem z_addI (q : Q (.int (i + j)) H) : rAddG K (.int i) (.int j) H Q := .inl ⟨i, j, rfl, rfl, q⟩
theorem z_addS {x y : Str} (hl : x.length + y.length ≤ 100000) (q : Q (.str (x ++ y)) H) : rAddG K (.str x) (.str y) H Q := .inr (.inl ⟨x, y, rfl, rfl, Nat.le_trans hl (by decide), q⟩)
theorem z_addL (z : Zp G M H) (h1 : G a = some (.lst xs)) (h2 : G b = some (.lst ys)) (hl : xs.length + ys.length ≤ 100000) (q : ∀ p G1 H1, Zp G1 M H1 → Same G G1 → G1 p = some (.lst (xs ++ ys)) → Q (.ref p) H1) : rAddG K (.ref a) (.ref b) H Q :=
  .inr (.inr (.inl ⟨a, b, xs, ys, rfl, rfl, z.sub _ _ h1, z.sub _ _ h2, Nat.le_trans hl (by decide), fun p hp => q p _ _ (z.new hp _) (Same.new (z.free hp)) upd_same⟩))
theorem z_addT (z : Zp G M H) (h1 : SqT K G a xs) (h2 : SqT K G b ys) (hl : xs.length + ys.length ≤ 100000) (q : ∀ p G1 H1, Zp G1 M H1 → Same G G1 → SqT K G1 p (xs ++ ys) → Q (.ref p) H1) : rAddG K (.ref a) (.ref b) H Q := by
  refine .inr (.inr (.inr ⟨a, b, xs, ys, rfl, rfl, z.seqT h1, z.seqT h2, Nat.le_trans hl (by decide), fun e => ?_, fun _ e => ?_, fun _ _ p hp => ?_⟩))
  · subst e
    exact q b G H z (Same.refl G) h2
  · subst e
    exact q a G H z (Same.refl G) (by rw [List.append_nil]; exact h1)
  · exact q p _ _ (z.new hp _) (Same.new (z.free hp)) (SqT.of upd_same)
theorem z_I0 {f : Int → Int → V} (q : Q (f i j) H) : rI0 f (.int i) (.int j) H Q := ⟨i, j, rfl, rfl, q⟩
theorem z_I {C : Int → Int → Prop} {f : Int → Int → V} (h : C i j) (q : Q (f i j) H) : rI C f (.int i) (.int j) H Q := ⟨i, j, rfl, rfl, h, q⟩
theorem z_eqS (h : scal x y = true) (q : Q (.bl (decide (x = y))) H) : rEqG K x y H Q := .inl ⟨h, q⟩
theorem z_neS (h : scal x y = true) (q : Q (.bl (!decide (x = y))) H) : rNeG K x y H Q := .inl ⟨h, q⟩
theorem z_eqD {d e : PyData} (z : Zp G M H) (h1 : Dt K G x d) (h2 : Dt K G y e) (c1 : SeqAt.shaped d = true) (c2 : SeqAt.shaped e = true) (q : Q (.bl (PyData.eqv d e)) H) : rEqG K x y H Q :=
  .inr (.inl ⟨d, e, Dt.dp d x (SeqAt.canLay_of_shaped c1) (z.dt h1), Dt.dp e y (SeqAt.canLay_of_shaped c2) (z.dt h2), c1, c2, q⟩)
theorem z_neD {d e : PyData} (z : Zp G M H) (h1 : Dt K G x d) (h2 : Dt K G y e) (c1 : SeqAt.shaped d = true) (c2 : SeqAt.shaped e = true) (q : Q (.bl (!PyData.eqv d e)) H) : rNeG K x y H Q :=
  .inr (.inl ⟨d, e, Dt.dp d x (SeqAt.canLay_of_shaped c1) (z.dt h1), Dt.dp e y (SeqAt.canLay_of_shaped c2) (z.dt h2), c1, c2, q⟩)
theorem z_ixL (z : Zp G M H) (h : SqL K G a xs) (e : atI xs i = some v) (q : Q v H) : rIx K (.ref a) (.int i) H Q := .inl ⟨a, xs, i, v, rfl, rfl, z.seqL h, e, q⟩
theorem z_ixT (z : Zp G M H) (h : SqT K G a xs) (e : atI xs i = some v) (q : Q v H) : rIx K (.ref a) (.int i) H Q := .inr (.inl ⟨a, xs, i, v, rfl, rfl, z.seqT h, e, q⟩)
theorem z_ixS {s : Str} {ch : Nat} (hl : s.length ≤ 100000) (e : atI s.cps.toList i = some ch) (q : Q (.str ⟨#[ch]⟩) H) : rIx K (.str s) (.int i) H Q := .inr (.inr ⟨s, i, ch, rfl, rfl, Nat.le_trans hl (by decide), e, q⟩)
theorem z_slL {lo hi : Option Int} (z : Zp G M H) (h : SqL K G a xs) (q : ∀ p G1 H1, Zp G1 M H1 → Same G G1 → G1 p = some (.lst (cutV xs lo hi)) → Q (.ref p) H1) : rSlG K (.ref a) lo hi H Q :=
  .inl ⟨a, xs, rfl, z.seqL h, fun p hp => q p _ _ (z.new hp _) (Same.new (z.free hp)) upd_same⟩
theorem sIx_all {lo hi : Option Int} (h : HT.sIx xs.length 0 lo = 0 ∧ HT.sIx xs.length xs.length hi = xs.length) : cutV xs lo hi = xs := by
  unfold cutV
  rw [h.1, h.2]
  simp
theorem z_slT {lo hi : Option Int} (z : Zp G M H) (h : SqT K G a xs) (q : ∀ p G1 H1, Zp G1 M H1 → Same G G1 → SqT K G1 p (cutV xs lo hi) → Q (.ref p) H1) : rSlG K (.ref a) lo hi H Q :=
  .inr (.inl ⟨a, xs, rfl, z.seqT h, fun e => q a G H z (Same.refl G) (by rw [sIx_all e]; exact h), fun _ p hp => q p _ _ (z.new hp _) (Same.new (z.free hp)) (SqT.of upd_same)⟩)
theorem z_slS {s : Str} {lo hi : Option Int} (hl : s.length ≤ 100000) (q : Q (.str (cutS s lo hi)) H) : rSlG K (.str s) lo hi H Q := .inr (.inr ⟨s, rfl, Nat.le_trans hl (by decide), q⟩)
/-! calls of what is built in -/
theorem z_int (q : Q (.int i) H) : rIntG [.int i] H Q := .inl ⟨i, rfl, q⟩
theorem z_lenL {P : Program} {w : World} (z : Zp G M H) (h : SqL K G a xs) (q : Q (.int xs.length) H) : rLenG K P w [.ref a] H Q := .inl ⟨_, _, rfl, .inl ⟨xs, z.seqL h, rfl⟩, q⟩
end
end Ys
namespace Ys
open PySem PySem.Spec PyProof.Rows L2
/-! ### sorted, different texts: one list alone -/
theorem ltCps_irr : ∀ xs : List Nat, ltCps xs xs = false := fun xs => by rw [ltCps_eq]; exact decide_eq_false (fun h => List.lt_irrefl xs h)
def leS (a b : Str) : Bool := !decide (b.cps.toList < a.cps.toList)
theorem leS_total (a b : Str) : (leS a b || leS b a) = true := by
  unfold leS
  by_cases h : b.cps.toList < a.cps.toList
  · have : ¬ a.cps.toList < b.cps.toList := fun h2 => List.lt_asymm h h2
    simp [h, this]
  · simp [h]
theorem leS_trans (a b c : Str) (h1 : leS a b = true) (h2 : leS b c = true) : leS a c = true := by
  unfold leS at *
  simp only [Bool.not_eq_true', decide_eq_false_iff_not, List.not_lt] at *
  exact List.le_trans h1 h2
theorem leS_anti {a b : Str} (h1 : leS a b = true) (h2 : leS b a = true) : a = b := by
  unfold leS at *
  simp only [Bool.not_eq_true', decide_eq_false_iff_not, List.not_lt] at *
  have e := List.le_antisymm h1 h2
  obtain ⟨⟨x⟩⟩ := a
  obtain ⟨⟨y⟩⟩ := b
  simp only at e
  rw [e]
theorem sortedS_pw : ∀ l : List Str, sortedS l = true → l.Pairwise (fun a b => leS a b = true)
  | [], _ => List.Pairwise.nil
  | x :: r, h => by
    have go : ∀ (r : List Str) (x : Str), risingS x r = true → (x :: r).Pairwise (fun a b => leS a b = true) := by
      intro r
      induction r with
      | nil => intro x _; exact List.pairwise_singleton _ _
      | cons y r ih =>
        intro x h
        obtain ⟨h1, h2⟩ := Bool.and_eq_true_iff.mp (show (!ltCps y.cps.toList x.cps.toList && risingS y r) = true from h)
        have hxy : leS x y = true := by
          unfold leS
          rw [← ltCps_eq]
          exact h1
        have p := ih y h2
        refine List.pairwise_cons.mpr ⟨fun z hz => ?_, p⟩
        rcases List.mem_cons.mp hz with rfl | hz
        · exact hxy
        · exact leS_trans _ _ _ hxy (List.rel_of_pairwise_cons p hz)
    exact go r x h
theorem perm_one {l m : List Str} (p : l.Perm m) (h1 : l.Pairwise (fun a b => leS a b = true)) (h2 : m.Pairwise (fun a b => leS a b = true)) : l = m :=
  List.Perm.eq_of_pairwise (le := fun a b => leS a b = true) (fun a b _ _ x y => leS_anti x y) h1 h2 p
def dd : List Str → List Str
  | [] => []
  | x :: r => if x ∈ r then dd r else x :: dd r
theorem mem_dd {x : Str} : ∀ {xs : List Str}, x ∈ dd xs ↔ x ∈ xs
  | [] => by simp [dd]
  | y :: r => by
    have ih := mem_dd (x := x) (xs := r)
    unfold dd
    by_cases h : y ∈ r
    · rw [if_pos h, ih, List.mem_cons]
      exact ⟨.inr, fun z => z.elim (fun e => e ▸ h) id⟩
    · rw [if_neg h, List.mem_cons, List.mem_cons, ih]
theorem dd_nodup : ∀ xs : List Str, (dd xs).Nodup
  | [] => List.nodup_nil
  | y :: r => by
    unfold dd
    by_cases h : y ∈ r
    · rw [if_pos h]
      exact dd_nodup r
    · rw [if_neg h]
      exact List.nodup_cons.mpr ⟨fun z => h (mem_dd.mp z), dd_nodup r⟩
def asc (xs : List Str) : List Str := (dd xs).mergeSort leS
theorem asc_mem {x : Str} {xs : List Str} : x ∈ asc xs ↔ x ∈ xs := by
  unfold asc
  rw [(List.mergeSort_perm _ _).mem_iff]
  exact mem_dd
theorem asc_nodup (xs : List Str) : (asc xs).Nodup := (List.mergeSort_perm _ _).nodup_iff.mpr (dd_nodup xs)
theorem asc_pw (xs : List Str) : (asc xs).Pairwise (fun a b => leS a b = true) := List.pairwise_mergeSort leS_trans leS_total _
theorem asc_is {xs ys l : List Str} (h1 : ys.Perm l) (h2 : sortedS ys = true) (nd : l.Nodup) (m : ∀ x, x ∈ l ↔ x ∈ xs) : ys = asc xs := by
  refine perm_one ?_ (sortedS_pw ys h2) (asc_pw xs)
  refine (List.perm_ext_iff_of_nodup (h1.nodup_iff.mpr nd) (asc_nodup xs)).mpr fun x => ?_
  rw [h1.mem_iff, m x, asc_mem]
theorem asc_congr {xs ys : List Str} (m : ∀ x, x ∈ xs ↔ x ∈ ys) : asc xs = asc ys := by
  refine perm_one ?_ (asc_pw _) (asc_pw _)
  exact (List.perm_ext_iff_of_nodup (asc_nodup xs) (asc_nodup ys)).mpr fun x => by rw [asc_mem, asc_mem, m x]
end Ys
namespace Ys
open PySem PySem.Spec PyProof.Rows L2
section
variable {K : PySem.W.Frag} {P : Program} {w : World} {G H : Hp} {M : List (Addr × HO)} {σ : L2.St} {Q : VK} {QB : Bool → Hp → Prop} {QA : List V → Hp → Prop} {D : Ends} {ta tb te : TE} {tt : TT} {t : TA} {ts : TS} {A : Prop} {v x y : V} {i j : Int} {k : Nat} {a b : Addr} {xs ys vs : List V} {g : TG}
/-! ### calls of what is built in -/
theorem z_lenT (z : Zp G M H) (h : SqT K G a xs) (q : Q (.int xs.length) H) : rLenG K P w [.ref a] H Q := .inl ⟨_, _, rfl, .inr ⟨xs, z.seqT h, rfl⟩, q⟩
theorem z_lenO (z : Zp G M H) (k : Nat) (e : M[k]? = some (a, .lst xs)) (q : Q (.int xs.length) H) : rLenG K P w [.ref a] H Q := .inl ⟨_, _, rfl, .inl ⟨xs, SqL.of (z.at_ k e), rfl⟩, q⟩
theorem z_lenS {s : Str} (hl : s.length ≤ 100000) (q : Q (.int s.length) H) : rLenG K P w [.str s] H Q := .inl ⟨_, _, rfl, ⟨Nat.le_trans hl (by decide), rfl⟩, q⟩
theorem z_lenX {l : List Str} (z : Zp G M H) (h : G a = some (TxO P w a l)) (hl : l.length < 1000) (q : Q (.int l.length) H) : rLenG K P w [.ref a] H Q := .inr ⟨a, l, rfl, z.sub _ _ h, hl, q⟩
theorem z_listG (z : Zp G M H) (h : SqL K G a xs ∨ SqT K G a xs) (q : ∀ p G1 H1, Zp G1 M H1 → Same G G1 → G1 p = some (.lst xs) → Q (.ref p) H1) : rListG K [.ref a] H Q :=
  ⟨a, xs, rfl, h.imp z.seqL z.seqT, fun p hp => q p _ _ (z.new hp _) (Same.new (z.free hp)) upd_same⟩
theorem z_listO (z : Zp G M H) (h : SqL K G a xs ∨ SqT K G a xs) (q : ∀ p H1, Zp G (M ++ [(p, .lst xs)]) H1 → Q (.ref p) H1) : rListG K [.ref a] H Q :=
  ⟨a, xs, rfl, h.imp z.seqL z.seqT, fun p hp => q p _ (z.add hp _)⟩
theorem z_tupL (z : Zp G M H) (h : SqL K G a xs) (q : ∀ p G1 H1, Zp G1 M H1 → Same G G1 → SqT K G1 p xs → Q (.ref p) H1) : rTupG K [.ref a] H Q :=
  ⟨a, xs, rfl, .inl ⟨z.seqL h, fun p hp => q p _ _ (z.new hp _) (Same.new (z.free hp)) (SqT.of upd_same)⟩⟩
theorem z_tupO (z : Zp G M H) (k : Nat) (e : M[k]? = some (a, .lst xs)) (q : ∀ p G1 H1, Zp G1 M H1 → Same G G1 → SqT K G1 p xs → Q (.ref p) H1) : rTupG K [.ref a] H Q :=
  ⟨a, xs, rfl, .inl ⟨SqL.of (z.at_ k e), fun p hp => q p _ _ (z.new hp _) (Same.new (z.free hp)) (SqT.of upd_same)⟩⟩
theorem z_tupT (z : Zp G M H) (h : SqT K G a xs) (q : Q (.ref a) H) : rTupG K [.ref a] H Q := ⟨a, xs, rfl, .inr ⟨z.seqT h, q⟩⟩
theorem z_set {ss : List Str} (z : Zp G M H) (h : SqL K G a (ss.map V.str) ∨ SqT K G a (ss.map V.str)) (hl : ss.length < 1000)
    (q : ∀ p l G1 H1, Zp G1 M H1 → Same G G1 → G1 p = some (TxO P w p l) → (∀ x, x ∈ l ↔ x ∈ ss) → l.Nodup → l.length ≤ ss.length → Q (.ref p) H1) : rSetTx K P w [.ref a] H Q :=
  ⟨a, ss, rfl, h.imp z.seqL z.seqT, hl, fun p l m nd len hp => q p l _ _ (z.new hp _) (Same.new (z.free hp)) upd_same m nd len⟩
theorem z_sortX {l ss : List Str} (z : Zp G M H) (h : G a = some (TxO P w a l)) (m : ∀ x, x ∈ l ↔ x ∈ ss) (nd : l.Nodup) (hl : l.length < 64) (q : ∀ p G1 H1, Zp G1 M H1 → Same G G1 → G1 p = some (.lst ((asc ss).map V.str)) → Q (.ref p) H1) :
    rSortG K P w [.ref a] H Q := .inl ⟨a, l, rfl, z.sub _ _ h, hl, fun ys p pm so hp => by
  rw [asc_is pm so nd m]
  exact q p _ _ (z.new hp _) (Same.new (z.free hp)) upd_same⟩
theorem z_all {bs : List Bool} (z : Zp G M H) (h : SqL K G a (bs.map V.bl)) (q : Q (.bl (bs.all id)) H) : rAllG K [.ref a] H Q := ⟨a, bs, rfl, z.seqL h, q⟩
theorem z_min2 (q : Q (.int (if j < i then j else i)) H) : rMin2 [.int i, .int j] H Q := ⟨i, j, rfl, q⟩
theorem z_repr {d : PyData} (z : Zp G M H) (h : Dt K G x d) (s1 : d.showable = true) (s2 : d.depth ≤ 60) (s3 : d.shown.length ≤ 100000) (q : Q (.str d.shown) H) : rRepr K [x] H Q := ⟨x, d, rfl, z.dt h, s1, s2, Nat.le_trans s3 (by decide), q⟩
/-! methods -/
def TyV (K : PySem.W.Frag) (T : String) (x : V) (H : Hp) (A : Prop) : Prop := tyV K T x H ∧ A
theorem z_bm {T : String} {r : V → List V → Hp → VK → Prop} (h : te σ H fun x H1 => TyV K T x H1 (t σ H1 fun xs H2 => r x xs H2 Q)) : tBM K T r te t σ H Q := h
theorem z_bm0 {T : String} {r : V → List V → Hp → VK → Prop} (h : te σ H fun x H1 => TyV K T x H1 (r x [] H1 Q)) : tBM0 K T r te σ H Q := h
theorem z_tyO (z : Zp G M H) (k : Nat) (e : M[k]? = some (a, .lst xs)) (q : A) : TyV K "list" (.ref a) H A := ⟨.inl ⟨rfl, _, SqL.of (z.at_ k e)⟩, q⟩
theorem z_tyL (z : Zp G M H) (e : SqL K G a xs) (q : A) : TyV K "list" (.ref a) H A := ⟨.inl ⟨rfl, _, z.seqL e⟩, q⟩
theorem z_append (z : Zp G M H) (k : Nat) (e : M[k]? = some (a, .lst xs)) (hl : xs.length ≤ 100000) (q : ∀ H1, Zp G (M.set k (a, .lst (xs ++ [v]))) H1 → Q .non H1) : rAppend (.ref a) [v] H Q :=
  ⟨a, xs, v, rfl, rfl, z.at_ k e, Nat.lt_of_le_of_lt hl (by decide), q _ (z.put k e _)⟩
theorem seqIx {n : Nat} {i : Int} (h0 : 0 ≤ i) (h1 : i < n) : seqIndex? i n = some i.toNat := by
  obtain ⟨k, rfl⟩ := Int.eq_ofNat_of_zero_le h0
  have := atI_get (atI_nat (xs := List.replicate n ()) (j := k) (v := ()) (by
    have : k < n := by omega
    simp [this]))
  obtain ⟨j, e1, e2, e3, _⟩ := this
  rw [List.length_replicate] at e1
  have hk : (ixN n (k : Int)) = some k := by
    unfold ixN
    rw [if_pos (by omega), if_pos h1]
    rfl
  have := (ixN_seq hk).1
  rw [this]
  rfl
theorem z_popAt (z : Zp G M H) (k : Nat) (e : M[k]? = some (a, .lst xs)) (h0 : 0 ≤ i) (h1 : i < xs.length) (hl : xs.length ≤ 100000) (ev : xs[i.toNat]? = some v) (q : ∀ H1, Zp G (M.set k (a, .lst (xs.eraseIdx i.toNat))) H1 → Q v H1) :
    rPopAt (.ref a) [.int i] H Q := ⟨a, xs, i, i.toNat, v, rfl, rfl, z.at_ k e, by omega, by omega, seqIx h0 h1, ev, q _ (z.put k e _)⟩
theorem z_extend {b : Addr} (z : Zp G M H) (k : Nat) (e : M[k]? = some (a, .lst xs)) (h : G b = some (.lst ys)) (hl : xs.length + ys.length ≤ 100000) (q : ∀ H1, Zp G (M.set k (a, .lst (xs ++ ys))) H1 → Q .non H1) : rExtend (.ref a) [.ref b] H Q :=
  ⟨a, b, xs, ys, rfl, rfl, z.at_ k e, z.sub _ _ h, Nat.le_trans hl (by decide), q _ (z.put k e _)⟩
def IsS (x : V) (A : Prop) : Prop := (∃ a, x = .str a) ∧ A
theorem z_m1 {r : V → List V → Hp → VK → Prop} (h : ta σ H fun x H1 => IsS x (te σ H1 fun y H2 => r x [y] H2 Q)) : tM1 r ta te σ H Q := h
theorem z_isS {s : Str} (q : A) : IsS (.str s) A := ⟨⟨s, rfl⟩, q⟩
def rJoin (K : PySem.W.Frag) : V → List V → Hp → VK → Prop := fun x xs H Q => ∃ a p, ∃ ys : List Str, x = .str a ∧ xs = [.ref p] ∧ (SqL K H p (ys.map V.str) ∨ SqT K H p (ys.map V.str)) ∧ (ys.map (·.length)).sum + ys.length * a.length ≤ 16777216 ∧ Q (.str (Txt.join a ys)) H
theorem z_join {s : Str} {ss : List Str} (z : Zp G M H) (h : SqL K G a (ss.map V.str)) (hl : (ss.map (·.length)).sum + ss.length * s.length ≤ 100000) (q : Q (.str (Txt.join s ss)) H) : rJoin K (.str s) [.ref a] H Q :=
  ⟨s, a, ss, rfl, rfl, .inl (z.seqL h), Nat.le_trans hl (by decide), q⟩
/-! ### targets of several names -/
def UnpT (K : PySem.W.Frag) (n : Nat) (t : TGs) (v : V) (σ : L2.St) (H : Hp) (R : L2.St → Hp → Prop) : Prop := gTup K n t v σ H R
theorem z_gtup {n : Nat} {u : TGs} {R : L2.St → Hp → Prop} (z : Zp G M H) (h : SqT K G a xs) (hl : xs.length = n) (q : u xs σ H R) : gTup K n u (.ref a) σ H R := ⟨a, xs, rfl, z.seqT h, hl, q⟩
theorem z_gunl {n : Nat} {u : TGs} {R : L2.St → Hp → Prop} (z : Zp G M H) (h : SqL K G a xs) (hl : xs.length = n) (q : u xs σ H R) : gUnl K n u (.ref a) σ H R := ⟨a, xs, rfl, z.seqL h, hl, q⟩
theorem z_gnil {R : L2.St → Hp → Prop} (q : R σ H) : gNil [] σ H R := ⟨rfl, q⟩
theorem z_gcons {u : TGs} {R : L2.St → Hp → Prop} (q : g v σ H fun σ' H' => u xs σ' H' R) : gCons g u (v :: xs) σ H R := ⟨v, xs, rfl, q⟩
/-! ### what is walked -/
structure Src (J : It) (xs : List V) (OK : Hp → Prop) : Prop where
  go : ∀ i H, OK H → i < xs.length → J.go i H
  stop : ∀ i H, OK H → xs.length ≤ i → J.stop i H
  yld : ∀ i H x H', OK H → i < xs.length → J.yld i H x H' → H' = H ∧ xs[i]? = some x
theorem src_L {xs : List V} : Src (Itl K a) xs (fun H => SqL K H a xs) where
  go := fun i H h hi => ⟨xs, xs[i], h, by simp [hi]⟩
  stop := fun i H h hi => ⟨xs, h, hi⟩
  yld := fun i H x H' h _ y => ⟨y.1, y.2 xs h⟩
theorem src_T {xs : List V} : Src (Itt K a) xs (fun H => SqT K H a xs) where
  go := fun i H h hi => ⟨xs, xs[i], h, by simp [hi]⟩
  stop := fun i H h hi => ⟨xs, h, hi⟩
  yld := fun i H x H' h _ y => ⟨y.1, y.2 xs h⟩
def rngV (lo : Int) (n : Nat) : List V := (List.range n).map fun (i : Nat) => V.int (lo + (i : Int))
theorem rngV_len (lo : Int) (n : Nat) : (rngV lo n).length = n := by simp [rngV]
theorem src_R {lo : Int} {n : Nat} : Src (Itr lo n) (rngV lo n) (fun _ => True) where
  go := fun i H _ hi => by rw [rngV_len] at hi; exact hi
  stop := fun i H _ hi => by rw [rngV_len] at hi; exact hi
  yld := fun i H x H' _ hi y => ⟨y.1, by
    rw [rngV_len] at hi
    rw [y.2]
    simp [rngV, hi]⟩
def chrV (s : Str) : List V := s.cps.toList.map fun c => V.str ⟨#[c]⟩
theorem chrV_len (s : Str) : (chrV s).length = s.length := by simp [chrV]; rfl
theorem src_S {s : Str} : Src (Its s) (chrV s) (fun _ => True) where
  go := fun i H _ hi => by rw [chrV_len] at hi; exact hi
  stop := fun i H _ hi => by rw [chrV_len] at hi; exact hi
  yld := fun i H x H' _ _ y => by
    obtain ⟨e, c, h1, h2⟩ := y
    refine ⟨e, ?_⟩
    unfold chrV
    rw [List.getElem?_map, Array.getElem?_toList, h1, h2]
    rfl
/-! ### for -/
def ForW (J : It) (g : TG) (tb : TS) (D : Ends) (σ : L2.St) (H : Hp) : Prop := ∃ W : Nat → Nat → L2.St → Hp → Prop, (∃ m, W 0 m σ H) ∧ ∀ i m σ H, W i m σ H →
  (J.stop i H ∧ D.nx σ H) ∨ (J.go i H ∧ ∃ N : L2.St → Hp → Prop, (∀ σ' H', N σ' H' → ∃ m', m' < m ∧ W (i + 1) m' σ' H') ∧ ∀ x H', J.yld i H x H' → g x σ H' fun σ2 H2 => tb { D with nx := N, ct := N, bk := D.nx } σ2 H2)
theorem z_for {wi : TI} {tb : TS} (h : wi σ H fun J H1 => ForW J g tb D σ H1) : tFor wi g tb D σ H := h
theorem for_src {J : It} {tb : TS} {OK : Hp → Prop} (S : Src J xs OK) (I : Nat → L2.St → Hp → List (Addr × HO) → Prop) (z : Zp G M H) (h0 : I 0 σ G M) (ok : ∀ i σ G M H, I i σ G M → Zp G M H → OK H)
    (turn : ∀ i x σ G M H, xs[i]? = some x → I i σ G M → Zp G M H → g x σ H fun σ2 H2 => tb ⟨fun σ' H' => ∃ G' M', Zp G' M' H' ∧ I (i + 1) σ' G' M', D.rt, D.nx, fun σ' H' => ∃ G' M', Zp G' M' H' ∧ I (i + 1) σ' G' M'⟩ σ2 H2)
    (done : ∀ σ G M H, I xs.length σ G M → Zp G M H → D.nx σ H) : ForW J g tb D σ H := by
  refine ⟨fun i m σ H => m = xs.length - i ∧ i ≤ xs.length ∧ ∃ G M, Zp G M H ∧ I i σ G M, ⟨xs.length, by simp, Nat.zero_le _, G, M, z, h0⟩, ?_⟩
  rintro i m σ H ⟨rfl, hi, G, M, z, h⟩
  have o := ok i σ G M H h z
  by_cases c : i < xs.length
  · refine .inr ⟨S.go i H o c, fun σ' H' => ∃ G' M', Zp G' M' H' ∧ I (i + 1) σ' G' M', fun σ' H' q => ⟨xs.length - (i + 1), by omega, rfl, c, q⟩, fun x H' y => ?_⟩
    obtain ⟨rfl, e⟩ := S.yld i H x H' o c y
    exact turn i x σ G M H' e h z
  · obtain rfl : i = xs.length := by omega
    exact .inl ⟨S.stop _ H o (Nat.le_refl _), done σ G M H h z⟩
/-! ### comprehensions -/
def LcW (J : It) (g : TG) (tt : TT) (te : TE) (ws : List Nat) (σ : L2.St) (H1 : Hp) (Q : VK) : Prop := ∀ D, H1 D = none → ∃ W : Nat → Nat → Hp → Prop, (∃ m, W 0 m (upd H1 D (.lst []))) ∧ ∀ i m H, W i m H →
  (J.stop i H ∧ Q (.ref D) H) ∨ (J.go i H ∧ ∃ Nx : Hp → Prop, (∀ H', Nx H' → ∃ m', m' < m ∧ W (i + 1) m' H') ∧ ∀ x H', J.yld i H x H' → g x (wipe σ ws) H' fun σ2 H2 => wipe σ2 ws = wipe σ ws ∧ tt σ2 H2 fun b H3 =>
    if b = true then te σ2 H3 fun y H4 => ∃ acc, H4 D = some (.lst acc) ∧ acc.length < sizeLine ∧ Nx (upd H4 D (.lst (acc ++ [y]))) else Nx H3)
theorem z_lc {wi : TI} {ws : List Nat} (h : wi σ H fun J H1 => LcW J g tt te ws σ H1 Q) : tLc wi g tt te ws σ H Q := h
def Kept (I : Hp → List (Addr × HO) → List V → Prop) (D : Addr) (H : Hp) : Prop := ∃ G M acc, Zp G (M ++ [(D, .lst acc)]) H ∧ I G M acc
def Laid (I : Hp → List (Addr × HO) → List V → Prop) (D : Addr) (y : V) (H : Hp) : Prop := ∃ acc, H D = some (.lst acc) ∧ acc.length < sizeLine ∧ Kept I D (upd H D (.lst (acc ++ [y])))
theorem last_at {M : List (Addr × HO)} {p : Addr × HO} : (M ++ [p])[M.length]? = some p := by simp
theorem z_laid {I : Hp → List (Addr × HO) → List V → Prop} {Dl : Addr} {acc : List V} (z : Zp G (M ++ [(Dl, .lst acc)]) H) (hl : acc.length ≤ 100000) (q : I G M (acc ++ [y])) : Laid I Dl y H := by
  refine ⟨acc, z.at_ M.length last_at, Nat.lt_of_le_of_lt hl (by decide), G, M, acc ++ [y], ?_, q⟩
  have := z.put M.length last_at (.lst (acc ++ [y]))
  rw [List.set_append_right _ _ (Nat.le_refl _), Nat.sub_self] at this
  exact this
theorem z_left {I : Hp → List (Addr × HO) → List V → Prop} {Dl : Addr} {acc : List V} (z : Zp G (M ++ [(Dl, .lst acc)]) H) (q : I G M acc) : Kept I Dl H := ⟨G, M, acc, z, q⟩
theorem lc_src {J : It} {ws : List Nat} {OK : Hp → Prop} (S : Src J xs OK) (I : Nat → Hp → List (Addr × HO) → List V → Prop) (z : Zp G M H) (h0 : I 0 G M []) (ok : ∀ i G M M1 acc H, I i G M acc → Zp G (M ++ M1) H → OK H)
    (turn : ∀ i x G M acc Dl H, xs[i]? = some x → I i G M acc → Zp G (M ++ [(Dl, .lst acc)]) H → g x (wipe σ ws) H fun σ2 H2 => wipe σ2 ws = wipe σ ws ∧ tt σ2 H2 fun b H3 =>
      Bif b (te σ2 H3 fun y H4 => Laid (I (i + 1)) Dl y H4) (Kept (I (i + 1)) Dl H3))
    (done : ∀ p G M acc G1 H1, I xs.length G M acc → Same G G1 → Zp G1 M H1 → G1 p = some (.lst acc) → Q (.ref p) H1) : LcW J g tt te ws σ H Q := by
  intro Dl hD
  refine ⟨fun i m H => m = xs.length - i ∧ i ≤ xs.length ∧ Kept (I i) Dl H, ⟨xs.length, by simp, Nat.zero_le _, G, M, [], z.add hD _, h0⟩, ?_⟩
  rintro i m H ⟨rfl, hi, G, M, acc, z, h⟩
  have o := ok i G M _ acc H h z
  by_cases c : i < xs.length
  · refine .inr ⟨S.go i H o c, Kept (I (i + 1)) Dl, fun H' q => ⟨xs.length - (i + 1), by omega, rfl, c, q⟩, fun x H' y => ?_⟩
    obtain ⟨rfl, e⟩ := S.yld i H x H' o c y
    exact turn i x G M acc Dl H' e h z
  · obtain rfl : i = xs.length := by omega
    refine .inl ⟨S.stop _ H o (Nat.le_refl _), done Dl G M acc _ H h (Same.new ?_) z.fix upd_same⟩
    exact (z.own M.length _ _ last_at).2
theorem z_yes (q : QB true H) : tYes σ H QB := q
/-! what a for or a comprehension begins with -/
def ItL (K : PySem.W.Frag) (x : V) (H : Hp) (R : It → Hp → Prop) : Prop := ∃ a, x = .ref a ∧ (∃ xs, SqL K H a xs) ∧ R (Itl K a) H
def ItT (K : PySem.W.Frag) (x : V) (H : Hp) (R : It → Hp → Prop) : Prop := ∃ a, x = .ref a ∧ (∃ xs, SqT K H a xs) ∧ R (Itt K a) H
def ItS (x : V) (H : Hp) (R : It → Hp → Prop) : Prop := ∃ s, x = .str s ∧ R (Its s) H
def ItR (vs : List V) (H : Hp) (R : It → Hp → Prop) : Prop := ∃ j : Int, vs = [.int j] ∧ -(2 ^ 62) ≤ j ∧ j < 2 ^ 62 ∧ R (Itr 0 j.toNat) H
variable {R : It → Hp → Prop}
theorem z_iL (h : te σ H fun x H1 => ItL K x H1 R) : iList K te σ H R := h
theorem z_iT (h : te σ H fun x H1 => ItT K x H1 R) : iTup K te σ H R := h
theorem z_iS (h : te σ H fun x H1 => ItS x H1 R) : iStr te σ H R := h
theorem z_iR (h : t σ H fun vs H1 => ItR vs H1 R) : iRng1 t σ H R := h
theorem z_itL (z : Zp G M H) (h : SqL K G a xs) (q : R (Itl K a) H) : ItL K (.ref a) H R := ⟨a, rfl, ⟨xs, z.seqL h⟩, q⟩
theorem z_itT (z : Zp G M H) (h : SqT K G a xs) (q : R (Itt K a) H) : ItT K (.ref a) H R := ⟨a, rfl, ⟨xs, z.seqT h⟩, q⟩
theorem z_itS {s : Str} (q : R (Its s) H) : ItS (.str s) H R := ⟨s, rfl, q⟩
theorem z_itR {j : Int} (h0 : -(2 ^ 62) ≤ j) (h1 : j < 2 ^ 62) (q : R (Itr 0 j.toNat) H) : ItR [.int j] H R := ⟨j, rfl, h0, h1, q⟩
/-! ### a call of a def of the module -/
structure Own (P : Program) (w : World) (K : PySem.W.Frag) (mg : Str → Option Value) (base : Heap) (CX : CXT) (k : Nat) (x : Str) (ps : List Str) (sp : Sp) : Prop where
  ex : ∃ f fd, FnOk P w K mg base CX k f fd ps sp ∧ mg x = some (.ref f) ∧ PySem.W.keepIn K (.ref f) = true ∧ Binds K fd ps []
theorem pe_own {X : Cx} {CX : CXT} {k : Nat} {x : Str} {ps : List Str} {sp : Sp} {E : XK} {p pos : Pos} {e : Expr} {es : List Expr} {t : TA} (C : Own X.prog X.w X.K X.mg X.base CX k x ps sp) (hr : Room k X.A) (hg : Gl X x) (hx : Passes CX X E) (ha : PA X (e :: es) t)
    (hdb : (x == ("__debug__" : Str)) = false := by decide) (he : starEach (e :: es) X.env = (false, eval e X.env) :: starEach es X.env := by rfl) (hpl : (backTo pos (starEach es X.env)).any (·.1) = false := by rfl) :
    PE X (.Call (.Name x p) (e :: es) [] pos) (tCall sp [] E t) := by
  refine ⟨fun pins s σ H Q I h => ?_⟩
  obtain ⟨f, fd, F, hm, hk, hb⟩ := C.ex
  exact (pe_call F hr hg hm hk hb .nil hx ha hdb he hpl).run pins s σ H Q I h
end
end Ys
namespace Ys
open PySem PySem.Spec PyProof.Rows L2
section
variable {K : PySem.W.Frag} {P : Program} {w : World} {G G1 H : Hp} {M M1 : List (Addr × HO)} {σ : L2.St} {Q : VK} {QB : Bool → Hp → Prop} {D : Ends} {tc : TT} {tb t1 t2 : TS} {A B : Prop} {v x y : V} {i j : Int} {a b p : Addr} {xs ys vs : List V} {o : HO} {u : Addr × HO}
theorem Zp.perm (z : Zp G M H) (h : M.Perm M1) : Zp G M1 H where
  sub := z.sub
  own := fun i q o e => by
    obtain ⟨j, hj⟩ := List.getElem?_of_mem (h.mem_iff.mpr (List.mem_of_getElem? e))
    exact z.own j q o hj
  nd := (h.map _).nodup_iff.mp z.nd
theorem Zp.keep (z : Zp G M H) (h : M1.Sublist M) : Zp G M1 H where
  sub := z.sub
  own := fun i q o e => by
    obtain ⟨j, hj⟩ := List.getElem?_of_mem (h.subset (List.mem_of_getElem? e))
    exact z.own j q o hj
  nd := (h.map _).nodup z.nd
theorem Zp.addP (z : Zp G (u :: M) H) (h : H p = none) (o : HO) : Zp G (u :: (p, o) :: M) (upd H p o) :=
  (z.add h o).perm (by
    rw [List.cons_append]
    exact List.Perm.cons _ (List.perm_append_comm (l₁ := M) (l₂ := [(p, o)])))
theorem Zp.drop2 (z : Zp G (u :: (p, o) :: M) H) : Zp G (u :: M) H :=
  Zp.cut (M := u :: M) (M1 := [(p, o)]) (z.perm (by
    rw [List.cons_append]
    exact List.Perm.cons _ (List.perm_append_comm (l₁ := [(p, o)]) (l₂ := M))))
theorem Zp.fix2 (z : Zp G (u :: (p, o) :: M) H) : Zp (upd G p o) (u :: M) H ∧ G p = none :=
  have z2 : Zp G ((u :: M) ++ [(p, o)]) H := z.perm (by
    rw [List.cons_append]
    exact List.Perm.cons _ (List.perm_append_comm (l₁ := [(p, o)]) (l₂ := M)))
  ⟨z2.fix, (z2.own (u :: M).length p o (by simp)).2⟩
theorem z_listP (z : Zp G (u :: M) H) (h : SqL K G a xs ∨ SqT K G a xs) (q : ∀ p H1, Zp G (u :: (p, .lst xs) :: M) H1 → Q (.ref p) H1) : rListG K [.ref a] H Q :=
  ⟨a, xs, rfl, h.imp z.seqL z.seqT, fun p hp => q p _ (z.addP hp _)⟩
theorem z_ownP (z : Zp G (u :: M) H) (hl : xs.length ≤ 100000) (q : ∀ p H1, Zp G (u :: (p, .lst xs) :: M) H1 → Q (.ref p) H1) : NewL xs H Q :=
  ⟨Nat.le_trans hl (by decide), fun p hp => q p _ (z.addP hp _)⟩
theorem z_bd {p : Prop} {i : Decidable p} (h1 : p → A) (h2 : ¬ p → B) : Bif (@decide p i) A B := z_bD h1 h2
theorem z_cut (I : L2.St → Hp → Prop) (h1 : ∀ nx, (∀ σ H, I σ H → nx σ H) → t1 ⟨nx, D.rt, D.bk, D.ct⟩ σ H) (h2 : ∀ σ H, I σ H → t2 D σ H) : tSeq t1 t2 D σ H := h1 (t2 D) h2
theorem mw (h1 : -18446744073709551616 < i) (h2 : i < 18446744073709551616) (h3 : -18446744073709551616 < j) (h4 : j < 18446744073709551616) : CMulW i j := wide_mul (a := 64) (b := 64) (by omega) (by omega) (by decide) (by decide) (by decide)
theorem dw (h1 : 0 < j) (h2 : j ≤ 1000000000) : CDivW i j := wide_div (b := 30) h1 (by omega) (by decide) (by decide)
def Par2 (k l : Nat) (D : Ends) (σ : L2.St) (vs : List V) (H1 : Hp) : Prop := ∃ v w, vs = [v, w] ∧ D.nx ((σ.set k (some v)).set l (some w)) H1
theorem z_pr {k l : Nat} {t : TA} (h : t σ H (Par2 k l D σ)) : tPar k l t D σ H := h
theorem z_pr2 {k l : Nat} (q : D.nx ((σ.set k (some x)).set l (some y)) H) : Par2 k l D σ [x, y] H := ⟨x, y, rfl, q⟩
theorem rng_at {lo : Int} {n k : Nat} {x : V} (h : (rngV lo n)[k]? = some x) : k < n ∧ x = .int (lo + (k : Int)) := by
  have hi := (List.getElem?_eq_some_iff.mp h).1
  rw [rngV_len] at hi
  refine ⟨hi, ?_⟩
  unfold rngV at h
  rw [List.getElem?_map, List.getElem?_range hi] at h
  exact (Option.some.inj h).symm
/-! ### while -/
def WhB (I : Nat → L2.St → Hp → List (Addr × HO) → Prop) (n : Nat) (tb : TS) (D : Ends) (σ : L2.St) (b : Bool) (H1 : Hp) : Prop :=
  if b = true then ∃ N : L2.St → Hp → Prop, (∀ σ' H', N σ' H' → ∃ m', m' < n ∧ ∃ G M, Zp G M H' ∧ I m' σ' G M) ∧ tb { D with nx := N, ct := N, bk := D.nx } σ H1 else D.nx σ H1
theorem z_while (I : Nat → L2.St → Hp → List (Addr × HO) → Prop) (n : Nat) (z : Zp G M H) (h0 : I n σ G M) (turn : ∀ n σ G M H, I n σ G M → Zp G M H → tc σ H (WhB I n tb D σ)) : tWhile tc tb D σ H :=
  ⟨fun m σ H => ∃ G M, Zp G M H ∧ I m σ G M, ⟨n, G, M, z, h0⟩, fun m σ H ⟨G, M, z, h⟩ => turn m σ G M H h z⟩
theorem z_whT {I : Nat → L2.St → Hp → List (Addr × HO) → Prop} {n : Nat} (h : tb ⟨fun σ' H' => ∃ m', m' < n ∧ ∃ G M, Zp G M H' ∧ I m' σ' G M, D.rt, D.nx, fun σ' H' => ∃ m', m' < n ∧ ∃ G M, Zp G M H' ∧ I m' σ' G M⟩ σ H) : WhB I n tb D σ true H := by
  unfold WhB
  rw [if_pos rfl]
  exact ⟨_, fun _ _ h => h, h⟩
theorem z_whF {I : Nat → L2.St → Hp → List (Addr × HO) → Prop} {n : Nat} (h : D.nx σ H) : WhB I n tb D σ false H := by
  unfold WhB
  rw [if_neg Bool.false_ne_true]
  exact h
/-! ### data -/
theorem dts_int : ∀ cells : List Int, Dts K G (cells.map V.int) (cells.map PyData.int)
  | [] => .nil
  | c :: cs => .cons (.int c) (dts_int cs)
theorem dts_str : ∀ ss : List Str, Dts K G (ss.map V.str) (ss.map PyData.str)
  | [] => .nil
  | c :: cs => .cons (.str c) (dts_str cs)
def El (K : PySem.W.Frag) (G : Hp) (v : V) : Prop := ∃ d, Dt K G v d ∧ d.canLay0 = true ∧ d.depth ≤ 60
theorem El.up (s : Same G G1) : El K G v → El K G1 v := fun ⟨d, h, c⟩ => ⟨d, h.up s, c⟩
theorem El.str {s : Str} (h : PyData.strOk s = true) : El K G (.str s) := ⟨.str s, .str s, h, Nat.zero_le _⟩
theorem El.int (i : Int) : El K G (.int i) := ⟨.int i, .int i, rfl, Nat.zero_le _⟩
theorem El.non : El K G .non := ⟨.none, .non, rfl, Nat.zero_le _⟩
theorem El.all : ∀ {xs : List V}, (∀ v ∈ xs, El K G v) → ∃ ds, Dts K G xs ds ∧ PyData.canLayAll0 ds = true ∧ PyData.depthAll ds ≤ 60 ∧ (ds = [] ↔ xs = [])
  | [], _ => ⟨[], .nil, rfl, by decide, by simp⟩
  | x :: xs, h => by
    obtain ⟨d, h1, h2, h3⟩ := h x (List.mem_cons_self ..)
    obtain ⟨ds, g1, g2, g3, _⟩ := El.all (xs := xs) fun v hv => h v (List.mem_cons_of_mem _ hv)
    refine ⟨d :: ds, .cons h1 g1, ?_, ?_, by simp⟩
    · show (d.canLay0 && PyData.canLayAll0 ds) = true
      rw [h2, g2]
      rfl
    · show max d.depth (PyData.depthAll ds) ≤ 60
      omega
theorem shp {ds : List PyData} (c : PyData.canLayAll0 ds = true) (d : PyData.depthAll ds ≤ 60) : SeqAt.shaped (.list ds) = true := by
  unfold SeqAt.shaped
  have e : PyData.canLay0 (.list ds) = true := c
  have e2 : PyData.depth (.list ds) = PyData.depthAll ds + 1 := rfl
  rw [e, e2]
  simp
  omega
theorem shpT {ds : List PyData} (c : PyData.canLayAll0 ds = true) (d : PyData.depthAll ds ≤ 60) : SeqAt.shaped (.tuple ds) = true := by
  unfold SeqAt.shaped
  have e : PyData.canLay0 (.tuple ds) = true := c
  have e2 : PyData.depth (.tuple ds) = PyData.depthAll ds + 1 := rfl
  rw [e, e2]
  simp
  omega
theorem z_neNil (hl : SqL K H a xs) (h2 : H b = some (.lst [])) (q : Q (.bl (decide (xs ≠ []))) H) : rNeG K (.ref a) (.ref b) H Q := by
  cases xs with
  | nil => exact .inr (.inl ⟨.list [], .list [], Dt.dp _ _ rfl (.lst hl .nil), Dt.dp _ _ rfl (.lst (SqL.of h2) .nil), rfl, rfl, q⟩)
  | cons x xs => exact .inr (.inr ⟨a, b, _, [], rfl, rfl, hl, SqL.of h2, by simp, q⟩)
theorem z_eqNil (hl : SqL K H a xs) (h2 : H b = some (.lst [])) (q : Q (.bl (decide (xs = []))) H) : rEqG K (.ref a) (.ref b) H Q := by
  cases xs with
  | nil => exact .inr (.inl ⟨.list [], .list [], Dt.dp _ _ rfl (.lst hl .nil), Dt.dp _ _ rfl (.lst (SqL.of h2) .nil), rfl, rfl, q⟩)
  | cons x xs => exact .inr (.inr ⟨a, b, _, [], rfl, rfl, hl, SqL.of h2, by simp, q⟩)
/-! ### a dict that is written down -/
variable {ps : List (V × V)} {tk tv : TE} {trs : List (TE × TE)} {QP : List (V × V) → Hp → Prop}
def DispE (p : Addr) (ps : List (V × V)) (H : Hp) (Q : VK) : Prop := H p = some (.dK []) ∧ ∃ kvs : List (Key × V), ps = kvs.map (fun kv => (kV kv.1, kv.2)) ∧ kvs.length ≤ 15 ∧ Q (.ref p) (upd H p (.dK (mergeK [] kvs)))
theorem z_disp (z : Zp G M H) (h : ∀ p H1, Zp G (M ++ [(p, .dK [])]) H1 → tPairs trs σ H1 fun ps H2 => DispE p ps H2 Q) : tDisp trs σ H Q := fun p hp => h p _ (z.add hp _)
theorem z_pn (q : QP [] H) : tPairs [] σ H QP := q
theorem z_pc (h : tk σ H fun x H1 => tv σ H1 fun y H2 => tPairs trs σ H2 fun ps H3 => QP ((x, y) :: ps) H3) : tPairs ((tk, tv) :: trs) σ H QP := h
theorem z_dispE (z : Zp G (M ++ [(p, .dK [])]) H) (kvs : List (Key × V)) (e : ps = kvs.map (fun kv => (kV kv.1, kv.2))) (hl : kvs.length ≤ 15) (q : ∀ H3, Zp G (M ++ [(p, .dK (mergeK [] kvs))]) H3 → Q (.ref p) H3) : DispE p ps H Q := by
  refine ⟨z.at_ M.length last_at, kvs, e, hl, q _ ?_⟩
  have := z.put M.length last_at (.dK (mergeK [] kvs))
  rw [List.set_append_right _ _ (Nat.le_refl _), Nat.sub_self] at this
  exact this
/-! ### looks into lists -/
theorem at_in {α : Type} {xs : List α} {i : Int} (h0 : 0 ≤ i) (h1 : i < xs.length) : ∃ v, v ∈ xs ∧ atI xs i = some v := by
  obtain ⟨k, rfl⟩ := Int.eq_ofNat_of_zero_le h0
  have hk : k < xs.length := by omega
  exact ⟨xs[k], List.getElem_mem hk, atI_nat (by simp [hk])⟩
theorem cut_map {α : Type} (f : α → V) (xs : List α) (lo hi : Option Int) : cutV (xs.map f) lo hi = ((xs.drop (HT.sIx xs.length 0 lo)).take (HT.sIx xs.length xs.length hi - HT.sIx xs.length 0 lo)).map f := by
  unfold cutV
  rw [List.length_map, List.map_take, List.map_drop]
end
end Ys
namespace Ys
open PySem PySem.Spec PyProof.Rows L2 TL
theorem erase_perm {α : Type} : ∀ {zs : List α} {k : Nat} (h : k < zs.length), (zs[k] :: zs.eraseIdx k).Perm zs
  | x :: xs, 0, _ => List.Perm.refl _
  | x :: xs, k + 1, h => by
    show (xs[k]'(by simpa using h) :: x :: xs.eraseIdx k).Perm (x :: xs)
    exact (List.Perm.swap _ _ _).trans (List.Perm.cons _ (erase_perm (by simpa using h)))
/-! ### words -/
def Lt (s : Str) : Prop := ∀ c ∈ s.cps.toList, 97 ≤ c ∧ c ≤ 122
def Wd (s : Str) : Prop := 1 ≤ s.length ∧ s.length ≤ 8 ∧ Lt s
theorem Lt.app {x y : Str} (hx : Lt x) (hy : Lt y) : Lt (x ++ y) := fun c hc => by
  have e : (x ++ y).cps.toList = x.cps.toList ++ y.cps.toList := by
    show (x.cps ++ y.cps).toList = _
    rw [Array.toList_append]
  rw [e] at hc
  rcases List.mem_append.mp hc with h | h
  · exact hx c h
  · exact hy c h
theorem Lt.cut {x : Str} (hx : Lt x) (lo hi : Option Int) : Lt (cutS x lo hi) := fun c hc => hx c (List.mem_of_mem_drop (List.mem_of_mem_take (by simpa [cutS] using hc)))
theorem len_app (x y : Str) : (x ++ y).length = x.length + y.length := PySem.Str.length_append x y
theorem Lt.one {c : Nat} (h : 97 ≤ c ∧ c ≤ 122) : Lt ⟨#[c]⟩ := fun d hd => by
  obtain rfl : d = c := by simpa using hd
  exact h
theorem Lt.ok {s : Str} (h : Lt s) : PyData.strOk s = true := by
  unfold PyData.strOk
  rw [Array.all_eq_true_iff_forall_mem]
  intro c hc
  have := (h c (by simpa using hc)).2
  exact decide_eq_true (by omega)
theorem abc_mem {c : Nat} (h : c ∈ (("abcdefghijklmnopqrstuvwxyz" : Str)).cps.toList) : 97 ≤ c ∧ c ≤ 122 := by
  have e : (("abcdefghijklmnopqrstuvwxyz" : Str)).cps.toList = (List.range 26).map (· + 97) := by decide +kernel
  rw [e] at h
  obtain ⟨k, hk, rfl⟩ := List.mem_map.mp h
  have := List.mem_range.mp hk
  omega
theorem abc_len : (("abcdefghijklmnopqrstuvwxyz" : Str)).length = 26 := by decide +kernel
theorem joinL0 : ∀ {ps : List (List Nat)} {c : Nat}, c ∈ joinL [] ps → ∃ p ∈ ps, c ∈ p
  | [], _, h => by simp [joinL] at h
  | [p], _, h => ⟨p, by simp, by simpa [joinL] using h⟩
  | p :: q :: r, c, h => by
    have h' : c ∈ p ++ ([] ++ joinL [] (q :: r)) := by simpa [joinL] using h
    rcases List.mem_append.mp h' with h | h
    · exact ⟨p, by simp, h⟩
    · obtain ⟨x, hx, hc⟩ := joinL0 (ps := q :: r) (by simpa using h)
      exact ⟨x, List.mem_cons_of_mem _ hx, hc⟩
theorem Lt.join {ss : List Str} (h : ∀ s ∈ ss, Lt s) : Lt (Txt.join "" ss) := fun c hc => by
  have e : (Txt.join "" ss).cps.toList = joinL (tl ("" : Str)) (ss.map tl) := by
    rw [join_eq]
    exact tl_join "" ss
  have e0 : tl ("" : Str) = [] := by decide +kernel
  rw [e, e0] at hc
  obtain ⟨p, hp, hc⟩ := joinL0 hc
  obtain ⟨s, hs, rfl⟩ := List.mem_map.mp hp
  exact h s hs c hc
theorem cutS_len (x : Str) (lo hi : Option Int) : (cutS x lo hi).length = HT.sIx x.length x.length hi - HT.sIx x.length 0 lo := by
  have h2 := HT.sIx_le x.length x.length (Nat.le_refl _) hi
  show ((((x.cps.toList.drop (HT.sIx x.length 0 lo)).take (HT.sIx x.length x.length hi - HT.sIx x.length 0 lo)).toArray).size) = _
  rw [List.size_toArray, List.length_take, List.length_drop, Array.length_toList]
  show min _ (x.length - _) = _
  omega
section
variable {X : Cx} {o e : Expr} {to te : TE}
theorem pe_joinG {apos pos : Pos} (ho : PE X o to) (he : PE X e te) (hs : starEach [e] X.env = [(false, eval e X.env)] := by rfl) (hbase : attributeBase o "join" X.env (eval o X.env) = eval o X.env := by rfl) (hline : (apos.endLine == pos.line) = true := by rfl) :
    PE X (.Call (.Attribute o "join" apos) [e] [] pos) (tM1 (rJoin X.K) to te) := pe_join ho he hs hbase hline
end
end Ys
namespace Ys
open PySem PySem.Spec PyProof.Rows L2
section
variable {M : Model} {prog : Program} {w : World} {A : Around} {E : Value → Shared → Prop} {s : Shared} {K : PySem.W.Frag} {x C f : Addr} {ox : Obj} {od : Option Obj} {b tb : Value}
theorem ifBound_objNe {args : List Value} {Q : Option Value → Shared → Prop} (X : K.In s.heap) (I : PySem.W.InstAt s.heap x ox C od) (hs : PySem.W.findIn K (.ref C) "__ne__" = some (some (.builtin "object.__ne__")))
    (h : wpAny M A (call (.builtin "object.__ne__") (.ref x :: args)) (fun v => Q (some v)) E s) : wpAny M A (callSpecialIfBound? (.ref x) "__ne__" args) Q E s := by
  simp only [callSpecialIfBound?, bindSpecialIfBound?]
  refine wpAny_holding (wpAny_bind (wpAny_bind (wpAny_bind (I.type.here ((PySem.W.looks_findIn X hs).here ?_)))))
  refine wpAny_bind (wpAny_askSetting (wpAny_ite ?_))
  have fin : wpAny M A (call (.builtin "object.__ne__") ([.ref x] ++ args) >>= fun v => pure (some v)) Q E s := wpAny_bind (wpAny_mono h (fun v s' h' => wpAny_pure h') fun _ _ h' => h')
  split
  · exact wpAny_bind (wpAny_of_eq (F.cmp_object.ne.bind _) (wpAny_pure (by exact fin)))
  · exact wpAny_tryCatch (wpAny_bind (wpAny_of_eq (F.cmp_object.ne.bind _) (wpAny_pure (by exact fin))))
def BackB (Q : Bool → Shared → Prop) (v : Value) (s' : Shared) : Prop := ∃ r, v = .bool r ∧ Q r s'
theorem ne_K {Q : Value → Shared → Prop} (hu : A.units + 1 < cLine) (X : K.In s.heap) (I : PySem.W.InstAt s.heap x ox C od) (hb : PySem.W.Looks (model prog w) s.heap (typeOf b) tb) (hn : PySem.W.notFirst K C tb = true)
    (hm : PySem.W.mroIn K C (.type "object") = some true) (hs : PySem.W.findIn K (.ref C) "__ne__" = some (some (.builtin "object.__ne__"))) (he : PySem.W.findIn K (.ref C) "__eq__" = some (some (.ref f))) (hf : PySem.W.isFn K (.ref f) = true)
    (h : wpAny (model prog w) A.in1 (call (.ref f) [.ref x, b]) (BackB fun r s' => Q (.bool (!r)) s') E s) : wpAny (model prog w) A (richCompare .NotEq (.ref x) b) Q E s := by
  have ent : wpAny (model prog w) A.in1 (Builtin.«object.__ne__» ⟨[.ref x, b], []⟩) (fun r s' => ∃ v, r = .done (.ret (.bool v)) ∧ Q (.bool v) s') E s := by
    unfold Builtin.«object.__ne__»
    repeat (first
      | with_reducible refine wpAny_cRoomFor hu ?_
      | (refine wpAny_bind (m := callSpecialIfBound? (.ref x) (Str.ofString "__eq__") [b])
          (PySem.W.ifBound_K X I he hf (wpAny_mono h (fun r s' hr => by
            obtain ⟨b, rfl, hq⟩ := hr
            repeat (first | exact ⟨_, rfl, hq⟩ | exact wpAny_pure ⟨_, rfl, hq⟩ | (refine wpAny_bind (m := truthy (.bool _)) (wpAny_truthy_bool ?_)) | wp_step)) fun _ _ e => e)))
      | wp_step)
  have one : wpAny (model prog w) A (tryCompare (.ref x) "__ne__" b) (fun r s' => ∃ v, r = some v ∧ Q v s') E s := by
    unfold tryCompare
    refine wpAny_bind (ifBound_objNe X I hs ?_)
    refine wpAny_call (codeAny_call_builtin F.cmp_object.ne.plain F.cmpEntry_ne (PySem.W.check_slot F.cmpKind_ne F.cmpSplit_ne (I.type.andThen (PySem.W.looks_mroIn X hm)) (F.cmpArgs_ne _ _) ?_))
    refine wpAny_mono ent (fun r s' hq => ?_) fun _ _ e => e
    obtain ⟨v, rfl, hq⟩ := hq
    first
      | exact wpAny_pure ⟨_, rfl, hq⟩
      | exact ⟨_, rfl, wpAny_pure ⟨_, rfl, hq⟩⟩
  unfold richCompare
  simp only [oneThing_ref]
  refine wpAny_holding (wpAny_bind (wpAny_cRoomFor (Nat.lt_of_succ_lt hu) ?_))
  refine wpAny_bind (I.type.here (wpAny_bind (hb.here ?_)))
  split
  · rename_i q
    have e : PySem.W.subIn K tb (.ref C) = some false := by
      rcases Bool.or_eq_true_iff.mp hn with e | e
      · rw [beq_iff_eq.mp e] at q; simp at q
      · exact beq_iff_eq.mp e
    refine wpAny_bind ((PySem.W.looks_subIn X e).here ?_)
    simp only [Bool.false_eq_true, if_false]
    refine wpAny_bind (wpAny_mono one (fun r s' z => ?_) fun _ _ e => e)
    obtain ⟨v, rfl, hq⟩ := z
    exact wpAny_pure hq
  · refine wpAny_bind (wpAny_pure ?_)
    simp only [Bool.false_eq_true, if_false]
    refine wpAny_bind (wpAny_mono one (fun r s' z => ?_) fun _ _ e => e)
    obtain ⟨v, rfl, hq⟩ := z
    exact wpAny_pure hq
end
section
variable {X : Cx} {CX : CXT} {n : Nat} {C f : Addr} {fd : FuncData} {ps : List Str} {sp : Sp} {E : XK}
def rEqI (K : PySem.W.Frag) (C : Addr) (sp : Sp) (E : XK) : R2 := fun x y H Q => ∃ a dx fs t, x = .ref a ∧ H a = some (.ins C dx fs) ∧ TyX K H y t ∧ PySem.W.notFirst K C t = true ∧ sp [x, y] H (fun v H' => ∃ b, v = .bl b ∧ Q (.bl b) H') E
def rNeI (K : PySem.W.Frag) (C : Addr) (sp : Sp) (E : XK) : R2 := fun x y H Q => ∃ a dx fs t, x = .ref a ∧ H a = some (.ins C dx fs) ∧ TyX K H y t ∧ PySem.W.notFirst K C t = true ∧ sp [x, y] H (fun v H' => ∃ b, v = .bl b ∧ Q (.bl (!b)) H') E
theorem op_eqI (F : FnOk X.prog X.w X.K X.mg X.base CX n f fd ps sp) (hs : PySem.W.findIn X.K (.ref C) "__eq__" = some (some (.ref f))) (hf : PySem.W.isFn X.K (.ref f) = true) (hb : Binds X.K fd ps []) (hx : Passes CX X E) (hr : Room n X.A) :
    OpR X (compareOp .Eq) (rEqI X.K C sp E) := by
  intro pins s σ H x y v u Q I rx ry ⟨a, dx, fs, t, e1, ha, ty, nf, q⟩
  subst e1
  cases rx
  obtain ⟨mA, J, _⟩ := ins_get I.hok ha
  obtain ⟨od, J, _⟩ := J.look
  obtain ⟨P, Z, p, _⟩ := kit_of I ry ty
  obtain ⟨m, hF⟩ := I.fr
  show wpAny (model X.prog X.w) X.A (richCompare .Eq (.ref a) u) (EP X pins σ Q) X.xe s
  refine PySem.W.cmp_K (op := .Eq) (tb := t) hr.units0 hF I.ok.mod.kin J (Z.ty _ _ I.kIn p) nf hs hf ?_
  have hl := F.len _ _ _ _ q
  refine wpAny_call (codeAny_mono (F.run X.A X.stack s H ⟨[.ref a, u], []⟩ [.ref a, u] [.ref a, y] _ E hr I.env0 (by
    have := hb s [.ref a, u] I.kIn (by simpa using hl)
    simpa using this) (.cons rfl (.cons ry .nil)) q) fun r s' hq => ?_)
  cases r with
  | error e => exact hx pins σ H s e s' I hq
  | ok fl =>
    cases fl with
    | ret w =>
      obtain ⟨z, H', I', rz, b, rfl, q2⟩ := I.after hq
      cases rz
      exact ⟨.bl b, H', I', rfl, q2⟩
    | next => exact False.elim hq
    | brk => exact False.elim hq
    | cont => exact False.elim hq
theorem op_neI (F : FnOk X.prog X.w X.K X.mg X.base CX n f fd ps sp) (he : PySem.W.findIn X.K (.ref C) "__eq__" = some (some (.ref f))) (hs : PySem.W.findIn X.K (.ref C) "__ne__" = some (some (.builtin "object.__ne__"))) (hm : PySem.W.mroIn X.K C (.type "object") = some true)
    (hf : PySem.W.isFn X.K (.ref f) = true) (hb : Binds X.K fd ps []) (hx : Passes CX X E) (hr : Room (n + 1) X.A) : OpR X (compareOp .NotEq) (rNeI X.K C sp E) := by
  intro pins s σ H x y v u Q I rx ry ⟨a, dx, fs, t, e1, ha, ty, nf, q⟩
  subst e1
  cases rx
  obtain ⟨mA, J, _⟩ := ins_get I.hok ha
  obtain ⟨od, J, _⟩ := J.look
  obtain ⟨P, Z, p, _⟩ := kit_of I ry ty
  show wpAny (model X.prog X.w) X.A (richCompare .NotEq (.ref a) u) (EP X pins σ Q) X.xe s
  refine ne_K (by have := hr.units; omega) I.kIn J (Z.ty _ _ I.kIn p) nf hm hs he hf ?_
  have hl := F.len _ _ _ _ q
  refine wpAny_call (codeAny_mono (F.run X.A.in1 X.stack s H ⟨[.ref a, u], []⟩ [.ref a, u] [.ref a, y] _ E hr.in1 I.env0.in1 (by
    have := hb s [.ref a, u] I.kIn (by simpa using hl)
    simpa using this) (.cons rfl (.cons ry .nil)) q) fun r s' hq => ?_)
  cases r with
  | error e => exact hx pins σ H s e s' I hq
  | ok fl =>
    cases fl with
    | ret w =>
      obtain ⟨z, H', I', rz, b, rfl, q2⟩ := I.after hq
      cases rz
      exact ⟨b, rfl, .bl (!b), H', I', rfl, q2⟩
    | next => exact False.elim hq
    | brk => exact False.elim hq
    | cont => exact False.elim hq
end
end Ys
namespace Ys
open PySem PySem.Spec PyProof.Rows L2
section
variable {X : Cx} {K : PySem.W.Frag} {P : Program} {w : World} {G G1 H : Hp} {M M1 : List (Addr × HO)} {σ : L2.St} {Q : VK} {QB : Bool → Hp → Prop} {D : Ends} {tc : TT} {ta te tb : TE} {t : TA} {A B : Prop} {v x y : V} {i j : Int} {a b p : Addr} {xs ys vs : List V} {o : HO} {d : PyData} {R : It → Hp → Prop}
/-! ### what is walked: a list, a tuple or a text -/
def iOr (i1 i2 : TI) : TI := fun σ H R => i1 σ H R ∨ i2 σ H R
theorem pi_or {tg e : Expr} {i1 i2 : TI} (h1 : PI X tg e i1) (h2 : PI X tg e i2) : PI X tg e (iOr i1 i2) := ⟨fun pins s σ H R I h => h.elim (h1.run pins s σ H R I) (h2.run pins s σ H R I)⟩
def iAny (K : PySem.W.Frag) (te : TE) : TI := iOr (iList K te) (iOr (iTup K te) (iStr te))
theorem pi_any {tg e : Expr} (h : PE X e te) : PI X tg e (iAny X.K te) := pi_or (pi_list h) (pi_or (pi_tup h) (pi_str h))
theorem z_anyL (h : te σ H fun x H1 => ItL K x H1 R) : iAny K te σ H R := .inl h
theorem z_anyT (h : te σ H fun x H1 => ItT K x H1 R) : iAny K te σ H R := .inr (.inl h)
theorem z_anyS (h : te σ H fun x H1 => ItS x H1 R) : iAny K te σ H R := .inr (.inr h)
/-! ### isinstance -/
def rIsiG (K : PySem.W.Frag) : List V → Hp → VK → Prop := fun xs H Q => rIsi K xs H Q ∨ rIsiT K xs H Q
theorem c_isi : CallR X (.builtin "isinstance") (rIsiG X.K) := CallR.or call_isi call_isiT
theorem z_isi {t u : Value} {r : Bool} {c : V} (k : ClsV c u) (ty : TyX K H x t) (e : PySem.W.kitOne K t u = some r) (q : Q (.bl r) H) : rIsiG K [x, c] H Q := .inl ⟨x, c, t, u, r, rfl, k, ty, e, q⟩
theorem z_isi2 {cs : List V} {t : Value} {us : List Value} {r : Bool} (z : Zp G M H) (h : G a = some (.tup cs)) (k : Paired ClsV cs us) (ty : TyX K H x t) (e : PySem.W.kitAny K t us = some r) (q : Q (.bl r) H) : rIsiG K [x, .ref a] H Q :=
  .inr ⟨x, a, cs, t, us, r, rfl, z.sub _ _ h, k, ty, e, q⟩
def tyD : PyData → String
  | .none => "NoneType"
  | .bool _ => "bool"
  | .int _ => "int"
  | .str _ => "str"
  | .list _ => "list"
  | .tuple _ => "tuple"
  | .dict _ => "dict"
theorem tyL (h : SqL K H a xs) : TyX K H (.ref a) (.type "list") := by
  rcases h with (h | ⟨o, h⟩) | ⟨o, its, n, hk, hc, _⟩
  · exact .base (.lst h)
  · exact .base (.frz h)
  · exact .kList hk hc
theorem tyT (h : SqT K H a xs) : TyX K H (.ref a) (.type "tuple") := by
  rcases h with (h | ⟨o, h⟩) | ⟨o, its, n, hk, hc, _⟩
  · exact .base (.tup h)
  · exact .fTuple h
  · exact .kTuple hk hc
theorem Dt.ty (h : Dt K H v d) : TyX K H v (.type (tyD d)) := by
  cases h with
  | non => exact .base .non
  | bl b => exact .base (.bl b)
  | int i => exact .base (.int i)
  | str x => exact .base (.str x)
  | lst h _ => exact tyL h
  | tup h _ => exact tyT h
  | dct h _ _ =>
    rcases h with h | ⟨o, h⟩
    · exact .base (.dK h)
    · exact .fDict h
def Ar (K : PySem.W.Frag) (G : Hp) (M : List (Addr × HO)) (v : V) (d : PyData) : Prop := Dt K G v d ∨ ∃ a xs ds, v = .ref a ∧ (a, .lst xs) ∈ M ∧ Dts K G xs ds ∧ d = .list ds
theorem Ar.up (s : Same G G1) (h : Ar K G M v d) : Ar K G1 M v d := h.imp (fun h => h.up s) fun ⟨a, xs, ds, e, m, h, e2⟩ => ⟨a, xs, ds, e, m, h.up s, e2⟩
theorem Ar.sub (s : ∀ u ∈ M, u ∈ M1) (h : Ar K G M v d) : Ar K G M1 v d := h.imp id fun ⟨a, xs, ds, e, m, h, e2⟩ => ⟨a, xs, ds, e, s _ m, h, e2⟩
theorem Zp.mem (z : Zp G M H) (h : (a, o) ∈ M) : H a = some o := by
  obtain ⟨i, hi⟩ := List.getElem?_of_mem h
  exact (z.own i a o hi).1
theorem Ar.dt (z : Zp G M H) (h : Ar K G M v d) : Dt K H v d := by
  rcases h with h | ⟨a, xs, ds, rfl, m, h, rfl⟩
  · exact z.dt h
  · exact .lst (SqL.of (z.mem m)) (h.up z.sub)
theorem Ar.ty (z : Zp G M H) (h : Ar K G M v d) : TyX K H v (.type (tyD d)) := (h.dt z).ty
theorem Ar.list {ds : List PyData} (z : Zp G M H) (h : Ar K G M v (.list ds)) : ∃ a xs, v = .ref a ∧ SqL K H a xs ∧ Dts K G xs ds ∧ ∀ G1 H1, Zp G1 M H1 → Same G G1 → SqL K H1 a xs := by
  rcases h with h | ⟨a, xs, ds', rfl, m, h, e⟩
  · cases h with
    | lst h1 h2 => exact ⟨_, _, rfl, z.seqL h1, h2, fun G1 H1 z1 s1 => z1.seqL (upL s1 h1)⟩
  · cases e
    exact ⟨a, xs, rfl, SqL.of (z.mem m), h, fun G1 H1 z1 s1 => SqL.of (z1.mem m)⟩
theorem Ar.tup {ds : List PyData} (h : Ar K G M v (.tuple ds)) : ∃ a xs, v = .ref a ∧ SqT K G a xs ∧ Dts K G xs ds := by
  rcases h with h | ⟨a, xs, ds', rfl, m, h, e⟩
  · cases h with
    | tup h1 h2 => exact ⟨_, _, rfl, h1, h2⟩
  · cases e
theorem Ar.str {s : Str} (h : Ar K G M v (.str s)) : v = .str s := by
  rcases h with h | ⟨a, xs, ds', rfl, m, h, e⟩
  · cases h; rfl
  · cases e
theorem Dts.len {ds : List PyData} : ∀ {xs : List V} {ds : List PyData}, Dts K G xs ds → xs.length = ds.length
  | _, _, .nil => rfl
  | _, _, .cons _ h => congrArg Nat.succ (Dts.len (ds := ds) h)
theorem Dts.at_ : ∀ {xs : List V} {ds : List PyData} {k : Nat} {x : V}, Dts K G xs ds → xs[k]? = some x → ∃ d, ds[k]? = some d ∧ Dt K G x d
  | _, _, 0, x, .cons h _, e => by
    simp at e
    exact ⟨_, rfl, e ▸ h⟩
  | _, _, k + 1, x, .cons _ h, e => by
    have := Dts.at_ (k := k) h (by simpa using e)
    simpa using this
/-! ### constants of the module -/
def GC (mg : Str → Option Value) (x : Str) (v : V) : Prop := ∃ u, mg x = some u ∧ RelV v u
theorem pe_gC {x : Str} {pos : Pos} (h : GC X.mg x v) (hg : Gl X x) (hd : (x == ("__debug__" : Str)) = false := by decide) : PE X (.Name x pos) (tC v) := by
  obtain ⟨u, hm, r⟩ := h
  exact ⟨fun pins s σ H Q I h => (pe_glob (v := v) hg hm r hd).run pins s σ H Q I h⟩
/-! ### calls with defaults, properties, methods, making -/
structure OwnA (P : Program) (w : World) (K : PySem.W.Frag) (mg : Str → Option Value) (base : Heap) (CX : CXT) (k : Nat) (x : Str) (ps : List Str) (dvs : List V) (sp : Sp) : Prop where
  ex : ∃ f fd ds, FnOk P w K mg base CX k f fd ps sp ∧ mg x = some (.ref f) ∧ PySem.W.keepIn K (.ref f) = true ∧ Binds K fd ps ds ∧ Vals dvs ds
theorem pe_ownA {CX : CXT} {k : Nat} {x : Str} {ps : List Str} {dvs : List V} {sp : Sp} {E : XK} {p pos : Pos} {e : Expr} {es : List Expr} {t : TA} (C : OwnA X.prog X.w X.K X.mg X.base CX k x ps dvs sp) (hr : Room k X.A) (hg : Gl X x) (hx : Passes CX X E) (ha : PA X (e :: es) t)
    (hdb : (x == ("__debug__" : Str)) = false := by decide) (he : starEach (e :: es) X.env = (false, eval e X.env) :: starEach es X.env := by rfl) (hpl : (backTo pos (starEach es X.env)).any (·.1) = false := by rfl) :
    PE X (.Call (.Name x p) (e :: es) [] pos) (tCall sp dvs E t) := by
  obtain ⟨f, fd, ds, F, hm, hk, hb, hv⟩ := C.ex
  exact ⟨fun pins s σ H Q I h => (pe_call F hr hg hm hk hb hv hx ha hdb he hpl).run pins s σ H Q I h⟩
structure Prp (P : Program) (w : World) (K : PySem.W.Frag) (mg : Str → Option Value) (base : Heap) (CX : CXT) (k : Nat) (C : Addr) (x : Str) (sp : Sp) : Prop where
  ex : ∃ p g fd, PropOf K C x p g ∧ FnOk P w K mg base CX k g fd ["self"] sp ∧ Binds K fd ["self"] []
  cl : Cls K C
theorem pe_pr {CX : CXT} {k : Nat} {C : Addr} {x : Str} {sp : Sp} {E : XK} {e : Expr} {pos : Pos} (R : Prp X.prog X.w X.K X.mg X.base CX k C x sp) (hr : Room (k + 1) X.A) (hx : Passes CX X.nox E) (he : PE X e ta) (hb : attributeBase e x X.env (eval e X.env) = eval e X.env := by rfl) :
    PE X (.Attribute e x pos) (tProp C sp [] E ta) := by
  obtain ⟨p, g, fd, hp, F, hd⟩ := R.ex
  exact ⟨fun pins s σ H Q I h => (pe_prop he R.cl hp F hr hd .nil hx hb).run pins s σ H Q I h⟩
def InsW (C : Addr) (x : V) (H : Hp) (A : Prop) : Prop := ∃ a dx fs, x = .ref a ∧ H a = some (.ins C dx fs) ∧ A
end
end Ys
namespace Ys
open PySem PySem.Spec PyProof.Rows L2
section
variable {X : Cx} {K : PySem.W.Frag} {P : Program} {w : World} {G G1 H : Hp} {M M1 : List (Addr × HO)} {σ : L2.St} {Q : VK} {QB : Bool → Hp → Prop} {QA : List V → Hp → Prop} {D : Ends} {ta te tb tv : TE} {t tk : TA} {A B : Prop} {v x y : V} {i j : Int} {a b p : Addr} {xs ys vs zs : List V} {o : HO} {d : PyData}
variable {CX : CXT} {k n m : Nat} {C dx : Addr} {nm f : Str} {ps ks : List Str} {dvs : List V} {sp : Sp} {E : XK} {fs : List (Str × V)} {gV : List V → List V → List V}
structure Mth (P : Program) (w : World) (K : PySem.W.Frag) (mg : Str → Option Value) (base : Heap) (CX : CXT) (k : Nat) (C : Addr) (m : Str) (ps : List Str) (dvs : List V) (sp : Sp) : Prop where
  ex : ∃ f fd ds, Meth K C m f ∧ FnOk P w K mg base CX k f fd ps sp ∧ Binds K fd ps ds ∧ Vals dvs ds
  cl : Cls K C
theorem pe_mt0 {m : Str} {e : Expr} {pos apos : Pos} {pl : Sem Bool} (R : Mth X.prog X.w X.K X.mg X.base CX k C m ps dvs sp) (hr : Room k X.A) (hx : Passes CX X E) (he : PE X e ta)
    (ht : eval (.Call (.Attribute e m apos) [] [] pos) X.env = (do
      let ov ← eval e X.env
      standAt apos.atName
      let (f, first) ← holding [ov] (getMethod ov m pl)
      callWith pos f first (backTo pos (starEach [] X.env)) (backToKw pos (keywordEach [] X.env))) := by rfl) : PE X (.Call (.Attribute e m apos) [] [] pos) (tMeth C m sp dvs E ta tNil) := by
  obtain ⟨f, fd, ds, hm, F, hb, hv⟩ := R.ex
  exact ⟨fun pins s σ H Q I h => (pe_meth0 he R.cl hm F hr hb hv hx ht).run pins s σ H Q I h⟩
theorem pe_mt {m : Str} {e e1 : Expr} {es : List Expr} {pos apos : Pos} {pl : Sem Bool} (R : Mth X.prog X.w X.K X.mg X.base CX k C m ps dvs sp) (hr : Room k X.A) (hx : Passes CX X E) (he : PE X e ta) (ha : PA X (e1 :: es) t)
    (hst : starEach (e1 :: es) X.env = (false, eval e1 X.env) :: starEach es X.env := by rfl) (hpl : (backTo pos (starEach es X.env)).any (·.1) = false := by rfl)
    (ht : eval (.Call (.Attribute e m apos) (e1 :: es) [] pos) X.env = (do
      let ov ← eval e X.env
      standAt apos.atName
      let (f, first) ← holding [ov] (getMethod ov m pl)
      callWith pos f first (backTo pos (starEach (e1 :: es) X.env)) (backToKw pos (keywordEach [] X.env))) := by rfl) : PE X (.Call (.Attribute e m apos) (e1 :: es) [] pos) (tMeth C m sp dvs E ta t) := by
  obtain ⟨f, fd, ds, hm, F, hb, hv⟩ := R.ex
  exact ⟨fun pins s σ H Q I h => (pe_meth he R.cl hm F hr hb hv hx ha hst hpl ht).run pins s σ H Q I h⟩
structure MkS (P : Program) (w : World) (K : PySem.W.Frag) (mg : Str → Option Value) (base : Heap) (CX : CXT) (k : Nat) (C : Addr) (x : Str) (n : Nat) (ks : List Str) (gV : List V → List V → List V) (sp : Sp) : Prop where
  ex : ∃ f fd ps g, Mk K C f ∧ FnOk P w K mg base CX k f fd ps sp ∧ mg x = some (.ref C) ∧ KBn K fd ps (n + 1) ks g gV
theorem pe_mk0 {x : Str} {p pos : Pos} {kws : List Keyword} (R : MkS X.prog X.w X.K X.mg X.base CX k C x 0 ks gV sp) (hr : Room (k + 1) X.A) (hg : Gl X x) (hx : Passes CX X E) (hkw : PK X kws tk)
    (hall : (backToKw pos (keywordEach kws X.env)).all (·.1.isSome) = true := by rfl) (hks : (backToKw pos (keywordEach kws X.env)).filterMap (·.1) = ks := by rfl) (hdb : (x == ("__debug__" : Str)) = false := by decide)
    (hpl : ((backTo pos (starEach [] X.env)).any (·.1) || (backToKw pos (keywordEach kws X.env)).any (·.1.isNone)) = false := by rfl) :
    PE X (.Call (.Name x p) [] kws pos) (tMakeK C 0 ks.length sp gV E tNil tk) := by
  obtain ⟨f, fd, ps, g, hm, F, hmg, hb⟩ := R.ex
  exact ⟨fun pins s σ H Q I h => (pe_makeK0 hm F hr hg hmg hb hx hkw hall hks hdb hpl).run pins s σ H Q I h⟩
theorem pe_mk {x : Str} {p pos : Pos} {kws : List Keyword} {e : Expr} {es : List Expr} (R : MkS X.prog X.w X.K X.mg X.base CX k C x n ks gV sp) (hr : Room (k + 1) X.A) (hg : Gl X x) (hx : Passes CX X E) (ha : PA X (e :: es) t) (hkw : PK X kws tk)
    (hall : (backToKw pos (keywordEach kws X.env)).all (·.1.isSome) = true := by rfl) (hks : (backToKw pos (keywordEach kws X.env)).filterMap (·.1) = ks := by rfl) (hdb : (x == ("__debug__" : Str)) = false := by decide)
    (he : starEach (e :: es) X.env = (false, eval e X.env) :: starEach es X.env := by rfl) (hpl : ((backTo pos (starEach (e :: es) X.env)).any (·.1) || (backToKw pos (keywordEach kws X.env)).any (·.1.isNone)) = false := by rfl) :
    PE X (.Call (.Name x p) (e :: es) kws pos) (tMakeK C n ks.length sp gV E t tk) := by
  obtain ⟨f, fd, ps, g, hm, F, hmg, hb⟩ := R.ex
  exact ⟨fun pins s σ H Q I h => (pe_makeK hm F hr hg hmg hb hx ha hkw hall hks hdb he hpl).run pins s σ H Q I h⟩
/-! the steps -/
def PrW (C : Addr) (sp : Sp) (dvs : List V) (E : XK) (x : V) (H : Hp) (Q : VK) : Prop := ∃ a dx fs, x = .ref a ∧ H a = some (.ins C dx fs) ∧ sp (.ref a :: dvs) H Q E
theorem z_prop (h : ta σ H fun x H1 => PrW C sp dvs E x H1 Q) : tProp C sp dvs E ta σ H Q := h
theorem z_prI (z : Zp G M H) (h : G a = some (.ins C dx fs)) (q : sp (.ref a :: dvs) H Q E) : PrW C sp dvs E (.ref a) H Q := ⟨a, dx, fs, rfl, z.sub _ _ h, q⟩
def MtW (C : Addr) (f : Str) (x : V) (H : Hp) (A : Prop) : Prop := ∃ a dx fs, x = .ref a ∧ H a = some (.ins C dx fs) ∧ fs.lookup f = none ∧ A
theorem z_mt (h : ta σ H fun x H1 => MtW C f x H1 (t σ H1 fun vs H2 => sp (x :: (vs ++ dvs)) H2 Q E)) : tMeth C f sp dvs E ta t σ H Q := h
theorem z_mtI (z : Zp G M H) (h : G a = some (.ins C dx fs)) (l : fs.lookup f = none) (q : A) : MtW C f (.ref a) H A := ⟨a, dx, fs, rfl, z.sub _ _ h, l, q⟩
def MkW (C : Addr) (n m : Nat) (sp : Sp) (gV : List V → List V → List V) (E : XK) (vs zs : List V) (H2 : Hp) (Q : VK) : Prop := vs.length = n ∧ zs.length = m ∧ ∀ x dx, H2 x = none → H2 dx = none → dx ≠ x →
  sp (gV (.ref x :: vs) zs) (upd (upd H2 dx (.own x)) x (.ins C dx [])) (fun v H3 => v = .non ∧ Q (.ref x) H3) E
theorem z_mk (h : t σ H fun vs H1 => tk σ H1 fun zs H2 => MkW C n m sp gV E vs zs H2 Q) : tMakeK C n m sp gV E t tk σ H Q := h
theorem z_mkI (z : Zp G M H) (l1 : vs.length = n) (l2 : zs.length = m) (q : ∀ x dx H1, Zp (upd G dx (.own x)) (M ++ [(x, .ins C dx [])]) H1 → Same G (upd G dx (.own x)) → sp (gV (.ref x :: vs) zs) H1 (fun v H3 => v = .non ∧ Q (.ref x) H3) E) : MkW C n m sp gV E vs zs H Q :=
  ⟨l1, l2, fun x dx hx hd ne => q x dx _ ((z.new hd _).add (by rw [upd_ne (Ne.symm ne)]; exact hx) _) (Same.new (z.free hd))⟩
def FlW (K : PySem.W.Frag) (f : Str) (x : V) (H : Hp) (Q : VK) : Prop := ∃ a C dx fs v, x = .ref a ∧ H a = some (.ins C dx fs) ∧ Cls K C ∧ NoAttr K C f ∧ fs.lookup f = some v ∧ Q v H
theorem z_fl (h : ta σ H fun x H1 => FlW K f x H1 Q) : tFld K ta f σ H Q := h
theorem z_flI (z : Zp G M H) (h : G a = some (.ins C dx fs)) (c : Cls K C) (n : NoAttr K C f) (l : fs.lookup f = some v) (q : Q v H) : FlW K f (.ref a) H Q := ⟨a, C, dx, fs, v, rfl, z.sub _ _ h, c, n, l, q⟩
def FsW (K : PySem.W.Frag) (f : Str) (x y : V) (H2 : Hp) (R : Hp → Prop) : Prop := ∃ a C dx fs, x = .ref a ∧ H2 a = some (.ins C dx fs) ∧ Cls K C ∧ NoAttr K C f ∧ fs.length < 1000 ∧ R (upd H2 a (.ins C dx (putF f y fs)))
theorem z_fs (h : tv σ H fun y H1 => ta σ H1 fun x H2 => FsW K f x y H2 (D.nx σ)) : sFld K ta tv f D σ H := h
theorem z_fsI {R : Hp → Prop} (z : Zp G M H) (i : Nat) (e : M[i]? = some (a, .ins C dx fs)) (c : Cls K C) (n : NoAttr K C f) (l : fs.length < 1000) (q : ∀ H1, Zp G (M.set i (a, .ins C dx (putF f y fs))) H1 → R H1) : FsW K f (.ref a) y H R :=
  ⟨a, C, dx, fs, rfl, z.at_ i e, c, n, l, q _ (z.put i e _)⟩
theorem z_nN (q : Q (.bl (!decide (x = .non))) H) : rNotNon x .non H Q := ⟨rfl, q⟩
theorem z_iN (q : Q (.bl (decide (x = .non))) H) : rIsNon x .non H Q := ⟨rfl, q⟩
theorem z_itLH {R : It → Hp → Prop} (h : SqL K H a xs) (q : R (Itl K a) H) : ItL K (.ref a) H R := ⟨a, rfl, ⟨xs, h⟩, q⟩
theorem z_itTH {R : It → Hp → Prop} (h : SqT K H a xs) (q : R (Itt K a) H) : ItT K (.ref a) H R := ⟨a, rfl, ⟨xs, h⟩, q⟩
theorem z_lenH (h : SqL K H a xs ∨ SqT K H a xs) (q : Q (.int xs.length) H) : rLenG K P w [.ref a] H Q := h.elim (fun h => .inl ⟨_, _, rfl, .inl ⟨xs, h, rfl⟩, q⟩) fun h => .inl ⟨_, _, rfl, .inr ⟨xs, h, rfl⟩, q⟩
theorem z_setH {ss : List Str} (z : Zp G M H) (h : SqL K H a (ss.map V.str) ∨ SqT K H a (ss.map V.str)) (hl : ss.length < 1000)
    (q : ∀ p l G1 H1, Zp G1 M H1 → Same G G1 → G1 p = some (TxO P w p l) → (∀ x, x ∈ l ↔ x ∈ ss) → l.Nodup → l.length ≤ ss.length → Q (.ref p) H1) : rSetTx K P w [.ref a] H Q :=
  ⟨a, ss, rfl, h, hl, fun p l m nd len hp => q p l _ _ (z.new hp _) (Same.new (z.free hp)) upd_same m nd len⟩
theorem z_tI {R : It → Hp → Prop} (h : te σ H fun x H1 => ItT K x H1 R) : iTup K te σ H R := h
theorem z_fsL {R : Hp → Prop} (z : Zp G (M ++ [(a, .ins C dx fs)]) H) (c : Cls K C) (n : NoAttr K C f) (l : fs.length < 1000) (q : ∀ H1, Zp G (M ++ [(a, .ins C dx (putF f y fs))]) H1 → R H1) : FsW K f (.ref a) y H R := by
  refine z_fsI z M.length last_at c n l fun H1 z1 => q H1 ?_
  rw [List.set_append_right _ _ (Nat.le_refl _), Nat.sub_self] at z1
  exact z1
theorem putF_lt {n : Nat} : ∀ {fs : List (Str × V)}, fs.length < n → (putF f y fs).length < n + 1
  | [], h => by show 1 < n + 1; have : 0 < n := h; omega
  | (g, v) :: r, h => by
    unfold putF
    split
    · exact Nat.lt_succ_of_lt h
    · have h' : r.length + 1 < n := h
      cases n with
      | zero => omega
      | succ n =>
        have := putF_lt (n := n) (fs := r) (by omega)
        show (putF f y r).length + 1 < n + 1 + 1
        omega
def ItR2 (vs : List V) (H : Hp) (R : It → Hp → Prop) : Prop := ∃ i j : Int, vs = [.int i, .int j] ∧ (-(2 ^ 62) ≤ i ∧ i < 2 ^ 62 ∧ -(2 ^ 62) ≤ j ∧ j < 2 ^ 62) ∧ R (Itr i (j - i).toNat) H
theorem z_iR2 {R : It → Hp → Prop} (h : t σ H fun vs H1 => ItR2 vs H1 R) : iRng2 t σ H R := h
theorem z_itR2 {R : It → Hp → Prop} (h : -(2 ^ 62) ≤ i ∧ i < 2 ^ 62 ∧ -(2 ^ 62) ≤ j ∧ j < 2 ^ 62) (q : R (Itr i (j - i).toNat) H) : ItR2 [.int i, .int j] H R := ⟨i, j, rfl, h, q⟩
theorem z_gsub {ti : TE} {ts : TSet} {R : L2.St → Hp → Prop} (h : ta σ H fun o H1 => ti σ H1 fun i H2 => ts o i v H2 fun H3 => R σ H3) : gSub ta ti ts v σ H R := h
theorem z_slO {lo hi : Option Int} (z : Zp G M H) (k : Nat) (e : M[k]? = some (a, .lst xs)) (q : ∀ p G1 H1, Zp G1 M H1 → Same G G1 → G1 p = some (.lst (cutV xs lo hi)) → Q (.ref p) H1) : rSlG K (.ref a) lo hi H Q :=
  .inl ⟨a, xs, rfl, SqL.of (z.at_ k e), fun p hp => q p _ _ (z.new hp _) (Same.new (z.free hp)) upd_same⟩
theorem z_setO {R : Hp → Prop} {j : Nat} (z : Zp G M H) (k : Nat) (e : M[k]? = some (a, .lst xs)) (hj : ixN xs.length i = some j) (q : ∀ H1, Zp G (M.set k (a, .lst (xs.set j v))) H1 → R H1) : rSetL (.ref a) (.int i) v H R :=
  ⟨a, xs, i, j, rfl, rfl, z.at_ k e, hj, q _ (z.put k e _)⟩
theorem Dts.snoc : ∀ {xs : List V} {ds : List PyData} {x : V} {d : PyData}, Dts K G xs ds → Dt K G x d → Dts K G (xs ++ [x]) (ds ++ [d])
  | _, _, _, _, .nil, h => .cons h .nil
  | _, _, _, _, .cons a b, h => .cons a (Dts.snoc b h)
theorem Dts.set : ∀ {xs : List V} {ds : List PyData} {x : V} {d : PyData} (j : Nat), Dts K G xs ds → Dt K G x d → Dts K G (xs.set j x) (ds.set j d)
  | _, _, _, _, _, .nil, _ => .nil
  | _, _, _, _, 0, .cons a b, h => .cons h b
  | _, _, _, _, j + 1, .cons a b, h => .cons a (Dts.set j b h)
theorem perm_strs {ys : List V} {ss : List Str} (h : ys.Perm (ss.map V.str)) : ∃ ts : List Str, ys = ts.map V.str ∧ ts.Perm ss := by
  let un : V → Str := fun v => match v with | .str s => s | _ => ""
  have e : (ss.map V.str).map un = ss := by rw [List.map_map]; exact List.map_id'' (fun _ => rfl) ss
  refine ⟨ys.map un, ?_, ?_⟩
  · rw [List.map_map]
    have : ∀ v ∈ ys, (V.str ∘ un) v = v := fun v hv => by
      obtain ⟨s, _, rfl⟩ := List.mem_map.mp (h.mem_iff.mp hv)
      rfl
    rw [List.map_congr_left this]
    exact (List.map_id ys).symm
  · have := h.map un
    rw [e] at this
    exact this
/-! chains -/
theorem z_chain {r r' : R2} {tc : TE} (h : ta σ H fun x H1 => tb σ H1 fun y H2 => r x y H2 fun z H3 => IsB z H3 fun k H3 => Bif k (tc σ H3 fun w' H4 => r' y w' H4 Q) (Q (.bl false) H3)) : tChain r r' ta tb tc σ H Q := h
theorem z_inS {c : Nat} {z : Str} (q : Q (.bl (decide (c ∈ z.cps.toList))) H) : rInG K false (.str ⟨#[c]⟩) (.str z) H Q := .inl ⟨c, z, rfl, rfl, by simpa using q⟩
theorem z_eqI {sp : Sp} {t : Value} (z : Zp G M H) (h : G a = some (.ins C dx fs)) (ty : TyX K H y t) (nf : PySem.W.notFirst K C t = true) (q : sp [.ref a, y] H (fun v H' => ∃ b, v = .bl b ∧ Q (.bl b) H') E) : rEqI K C sp E (.ref a) y H Q :=
  ⟨a, dx, fs, t, rfl, z.sub _ _ h, ty, nf, q⟩
theorem z_neI {sp : Sp} {t : Value} (z : Zp G M H) (h : G a = some (.ins C dx fs)) (ty : TyX K H y t) (nf : PySem.W.notFirst K C t = true) (q : sp [.ref a, y] H (fun v H' => ∃ b, v = .bl b ∧ Q (.bl (!b)) H') E) : rNeI K C sp E (.ref a) y H Q :=
  ⟨a, dx, fs, t, rfl, z.sub _ _ h, ty, nf, q⟩
end
end Ys
namespace Ys
open PySem PySem.Spec PyProof.Rows L2
/-! the rules with the written part told -/
section
variable {X : Cx} {K : PySem.W.Frag} {P : Program} {w : World}
theorem k_add (e : X.K = K := by rfl) : OpR X (binaryOp .Add) (rAddG K) := e ▸ op_addG
theorem k_eq (hu : X.A.units + 64 < cLine) (e : X.K = K := by rfl) : OpR X (compareOp .Eq) (rEqG K) := e ▸ op_eqG hu
theorem k_ne (hu : X.A.units + 64 < cLine) (e : X.K = K := by rfl) : OpR X (compareOp .NotEq) (rNeG K) := e ▸ op_neG hu
theorem k_in (e : X.K = K := by rfl) : OpR X (compareOp .In) (rInG K false) := e ▸ o_in
theorem k_notIn (e : X.K = K := by rfl) : OpR X (compareOp .NotIn) (rInG K true) := e ▸ o_notIn
theorem k_sl (e : X.K = K := by rfl) : SlR X (rSlG K) := e ▸ sl_any
theorem kc_len (e : X.K = K := by rfl) (e1 : X.prog = P := by rfl) (e2 : X.w = w := by rfl) : CallR X (.builtin "len") (rLenG K P w) := by subst e; subst e1; subst e2; exact c_len
theorem kc_list (e : X.K = K := by rfl) : CallR X (.type "list") (rListG K) := e ▸ c_list
theorem kc_tuple (e : X.K = K := by rfl) : CallR X (.type "tuple") (rTupG K) := e ▸ c_tuple
theorem kc_all (hc : X.calm = true) (e : X.K = K := by rfl) : CallR X (.builtin "all") (rAllG K) := e ▸ c_all hc
theorem kc_sorted (hc : X.calm = true) (e : X.K = K := by rfl) (e1 : X.prog = P := by rfl) (e2 : X.w = w := by rfl) : CallR X (.builtin "sorted") (rSortG K P w) := by subst e; subst e1; subst e2; exact c_sorted hc
theorem kc_set (hc : X.calm = true) (e : X.K = K := by rfl) (e1 : X.prog = P := by rfl) (e2 : X.w = w := by rfl) : CallR X (.type "set") (rSetTx K P w) := by subst e; subst e1; subst e2; exact cr_setTx hc
theorem kc_repr (hg : X.A.guards = some []) (S : SysIn X.K) (hu : X.A.units + 64 < cLine) (e : X.K = K := by rfl) : CallR X (.builtin "repr") (rRepr K) := e ▸ cr_repr hg S hu
theorem kc_isi (e : X.K = K := by rfl) : CallR X (.builtin "isinstance") (rIsiG K) := e ▸ c_isi
theorem k_any {tg e : Expr} {te : TE} (h : PE X e te) (q : X.K = K := by rfl) : PI X tg e (iAny K te) := q ▸ pi_any h
theorem k_ix (e : X.K = K := by rfl) : IxR X (rIx K) := e ▸ ix_seq
theorem k_fld {o : Expr} {f : Str} {pos : Pos} {ta : TE} (h : PE X o ta) (hb : attributeBase o f X.env (eval o X.env) = eval o X.env) (e : X.K = K := by rfl) : PE X (.Attribute o f pos) (tFld K ta f) := e ▸ pe_fld h hb
theorem kg_tup {es : List Expr} {k : Nat} {t : TGs} {n : Nat} {pos : Pos} (hc : X.calm = true) (h : PGs X es t) (e : X.K = K := by rfl)
    (hn : (assignEach es X.env).length = n := by rfl) (hst : (assignEach es X.env).findIdx? (·.1) = none := by rfl) : PG X (.Tuple es k pos) (gTup K n t) := e ▸ pg_tup hc h hn hst
theorem kg_unl {es : List Expr} {k : Nat} {t : TGs} {n : Nat} {pos : Pos} (hc : X.calm = true) (h : PGs X es t) (e : X.K = K := by rfl)
    (hn : (assignEach es X.env).length = n := by rfl) (hst : (assignEach es X.env).findIdx? (·.1) = none := by rfl) : PG X (.Tuple es k pos) (gUnl K n t) := e ▸ pg_unl hc h hn hst
theorem k_tup {tg e : Expr} {te : TE} (h : PE X e te) (q : X.K = K := by rfl) : PI X tg e (iTup K te) := q ▸ pi_tup h
end
end Ys
namespace Ys
open PySem PySem.Spec PyProof.Rows L2
/-! ### defs that stand anywhere -/
theorem DefY.funD {K : PySem.W.Frag} {d : DefY} (e : fnY K (d.ad K) = d.val) (c : d.ok K = true) : ∃ fd, FunD K d.name d.qual d.params d.body d.scope (d.dvs K) (d.kws K) (d.ad K) fd := by
  obtain ⟨kp, c2⟩ := Bool.and_eq_true_iff.mp c
  cases hq : K.lookup (d.ad K) with
  | none => rw [hq] at c2; exact absurd c2 (by simp)
  | some ob =>
    rw [hq] at c2
    unfold fnY at e
    rw [hq] at e
    obtain ⟨o1, o2, o3, o4⟩ := ob
    cases o3 with
    | func g =>
      obtain ⟨g1, g2, g3, g4, g5, g6, g7, g8, g9, g10, g11, g12, g13, g14, g15⟩ := g
      obtain ⟨i1, i2, i3, i4, i5, i6, i7, i8⟩ : g1 = d.name ∧ g2 = d.qual ∧ g3 = d.params ∧ g4 = .stmts d.body ∧ g5 = d.scope ∧ g6 = mainGlobals ∧ g7 = [] ∧ g15 = builtinsNs := by
        have e' : (some (g1, g2, g3, g4, g5, g6, g7, g15) : He.FnW) = some (d.name, d.qual, d.params, .stmts d.body, d.scope, mainGlobals, [], builtinsNs) := e
        simpa only [Option.some.injEq, Prod.mk.injEq] using e'
      subst i1 i2 i3 i4 i5 i6 i7 i8
      obtain ⟨j1, j2⟩ := Bool.and_eq_true_iff.mp (show (PySem.W.codeIn K g13 d.qual && (He.dflB K g8 (d.dvs K) && He.kwdB K g9 (d.kws K))) = true from c2)
      obtain ⟨j3, j4⟩ := Bool.and_eq_true_iff.mp j2
      exact ⟨_, ⟨o1, o2, g8, g9, g10, g11, g12, g13, g14, o4, rfl, hq, j1, He.dflB_ok j3, He.kwdB_ok j4⟩, kp⟩
    | _ => exact absurd c2 (by simp)
/-! ### the Hook over facts of any kind -/
theorem obZ_eq {n : Nat} {fb : List (PySem.W.Frag → Bool)} {fn : List DefY} (s : PySem.W.SharedT) : obZ n fb fn s = (hookZ n fb fn).obs s.abs := by
  unfold obZ
  rw [show HandSHeadRun.getT s = s.abs.heap.get? from funext (HandSHeadRun.getT_eq s)]
  rfl
section
variable {fb : List (PySem.W.Frag → Bool)} {fn : List DefY} {K : PySem.W.Frag}
theorem SaysZ.at_ (c : SaysZ fb fn K) (i : Nat) {f : PySem.W.Frag → Bool} (h : fb[i]? = some f := by rfl) : f K = true := by
  have h1 : ((fb.all fun f => f K) && fn.all fun d => d.ok K) = true := congrArg Prod.fst c
  exact List.all_eq_true.mp (Bool.and_eq_true_iff.mp h1).1 f (List.mem_of_getElem? h)
theorem SaysZ.def_ (c : SaysZ fb fn K) (i : Nat) {d : DefY} (h : fn[i]? = some d := by rfl) : ∃ fd, FunD K d.name d.qual d.params d.body d.scope (d.dvs K) (d.kws K) (d.ad K) fd := by
  have h1 : ((fb.all fun f => f K) && fn.all fun d => d.ok K) = true := congrArg Prod.fst c
  have h2 : (fn.map fun d => fnY K (d.ad K)) = fn.map DefY.val := congrArg Prod.snd c
  refine DefY.funD ?_ (List.all_eq_true.mp (Bool.and_eq_true_iff.mp h1).2 d (List.mem_of_getElem? h))
  have h3 := congrArg (fun l : List He.FnW => l[i]?) h2
  simp only [List.getElem?_map, h, Option.map_some] at h3
  exact Option.some.inj h3
end
/-! ### facts -/
theorem fProp_ok {x m : Str} {K : PySem.W.Frag} (h : fProp x m K = true) : PropOf K (He.ga K x) m (cA x m K) (pA x m K) := by
  obtain ⟨h1, h⟩ := Bool.and_eq_true_iff.mp h
  obtain ⟨h2, h⟩ := Bool.and_eq_true_iff.mp h
  obtain ⟨h3, h4⟩ := Bool.and_eq_true_iff.mp h
  refine ⟨of_decide_eq_true h1, of_decide_eq_true h2, of_decide_eq_true h3, ?_⟩
  cases q : PySem.W.recIn K (cA x m K) "property" with
  | none => rw [q] at h4; cases h4
  | some l =>
    rw [q] at h4
    cases l with
    | nil => cases h4
    | cons v r =>
      cases v with
      | ref g => exact ⟨r, by rw [of_decide_eq_true h4]⟩
      | _ => cases h4
theorem fNil_ok {a : PySem.W.Frag → Addr} {K : PySem.W.Frag} (h : fNil a K = true) (G : Hp) : SqT K G (a K) [] := by
  unfold fNil at h
  cases q : K.lookup (a K) with
  | none => rw [q] at h; cases h
  | some ob =>
    rw [q] at h
    obtain ⟨o1, o2, o3, o4⟩ := ob
    cases o1 with
    | type c =>
      cases o3 with
      | seq its n =>
        obtain ⟨h1, h2⟩ := Bool.and_eq_true_iff.mp (show (decide (c = "tuple") && decide (its.size = 0)) = true from h)
        have hz := of_decide_eq_true h2
        have he : its.toList = [] := by
          apply List.eq_nil_of_length_eq_zero
          rw [Array.length_toList]
          exact hz
        exact .inr ⟨_, its, n, q, congrArg Value.type (of_decide_eq_true h1), rfl, by rw [hz]; exact Nat.zero_le _, by rw [he]; exact .nil⟩
      | _ => cases h
    | _ => cases o3 <;> cases h
end Ys
namespace Ys
open PySem PySem.Spec PyProof.Rows L2
/-! ### set(dict): the keys are texts -/
section
variable {P : Program} {w : World} {A : Around} {E : Value → Shared → Prop} {s : Shared}
theorem laid_nil (m f mv : Nat) (led pl : Bool) : SetTable.laid m f mv led pl #[] = some ({ mask := m, place := #[], dummies := #[], finger := f, led, moves := mv, plain := pl }, #[]) := by
  have e : SetTable.layClean m #[] = some (Array.replicate (m + 1) none) := rfl
  have e2 : ((List.range (m + 1)).filterMap fun j => ((Array.replicate (m + 1) (none : Option Nat)).getD j none).map (j, ·)) = [] := by
    rw [List.filterMap_eq_nil_iff]
    intro j _
    have : (Array.replicate (m + 1) (none : Option Nat)).getD j none = none := by
      simp [Array.getD]
    rw [this]
    rfl
  unfold SetTable.laid
  rw [e]
  show some (_, _) = _
  simp only [e2]
  rfl
theorem room_txt {a : Addr} {n : Nat} {Q : Unit → Shared → Prop} (ho : s.heap.get? a = some (Froz.sObj "set" (#[], 0, .fresh 0 0 (!w.params.followText "set-order")))) (hn : n ≤ 1000)
    (h : ∀ h' : Heap, Heap.SameBut a s.heap h' → TxSet P w h' a [] → Q () { s with heap := h' }) : wpAny (model P w) A (setRoomFor a n) Q E s := by
  have e1 : (Froz.sObj "set" (#[], 0, SetTable.fresh 0 0 (!w.params.followText "set-order"))).data = .set #[] 0 (.fresh 0 0 (!w.params.followText "set-order")) := rfl
  have hl : ∀ t : SetTable, t.led = (!w.params.followText "set-order") → (w.params.followText "set-order" = true ∨ t.led = true) := fun t e => by
    rw [e]
    cases w.params.followText "set-order"
    · exact .inr rfl
    · exact .inl rfl
  have tx : ∀ t : SetTable, t.place = #[] → t.led = (!w.params.followText "set-order") → t.fits 0 = true → TxSet P w (s.heap.update a (Obj.putSet #[] t)) a [] := fun t hp hl' hf =>
    ⟨(#[], 1, t), Heap.get?_update_self _ ho rfl, Froz.TxOk.nil hf, List.nodup_nil, (by show Ris t.place.toList; rw [hp]; exact List.Pairwise.nil), hl t hl'⟩
  unfold setRoomFor
  refine wpAny_bind (wpAny_setState_of ho e1 rfl ?_)
  dsimp only
  unfold SetTable.roomFor
  split
  · rename_i wanted hw
    split at hw
    · have hw := Option.some.inj hw
      have hw2 : wanted = (0 + n) * 2 := hw.symm
      have hsz : ¬ SetTable.sizeAbove wanted > sizeLine := by
        have key : (List.range 2002).all (fun k => decide (¬ SetTable.sizeAbove k > sizeLine)) = true := by decide +kernel
        exact of_decide_eq_true (List.all_eq_true.mp key wanted (List.mem_range.mpr (by omega)))
      rw [L2.setRelay_eq]
      refine wpAny_bind (wpAny_setState_of ho e1 rfl ?_)
      dsimp only
      rw [if_neg hsz]
      unfold SetTable.relaid
      have em : (#[] : Array (Int × Value)).map (·.1) = #[] := by simp
      rw [em, laid_nil]
      dsimp only
      have ef : ((#[] : Array Nat).filterMap fun i => (#[] : Array (Int × Value))[i]?) = #[] := by simp
      rw [ef]
      simp only [bne_self_eq_false, Bool.false_eq_true, if_false]
      refine wpAny_bind (wpAny_pure ?_)
      dsimp only
      exact wpAny_storeSet_of ho e1 (h _ (Heap.SameBut.update s.heap a _) (tx _ rfl rfl (by simp [SetTable.fits, SetTable.fill])))
    · cases hw
  · exact wpAny_pure (h s.heap (Heap.SameBut.refl a s.heap) ⟨_, ho, Froz.TxOk.nil rfl, List.nodup_nil, List.Pairwise.nil, hl _ rfl⟩)
theorem from_dict {id : String} {a d : Addr} {kvs : List (Key × Value)} {ep : Nat} {ks : List Str} {Q : Unit → Shared → Prop} (ho : s.heap.get? a = some (bare w)) (hd : s.heap.DictAt (mixKind P w) d kvs ep) (hk : kvs.map (·.1) = ks.map Sum.inr) (hs : (d == sysModules) = false) (few : ks.length ≤ 900)
    (h : ∀ (h' : Heap) (l' : List Str), Heap.SameBut a s.heap h' → TxSet P w h' a l' → (∀ x, x ∈ l' ↔ x ∈ ks) → l'.length ≤ ks.length → Q () { s with heap := h' }) : wpAny (model P w) A (Builtin.Frozenset.updateFrom id a (.ref d)) Q E s := by
  have hda := hd
  obtain ⟨o, es, e0, ex, e1, K1, K2, nd⟩ := hd
  have ne : d ≠ a := fun z => by
    rw [z, ho] at e0
    cases e0
    cases e1
  have ty : s.TypeIs (.ref d) "dict" := hda.dictOf.typeIs
  have hlen : es.size = ks.length := by
    have := K2.length
    rw [Array.length_toList] at this
    have h2 := congrArg List.length hk
    rw [List.length_map, List.length_map] at h2
    omega
  unfold Builtin.Frozenset.updateFrom
  have c1 := F.sub_dict_set
  have c2 : isSubtype (.type "dict") (.type "frozenset") = pure false := by rw [isSubtype_type]; kernel_rfl
  generalize hSR : setRoomFor = SR
  generalize hSA : setAddHashed = SA
  repeat (any_goals (first | assumption | wp_step))
  rw [e1]
  refine wpAny_pure ?_
  refine wpAny_bind (wpAny_dictEntries e0 e1 ?_)
  subst hSR
  refine wpAny_bind (room_txt ho (by omega) fun h1 sb1 T1 => ?_)
  have g1 : h1.get? d = some o := (sb1.2 d ne).trans e0
  refine wpAny_bind (wpAny_dictEntries g1 e1 ?_)
  refine wpAny_bind ?_
  rw [Std.Legacy.Range.forIn_eq_forIn_range']
  simp only [Std.Legacy.Range.size, Nat.sub_zero, Nat.add_sub_cancel, Nat.div_one]
  refine wpAny_forIn_list _ (fun rest _ s' => ∃ h2 i l2, s' = { s with heap := h2 } ∧ rest = List.range' i (es.size - i) ∧ i ≤ es.size ∧ Heap.SameBut a s.heap h2 ∧ TxSet P w h2 a l2 ∧ (∀ x, x ∈ l2 ↔ x ∈ ks.take i) ∧ l2.length ≤ i) _ ?_ ?_ _ _
    ⟨h1, 0, [], rfl, by simp, Nat.zero_le _, sb1, T1, by simp, Nat.le_refl _⟩
  · rintro x rest b s' ⟨h2, i, l2, rfl, hr, hi, sb2, T2, m2, len2⟩
    have hlt : i < es.size := by
      rcases Nat.lt_or_ge i es.size with q | q
      · exact q
      · rw [Nat.sub_eq_zero_of_le q] at hr
        cases hr
    have er : es.size - i = (es.size - (i + 1)) + 1 := by omega
    rw [er, List.range'_succ] at hr
    injection hr with r1 r2
    subst r1
    have g2 : h2.get? d = some o := (sb2.2 d ne).trans e0
    refine wpAny_bind (wpAny_dictEntries g2 e1 ?_)
    obtain ⟨k, hk1⟩ : ∃ k, ks[x]? = some k := ⟨ks[x]'(by omega), List.getElem?_eq_getElem _⟩
    obtain ⟨v, hv⟩ : ∃ v, kvs[x]? = some (Sum.inr k, v) := by
      have := congrArg (fun l : List Key => l[x]?) hk
      simp only [List.getElem?_map, hk1, Option.map_some] at this
      cases q : kvs[x]? with
      | none => rw [q] at this; cases this
      | some p =>
        rw [q] at this
        obtain ⟨p1, p2⟩ := p
        exact ⟨p2, by rw [show p1 = Sum.inr k from Option.some.inj this]⟩
    obtain ⟨key, hval⟩ := K2.get? (i := x) (e := es[x]) (by rw [Array.getElem?_toList]; exact Array.getElem?_eq_getElem hlt) hv
    obtain ⟨k', kk, hh⟩ := K1 es[x] (Array.getElem_mem hlt)
    have ek : k' = Sum.inr k := (mixKind P w).inj _ _ _ kk key
    rw [ek] at hh
    rw [Array.getElem?_eq_getElem hlt]
    dsimp only
    obtain ⟨u, eu⟩ : ∃ u, es[x].key = .str k u := by
      rcases keyIs_shape (show keyIs (Sum.inr k) es[x].key = true from key) with ⟨_, _, z, _⟩ | ⟨_, t, z, z2⟩
      · cases z
      · cases z
        exact ⟨t, z2⟩
    rw [eu, hh]
    subst hSA
    refine wpAny_bind (wpAny_holding ?_)
    refine add_txt (s := { s with heap := h2 }) T2 (by have : scanBound = scanBound := rfl; unfold scanBound; omega) fun b3 h3 l3 sb3 T3 m3 len3 => ?_
    have g3 : h3.get? d = some o := (sb3.2 d ne).trans g2
    refine wpAny_bind (wpAny_dictEpoch g3 e1 ?_)
    rw [if_neg (by simp)]
    refine wpAny_pure ⟨h3, x + 1, l3, rfl, r2, hlt, sb2.trans sb3, T3, fun y => ?_, by omega⟩
    rw [m3 y, m2 y, List.take_add_one, hk1]
    simp
  · rintro b s' ⟨h2, i, l2, rfl, hr, hi, sb2, T2, m2, len2⟩
    have : i = es.size := by
      rcases Nat.lt_or_ge i es.size with q | q
      · rw [show es.size - i = (es.size - (i + 1)) + 1 by omega, List.range'_succ] at hr
        cases hr
      · omega
    refine wpAny_pure (h h2 l2 sb2 T2 (fun y => ?_) (by omega))
    rw [m2 y, this, hlen, List.take_length]
end
end Ys
namespace Ys
open PySem PySem.Spec PyProof.Rows L2
section
variable {P : Program} {w : World} {A : Around} {E : Value → Shared → Prop} {s : Shared}
theorem make_dict {d : Addr} {kvs : List (Key × Value)} {ep : Nat} {ks : List Str} {Q : Value → Shared → Prop} (hh : A.handled = none) (hd : s.heap.DictAt (mixKind P w) d kvs ep) (hk : kvs.map (·.1) = ks.map Sum.inr) (hs : (d == sysModules) = false) (few : ks.length ≤ 900)
    (h : ∀ (h' : Heap) (tk : Nat) (l' : List Str), TxSet P w h' s.heap.objs.size l' → (∀ x, x ∈ l' ↔ x ∈ ks) → l'.length ≤ ks.length → (∀ b o, s.heap.get? b = some o → h'.get? b = some o) →
      Q (.ref s.heap.objs.size) { s with heap := h', toks := tk }) : wpAny (model P w) A (call (.type "set") [.ref d]) Q E s := by
  have a1 := F.called_set.made
  have a2 := F.called_set.sub
  have a3 := F.called_set.notType
  have a4 := F.called_set.canCreate
  have a5 := F.typeCall_set_1 (.ref d)
  obtain ⟨c, tl, a6⟩ := F.called_set.mro
  refine wpAny_call (codeAny_of_tree ?_)
  show wpAny _ _ (callAny (.type "set") _) _ _ _
  refine wpAny_pure ⟨Code.quiet_builtin _ (by decide +kernel), codeAny_builtin F.entry_type_call ?_⟩
  rw [Around.under_plain (weight_type_call_type "set" [.ref d] []) rfl]
  repeat (any_goals (first | assumption | wp_step))
  refine codeAny_mono (L2.code_set_led1 (.ref d) (E := E) (Q₁ := fun v z => v = .ref s.heap.objs.size ∧ z = { s with heap := s.heap.push (bare w) }) ⟨rfl, rfl⟩) fun r s1 hr => ?_
  cases r with
  | error e => exact hr
  | ok fl =>
    cases fl with
    | next => exact hr.elim
    | brk => exact hr.elim
    | cont => exact hr.elim
    | ret v =>
      obtain ⟨rfl, rfl⟩ := hr
      have b0 : (s.heap.push (bare w)).get? s.heap.objs.size = some (bare w) := Heap.get?_push_size _ rfl
      have b1 : Shared.TypeIs { s with heap := s.heap.push (bare w) } (.ref s.heap.objs.size) "set" := ⟨_, b0, rfl⟩
      have b2 := F.called_set.init.lookup
      have b3 := F.called_set.init.bind (.ref s.heap.objs.size)
      repeat (any_goals (first | assumption | wp_step))
      refine codeAny_mono (codeAny_call_builtin (R := wants (fun r z => r = .none ∧ ∃ h' tk l', z = { s with heap := h', toks := tk } ∧ TxSet P w h' s.heap.objs.size l' ∧ (∀ x, x ∈ l' ↔ x ∈ ks) ∧ l'.length ≤ ks.length ∧
          (∀ b o, s.heap.get? b = some o → h'.get? b = some o)) E) F.called_set.init.plain F.entry_set_init (check_set_init_1 b1 ?_)) fun r2 s2 hr2 => ?_
      · have k1 : ∀ b o, s.heap.get? b = some o → (s.heap.push (bare w)).get? b = some o := fun b o e => Heap.get?_push_of_some _ e
        unfold Builtin.«set.__init__» noKeywords
        generalize hU : @Builtin.Frozenset.updateFrom = U
        wp_walk
        subst hU
        refine from_dict (s := { s with heap := s.heap.push (bare w) }) b0 (hd.push _) hk hs few fun h' l' sb T' m len => ?_
        repeat (first
          | exact ⟨rfl, h', s.toks, l', rfl, T', m, len, fun b o e => (sb.2 b (Nat.ne_of_lt (Heap.lt_size e))).trans (Heap.get?_push_of_some _ e)⟩
          | refine wpAny_pure ?_
          | wp_step)
      · cases r2 with
        | error e => exact hr2
        | ok f2 =>
          cases f2 with
          | next => exact hr2.elim
          | brk => exact hr2.elim
          | cont => exact hr2.elim
          | ret r =>
            obtain ⟨rfl, h', tk, l', rfl, T', m, len, k⟩ := hr2
            repeat (any_goals (first | assumption | wp_step))
            exact h _ _ _ T' m len k
end
end Ys
/-! dicts: kept for good, walked, looked into, made -/
namespace Ys
open PySem PySem.Spec PyProof.Rows L2
section
variable {X : Cx} {K : PySem.W.Frag} {P : Program} {w : World} {G G1 H : Hp} {M M1 : List (Addr × HO)} {σ : L2.St} {Q : VK} {QB : Bool → Hp → Prop} {D : Ends} {ta tb te td tyy tk tv : TE} {t : TA} {g : TG} {tt : TT} {A B : Prop} {v x y : V} {i j : Int} {a b d p : Addr} {xs ys vs : List V} {o : HO} {od : Obj} {kvs : List (Key × V)} {k : Key} {R : It → Hp → Prop}
/-! ### a dict that is changed no more -/
def tFrz (t : TE) : TE := fun σ H Q => t σ H fun x H1 => ∃ d u, x = .ref d ∧ H1 d = some u ∧ Mut (some u) ∧ ∀ od, Q x (upd H1 d (.frz od u))
theorem pe_frz {e : Expr} (h : PE X e te) : PE X e (tFrz te) := by
  refine ⟨fun pins s σ H Q I q => ?_⟩
  refine wpAny_mono (h.run pins s σ H _ I q) (fun u s1 z => ?_) fun _ _ z => z
  obtain ⟨x, H1, I1, rx, d, ob, ex, hd, mu, q⟩ := z
  obtain ⟨od, I2⟩ := I1.lock hd mu
  exact ⟨x, _, I2, rx, q od⟩
def FzD (G : Hp) (d : Addr) (kvs : List (Key × V)) : Prop := ∃ od, G d = some (.frz od (.dK kvs))
theorem FzD.up (h : FzD G d kvs) (s : Same G G1) : FzD G1 d kvs := let ⟨o, e⟩ := h; ⟨o, s _ _ e⟩
theorem FzD.rd (h : FzD G d kvs) (z : Zp G M H) : Rd H d (.dK kvs) := let ⟨o, e⟩ := h; .inr ⟨o, z.sub _ _ e⟩
theorem FzD.ty (h : FzD G d kvs) : TyX K G (.ref d) (.type "dict") := let ⟨o, e⟩ := h; .fDict e
def FrzW (x : V) (H1 : Hp) (Q : VK) : Prop := ∃ d u, x = .ref d ∧ H1 d = some u ∧ Mut (some u) ∧ ∀ od, Q x (upd H1 d (.frz od u))
theorem z_frz (h : te σ H fun x H1 => FrzW x H1 Q) : tFrz te σ H Q := h
theorem z_frzL (z : Zp G (M ++ [(d, .dK kvs)]) H) (q : ∀ G1 H1, Zp G1 M H1 → Same G G1 → FzD G1 d kvs → Q (.ref d) H1) : FrzW (.ref d) H Q := by
  refine ⟨d, _, rfl, z.at_ M.length last_at, trivial, fun od => ?_⟩
  have fr : G d = none := (z.own M.length _ _ last_at).2
  have z1 := z.put M.length last_at (.frz od (.dK kvs))
  rw [List.set_append_right _ _ (Nat.le_refl _), Nat.sub_self] at z1
  exact q _ _ z1.fix (Same.new fr) ⟨od, upd_same⟩
/-! ### walks -/
theorem src_K : Src (Itk d od kvs) (kvs.map (fun p => kV p.1)) (fun H => H d = some (.frz od (.dK kvs))) where
  go := fun i H h hi => ⟨h, by simpa using hi⟩
  stop := fun i H h hi => ⟨h, by simpa using hi⟩
  yld := fun i H x H' h hi y => by
    obtain ⟨e, k, v, e1, rfl⟩ := y
    exact ⟨e, by rw [List.getElem?_map, e1]; rfl⟩
theorem src_V : Src (Itd d od kvs) (kvs.map (·.2)) (fun H => H d = some (.frz od (.dK kvs))) where
  go := fun i H h hi => ⟨h, by simpa using hi⟩
  stop := fun i H h hi => ⟨h, by simpa using hi⟩
  yld := fun i H x H' h hi y => by
    obtain ⟨e, k, e1⟩ := y
    exact ⟨e, by rw [List.getElem?_map, e1]; rfl⟩
def ItKW (x : V) (H1 : Hp) (R : It → Hp → Prop) : Prop := ∃ d o, x = .ref d ∧ ((∃ kvs, H1 d = some (.frz o (.dK kvs)) ∧ R (Itk d o kvs) H1) ∨ ∃ kvs, H1 d = some (.frz o (.dT kvs)) ∧ R (Itkt d o kvs) H1)
theorem z_iK (h : td σ H fun x H1 => ItKW x H1 R) : iKeys td σ H R := h
theorem z_itK (z : Zp G M H) (h : G d = some (.frz od (.dK kvs))) (q : R (Itk d od kvs) H) : ItKW (.ref d) H R := ⟨d, od, rfl, .inl ⟨kvs, z.sub _ _ h, q⟩⟩
def ItVW (x : V) (H1 : Hp) (R : It → Hp → Prop) : Prop := ∃ d o kvs, x = .ref d ∧ H1 d = some (.frz o (.dK kvs)) ∧ R (Itd d o kvs) H1
theorem z_iV (h : td σ H fun x H1 => ItVW x H1 R) : iVals td σ H R := h
theorem z_itV (z : Zp G M H) (h : G d = some (.frz od (.dK kvs))) (q : R (Itd d od kvs) H) : ItVW (.ref d) H R := ⟨d, od, kvs, rfl, z.sub _ _ h, q⟩
def ItIW (x : V) (H1 : Hp) (R : It → Hp → Prop) : Prop := ∃ d o kvs, x = .ref d ∧ H1 d = some (.frz o (.dK kvs)) ∧ R (Iti d o kvs) H1
theorem z_iI (h : td σ H fun x H1 => ItIW x H1 R) : iItems td σ H R := h
theorem z_itI (z : Zp G M H) (h : G d = some (.frz od (.dK kvs))) (q : R (Iti d od kvs) H) : ItIW (.ref d) H R := ⟨d, od, kvs, rfl, z.sub _ _ h, q⟩
theorem for_items {ts : TS} (I : Nat → L2.St → Hp → List (Addr × HO) → Prop) (z : Zp G M H) (h0 : I 0 σ G M) (fz : ∀ i σ G' M', I i σ G' M' → G' d = some (.frz od (.dK kvs)))
    (turn : ∀ i k v T σ G' M' G2 H', kvs[i]? = some (k, v) → I i σ G' M' → Zp G2 M' H' → Same G' G2 → G2 T = some (.tup [kV k, v]) →
      g (.ref T) σ H' fun σ2 H2 => ts ⟨fun σ' H' => ∃ G' M', Zp G' M' H' ∧ I (i + 1) σ' G' M', D.rt, D.nx, fun σ' H' => ∃ G' M', Zp G' M' H' ∧ I (i + 1) σ' G' M'⟩ σ2 H2)
    (done : ∀ σ G M H, I kvs.length σ G M → Zp G M H → D.nx σ H) : ForW (Iti d od kvs) g ts D σ H := by
  refine ⟨fun i m σ H => m = kvs.length - i ∧ i ≤ kvs.length ∧ ∃ G M, Zp G M H ∧ I i σ G M, ⟨kvs.length, by simp, Nat.zero_le _, G, M, z, h0⟩, ?_⟩
  rintro i m σ H ⟨rfl, hi, G, M, z, h⟩
  have o := z.sub _ _ (fz i σ G M h)
  by_cases c : i < kvs.length
  · refine .inr ⟨⟨o, c⟩, fun σ' H' => ∃ G' M', Zp G' M' H' ∧ I (i + 1) σ' G' M', fun σ' H' q => ⟨kvs.length - (i + 1), by omega, rfl, c, q⟩, fun x H' y => ?_⟩
    obtain ⟨T, k, v, e, rfl, hT, rfl⟩ := y
    exact turn i k v T σ G M _ _ e h (z.new hT _) (Same.new (z.free hT)) upd_same
  · obtain rfl : i = kvs.length := by omega
    exact .inl ⟨⟨o, Nat.le_refl _⟩, done σ G M H h z⟩
/-! ### looks -/
def DgW (x y : V) (H2 : Hp) (Q : VK) : Prop := ∃ a v, x = .ref a ∧ DGet H2 a y (some v) ∧ Q v H2
theorem z_dgt (h : td σ H fun x H1 => tyy σ H1 fun y H2 => DgW x y H2 Q) : tDGet td tyy σ H Q := h
theorem z_dgF (z : Zp G M H) (h : FzD G d kvs) (e : valV kvs k = some v) (q : Q v H) : DgW (.ref d) (kV k) H Q := ⟨d, v, rfl, .inl ⟨kvs, k, h.rd z, rfl, e.symm⟩, q⟩
def DiW (neg : Bool) (y x : V) (H2 : Hp) (Q : VK) : Prop := ∃ a o, x = .ref a ∧ DGet H2 a y o ∧ Q (.bl (if neg then !o.isSome else o.isSome)) H2
theorem z_din (h : tyy σ H fun y H1 => td σ H1 fun x H2 => DiW false y x H2 Q) : tDIn tyy td σ H Q := h
theorem z_dnin (h : tyy σ H fun y H1 => td σ H1 fun x H2 => DiW true y x H2 Q) : tDNotIn tyy td σ H Q := h
theorem z_diF {neg : Bool} (z : Zp G M H) (h : FzD G d kvs) (q : Q (.bl (if neg then !(valV kvs k).isSome else (valV kvs k).isSome)) H) : DiW neg (kV k) (.ref d) H Q := ⟨d, _, rfl, .inl ⟨kvs, k, h.rd z, rfl, rfl⟩, q⟩
/-! ### dicts that are made -/
def DcW (J : It) (g : TG) (tt : TT) (tk tv : TE) (ws : List Nat) (σ : L2.St) (H1 : Hp) (Q : VK) : Prop := ∀ D, H1 D = none → ∃ W : Nat → Nat → Hp → Prop, (∃ m, W 0 m (upd H1 D (.dK []))) ∧ ∀ i m H, W i m H →
  (J.stop i H ∧ Q (.ref D) H) ∨ (J.go i H ∧ ∃ Nx : Hp → Prop, (∀ H', Nx H' → ∃ m', m' < m ∧ W (i + 1) m' H') ∧ ∀ x H', J.yld i H x H' → g x (wipe σ ws) H' fun σ2 H2 => wipe σ2 ws = wipe σ ws ∧ tt σ2 H2 fun b H3 =>
    if b = true then tk σ2 H3 fun y H4 => tv σ2 H4 fun z H5 => ∃ kvs k, y = kV k ∧ H5 D = some (.dK kvs) ∧ kvs.length < sizeLine ∧ Nx (upd H5 D (.dK (putK kvs k z))) else Nx H3)
theorem z_dc {wi : TI} {ws : List Nat} (h : wi σ H fun J H1 => DcW J g tt tk tv ws σ H1 Q) : tDc wi g tt tk tv ws σ H Q := h
def KeptD (I : Hp → List (Addr × HO) → List (Key × V) → Prop) (D : Addr) (H : Hp) : Prop := ∃ G M acc, Zp G (M ++ [(D, .dK acc)]) H ∧ I G M acc
def LaidD (I : Hp → List (Addr × HO) → List (Key × V) → Prop) (D : Addr) (y z : V) (H : Hp) : Prop := ∃ acc k, y = kV k ∧ H D = some (.dK acc) ∧ acc.length < sizeLine ∧ KeptD I D (upd H D (.dK (putK acc k z)))
theorem z_laidD {I : Hp → List (Addr × HO) → List (Key × V) → Prop} {Dl : Addr} {acc : List (Key × V)} (z : Zp G (M ++ [(Dl, .dK acc)]) H) (hl : acc.length ≤ 100000) (q : I G M (putK acc k y)) : LaidD I Dl (kV k) y H := by
  refine ⟨acc, k, rfl, z.at_ M.length last_at, Nat.lt_of_le_of_lt hl (by decide), G, M, _, ?_, q⟩
  have := z.put M.length last_at (.dK (putK acc k y))
  rw [List.set_append_right _ _ (Nat.le_refl _), Nat.sub_self] at this
  exact this
theorem z_leftD {I : Hp → List (Addr × HO) → List (Key × V) → Prop} {Dl : Addr} {acc : List (Key × V)} (z : Zp G (M ++ [(Dl, .dK acc)]) H) (q : I G M acc) : KeptD I Dl H := ⟨G, M, acc, z, q⟩
theorem dc_src {J : It} {ws : List Nat} {OK : Hp → Prop} (S : Src J xs OK) (I : Nat → Hp → List (Addr × HO) → List (Key × V) → Prop) (z : Zp G M H) (h0 : I 0 G M []) (ok : ∀ i G M M1 acc H, I i G M acc → Zp G (M ++ M1) H → OK H)
    (turn : ∀ i x G M acc Dl H, xs[i]? = some x → I i G M acc → Zp G (M ++ [(Dl, .dK acc)]) H → g x (wipe σ ws) H fun σ2 H2 => wipe σ2 ws = wipe σ ws ∧ tt σ2 H2 fun b H3 =>
      Bif b (tk σ2 H3 fun y H4 => tv σ2 H4 fun z H5 => LaidD (I (i + 1)) Dl y z H5) (KeptD (I (i + 1)) Dl H3))
    (done : ∀ p G M acc H1, I xs.length G M acc → Zp G (M ++ [(p, .dK acc)]) H1 → Q (.ref p) H1) : DcW J g tt tk tv ws σ H Q := by
  intro Dl hD
  refine ⟨fun i m H => m = xs.length - i ∧ i ≤ xs.length ∧ KeptD (I i) Dl H, ⟨xs.length, by simp, Nat.zero_le _, G, M, [], z.add hD _, h0⟩, ?_⟩
  rintro i m H ⟨rfl, hi, G, M, acc, z, h⟩
  have o := ok i G M _ acc H h z
  by_cases c : i < xs.length
  · refine .inr ⟨S.go i H o c, KeptD (I (i + 1)) Dl, fun H' q => ⟨xs.length - (i + 1), by omega, rfl, c, q⟩, fun x H' y => ?_⟩
    obtain ⟨rfl, e⟩ := S.yld i H x H' o c y
    exact turn i x G M acc Dl H' e h z
  · obtain rfl : i = xs.length := by omega
    exact .inl ⟨S.stop _ H o (Nat.le_refl _), done Dl G M acc _ h z⟩
/-! ### two fors in one comprehension -/
def Lc2T (J1 : It) (g1 : TG) (tt1 : TT) (te : TE) (vs1 : List Nat) (D : Addr) (Nx : Hp → Prop) (σ2 : L2.St) (H4 : Hp) : Prop := ∃ W1 : Nat → Nat → Hp → Prop, (∃ m, W1 0 m H4) ∧ ∀ j k H, W1 j k H →
  (J1.stop j H ∧ Nx H) ∨ (J1.go j H ∧ ∃ Nx1 : Hp → Prop, (∀ H', Nx1 H' → ∃ k', k' < k ∧ W1 (j + 1) k' H') ∧ ∀ x H', J1.yld j H x H' → g1 x (wipe σ2 vs1) H' fun σ3 H5 => wipe σ3 vs1 = wipe σ2 vs1 ∧ tt1 σ3 H5 fun b H6 =>
    if b = true then te σ3 H6 fun y H7 => ∃ acc, H7 D = some (.lst acc) ∧ acc.length < sizeLine ∧ Nx1 (upd H7 D (.lst (acc ++ [y]))) else Nx1 H6)
def Lc2W (J : It) (g : TG) (tt : TT) (wi1 : TI) (g1 : TG) (tt1 : TT) (te : TE) (ws ws1 : List Nat) (σ : L2.St) (H1 : Hp) (Q : VK) : Prop := ∀ D, H1 D = none → ∃ W : Nat → Nat → Hp → Prop, (∃ m, W 0 m (upd H1 D (.lst []))) ∧ ∀ i m H, W i m H →
  (J.stop i H ∧ Q (.ref D) H) ∨ (J.go i H ∧ ∃ Nx : Hp → Prop, (∀ H', Nx H' → ∃ m', m' < m ∧ W (i + 1) m' H') ∧ ∀ x H', J.yld i H x H' → g x (wipe σ ws) H' fun σ2 H2 => wipe σ2 ws = wipe σ ws ∧ tt σ2 H2 fun b H3 =>
    if b = true then wi1 σ2 H3 fun J1 H4 => Lc2T J1 g1 tt1 te ws1 D Nx σ2 H4 else Nx H3)
theorem z_lc2 {wi wi1 : TI} {g1 : TG} {tt1 : TT} {ws ws1 : List Nat} (h : wi σ H fun J H1 => Lc2W J g tt wi1 g1 tt1 te ws ws1 σ H1 Q) : tLc2 wi g tt wi1 g1 tt1 te ws ws1 σ H Q := h
theorem lc2_src {wi1 : TI} {g1 : TG} {tt1 : TT} {J : It} {ws ws1 : List Nat} {OK : Hp → Prop} (S : Src J xs OK) (I : Nat → Hp → List (Addr × HO) → List V → Prop) (z : Zp G M H) (h0 : I 0 G M []) (ok : ∀ i G M M1 acc H, I i G M acc → Zp G (M ++ M1) H → OK H)
    (turn : ∀ i x G M acc Dl H, xs[i]? = some x → I i G M acc → Zp G (M ++ [(Dl, .lst acc)]) H → g x (wipe σ ws) H fun σ2 H2 => wipe σ2 ws = wipe σ ws ∧ tt σ2 H2 fun b H3 =>
      Bif b (wi1 σ2 H3 fun J1 H4 => Lc2T J1 g1 tt1 te ws1 Dl (Kept (I (i + 1)) Dl) σ2 H4) (Kept (I (i + 1)) Dl H3))
    (done : ∀ p G M acc G1 H1, I xs.length G M acc → Same G G1 → Zp G1 M H1 → G1 p = some (.lst acc) → Q (.ref p) H1) : Lc2W J g tt wi1 g1 tt1 te ws ws1 σ H Q := by
  intro Dl hD
  refine ⟨fun i m H => m = xs.length - i ∧ i ≤ xs.length ∧ Kept (I i) Dl H, ⟨xs.length, by simp, Nat.zero_le _, G, M, [], z.add hD _, h0⟩, ?_⟩
  rintro i m H ⟨rfl, hi, G, M, acc, z, h⟩
  have o := ok i G M _ acc H h z
  by_cases c : i < xs.length
  · refine .inr ⟨S.go i H o c, Kept (I (i + 1)) Dl, fun H' q => ⟨xs.length - (i + 1), by omega, rfl, c, q⟩, fun x H' y => ?_⟩
    obtain ⟨rfl, e⟩ := S.yld i H x H' o c y
    exact turn i x G M acc Dl H' e h z
  · obtain rfl : i = xs.length := by omega
    refine .inl ⟨S.stop _ H o (Nat.le_refl _), done Dl G M acc _ H h (Same.new ?_) z.fix upd_same⟩
    exact (z.own M.length _ _ last_at).2
theorem lc2_in {g1 : TG} {tt1 : TT} {J1 : It} {ws1 : List Nat} {OK : Hp → Prop} {Dl : Addr} {acc : List V} {Nx : Hp → Prop} (S : Src J1 ys OK) (I : Nat → Hp → List (Addr × HO) → List V → Prop) (z : Zp G (M ++ [(Dl, .lst acc)]) H) (h0 : I 0 G M acc) (ok : ∀ i G M M1 acc H, I i G M acc → Zp G (M ++ M1) H → OK H)
    (turn : ∀ i x G M acc H, ys[i]? = some x → I i G M acc → Zp G (M ++ [(Dl, .lst acc)]) H → g1 x (wipe σ ws1) H fun σ2 H2 => wipe σ2 ws1 = wipe σ ws1 ∧ tt1 σ2 H2 fun b H3 =>
      Bif b (te σ2 H3 fun y H4 => Laid (I (i + 1)) Dl y H4) (Kept (I (i + 1)) Dl H3))
    (done : ∀ G M acc H1, I ys.length G M acc → Zp G (M ++ [(Dl, .lst acc)]) H1 → Nx H1) : Lc2T J1 g1 tt1 te ws1 Dl Nx σ H := by
  refine ⟨fun i m H => m = ys.length - i ∧ i ≤ ys.length ∧ Kept (I i) Dl H, ⟨ys.length, by simp, Nat.zero_le _, G, M, acc, z, h0⟩, ?_⟩
  rintro i m H ⟨rfl, hi, G, M, acc, z, h⟩
  have o := ok i G M _ acc H h z
  by_cases c : i < ys.length
  · refine .inr ⟨S.go i H o c, Kept (I (i + 1)) Dl, fun H' q => ⟨ys.length - (i + 1), by omega, rfl, c, q⟩, fun x H' y => ?_⟩
    obtain ⟨rfl, e⟩ := S.yld i H x H' o c y
    exact turn i x G M acc H' e h z
  · obtain rfl : i = ys.length := by omega
    exact .inl ⟨S.stop _ H o (Nat.le_refl _), done G M acc H h z⟩
/-! ### what is built in, of dicts -/
def rDictP (K : PySem.W.Frag) : List V → Hp → VK → Prop := fun xs H Q => ∃ (a : Addr) (ps : List Addr) (kvs : List (Key × V)), xs = [.ref a] ∧ SqL K H a (ps.map V.ref) ∧ Paired (fun p kv => SqT K H p [kV kv.1, kv.2]) ps kvs ∧
  ∀ p, H p = none → Q (.ref p) (upd H p (.dK (mergeK [] kvs)))
theorem c_dictP (hcalm : X.calm = true) (e : X.K = K := by rfl) : CallR X (.type "dict") (rDictP K) := e ▸ call_dictP hcalm
theorem z_dictP {ps : List Addr} (z : Zp G M H) (h : SqL K G a (ps.map V.ref)) (hp : Paired (fun p (kv : Key × V) => SqT K G p [kV kv.1, kv.2]) ps kvs) (q : ∀ p H1, Zp G (M ++ [(p, .dK (mergeK [] kvs))]) H1 → Q (.ref p) H1) : rDictP K [.ref a] H Q :=
  ⟨a, ps, kvs, rfl, z.seqL h, L2.Paired.mapP hp fun _ _ h => z.seqT h, fun p hp => q p _ (z.add hp _)⟩
def rDictD : List V → Hp → VK → Prop := fun xs H Q => ∃ (a : Addr) (kvs : List (Key × V)), xs = [.ref a] ∧ Rd H a (.dK kvs) ∧ ∀ p, H p = none → Q (.ref p) (upd H p (.dK kvs))
theorem c_dictD : CallR X (.type "dict") rDictD := call_dictD
theorem z_dictD (z : Zp G M H) (h : FzD G d kvs) (q : ∀ p H1, Zp G (M ++ [(p, .dK kvs)]) H1 → Q (.ref p) H1) : rDictD [.ref d] H Q := ⟨d, kvs, rfl, h.rd z, fun p hp => q p _ (z.add hp _)⟩
def rLenD : List V → Hp → VK → Prop := fun xs H Q => ∃ (a : Addr) (kvs : List (Key × V)), xs = [.ref a] ∧ Rd H a (.dK kvs) ∧ Q (.int kvs.length) H
theorem c_lenD : CallR X (.builtin "len") rLenD := by
  intro pins s σ H vs us Q I r h
  obtain ⟨a, kvs, rfl, ha, q⟩ := h
  rw [Vals.ref1 r]
  exact d_len I ha fun t s' I' => ⟨.int kvs.length, H, I', ⟨t, rfl⟩, q⟩
theorem z_lenD (z : Zp G M H) (h : FzD G d kvs) (q : Q (.int kvs.length) H) : rLenD [.ref d] H Q := ⟨d, kvs, rfl, h.rd z, q⟩
def rSetD (P : Program) (w : World) : List V → Hp → VK → Prop := fun vs H Q => ∃ (d : Addr) (od : Obj) (kvs : List (Key × V)) (ks : List Str), vs = [V.ref d] ∧ H d = some (.frz od (.dK kvs)) ∧ kvs.map (·.1) = ks.map .inr ∧ ks.length ≤ 900 ∧
  ∀ a l, (∀ x, x ∈ l ↔ x ∈ ks) → l.Nodup → l.length ≤ ks.length → H a = none → Q (.ref a) (upd H a (TxO P w a l))
theorem cr_setD (hc : X.calm = true) : CallR X (.type "set") (rSetD X.prog X.w) := by
  intro pins s σ H vs us Q I r h
  obtain ⟨d, od, kvs, ks, rfl, hd, hk, few, q⟩ := h
  rw [Vals.ref1 r]
  obtain ⟨hs, hgd, hx, es, ep, vs, hdt, hsz, kv, hm⟩ := I.frzK hd
  refine make_dict (I.ok.hd hc) hm ((KV.keys kv).symm.trans hk) hs few fun h' tk l' T' m len k => ?_
  have nd : l'.Nodup := let ⟨_, _, _, nd, _⟩ := T'; nd
  exact ⟨.ref s.heap.objs.size, upd H s.heap.objs.size (TxO X.prog X.w s.heap.objs.size l'), I.laid (t' := tk) k (Nat.le_refl _) (txO_ok T'), rfl, q _ l' m nd len (I.hok.fresh (Nat.le_refl _))⟩
theorem kc_setD (hc : X.calm = true) (e1 : X.prog = P := by rfl) (e2 : X.w = w := by rfl) : CallR X (.type "set") (rSetD P w) := by subst e1; subst e2; exact cr_setD hc
theorem z_setD {ks : List Str} (z : Zp G M H) (h : FzD G d kvs) (hk : kvs.map (·.1) = ks.map .inr) (hl : ks.length ≤ 900)
    (q : ∀ p l G1 H1, Zp G1 M H1 → Same G G1 → G1 p = some (TxO P w p l) → (∀ x, x ∈ l ↔ x ∈ ks) → l.Nodup → l.length ≤ ks.length → Q (.ref p) H1) : rSetD P w [.ref d] H Q := by
  obtain ⟨od, e⟩ := h
  exact ⟨d, od, kvs, ks, rfl, z.sub _ _ e, hk, hl, fun p l m nd len hp => q p l _ _ (z.new hp _) (Same.new (z.free hp)) upd_same m nd len⟩
theorem kc_sum (hc : X.calm = true) (e : X.K = K := by rfl) : CallR X (.builtin "sum") (rSum K) := e ▸ cr_sum hc
theorem kc_max (hc : X.calm = true) (e : X.K = K := by rfl) : CallR X (.builtin "max") (rMax K) := e ▸ cr_max hc
theorem z_sum {ns : List Int} (z : Zp G M H) (h : SqL K G a (ns.map V.int)) (q : Q (.int ns.sum) H) : rSum K [.ref a] H Q := ⟨a, ns, rfl, z.seqL h, q⟩
theorem z_max {ns : List Int} {m : Int} (z : Zp G M H) (h : SqL K G a (ns.map V.int)) (hm : m ∈ ns) (h1 : ∀ y ∈ ns, y ≤ m) (q : Q (.int m) H) : rMax K [.ref a] H Q :=
  ⟨a, ns, rfl, z.seqL h, List.length_pos_of_mem hm, fun m' hm' h2 => by
    obtain rfl : m = m' := Int.le_antisymm (h2 m hm) (h1 m' hm')
    exact q⟩
/-! ### keys and values -/
theorem valV_ix : ∀ {kvs : List (Key × V)} {i : Nat} {k : Key} {v : V}, (kvs.map (·.1)).Nodup → kvs[i]? = some (k, v) → valV kvs k = some v
  | [], _, _, _, _, h => by simp at h
  | p :: r, 0, k, v, nd, h => by
    obtain rfl : p = (k, v) := by simpa using h
    exact valV_pos rfl
  | p :: r, i + 1, k, v, nd, h => by
    have h' : r[i]? = some (k, v) := by simpa using h
    obtain ⟨n1, n2⟩ := List.nodup_cons.mp nd
    rw [valV_neg (p := p) fun e : p.1 = k => n1 (List.mem_map.mpr ⟨(k, v), List.mem_of_getElem? h', e.symm⟩)]
    exact valV_ix n2 h'
theorem valV_out {kvs : List (Key × V)} {k : Key} (h : k ∉ kvs.map (·.1)) : valV kvs k = none := by
  cases e : valV kvs k with
  | none => rfl
  | some v => exact absurd (valV_in e) h
theorem valV_isin {kvs : List (Key × V)} {k : Key} (h : k ∈ kvs.map (·.1)) : (valV kvs k).isSome = true := by
  cases e : valV kvs k with
  | some v => rfl
  | none => exact absurd h (valV_not e)
end
end Ys
namespace Ys
open PySem PySem.Spec PyProof.Rows L2
/-! ### an own exception's __init__ that says super().__init__(x), self.f = x -/
structure SupF (P : Program) (K : PySem.W.Frag) (C fI : Addr) (fld qual : Str) (params : Arguments) (body : List Stmt) (scope : Scope) (fd : FuncData) : Prop where
  ex : ∃ oc od osl dV kV doc pm an cda ct cc, fd = PySem.W.ksFn "__init__" qual params body scope dV kV doc pm an (.ref cda) ct cc ∧ K.lookup fI = some ⟨oc, od, .func fd, osl⟩ ∧ PySem.W.codeIn K (.ref cda) qual = true ∧
    (∃ ccl cdd vs ccs file tf, K.lookup cda = some ⟨ccl, cdd, .fields vs, ccs⟩ ∧ vs[2]? = some (.str file tf) ∧ ((P.main.file : Str) == file) = true) ∧ ∃ cl cld csl, K.lookup cc = some ⟨cl, cld, .cell (some (.ref C)), csl⟩
  sup : PySem.W.ks_superIn K C C "__init__" = some (some (.builtin "ValueError.__init__"))
  subV : PySem.W.subIn K (.ref C) (.type "ValueError") = some true
  opq : PySem.W.nsIn K cStatics "thirdparty.any" = some none
  gs : PySem.W.nsIn K mainGlobals "super" = some none
  no : PySem.W.findIn K (.ref C) fld = some none
  mro : PySem.W.mroIn K C (.ref C) = some true
structure SupS (x : Str) (params : Arguments) (scope : Scope) : Prop where
  nc : ∀ y ∈ scope.names, y.2 ≠ .cell
  ns : scope.names.lookup ("super" : Str) = some .globalImplicit
  nk : scope.names.lookup ("__class__" : Str) = some .free
  n1 : scope.names.lookup ("self" : Str) = some .local
  n2 : scope.names.lookup x = some .local
  co : scope.isCoroutine = false
  ge : scope.isGenerator = false
  ki : scope.kind = .function
  hd : ∃ ar, (params.posonlyargs ++ params.args).head? = some ar ∧ ar.arg = "self"
  ne : ("self" : Str) ≠ x
  nd : (x == ("__debug__" : Str)) = false
section
variable {P : Program} {w : World} {K : PySem.W.Frag} {C fI a t0 : Addr} {x fld qual : Str} {params : Arguments} {scope : Scope} {p0 p1 p2 p3 p4 p5 p6 p7 p8 p9 : Pos} {A : Around} {mg mb : Str → Option Value} {v : Value} {R : Result → Shared → Prop} {fd : FuncData} {hp : Heap} {g : Array GenState} {d : Drawn} {t : Nat} {os : OsState}
theorem call_mwV {mw : Addr} {us : List Value} {nm q : Str} {N : Addr} {bs bm : List Value} {hd : Bool} {sn : List Str} {sub : List Value} {ab : Bool} {col : Option Bool} {dd : Option Addr} {k0 k1 k2 k3 k5 : Option Value} {Q : Value → Shared → Prop} {E : Value → Shared → Prop}
    (hC : hp.get? C = some (excClassObj nm q C N bs bm hd sn sub ab col dd k0 k1 k2 k3 k5 "ValueError.__new__")) (_hT : ∀ Y : String, bm.contains (.type Y) = PySem.HandSPX.veTail.contains (.type Y)) (hx : hp.get? a = some (PySem.HandSPX.excO C t0)) (hu : hp.get? mw = some (PySem.W.kxs_mw "ValueError.__init__" a)) (hz : us.length ≤ sizeLine)
    (hq : ∀ h' t1, (∀ b o, b ≠ a → hp.get? b = some o → h'.get? b = some o) → h'.get? a = some (PySem.HandSPX.excO C t1) → Q .none ⟨h', g, d, t, os⟩) : wpAny (model P w) A (call (.ref mw) us) Q E ⟨hp, g, d, t, os⟩ := by
  refine wpAny_call (codeAny_of_tree ?_)
  show wpAny _ A.in1 (callAny (.ref mw) ⟨us, []⟩) _ _ _; simp only [callAny]
  refine wpAny_bind (wpAny_load hu ?_)
  have q1 : (Value.type "method-wrapper" == Value.type "method" || Value.type "method-wrapper" == Value.type "builtin_function_or_method" || Value.type "method-wrapper" == Value.type "method-wrapper") = true := by decide
  simp only [PySem.W.kxs_mw, q1, if_true]
  refine PySem.W.KFB.if_so (by decide) (wpAny_bind (PySem.W.check_bound_init F.excBase_ValueError.toExcCallFacts hC hx rfl ?_))
  refine wpAny_bind (wpAny_pure (wpAny_pure ⟨plainId_quiet F.excBase_ValueError.init.plain _, codeAny_builtin F.excBase_ValueError.initEntry ?_⟩))
  exact PySem.W.exc_init_tree (cls := .ref C) (t0 := t0) (dv := none) (c2 := .none) (c3 := .none) (b4 := .bool false) hx hz fun h' k e _ => hq h' _ k e
def supBody (x fld : Str) (p0 p1 p2 p3 p4 p5 p6 p7 p8 p9 : Pos) : List Stmt := [.Expr (.Call (.Attribute (.Call (.Name "super" p0) [] [] p1) "__init__" p2) [.Name x p3] [] p4) p5, .Assign [.Attribute (.Name "self" p6) fld p7] (.Name x p8) p9]
theorem run_sup (S : SupF P K C fI fld qual params (supBody x fld p0 p1 p2 p3 p4 p5 p6 p7 p8 p9) scope fd) (Z : SupS x params scope) (T : OexC K C) (X : K.In hp) (hg : hp.Ns mainGlobals mg) (hb : hp.Ns builtinsNs mb) (hbb : ∀ y : Str, y ≠ "__name__" → mb y = bootBuiltins y) (hlim : hp.NoLimit) (hroom : A.depth < recursionLimit) (hun : A.units + 64 < cLine)
    (hev : ∀ env : Env, env.scope = scope → ∃ pl : Sem Bool, eval (.Call (.Attribute (.Call (.Name "super" p0) [] [] p1) "__init__" p2) [.Name x p3] [] p4) env = (do
      let ov ← attributeBase (.Call (.Name "super" p0) [] [] p1) "__init__" env (eval (.Call (.Name "super" p0) [] [] p1) env)
      standAt p2.atName
      let (f, first) ← holding [ov] (getMethod ov "__init__" pl)
      callWith p4 f first (backTo p4 (starEach [.Name x p3] env)) []))
    (hint : ∀ env : Env, env.scope = scope → interactive env = false) (hsw1 : ∀ env : Env, env.scope = scope → swapsWith (.Call (.Attribute (.Call (.Name "super" p0) [] [] p1) "__init__" p2) [.Name x p3] [] p4) none p5.line env = pure false)
    (hsw2 : ∀ env : Env, env.scope = scope → swapsWith (.Name x p8) (some (.Attribute (.Name "self" p6) fld p7)) p9.line env = pure false)
    (htop : (P.main.scope.names.lookup ("super" : Str)).isSome = false)
    (haK : K.lookup a = none) (hx : hp.get? a = some (PySem.HandSPX.excO C t0)) (args : Args) (hbind : BindsTo ⟨hp, g, d, t, os⟩ fd args [("self", .ref a), (x, v)])
    (hR : ∀ h' tk dx t1, (∀ b o, b ≠ a → hp.get? b = some o → h'.get? b = some o) → hp.objs.size ≤ dx → dx ≠ a → h'.get? a = some ({ cls := .ref C, dict := some dx, data := .fields #[.ref t1, .none, .none, .none, .bool false, .none] } : Obj) →
      h'.Ns1 dx (fun y => if y = fld then some v else none) → R (.ok (.ret .none)) ⟨h', g, d, tk, os⟩) :
    codeAny (model P w) A (.call (.ref fI) args) R ⟨hp, g, d, t, os⟩ := by
  obtain ⟨oc, od, osl, dV, kV, doc, pm, an, cda, ct, cc, rfl, lk, hcd, ⟨ccl, cdd, vs, ccs, file, tf, lcd, hvs, hfile⟩, cl, cld, csl, lcc⟩ := S.ex
  obtain ⟨ar, har, hars⟩ := Z.hd
  obtain ⟨nm, q, N, bs, bm, sn, sub, ab, col, dd, k0, k1, k2, k3, k5, hC, hbm⟩ := T.cls
  have hcl : PySem.W.clsIn K C = some { name := nm, bases := bs, mro := .ref C :: bm, ns := N, qualname := q, hasDict := true, slotNames := sn, subclasses := sub, abstract := ab, collection := col, hasDel := false } := by unfold PySem.W.clsIn; rw [hC] <;> rfl
  refine ks_codeAny_call_defAt (body := supBody x fld p0 p1 p2 p3 p4 p5 p6 p7 p8 p9) (binds := [("self", .ref a), (x, v)]) hroom (X _ _ lk) rfl hlim (PySem.W.codeRec_of X hcd) rfl hbind Z.nc (fun y hy => ?_) (fun h0 hns hk => ?_) Z.co Z.ge Z.ki
  · rcases List.mem_cons.mp hy with rfl | hy
    · exact Z.n1
    · obtain rfl : y = (x, v) := by simpa using hy
      exact Z.n2
  have X0 : K.In h0 := X.keeps hk
  have ns_ : ∀ {L : Addr} {m : Str → Option Value}, hp.Ns L m → h0.Ns L m := fun ⟨o, es, ep, e, d, r⟩ => ⟨o, es, ep, hk _ _ e, d, r⟩
  have hn2 : h0.Ns hp.objs.size (fun y => [(("self" : Str), Value.ref a), (x, v)].reverse.lookup y) := hns
  have lself : ([(("self" : Str), Value.ref a), (x, v)].reverse.lookup ("self" : Str)) = some (.ref a) := by
    show List.lookup ("self" : Str) [(x, v), (("self" : Str), Value.ref a)] = _
    rw [List.lookup_cons, show (("self" : Str) == x) = false from by simpa using Z.ne]
    simp [List.lookup]
  have lx : ([(("self" : Str), Value.ref a), (x, v)].reverse.lookup x) = some v := by
    show List.lookup x [(x, v), (("self" : Str), Value.ref a)] = _
    rw [List.lookup_cons]
    simp
  obtain ⟨pl, hev⟩ := hev (callEnv (PySem.W.ksFn "__init__" qual params (supBody x fld p0 p1 p2 p3 p4 p5 p6 p7 p8 p9) scope dV kV doc pm an (.ref cda) ct cc) hp.objs.size fI) rfl
  refine ks_wpAt_execs_cons (ks_wpAt_Expr_any (ks_wpAt_MethodCall (pl := pl) ?_ hev) (hint _ rfl) (hsw1 _ rfl))
  refine ks_wpAt_super_base Z.ns Z.nk (by decide +kernel) rfl (X0 _ _ lk) rfl har rfl (X0 _ _ lcd) rfl hvs hfile htop ?_
  refine PySem.W.ks_loadName_global Z.ki Z.ns (PySem.Calls.loadGlobal_builtin (ns_ hg) (PySem.W.mg_none_of X hg S.gs) (ns_ hb) ((hbb _ (by decide +kernel)).trans (by first | rfl | kernel_rfl)) ⟨rfl, ?_⟩)
  refine wpAny_loadName_free Z.ki Z.nk rfl ⟨_, X0 _ _ lcc, rfl⟩ ?_
  rw [hars]
  refine wpAny_loadName_local Z.ki Z.n1 hn2 lself ?_
  refine ks_wpAny_isType_cls (X0 _ _ hC) rfl ⟨rfl, ?_⟩
  have hxa := hk _ _ hx
  refine ks_wpAny_call_super (X0 _ _ hC) rfl hxa rfl (fun c e => by cases e) (PySem.W.looks_mroIn X0 S.mro) (fun h1 e1 k1 => ?_)
  have X1 : K.In h1 := X0.keeps k1
  have I1 : PySem.W.InstAt h1 a (PySem.HandSPX.excO C t0) C none := ⟨k1 _ _ hxa, rfl, rfl, trivial⟩
  have hsup : PySem.W.alongIn K "__init__" ((((Value.ref C :: bm).dropWhile (· != .ref C)).drop 1)) = some (some (.builtin "ValueError.__init__")) := by
    have := S.sup
    unfold PySem.W.ks_superIn at this
    rw [hcl] at this
    exact this
  refine PySem.W.kxs_getMethod PySem.W.kxs_ValueError e1 (PySem.W.looks_opaque X1 S.opq) (l₀ := .ref C :: bm) (fun A Q E s k q => wpAny_bind ((PySem.W.looks_clsIn X1 hcl) A _ E s k (wpAny_pure q))) rfl X1 hsup (I1.type.andThen (PySem.W.looks_subIn X1 S.subV)) (PySem.W.ks_ne X1 I1 hcl) (by decide +kernel) ?_
  refine PySem.W.kxs_callWith (i := "ValueError.__init__") (x := a) (u := h1.objs.size) rfl (PySem.Calls.evalArgs_plain (PySem.Calls.spliced_cons ?_))
  show wpAny _ _ (eval (.Name x p3) _) _ _ _
  have hk1 : ∀ b o, hp.get? b = some o → h1.get? b = some o := fun b o e => k1 _ _ (hk _ _ e)
  have hn3 : h1.Ns hp.objs.size (fun y => [(("self" : Str), Value.ref a), (x, v)].reverse.lookup y) := let ⟨o, es, ep, e, d, r⟩ := hn2; ⟨o, es, ep, k1 _ _ e, d, r⟩
  refine PySem.ESX.ldL (m := fun y => [(("self" : Str), Value.ref a), (x, v)].reverse.lookup y) ?_ lx ?_ Z.ki Z.n2 Z.nd
  · let ⟨o, es, ep, e, d, r⟩ := hn3
    exact ⟨o, es, ep, Heap.get?_push_of_some _ e, d, r⟩
  refine wpAny_pure ⟨Heap.get?_push_at rfl rfl, ?_⟩
  show wpAny _ _ (call (.ref h1.objs.size) [v]) _ _ _
  have kp : ∀ b o, h1.get? b = some o → (h1.push (PySem.W.kxs_mw "ValueError.__init__" a)).get? b = some o := fun b o e => Heap.get?_push_of_some _ e
  refine call_mwV (kp _ _ (X1 _ _ hC)) (fun Y => PySem.HandSPX.refsVE_contains Y bm hbm) (kp _ _ (hk1 _ _ hx)) (Heap.get?_push_at rfl rfl) (by show 1 ≤ sizeLine; decide) (fun h2 t1 k2 hx2 => ?_)
  have k02 : ∀ b o, b ≠ a → hp.get? b = some o → h2.get? b = some o := fun b o nb e => k2 b o nb (kp _ _ (hk1 _ _ e))
  have nC : C ≠ a := fun z => by have := X _ _ hC; rw [z, hx] at this; cases this
  have X2 : K.In h2 := fun b o e => k02 b o (fun z => by rw [z, haK] at e; cases e) (X _ _ e)
  have hL : hp.objs.size ≠ a := Nat.ne_of_gt (Heap.lt_size hx)
  have hn4 : h2.Ns hp.objs.size (fun y => [(("self" : Str), Value.ref a), (x, v)].reverse.lookup y) := by
    obtain ⟨o, es, ep, e, d, r⟩ := hn3
    exact ⟨o, es, ep, k2 _ _ hL (kp _ _ e), d, r⟩
  refine ks_wpAt_execs_cons (ks_wpAt_Assign_Attr (wpAt_of_wpAny (PySem.ESX.ldL hn4 lx (PySem.ESX.ldL hn4 lself ?_ Z.ki Z.n1 (by decide)) Z.ki Z.n2 Z.nd)) (hsw2 _ rfl))
  refine PySem.W.set_plain X2 (ox := PySem.HandSPX.excO C t1) (od := none) ⟨hx2, rfl, rfl, trivial⟩ T.sa ?_
  refine PySem.HandSPX.exc_osa X2 hx2 hcl (show PySem.HandSPX.refsVE (.ref C :: bm) = true from hbm) rfl S.no (fun h3 tk3 dx k3 hd3 ne3 hx3 hn5 => ?_)
  refine wpAt_of_wpAny (wpAny_pure ?_)
  have hsz : hp.objs.size < h2.objs.size := let ⟨o, es, ep, e, d, r⟩ := hn4; Heap.lt_size e
  exact hR h3 tk3 dx t1 (fun b o nb e => k3 b o nb (k02 b o nb e)) (Nat.le_trans (Nat.le_of_lt hsz) hd3) ne3 hx3 hn5
def spSup (K : PySem.W.Frag) (C : Addr) (fld : Str) : Sp := fun vs H Q _ => ∃ a y, vs = [.ref a, y] ∧ H a = some (exo a C none) ∧ ∀ dx, H dx = none → dx ≠ a → Q .non (upd (upd H dx (exd dx [(fld, y)])) a (exo a C (some dx)))
theorem ok_sup {base : Heap} {CX : CXT} (S : SupF P K C fI fld qual params (supBody x fld p0 p1 p2 p3 p4 p5 p6 p7 p8 p9) scope fd) (Z : SupS x params scope) (T : OexC K C)
    (hev : ∀ env : Env, env.scope = scope → ∃ pl : Sem Bool, eval (.Call (.Attribute (.Call (.Name "super" p0) [] [] p1) "__init__" p2) [.Name x p3] [] p4) env = (do
      let ov ← attributeBase (.Call (.Name "super" p0) [] [] p1) "__init__" env (eval (.Call (.Name "super" p0) [] [] p1) env)
      standAt p2.atName
      let (f, first) ← holding [ov] (getMethod ov "__init__" pl)
      callWith p4 f first (backTo p4 (starEach [.Name x p3] env)) []))
    (hint : ∀ env : Env, env.scope = scope → interactive env = false) (hsw1 : ∀ env : Env, env.scope = scope → swapsWith (.Call (.Attribute (.Call (.Name "super" p0) [] [] p1) "__init__" p2) [.Name x p3] [] p4) none p5.line env = pure false)
    (hsw2 : ∀ env : Env, env.scope = scope → swapsWith (.Name x p8) (some (.Attribute (.Name "self" p6) fld p7)) p9.line env = pure false)
    (htop : (P.main.scope.names.lookup ("super" : Str)).isSome = false) : FnOk P w K mg base CX 1 fI fd ["self", x] (spSup K C fld) := by
  refine ⟨fun vs H Q E h => ?_, fun A outer s H args us vs Q E hr e0 hbd r hsp => ?_⟩
  · obtain ⟨a, y, rfl, _⟩ := h
    rfl
  obtain ⟨a, y, rfl, ha, q⟩ := hsp
  obtain ⟨u1, u2, rfl, r1, r2⟩ := vals2 r
  obtain rfl : u1 = Value.ref a := r1
  obtain ⟨t0, hx⟩ := exo_at e0.hok ha
  have KX : K.In s.heap := e0.mod.kin.keeps fun b o e => (e0.bs b o e).1
  have haK : K.lookup a = none := by
    cases z : K.lookup a with
    | none => rfl
    | some o =>
      have := (e0.bs _ _ (e0.mod.kin _ _ z)).2
      rw [ha] at this
      cases this
  obtain ⟨mb, hmb, hbb⟩ := e0.mod.blt
  have ns_ : ∀ {L : Addr} {m : Str → Option Value}, base.Ns L m → s.heap.Ns L m := fun ⟨o, es, ep, e, d, r⟩ => ⟨o, es, ep, (e0.bs _ _ e).1, d, r⟩
  have lim : s.heap.NoLimit := e0.mod.nolimit.keeps fun b o e => (e0.bs b o e).1
  obtain ⟨hp, g, d, t, os⟩ := s
  refine run_sup S Z T KX (ns_ e0.mod.glob) (ns_ hmb) hbb lim hr.depth hr.units hev hint hsw1 hsw2 htop haK hx args hbd (fun h' tk dx t1 k hd ne hx' hn => ?_)
  have nH : H dx = none := e0.hok.fresh hd
  have old : ∀ {b : Addr} {o : Obj}, hp.get? b = some o → b ≠ dx := fun e z => absurd (Heap.lt_size (z ▸ e)) (Nat.not_lt.mpr hd)
  have sep : ∀ {b : Addr}, H b = none → b ≠ a := fun n z => by rw [z, ha] at n; cases n
  refine ⟨.non, upd (upd H dx (exd dx [(fld, y)])) a (exo a C (some dx)), rfl, e0.bare, ⟨fun b o e n _ _ => k b o (sep n) e, fun b o e n _ _ => ⟨o.slots, k b o (sep n) e⟩, fun b o e n _ => ?_, fun b o e _ => ?_, fun b xs e => ?_, fun b o u e => ?_, fun b ps e => ?_⟩, fun b o e => ?_, rfl, q dx nH ne⟩
  · rw [upd_ne (sep n), upd_ne (old e)]
    exact n
  · by_cases c : b = a
    · exact ⟨_, by rw [c]; exact hx'⟩
    · exact ⟨o, k b o c e⟩
  · rw [upd_ne (at_ne ha e exo_tup), upd_ne (ne_of_none e nH)]
    exact e
  · rw [upd_ne (at_ne ha e exo_frz), upd_ne (ne_of_none e nH)]
    exact e
  · exact ⟨#[], by rw [upd_ne (at_ne ha e exo_tbl), upd_ne (ne_of_none e nH), e]; simp⟩
  · by_cases c : b = a
    · subst c
      rw [upd_same] at e
      cases e
      exact exo_ok hx'
    rw [upd_ne c] at e
    by_cases c2 : b = dx
    · subst c2
      rw [upd_same] at e
      cases e
      exact exd_ok hn (relO_put (fs := []) r2 fun _ => True.intro)
    rw [upd_ne c2] at e
    refine (e0.hok b o e).stay (fun c' v' hc z => k c' v' ?_ z) (fun c' hc => ?_) (fun c' xs hc => ?_)
    · rcases hc with hc | hc
      · rw [hc]; exact c
      · exact at_ne ha hc exo_own
    · rw [upd_ne (at_ne ha hc exo_own), upd_ne (ne_of_none hc nH)]
      exact hc
    · rw [upd_ne (at_ne ha hc exo_tup), upd_ne (ne_of_none hc nH)]
      exact hc
end
end Ys
namespace Ys
open PySem PySem.Spec PyProof.Rows L2 PySem.W PySem.Calls
section
variable {prog : Program} {w : World} {A : Around} {E : Value → Shared → Prop} {s : Shared} {K : Frag} {x D : Addr} {ox : Obj} {od : Option Obj}
theorem exc_class {Q : Option Value → Shared → Prop} (C : ExcC K D) (X : K.In s.heap) (I : InstAt s.heap x ox D od) (h : Q (some (.ref D)) { s with toks := s.toks + 1 }) : wpAny (model prog w) A (getAttr? (.ref x) "__class__") Q E s := by
  obtain ⟨hga, hgt, hsub, hdct, ha, hn, htk, hm⟩ := C
  have hc1 : (clsIn K D).isSome = true := by obtain ⟨cd, hc, _⟩ := any_some hdct; rw [hc]; rfl
  have hf : findObj K D od "__class__" = some (.bind (.builtin "getset_descriptor.__get__") (.builtin "object.__class__")) := by
    cases od with
    | none => exact findObj_dataN hc1 ha hn htk
    | some od => exact findObj_data hc1 ha hn htk
  obtain ⟨hp, g, d, t, os⟩ := s
  have M0 := I.type (M := model prog w); have M1 := looks_findIn (M := model prog w) X hga; have M2 := looks_findIn (M := model prog w) X hgt; have M3 := looks_find (M := model prog w) X I hf
  have isB : Looks (model prog w) hp (isInstance (.ref x) (.type "BaseException")) true := M0.andThen (looks_subIn X hsub)
  have n2 : (Value.builtin "BaseException.__getattribute__" == Value.builtin "object.__getattribute__") = false := by decide +kernel
  have n1 : (onTheHeap (Value.ref D) && Value.builtin "BaseException.__getattribute__" == Value.builtin "object.__getattribute__") = false := by rw [n2]; rfl
  unfold getAttr? getAttrBy? getAttrBy; refine wpAny_bind (wpAny_mkText (wpAny_bind (wpAny_attempt (wpAny_holding (wpAny_bind (M0.at (wpAny_bind (M1.at ?_))))))))
  refine (show wpAny _ _ (if (onTheHeap (Value.ref D) && Value.builtin "BaseException.__getattribute__" == Value.builtin "object.__getattribute__") = true then _ else _) _ _ _ from ?_)
  rw [n1, if_neg Bool.false_ne_true]; unfold getAttrByItsOwn hookBefore; refine wpAny_bind ?_
  rw [if_pos (show onTheHeap (Value.ref D) = true from rfl)]; refine M2.at (wpAny_bind (wpAny_attempt (wpAny_holding ?_)))
  unfold callGetattribute; rw [show (false && onTheHeap (Value.builtin "BaseException.__getattribute__")) = false from rfl, if_neg Bool.false_ne_true]
  unfold boundAndCalled; rw [PySem.F.excAttr_ValueError.ga.bind (.ref x)]; refine wpAny_bind (wpAny_pure ?_)
  refine (show wpAny _ _ (call (.builtin "BaseException.__getattribute__") [.ref x, .str "__class__" t]) _ _ _ from wpAny_call (codeAny_call_builtin PySem.F.excAttr_ValueError.ga.plain PySem.F.entry_bexc_ga ?_))
  refine @check_slot (model prog w) _ _ ⟨hp, g, d, t + 1, os⟩ "BaseException.__getattribute__" "BaseException" "__getattribute__" (.ref x) [.str "__class__" t] [] _ (by decide +kernel) (by decide +kernel) isB (PySem.F.args_bexc_ga (.ref x) (.str "__class__" t)) ?_
  unfold Builtin.«object.__getattribute__»; refine wpAny_bind (wpAny_of_eq (a := ((Value.ref x : Value), [Value.str "__class__" t])) (by first | rfl | (simp only [slotArgs]; rfl)) (wpAny_bind (wpAny_pure (wpAny_bind (M0.at (wpAny_bind (M3.at ?_)))))))
  refine (show wpAny _ _ (holding [Value.builtin "object.__class__"] (call (.builtin "getset_descriptor.__get__") [.builtin "object.__class__", .ref x, .ref D]) >>= ret) _ _ _ from wpAny_bind (wpAny_holding (wpAny_call (class_get (s := ⟨hp, g, d, t + 1, os⟩) (ox := ox) (od := od) X I hm (wpAny_pure ?_)))))
  refine (show wpAny _ _ (handedOut (.ref D)) _ _ _ from ?_)
  rw [handedOut_of (v := .ref D) rfl]
  first | exact wpAny_pure (wpAny_pure h) | exact wpAny_pure h | exact wpAny_pure (wpAny_bind (wpAny_pure (wpAny_pure h)))
theorem kitx_exc (C : ExcC K D) : KitX K (.ref x) (.ref D) (fun h => InstAt h x ox D od) :=
  ⟨fun _ _ _ I => I.type, (fun M h X _ A' Q' E' s' k q => by obtain ⟨cdD, hcD, _⟩ := any_some C.hd; unfold clsIn at hcD; split at hcD; (· rename_i ho; unfold isType loadHead; exact wpAny_bind (wpAny_loadPart (k _ _ (X _ _ ho)) (wpAny_pure q))); (· cases hcD)), (fun h tp dd its n sl X htp => by
    obtain ⟨cdD, hcD, _⟩ := any_some C.hd
    refine Bool.eq_false_iff.mpr fun q => ?_
    obtain rfl : D = tp := Value.ref.inj (beq_iff_eq.mp q)
    unfold clsIn at hcD
    split at hcD
    · rename_i ho
      have z := (X _ _ ho).symm.trans htp
      cases z
    · cases hcD), fun X I k => exc_class C X I k⟩
end
section
def rIsX (K : Frag) (D a : Addr) (cls : Value) (d : Option Addr) : List V → Hp → VK → Prop := fun xs H Q => ∃ (c : V) (cv : Value) (b : Bool) (dd : Addr) (fs : List (Str × V)), xs = [.ref a, c] ∧ cls = .ref D ∧ ClsV c cv ∧ kitOne K (.ref D) cv = some b ∧ d = some dd ∧ H dd = some (.xd fs) ∧ Q (.bl b) H
theorem call_isX {X : Cx} {a D : Addr} {cls : Value} {d : Option Addr} {oe : Obj} {pn : List (Addr × Obj)} (C : ExcC X.K D) (hz : Zc cls d oe) (hf : ∃ vs, oe.data = .fields vs) : CallR (X.suite a ((a, oe) :: pn)) (.builtin "isinstance") (rIsX X.K D a cls d) := by
  intro pins s σ H xs us Q I r ⟨c, cv, b, dd, fs, e1, e0, hc, e2, e3, hd, q⟩
  subst e1 e0
  obtain ⟨u1, u2, rfl, r1, r2⟩ := vals2 r
  obtain rfl : u1 = Value.ref a := r1
  obtain rfl := hc.eq r2
  subst e3
  obtain ⟨hget, _⟩ := I.pin (a, oe) (List.mem_append_left _ List.mem_cons_self)
  obtain ⟨mA, hns, _⟩ := (show ObjOk X.prog X.w H s.heap dd (.xd fs) from I.hok dd _ hd)
  obtain ⟨od, ho, _⟩ := lookIn_ns hns
  obtain ⟨vs, hv⟩ := hf
  have J : InstAt s.heap a oe D (some od) := ⟨hget, hz.1, (by unfold notCls; rw [hv]), by rw [hz.2]; exact ho⟩
  exact kia_one (kitx_exc (ox := oe) (od := some od) C) I.kIn J e2 (fun z => nomatch z) fun tk => ⟨.bl b, H, I.kept (t' := tk) fun _ _ z => z, rfl, q⟩
end
end Ys
namespace Ys
open PySem PySem.Spec PyProof.Rows L2
/-! ### raise C(e), C an own class with super().__init__(x), self.fld = x -/
structure ExcS (P : Program) (w : World) (K : PySem.W.Frag) (mg : Str → Option Value) (base : Heap) (C : Addr) (x fld : Str) : Prop where
  T : OexC K C
  ex : ∃ fI fd pn, PySem.W.findIn K (.ref C) "__init__" = some (some (.ref fI)) ∧ PySem.W.typeIn K (.ref fI) = some (.type "function") ∧ FnOk P w K mg base CX0 1 fI fd ["self", pn] (spSup K C fld) ∧ Binds K fd ["self", pn] []
  gC : mg x = some (.ref C)
section
variable {X : Cx} {K : PySem.W.Frag} {P : Program} {w : World} {G G1 H : Hp} {M : List (Addr × HO)} {σ : L2.St} {D : Ends} {te : TE} {C : Addr} {x fld : Str} {W : WX} {y : V} {e : Expr} {p pos pos' : Pos} {q : XK}
def RsW (K : PySem.W.Frag) (C : Addr) (fld : Str) (y : V) (H1 : Hp) (q : XK) : Prop := [y].length ≤ 1000 ∧ ∀ a, H1 a = none → spSup K C fld (.ref a :: ([y] ++ [])) (upd H1 a (exo a C none))
  (fun v H2 => v = .non ∧ ∃ (d : Addr) (fs : List (Str × V)), H2 a = some (exo a C (some d)) ∧ H2 d = some (exd d fs) ∧ H1 d = none ∧ q (.ref C) (some d) (upd (del H2 a) d (.xd fs))) (fun _ _ _ => False)
def sRs (K : PySem.W.Frag) (C : Addr) (fld : Str) (te : TE) (W : WX) : TS := fun _ σ H => te σ H fun y H1 => RsW K C fld y H1 fun cls d H' => W cls d σ H'
theorem ps_rs (S : ExcS X.prog X.w X.K X.mg X.base C x fld) (hc : X.calm = true) (tk : Takes X W) (hr : Room 2 X.A) (hg : Gl X x) (he : PE X e te)
    (hdb : (x == ("__debug__" : Str)) = false := by decide) (hst : starEach [e] X.env = (false, eval e X.env) :: starEach [] X.env := by rfl) (hpl : (backTo pos (starEach [] X.env)).any (·.1) = false := by rfl) :
    PS X (.Raise (some (.Call (.Name x p) [e] [] pos)) none pos') (sRs X.K C fld te W) := by
  obtain ⟨fI, fd, pn, iC, tI, F, hb⟩ := S.ex
  exact ps_raise hc tk (pmk_oex (ta := tCons te tNil) S.T iC tI F hr hb .nil pass0 hg S.gC (pa_cons he pa_nil hst) hdb hst hpl)
theorem z_rs (h : te σ H fun y H1 => RsW K C fld y H1 fun cls d H' => W cls d σ H') : sRs K C fld te W D σ H := h
theorem z_rsI (h : ∀ dx, H dx = none → q (.ref C) (some dx) (upd H dx (.xd [(fld, y)]))) : RsW K C fld y H q := by
  refine ⟨by show 1 ≤ 1000; decide, fun a ha => ⟨a, y, rfl, upd_same, fun dx hdx ne => ⟨rfl, dx, [(fld, y)], upd_same, ?_, ?_, ?_⟩⟩⟩
  · rw [upd_ne ne, upd_same]
  · rw [upd_ne ne] at hdx
    exact hdx
  · rw [upd_ne ne] at hdx
    have e1 : upd (del (upd (upd (upd H a (exo a C none)) dx (exd dx [(fld, y)])) a (exo a C (some dx))) a) dx (.xd [(fld, y)]) = upd H dx (.xd [(fld, y)]) := by
      funext b
      by_cases c : b = dx
      · rw [c, upd_same, upd_same]
      · rw [upd_ne c, upd_ne c]
        by_cases c2 : b = a
        · rw [c2, del_same, ha]
        · rw [del_ne c2, upd_ne c2, upd_ne c, upd_ne c2]
    rw [e1]
    exact h dx hdx
end
end Ys
namespace Ys
open PySem PySem.Spec PyProof.Rows L2
section
variable {X : Cx} {K : PySem.W.Frag} {G G1 H : Hp} {M : List (Addr × HO)} {σ : L2.St} {Q : VK} {te : TE} {t : TA} {d : PyData} {ds : List PyData} {v : V} {xs : List V} {a : Addr} {i : Int}
def rStr1 : List V → Hp → VK → Prop := fun xs H Q => ∃ s, xs = [.str s] ∧ Q (.str s) H
theorem c_str : CallR X (.type "str") rStr1 := SkE.call_str_str
theorem z_str1 {s : Str} (q : Q (.str s) H) : rStr1 [.str s] H Q := ⟨s, rfl, q⟩
theorem z_rep {n : Int} (z : Zp G M H) (h : G a = some (.lst xs)) (h0 : 0 ≤ n) (h1 : n ≤ 1000) (hl : xs.length * n.toNat ≤ 100000) (q : ∀ p G1 H1, Zp G1 M H1 → Same G G1 → G1 p = some (.lst (List.replicate n.toNat xs).flatten) → Q (.ref p) H1) : rRep (.ref a) (.int n) H Q :=
  ⟨a, n, xs, rfl, rfl, z.sub _ _ h, by omega, by omega, Nat.le_trans hl (by decide), fun p hp => q p _ _ (z.new hp _) (Same.new (z.free hp)) upd_same⟩
theorem z_neg (q : Q (.int (-i)) H) : rU (fun i => V.int (-i)) (.int i) H Q := ⟨i, rfl, q⟩
/-! ### literals, as data -/
def LitW (K : PySem.W.Frag) (te : TE) (d : PyData) : Prop := ∀ σ G M H Q, Zp G M H → (∀ v G1 H1, Zp G1 M H1 → Same G G1 → Dt K G1 v d → Q v H1) → te σ H Q
def LitA (K : PySem.W.Frag) (t : TA) (ds : List PyData) : Prop := ∀ σ G M H Q, Zp G M H → (∀ vs G1 H1, Zp G1 M H1 → Same G G1 → Dts K G1 vs ds → Q vs H1) → t σ H Q
theorem lit_c (h : ∀ G, Dt K G v d) : LitW K (tC v) d := fun _ G _ H _ z q => q v G H z (Same.refl G) (h G)
theorem lit_int (i : Int) : LitW K (tC (.int i)) (.int i) := lit_c fun _ => .int i
theorem lit_str (s : Str) : LitW K (tC (.str s)) (.str s) := lit_c fun _ => .str s
theorem lit_bl (b : Bool) : LitW K (tC (.bl b)) (.bool b) := lit_c fun _ => .bl b
theorem lit_non : LitW K (tC .non) .none := lit_c fun _ => .non
theorem lit_nil : LitA K tNil [] := fun _ G _ H _ z q => q [] G H z (Same.refl G) .nil
theorem lit_cons (h1 : LitW K te d) (h2 : LitA K t ds) : LitA K (tCons te t) (d :: ds) := fun σ G M H Q z q =>
  h1 σ G M H _ z fun v G1 H1 z1 s1 d1 => h2 σ G1 M H1 _ z1 fun vs G2 H2 z2 s2 d2 => q (v :: vs) G2 H2 z2 (s1.trans s2) (.cons (d1.up s2) d2)
theorem lit_tup (h : LitA K t ds) (hl : ds.length ≤ 1000) : LitW K (tTup t) (.tuple ds) := fun σ G M H Q z q =>
  h σ G M H _ z fun vs G1 H1 z1 s1 d1 => z_newT z1 (by rw [d1.len (ds := [])]; omega) fun p G2 H2 z2 s2 e2 => q _ G2 H2 z2 (s1.trans s2) (.tup (SqT.of e2) (d1.up s2))
theorem lit_lst (h : LitA K t ds) (hl : ds.length ≤ 1000) : LitW K (tLst t) (.list ds) := fun σ G M H Q z q =>
  h σ G M H _ z fun vs G1 H1 z1 s1 d1 => z_newL z1 (by rw [d1.len (ds := [])]; omega) fun p G2 H2 z2 s2 e2 => q _ G2 H2 z2 (s1.trans s2) (.lst (SqL.of e2) (d1.up s2))
theorem lit_neg (h : LitW K te (.int i)) : LitW K (tUn (rU fun i => V.int (-i)) te) (.int (-i)) := fun σ G M H Q z q =>
  h σ G M H _ z fun v G1 H1 z1 s1 d1 => by cases d1; exact z_neg (q _ G1 H1 z1 s1 (.int _))
theorem lit_pow (i j : Int) (h : CPow i j) : LitW K (tOp rPowG (tC (.int i)) (tC (.int j))) (.int (i ^ j.toNat)) := fun σ G M H Q z q => z_op (z_c (z_c (z_I h (q _ G H z (Same.refl G) (.int _)))))
theorem lit_dict0 : LitW K tDNewK (.dict []) := fun σ G M H Q z q p hp => q _ _ _ (z.new hp _) (Same.new (z.free hp)) (.dct (.inl upd_same) rfl .nil)
theorem lit_dict1 {k : Str} (h : LitW K te d) : LitW K (tDisp [(tC (.str k), te)]) (.dict [(.str k, d)]) := fun σ G M H Q z q =>
  z_disp z fun p H1 z1 => z_pc (z_c (h σ G _ H1 _ z1 fun v G2 H2 z2 s2 d2 => z_pn (z_dispE z2 [(.inr k, v)] rfl (by show 1 ≤ 15; decide) fun H3 z3 => by
    have fr : G2 p = none := (z3.own M.length p _ last_at).2
    exact q _ _ H3 z3.fix (s2.trans (Same.new fr)) (.dct (.inl upd_same) rfl (.cons (d2.up (Same.new fr)) .nil)))))
theorem lit_list (h : LitA K t ds) (hl : ds.length ≤ 1000) (z : Zp G M H) (q : ∀ p xs G1 H1, Zp G1 M H1 → Same G G1 → G1 p = some (.lst xs) → Dts K G1 xs ds → Q (.ref p) H1) : tLst t σ H Q :=
  h σ G M H _ z fun vs G1 H1 z1 s1 d1 => z_newL z1 (by rw [d1.len (ds := [])]; omega) fun p G2 H2 z2 s2 e2 => q p _ G2 H2 z2 (s1.trans s2) e2 (d1.up s2)
theorem Dts.app : ∀ {xs ys : List V} {ds es : List PyData}, Dts K G xs ds → Dts K G ys es → Dts K G (xs ++ ys) (ds ++ es)
  | _, _, _, _, .nil, h => h
  | _, _, _, _, .cons a b, h => .cons a (Dts.app b h)
theorem Dts.mem : ∀ {xs : List V} {ds : List PyData} {v : V}, Dts K G xs ds → v ∈ xs → ∃ d, d ∈ ds ∧ Dt K G v d
  | _, _, _, .nil, h => by cases h
  | _, _, _, .cons a b, h => by
    rcases List.mem_cons.mp h with rfl | h
    · exact ⟨_, List.mem_cons_self .., a⟩
    · obtain ⟨d, h1, h2⟩ := Dts.mem b h
      exact ⟨d, List.mem_cons_of_mem _ h1, h2⟩
end
end Ys
namespace Ys
open PySem PySem.Spec PyProof.Rows L2
/-! ### a class made, which may raise -/
section
variable {X : Cx} {k n m : Nat} {C dx : Addr} {x : Str} {ks : List Str} {gV : List V → List V → List V} {sp : Sp} {W : WX} {t tk : TA} {p pos : Pos} {e : Expr} {es : List Expr} {kws : List Keyword} {G H : Hp} {M : List (Addr × HO)} {σ : L2.St} {Q : VK} {vs zs : List V}
def MkWS (C : Addr) (n m : Nat) (sp : Sp) (gV : List V → List V → List V) (E : XK) (vs zs : List V) (H2 : Hp) (Q : VK) : Prop := vs.length = n ∧ zs.length = m ∧ ∀ x dx, H2 x = none → H2 dx = none → dx ≠ x →
  sp (gV (.ref x :: vs) zs) (upd (upd H2 dx (.own x)) x (.ins C dx [])) (fun v H3 => v = .non ∧ Q (.ref x) H3) E
def tMkS (C : Addr) (n m : Nat) (sp : Sp) (gV : List V → List V → List V) (W : WX) (t tk : TA) : TE := fun σ H Q => t σ H fun vs H1 => tk σ H1 fun zs H2 => MkWS C n m sp gV (WE W σ) vs zs H2 Q
theorem pe_mkX (R : MkS X.prog X.w X.K X.mg X.base (L2.CX X.prog X.w) k C x n ks gV sp) (hr : Room (k + 1) X.A) (hg : Gl X x) (tx : Takes X W) (ha : PA X (e :: es) t) (hkw : PK X kws tk)
    (hall : (backToKw pos (keywordEach kws X.env)).all (·.1.isSome) = true := by rfl) (hks : (backToKw pos (keywordEach kws X.env)).filterMap (·.1) = ks := by rfl) (hdb : (x == ("__debug__" : Str)) = false := by decide)
    (he : starEach (e :: es) X.env = (false, eval e X.env) :: starEach es X.env := by rfl) (hpl : ((backTo pos (starEach (e :: es) X.env)).any (·.1) || (backToKw pos (keywordEach kws X.env)).any (·.1.isNone)) = false := by rfl) :
    PE X (.Call (.Name x p) (e :: es) kws pos) (tMkS C n ks.length sp gV W t tk) := by
  obtain ⟨f, fd, ps, g, mk, F, hm, hb⟩ := R.ex
  refine ⟨fun pins s σ H Q I h => wpAny_Call_Name_kw (ld_glob I hg hm ?_ hdb)⟩
  refine PySem.W.callWith_KW (h₀ := X.base) I.ok.mod.kin mk.kp hall (thn (ha.run pos pins s σ H _ I h) fun us s1 ⟨vs, H1, I1, r, q⟩ => ?_) hpl he
  refine thn (hkw.run pos pins s1 σ H1 _ I1 q) fun ws s2 ⟨zs, H2, I2, rz, l1, l2, q2⟩ => ⟨I2.kIn, ?_⟩
  rw [hks]
  -- the object, its dict, then __init__
  have fx := I2.hok.fresh (Nat.le_succ s2.heap.objs.size); have fd := I2.hok.fresh (Nat.le_refl s2.heap.objs.size)
  have hq := q2 (s2.heap.objs.size + 1) s2.heap.objs.size fx fd (Nat.ne_of_lt (Nat.lt_succ_self _))
  have J := Inv.made (C := C) I2
  have ra : Vals (V.ref (s2.heap.objs.size + 1) :: vs) (Value.ref (s2.heap.objs.size + 1) :: us) := .cons rfl r
  have na : (Value.ref (s2.heap.objs.size + 1) :: us).length = n + 1 := by rw [List.length_cons, ← r.length, l1]
  refine wpAny_call (make_map (f := f) I2.kIn mk.makes mk.init (beq_iff_eq.mp mk.fn) (codeAny_mono (F.run _ X.stack _ _ ⟨Value.ref (s2.heap.objs.size + 1) :: us, ks.zip ws⟩ (g (Value.ref (s2.heap.objs.size + 1) :: us) ws) _ _ (WE W σ) (hr.make C us (ks.zip ws))
    (J.env0.make C us (ks.zip ws)) (hb.to _ _ ws J.kIn na (rz.length.symm.trans l2)) (hb.rel ra rz) hq) fun rr s' hz => ?_))
  match rr, hz with
  | .error er, hz => exact passAt tx σ pins _ _ er s' J hz
  | .ok (.ret u), hz =>
    obtain ⟨v, H', I3, rv, ev, q3⟩ := J.after hz
    subst ev
    exact ⟨rv, ⟨V.ref (s2.heap.objs.size + 1), H', I3, rfl, q3⟩⟩
  | .ok .next, hz => exact hz.elim
  | .ok .brk, hz => exact hz.elim
  | .ok .cont, hz => exact hz.elim
theorem z_mkS (h : t σ H fun vs H1 => tk σ H1 fun zs H2 => MkWS C n m sp gV (WE W σ) vs zs H2 Q) : tMkS C n m sp gV W t tk σ H Q := h
theorem z_mkSI {E : XK} (z : Zp G M H) (l1 : vs.length = n) (l2 : zs.length = m) (q : ∀ x dx H1, Zp (upd G dx (.own x)) (M ++ [(x, .ins C dx [])]) H1 → Same G (upd G dx (.own x)) → sp (gV (.ref x :: vs) zs) H1 (fun v H3 => v = .non ∧ Q (.ref x) H3) E) : MkWS C n m sp gV E vs zs H Q :=
  ⟨l1, l2, fun x dx hx hd ne => q x dx _ ((z.new hd _).add (by rw [upd_ne (Ne.symm ne)]; exact hx) _) (Same.new (z.free hd))⟩
end
end Ys
namespace Ys
open PySem PySem.Spec PyProof.Rows L2 StX
section
variable {X : Cx} {K : PySem.W.Frag} {P : Program} {w : World} {G G1 H : Hp} {M M1 : List (Addr × HO)} {σ : L2.St} {Q : VK} {QB : Bool → Hp → Prop} {QA : List V → Hp → Prop} {D : Ends} {ta te tb tv : TE} {t tk : TA} {A B : Prop} {v x y : V} {i j : Int} {a b p : Addr} {xs ys vs zs : List V} {o : HO} {d : PyData}
/-! ### a list or tuple, spread -/
def StW (K : PySem.W.Frag) (x : V) (H : Hp) (R : List V → Prop) : Prop := ∃ p xs, x = V.ref p ∧ (SqT K H p xs ∨ SqL K H p xs) ∧ R xs
theorem z_star (h : te σ H fun x H1 => StW K x H1 fun xs => t σ H1 fun ys H2 => QA (xs ++ ys) H2) : tStar K te t σ H QA := h
theorem z_stL {R : List V → Prop} (h : SqL K H a xs) (q : R xs) : StW K (.ref a) H R := ⟨a, xs, rfl, .inr h, q⟩
theorem z_stT {R : List V → Prop} (h : SqT K H a xs) (q : R xs) : StW K (.ref a) H R := ⟨a, xs, rfl, .inl h, q⟩
theorem k_star {e : Expr} {pos : Pos} {es : List Expr} (he : PE X e te) (hr : PA X es t) (q : X.K = K := by rfl) (hs : starEach (.Starred e pos :: es) X.env = (true, eval e X.env) :: starEach es X.env := by rfl) : PA X (.Starred e pos :: es) (tStar K te t) := q ▸ pa_star he hr hs
/-! ### dicts of the written part, with text keys -/
structure TabD (K : PySem.W.Frag) (w : World) (a : Addr) (kvs : List (Str × V)) : Prop where
  kd : ∃ es n, KDict K w a es n
  hit : ∀ z v, kvs.lookup z = some v → ∃ u, PySem.W.nsIn K a z = some (some u) ∧ RelV v u
  miss : ∀ z, kvs.lookup z = none → PySem.W.nsIn K a z = some none
def rInKD (K : PySem.W.Frag) (w : World) (neg : Bool) : R2 := fun x y H Q => ∃ (z : Str) (a : Addr) (kvs : List (Str × V)), x = .str z ∧ y = .ref a ∧ TabD K w a kvs ∧ Q (.bl (if neg then !(kvs.lookup z).isSome else (kvs.lookup z).isSome)) H
theorem op_inKD : OpR X (compareOp .In) (rInKD X.K X.w false) := by
  intro pins s σ H x y v u Q I rx ry ⟨z, a, kvs, e1, e2, T, q⟩
  subst e1 e2
  obtain ⟨es, n, D⟩ := T.kd
  cases c : kvs.lookup z with
  | none =>
    rw [c] at q
    exact op_in_kd D pins s σ H _ _ v u Q I rx ry ⟨z, none, rfl, rfl, T.miss z c, q⟩
  | some v0 =>
    rw [c] at q
    obtain ⟨u0, e, _⟩ := T.hit z v0 c
    exact op_in_kd D pins s σ H _ _ v u Q I rx ry ⟨z, some u0, rfl, rfl, e, q⟩
theorem op_notInKD : OpR X (compareOp .NotIn) (rInKD X.K X.w true) := by
  intro pins s σ H x y v u Q I rx ry ⟨z, a, kvs, e1, e2, T, q⟩
  subst e1 e2
  obtain ⟨es, n, D⟩ := T.kd
  cases c : kvs.lookup z with
  | none =>
    rw [c] at q
    exact op_notIn_kd D pins s σ H _ _ v u Q I rx ry ⟨z, none, rfl, rfl, T.miss z c, q⟩
  | some v0 =>
    rw [c] at q
    obtain ⟨u0, e, _⟩ := T.hit z v0 c
    exact op_notIn_kd D pins s σ H _ _ v u Q I rx ry ⟨z, some u0, rfl, rfl, e, q⟩
theorem k_inD (e : X.K = K := by rfl) (e2 : X.w = w := by rfl) : OpR X (compareOp .In) (fun x y H Q => rInG K false x y H Q ∨ rInKD K w false x y H Q) := by
  subst e; subst e2
  exact o_in.or op_inKD
theorem k_notInD (e : X.K = K := by rfl) (e2 : X.w = w := by rfl) : OpR X (compareOp .NotIn) (fun x y H Q => rInG K true x y H Q ∨ rInKD K w true x y H Q) := by
  subst e; subst e2
  exact o_notIn.or op_notInKD
theorem k_ixD (e : X.K = K := by rfl) (e2 : X.w = w := by rfl) : IxR X (rIxD K w) := by
  subst e; subst e2
  exact ix_kdict
theorem z_inKD {z : Str} {kvs : List (Str × V)} (T : TabD K w a kvs) (q : Q (.bl (kvs.lookup z).isSome) H) : rInG K false (.str z) (.ref a) H Q ∨ rInKD K w false (.str z) (.ref a) H Q := .inr ⟨z, a, kvs, rfl, rfl, T, q⟩
theorem z_notInKD {z : Str} {kvs : List (Str × V)} (T : TabD K w a kvs) (q : Q (.bl (!(kvs.lookup z).isSome)) H) : rInG K true (.str z) (.ref a) H Q ∨ rInKD K w true (.str z) (.ref a) H Q := .inr ⟨z, a, kvs, rfl, rfl, T, q⟩
theorem z_ixKD {z : Str} {kvs : List (Str × V)} (T : TabD K w a kvs) (l : kvs.lookup z = some v) (q : Q v H) : rIxD K w (.ref a) (.str z) H Q := by
  obtain ⟨es, n, D⟩ := T.kd
  obtain ⟨u, e, r⟩ := T.hit z v l
  exact ⟨a, z, v, rfl, rfl, ⟨es, n, u, D.at_, D.lit, e, r⟩, q⟩
/-! ### is False -/
theorem k_isB (e : X.K = K := by rfl) : OpR X (compareOp .Is) rIsB := op_isBl
theorem k_notB (e : X.K = K := by rfl) : OpR X (compareOp .IsNot) rNotB := op_notBl
theorem z_isBl {a b : Bool} (q : Q (.bl (decide (a = b))) H) : rIsB (.bl a) (.bl b) H Q := ⟨a, b, rfl, rfl, q⟩
theorem z_notBl {a b : Bool} (q : Q (.bl (!decide (a = b))) H) : rNotB (.bl a) (.bl b) H Q := ⟨a, b, rfl, rfl, q⟩
/-! ### any -/
def rAnyG (K : PySem.W.Frag) : List V → Hp → VK → Prop := fun vs H Q => ∃ (a : Addr) (bs : List Bool), vs = [V.ref a] ∧ SqL K H a (bs.map V.bl) ∧ Q (.bl (bs.any id)) H
theorem kc_any (hc : X.calm = true) (e : X.K = K := by rfl) : CallR X (.builtin "any") (rAnyG K) := by subst e; exact cr_any hc
theorem z_any {bs : List Bool} (h : SqL K H a (bs.map V.bl)) (q : Q (.bl (bs.any id)) H) : rAnyG K [.ref a] H Q := ⟨a, bs, rfl, h, q⟩
/-! ### what may raise, called within what takes it -/
theorem passX0 : Passes (L2.CX X.prog X.w) X E0 := fun _ _ _ _ _ _ _ ⟨_, _, _, _, _, _, _, _, _, _, _, _, z⟩ => z.elim
theorem pe_ownX {k : Nat} {x : Str} {ps : List Str} {sp : Sp} {W : WX} {p pos : Pos} {e : Expr} {es : List Expr} {t : TA} (C : Own X.prog X.w X.K X.mg X.base (L2.CX X.prog X.w) k x ps sp) (hr : Room k X.A) (hg : Gl X x) (tx : Takes X W) (ha : PA X (e :: es) t)
    (hdb : (x == ("__debug__" : Str)) = false := by decide) (he : starEach (e :: es) X.env = (false, eval e X.env) :: starEach es X.env := by rfl) (hpl : (backTo pos (starEach es X.env)).any (·.1) = false := by rfl) :
    PE X (.Call (.Name x p) (e :: es) [] pos) (tCallS sp (WE W) t) := by
  obtain ⟨f, fd, F, hm, hk, hb⟩ := C.ex
  exact ⟨fun pins s σ H Q I h => (pe_callS F hr hg hm hk hb (fun σ => passAt tx σ) ha hdb he hpl).run pins s σ H Q I h⟩
theorem z_callS {sp : Sp} {E : L2.St → XK} (h : t σ H fun vs H1 => sp vs H1 Q (E σ)) : tCallS sp E t σ H Q := h
structure OwnK (P : Program) (w : World) (K : PySem.W.Frag) (mg : Str → Option Value) (base : Heap) (CX : CXT) (k : Nat) (x : Str) (ps ks : List Str) (sp : Sp) : Prop where
  ex : ∃ f fd g, FnOk P w K mg base CX k f fd ps sp ∧ mg x = some (.ref f) ∧ PySem.W.keepIn K (.ref f) = true ∧ KBn K fd ps 0 ks g fun vs zs => vs ++ zs
def tOwnK (n : Nat) (sp : Sp) (E : XK) (tk : TA) : TE := fun σ H Q => tk σ H fun zs H1 => zs.length = n ∧ sp zs H1 Q E
theorem pe_ownK0 {CX : CXT} {k : Nat} {x : Str} {ps ks : List Str} {sp : Sp} {E : XK} {p pos : Pos} {kws : List Keyword} (C : OwnK X.prog X.w X.K X.mg X.base CX k x ps ks sp) (hr : Room k X.A) (hg : Gl X x) (hx : Passes CX X E) (hkw : PK X kws tk)
    (hall : (backToKw pos (keywordEach kws X.env)).all (·.1.isSome) = true := by rfl) (hks : (backToKw pos (keywordEach kws X.env)).filterMap (·.1) = ks := by rfl) (hdb : (x == ("__debug__" : Str)) = false := by decide)
    (hpl : ((backTo pos (starEach [] X.env)).any (·.1) || (backToKw pos (keywordEach kws X.env)).any (·.1.isNone)) = false := by rfl) : PE X (.Call (.Name x p) [] kws pos) (tOwnK ks.length sp E tk) := by
  obtain ⟨f, fd, g, F, hm, hk, hb⟩ := C.ex
  refine ⟨fun pins s σ H Q I h => wpAny_Call_Name_kw (ld_glob I hg hm ?_ hdb)⟩
  refine PySem.W.callWith_KW0 (h₀ := X.base) I.ok.mod.kin hk hall ?_ hpl
  refine thn (hkw.run pos pins s σ H _ I h) fun ws s2 ⟨zs, H2, I2, rz, l2, q2⟩ => ⟨I2.kIn, ?_⟩
  rw [hks]
  refine wpAny_call (codeAny_mono (F.run X.A X.stack s2 H2 ⟨[], ks.zip ws⟩ (g [] ws) ([] ++ zs) Q E hr I2.env0 (hb.to s2 [] ws I2.kIn rfl (rz.length.symm.trans l2)) (hb.rel .nil rz) q2) fun rr s' hq => ?_)
  match rr, hq with
  | .error er, hq => exact hx pins σ H2 s2 er s' I2 hq
  | .ok (.ret u), hq => exact I2.after hq
  | .ok .next, hq => exact hq.elim
  | .ok .brk, hq => exact hq.elim
  | .ok .cont, hq => exact hq.elim
theorem z_ownK {n : Nat} {sp : Sp} {E : XK} (h : tk σ H fun zs H1 => zs.length = n ∧ sp zs H1 Q E) : tOwnK n sp E tk σ H Q := h
end
end Ys
/-! tuple(d): the keys of a dict -/
namespace PySem
open AutoSeq1 (wpAny_loadPart')
open PySem PySem.Spec PyProof.Rows
theorem meets_tuple_new_raw (d : Addr) (o : Obj) (es : Array DictEntry) (ep : Nat) (lo : (d == sysModules) = false) (hx : o.ExactDict) (hd : o.data = .dict es ep) (hsz : es.size ≤ sizeLine) :
    Meets (Builtin.«tuple.__new__» ⟨[.type "tuple", .ref d], []⟩)
      (fun A R s => A.handled = none ∧ s.heap.get? d = some o ∧ ∀ (h' : Heap) (tk : Nat) (acc : Array Value), (∀ b o', s.heap.get? b = some o' → h'.get? b = some o') → ItemsOf (fun i v => ∃ en : DictEntry, es[i]? = some en ∧ v = en.key) acc es.size →
        R (.ok (.ret (.ref h'.objs.size))) { s with heap := h'.push { cls := .type "tuple", data := .seq acc }, toks := tk }) :=
  .of_wp fun prog w A R s h => by
    obtain ⟨hp, g, dr, tk, os⟩ := s; obtain ⟨hh, ht, h⟩ := h
    have hsub := sub_tuple_self
    have hinit := init_tuple_lookup
    have hmh := madeHere_tuple
    have hT : Shared.TypeIs ⟨hp, g, dr, tk, os⟩ (.ref d) "dict" := ⟨o, ht, hx.1⟩
    wp_walk using wpAny_loadPart' ht, wpAny_typeOf hT, PySem.W.kdu_collect (A := A.in1) (L2.kdl_raw lo hx hd) (show A.in1.handled = none from hh) ht hsz
    intro h' tk' acc hk hi
    show wpAny _ _ (Builtin.Tuple.tupleExact acc.toList.toArray >>= fun v => ret v) _ _ _
    unfold Builtin.Tuple.tupleExact
    have e : acc.toList.toArray = acc := by simp
    refine wpAny_bind (wpAny_newObj_type ?_ (by show acc.toList.toArray.size ≤ sizeLine; rw [e, hi.1]; exact hsz))
    refine wpAny_pure ⟨_, rfl, ?_⟩
    rw [e]
    exact h h' tk' acc hk hi
end PySem
namespace PySem
open PySem PySem.Spec PyProof.Rows
section
variable {prog : Program} {w : World} {A : Around} {E : Value → Shared → Prop} {s : Shared}
theorem call_tuple_raw {d : Addr} {o : Obj} {es : Array DictEntry} {ep : Nat} {Q : Value → Shared → Prop} (hh : A.handled = none) (lo : (d == sysModules) = false) (ho : s.heap.get? d = some o) (hx : o.ExactDict) (hd : o.data = .dict es ep) (hsz : es.size ≤ sizeLine)
    (h : ∀ (h' : Heap) (tk : Nat) (acc : Array Value), (∀ b o', s.heap.get? b = some o' → h'.get? b = some o') → ItemsOf (fun i v => ∃ en : DictEntry, es[i]? = some en ∧ v = en.key) acc es.size → Q (.ref h'.objs.size) { s with heap := h'.push { cls := .type "tuple", data := .seq acc }, toks := tk }) :
    wpAny (model prog w) A (call (.type "tuple") [.ref d]) Q E s := by
  exact callType_new F.called_tuple (by decide) (F.typeCall_tuple_1 _) (F.newCall_tuple_1 _) (fun obj => F.args_object_init_2 obj _) F.entry_tuple_new
    (meets_tuple_new_raw d o es ep lo hx hd hsz) ⟨hh, ho, fun h' tk acc hk hi => ⟨⟨_, Heap.get?_push_size _ rfl, rfl⟩, h h' tk acc hk hi⟩⟩
end
end PySem
namespace Ys
open PySem PySem.Spec PyProof.Rows L2
section
variable {X : Cx} {K : PySem.W.Frag} {G H : Hp} {M : List (Addr × HO)} {d : Addr} {kvs : List (Key × V)} {Q : VK}
def rTupK : List V → Hp → VK → Prop := fun xs H Q => ∃ d kvs, xs = [.ref d] ∧ Rd H d (.dK kvs) ∧ ∀ p, H p = none → Q (.ref p) (upd H p (.tup (kvs.map fun q => kV q.1)))
theorem c_tupK (hc : X.calm = true) : CallR X (.type "tuple") rTupK := by
  intro pins s σ H xs us Q I r h
  obtain ⟨d, kvs, rfl, hd, q⟩ := h
  obtain ⟨u, rfl, rx⟩ := r.one
  cases rx
  obtain ⟨z, hs, vs, rv, o, es, ep, ho, hx, hdt, hk, hp, hn⟩ := (show ObjOk X.prog X.w H s.heap d (.dK kvs) from hd.ok I.hok)
  have l1 : es.size = vs.length := by rw [← hp.length]; exact Array.length_toList.symm
  have l2 : kvs.length = vs.length := rv.length
  refine call_tuple_raw (I.ok.hd hc) hs ho hx hdt (by omega) fun h' tk acc kp it => ?_
  have I1 : Inv X pins σ H { s with heap := h', toks := tk } := I.kept (t' := tk) kp
  have ks : Vals (kvs.map fun q => kV q.1) acc.toList := by
    have hl : acc.toList.length = vs.length := by rw [Array.length_toList, it.1]; exact l1
    refine vals_of_at (by rw [List.length_map]; omega) fun j x w h1 h2 => ?_
    obtain ⟨en, hen, hw⟩ := it.2 j w (by rw [← Array.getElem?_toList]; exact h2)
    have hj : j < vs.length := by have := (List.getElem?_eq_some_iff.mp h2).1; omega
    obtain ⟨k, y, hky⟩ : ∃ k y, vs[j]? = some (k, y) := ⟨_, _, List.getElem?_eq_getElem hj⟩
    have e1 : (kvs.map (·.1))[j]? = some k := by
      rw [KV.keys rv, List.getElem?_map, hky] <;> rfl
    have e2 : (kvs.map fun kv => kV kv.1)[j]? = some (kV k) := by
      have e3 : (kvs.map fun kv => kV kv.1) = (kvs.map (·.1)).map kV := by rw [List.map_map] <;> rfl
      rw [e3, List.getElem?_map, e1] <;> rfl
    rw [e2] at h1
    cases h1
    rw [hw]
    exact keyIs_rel (hp.get? (by rw [Array.getElem?_toList]; exact hen) hky).1
  have I2 : Inv X pins σ (upd H h'.objs.size (.tup (kvs.map fun q => kV q.1))) { s with heap := h'.push { cls := .type "tuple", data := .seq acc }, toks := tk } :=
    I1.laid (t' := tk) (fun b o e => Heap.get?_push_of_some _ e) (Nat.le_refl _) (show ObjOk X.prog X.w _ _ _ (.tup _) from ⟨by rw [List.length_map]; exact z, acc.toList, ks, by rw [Array.toArray_toList]; exact IsTup.new _ _⟩)
  exact ⟨.ref h'.objs.size, _, I2, rfl, q _ (I1.hok.fresh (Nat.le_refl _))⟩
def kcTupK (K : PySem.W.Frag) : List V → Hp → VK → Prop := fun xs H Q => rTupG K xs H Q ∨ rTupK xs H Q
theorem kc_tupK (hc : X.calm = true) (e : X.K = K := by rfl) : CallR X (.type "tuple") (kcTupK K) := (kc_tuple (K := K) e).or (c_tupK hc)
theorem z_tupK (z : Zp G M H) (h : FzD G d kvs) (q : ∀ p G1 H1, Zp G1 M H1 → Same G G1 → SqT K G1 p (kvs.map fun q => kV q.1) → Q (.ref p) H1) : kcTupK K [.ref d] H Q :=
  .inr ⟨d, kvs, rfl, h.rd z, fun p hp => q p _ _ (z.new hp _) (Same.new (z.free hp)) (SqT.of upd_same)⟩
end
end Ys
/-! != of dicts of data -/
namespace PySem.W
open Lean Elab Tactic Meta PySem PySem.Calls PyProof.Rows PyProof.V PySem.Spec
section
variable {prog : Program} {w : World} {K : Type} [DecidableEq K] {knd : KeyKind prog w K} {A : Around} {E : Value → Shared → Prop} {s : Shared}
theorem rcPn_dicts {a b : Addr} {ka kb : List (K × Value)} {r : Bool} (ha : (a == sysModules) = false) (hb : (b == sysModules) = false)
    (da : s.heap.DictOf knd a ka) (db : s.heap.DictOf knd b kb) (hu : A.units < cLine) (hits : ka.length = kb.length → KeqHitsP prog w A.in1 s kb ka r) (E Q : Value → Shared → Prop) (h : Q (.bool (!(ka.length == kb.length && r))) s) : wpAny (model prog w) A (richCompare .NotEq (.ref a) (.ref b)) Q E s := by
  refine wpAny_richCompare_same_room (op := .NotEq) da.typeIs db.typeIs PySem.F.slot_dict_ne (wpAny_call_entry PySem.F.slot_dict_ne da.typeIs PySem.F.entry_dict_ne ?_ (PySem.F.args_dict_ne_2 _ _)) hu
  show wpAny _ _ (Builtin.Dict.dictSlotArgs "__ne__" ⟨[.ref a, .ref b], []⟩ >>= _) _ _ s
  refine wpAny_bind ?_
  unfold Builtin.Dict.dictSlotArgs
  refine wpAny_bind (wpAny_notOrdered_dict da.typeIs ?_)
  show wpAny _ _ (pure (Value.ref a, Value.ref b)) _ _ s
  refine wpAny_pure ?_
  refine wpAny_bind (wpAny_isInstance (T := "dict") db.typeIs PySem.F.sub_dict_dict ?_)
  simp only [Bool.not_true, Bool.false_eq_true, if_false]
  refine wpAny_bind (wpAny_pure (wpAny_bind (wpAny_pure ?_)))
  refine wpAny_bind (samePairsP ha hb da db hits ?_)
  refine wpAny_pure ⟨_, rfl, ?_, ?_⟩
  · exact fun x => nomatch x
  · have e : ((ka.length == kb.length && r) == false) = !(ka.length == kb.length && r) := by cases (ka.length == kb.length && r) <;> rfl
    rw [e]
    exact h
end
end PySem.W
namespace Ys
open PySem PySem.Spec PyProof.Rows L2
def DtK (K : PySem.W.Frag) (H : Hp) : List (Key × V) → List (Str × PyData) → Prop := Paired fun p q => p.1 = .inr q.1 ∧ Dt K H p.2 q.2
def lookD : List (Str × PyData) → Str → Option PyData
  | [], _ => none
  | q :: l, k => if q.1 = k then some q.2 else lookD l k
def eqDD (l1 l2 : List (Str × PyData)) : Bool := l1.length == l2.length && l1.all fun q => match lookD l2 q.1 with
  | some d => PyData.eqv q.2 d
  | none => false
theorem DtK.up {K : PySem.W.Frag} {G H : Hp} {kvs l} (h : DtK K G kvs l) (s : ∀ a o, G a = some o → H a = some o) : DtK K H kvs l := L2.Paired.mapP h fun _ _ ⟨e, d⟩ => ⟨e, d.up s⟩
theorem dtk_look {K : PySem.W.Frag} {H : Hp} {k : Str} : ∀ {kvs : List (Key × V)} {l : List (Str × PyData)}, DtK K H kvs l → (lookD l k = none → valV kvs (.inr k) = none) ∧ ∀ d, lookD l k = some d → ∃ v, valV kvs (.inr k) = some v ∧ Dt K H v d
  | _, _, .nil => ⟨fun _ => rfl, fun d h => by cases h⟩
  | p :: r, q :: l, .cons h t => by
    obtain ⟨i1, i2⟩ := dtk_look (k := k) t
    obtain ⟨e, d0⟩ := h
    unfold lookD
    by_cases c : q.1 = k
    · rw [if_pos c]
      refine ⟨fun z => (nomatch z), fun d z => ?_⟩
      cases z
      exact ⟨p.2, valV_pos (by rw [e, c]), d0⟩
    · rw [if_neg c, valV_neg (fun z => c (Sum.inr.inj (e.symm.trans z)))]
      exact ⟨i1, i2⟩
section
variable {X : Cx}
def rNeDK (K : PySem.W.Frag) : R2 := fun x y H Q => ∃ a b ka kb la lb, x = .ref a ∧ y = .ref b ∧ Rd H a (.dK ka) ∧ Rd H b (.dK kb) ∧ DtK K H ka la ∧ DtK K H kb lb ∧ (∀ q ∈ la, SeqAt.shaped q.2 = true) ∧ (∀ q ∈ lb, SeqAt.shaped q.2 = true) ∧ Q (.bl (!eqDD la lb)) H
theorem lookD_mem {k : Str} {d : PyData} : ∀ {l : List (Str × PyData)}, lookD l k = some d → ∃ q ∈ l, q.2 = d
  | [], h => by cases h
  | q :: l, h => by
    unfold lookD at h
    split at h
    · cases h
      exact ⟨q, by simp, rfl⟩
    · obtain ⟨q', h1, h2⟩ := lookD_mem h
      exact ⟨q', List.mem_cons_of_mem _ h1, h2⟩
theorem hitsK {pins : List (Addr × Obj)} {σ : L2.St} {H : Hp} {s : Shared} {A : Around} {kb : List (Key × V)} {vb : List (Key × Value)} {lb : List (Str × PyData)} (I : Inv X pins σ H s) (S : SysIn X.K) (hu : A.units + 64 < cLine) (rb : KV kb vb) (hb : DtK X.K H kb lb) (sb : ∀ q ∈ lb, SeqAt.shaped q.2 = true) :
    ∀ {ka : List (Key × V)} {va : List (Key × Value)} {la : List (Str × PyData)}, KV ka va → DtK X.K H ka la → (∀ q ∈ la, SeqAt.shaped q.2 = true) → PySem.W.KeqHitsP X.prog X.w A s vb va (la.all fun q => match lookD lb q.1 with
      | some d => PyData.eqv q.2 d
      | none => false)
  | _, _, _, .nil, .nil, _ => .nil
  | p :: ka, u :: va, q :: la, .cons ru ra, .cons hq hl, sa => by
    obtain ⟨e, d0⟩ := hq
    obtain ⟨eu, rv⟩ := ru
    have ih := hitsK I S hu rb hb sb ra hl fun x hx => sa x (List.mem_cons_of_mem _ hx)
    obtain ⟨i1, i2⟩ := dtk_look (k := q.1) hb
    have hk := rb.val (.inr q.1)
    obtain ⟨uk, uv⟩ := u
    have eu : uk = .inr q.1 := by rw [← e]; exact eu.symm
    subst eu
    rw [List.all_cons]
    cases c : lookD lb q.1 with
    | none =>
      rw [i1 c] at hk
      have : valueAt vb (.inr q.1) = none := RelO.none_of hk
      simp only [Bool.false_and]
      exact .miss this
    | some d =>
      obtain ⟨v, hv, hd⟩ := i2 d c
      rw [hv] at hk
      obtain ⟨w', hw, rw'⟩ := RelO.some_of hk
      obtain ⟨as1, R1, _⟩ := Dt.reads I S q.2 p.2 uv d0 rv
      obtain ⟨as2, R2, _⟩ := Dt.reads I S d v w' hd rw'
      obtain ⟨q', hq', eq'⟩ := lookD_mem c
      have s1 := sa q (by simp)
      have s2 : SeqAt.shaped d = true := by rw [← eq']; exact sb q' hq'
      refine .hit hw (SeqAt.EqAt.eqP (SeqAt.eqAt_reads _ _ _ _ _ _ _ _ R1 R2 (SeqAt.canLay_of_shaped s1) (SeqAt.canLay_of_shaped s2) (SeqAt.room_of_shaped s1 hu))) ih
theorem op_neDK (S : SysIn X.K) (hu : X.A.units + 128 < cLine) : OpR X (compareOp .NotEq) (rNeDK X.K) := by
  intro pins s σ H x y v u Q I rx ry h
  obtain ⟨a, b, ka, kb, la, lb, rfl, rfl, ha, hb, da, db, sa, sb, q⟩ := h
  cases (show v = Value.ref a from rx)
  cases (show u = Value.ref b from ry)
  obtain ⟨za, hda, va, ra, dda⟩ := dk_rd I.hok ha
  obtain ⟨zb, hdb, vb, rb, ddb⟩ := dk_rd I.hok hb
  refine PySem.W.rcPn_dicts (beq_false_of_ne (sys_ne I S ha)) (beq_false_of_ne (sys_ne I S hb)) dda ddb (by omega) (fun _ => hitsK I S (by show X.A.in1.units + 64 < cLine; have : X.A.in1.units = X.A.units + 1 := rfl; omega) rb db sb ra da sa) _ _ ⟨.bl _, H, I, rfl, ?_⟩
  have l1 : va.length = la.length := by rw [← Paired.length ra, Paired.length da]
  have l2 : vb.length = lb.length := by rw [← Paired.length rb, Paired.length db]
  rw [l1, l2]
  exact q
theorem k_neDK {K : PySem.W.Frag} (S : SysIn K) (hu : X.A.units + 128 < cLine) (e : X.K = K := by rfl) : OpR X (compareOp .NotEq) (rNeDK K) := by
  subst e
  exact op_neDK S hu
end
end Ys
/-! classes with *known, **numbers; classmethods; stars of dicts; methods by keywords; == of dicts of data -/
namespace Ys
open PySem PySem.Spec PyProof.Rows L2
section
variable {X : Cx} {CX : CXT} {K : PySem.W.Frag} {k n i : Nat} {C a d f g p : Addr} {fd : FuncData} {ps ks : List Str} {sp : Sp} {E : XK} {x m : Str} {nm pos apos : Pos} {e o : Expr} {es : List Expr} {kws : List Keyword} {ta te : TE} {t tk : TA} {G H : Hp} {M : List (Addr × HO)} {σ : L2.St} {Q : VK} {QA : List V → Hp → Prop} {kvs : List (Key × V)}
/-! ### made by a positional promise -/
structure MkR (P : Program) (w : World) (K : PySem.W.Frag) (mg : Str → Option Value) (base : Heap) (CX : CXT) (k : Nat) (C : Addr) (sp : Sp) : Prop where
  ex : ∃ f, Mk K C f ∧ FnR P w K mg base CX k f sp
def MkRW (C : Addr) (sp : Sp) (E : XK) (vs : List V) (H1 : Hp) (Q : VK) : Prop := ∀ x dx, H1 x = none → H1 dx = none → dx ≠ x → sp (V.ref x :: vs) (upd (upd H1 dx (.own x)) x (.ins C dx [])) (fun v H2 => v = .non ∧ Q (.ref x) H2) E
theorem pe_mkR (R : MkR X.prog X.w X.K X.mg X.base CX k C sp) (hm : X.mg x = some (.ref C)) (hr : Room (k + 1) X.A) (hg : Gl X x) (hx : Passes CX X E) (ha : PA X (e :: es) t) (hdb : (x == ("__debug__" : Str)) = false := by decide)
    (he : starEach (e :: es) X.env = (false, eval e X.env) :: starEach es X.env := by rfl) (hpl : (backTo pos (starEach es X.env)).any (·.1) = false := by rfl) : PE X (.Call (.Name x nm) (e :: es) [] pos) (StX.tMakeR C sp E t) := by
  obtain ⟨f, M, F⟩ := R.ex
  exact StX.pe_makeR M F hr hg hm hx ha hdb he hpl
theorem z_mkR (h : t σ H fun vs H1 => MkRW C sp E vs H1 Q) : StX.tMakeR C sp E t σ H Q := h
theorem z_mkRI {vs : List V} (z : Zp G M H) (q : ∀ x dx H1, Zp (upd G dx (.own x)) (M ++ [(x, .ins C dx [])]) H1 → Same G (upd G dx (.own x)) → sp (.ref x :: vs) H1 (fun v H3 => v = .non ∧ Q (.ref x) H3) E) : MkRW C sp E vs H Q :=
  fun x dx hx hd ne => q x dx _ ((z.new hd _).add (by rw [upd_ne (Ne.symm ne)]; exact hx) _) (Same.new (z.free hd))
def tMkL (i : Nat) (C : Addr) (sp : Sp) (E : XK) (t : TA) : TE := fun σ H Q => σ[i]? = some (some (.ref C)) ∧ t σ H fun vs H1 => MkRW C sp E vs H1 Q
theorem pe_mkL (R : MkR X.prog X.w X.K X.mg X.base CX k C sp) (hr : Room (k + 1) X.A) (hN : X.N[i]? = some x) (hv : Vis X.env.scope x) (hx : Passes CX X E) (ha : PA X (e :: es) t) (hdb : (x == ("__debug__" : Str)) = false := by decide) (hcd : (x == ("__classdict__" : Str)) = false := by decide)
    (he : starEach (e :: es) X.env = (false, eval e X.env) :: starEach es X.env := by rfl) (hpl : (backTo pos (starEach es X.env)).any (·.1) = false := by rfl) : PE X (.Call (.Name x nm) (e :: es) [] pos) (tMkL i C sp E t) := by
  obtain ⟨f, M, F⟩ := R.ex
  refine ⟨fun pins s σ H Q I h => ?_⟩
  obtain ⟨hs, ht⟩ := h
  refine wpAny_Call_Name_kw (thn ((pe_var (pos := nm) hN hv hdb hcd).run pins s σ H (fun v H1 => v = .ref C ∧ H1 = H) I ⟨.ref C, hs, rfl, rfl⟩) fun u s1 ⟨v, H1, I1, r1, q1⟩ => ?_)
  obtain ⟨rfl, rfl⟩ := q1
  cases r1
  refine PySem.W.callWith_K (h₀ := X.base) I.ok.mod.kin M.kp (thn (ha.run pos pins s1 σ _ _ I1 ht) fun us s2 ⟨vs, H2, I2, r, q⟩ => ⟨I2.kIn, ?_⟩) he hpl
  exact StX.run_makeR M F hr hx I2 r q
theorem z_mkL (hs : σ[i]? = some (some (.ref C))) (h : t σ H fun vs H1 => MkRW C sp E vs H1 Q) : tMkL i C sp E t σ H Q := ⟨hs, h⟩
theorem fnR_of {P : Program} {w : World} {mg : Str → Option Value} {base : Heap} (F : FnOk P w K mg base CX k f fd ps sp) (hb : Binds K fd ps []) : FnR P w K mg base CX k f sp := (F.raw hb .nil).imp fun vs H Q E h => by
  show sp (vs ++ []) H Q E
  rw [List.append_nil]
  exact h
/-! ### a classmethod -/
theorem z_cm (h : ta σ H fun x H1 => x = .ref C ∧ t σ H1 fun vs H2 => sp (.ref C :: vs) H2 Q E) : ClX.tCMeth C sp E ta t σ H Q := h
/-! ### stars of dicts -/
theorem star_dict {pins : List (Addr × Obj)} {s : Shared} {Ev : Value → Shared → Prop} {Qs : List Value → Shared → Prop} (hc : X.calm = true) (I : Inv X pins σ H s) (h : Rd H d (.dK kvs)) (hQ : ∀ us s', Inv X pins σ H s' → Vals (kvs.map fun q => kV q.1) us → Qs us s') : PySem.W.StarOf (model X.prog X.w) X.A Ev (.ref d) Qs s := by
  obtain ⟨z, hs, vs, rv, o, es, ep, ho, hx, hdt, hk, hp, hn⟩ := (show ObjOk X.prog X.w H s.heap d (.dK kvs) from h.ok I.hok)
  have l1 : es.size = vs.length := by rw [← hp.length]; exact Array.length_toList.symm
  have l2 : kvs.length = vs.length := rv.length
  have hT : s.TypeIs (.ref d) "dict" := ⟨o, ho, hx.1⟩
  have zz : wpAny (model X.prog X.w) X.A (collect (.ref d)) Qs Ev s := by
    refine PySem.W.kdu_collect (L2.kdl_raw hs hx hdt) (I.ok.hd hc) ho (by omega) fun h' tk acc kp it => ?_
    have I1 : Inv X pins σ H { s with heap := h', toks := tk } := I.kept (t' := tk) kp
    refine hQ acc.toList _ I1 ?_
    have hl : acc.toList.length = vs.length := by rw [Array.length_toList, it.1]; exact l1
    refine vals_of_at (by rw [List.length_map]; omega) fun j x w h1 h2 => ?_
    obtain ⟨en, hen, hw⟩ := it.2 j w (by rw [← Array.getElem?_toList]; exact h2)
    have hj : j < vs.length := by have := (List.getElem?_eq_some_iff.mp h2).1; omega
    obtain ⟨k, y, hky⟩ : ∃ k y, vs[j]? = some (k, y) := ⟨_, _, List.getElem?_eq_getElem hj⟩
    have e1 : (kvs.map (·.1))[j]? = some k := by
      rw [KV.keys rv, List.getElem?_map, hky] <;> rfl
    have e2 : (kvs.map fun kv => kV kv.1)[j]? = some (kV k) := by
      have e3 : (kvs.map fun kv => kV kv.1) = (kvs.map (·.1)).map kV := by rw [List.map_map] <;> rfl
      rw [e3, List.getElem?_map, e1] <;> rfl
    rw [e2] at h1
    cases h1
    rw [hw]
    exact keyIs_rel (hp.get? (by rw [Array.getElem?_toList]; exact hen) hky).1
  unfold PySem.W.StarOf notIterableAtAll
  exact wpAny_bind (wpAny_specialOf hT PySem.F.slot_dict_iter.lookup (wpAny_pure ⟨rfl, zz⟩))
def tStarD (te : TE) (t : TA) : TA := fun σ H Q => te σ H fun x H1 => ∃ d kvs, x = V.ref d ∧ Rd H1 d (.dK kvs) ∧ t σ H1 fun ys H2 => Q ((kvs.map fun q => kV q.1) ++ ys) H2
theorem pa_starD (hc : X.calm = true) (he : PE X e te) (hr : PA X es t) (hs : starEach (.Starred e nm :: es) X.env = (true, eval e X.env) :: starEach es X.env := by rfl) : PA X (.Starred e nm :: es) (tStarD te t) := by
  refine ⟨fun pos pins s σ H Q I h => ?_⟩
  refine PySem.W.items_star (thn (he.run pins s σ H _ I h) fun v s1 ⟨y, H1, I1, ry, d, kvs, ey, hx, q⟩ => ?_) hs
  subst ey
  obtain rfl : v = Value.ref d := ry
  refine star_dict hc I1 hx fun us s2 I2 rv => ?_
  exact thn (hr.run pos pins s2 σ H1 _ I2 q) fun ws s3 ⟨vs, H3, I3, r3, q3⟩ => ⟨_, H3, I3, rv.append r3, q3⟩
def SdW (x : V) (H1 : Hp) (A : List (Key × V) → Prop) : Prop := ∃ d kvs, x = V.ref d ∧ Rd H1 d (.dK kvs) ∧ A kvs
theorem z_starD (h : te σ H fun x H1 => SdW x H1 fun kvs => t σ H1 fun ys H2 => QA ((kvs.map fun q => kV q.1) ++ ys) H2) : tStarD te t σ H QA := h
theorem z_sdF {A : List (Key × V) → Prop} (z : Zp G M H) (h : FzD G d kvs) (q : A kvs) : SdW (.ref d) H A := ⟨d, kvs, rfl, h.rd z, q⟩
/-! ### methods by keywords alone -/
structure MthK (P : Program) (w : World) (K : PySem.W.Frag) (mg : Str → Option Value) (base : Heap) (CX : CXT) (k : Nat) (C : Addr) (m : Str) (ps ks : List Str) (sp : Sp) : Prop where
  ex : ∃ f fd g, Meth K C m f ∧ FnOk P w K mg base CX k f fd ps sp ∧ KBn K fd ps 1 ks g fun vs zs => vs ++ zs
  cl : Cls K C
def MtKW (C : Addr) (m : Str) (x : V) (H1 : Hp) (A : Prop) : Prop := ∃ a dx fs, x = .ref a ∧ H1 a = some (.ins C dx fs) ∧ fs.lookup m = none ∧ A
def tMtK (C : Addr) (m : Str) (n : Nat) (sp : Sp) (E : XK) (ta : TE) (tk : TA) : TE := fun σ H Q => ta σ H fun x H1 => MtKW C m x H1 (tk σ H1 fun zs H2 => zs.length = n ∧ sp (x :: zs) H2 Q E)
theorem pe_mtK {pl : Sem Bool} (R : MthK X.prog X.w X.K X.mg X.base CX k C m ps ks sp) (hr : Room k X.A) (hx : Passes CX X E) (he : PE X o ta) (hkw : PK X kws tk)
    (hall : (backToKw pos (keywordEach kws X.env)).all (·.1.isSome) = true := by rfl) (hks : (backToKw pos (keywordEach kws X.env)).filterMap (·.1) = ks := by rfl)
    (hpl : ((backTo pos (starEach [] X.env)).any (·.1) || (backToKw pos (keywordEach kws X.env)).any (·.1.isNone)) = false := by rfl)
    (ht : eval (.Call (.Attribute o m apos) [] kws pos) X.env = (do
      let ov ← eval o X.env
      standAt apos.atName
      let (f, first) ← holding [ov] (getMethod ov m pl)
      callWith pos f first (backTo pos (starEach [] X.env)) (backToKw pos (keywordEach kws X.env))) := by rfl) : PE X (.Call (.Attribute o m apos) [] kws pos) (tMtK C m ks.length sp E ta tk) := by
  obtain ⟨f, fd, g, hm, F, hb⟩ := R.ex
  refine ⟨fun pins s σ H Q I h => ?_⟩
  refine PySem.W.methodCall_KW (pl := pl) (thn (he.run pins s σ H _ I h) fun u s1 ⟨x, H1, I1, rx, a, dx, fs, ex, ea, l, q⟩ => ?_) ht
  subst ex
  obtain rfl : u = Value.ref a := rx
  refine getmeth_ok I1 ea R.cl hm l ?_
  refine PySem.W.callWith_KW0 (h₀ := X.base) (first := [.ref a]) I1.ok.mod.kin hm.kp hall ?_ hpl
  refine thn (hkw.run pos pins s1 σ H1 _ I1 q) fun ws s2 ⟨zs, H2, I2, rz, l2, q2⟩ => ⟨I2.kIn, ?_⟩
  rw [hks]
  refine wpAny_call (codeAny_mono (F.run X.A X.stack s2 H2 ⟨[.ref a], ks.zip ws⟩ (g [.ref a] ws) ([.ref a] ++ zs) Q E hr I2.env0 (hb.to s2 [.ref a] ws I2.kIn rfl (rz.length.symm.trans l2)) (hb.rel (vs := [V.ref a]) (us := [Value.ref a]) (.cons rfl .nil) rz) q2) fun rr s' hq => ?_)
  match rr, hq with
  | .error er, hq => exact hx pins σ H2 s2 er s' I2 hq
  | .ok (.ret u), hq => exact I2.after hq
  | .ok .next, hq => exact hq.elim
  | .ok .brk, hq => exact hq.elim
  | .ok .cont, hq => exact hq.elim
theorem z_mtK {n : Nat} (h : ta σ H fun x H1 => MtKW C m x H1 (tk σ H1 fun zs H2 => zs.length = n ∧ sp (x :: zs) H2 Q E)) : tMtK C m n sp E ta tk σ H Q := h
theorem z_mtKI {dx : Addr} {fs : List (Str × V)} {A : Prop} (z : Zp G M H) (h : G a = some (.ins C dx fs)) (l : fs.lookup m = none) (q : A) : MtKW C m (.ref a) H A := ⟨a, dx, fs, rfl, z.sub _ _ h, l, q⟩
/-! ### a tuple != () -/
def rNeT0 (K : PySem.W.Frag) : R2 := fun x y H Q => ∃ a b xs, x = V.ref a ∧ y = V.ref b ∧ SqT K H a xs ∧ SqT K H b [] ∧ Q (.bl (decide (xs ≠ []))) H
theorem op_neT0 (hu : X.A.units + 64 < cLine) : OpR X (compareOp .NotEq) (rNeT0 X.K) := by
  intro pins s σ H x y v u Q I rx ry ⟨a, b, xs, e1, e2, h1, h2, q⟩
  subst e1 e2
  cases rx
  cases ry
  obtain ⟨i1, r1, ⟨o1, ho1, hc1, n1, hd1⟩, _⟩ := I.tuple h1
  obtain ⟨i2, r2, ⟨o2, ho2, hc2, n2, hd2⟩, _⟩ := I.tuple h2
  have l1 := r1.length
  have l2 := r2.length
  have e2 : i2 = [] := List.length_eq_zero_iff.mp l2.symm
  subst e2
  refine PySem.SeqAt.RcNeAt.tuples (e := fun _ => true) ⟨o1, ho1, hc1, n1, hd1⟩ ⟨o2, ho2, hc2, n2, hd2⟩ (by omega) (fun j j1 j2 => absurd j2 (by simp)) X.prog X.w X.xe _ ⟨.bl _, H, I, rfl, ?_⟩
  cases xs with
  | nil =>
    have : i1 = [] := List.length_eq_zero_iff.mp l1.symm
    subst this
    exact q
  | cons x r =>
    cases i1 with
    | nil => simp at l1
    | cons _ _ => exact q
theorem k_neT0 (hu : X.A.units + 64 < cLine) (e : X.K = K := by rfl) : OpR X (compareOp .NotEq) (rNeT0 K) := by
  subst e
  exact op_neT0 hu
theorem z_neT0 {b : Addr} {xs : List V} (z : Zp G M H) (h1 : G a = some (.tup xs)) (h2 : G b = some (.tup [])) (q : Q (.bl (decide (xs ≠ []))) H) : rNeT0 K (.ref a) (.ref b) H Q := ⟨a, b, xs, rfl, rfl, SqT.of (z.sub _ _ h1), SqT.of (z.sub _ _ h2), q⟩
/-! ### == of dicts of data -/
def rEqDK (K : PySem.W.Frag) : R2 := fun x y H Q => ∃ a b ka kb la lb, x = .ref a ∧ y = .ref b ∧ Rd H a (.dK ka) ∧ Rd H b (.dK kb) ∧ DtK K H ka la ∧ DtK K H kb lb ∧ (∀ q ∈ la, SeqAt.shaped q.2 = true) ∧ (∀ q ∈ lb, SeqAt.shaped q.2 = true) ∧ Q (.bl (eqDD la lb)) H
theorem op_eqDK (S : SysIn X.K) (hu : X.A.units + 128 < cLine) : OpR X (compareOp .Eq) (rEqDK X.K) := by
  intro pins s σ H x y v u Q I rx ry h
  obtain ⟨a, b, ka, kb, la, lb, rfl, rfl, ha, hb, da, db, sa, sb, q⟩ := h
  cases (show v = Value.ref a from rx)
  cases (show u = Value.ref b from ry)
  obtain ⟨za, hda, va, ra, dda⟩ := dk_rd I.hok ha
  obtain ⟨zb, hdb, vb, rb, ddb⟩ := dk_rd I.hok hb
  refine PySem.W.rcP_dicts (beq_false_of_ne (sys_ne I S ha)) (beq_false_of_ne (sys_ne I S hb)) dda ddb (by omega) (fun _ => hitsK I S (by show X.A.in1.units + 64 < cLine; have : X.A.in1.units = X.A.units + 1 := rfl; omega) rb db sb ra da sa) _ _ ⟨.bl _, H, I, rfl, ?_⟩
  have l1 : va.length = la.length := by rw [← Paired.length ra, Paired.length da]
  have l2 : vb.length = lb.length := by rw [← Paired.length rb, Paired.length db]
  rw [l1, l2]
  exact q
theorem k_eqDK (S : SysIn K) (hu : X.A.units + 128 < cLine) (e : X.K = K := by rfl) : OpR X (compareOp .Eq) (rEqDK K) := by
  subst e
  exact op_eqDK S hu
/-! ### d.get(x, y) -/
theorem z_dgT {s : Str} {v : V} (z : Zp G M H) (h : FzD G d kvs) (e : valV kvs (.inr s) = some v) (q : Q v H) : DgW (.ref d) (.str s) H Q := z_dgF (k := .inr s) z h e q
def Dg2A (x : V) (H1 : Hp) (A : Addr → Prop) : Prop := ∃ a, x = .ref a ∧ IsD H1 a ∧ A a
def Dg2B (a : Addr) (y z : V) (H3 : Hp) (Q : VK) : Prop := ∃ o, DGet H3 a y o ∧ Q (o.getD z) H3
theorem z_dg2 {td ty tx : TE} (h : td σ H fun x H1 => Dg2A x H1 fun a => ty σ H1 fun y H2 => tx σ H2 fun z H3 => Dg2B a y z H3 Q) : tDGet2 td ty tx σ H Q := h
theorem z_dg2A {A : Addr → Prop} (z : Zp G M H) (h : FzD G d kvs) (q : A d) : Dg2A (.ref d) H A := ⟨d, rfl, .inl ⟨kvs, h.rd z⟩, q⟩
theorem z_dg2B {key : Key} {y : V} (z : Zp G M H) (h : FzD G d kvs) (q : Q ((valV kvs key).getD y) H) : Dg2B d (kV key) y H Q := ⟨_, .inl ⟨kvs, key, h.rd z, rfl, rfl⟩, q⟩
theorem z_dg2S {s : Str} {y : V} (z : Zp G M H) (h : FzD G d kvs) (q : Q ((valV kvs (.inr s)).getD y) H) : Dg2B d (.str s) y H Q := ⟨_, .inl ⟨kvs, .inr s, h.rd z, rfl, rfl⟩, q⟩
/-! ### a comprehension over the pairs of a dict: each a new tuple -/
theorem lc_items {g : TG} {tt : TT} {te : TE} {od : Obj} {ws : List Nat} (I : Nat → Hp → List (Addr × HO) → List V → Prop) (z : Zp G M H) (h0 : I 0 G M []) (fz : ∀ i G' M' acc, I i G' M' acc → G' d = some (.frz od (.dK kvs)))
    (turn : ∀ i k v T G' M' acc Dl G2 H', kvs[i]? = some (k, v) → I i G' M' acc → Zp G2 (M' ++ [(Dl, .lst acc)]) H' → Same G' G2 → G2 T = some (.tup [kV k, v]) → g (.ref T) (wipe σ ws) H' fun σ2 H2 => wipe σ2 ws = wipe σ ws ∧ tt σ2 H2 fun b H3 =>
      Bif b (te σ2 H3 fun y H4 => Laid (I (i + 1)) Dl y H4) (Kept (I (i + 1)) Dl H3))
    (done : ∀ p G M acc G1 H1, I kvs.length G M acc → Same G G1 → Zp G1 M H1 → G1 p = some (.lst acc) → Q (.ref p) H1) : LcW (Iti d od kvs) g tt te ws σ H Q := by
  intro Dl hD
  refine ⟨fun i m H => m = kvs.length - i ∧ i ≤ kvs.length ∧ Kept (I i) Dl H, ⟨kvs.length, by simp, Nat.zero_le _, G, M, [], z.add hD _, h0⟩, ?_⟩
  rintro i m H ⟨rfl, hi, G, M, acc, z, h⟩
  have o := z.sub _ _ (fz i G M acc h)
  by_cases c : i < kvs.length
  · refine .inr ⟨⟨o, c⟩, Kept (I (i + 1)) Dl, fun H' q => ⟨kvs.length - (i + 1), by omega, rfl, c, q⟩, fun x H' y => ?_⟩
    obtain ⟨T, k, v, e, rfl, hT, rfl⟩ := y
    exact turn i k v T G M acc Dl _ _ e h (z.new hT _) (Same.new (z.free hT)) upd_same
  · obtain rfl : i = kvs.length := by omega
    refine .inl ⟨⟨o, Nat.le_refl _⟩, done Dl G M acc _ H h (Same.new ?_) z.fix upd_same⟩
    exact (z.own M.length _ _ last_at).2
end
end Ys
/-! defs with *v, **d called by keywords; classes made so; classmethods by keywords -/
namespace Ys
open PySem PySem.Spec PyProof.Rows L2
theorem noneOf {G G1 : Hp} {a : Addr} (s : Same G G1) (h : G1 a = none) : G a = none := by
  cases e : G a with
  | none => rfl
  | some o => rw [s a o e] at h; cases h
def FnRK (P : Program) (w : World) (K : PySem.W.Frag) (mg : Str → Option Value) (base : Heap) (CX : CXT) (k : Nat) (f : Addr) (n : Nat) (ks : List Str) (sp : Sp) : Prop :=
  ∀ (A : Around) (outer : List Env) (s : Shared) (H : Hp) (us ws : List Value) (vs zs : List V) (Q : VK) (E : XK), Room k A → Env0 P w K mg base A outer s H → Vals vs us → Vals zs ws → vs.length = n → zs.length = ks.length → sp (vs ++ zs) H Q E →
    codeAny (model P w) A (.call (.ref f) ⟨us, ks.zip ws⟩) (CR CX outer P w H s Q E) s
theorem FnRK.imp {P : Program} {w : World} {K : PySem.W.Frag} {mg : Str → Option Value} {base : Heap} {CX : CXT} {k : Nat} {f : Addr} {n : Nat} {ks : List Str} {sp sp' : Sp} (F : FnRK P w K mg base CX k f n ks sp) (h : ∀ vs H Q E, sp' vs H Q E → sp vs H Q E) : FnRK P w K mg base CX k f n ks sp' :=
  fun A outer s H us ws vs zs Q E hr e0 r rz l1 l2 hs => F A outer s H us ws vs zs Q E hr e0 r rz l1 l2 (h _ _ _ _ hs)
theorem fnRK_of {P : Program} {w : World} {K : PySem.W.Frag} {mg : Str → Option Value} {base : Heap} {CX : CXT} {k : Nat} {f : Addr} {n : Nat} {ks ps : List Str} {sp : Sp} {fd : FuncData} {g : List Value → List Value → List Value} (F : FnOk P w K mg base CX k f fd ps sp) (hb : KBn K fd ps n ks g fun vs zs => vs ++ zs) : FnRK P w K mg base CX k f n ks sp :=
  fun A outer s H us ws vs zs Q E hr e0 r rz l1 l2 hs => F.run A outer s H ⟨us, ks.zip ws⟩ (g us ws) (vs ++ zs) Q E hr e0 (hb.to s us ws (e0.mod.kin.keeps fun b o e => (e0.bs b o e).1) (r.length.symm.trans l1) (rz.length.symm.trans l2)) (hb.rel r rz) hs
section
variable {P : Program} {w : World}
/-! ### the dict of the keywords -/
theorem push_update (h : Heap) (o : Obj) (f : Obj → Obj) : (h.push o).update h.objs.size f = h.push (f o) := by
  obtain ⟨objs, l⟩ := h
  show (⟨(objs.push o).modify objs.size f, l⟩ : Heap) = ⟨objs.push (f o), l⟩
  congr 1
  apply Array.ext
  · simp
  · intro i h1 h2
    rw [Array.getElem_modify]
    simp only [Array.getElem_push]
    by_cases c : i = objs.size
    · subst c
      simp
    · rw [if_neg (fun e => c e.symm)]
      have hlt : i < objs.size := by
        have h2' : i < objs.size + 1 := by simpa using h2
        omega
      rw [dif_pos hlt, dif_pos hlt]
theorem kwd_set {A : Around} {E : Value → Shared → Prop} {h : Heap} {g : Array GenState} {dr : Drawn} {t : Nat} {os : OsState} {es : List DictEntry} {n : Nat} {k : Str} {v : Value} {Q : Unit → Shared → Prop} (hs : ∀ e ∈ es, e.key.isStr k = false) (hr : ∀ e ∈ es, e.refKey = false)
    (q : Q () ⟨h.push (PySem.W.dictOf (es ++ [⟨PyData.keyHash w.params k, .str k t, v⟩]) (n + 1)), g, dr, t + 1, os⟩) : wpAny (model P w) A (nsSet h.objs.size k v) Q E ⟨h.push (PySem.W.dictOf es n), g, dr, t, os⟩ := by
  have e1 : es.any (·.key.isStr k) = false := by
    cases q : es.any (·.key.isStr k) with
    | false => rfl
    | true => obtain ⟨e, he, z⟩ := List.any_eq_true.mp q; rw [hs e he] at z; cases z
  have e2 : es.any (·.refKey) = false := by
    cases q : es.any (·.refKey) with
    | false => rfl
    | true => obtain ⟨e, he, z⟩ := List.any_eq_true.mp q; rw [hr e he] at z; cases z
  have e : Obj.putName k (PyData.keyHash w.params k) (.str k t) v (PySem.W.dictOf es n) = PySem.W.dictOf (es ++ [⟨PyData.keyHash w.params k, .str k t, v⟩]) (n + 1) := by
    rw [PySem.W.putName_dict, PySem.W.putL_new hs]
    show PySem.W.dictOf _ (if es.any (·.key.isStr k) then n else n + 1) = _
    rw [e1, if_neg Bool.false_ne_true]
  have D : (h.push (PySem.W.dictOf es n)).get? h.objs.size = some (PySem.W.dictOf es n) := Heap.get?_push_size h rfl
  have c : aRefKeyMayBeTheName k es.toArray = false := by
    rw [aRefKeyMayBeTheName_at, ← Array.any_toList, ← Array.any_toList]
    show (!es.any (·.key.isStr k) && es.any (·.refKey)) = false
    rw [e2, Bool.and_false]
  unfold nsSet
  refine wpAny_bind (wpAny_bind (wpAny_askSetting (wpAny_pure (wpAny_bind (wpAny_mkText (wpAny_bind (wpAny_loadPart D ?_)))))))
  dsimp only
  rw [c]
  refine wpAny_updatePart D ?_
  show Q () ⟨(h.push (PySem.W.dictOf es n)).update h.objs.size (Obj.putName k (PyData.keyHash w.params k) (.str k t) v), g, dr, t + 1, os⟩
  rw [push_update, e]
  exact q
theorem kwd_fill {A : Around} {E : Value → Shared → Prop} {h : Heap} {g : Array GenState} {dr : Drawn} {os : OsState} {Q : PUnit → Shared → Prop} : ∀ (ex : List (Str × Value)) (t : Nat) (es : List DictEntry) (n : Nat), (∀ e ∈ es, ∀ x ∈ ex, e.key.isStr x.1 = false) → (∀ e ∈ es, e.refKey = false) → (ex.map (·.1)).Nodup →
    Q ⟨⟩ ⟨h.push (PySem.W.dictOf (es ++ PySem.W.kwEs w.params t ex) (n + ex.length)), g, dr, t + ex.length, os⟩ →
    wpAny (model P w) A (forIn ex PUnit.unit fun x _ => (nsSet h.objs.size x.1 x.2 >>= fun _ => pure (ForInStep.yield PUnit.unit))) Q E ⟨h.push (PySem.W.dictOf es n), g, dr, t, os⟩
  | [], t, es, n, _, _, _, q => by
    rw [List.forIn_nil]
    refine wpAny_pure ?_
    have q : Q ⟨⟩ ⟨h.push (PySem.W.dictOf (es ++ []) n), g, dr, t, os⟩ := q
    rw [List.append_nil] at q
    exact q
  | x :: r, t, es, n, hs, hr, hn, q => by
    obtain ⟨hn1, hn2⟩ := List.nodup_cons.mp (show (x.1 :: r.map (·.1)).Nodup from hn)
    rw [List.forIn_cons]
    refine wpAny_bind (wpAny_bind (kwd_set (fun e he => hs e he x (.head _)) hr (wpAny_pure ?_)))
    refine kwd_fill r (t + 1) _ _ (fun e he y hy => ?_) (fun e he => ?_) hn2 ?_
    · rcases List.mem_append.mp he with he | he
      · exact hs e he y (.tail _ hy)
      · obtain rfl := List.mem_singleton.mp he
        show (x.1 == y.1) = false
        exact beq_eq_false_iff_ne.mpr fun q => hn1 (by rw [q]; exact List.mem_map_of_mem hy)
    · rcases List.mem_append.mp he with he | he
      · exact hr e he
      · obtain rfl := List.mem_singleton.mp he
        rfl
    · have t1 : t + 1 + r.length = t + (r.length + 1) := by omega
      have t2 : n + 1 + r.length = n + (r.length + 1) := by omega
      rw [t1, t2, List.append_assoc]
      exact q
theorem kwd_pairs : ∀ (ks : List Str) (ws : List Value) (t : Tok), Pairs (mixKind P w) (PySem.W.kwEs w.params t (ks.zip ws)) ((ks.map (Sum.inr : Str → Key)).zip ws)
  | [], _, _ => .nil
  | _ :: _, [], _ => .nil
  | k :: ks, x :: ws, t => .cons (kV_is (k := .inr k) (show RelV (.str k) (.str k t) from ⟨t, rfl⟩)) rfl (kwd_pairs ks ws (t + 1))
theorem kwd_keys (ks : List Str) (ws : List Value) (t : Tok) : KeysOf (mixKind P w) (PySem.W.kwEs w.params t (ks.zip ws)).toArray := fun e he => by
  obtain ⟨k, u, hk, hh⟩ := PySem.W.kwEs_key _ t e (List.mem_toArray.mp he)
  exact ⟨.inr k, by rw [hk]; exact kV_is (k := .inr k) (show RelV (.str k) (.str k u) from ⟨u, rfl⟩), hh⟩
def kwD (ks : List Str) (zs : List V) : List (Key × V) := (ks.map Sum.inr).zip zs
theorem kwd_kv : ∀ {ks : List Str} {zs : List V} {ws : List Value}, Vals zs ws → KV (kwD ks zs) ((ks.map (Sum.inr : Str → Key)).zip ws)
  | [], _, _, _ => .nil
  | _ :: _, [], _, .nil => .nil
  | _ :: _, _ :: _, _, .cons r rs => .cons ⟨rfl, r⟩ (kwd_kv rs)
theorem kwd_nodup : ∀ {ks : List Str} {ws : List Value}, ks.Nodup → (((ks.map (Sum.inr : Str → Key)).zip ws).map (·.1)).Nodup ∧ ((ks.zip ws).map (·.1)).Nodup
  | [], _, _ => ⟨.nil, .nil⟩
  | _ :: _, [], _ => ⟨.nil, .nil⟩
  | k :: ks, x :: ws, h => by
    obtain ⟨h1, h2⟩ := List.nodup_cons.mp h
    obtain ⟨a, b⟩ := kwd_nodup (ws := ws) h2
    refine ⟨List.nodup_cons.mpr ⟨fun m => ?_, a⟩, List.nodup_cons.mpr ⟨fun m => ?_, b⟩⟩
    · obtain ⟨y, hy, e⟩ := List.mem_map.mp m
      have := (List.of_mem_zip hy).1
      rw [e] at this
      obtain ⟨k', hk, e'⟩ := List.mem_map.mp this
      exact h1 (Sum.inr.inj e' ▸ hk)
    · obtain ⟨y, hy, e⟩ := List.mem_map.mp m
      have := (List.of_mem_zip hy).1
      rw [e] at this
      exact h1 this
theorem kwd_ok {H : Hp} {h : Heap} {ks : List Str} {ws : List Value} {zs : List V} (hn : ks.Nodup) (hl : ks.length ≤ sizeLine) (hb : sysModules < h.objs.size) (r : Vals zs ws) (t : Tok) (n : Nat) : ObjOk P w H (h.push (PySem.W.dictOf (PySem.W.kwEs w.params t (ks.zip ws)) n)) h.objs.size (.dK (kwD ks zs)) := by
  refine ⟨?_, beq_eq_false_iff_ne.mpr (Ne.symm (Nat.ne_of_lt hb)), _, kwd_kv r, _, _, n, Heap.get?_push_size h rfl, ⟨rfl, rfl, rfl⟩, rfl, kwd_keys ks ws t, kwd_pairs ks ws t, (kwd_nodup hn).1⟩
  unfold kwD
  rw [List.length_zip, List.length_map]
  omega
end
section
variable {CX : CXT} {P : Program} {w : World} {K : PySem.W.Frag} {mg : Str → Option Value} {base : Heap} {k : Nat} {f : Addr} {name qual : Str} {params : Arguments} {body : List Stmt} {scope : Scope} {dV kV doc pm cdv ct oc : Value} {an od : Option Addr}
  {osl : Array (Option Value)} {N ps ks : List Str} {sp : Sp}
def kwFill (ps ks : List Str) (pv pd : Str) (us ws : List Value) : Sem (List (Str × Value)) :=
  newTuple [] >>= fun t => (alloc ({ cls := .type "dict", data := .dict #[] } : Obj) : Sem Addr) >>= fun d => (forIn (ks.zip ws) PUnit.unit fun x _ => (nsSet d x.1 x.2 >>= fun _ => pure (ForInStep.yield PUnit.unit))) >>= fun _ => pure (ps.zip us ++ [(pv, t), (pd, Value.ref d)])
theorem fn_starK {pv pd : Str} (lk : K.lookup f = some ⟨oc, od, .func (PySem.W.fnOf name qual params body scope dV kV doc pm an cdv ct), osl⟩) (hcd : PySem.W.codeIn K cdv qual = true) (S : FnScope N (ps ++ [pv, pd]) scope) (hCX : StX.CXUp CX) (hks : ks.Nodup) (hkl : ks.length ≤ sizeLine)
    (hb : ∀ us ws : List Value, us.length = ps.length → ws.length = ks.length → bindArgs (PySem.W.fnOf name qual params body scope dV kV doc pm an cdv ct) ⟨us, ks.zip ws⟩ =
      kwFill ps ks pv pd us ws)
    (hbody : ∀ (A : Around) (outer : List Env) (s : Shared) (H : Hp) (vs : List V) (Q : VK) (E : XK), Room k (A.deeper (envOfC qual scope s.heap.objs.size f cdv)) → sp vs H Q E →
      ∃ t, PSs (cxOf CX P w K mg base N qual scope f cdv A outer s H E) body t ∧ t { nx := fun _ H' => Q .non H', rt := Q } (start N vs) H) :
    FnRK P w K mg base CX (k + 1) f ps.length ks (fun vs H Q E => ∃ xs zs, vs = xs ++ zs ∧ xs.length = ps.length ∧ ∀ p d, H p = Option.none → H d = Option.none → d ≠ p → sp (xs ++ [V.ref p, V.ref d]) (upd (upd H p (.tup [])) d (.dK (kwD ks zs))) Q E) := by
  intro A outer s H us ws vs zs Q E hr e0 r rz l1 l2 hsp
  obtain ⟨xs, zs', ev, hl, hq⟩ := hsp
  obtain ⟨rfl, rfl⟩ := List.append_inj ev (l1.trans hl.symm)
  have hn : H s.heap.objs.size = Option.none := e0.hok.fresh (Nat.le_refl _)
  refine StX.run_bnd lk hcd S hr e0 (G := fun ys H2 => ∃ p d, H p = Option.none ∧ H d = Option.none ∧ d ≠ p ∧ ys = vs ++ [V.ref p, V.ref d] ∧ H2 = upd (upd H p (.tup [])) d (.dK (kwD ks zs))) (fun A' Ex Q' h => ?_) fun s2 H2 ys ⟨p, d, hp, hd, hne, ex, eH⟩ hr' => ?_
  · rw [hb us ws (r.length.symm.trans l1) (rz.length.symm.trans l2)]
    unfold kwFill
    have new : ObjOk P w (upd H s.heap.objs.size (.tup [])) (s.heap.push ({ cls := .type "tuple", data := .seq [].toArray } : Obj)) s.heap.objs.size (.tup []) := ⟨by decide, [], .nil, ⟨_, Heap.get?_push_size _ rfl, rfl, _, rfl⟩⟩
    have e1 := StX.env0_laid e0 new
    have un1 := StX.un_laid (fs := frs outer) (s := s) (o := ({ cls := .type "tuple", data := .seq [].toArray } : Obj)) (u := .tup []) hn
    have hn2 := e1.hok.fresh (Nat.le_refl _)
    have hb2 := StX.env0_big e1
    refine wpAny_bind (wpAny_newTuple (wpAny_bind (wpAny_alloc (wpAny_bind ?_))) (by decide))
    refine kwd_fill (h := s.heap.push ({ cls := .type "tuple", data := .seq [].toArray } : Obj)) (ks.zip ws) s.toks [] 0 (fun _ he => nomatch he) (fun _ he => nomatch he) (kwd_nodup hks).2 (wpAny_pure ?_)
    have ok := kwd_ok (P := P) (w := w) (H := upd (upd H s.heap.objs.size (.tup [])) (s.heap.push ({ cls := .type "tuple", data := .seq [].toArray } : Obj)).objs.size (.dK (kwD ks zs))) hks hkl hb2 rz s.toks (0 + (ks.zip ws).length)
    have e2 := StX.env0_laid e1 ok
    have un2 := un1.trans (StX.un_laid (fs := frs outer) (s := { s with heap := s.heap.push ({ cls := .type "tuple", data := .seq [].toArray } : Obj) }) (o := PySem.W.dictOf (PySem.W.kwEs w.params s.toks (ks.zip ws)) (0 + (ks.zip ws).length)) (u := .dK (kwD ks zs)) hn2)
    have sz : (s.heap.push ({ cls := .type "tuple", data := .seq [].toArray } : Obj)).objs.size = s.heap.objs.size + 1 := Heap.size_push _ _
    have ne : (s.heap.push ({ cls := .type "tuple", data := .seq [].toArray } : Obj)).objs.size ≠ s.heap.objs.size := by
      rw [sz]
      exact Nat.succ_ne_self _
    have hd : H (s.heap.push ({ cls := .type "tuple", data := .seq [].toArray } : Obj)).objs.size = Option.none := e0.hok.fresh (by rw [sz]; exact Nat.le_succ _)
    have z := h ⟨(s.heap.push ({ cls := .type "tuple", data := .seq [].toArray } : Obj)).push (PySem.W.dictOf (PySem.W.kwEs w.params s.toks (ks.zip ws)) (0 + (ks.zip ws).length)), s.gens, s.drawn, s.toks + (ks.zip ws).length, s.os⟩ _ (vs ++ [V.ref s.heap.objs.size, V.ref (s.heap.push ({ cls := .type "tuple", data := .seq [].toArray } : Obj)).objs.size]) (us ++ [Value.ref s.heap.objs.size, Value.ref (s.heap.push ({ cls := .type "tuple", data := .seq [].toArray } : Obj)).objs.size]) ⟨e2.frames, e2.mod, e2.bs, e2.bsz, e2.funs, e2.frf, e2.hok, e2.bare⟩ un2 rfl
      (fun e s' => hCX outer s H _ _ E e s' un2 (fun b o q => Heap.get?_push_of_some _ (Heap.get?_push_of_some _ q)) rfl) (r.append (.cons rfl (.cons rfl .nil))) (by rw [List.length_append, List.length_append, hl] <;> rfl) ⟨_, _, hn, hd, ne, rfl, rfl⟩
    rw [List.zip_append (r.length.symm.trans l1).symm] at z
    exact z
  · subst ex eH
    exact hbody A outer s2 _ _ Q E hr' (hq p d hp hd hne)
end
section
variable {X : Cx} {CX : CXT} {K : PySem.W.Frag} {k n i : Nat} {C a d f g p : Addr} {fd : FuncData} {ps ks : List Str} {sp : Sp} {E : XK} {x m : Str} {nm pos apos : Pos} {e o : Expr} {kws : List Keyword} {ta te : TE} {t tk : TA} {G H : Hp} {M : List (Addr × HO)} {σ : L2.St} {Q : VK} {mc : Value}
/-! ### a class made by keywords alone -/
structure MkRK (P : Program) (w : World) (K : PySem.W.Frag) (mg : Str → Option Value) (base : Heap) (CX : CXT) (k : Nat) (C : Addr) (ks : List Str) (sp : Sp) : Prop where
  ex : ∃ f, Mk K C f ∧ FnRK P w K mg base CX k f 1 ks sp
def MkRKW (C : Addr) (m : Nat) (sp : Sp) (E : XK) (zs : List V) (H1 : Hp) (Q : VK) : Prop := zs.length = m ∧ ∀ x dx, H1 x = none → H1 dx = none → dx ≠ x → sp (V.ref x :: zs) (upd (upd H1 dx (.own x)) x (.ins C dx [])) (fun v H2 => v = .non ∧ Q (.ref x) H2) E
def tMakeRK (C : Addr) (m : Nat) (sp : Sp) (E : XK) (tk : TA) : TE := fun σ H Q => tk σ H fun zs H1 => MkRKW C m sp E zs H1 Q
theorem run_makeRK {pins : List (Addr × Obj)} {s : Shared} {ws : List Value} {zs : List V} (M : Mk X.K C f) (F : FnRK X.prog X.w X.K X.mg X.base CX k f 1 ks sp) (hr : Room (k + 1) X.A) (hx : Passes CX X E) (I : Inv X pins σ H s) (rz : Vals zs ws) (h : MkRKW C ks.length sp E zs H Q) :
    wpAny (model X.prog X.w) X.A (call (.ref C) [] (ks.zip ws)) (EP X pins σ Q) X.xe s := by
  obtain ⟨l2, h⟩ := h
  have hq := h (s.heap.objs.size + 1) s.heap.objs.size (I.hok.fresh (Nat.le_succ _)) (I.hok.fresh (Nat.le_refl _)) (Nat.ne_of_lt (Nat.lt_succ_self _))
  have I2 := Inv.made (C := C) I
  refine wpAny_call (make_map (f := f) I.kIn M.makes M.init (beq_iff_eq.mp M.fn) (codeAny_mono (F _ X.stack _ _ [Value.ref (s.heap.objs.size + 1)] ws [V.ref (s.heap.objs.size + 1)] zs _ E (hr.make C [] (ks.zip ws))
    (I2.env0.make C [] (ks.zip ws)) (.cons rfl .nil) rz rfl l2 hq) fun r s' hq' => ?_))
  cases r with
  | error e => exact hx pins σ _ _ e s' I2 hq'
  | ok fl =>
    cases fl with
    | ret u =>
      obtain ⟨v, H', I3, rv, ev, q3⟩ := I2.after hq'
      subst ev
      exact ⟨rv, ⟨V.ref (s.heap.objs.size + 1), H', I3, rfl, q3⟩⟩
    | next => exact False.elim hq'
    | brk => exact False.elim hq'
    | cont => exact False.elim hq'
theorem pe_mkRK (R : MkRK X.prog X.w X.K X.mg X.base CX k C ks sp) (hm : X.mg x = some (.ref C)) (hr : Room (k + 1) X.A) (hg : Gl X x) (hx : Passes CX X E) (hkw : PK X kws tk)
    (hall : (backToKw pos (keywordEach kws X.env)).all (·.1.isSome) = true := by rfl) (hks : (backToKw pos (keywordEach kws X.env)).filterMap (·.1) = ks := by rfl) (hdb : (x == ("__debug__" : Str)) = false := by decide)
    (hpl : ((backTo pos (starEach [] X.env)).any (·.1) || (backToKw pos (keywordEach kws X.env)).any (·.1.isNone)) = false := by rfl) : PE X (.Call (.Name x nm) [] kws pos) (tMakeRK C ks.length sp E tk) := by
  obtain ⟨f, M, F⟩ := R.ex
  refine ⟨fun pins s σ H Q I h => ?_⟩
  refine wpAny_Call_Name_kw (ld_glob I hg hm ?_ hdb)
  refine PySem.W.callWith_KW0 (h₀ := X.base) I.ok.mod.kin M.kp hall ?_ hpl
  refine thn (hkw.run pos pins s σ H _ I h) fun ws s2 ⟨zs, H2, I2, rz, q2⟩ => ⟨I2.kIn, ?_⟩
  rw [hks]
  exact run_makeRK M F hr hx I2 rz q2
theorem z_mkRK {m : Nat} (h : tk σ H fun zs H1 => MkRKW C m sp E zs H1 Q) : tMakeRK C m sp E tk σ H Q := h
theorem z_mkRKI {m : Nat} {zs : List V} (l : zs.length = m) (z : Zp G M H) (q : ∀ x dx H1, Zp (upd G dx (.own x)) (M ++ [(x, .ins C dx [])]) H1 → Same G (upd G dx (.own x)) → sp (.ref x :: zs) H1 (fun v H3 => v = .non ∧ Q (.ref x) H3) E) : MkRKW C m sp E zs H Q :=
  ⟨l, fun x dx hx hd ne => q x dx _ ((z.new hd _).add (by rw [upd_ne (Ne.symm ne)]; exact hx) _) (Same.new (z.free hd))⟩
/-! ### a classmethod by keywords alone -/
def tCMethK (C : Addr) (m : Nat) (sp : Sp) (E : XK) (ta : TE) (tk : TA) : TE := fun σ H Q => ta σ H fun x H1 => x = .ref C ∧ tk σ H1 fun zs H2 => zs.length = m ∧ sp (.ref C :: zs) H2 Q E
theorem pe_cmethK {pl : Sem Bool} (he : PE X o ta) (r : ClX.CRead X.K C mc) (c : ClX.CMet X.K C mc m p g) (F : FnRK X.prog X.w X.K X.mg X.base CX k g 1 ks sp) (hr : Room k X.A) (hx : Passes CX X E) (hkw : PK X kws tk)
    (hall : (backToKw pos (keywordEach kws X.env)).all (·.1.isSome) = true := by rfl) (hks : (backToKw pos (keywordEach kws X.env)).filterMap (·.1) = ks := by rfl)
    (hpl : ((backTo pos (starEach [] X.env)).any (·.1) || (backToKw pos (keywordEach kws X.env)).any (·.1.isNone)) = false := by rfl)
    (ht : eval (.Call (.Attribute o m apos) [] kws pos) X.env = (do
      let ov ← eval o X.env
      standAt apos.atName
      let (f, first) ← holding [ov] (getMethod ov m pl)
      callWith pos f first (backTo pos (starEach [] X.env)) (backToKw pos (keywordEach kws X.env))) := by rfl) :
    PE X (.Call (.Attribute o m apos) [] kws pos) (tCMethK C ks.length sp E ta tk) := by
  refine ⟨fun pins s σ H Q I h => ?_⟩
  refine PySem.W.methodCall_KW (pl := pl) (thn (he.run pins s σ H _ I h) fun u s1 ⟨x, H1, I1, rx, ex, q⟩ => ?_) ht
  subst ex
  obtain rfl : u = Value.ref C := rx
  refine ClX.getmethcm_ok I1 r c fun s2 I2 => ?_
  refine PySem.W.callWith_of (P := PySem.W.MethP X.K s1.heap.objs.size g (.ref C)) hpl (PySem.W.keeps_M (q := s1.heap.objs.size) (self := .ref C) c.fi) (evalArgs_kw2_nil hall (thn (hkw.run pos _ s2 σ H1 _ I2 q) fun ws s3 ⟨zs, H2, I3, rz, l2, q2⟩ => ⟨⟨ClX.pin_at I3, I3.kIn⟩, ?_⟩))
  rw [hks]
  have z : wpAny (model X.prog X.w) X.A (call (.ref s1.heap.objs.size) [] (ks.zip ws)) (EP X ((s1.heap.objs.size, PySem.W.methodObj (.ref g) (.ref C)) :: pins) σ Q) X.xe s3 := by
    refine wpAny_call (PySem.W.method_call (ClX.pin_at I3) (codeAny_mono (F X.A X.stack s3 H2 [.ref C] ws [.ref C] zs Q E hr I3.env0 (.cons rfl .nil) rz rfl l2 q2) fun rr s' hq => ?_))
    match rr, hq with
    | .error er, hq => exact hx _ σ H2 s3 er s' I3 hq
    | .ok (.ret u), hq => exact I3.after hq
    | .ok .next, hq => exact hq.elim
    | .ok .brk, hq => exact hq.elim
    | .ok .cont, hq => exact hq.elim
  exact thn z fun _ _ y => ClX.unpinE y
theorem z_cmK {m : Nat} (h : ta σ H fun x H1 => x = .ref C ∧ tk σ H1 fun zs H2 => zs.length = m ∧ sp (.ref C :: zs) H2 Q E) : tCMethK C m sp E ta tk σ H Q := h
end
end Ys
/-! dicts whose keys are None, numbers, texts and nested tuples of these, side by side -/
namespace Ys
open PySem PySem.Spec PyProof.Rows L2
structure NE where
  k : NestedKey
  key : Value
  val : Value
def NE.ent (w : World) (x : NE) : DictEntry := ⟨x.k.hash w, x.key, x.val⟩
structure NEs (w : World) (h : Heap) (es : Array DictEntry) (xs : List NE) : Prop where
  e : es.toList = xs.map (NE.ent w)
  is : ∀ x ∈ xs, NestedIs h x.k x.key ∧ x.k.depth ≤ 8
  nd : (xs.map NE.k).Nodup
theorem nd_at {α : Type} {a : α} : ∀ {l : List α} {i j : Nat}, l.Nodup → l[i]? = some a → l[j]? = some a → i = j
  | [], i, _, _, h, _ => by simp at h
  | x :: l, 0, 0, _, _, _ => rfl
  | x :: l, 0, j + 1, n, h, g => by
    have h : x = a := Option.some.inj h
    exact absurd (List.mem_of_getElem? (show l[j]? = some a from g)) (h ▸ (List.nodup_cons.mp n).1)
  | x :: l, i + 1, 0, n, h, g => by
    have g : x = a := Option.some.inj g
    exact absurd (List.mem_of_getElem? (show l[i]? = some a from h)) (g ▸ (List.nodup_cons.mp n).1)
  | x :: l, i + 1, j + 1, n, h, g => congrArg Nat.succ (nd_at (List.nodup_cons.mp n).2 (show l[i]? = some a from h) (show l[j]? = some a from g))
section
variable {P : Program} {w : World} {A : Around} {E : Value → Shared → Prop} {s : Shared} {d : Addr} {o : Obj} {es : Array DictEntry} {ep : Nat} {xs : List NE} {k : NestedKey} {key v : Value}
theorem NEs.at {h : Heap} (N : NEs w h es xs) (j : Nat) : es[j]? = (xs[j]?).map (NE.ent w) := by
  rw [← Array.getElem?_toList, N.e, List.getElem?_map]
theorem NEs.sz {h : Heap} (N : NEs w h es xs) : es.size = xs.length := by
  rw [← Array.length_toList, N.e, List.length_map]
theorem NEs.one {h : Heap} (N : NEs w h es xs) {i j : Nat} {x y : NE} (hx : xs[i]? = some x) (hy : xs[j]? = some y) (e : x.k = y.k) : i = j := by
  have h1 : (xs.map NE.k)[i]? = some x.k := by rw [List.getElem?_map, hx]; rfl
  have h2 : (xs.map NE.k)[j]? = some x.k := by rw [List.getElem?_map, hy, e]; rfl
  exact nd_at N.nd h1 h2
def plc (es : Array DictEntry) (hs : Int) : List Nat := placesWithHash es.size (fun i => es[i]?.map (·.hash)) hs
theorem plc_mem {hs : Int} {j : Nat} : j ∈ plc es hs ↔ ∃ e, es[j]? = some e ∧ e.hash = hs := by
  unfold plc placesWithHash
  rw [List.mem_filter, List.mem_range]
  constructor
  · rintro ⟨h1, h2⟩
    refine ⟨es[j], Array.getElem?_eq_getElem h1, ?_⟩
    dsimp only at h2
    rw [Array.getElem?_eq_getElem h1] at h2
    simpa using h2
  · rintro ⟨e, h1, h2⟩
    refine ⟨(Array.getElem?_eq_some_iff.mp h1).1, ?_⟩
    dsimp only
    rw [h1]
    simp [h2]
theorem plc_nd {hs : Int} : (plc es hs).Nodup := by
  unfold plc placesWithHash
  exact List.Sublist.nodup List.filter_sublist List.nodup_range
def Sofar (xs : List NE) (k : NestedKey) (pre : List Nat) : Option Nat → Prop
  | none => ∀ j ∈ pre, ∀ x : NE, xs[j]? = some x → x.k ≠ k
  | some i => i ∈ pre ∧ ∃ x : NE, xs[i]? = some x ∧ x.k = k
theorem NEs.eqs (N : NEs w s.heap es xs) (hu : A.units + 8 < cLine) (hk : NestedIs s.heap k key) (hd : k.depth ≤ 8) {j : Nat} {x : NE} (hx : xs[j]? = some x) {Q : Bool → Shared → Prop} (q : Q (decide (x.k = k)) s) : wpAny (model P w) A (eqBool x.key key) Q E s := by
  obtain ⟨h1, h2⟩ := N.is x (List.mem_of_getElem? hx)
  exact eqAt_key x.k k A s _ _ h1 hk (by omega) _ _ _ _ (by rw [← NestedKey.decide_eq]; exact q)
theorem NEs.fin {h : Heap} (N : NEs w h es xs) {Q : Option Nat → Prop} (q0 : (∀ (j : Nat) (x : NE), xs[j]? = some x → x.k ≠ k) → Q none) (q1 : ∀ (j : Nat) (x : NE), xs[j]? = some x → x.k = k → Q (some j)) {hit : Option Nat} (hs : Sofar xs k (plc es (k.hash w)) hit) : Q hit := by
  cases hit with
  | some i =>
    obtain ⟨_, x, hx, e⟩ := hs
    exact q1 i x hx e
  | none =>
    refine q0 fun j x hx e => hs j (plc_mem.mpr ⟨_, by rw [N.at, hx]; rfl, by show x.k.hash w = _; rw [e]⟩) x hx e
theorem plain_nk (hu : A.units + 8 < cLine) (ho : s.heap.get? d = some o) (hd : o.data = .dict es ep) (N : NEs w s.heap es xs) (hk : NestedIs s.heap k key) (hdp : k.depth ≤ 8) {Q : Option Nat → Shared → Prop}
    (q0 : (∀ (j : Nat) (x : NE), xs[j]? = some x → x.k ≠ k) → Q none s) (q1 : ∀ (j : Nat) (x : NE), xs[j]? = some x → x.k = k → Q (some j) s) : wpAny (model P w) A (dictWalkPlain d key (k.hash w) es (plc es (k.hash w))) Q E s := by
  unfold dictWalkPlain
  refine wpAny_bind (wpAny_forIn_list _ (fun rest b s' => s' = s ∧ b = (none, ()) ∧ ∃ pre, plc es (k.hash w) = pre ++ rest ∧ Sofar xs k pre none) _ ?_ ?_ _ _ ⟨rfl, rfl, [], rfl, fun j hj => by cases hj⟩)
  · rintro x rest b s' ⟨rfl, rfl, pre, e, sf⟩
    have hx : x ∈ plc es (k.hash w) := by rw [e]; simp
    obtain ⟨en, h1, h2⟩ := plc_mem.mp hx
    obtain ⟨y, hy, rfl⟩ : ∃ y, xs[x]? = some y ∧ en = y.ent w := by
      rw [N.at] at h1
      cases hq : xs[x]? with
      | none => rw [hq] at h1; cases h1
      | some y => rw [hq] at h1; exact ⟨y, rfl, (Option.some.inj h1).symm⟩
    rw [h1]
    dsimp only
    rw [if_pos (show ((y.ent w).hash == k.hash w) = true by rw [h2]; exact beq_self_eq_true _)]
    refine wpAny_bind (wpAny_dictEpoch ho hd (wpAny_bind (N.eqs hu hk hdp hy (wpAny_bind (wpAny_dictEpoch ho hd ?_)))))
    rw [if_neg (by simp)]
    by_cases c : y.k = k
    · rw [decide_eq_true c]
      exact wpAny_bind (wpAny_rule (wpAny_pure (wpAny_pure (q1 x y hy c))))
    · rw [decide_eq_false c]
      refine wpAny_bind (wpAny_rule (wpAny_pure ⟨rfl, rfl, pre ++ [x], by rw [e]; simp, fun j hj z hz => ?_⟩))
      rcases List.mem_append.mp hj with hj | hj
      · exact sf j hj z hz
      · rw [List.mem_singleton.mp hj, hy] at hz
        cases hz
        exact c
  · rintro b s' ⟨rfl, rfl, pre, e, sf⟩
    rw [List.append_nil] at e
    exact wpAny_pure (N.fin (Q := fun r => Q r s') q0 q1 (by rw [e]; exact sf))
theorem quiet_nk {h : Heap} (N : NEs w h es xs) {hs : Int} : ∀ v ∈ (plc es hs).filterMap (fun i => es[i]?.map (·.key)), ∃ x ∈ xs, v = x.key := fun v hv => by
  obtain ⟨j, hj, e⟩ := List.mem_filterMap.mp hv
  rw [N.at] at e
  cases hq : xs[j]? with
  | none => rw [hq] at e; cases e
  | some x =>
    rw [hq] at e
    exact ⟨x, List.mem_of_getElem? hq, (Option.some.inj e).symm⟩
theorem tells_nk {stored : List Value} (N : NEs w s.heap es xs) (hk : NestedIs s.heap k key) (hdp : k.depth ≤ 8) (hst : ∀ v ∈ stored, ∃ x ∈ xs, v = x.key) {Q : Bool → Shared → Prop} (q : Q false s) : wpAny (model P w) A (tableMayTell key stored) Q E s := by
  unfold tableMayTell
  split
  · exact wpAny_pure q
  · refine wpAny_bind (quiet_key (prog := P) (w := w) k key 8 s hk hdp A E _ ?_)
    rw [if_neg (by simp)]
    refine wpAny_bind (wpAny_forIn_list _ (fun rest r s' => s' = s ∧ r = (none, ()) ∧ ∀ v ∈ rest, ∃ x ∈ xs, v = x.key) _ ?_ ?_ _ _ ⟨rfl, rfl, hst⟩)
    · rintro v rest r s' ⟨rfl, rfl, hr⟩
      obtain ⟨x, hx, rfl⟩ := hr v (by simp)
      obtain ⟨h1, h2⟩ := N.is x hx
      refine wpAny_bind (quiet_key (prog := P) (w := w) x.k x.key 8 s' h1 h2 A E _ ?_)
      rw [if_neg (by simp)]
      exact wpAny_pure ⟨rfl, rfl, fun v hv => hr v (List.mem_cons_of_mem _ hv)⟩
    · rintro r s' ⟨rfl, rfl, _⟩
      exact wpAny_pure q
theorem wp_if {α : Type} {M : Model} {c : Prop} [Decidable c] {a b : Sem α} {Q : α → Shared → Prop} (h1 : c → wpAny M A a Q E s) (h2 : ¬ c → wpAny M A b Q E s) : wpAny M A (if c then a else b) Q E s := by
  by_cases h : c
  · rw [if_pos h]; exact h1 h
  · rw [if_neg h]; exact h2 h
theorem found_nk {x : Str} {t : Nat} (hu : A.units + 8 < cLine) (ho : s.heap.get? d = some o) (hd : o.data = .dict es ep) (N : NEs w s.heap es xs) {Q : Option Nat → Shared → Prop}
    (q0 : (∀ (j : Nat) (y : NE), xs[j]? = some y → y.k ≠ .text x) → Q none s) (q1 : ∀ (j : Nat) (y : NE), xs[j]? = some y → y.k = .text x → Q (some j) s) : wpAny (model P w) A (foundByValue d (.str x t) es x) Q E s := by
  unfold foundByValue
  cases hf : es.findIdx? (fun e => e.key.isStr x) with
  | none =>
    refine wpAny_pure (q0 fun j y hy e => ?_)
    obtain ⟨h1, _⟩ := N.is y (List.mem_of_getElem? hy)
    rw [e] at h1
    have hm : y.ent w ∈ es := by
      have : es[j]? = some (y.ent w) := by rw [N.at, hy]; rfl
      exact Array.mem_of_getElem? this
    have := Array.findIdx?_eq_none_iff.mp hf _ hm
    have e2 : (y.ent w).key = y.key := rfl
    rw [e2] at this
    cases hkey : y.key with
    | str z u =>
      rw [hkey] at h1 this
      cases h1
      simp [Value.isStr] at this
    | _ => rw [hkey] at h1; cases h1
  | some i =>
    obtain ⟨hi, hp, _⟩ := Array.findIdx?_eq_some_iff_getElem.mp hf
    have hei : es[i]? = some es[i] := Array.getElem?_eq_getElem hi
    obtain ⟨y, hy, ey⟩ : ∃ y, xs[i]? = some y ∧ es[i] = y.ent w := by
      have h1 := hei
      rw [N.at] at h1
      cases hq : xs[i]? with
      | none => rw [hq] at h1; cases h1
      | some y => rw [hq] at h1; exact ⟨y, rfl, (Option.some.inj h1).symm⟩
    dsimp only
    rw [hei]
    dsimp only
    obtain ⟨h1, _⟩ := N.is y (List.mem_of_getElem? hy)
    have hk2 : y.k = .text x := by
      rw [ey] at hp
      have hp : y.key.isStr x = true := hp
      cases hkey : y.key with
      | str z u =>
        rw [hkey] at h1 hp
        generalize y.k = q at h1
        cases h1
        have : z = x := by simpa [Value.isStr] using hp
        rw [this]
      | _ => rw [hkey] at hp; cases hp
    refine wpAny_bind (wpAny_dictEpoch ho hd (wpAny_bind ?_))
    rw [ey]
    refine N.eqs (k := .text x) hu (.text x t) (by simp [NestedKey.depth]) hy (wpAny_bind (wpAny_dictEpoch ho hd ?_))
    rw [if_neg (by simp), decide_eq_true hk2]
    exact wpAny_bind (wpAny_rule (wpAny_pure (q1 i y hy hk2)))
theorem any_nk {h : Heap} {a : Addr} (N : NEs w h es xs) (hk : NestedIs h k (.ref a)) (hc : (es.any fun e => e.key == Value.ref a && e.hash != NestedKey.hash w k) = true) : False := by
  rw [← Array.any_toList] at hc
  obtain ⟨en, hm, hp⟩ := List.any_eq_true.mp hc
  rw [N.e] at hm
  obtain ⟨x, hx, rfl⟩ := List.mem_map.mp hm
  obtain ⟨p1, p2⟩ := Bool.and_eq_true_iff.mp hp
  have e1 : x.key = Value.ref a := eq_of_beq p1
  have h1 := (N.is x hx).1
  rw [e1] at h1
  have := NestedIs.inj _ _ _ h1 hk
  have p2 : (NestedKey.hash w x.k != NestedKey.hash w k) = true := p2
  rw [this] at p2
  simp at p2
theorem find_nk (hu : A.units + 8 < cLine) (ho : s.heap.get? d = some o) (hd : o.data = .dict es ep) (N : NEs w s.heap es xs) (hk : NestedIs s.heap k key) (hdp : k.depth ≤ 8) {Q : Option Nat → Shared → Prop}
    (q0 : (∀ (j : Nat) (x : NE), xs[j]? = some x → x.k ≠ k) → Q none s) (q1 : ∀ (j : Nat) (x : NE), xs[j]? = some x → x.k = k → Q (some j) s) : wpAny (model P w) A (dictFind d key (k.hash w)) Q E s := by
  unfold dictFind
  refine wpAny_holding ?_
  refine wpAny_bind (wpAny_dictEntries ho hd ?_)
  have hk0 := hk
  cases hk with
  | none =>
    dsimp only
    refine wp_if (fun _ => ?_) (fun _ => ?_)
    · exact plain_nk hu ho hd N hk0 hdp q0 q1
    · skip
      refine wp_if (fun _ => ?_) (fun _ => ?_) <;> (first | refine wpAny_bind (wpAny_pure ?_) | refine wpAny_bind (tells_nk N hk0 hdp (quiet_nk N) ?_)) <;> (
        rw [if_neg (by simp)]
        refine wpAny_bind (wpAny_forIn_list _ (fun rest b s' => s' = s ∧ ∃ pre hit, b = (none, hit) ∧ plc es (NestedKey.hash w .none) = pre ++ rest ∧ Sofar xs .none pre hit) _ ?_ ?_ _ _ ⟨rfl, [], none, rfl, rfl, fun j hj => by cases hj⟩)
        · rintro x rest b s' ⟨rfl, pre, hit, rfl, e, sf⟩
          have hx : x ∈ plc es (NestedKey.hash w .none) := by rw [e]; simp
          obtain ⟨en, h1, h2⟩ := plc_mem.mp hx
          obtain ⟨y, hy, rfl⟩ : ∃ y, xs[x]? = some y ∧ en = y.ent w := by
            rw [N.at] at h1
            cases hq : xs[x]? with
            | none => rw [hq] at h1; cases h1
            | some y => rw [hq] at h1; exact ⟨y, rfl, (Option.some.inj h1).symm⟩
          rw [h1]
          dsimp only
          rw [if_pos (show ((y.ent w).hash == NestedKey.hash w .none) = true by rw [h2]; exact beq_self_eq_true _)]
          refine wpAny_bind (wpAny_dictEpoch ho hd (wpAny_bind (N.eqs hu hk0 hdp hy (wpAny_bind (wpAny_dictEpoch ho hd ?_)))))
          rw [if_neg (by simp)]
          by_cases c : y.k = .none
          · rw [decide_eq_true c]
            cases hit with
            | some j =>
              obtain ⟨hj, z, hz, ez⟩ := sf
              have : j = x := N.one hz hy (ez.trans c.symm)
              subst this
              have nd := plc_nd (es := es) (hs := NestedKey.hash w .none)
              rw [e] at nd
              exact absurd rfl ((List.nodup_append.mp nd).2.2 j hj j (by simp))
            | none =>
              rw [if_pos rfl]
              rw [if_neg (by simp)]
              refine wpAny_bind (wpAny_rule ?_)
              refine wp_if (fun _ => ?_) (fun _ => ?_)
              · exact wpAny_pure (wpAny_pure (q1 x y hy c))
              · exact wpAny_pure ⟨rfl, pre ++ [x], some x, rfl, by rw [e]; simp, by simp, y, hy, c⟩
          · rw [decide_eq_false c]
            rw [if_neg (by simp)]
            refine wpAny_bind (wpAny_rule ?_)
            rw [if_neg (by simp)]
            refine wpAny_pure ⟨rfl, pre ++ [x], hit, rfl, by rw [e]; simp, ?_⟩
            cases hit with
            | some j => exact ⟨List.mem_append_left _ sf.1, sf.2⟩
            | none =>
              intro j hj z hz
              rcases List.mem_append.mp hj with hj | hj
              · exact sf j hj z hz
              · rw [List.mem_singleton.mp hj, hy] at hz
                cases hz
                exact c
        · rintro b s' ⟨rfl, pre, hit, rfl, e, sf⟩
          rw [List.append_nil] at e
          exact wpAny_pure (N.fin (k := .none) (Q := fun r => Q r s') q0 q1 (by rw [e]; exact sf)))
  | @bool b i e =>
    dsimp only
    refine wp_if (fun _ => ?_) (fun _ => ?_)
    · exact plain_nk hu ho hd N hk0 hdp q0 q1
    · skip
      refine wp_if (fun _ => ?_) (fun _ => ?_) <;> (first | refine wpAny_bind (wpAny_pure ?_) | refine wpAny_bind (tells_nk N hk0 hdp (quiet_nk N) ?_)) <;> (
        rw [if_neg (by simp)]
        refine wpAny_bind (wpAny_forIn_list _ (fun rest b s' => s' = s ∧ ∃ pre hit, b = (none, hit) ∧ plc es (NestedKey.hash w (.num i)) = pre ++ rest ∧ Sofar xs (.num i) pre hit) _ ?_ ?_ _ _ ⟨rfl, [], none, rfl, rfl, fun j hj => by cases hj⟩)
        · rintro x rest b s' ⟨rfl, pre, hit, rfl, e, sf⟩
          have hx : x ∈ plc es (NestedKey.hash w (.num i)) := by rw [e]; simp
          obtain ⟨en, h1, h2⟩ := plc_mem.mp hx
          obtain ⟨y, hy, rfl⟩ : ∃ y, xs[x]? = some y ∧ en = y.ent w := by
            rw [N.at] at h1
            cases hq : xs[x]? with
            | none => rw [hq] at h1; cases h1
            | some y => rw [hq] at h1; exact ⟨y, rfl, (Option.some.inj h1).symm⟩
          rw [h1]
          dsimp only
          rw [if_pos (show ((y.ent w).hash == NestedKey.hash w (.num i)) = true by rw [h2]; exact beq_self_eq_true _)]
          refine wpAny_bind (wpAny_dictEpoch ho hd (wpAny_bind (N.eqs hu hk0 hdp hy (wpAny_bind (wpAny_dictEpoch ho hd ?_)))))
          rw [if_neg (by simp)]
          by_cases c : y.k = (.num i)
          · rw [decide_eq_true c]
            cases hit with
            | some j =>
              obtain ⟨hj, z, hz, ez⟩ := sf
              have : j = x := N.one hz hy (ez.trans c.symm)
              subst this
              have nd := plc_nd (es := es) (hs := NestedKey.hash w (.num i))
              rw [e] at nd
              exact absurd rfl ((List.nodup_append.mp nd).2.2 j hj j (by simp))
            | none =>
              rw [if_pos rfl]
              rw [if_neg (by simp)]
              refine wpAny_bind (wpAny_rule ?_)
              refine wp_if (fun _ => ?_) (fun _ => ?_)
              · exact wpAny_pure (wpAny_pure (q1 x y hy c))
              · exact wpAny_pure ⟨rfl, pre ++ [x], some x, rfl, by rw [e]; simp, by simp, y, hy, c⟩
          · rw [decide_eq_false c]
            rw [if_neg (by simp)]
            refine wpAny_bind (wpAny_rule ?_)
            rw [if_neg (by simp)]
            refine wpAny_pure ⟨rfl, pre ++ [x], hit, rfl, by rw [e]; simp, ?_⟩
            cases hit with
            | some j => exact ⟨List.mem_append_left _ sf.1, sf.2⟩
            | none =>
              intro j hj z hz
              rcases List.mem_append.mp hj with hj | hj
              · exact sf j hj z hz
              · rw [List.mem_singleton.mp hj, hy] at hz
                cases hz
                exact c
        · rintro b s' ⟨rfl, pre, hit, rfl, e, sf⟩
          rw [List.append_nil] at e
          exact wpAny_pure (N.fin (k := (.num i)) (Q := fun r => Q r s') q0 q1 (by rw [e]; exact sf)))
  | int i t =>
    dsimp only
    refine wp_if (fun _ => ?_) (fun _ => ?_)
    · exact plain_nk hu ho hd N hk0 hdp q0 q1
    · skip
      refine wp_if (fun _ => ?_) (fun _ => ?_) <;> (first | refine wpAny_bind (wpAny_pure ?_) | refine wpAny_bind (tells_nk N hk0 hdp (quiet_nk N) ?_)) <;> (
        rw [if_neg (by simp)]
        refine wpAny_bind (wpAny_forIn_list _ (fun rest b s' => s' = s ∧ ∃ pre hit, b = (none, hit) ∧ plc es (NestedKey.hash w (.num i)) = pre ++ rest ∧ Sofar xs (.num i) pre hit) _ ?_ ?_ _ _ ⟨rfl, [], none, rfl, rfl, fun j hj => by cases hj⟩)
        · rintro x rest b s' ⟨rfl, pre, hit, rfl, e, sf⟩
          have hx : x ∈ plc es (NestedKey.hash w (.num i)) := by rw [e]; simp
          obtain ⟨en, h1, h2⟩ := plc_mem.mp hx
          obtain ⟨y, hy, rfl⟩ : ∃ y, xs[x]? = some y ∧ en = y.ent w := by
            rw [N.at] at h1
            cases hq : xs[x]? with
            | none => rw [hq] at h1; cases h1
            | some y => rw [hq] at h1; exact ⟨y, rfl, (Option.some.inj h1).symm⟩
          rw [h1]
          dsimp only
          rw [if_pos (show ((y.ent w).hash == NestedKey.hash w (.num i)) = true by rw [h2]; exact beq_self_eq_true _)]
          refine wpAny_bind (wpAny_dictEpoch ho hd (wpAny_bind (N.eqs hu hk0 hdp hy (wpAny_bind (wpAny_dictEpoch ho hd ?_)))))
          rw [if_neg (by simp)]
          by_cases c : y.k = (.num i)
          · rw [decide_eq_true c]
            cases hit with
            | some j =>
              obtain ⟨hj, z, hz, ez⟩ := sf
              have : j = x := N.one hz hy (ez.trans c.symm)
              subst this
              have nd := plc_nd (es := es) (hs := NestedKey.hash w (.num i))
              rw [e] at nd
              exact absurd rfl ((List.nodup_append.mp nd).2.2 j hj j (by simp))
            | none =>
              rw [if_pos rfl]
              rw [if_neg (by simp)]
              refine wpAny_bind (wpAny_rule ?_)
              refine wp_if (fun _ => ?_) (fun _ => ?_)
              · exact wpAny_pure (wpAny_pure (q1 x y hy c))
              · exact wpAny_pure ⟨rfl, pre ++ [x], some x, rfl, by rw [e]; simp, by simp, y, hy, c⟩
          · rw [decide_eq_false c]
            rw [if_neg (by simp)]
            refine wpAny_bind (wpAny_rule ?_)
            rw [if_neg (by simp)]
            refine wpAny_pure ⟨rfl, pre ++ [x], hit, rfl, by rw [e]; simp, ?_⟩
            cases hit with
            | some j => exact ⟨List.mem_append_left _ sf.1, sf.2⟩
            | none =>
              intro j hj z hz
              rcases List.mem_append.mp hj with hj | hj
              · exact sf j hj z hz
              · rw [List.mem_singleton.mp hj, hy] at hz
                cases hz
                exact c
        · rintro b s' ⟨rfl, pre, hit, rfl, e, sf⟩
          rw [List.append_nil] at e
          exact wpAny_pure (N.fin (k := (.num i)) (Q := fun r => Q r s') q0 q1 (by rw [e]; exact sf)))
  | text tz t =>
    dsimp only
    by_cases hall : (es.all fun e => isExactStrKey e.key) = true
    · rw [if_pos hall]
      exact found_nk hu ho hd N q0 q1
    rw [if_neg hall]
    refine wp_if (fun _ => ?_) (fun _ => ?_)
    · exact plain_nk hu ho hd N hk0 hdp q0 q1
    · skip
      refine wp_if (fun _ => ?_) (fun _ => ?_) <;> (first | refine wpAny_bind (wpAny_pure ?_) | refine wpAny_bind (tells_nk N hk0 hdp (quiet_nk N) ?_)) <;> (
        rw [if_neg (by simp)]
        refine wpAny_bind (wpAny_forIn_list _ (fun rest b s' => s' = s ∧ ∃ pre hit, b = (none, hit) ∧ plc es (NestedKey.hash w (.text tz)) = pre ++ rest ∧ Sofar xs (.text tz) pre hit) _ ?_ ?_ _ _ ⟨rfl, [], none, rfl, rfl, fun j hj => by cases hj⟩)
        · rintro x rest b s' ⟨rfl, pre, hit, rfl, e, sf⟩
          have hx : x ∈ plc es (NestedKey.hash w (.text tz)) := by rw [e]; simp
          obtain ⟨en, h1, h2⟩ := plc_mem.mp hx
          obtain ⟨y, hy, rfl⟩ : ∃ y, xs[x]? = some y ∧ en = y.ent w := by
            rw [N.at] at h1
            cases hq : xs[x]? with
            | none => rw [hq] at h1; cases h1
            | some y => rw [hq] at h1; exact ⟨y, rfl, (Option.some.inj h1).symm⟩
          rw [h1]
          dsimp only
          rw [if_pos (show ((y.ent w).hash == NestedKey.hash w (.text tz)) = true by rw [h2]; exact beq_self_eq_true _)]
          refine wpAny_bind (wpAny_dictEpoch ho hd (wpAny_bind (N.eqs hu hk0 hdp hy (wpAny_bind (wpAny_dictEpoch ho hd ?_)))))
          rw [if_neg (by simp)]
          by_cases c : y.k = (.text tz)
          · rw [decide_eq_true c]
            cases hit with
            | some j =>
              obtain ⟨hj, z, hz, ez⟩ := sf
              have : j = x := N.one hz hy (ez.trans c.symm)
              subst this
              have nd := plc_nd (es := es) (hs := NestedKey.hash w (.text tz))
              rw [e] at nd
              exact absurd rfl ((List.nodup_append.mp nd).2.2 j hj j (by simp))
            | none =>
              rw [if_pos rfl]
              rw [if_neg (by simp)]
              refine wpAny_bind (wpAny_rule ?_)
              refine wp_if (fun _ => ?_) (fun _ => ?_)
              · exact wpAny_pure (wpAny_pure (q1 x y hy c))
              · exact wpAny_pure ⟨rfl, pre ++ [x], some x, rfl, by rw [e]; simp, by simp, y, hy, c⟩
          · rw [decide_eq_false c]
            rw [if_neg (by simp)]
            refine wpAny_bind (wpAny_rule ?_)
            rw [if_neg (by simp)]
            refine wpAny_pure ⟨rfl, pre ++ [x], hit, rfl, by rw [e]; simp, ?_⟩
            cases hit with
            | some j => exact ⟨List.mem_append_left _ sf.1, sf.2⟩
            | none =>
              intro j hj z hz
              rcases List.mem_append.mp hj with hj | hj
              · exact sf j hj z hz
              · rw [List.mem_singleton.mp hj, hy] at hz
                cases hz
                exact c
        · rintro b s' ⟨rfl, pre, hit, rfl, e, sf⟩
          rw [List.append_nil] at e
          exact wpAny_pure (N.fin (k := (.text tz)) (Q := fun r => Q r s') q0 q1 (by rw [e]; exact sf)))
  | @tup a oa vs n ks h1 h2 h3 h4 =>
    dsimp only
    refine wp_if (fun _ => ?_) (fun _ => ?_)
    · exact plain_nk hu ho hd N hk0 hdp q0 q1
    · rw [if_neg (show ¬ (es.any fun e => e.key == Value.ref a && e.hash != NestedKey.hash w (.tup ks)) = true from fun hc => any_nk N hk0 hc)]
      refine wp_if (fun _ => ?_) (fun _ => ?_) <;> (first | refine wpAny_bind (wpAny_pure ?_) | refine wpAny_bind (tells_nk N hk0 hdp (quiet_nk N) ?_)) <;> (
        rw [if_neg (by simp)]
        refine wpAny_bind (wpAny_forIn_list _ (fun rest b s' => s' = s ∧ ∃ pre hit, b = (none, hit) ∧ plc es (NestedKey.hash w (.tup ks)) = pre ++ rest ∧ Sofar xs (.tup ks) pre hit) _ ?_ ?_ _ _ ⟨rfl, [], none, rfl, rfl, fun j hj => by cases hj⟩)
        · rintro x rest b s' ⟨rfl, pre, hit, rfl, e, sf⟩
          have hx : x ∈ plc es (NestedKey.hash w (.tup ks)) := by rw [e]; simp
          obtain ⟨en, h1, h2⟩ := plc_mem.mp hx
          obtain ⟨y, hy, rfl⟩ : ∃ y, xs[x]? = some y ∧ en = y.ent w := by
            rw [N.at] at h1
            cases hq : xs[x]? with
            | none => rw [hq] at h1; cases h1
            | some y => rw [hq] at h1; exact ⟨y, rfl, (Option.some.inj h1).symm⟩
          rw [h1]
          dsimp only
          rw [if_pos (show ((y.ent w).hash == NestedKey.hash w (.tup ks)) = true by rw [h2]; exact beq_self_eq_true _)]
          refine wpAny_bind (wpAny_dictEpoch ho hd (wpAny_bind (N.eqs hu hk0 hdp hy (wpAny_bind (wpAny_dictEpoch ho hd ?_)))))
          rw [if_neg (by simp)]
          by_cases c : y.k = (.tup ks)
          · rw [decide_eq_true c]
            cases hit with
            | some j =>
              obtain ⟨hj, z, hz, ez⟩ := sf
              have : j = x := N.one hz hy (ez.trans c.symm)
              subst this
              have nd := plc_nd (es := es) (hs := NestedKey.hash w (.tup ks))
              rw [e] at nd
              exact absurd rfl ((List.nodup_append.mp nd).2.2 j hj j (by simp))
            | none =>
              rw [if_pos rfl]
              rw [if_neg (by simp)]
              refine wpAny_bind (wpAny_rule ?_)
              refine wp_if (fun _ => ?_) (fun _ => ?_)
              · exact wpAny_pure (wpAny_pure (q1 x y hy c))
              · exact wpAny_pure ⟨rfl, pre ++ [x], some x, rfl, by rw [e]; simp, by simp, y, hy, c⟩
          · rw [decide_eq_false c]
            rw [if_neg (by simp)]
            refine wpAny_bind (wpAny_rule ?_)
            rw [if_neg (by simp)]
            refine wpAny_pure ⟨rfl, pre ++ [x], hit, rfl, by rw [e]; simp, ?_⟩
            cases hit with
            | some j => exact ⟨List.mem_append_left _ sf.1, sf.2⟩
            | none =>
              intro j hj z hz
              rcases List.mem_append.mp hj with hj | hj
              · exact sf j hj z hz
              · rw [List.mem_singleton.mp hj, hy] at hz
                cases hz
                exact c
        · rintro b s' ⟨rfl, pre, hit, rfl, e, sf⟩
          rw [List.append_nil] at e
          exact wpAny_pure (N.fin (k := (.tup ks)) (Q := fun r => Q r s') q0 q1 (by rw [e]; exact sf)))
def putN (xs : List NE) (k : NestedKey) (key val : Value) : List NE := if xs.any (fun x => decide (x.k = k)) then xs.map (fun x => if x.k = k then { x with val := val } else x) else xs ++ [⟨k, key, val⟩]
theorem putN_nd (xs : List NE) (h : (xs.map NE.k).Nodup) : ((putN xs k key v).map NE.k).Nodup := by
  unfold putN
  split
  · rename_i hc
    have : (xs.map fun x => if x.k = k then { x with val := v } else x).map NE.k = xs.map NE.k := by
      rw [List.map_map]
      exact List.map_congr_left fun x _ => by
        show (if x.k = k then _ else x : NE).k = x.k
        split <;> rfl
    rw [this]
    exact h
  · rename_i hc
    rw [List.map_append, List.nodup_append]
    refine ⟨h, by simp, fun a ha b hb e => ?_⟩
    obtain ⟨x, hx, rfl⟩ := List.mem_map.mp ha
    have hb : b = k := by simpa using hb
    exact hc (List.any_eq_true.mpr ⟨x, hx, decide_eq_true (e.trans hb)⟩)
theorem putN_old {xs : List NE} {j : Nat} {y : NE} (nd : (xs.map NE.k).Nodup) (hy : xs[j]? = some y) (e : y.k = k) : (putN xs k key v).map (NE.ent w) = (xs.map (NE.ent w)).modify j fun e => { e with val := v } := by
  unfold putN
  rw [if_pos (List.any_eq_true.mpr ⟨y, List.mem_of_getElem? hy, decide_eq_true e⟩)]
  refine List.ext_getElem? fun i => ?_
  rw [List.getElem?_map, List.getElem?_map, List.getElem?_modify, List.getElem?_map]
  cases hi : xs[i]? with
  | none => simp
  | some x =>
    by_cases c : x.k = k
    · have : i = j := nd_at nd (show (xs.map NE.k)[i]? = some x.k by rw [List.getElem?_map, hi]; rfl) (by rw [List.getElem?_map, hy, c, ← e]; rfl)
      subst this
      simp [c, NE.ent]
    · have ne : j ≠ i := fun e2 => by
        subst e2
        rw [hi] at hy
        cases hy
        exact c e
      simp [c, ne]
theorem putN_new {xs : List NE} (h : ∀ (j : Nat) (x : NE), xs[j]? = some x → x.k ≠ k) : putN xs k key v = xs ++ [⟨k, key, v⟩] := by
  unfold putN
  rw [if_neg]
  intro hc
  obtain ⟨x, hx, e⟩ := List.any_eq_true.mp hc
  obtain ⟨j, hj⟩ := List.mem_iff_getElem?.mp hx
  exact h j x hj (of_decide_eq_true e)
theorem set_nk {Q : Unit → Shared → Prop} (hu : A.units + 8 < cLine) (ho : s.heap.get? d = some o) (hc : o.ExactDict) (hd : o.data = .dict es ep) (N : NEs w s.heap es xs) (hz : xs.length ≤ 10000) (hk : NestedIs s.heap k key) (hdp : k.depth ≤ 8)
    (q : ∀ h' o' es' ep' tk, h'.get? d = some o' → o'.ExactDict → o'.data = .dict es' ep' → es'.toList = (putN xs k key v).map (NE.ent w) → Heap.SameBut d s.heap h' → Q () { s with heap := h', toks := tk }) : wpAny (model P w) A (dictSet d key v) Q E s := by
  unfold dictSet
  refine wpAny_holding ?_
  refine wpAny_bind (pyHash_key k key A s _ hk (by omega) ?_)
  unfold dictSetHashed
  refine wpAny_holding ?_
  have hsz := N.sz
  refine wpAny_bind (find_nk (s := { s with toks := s.toks + k.draws }) hu ho hd N hk hdp (fun h0 => ?_) fun j y hy e => ?_)
  · have hz' : es.size ≤ sizeLine := by
      have : (10000 : Nat) ≤ sizeLine := by decide
      omega
    refine wpAny_bind (wpAny_rule (wpAny_updateDictKeys (hz := hz') (s := { s with toks := s.toks + k.draws }) ho hd ?_))
    refine q _ _ _ (ep + 1) _ (Heap.get?_update_self _ ho (Obj.isFreed_of_dict (Obj.data_mapDictKeys hd _))) (hc.mapDictKeys _) (Obj.data_mapDictKeys hd _) ?_ (Heap.SameBut.update ..)
    rw [putN_new h0, List.map_append, Array.toList_push, N.e]
    rfl
  · refine wpAny_bind (wpAny_rule (wpAny_bind (wpAny_updateDict (s := { s with toks := s.toks + k.draws }) ho hd (wpAny_point ?_))))
    refine q _ _ _ ep _ (Heap.get?_update_self _ ho (Obj.isFreed_of_dict (Obj.data_mapDict hd _))) (hc.mapDict _) (Obj.data_mapDict hd _) ?_ (Heap.SameBut.update ..)
    rw [putN_old N.nd hy e, ← N.e]
    exact Array.toList_modify ..
theorem setItem_nk {Q : Unit → Shared → Prop} (hu : A.units + 16 < cLine) (ho : s.heap.get? d = some o) (hc : o.ExactDict) (hd : o.data = .dict es ep) (N : NEs w s.heap es xs) (hz : xs.length ≤ 10000) (hk : NestedIs s.heap k key) (hdp : k.depth ≤ 8)
    (q : ∀ h' o' es' ep' tk, h'.get? d = some o' → o'.ExactDict → o'.data = .dict es' ep' → es'.toList = (putN xs k key v).map (NE.ent w) → Heap.SameBut d s.heap h' → Q () { s with heap := h', toks := tk }) : wpAny (model P w) A (setItem (.ref d) key v) Q E s := by
  have ty : s.TypeIs (.ref d) "dict" := ⟨o, ho, hc.1⟩
  unfold setItem
  refine wpAny_holding ?_
  refine wpAny_bind (wpAny_sequenceKey ty (by decide) ?_)
  refine wpAny_bind (wpAny_callSpecial?_slot (name := Str.ofString "__setitem__") ty PySem.F.slot_dict_setitem (wpAny_call_entry PySem.F.slot_dict_setitem ty PySem.F.entry_dict_setitem ?_ (PySem.F.args_dict_setitem_3 _ _ _)))
  show wpAny _ _ (Builtin.Dict.notOrdered "__setitem__" ⟨[.ref d, key, v], []⟩ >>= _) _ _ s
  refine wpAny_bind (wpAny_notOrdered_dict ty ?_)
  show wpAny _ _ (dictSet d key v >>= _) _ _ s
  exact wpAny_bind (set_nk (by show A.units + 1 + 8 < cLine; omega) ho hc hd N hz hk hdp fun h' o' es' ep' tk h1 h2 h3 h4 h5 => wpAny_pure ⟨.none, rfl, wpAny_pure (q h' o' es' ep' tk h1 h2 h3 h4 h5)⟩)
end
end Ys
/-! the same at the level of values: a dict with keys of all kinds is changed, walked, shown -/
namespace Ys
open PySem PySem.Spec PyProof.Rows L2
mutual
inductive NkV (K : PySem.W.Frag) (H : Hp) : V → NestedKey → Prop
  | non : NkV K H .non .none
  | bl (b : Bool) : NkV K H (.bl b) (.num (if b = true then 1 else 0))
  | int (i : Int) : NkV K H (.int i) (.num i)
  | str (x : Str) : NkV K H (.str x) (.text x)
  | tup {a : Addr} {xs : List V} {ks : List NestedKey} : SqT K H a xs → NkVs K H xs ks → NkV K H (.ref a) (.tup ks)
inductive NkVs (K : PySem.W.Frag) (H : Hp) : List V → List NestedKey → Prop
  | nil : NkVs K H [] []
  | cons {v : V} {k : NestedKey} {vs : List V} {ks : List NestedKey} : NkV K H v k → NkVs K H vs ks → NkVs K H (v :: vs) (k :: ks)
end
section
variable {X : Cx} {pins : List (Addr × Obj)} {σ : L2.St} {H : Hp} {s : Shared}
mutual
theorem NkV.is (I : Inv X pins σ H s) : ∀ (k : NestedKey) (v : V) (u : Value), NkV X.K H v k → RelV v u → NestedIs s.heap k u
  | .none, _, _, h, r => by cases h; cases r; exact .none
  | .num i, _, _, h, r => by
    cases h with
    | bl b => cases r; exact .bool rfl
    | int i => obtain ⟨t, rfl⟩ := r; exact .int i t
  | .text x, _, _, h, r => by cases h; obtain ⟨t, rfl⟩ := r; exact .text x t
  | .tup ks, _, _, h, r => by
    cases h with
    | @tup a xs _ hs hk =>
      cases r
      obtain ⟨its, rv, ⟨o, h1, h2, n, h3⟩, _⟩ := I.tuple hs
      exact .tup h1 h2 h3 (NkVs.is I ks xs its hk rv)
theorem NkVs.is (I : Inv X pins σ H s) : ∀ (ks : List NestedKey) (vs : List V) (us : List Value), NkVs X.K H vs ks → Vals vs us → NestedAll s.heap ks us
  | [], _, _, h, r => by cases h; cases r; exact .nil
  | k :: ks, _, _, h, r => by
    cases h with
    | cons h1 h2 =>
      cases r with
      | cons r1 r2 => exact .cons (NkV.is I k _ _ h1 r1) (NkVs.is I ks _ _ h2 r2)
end
end
mutual
theorem NkV.mono {K : PySem.W.Frag} {H H1 : Hp} (m : ∀ a xs, SqT K H a xs → SqT K H1 a xs) : ∀ (k : NestedKey) (v : V), NkV K H v k → NkV K H1 v k
  | .none, _, h => by cases h; exact .non
  | .num i, _, h => by
    cases h with
    | bl b => exact .bl b
    | int i => exact .int i
  | .text x, _, h => by cases h; exact .str x
  | .tup ks, _, h => by
    cases h with
    | tup hs hk => exact .tup (m _ _ hs) (NkVs.mono m ks _ hk)
theorem NkVs.mono {K : PySem.W.Frag} {H H1 : Hp} (m : ∀ a xs, SqT K H a xs → SqT K H1 a xs) : ∀ (ks : List NestedKey) (vs : List V), NkVs K H vs ks → NkVs K H1 vs ks
  | [], _, h => by cases h; exact .nil
  | k :: ks, _, h => by
    cases h with
    | cons h1 h2 => exact .cons (NkV.mono m k _ h1) (NkVs.mono m ks _ h2)
end
theorem NkV.up {K : PySem.W.Frag} {G G1 : Hp} {v : V} {k : NestedKey} (h : NkV K G v k) (s : Same G G1) : NkV K G1 v k := NkV.mono (fun _ _ => upT s) k v h
theorem NkV.sub {K : PySem.W.Frag} {G H : Hp} {M : List (Addr × HO)} {v : V} {k : NestedKey} (h : NkV K G v k) (z : Zp G M H) : NkV K H v k := NkV.mono (fun _ _ => z.seqT) k v h
structure NV where
  k : NestedKey
  kv : V
  v : V
def RelN (a : NV) (x : NE) : Prop := a.k = x.k ∧ RelV a.kv x.key ∧ RelV a.v x.val
def Dxo (w : World) (d : Addr) (kvs : List NV) : HO := .ext fun h => ∃ o es ep, h.get? d = some o ∧ o.ExactDict ∧ o.data = .dict es ep ∧ ∃ xs : List NE, es.toList = xs.map (NE.ent w) ∧ Paired RelN kvs xs
structure KsOk (K : PySem.W.Frag) (H : Hp) (kvs : List NV) : Prop where
  is : ∀ a ∈ kvs, NkV K H a.kv a.k ∧ a.k.depth ≤ 8
  nd : (kvs.map NV.k).Nodup
  le : kvs.length ≤ 9000
theorem KsOk.up {K : PySem.W.Frag} {G G1 : Hp} {kvs : List NV} (h : KsOk K G kvs) (s : Same G G1) : KsOk K G1 kvs := ⟨fun a ha => ⟨(h.is a ha).1.up s, (h.is a ha).2⟩, h.nd, h.le⟩
theorem KsOk.sub {K : PySem.W.Frag} {G H : Hp} {M : List (Addr × HO)} {kvs : List NV} (h : KsOk K G kvs) (z : Zp G M H) : KsOk K H kvs := ⟨fun a ha => ⟨(h.is a ha).1.sub z, (h.is a ha).2⟩, h.nd, h.le⟩
def putV (kvs : List NV) (k : NestedKey) (kv v : V) : List NV := if kvs.any (fun a => decide (a.k = k)) then kvs.map (fun a => if a.k = k then { a with v := v } else a) else kvs ++ [⟨k, kv, v⟩]
theorem reln_keys : ∀ {kvs : List NV} {xs : List NE}, Paired RelN kvs xs → xs.map NE.k = kvs.map NV.k
  | _, _, .nil => rfl
  | _, _, .cons h t => by rw [List.map_cons, List.map_cons, reln_keys t, h.1]
theorem reln_put {k : NestedKey} {kv v : V} {key val : Value} (rk : RelV kv key) (rv : RelV v val) {kvs : List NV} {xs : List NE} (r : Paired RelN kvs xs) : Paired RelN (putV kvs k kv v) (putN xs k key val) := by
  have e : (xs.any fun x => decide (x.k = k)) = kvs.any fun a => decide (a.k = k) := by
    induction r with
    | nil => rfl
    | cons h t ih => rw [List.any_cons, List.any_cons, ih, h.1]
  unfold putV putN
  rw [e]
  split
  · clear e
    rename_i hc
    clear hc
    induction r with
    | nil => exact .nil
    | @cons a x _ _ h t ih =>
      rw [List.map_cons, List.map_cons]
      refine .cons ?_ ih
      by_cases c : a.k = k
      · rw [if_pos c, if_pos (h.1.symm.trans c)]
        exact ⟨h.1, h.2.1, rv⟩
      · rw [if_neg c, if_neg (fun z => c (h.1.trans z))]
        exact h
  · clear e
    rename_i hc
    clear hc
    induction r with
    | nil => exact .cons ⟨rfl, rk, rv⟩ .nil
    | cons h t ih => exact .cons h ih
theorem putV_len (kvs : List NV) (k : NestedKey) (kv v : V) : (putV kvs k kv v).length ≤ kvs.length + 1 := by
  unfold putV
  split
  · rw [List.length_map]; omega
  · rw [List.length_append]; exact Nat.le_refl _
theorem putV_ok {K : PySem.W.Frag} {H : Hp} {kvs : List NV} {k : NestedKey} {kv v : V} (h : KsOk K H kvs) (hl : kvs.length < 9000) (hk : NkV K H kv k) (hd : k.depth ≤ 8) : KsOk K H (putV kvs k kv v) := by
  refine ⟨fun a ha => ?_, ?_, by have := putV_len kvs k kv v; omega⟩
  · unfold putV at ha
    split at ha
    · obtain ⟨b, hb, rfl⟩ := List.mem_map.mp ha
      have := h.is b hb
      split <;> exact this
    · rcases List.mem_append.mp ha with ha | ha
      · exact h.is a ha
      · rw [List.mem_singleton.mp ha]
        exact ⟨hk, hd⟩
  · unfold putV
    split
    · have : (kvs.map fun a => if a.k = k then { a with v := v } else a).map NV.k = kvs.map NV.k := by
        rw [List.map_map]
        exact List.map_congr_left fun x _ => by
          show (if x.k = k then _ else x : NV).k = x.k
          split <;> rfl
      rw [this]
      exact h.nd
    · rename_i hc
      rw [List.map_append, List.nodup_append]
      refine ⟨h.nd, by simp, fun a ha b hb e => ?_⟩
      obtain ⟨x, hx, rfl⟩ := List.mem_map.mp ha
      have hb : b = k := by simpa using hb
      exact hc (List.any_eq_true.mpr ⟨x, hx, decide_eq_true (e.trans hb)⟩)
section
variable {X : Cx} {pins : List (Addr × Obj)} {σ : L2.St} {H : Hp} {s : Shared} {d : Addr} {kvs : List NV}
theorem dx_new {P : Program} {w : World} {H' : Hp} {h : Heap} {o : Obj} {es : Array DictEntry} {ep : Nat} {xs : List NE} (ho : h.get? d = some o) (hc : o.ExactDict) (hd : o.data = .dict es ep) (e : es.toList = xs.map (NE.ent w)) (r : Paired RelN kvs xs) : ObjOk P w H' h d (Dxo w d kvs) :=
  ⟨⟨o, es, ep, ho, hc, hd, xs, e, r⟩, ⟨o, ho⟩, fun h1 h2 ⟨o, es, ep, ho, hc, hd, xs, e, r⟩ k => ⟨o, es, ep, k o ho, hc, hd, xs, e, r⟩⟩
theorem nes_of (I : Inv X pins σ H s) (h : KsOk X.K H kvs) {es : Array DictEntry} {xs : List NE} (e : es.toList = xs.map (NE.ent X.w)) (r : Paired RelN kvs xs) : NEs X.w s.heap es xs := by
  refine ⟨e, fun x hx => ?_, by rw [reln_keys r]; exact h.nd⟩
  have : ∀ {kvs : List NV} {xs : List NE}, Paired RelN kvs xs → ∀ x ∈ xs, ∃ a ∈ kvs, RelN a x := by
    intro kvs xs r
    induction r with
    | nil => intro x hx; cases hx
    | cons h t ih =>
      intro x hx
      rcases List.mem_cons.mp hx with rfl | hx
      · exact ⟨_, by simp, h⟩
      · obtain ⟨a, ha, q⟩ := ih x hx
        exact ⟨a, List.mem_cons_of_mem _ ha, q⟩
  obtain ⟨a, ha, e1, e2, _⟩ := this r x hx
  obtain ⟨h1, h2⟩ := h.is a ha
  rw [← e1]
  exact ⟨h1.is I a.k a.kv x.key e2, h2⟩
def rSetX (K : PySem.W.Frag) (w : World) : TSet := fun o i v H Q => ∃ d kvs k, o = V.ref d ∧ H d = some (Dxo w d kvs) ∧ KsOk K H kvs ∧ kvs.length < 9000 ∧ NkV K H i k ∧ k.depth ≤ 8 ∧ Q (upd H d (Dxo w d (putV kvs k i v)))
theorem set_dx (hu : X.A.units + 16 < cLine) : PSet X (rSetX X.K X.w) := by
  intro pins s σ H o i v ov iv u Q I ro ri rv h
  obtain ⟨d, kvs, k, eo, hd, ks, hl, hk, hdp, q⟩ := h
  subst eo
  cases (show ov = Value.ref d from ro)
  obtain ⟨⟨ob, es, ep, ho, hc, hdt, xs, e, r⟩, _⟩ := I.hok d _ hd
  have N := nes_of I ks e r
  have hlen : kvs.length = xs.length := Paired.length r
  refine setItem_nk hu ho hc hdt N (by omega) (hk.is I k i iv ri) hdp fun h' o' es' ep' tk h1 h2 h3 h4 h5 => ⟨_, d_write I (by rw [hd]; exact True.intro) h5 ⟨_, h1⟩ (dx_new h1 h2 h3 h4 (reln_put ri rv r)), q⟩
end
end Ys
/-! a dict with keys of all kinds: from a dict of texts, locked, walked, its type, its repr -/
namespace Ys
open PySem PySem.Spec PyProof.Rows L2
def nkK : Key → NestedKey
  | .inl i => .num i
  | .inr x => .text x
def nvK (p : Key × V) : NV := ⟨nkK p.1, kV p.1, p.2⟩
theorem nkK_inj {a b : Key} (h : nkK a = nkK b) : a = b := by
  cases a <;> cases b <;> simp [nkK] at h
  · rw [h]
  · rw [h]
theorem nkK_hash (w : World) (k : Key) : (nkK k).hash w = keyH w k := by cases k <;> rfl
theorem keysOk {K : PySem.W.Frag} {H : Hp} {kvs : List (Key × V)} (nd : (kvs.map (·.1)).Nodup) (hl : kvs.length ≤ 9000) : KsOk K H (kvs.map nvK) := by
  refine ⟨fun a ha => ?_, ?_, by rw [List.length_map]; exact hl⟩
  · obtain ⟨⟨k, v⟩, _, rfl⟩ := List.mem_map.mp ha
    cases k with
    | inl i => exact ⟨.int i, by simp [nvK, nkK, NestedKey.depth]⟩
    | inr x => exact ⟨.str x, by simp [nvK, nkK, NestedKey.depth]⟩
  · clear hl
    induction kvs with
    | nil => exact .nil
    | cons p l ih =>
      obtain ⟨h1, h2⟩ := List.nodup_cons.mp (show (p.1 :: l.map (·.1)).Nodup from nd)
      refine List.nodup_cons.mpr ⟨fun hm => h1 ?_, ih h2⟩
      obtain ⟨a, ha, e⟩ := List.mem_map.mp hm
      obtain ⟨q, hq, rfl⟩ := List.mem_map.mp ha
      exact List.mem_map.mpr ⟨q, hq, nkK_inj e⟩
section
variable {X : Cx} {pins : List (Addr × Obj)} {σ : L2.St} {H : Hp} {s : Shared} {d : Addr}
theorem ents_of {P : Program} {w : World} : ∀ {es : List DictEntry} {kvs : List (Key × V)} {vs : List (Key × Value)}, KV kvs vs → Pairs (mixKind P w) es vs → (∀ e ∈ es, ∃ k, (mixKind P w).is k e.key = true ∧ e.hash = (mixKind P w).hash k) → ∃ xs : List NE, es = xs.map (NE.ent w) ∧ Paired RelN (kvs.map nvK) xs
  | _, _, _, .nil, .nil, _ => ⟨[], rfl, .nil⟩
  | _, _, _, .cons (a := p) (b := q) r t, .cons (e := e) a b u, hk => by
    obtain ⟨xs, e1, e2⟩ := ents_of t u fun e he => hk e (List.mem_cons_of_mem _ he)
    obtain ⟨k, h1, h2⟩ := hk e (by simp)
    have ek : k = q.1 := (mixKind P w).inj _ _ _ h1 a
    subst ek
    refine ⟨⟨nkK q.1, e.key, e.val⟩ :: xs, ?_, ?_⟩
    · rw [List.map_cons, ← e1]
      have : e = NE.ent w ⟨nkK q.1, e.key, e.val⟩ := by
        obtain ⟨eh, ek, ev⟩ := e
        show (⟨eh, ek, ev⟩ : DictEntry) = ⟨(nkK q.1).hash w, ek, ev⟩
        rw [nkK_hash]
        have h2 : eh = keyH w q.1 := h2
        rw [h2]
      rw [← this]
    · rw [List.map_cons]
      refine .cons ⟨by show nkK p.1 = nkK q.1; rw [r.1], ?_, ?_⟩ e2
      · show RelV (kV p.1) e.key
        rw [r.1]
        rcases keyIs_shape (show keyIs q.1 e.key = true from a) with ⟨i, t, h3, h4⟩ | ⟨x, t, h3, h4⟩
        · rw [h3, h4]; exact ⟨t, rfl⟩
        · rw [h3, h4]; exact ⟨t, rfl⟩
      · show RelV p.2 e.val
        rw [b]
        exact r.2
theorem dx_of {kvs : List (Key × V)} (I : Inv X pins σ H s) (h : H d = some (.dK kvs)) : Inv X pins σ (upd H d (Dxo X.w d (kvs.map nvK))) s ∧ (kvs.map (·.1)).Nodup := by
  obtain ⟨z, hs, vs, kv, o, es, ep, ho, hc, hd, hk, hp, nd⟩ := I.hok d _ h
  obtain ⟨xs, e1, e2⟩ := ents_of kv hp fun e he => hk e (Array.mem_toList_iff.mp he)
  refine ⟨I.write (x := d) (e := d) (t' := s.toks) (h' := s.heap) (by rw [h]; exact True.intro) (.inl rfl) (fun b u _ z => z) ⟨o, ho⟩ (dx_new ho hc hd e1 e2), ?_⟩
  rw [kv.keys]
  exact nd
def tDx (w : World) (te : TE) : TE := fun σ H Q => te σ H fun x H1 => ∃ d kvs, x = V.ref d ∧ H1 d = some (.dK kvs) ∧ ((kvs.map (·.1)).Nodup → Q x (upd H1 d (Dxo w d (kvs.map nvK))))
theorem pe_dx {e : Expr} {te : TE} (h : PE X e te) : PE X e (tDx X.w te) := by
  refine ⟨fun pins s σ H Q I q => ?_⟩
  refine wpAny_mono (h.run pins s σ H _ I q) (fun u s1 z => ?_) fun _ _ z => z
  obtain ⟨x, H1, I1, rx, d, kvs, rfl, hd, q⟩ := z
  obtain ⟨I2, nd⟩ := dx_of I1 hd
  exact ⟨_, _, I2, rx, q nd⟩
theorem back_ents {P : Program} {w : World} : ∀ {kvs : List (Key × V)} {xs : List NE}, Paired RelN (kvs.map nvK) xs → ∃ vs, KV kvs vs ∧ Pairs (mixKind P w) (xs.map (NE.ent w)) vs ∧ ∀ e ∈ xs.map (NE.ent w), ∃ k, (mixKind P w).is k e.key = true ∧ e.hash = (mixKind P w).hash k
  | [], _, .nil => ⟨[], .nil, .nil, fun e he => by cases he⟩
  | p :: kvs, _, .cons (b := x) r t => by
    obtain ⟨vs, h1, h2, h3⟩ := back_ents (P := P) (w := w) t
    have a : (mixKind P w).is p.1 x.key = true := kV_is r.2.1
    refine ⟨(p.1, x.val) :: vs, .cons ⟨rfl, r.2.2⟩ h1, .cons a rfl h2, fun e he => ?_⟩
    rcases List.mem_cons.mp he with rfl | he
    · exact ⟨p.1, a, by show x.k.hash w = keyH w p.1; rw [← r.1]; exact nkK_hash w p.1⟩
    · exact h3 e he
theorem dx_back {kvs : List (Key × V)} (I : Inv X pins σ H s) (S : SysIn X.K) (h : H d = some (Dxo X.w d (kvs.map nvK))) (nd : (kvs.map (·.1)).Nodup) (hl : kvs.length ≤ 9000) : Inv X pins σ (upd H d (.dK kvs)) s := by
  obtain ⟨⟨o, es, ep, ho, hc, hd, xs, e, r⟩, _⟩ := I.hok d _ h
  obtain ⟨vs, h1, h2, h3⟩ := back_ents (P := X.prog) (w := X.w) r
  have ne := sys_ne I S (a := d) (.inl h)
  refine I.write (x := d) (e := d) (t' := s.toks) (h' := s.heap) (by rw [h]; exact True.intro) (.inl rfl) (fun b u _ z => z) ⟨o, ho⟩ ?_
  exact ⟨Nat.le_trans hl (by decide), by simpa using ne, vs, h1, o, es, ep, ho, hc, hd, fun en hen => h3 en (by rw [← e]; exact Array.mem_toList_iff.mpr hen), by rw [e]; exact h2, by rw [← h1.keys]; exact nd⟩
def tLkx (w : World) (te : TE) : TE := fun σ H Q => te σ H fun x H1 => ∃ d kvs, x = V.ref d ∧ H1 d = some (Dxo w d kvs) ∧ ((∀ od, Q x (upd H1 d (.frz od (Dxo w d kvs)))) ∨ ∃ tk : List (Key × V), tk.map nvK = kvs ∧ (tk.map (·.1)).Nodup ∧ tk.length ≤ 9000 ∧ ∀ od, Q x (upd H1 d (.frz od (.dK tk))))
theorem pe_lkx {e : Expr} {te : TE} (S : SysIn X.K) (h : PE X e te) : PE X e (tLkx X.w te) := by
  refine ⟨fun pins s σ H Q I q => ?_⟩
  refine wpAny_mono (h.run pins s σ H _ I q) (fun u s1 z => ?_) fun _ _ z => z
  obtain ⟨x, H1, I1, rx, d, kvs, rfl, hd, q⟩ := z
  rcases q with q | ⟨tk, e1, nd, hl, q⟩
  · obtain ⟨od, I2⟩ := I1.lock hd True.intro
    exact ⟨_, _, I2, rx, q od⟩
  · subst e1
    have I2 := dx_back I1 S hd nd hl
    obtain ⟨od, I3⟩ := I2.lock upd_same True.intro
    rw [upd_upd] at I3
    exact ⟨_, _, I3, rx, q od⟩
/-! ### walked -/
def Itx (w : World) (d : Addr) (o : Obj) (kvs : List NV) : It :=
  ⟨fun i H => H d = some (.frz o (Dxo w d kvs)) ∧ i < kvs.length, fun i H x H' => H' = H ∧ ∃ a, kvs[i]? = some a ∧ x = a.kv, fun i H => H d = some (.frz o (Dxo w d kvs)) ∧ kvs.length ≤ i⟩
theorem frzX {kvs : List NV} {o : Obj} (I : Inv X pins σ H s) (h : H d = some (.frz o (Dxo X.w d kvs))) : s.heap.get? d = some o ∧ o.ExactDict ∧ ∃ (es : Array DictEntry) (ep : Nat) (xs : List NE), o.data = .dict es ep ∧ es.size = kvs.length ∧ es.toList = xs.map (NE.ent X.w) ∧ Paired RelN kvs xs := by
  obtain ⟨hd, ⟨o', es, ep, ho, hx, hdt, xs, e, r⟩, _⟩ := I.hok d _ h
  rw [hd] at ho
  cases ho
  refine ⟨hd, hx, es, ep, xs, hdt, ?_, e, r⟩
  rw [← Array.length_toList, e, List.length_map]
  exact (Paired.length r).symm
theorem reln_at : ∀ {kvs : List NV} {xs : List NE} {i : Nat} {a : NV}, Paired RelN kvs xs → kvs[i]? = some a → ∃ x, xs[i]? = some x ∧ RelN a x
  | _, _, i, _, .nil, h => by simp at h
  | _, _, 0, _, .cons r t, h => by
    cases h
    exact ⟨_, rfl, r⟩
  | _, _, i + 1, _, .cons r t, h => reln_at (i := i) t (by simpa using h)
theorem turn_x {P : Program} {w : World} {K : PySem.W.Frag} {tg : Expr} {o : Obj} {es : Array DictEntry} {ep : Nat} {kvs : List NV} (it : Addr) (hod : o.data = .dict es ep) (hne : d ≠ it) : Turn P w K tg (Itx w d o kvs) [it] it (fun i h => h.IsKeyIter it d i kvs.length ep) where
  mem := by simp
  obj := fun i h st b hb => by
    obtain rfl : b = it := by simpa using hb
    obtain ⟨oi, e, c, dd⟩ := st
    exact ⟨oi, e, fun v z => by rw [dd] at z; cases z⟩
  keep := fun i h h' st k => st.at fun oi e => k it (by simp) oi e
  item := by
    intro X hP hw hK hc i pins s σ H E I hf st hg
    subst hP hw hK
    obtain ⟨hd, hi⟩ := hg
    obtain ⟨f0, f1, f2, f3, f4, f5⟩ := hf it (by simp)
    obtain ⟨hgd, hx, es', ep', xs, hdt, hsz, he, hr⟩ := frzX I hd
    obtain ⟨rfl, rfl⟩ := dict_ep hod hdt
    obtain ⟨a, ha⟩ : ∃ a, kvs[i]? = some a := ⟨kvs[i], List.getElem?_eq_getElem hi⟩
    obtain ⟨x, hx2, rx⟩ := reln_at hr ha
    have st0 := st
    rw [← hsz] at st0
    have hie : i < es'.size := by rw [hsz]; exact hi
    have hkey : es'[i].key = x.key := by
      have h1 : es'[i]? = some es'[i] := Array.getElem?_eq_getElem hie
      rw [← Array.getElem?_toList, he, List.getElem?_map, hx2] at h1
      have := Option.some.inj h1
      rw [← this]
      rfl
    refine wpAny_pyNext_keys_item_raw st0 ⟨o, hgd, hx, hod⟩ hie fun h' st' sb => ?_
    have I1 : Inv X pins σ H { s with heap := h' } := I.turned (t' := s.toks) (fun b ob hb e => (sb.2 b hb).trans e) f0 f1 f3 f4 f5
    obtain ⟨oi, e, c, dd⟩ := id st'
    refine ⟨es'[i].key, rfl, go_of (s := { s with heap := h' }) e c dd (by decide) ⟨a.kv, H, I1, by rw [hkey]; exact rx.2.1, ⟨rfl, a, ha, rfl⟩, ?_, fun b hb => (hf b hb).1⟩⟩
    show h'.IsKeyIter it d (i + 1) kvs.length _
    rw [← hsz]
    exact st'
  done := by
    intro X hP hw hK hc i pins s σ H E I hf st hg
    subst hP hw hK
    obtain ⟨hd, hi⟩ := hg
    obtain ⟨f0, f1, f2, f3, f4, f5⟩ := hf it (by simp)
    obtain ⟨hgd, hx, es', ep', xs, hdt, hsz, he, hr⟩ := frzX I hd
    obtain ⟨rfl, rfl⟩ := dict_ep hod hdt
    exact next_key_end (I.ok.hd hc) st hgd hdt hsz hi fun h' eb => ⟨rfl, I.turned (t' := s.toks) (fun b ob hb e => eb b ob hb e) f0 f1 f3 f4 f5⟩
  self := fun A i s Q E st h => wpAny_pyIter_keyiter st h
def iKX (w : World) (te : TE) : TI := fun σ H R => te σ H fun x H1 => ∃ d o, x = V.ref d ∧ ((∃ kvs, H1 d = some (.frz o (.dK kvs)) ∧ R (Itk d o kvs) H1) ∨ ∃ kvs, H1 d = some (.frz o (Dxo w d kvs)) ∧ R (Itx w d o kvs) H1)
theorem pi_kx {tg e : Expr} {te : TE} (S : SysIn X.K) (he : PE X e te) : PI X tg e (iKX X.w te) := by
  refine ⟨fun pins s σ H R I h => ?_⟩
  refine thn (he.run pins s σ H _ I h) fun u s1 ⟨x, H1, I1, rx, d, o, ex, q⟩ => ?_
  subst ex
  obtain rfl : u = Value.ref d := rx
  rcases q with ⟨kvs, hd, q⟩ | ⟨kvs, hd, q⟩
  · obtain ⟨hs, hgd, hx, es, ep, vs, hdt, hsz, kv, hm⟩ := I1.frzK hd
    refine iter_keys hs hgd hx hdt (pi_one (tk := s1.toks) I1 _ (turn_keys _ hdt) ⟨_, Heap.get?_push_size _ rfl, rfl, ?_⟩ q)
    rw [hsz] <;> rfl
  · have ne := sys_ne I1 S (a := d) (.inl hd)
    obtain ⟨hgd, hx, es, ep, xs, hdt, hsz, he2, hr⟩ := frzX I1 hd
    have hlt : d ≠ s1.heap.objs.size := Nat.ne_of_lt (Heap.lt_size hgd)
    refine iter_keys (by simpa using ne) hgd hx hdt (pi_one (tk := s1.toks) I1 _ (turn_x _ hdt hlt) ⟨_, Heap.get?_push_size _ rfl, rfl, ?_⟩ q)
    rw [hsz] <;> rfl
/-! ### its type, its repr -/
def rIsiX (K : PySem.W.Frag) (w : World) : List V → Hp → VK → Prop := fun xs H Q => rIsiG K xs H Q ∨ ∃ d c u b o kvs, xs = [V.ref d, c] ∧ H d = some (.frz o (Dxo w d kvs)) ∧ ClsV c u ∧ PySem.W.kitOne K (.type "dict") u = some b ∧ Q (.bl b) H
theorem call_isX1 : CallR X (.builtin "isinstance") (fun xs H Q => ∃ d c u b o kvs, xs = [V.ref d, c] ∧ H d = some (.frz o (Dxo X.w d kvs)) ∧ ClsV c u ∧ PySem.W.kitOne X.K (.type "dict") u = some b ∧ Q (.bl b) H) := by
  intro pins s σ H xs us Q I r h
  obtain ⟨d, c, u, b, o, kvs, rfl, hd, k, e, q⟩ := h
  obtain ⟨u1, u2, rfl, r1, r2⟩ := vals2 r
  have e2 := k.eq r2
  subst e2
  cases (show u1 = Value.ref d from r1)
  obtain ⟨h1, h2, _⟩ := frzX I hd
  exact PySem.W.kia_one PySem.W.kitx_dict I.kIn ⟨o, h1, h2.1⟩ e (fun z => nomatch z) fun tk => ⟨.bl b, H, I.tok tk, rfl, q⟩
theorem kc_isiX {K : PySem.W.Frag} {w : World} (e : X.K = K := by rfl) (e2 : X.w = w := by rfl) : CallR X (.builtin "isinstance") (rIsiX K w) := by
  subst e e2
  exact CallR.or c_isi call_isX1
inductive NDs (K : PySem.W.Frag) (H : Hp) : List NV → List (PyData × PyData) → Prop
  | nil : NDs K H [] []
  | cons {a : NV} {kvs : List NV} {p : PyData × PyData} {ds : List (PyData × PyData)} : Dt K H a.kv p.1 → Dt K H a.v p.2 → NDs K H kvs ds → NDs K H (a :: kvs) (p :: ds)
theorem nds_reads (I : Inv X pins σ H s) (S : SysIn X.K) : ∀ {kvs : List NV} {ds : List (PyData × PyData)} {xs : List NE}, NDs X.K H kvs ds → Paired RelN kvs xs → ∃ as bs, ReadsAll s.heap (xs.map (·.key)) (ds.map (·.1)) as ∧ ReadsAll s.heap (xs.map (·.val)) (ds.map (·.2)) bs ∧ sysModules ∉ as ∧ sysModules ∉ bs
  | _, _, _, .nil, .nil => ⟨[], [], .nil, .nil, by simp, by simp⟩
  | _, _, _, .cons h1 h2 t, .cons r rt => by
    obtain ⟨as, bs, q1, q2, n1, n2⟩ := nds_reads I S t rt
    obtain ⟨a1, p1, m1⟩ := Dt.reads I S _ _ _ h1 r.2.1
    obtain ⟨b1, p2, m2⟩ := Dt.reads I S _ _ _ h2 r.2.2
    exact ⟨_, _, .cons p1 q1, .cons p2 q2, fun z => (List.mem_append.mp z).elim m1 n1, fun z => (List.mem_append.mp z).elim m2 n2⟩
def rReprX (K : PySem.W.Frag) (w : World) : List V → Hp → VK → Prop := fun vs H Q => rRepr K vs H Q ∨ ∃ d o kvs ds, vs = [V.ref d] ∧ H d = some (.frz o (Dxo w d kvs)) ∧ NDs K H kvs ds ∧ (PyData.dict ds).showable = true ∧ (PyData.dict ds).depth ≤ 60 ∧ (PyData.dict ds).shown.length ≤ sizeLine ∧ Q (.str (PyData.dict ds).shown) H
theorem kc_reprX {K : PySem.W.Frag} {w : World} (hg : X.A.guards = some []) (S : SysIn X.K) (hu : X.A.units + 64 < cLine) (e : X.K = K := by rfl) (e2 : X.w = w := by rfl) : CallR X (.builtin "repr") (rReprX K w) := by
  subst e e2
  refine CallR.or (cr_repr hg S hu) ?_
  intro pins s σ H vs us Q I r h
  obtain ⟨d, o, kvs, ds, rfl, hd, hn, sh, dp, sz, q⟩ := h
  obtain ⟨u, rfl, rx⟩ := vals1 r
  cases (show u = Value.ref d from rx)
  have ne := sys_ne I S (a := d) (.inl hd)
  obtain ⟨hgd, hx, es, ep, xs, hdt, hsz, he, hr⟩ := frzX I hd
  obtain ⟨as, bs, q1, q2, n1, n2⟩ := nds_reads I S hn hr
  have e1 : es.toList.map (·.key) = xs.map (·.key) := by rw [he, List.map_map]; rfl
  have e2 : es.toList.map (·.val) = xs.map (·.val) := by rw [he, List.map_map]; rfl
  have hR : Reads s.heap (.ref d) (.dict ds) (d :: as ++ bs) := .dict hgd hx.1 hdt (by rw [e1]; exact q1) (by rw [e2]; exact q2)
  have na : sysModules ∉ d :: as ++ bs := fun z => by
    rcases List.mem_append.mp z with z | z
    · rcases List.mem_cons.mp z with z | z
      · exact ne z.symm
      · exact n1 z
    · exact n2 z
  refine repr_of_reads' hR sh (fun _ => na) hg (by omega) (fun _ _ e => e) (fun h' u tk k => ?_) sz
  exact ⟨.str _, H, I.kept (t' := tk) k, ⟨_, rfl⟩, q⟩
end
end Ys
/-! the steps for dicts with keys of all kinds -/
namespace Ys
open PySem PySem.Spec PyProof.Rows L2
/-! for in a dict of either kind -/
theorem src_X {w : World} {d : Addr} {od : Obj} {kvs : List NV} : Src (Itx w d od kvs) (kvs.map NV.kv) (fun H => H d = some (.frz od (Dxo w d kvs))) where
  go := fun i H h hi => ⟨h, by simpa using hi⟩
  stop := fun i H h hi => ⟨h, by simpa using hi⟩
  yld := fun i H x H' h hi y => by
    obtain ⟨e, a, e1, rfl⟩ := y
    exact ⟨e, by rw [List.getElem?_map, e1]; rfl⟩
def ItKX (w : World) (x : V) (H1 : Hp) (R : It → Hp → Prop) : Prop := ∃ d o, x = V.ref d ∧ ((∃ kvs, H1 d = some (.frz o (.dK kvs)) ∧ R (Itk d o kvs) H1) ∨ ∃ kvs, H1 d = some (.frz o (Dxo w d kvs)) ∧ R (Itx w d o kvs) H1)
theorem z_ikx {w : World} {te : TE} {σ : L2.St} {H : Hp} {R : It → Hp → Prop} (h : te σ H fun x H1 => ItKX w x H1 R) : iKX w te σ H R := h
theorem z_itKX {w : World} {G H : Hp} {M : List (Addr × HO)} {d : Addr} {od : Obj} {kvs : List (Key × V)} {R : It → Hp → Prop} (z : Zp G M H) (h : G d = some (.frz od (.dK kvs))) (q : R (Itk d od kvs) H) : ItKX w (.ref d) H R := ⟨d, od, rfl, .inl ⟨kvs, z.sub _ _ h, q⟩⟩
theorem z_itXX {w : World} {G H : Hp} {M : List (Addr × HO)} {d : Addr} {od : Obj} {kvs : List NV} {R : It → Hp → Prop} (z : Zp G M H) (h : G d = some (.frz od (Dxo w d kvs))) (q : R (Itx w d od kvs) H) : ItKX w (.ref d) H R := ⟨d, od, rfl, .inr ⟨kvs, z.sub _ _ h, q⟩⟩
/-! ### dicts with keys of all kinds, while they change -/
section
variable {K : PySem.W.Frag} {w : World} {G G1 H : Hp} {M : List (Addr × HO)} {σ : L2.St} {Q : VK} {te : TE} {d : Addr} {kvs : List NV} {v i : V} {kk : NestedKey}
theorem k_setX {X : Cx} (hu : X.A.units + 16 < cLine) (e : X.K = K := by rfl) (e2 : X.w = w := by rfl) : PSet X (rSetX K w) := by
  subst e e2
  exact set_dx hu
theorem z_setX {Qh : Hp → Prop} (z : Zp G M H) (j : Nat) (e : M[j]? = some (d, Dxo w d kvs)) (ok : KsOk K G kvs) (hl : kvs.length < 9000) (nk : NkV K G i kk) (hd : kk.depth ≤ 8) (q : ∀ H1, Zp G (M.set j (d, Dxo w d (putV kvs kk i v))) H1 → Qh H1) : rSetX K w (.ref d) i v H Qh :=
  ⟨d, kvs, kk, rfl, z.at_ j e, ok.sub z, hl, nk.sub z, hd, q _ (z.put j e _)⟩
def DxW (w : World) (x : V) (H1 : Hp) (Q : VK) : Prop := ∃ d kvs, x = V.ref d ∧ H1 d = some (.dK kvs) ∧ ((kvs.map (·.1)).Nodup → Q x (upd H1 d (Dxo w d (kvs.map nvK))))
theorem z_dx (h : te σ H fun x H1 => DxW w x H1 Q) : tDx w te σ H Q := h
theorem z_dxI {kv : List (Key × V)} (z : Zp G (M ++ [(d, .dK kv)]) H) (q : (kv.map (·.1)).Nodup → ∀ H1, Zp G (M ++ [(d, Dxo w d (kv.map nvK))]) H1 → Q (.ref d) H1) : DxW w (.ref d) H Q := by
  refine ⟨d, kv, rfl, z.at_ M.length last_at, fun nd => q nd _ ?_⟩
  have := z.put M.length last_at (Dxo w d (kv.map nvK))
  rw [List.set_append_right _ _ (Nat.le_refl _), Nat.sub_self] at this
  exact this
def LkxW (w : World) (x : V) (H1 : Hp) (Q : VK) : Prop := ∃ d kvs, x = V.ref d ∧ H1 d = some (Dxo w d kvs) ∧ ((∀ od, Q x (upd H1 d (.frz od (Dxo w d kvs)))) ∨ ∃ tk : List (Key × V), tk.map nvK = kvs ∧ (tk.map (·.1)).Nodup ∧ tk.length ≤ 9000 ∧ ∀ od, Q x (upd H1 d (.frz od (.dK tk))))
theorem z_lkx (h : te σ H fun x H1 => LkxW w x H1 Q) : tLkx w te σ H Q := h
theorem lk_fix {o u : HO} (z : Zp G (M ++ [(d, o)]) H) : Zp (upd G d u) M (upd H d u) ∧ Same G (upd G d u) := by
  have fr : G d = none := (z.own M.length _ _ last_at).2
  have z1 := z.put M.length last_at u
  rw [List.set_append_right _ _ (Nat.le_refl _), Nat.sub_self] at z1
  exact ⟨z1.fix, Same.new fr⟩
theorem z_lkxO (z : Zp G (M ++ [(d, Dxo w d kvs)]) H) (q : ∀ od G1 H1, Zp G1 M H1 → Same G G1 → G1 d = some (.frz od (Dxo w d kvs)) → Q (.ref d) H1) : LkxW w (.ref d) H Q :=
  ⟨d, kvs, rfl, z.at_ M.length last_at, .inl fun od => let ⟨z1, s1⟩ := lk_fix z; q od _ _ z1 s1 upd_same⟩
theorem z_lkxT {tk : List (Key × V)} (z : Zp G (M ++ [(d, Dxo w d kvs)]) H) (e : tk.map nvK = kvs) (nd : (tk.map (·.1)).Nodup) (hl : tk.length ≤ 9000) (q : ∀ G1 H1, Zp G1 M H1 → Same G G1 → FzD G1 d tk → Q (.ref d) H1) : LkxW w (.ref d) H Q :=
  ⟨d, kvs, rfl, z.at_ M.length last_at, .inr ⟨tk, e, nd, hl, fun od => let ⟨z1, s1⟩ := lk_fix z; q _ _ z1 s1 ⟨od, upd_same⟩⟩⟩
end
end Ys
namespace Ys
open PySem PySem.Spec PyProof.Rows L2
/-! ### a lambda as a value, never called -/
def TbOk (G : Hp) (q : Str) (ps : Array Value) : Prop := TriplesOk ps.toList ∧ ∀ (pos : Pos) (cv : Value), codeAmong pos ps.toList = some cv → ∃ c, cv = .ref c ∧ G c = some (LamX.CodeO c q)
theorem TbOk.nil {G : Hp} {q : Str} : TbOk G q #[] := ⟨trivial, fun pos cv h => by
  have h : codeAmong pos [] = some cv := h
  simp [codeAmong] at h⟩
theorem TbOk.up {G G1 : Hp} {q : Str} {ps : Array Value} (h : TbOk G q ps) (s : Same G G1) : TbOk G1 q ps := ⟨h.1, fun pos cv e => by
  obtain ⟨c, e1, e2⟩ := h.2 pos cv e
  exact ⟨c, e1, s _ _ e2⟩⟩
def tLamV (P : Addr) (q : Str) : TE := fun σ H Q => ∃ ps, H P = some (.tbl ps) ∧ TbOk H q ps ∧ ∀ f ps' H1, (H1 = H ∧ ps' = ps ∨ ∃ c, H c = none ∧ H1 = upd (upd H P (.tbl ps')) c (LamX.CodeO c q) ∧ TriplesOk ps'.toList ∧ ∀ (pos : Pos) (cv : Value), codeAmong pos ps'.toList = some cv → codeAmong pos ps.toList = some cv ∨ cv = .ref c) → Q (.ref f) H1
def freeB (sc scope : Scope) : Bool := scope.names.all fun y => !decide (y.2 = .free) || (decide (sc.names.lookup y.1 = some .cell) || decide (sc.names.lookup y.1 = some .free))
theorem freeB_ok {sc scope : Scope} (h : freeB sc scope = true) : ∀ y ∈ scope.names, y.2 = .free → sc.names.lookup y.1 = some .cell ∨ sc.names.lookup y.1 = some .free := fun y hy e => by
  have z := List.all_eq_true.mp h y hy
  simp only [Bool.or_eq_true, Bool.not_eq_true', decide_eq_true_eq, decide_eq_false_iff_not] at z
  exact z.resolve_left fun n => n e
theorem pe_lamV {X : Cx} {P c : Addr} {q : Str} {params : Arguments} {body : Expr} {scope : Scope} {pos : Pos} (TB : LamX.TabB X.base X.mg c P) (hcd : X.env.code = .ref c) (hq : X.env.qual ++ "<lambda>" = q) (hd : defaultsOf params X.env = ([], [])) (hf : freeB X.env.scope scope = true) :
    PE X (.Lambda params body scope pos) (tLamV P q) := by
  constructor
  intro pins s σ H Q I ⟨ps, hP, T, hk⟩
  subst hq
  have hfr : ∀ y ∈ scope.names, y.2 = .free → ∃ a, X.env.cells.lookup y.1 = some a := fun y hy e => I.ok.has _ (freeB_ok hf y hy e)
  have at_ : s.heap.get? P = some { cls := .none, data := .fields ps } := I.hok P _ hP
  have cl := closure_ok hfr
  have gl := I.mod.glob.keeps I.bk
  have hb := TB.bm.keeps I.bk
  have hh := TB.code.keeps I.bk
  apply PySem.W.kla_eval hd
  cases e : codeAmong pos ps.toList with
  | some cv =>
    obtain ⟨c1, rfl, _⟩ := T.2 pos cv e
    exact PySem.W.kla_makeFunctionHit (mg := X.mg) (c := c) (P := P) (ps := ps) cl I.ok.glob gl hcd hh at_ T.1 e hb fun ctv h1 tk hx _ =>
      ⟨.ref _, H, I.kept (t' := tk) fun b o z => Heap.get?_push_of_some _ (hx b o z), rfl, hk _ ps H (.inl ⟨rfl, rfl⟩)⟩
  | none =>
    refine PySem.W.kla_makeFunction (mg := X.mg) (c := c) (P := P) (ps := ps) cl I.ok.glob gl hcd hh at_ T.1 e TB.gP hb fun c1 ctv h1 tk hx hge hlt hrec htb => ?_
    obtain ⟨c2, oc, vs, t, ec, hoc, hdt, hv⟩ := hrec
    cases ec
    have n1 : H c1 = none := I.hok.fresh hge
    have el : (ps ++ #[rawInt pos.line, rawInt pos.col, Value.ref c1]).toList = ps.toList ++ [rawInt pos.line, rawInt pos.col, .ref c1] := by simp
    refine ⟨.ref _, _, LamX.inv_table (t' := tk) (q := X.env.qual ++ "<lambda>") (c := c1) (more := #[rawInt pos.line, rawInt pos.col, .ref c1]) I hP (fun b o nb z => Heap.get?_push_of_some _ (hx b o nb z)) (Heap.get?_push_of_some _ htb) hge ⟨oc, vs, t, Heap.get?_push_of_some _ hoc, hdt, hv⟩, rfl, hk _ _ _ (.inr ⟨c1, n1, rfl, ?_, fun p' cv hc => ?_⟩)⟩
    · rw [el]
      exact TriplesOk_snoc _ _ _ _ T.1
    · rw [el] at hc
      exact LamX.among_app _ T.1 hc
theorem z_lamV {G H : Hp} {M : List (Addr × HO)} {P : Addr} {q : Str} {σ : L2.St} {Q : VK} {ps : Array Value} (z : Zp G M H) (k : Nat) (e : M[k]? = some (P, .tbl ps)) (t : TbOk G q ps) (h : ∀ f G1 H1 ps', Zp G1 (M.set k (P, .tbl ps')) H1 → Same G G1 → TbOk G1 q ps' → Q (.ref f) H1) : tLamV P q σ H Q := by
  refine ⟨ps, z.at_ k e, t.up z.sub, fun f ps' H1 w => ?_⟩
  rcases w with ⟨rfl, rfl⟩ | ⟨c, hc, rfl, t1, t2⟩
  · have es : M.set k (P, HO.tbl ps') = M := by
      apply List.ext_getElem?
      intro i
      rw [List.getElem?_set]
      split
      · rename_i hi
        subst hi
        rw [e, if_pos (List.getElem?_eq_some_iff.mp e).1]
      · rfl
    exact h f G _ ps' (by rw [es]; exact z) (Same.refl _) t
  · have gc : G c = none := z.free hc
    have z1 := z.put k e (.tbl ps')
    have hc1 : upd H P (.tbl ps') c = none := by
      rw [upd_ne]
      · exact hc
      · intro h0
        have := z.at_ k e
        rw [← h0, hc] at this
        cases this
    refine h f _ _ ps' (z1.new hc1 _) (Same.new gc) ⟨t1, fun pos cv hcv => ?_⟩
    rcases t2 pos cv hcv with y | y
    · obtain ⟨c0, e1, e2⟩ := t.2 pos cv y
      exact ⟨c0, e1, Same.new gc _ _ e2⟩
    · exact ⟨c, y, upd_same⟩
end Ys
namespace Ys
open PySem PySem.Spec PyProof.Rows L2
theorem okC {P : Program} {w : World} {K : PySem.W.Frag} {mg : Str → Option Value} {base : Heap} {f c : Addr} {fd : FuncData} {x qual : Str} {params : Arguments} {body : List Stmt} {scope : Scope} {dvs : List V} {kws : List (Str × V)} {CX : CXT} {N ps : List Str} {k : Nat} {sp : Sp} (F : FunD K x qual params body scope dvs kws f fd) (hc : fd.code = .ref c) (S : FnScope N ps scope) (len : ∀ vs H Q E, sp vs H Q E → vs.length = ps.length)
    (hb : ∀ (A : Around) (outer : List Env) (s : Shared) (H : Hp) (vs : List V) (Q : VK) (E : XK), Room k (A.deeper (envOfC qual scope s.heap.objs.size f (.ref c))) → sp vs H Q E →
      ∃ t, PSs (cxOf CX P w K mg base N qual scope f (.ref c) A outer s H E) body t ∧ t { nx := fun _ H' => Q .non H', rt := Q } (start N vs) H) : FnOk P w K mg base CX (k + 1) f fd ps sp := by
  obtain ⟨oc, od, dV, kV, doc, pm, an, cdv, ct, osl, rfl, lk, hcd, _, _⟩ := F.ex
  have e : cdv = .ref c := hc
  subst e
  exact fn_of lk hcd S len hb
/-! ### the end of a law, with tables of code objects -/
abbrev tabsM (cs : List (Addr × Addr)) : List (Addr × HO) := cs.map fun p => (p.2, HO.tbl #[])
theorem law_callGT {P : Program} {w : World} {K : PySem.W.Frag} {mg mb : Str → Option Value} {CX : CXT} {k : Nat} {fa a : Addr} {cs : List (Addr × Addr)} {fd : FuncData} {x : Str} {sp : Sp} {s1 : Shared} {vs : List Value} {ns : List Int}
    (KX : K.In s1.heap) (hns : s1.heap.Ns mainGlobals mg) (hb : s1.heap.Ns builtinsNs mb) (hbb : ∀ x : Str, x ≠ "__name__" → mb x = bootBuiltins x) (hlim : s1.heap.NoLimit) (hg : s1.gens = #[])
    (hT : ∀ p ∈ cs, s1.heap.get? p.2 = some noObj) (nT : ∀ p ∈ cs, K.lookup p.2 = none) (hC : ∀ p ∈ cs, PySem.W.CodeHd s1.heap p.1 p.2) (nd : (cs.map (·.2)).Nodup)
    (bmn : ∃ (bm : Addr) (ob : Obj), mg "__builtins__" = some (.ref bm) ∧ bm ≠ builtinsNs ∧ s1.heap.get? bm = some ob ∧ ob.cls = .type "module" ∧ ob.dict = some builtinsNs ∧ ob.data = .plain)
    (ha : s1.heap.get? a = some { cls := .type "list", data := .seq vs.toArray }) (hi : IntsAre vs ns) (hl : ns.length ≤ sizeLine) (hr : Room k callerA)
    (F : ∀ base : Heap, K.In base → base.Ns mainGlobals mg → (∀ p ∈ cs, LamX.TabB base mg p.1 p.2) → FnG P w K mg base CX k fa fd [x] sp) (hbind : ∀ (s : Shared) (u : Value), BindsTo s fd ⟨[u], []⟩ [(x, u)])
    (hsp : ∀ G H : Hp, Zp G (tabsM cs) H → SqL K G a (ns.map V.int) → sp [.ref a] H (fun v _ => v = .bl true) fun _ _ _ => False) (hCX : ∀ H e s', CX [] H s1 (fun _ _ _ => False) e s' → False) :
    codeAny (model P w) callerA (.call (.ref fa) ⟨[.ref a], []⟩) (fun r s' => r = .ok (.ret (.bool true)) ∧ OldK s1.heap s'.heap ∧ s'.os = s1.os ∧ AllBare s'.gens) s1 := by
  have rv := vals_ints hi
  have len := hi.length
  generalize hTs : cs.map (·.2) = Ts at nd
  have inT : ∀ {b : Addr}, b ∈ Ts → s1.heap.get? b = some noObj := fun {b} q => by
    rw [← hTs] at q
    obtain ⟨p, hp, rfl⟩ := List.mem_map.mp q
    exact hT p hp
  have notT : ∀ {b : Addr} {o : Obj}, s1.heap.get? b = some o → o.data ≠ .fields #[] → b ∉ Ts := fun {b o} e n q => by
    rw [inT q] at e
    exact n (by rw [← Option.some.inj e])
  have aT : a ∉ Ts := notT ha (fun q => nomatch q)
  -- what is tracked: the script, where the written part does not hold it
  obtain ⟨G, hO, hS, hok, hA, hK⟩ : ∃ G : Hp, Only G ∧ SqL K G a (ns.map V.int) ∧ HOk P w G s1.heap ∧ (∀ b u, G b = some u → b = a) ∧ (∀ u, G a = some u → K.lookup a = none) := by
    cases hk : K.lookup a with
    | some o =>
      have e := KX a o hk
      rw [ha] at e
      cases e
      exact ⟨fun _ => none, fun _ => .inl rfl, .inr ⟨_, vs.toArray, _, hk, rfl, rfl, rfl, by rw [List.size_toArray, len]; exact hl, by simpa using rv⟩, (fun b u (z : (none : Option HO) = some u) => by cases z), (fun b u (z : (none : Option HO) = some u) => by cases z), (fun u (z : (none : Option HO) = some u) => by cases z)⟩
    | none =>
      have at_ : ∀ b u, (if b = a then some (HO.frz { cls := .type "list", data := .seq vs.toArray } (.lst (ns.map V.int))) else none) = some u → b = a ∧ u = .frz { cls := .type "list", data := .seq vs.toArray } (.lst (ns.map V.int)) := fun b u z => by
        by_cases c : b = a
        · rw [if_pos c] at z
          exact ⟨c, (Option.some.inj z).symm⟩
        · rw [if_neg c] at z
          cases z
      refine ⟨fun b => if b = a then some (.frz { cls := .type "list", data := .seq vs.toArray } (.lst (ns.map V.int))) else none, fun b => ?_, .inl (.inr ⟨_, if_pos rfl⟩), fun b u z => ?_, fun b u z => (at_ b u z).1, fun _ _ => rfl⟩
      · by_cases c : b = a
        · exact .inr ⟨_, _, if_pos c⟩
        · exact .inl (if_neg c)
      · obtain ⟨rfl, rfl⟩ := at_ b u z
        exact ⟨ha, by rw [List.length_map]; exact hl, vs, _, rv, ha⟩
  have gT : ∀ b ∈ Ts, G b = none := fun b hb => by
    cases q : G b with
    | none => rfl
    | some u => exact absurd (hA b u q ▸ hb) aT
  -- beside it, the tables
  generalize hH : (fun b : Addr => if b ∈ Ts then some (HO.tbl #[]) else G b) = H
  have onT : ∀ b ∈ Ts, H b = some (.tbl #[]) := fun b hb => by rw [← hH]; exact if_pos hb
  have offT : ∀ b, b ∉ Ts → H b = G b := fun b hb => by rw [← hH]; exact if_neg hb
  have z : Zp G (tabsM cs) H := by
    refine ⟨fun b u e => ?_, fun i p o e => ?_, ?_⟩
    · rw [offT b fun q => by rw [gT b q] at e; cases e]
      exact e
    · rw [List.getElem?_map] at e
      cases q : cs[i]? with
      | none => rw [q] at e; cases e
      | some p0 =>
        rw [q] at e
        cases e
        have m : p0.2 ∈ Ts := by rw [← hTs]; exact List.mem_map.mpr ⟨p0, List.mem_of_getElem? q, rfl⟩
        exact ⟨onT _ m, gT _ m⟩
    · rw [List.map_map]
      have : ((fun p : Addr × HO => p.1) ∘ fun p : Addr × Addr => (p.2, HO.tbl #[])) = fun p => p.2 := rfl
      rw [this, hTs]
      exact nd
  have hokH : HOk P w H s1.heap := fun b u e => by
    by_cases hb : b ∈ Ts
    · rw [onT b hb] at e
      cases e
      exact inT hb
    · rw [offT b hb] at e
      have := hok b u e
      obtain rfl := hA b u e
      rcases hO b with q | ⟨o, xs, q⟩
      · rw [q] at e; cases e
      · rw [q] at e
        cases e
        exact this
  have out : ∀ {b : Addr} {o : Obj}, s1.heap.get? b = some o → o.data ≠ .fields #[] → (∀ vs n, o.data ≠ .seq vs n) → H b = none := fun {b o} e n1 n2 => by
    rw [offT b (notT e n1)]
    cases q : G b with
    | none => rfl
    | some u =>
      obtain rfl := hA b u q
      rw [ha] at e
      cases e
      exact absurd rfl (n2 _ _)
  have free : ∀ {b : Addr} {o : Obj} {es : Array DictEntry} {ep : Nat}, s1.heap.get? b = some o → o.data = .dict es ep → H b = none := fun {b o es ep} e d => out e (fun q => by rw [d] at q; cases q) fun vs n q => by rw [d] at q; cases q
  have ns_ : ∀ {b : Addr} {m : Str → Option Value}, s1.heap.Ns b m → (hidT s1.heap H).Ns b m := fun {b m} ⟨o, es, ep, e, d, r⟩ => ⟨o, es, ep, hidT_get e (free e d), d, r⟩
  have kb : K.In (hidT s1.heap H) := fun b o e => hidT_get (KX b o e) (by
    by_cases hb : b ∈ Ts
    · rw [← hTs] at hb
      obtain ⟨p, hp, rfl⟩ := List.mem_map.mp hb
      rw [nT p hp] at e
      cases e
    · rw [offT b hb]
      cases q : G b with
      | none => rfl
      | some u =>
        obtain rfl := hA b u q
        rw [hK u q] at e
        cases e)
  have md : Mod K mg (hidT s1.heap H) := ⟨kb, ns_ hns, ⟨mb, ns_ hb, hbb⟩, let ⟨mc, h1, h2⟩ := hlim; ⟨mc, ns_ h1, h2⟩⟩
  have TB : ∀ p ∈ cs, LamX.TabB (hidT s1.heap H) mg p.1 p.2 := fun p hp => by
    have hp2 := hT p hp
    constructor
    · obtain ⟨o, us, file, tf, flags, tg, inF, text, tt, e1, r1, r2, r3, rr⟩ := hC p hp
      have l : us ≠ #[] := fun q => by rw [q] at r3; simp at r3
      exact ⟨o, us, file, tf, flags, tg, inF, text, tt, hidT_get e1 (out e1 (fun q => l (by rw [r2] at q; cases q; rfl)) fun vs n q => by rw [r2] at q; cases q), r1, r2, r3, rr⟩
    · obtain ⟨bm, ob, b1, b2, b3, b4, b5, b6⟩ := bmn
      refine ⟨bm, ob, b1, b2, fun q => ?_, fun q => ?_, hidT_get b3 (out b3 (fun q => by rw [b6] at q; cases q) fun vs n q => by rw [b6] at q; cases q), b4, b5, b6⟩
      · obtain ⟨o, es, ep, e, hd, _⟩ := hns
        rw [← q, b3] at e
        rw [← Option.some.inj e, b6] at hd
        cases hd
      · rw [q, hp2] at b3
        rw [← Option.some.inj b3] at b6
        cases b6
    · intro q
      obtain ⟨o, es, ep, e, hd, _⟩ := hns
      rw [q, hp2] at e
      rw [← Option.some.inj e] at hd
      cases hd
  have e0 : Env0 P w K mg (hidT s1.heap H) callerA [] s1 H := ⟨rfl, md, fun b o e => of_hidT e, Nat.le_of_eq (hidT_size _ _), trivial, fun b hb => absurd (show b ∈ ([] : List Addr) from hb) (by simp), hokH, .of_eq hg⟩
  refine codeAny_mono ((F _ kb (ns_ hns) TB).run callerA [] s1 H ⟨[.ref a], []⟩ [.ref a] [.ref a] _ _ rfl hr e0 (hbind s1 (.ref a)) (.cons rfl .nil) (hsp G H z hS)) fun r s' h => ?_
  cases r with
  | error e => exact (hCX H e s' h).elim
  | ok fl =>
    cases fl with
    | next => exact False.elim h
    | brk => exact False.elim h
    | cont => exact False.elim h
    | ret u =>
      obtain ⟨v, H', os, bare, un, hok', r', q⟩ := h
      obtain rfl : v = .bl true := q
      obtain rfl : u = Value.bool true := r'
      have tabs : ∀ p ∈ cs, ∃ more : Array Value, s'.heap.get? p.2 = some { cls := .none, data := .fields more } := fun p hp => by
        obtain ⟨more, e⟩ := un.tbls p.2 #[] (onT _ (by rw [← hTs]; exact List.mem_map.mpr ⟨p, hp, rfl⟩))
        exact ⟨_, hok' p.2 _ e⟩
      have rest : ∀ b o, b ∉ Ts → s1.heap.get? b = some o → s'.heap.get? b = some o := fun b o nb e => by
        cases q : H b with
        | none => exact un.keep b o e q (fun z => absurd (show b ∈ ([] : List Addr) from z) (by simp)) (by simp)
        | some u =>
          have q' := q
          rw [offT b nb] at q'
          rcases hO b with z | ⟨ob, xs, z⟩
          · rw [q'] at z; cases z
          · rw [z] at q'
            cases q'
            obtain ⟨e1, _⟩ := hokH b _ q
            obtain ⟨e2, _⟩ := hok' b _ (un.frzs b ob _ q)
            rw [e] at e1
            cases e1
            exact e2
      refine ⟨rfl, ⟨fun b o e => ?_, fun b o e => ?_⟩, os, bare⟩
      · by_cases hb : b ∈ Ts
        · have hb2 := hb
          rw [← hTs] at hb2
          obtain ⟨p, hp, rfl⟩ := List.mem_map.mp hb2
          obtain ⟨more, hm⟩ := tabs p hp
          rw [inT hb] at e
          obtain rfl := Option.some.inj e
          exact .inr (.inl ⟨((hC p hp).tab (hT p hp)).isCodeTable, rfl, #[], more, rfl, by rw [Array.empty_append]; exact hm⟩)
        · exact .inl (rest b o hb e)
      · by_cases hb : b ∈ Ts
        · rw [← hTs] at hb
          obtain ⟨p, hp, rfl⟩ := List.mem_map.mp hb
          obtain ⟨more, hm⟩ := tabs p hp
          exact ⟨_, hm⟩
        · exact ⟨o, rest b o hb e⟩
theorem walk_ofGT {l : PySem.W.OpenLaw} {n k : Nat} {q : Program} {loose : List Str} {XP : (Str → Option Value) → Heap → Prop} {YP : World → Heap → Prop} {d : DefRec} {CX : World → CXT} {x : Str}
    (hn : l.most = some n) (hn2 : n ≤ sizeLine) (hdf : d.params.defaults = []) (hr : Room k callerA)
    (F : ∀ (w : World) (mg : Str → Option Value) (fa : Addr) (h : Heap), YP w h → h.Ns mainGlobals mg → mg d.name = some (.ref fa) →
      ∃ (K : PySem.W.Frag) (fd : FuncData) (cs : List (Addr × Addr)) (sp : Sp), K.In h ∧ ((∀ p ∈ cs, h.get? p.2 = some noObj) ∧ (∀ p ∈ cs, K.lookup p.2 = none) ∧ (∀ p ∈ cs, PySem.W.CodeHd h p.1 p.2) ∧ (cs.map (·.2)).Nodup) ∧ (∀ (s : Shared) (u : Value), BindsTo s fd ⟨[u], []⟩ [(x, u)]) ∧
        (∀ (G H : Hp) (a : Addr) (ns : List Int), ns.length ≤ n → Zp G (tabsM cs) H → SqL K G a (ns.map V.int) → sp [.ref a] H (fun v _ => v = .bl true) fun _ _ _ => False) ∧
        ∀ base : Heap, K.In base → base.Ns mainGlobals mg → (∀ p ∈ cs, LamX.TabB base mg p.1 p.2) → FnG l.prog w K mg base (CX w) k fa fd [x] sp)
    (hCX : ∀ (w : World) (H : Hp) (s : Shared) (e : Value) (s' : Shared), CX w [] H s (fun _ _ _ => False) e s' → False) :
    PySem.W.WalkO q loose XP YP l.row.toRowW d [] (fun f vs => PySem.call f vs) := by
  refine Att.attach_call hn hdf fun w s0 s1 mg mb fa o pm cd doc a vs ns G Y ho hd hcd hmg hobj hints hlen hg => ?_
  obtain ⟨K, fd, cs, sp, KX, ⟨h1, h2, h3, h4⟩, hb, hsp, hF⟩ := F w mg fa _ Y G.T.g hmg
  exact law_callGT KX G.T.g G.T.b G.T.builtins G.T.nolimit hg h1 h2 h3 h4 G.T.bmain hobj hints (Nat.le_trans hlen hn2) hr hF hb (fun G H z hS => hsp G H a ns hlen z hS) fun H e s' => hCX w H s1 e s'
end Ys
/-! a lambda handed to a def that calls it -/
namespace Ys
open PySem PySem.Spec PyProof.Rows L2
theorem okGC {P : Program} {w : World} {K : PySem.W.Frag} {mg : Str → Option Value} {base : Heap} {x qual : Str} {params : Arguments} {body : List Stmt} {scope : Scope} {dvs : List V} {kws : List (Str × V)} {f c : Addr} {fd : FuncData} {CX : CXT} {N ps : List Str} {k : Nat} {sp : Sp} (F : FunD K x qual params body scope dvs kws f fd) (hc : fd.code = .ref c) (S : FnScope N ps scope) (len : ∀ vs H Q E, sp vs H Q E → vs.length = ps.length)
    (hb : ∀ (A : Around) (outer : List Env) (s : Shared) (H : Hp) (vs : List V) (Q : VK) (E : XK), A.guards = some [] → Room k (A.deeper (envOfC qual scope s.heap.objs.size f (.ref c))) → sp vs H Q E →
      ∃ t, PSs (cxOf CX P w K mg base N qual scope f (.ref c) A outer s H E) body t ∧ t { nx := fun _ H' => Q .non H', rt := Q } (start N vs) H) : FnG P w K mg base CX (k + 1) f fd ps sp := by
  obtain ⟨oc, od, dV, kV, doc, pm, an, cdv, ct, osl, rfl, lk, hcd, _, _⟩ := F.ex
  have e : cdv = .ref c := hc
  subst e
  refine ⟨len, fun A outer s H args us vs Q E hg hr e0 hbd r hsp => ?_⟩
  have KX : K.In s.heap := e0.mod.kin.keeps fun b o e => (e0.bs b o e).1
  have lim : s.heap.NoLimit := e0.mod.nolimit.keeps fun b o e => (e0.bs b o e).1
  refine codeAny_call_function hr.depth (KX _ _ lk) rfl S.co S.gen rfl (PySem.W.codeRec_of KX hcd) (hbd _ _ _ _ (wpAny_newFunctionEnv_cells S.kind (fun y hy => ?_) fun env he s1 z => ?_))
  · rcases S.par y.1 (List.of_mem_zip (show (y.1, y.2) ∈ ps.zip us from hy)).1 with q | q
    · exact .inl q
    · exact .inr ⟨q, PySem.W.cellsFrom_some _ _ _ (.inl q)⟩
  · subst he
    refine ⟨lim.keeps z.toInCall.keep, codeAny_func ?_⟩
    obtain ⟨t, ht, hq⟩ := hb A outer s H vs Q E hg (hr.deeper _) hsp
    have I : Inv (cxOf CX P w K mg base N qual scope f (.ref c) A outer s H E) [] (start N vs) H s1 := inv_start S hr.hd e0 (len _ _ _ _ hsp) r z
    refine wpAny_mono (ht.run [] s1 (start N vs) H _ I hq) (fun fl s' hs => ?_) fun e s' hs => hs
    cases fl with
    | ret u =>
      obtain ⟨v, σ', H', I', r', q⟩ := hs
      exact ⟨v, H', I'.os, I'.bare, I'.base, I'.hok, r', q⟩
    | next =>
      obtain ⟨σ', H', I', q⟩ := hs
      exact ⟨.non, H', I'.os, I'.bare, I'.base, I'.hok, rfl, q⟩
    | brk =>
      obtain ⟨_, _, _, q⟩ := hs
      exact False.elim q
    | cont =>
      obtain ⟨_, _, _, q⟩ := hs
      exact False.elim q
def TbNew (H H1 : Hp) (P : Addr) (q : Str) (ps ps' : Array Value) : Prop := (H1 = H ∧ ps' = ps) ∨ ∃ c, H c = none ∧ H1 = upd (upd H P (.tbl ps')) c (LamX.CodeO c q) ∧ TriplesOk ps'.toList ∧ ∀ (pos : Pos) (cv : Value), codeAmong pos ps'.toList = some cv → codeAmong pos ps.toList = some cv ∨ cv = .ref c
section
variable {X : Cx} {pins : List (Addr × Obj)} {σ : L2.St} {H : Hp} {s : Shared}
theorem lam_makeX {c P : Addr} {q : Str} {params : Arguments} {body : Expr} {scope : Scope} {pos : Pos} {E : Value → Shared → Prop} {Q : Value → Shared → Prop} {ps : Array Value} (I : Inv X pins σ H s) (TB : LamX.TabB X.base X.mg c P) (hcd : X.env.code = .ref c) (hq : X.env.qual ++ "<lambda>" = q)
    (hd : defaultsOf params X.env = ([], [])) (hfr : ∀ y ∈ scope.names, y.2 = .free → ∃ c, X.env.cells.lookup y.1 = some c) (hP : H P = some (.tbl ps)) (T : TbOk H q ps)
    (h : ∀ (f c' : Addr) (pm ctv : Value) (ps' : Array Value) (H1 : Hp) (s' : Shared), Inv X pins σ H1 s' → TbNew H H1 P q ps ps' →
      s'.heap.get? f = some (PySem.W.kla_obj "<lambda>" (X.env.qual ++ "<lambda>") params body scope (cloFrom X.env.cells scope.names []) pm c' ctv) → H1 f = none → f ∉ frs X.stack → H1 c' = some (LamX.CodeO c' (X.env.qual ++ "<lambda>")) → Q (.ref f) s') :
    wpAny (model X.prog X.w) X.A (eval (.Lambda params body scope pos) X.env) Q E s := by
  subst hq
  have at_ : s.heap.get? P = some { cls := .none, data := .fields ps } := I.hok P _ hP
  have cl := closure_ok hfr
  have gl := I.mod.glob.keeps I.bk
  have hb := TB.bm.keeps I.bk
  have hh := TB.code.keeps I.bk
  have nofr : ∀ f, s.heap.objs.size ≤ f → f ∉ frs X.stack := fun f hf z => by
    rcases List.mem_cons.mp (I.stkSub _ z) with e | e
    · have h1 := I.lt
      rw [← e] at h1
      exact Nat.lt_irrefl _ (Nat.lt_of_lt_of_le h1 hf)
    · exact I.nofs hf e
  apply PySem.W.kla_eval hd
  cases e : codeAmong pos ps.toList with
  | some cv =>
    obtain ⟨c1, rfl, hc1⟩ := T.2 pos cv e
    refine PySem.W.kla_makeFunctionHit (mg := X.mg) (c := c) (P := P) (ps := ps) cl I.ok.glob gl hcd hh at_ T.1 e hb fun ctv h1 tk hx hsz => ?_
    exact h _ c1 _ ctv ps H _ (I.kept (t' := tk) fun b o z => Heap.get?_push_of_some _ (hx b o z)) (.inl ⟨rfl, rfl⟩) (Heap.get?_push_size _ rfl) (I.hok.fresh hsz) (nofr _ hsz) hc1
  | none =>
    refine PySem.W.kla_makeFunction (mg := X.mg) (c := c) (P := P) (ps := ps) cl I.ok.glob gl hcd hh at_ T.1 e TB.gP hb fun c1 ctv h1 tk hx hge hlt hrec htb => ?_
    obtain ⟨c2, oc, vs, t, ec, hoc, hdt, hv⟩ := hrec
    cases ec
    have n1 : H c1 = none := I.hok.fresh hge
    have hsz : s.heap.objs.size ≤ h1.objs.size := Nat.le_trans hge (Nat.le_of_lt hlt)
    have el : (ps ++ #[rawInt pos.line, rawInt pos.col, Value.ref c1]).toList = ps.toList ++ [rawInt pos.line, rawInt pos.col, .ref c1] := by simp
    have n3 : h1.objs.size ≠ c1 := Nat.ne_of_gt hlt
    have n2 : h1.objs.size ≠ P := Nat.ne_of_gt (Nat.lt_of_lt_of_le (Heap.lt_size at_) hsz)
    refine h _ c1 _ ctv _ _ _ (LamX.inv_table (t' := tk) (q := X.env.qual ++ "<lambda>") (c := c1) (more := #[rawInt pos.line, rawInt pos.col, .ref c1]) I hP (fun b o nb z => Heap.get?_push_of_some _ (hx b o nb z)) (Heap.get?_push_of_some _ htb) hge ⟨oc, vs, t, Heap.get?_push_of_some _ hoc, hdt, hv⟩)
      (.inr ⟨c1, n1, rfl, ?_, fun p' cv hc => ?_⟩) (Heap.get?_push_size _ rfl) ?_ (nofr _ hsz) upd_same
    · rw [el]
      exact TriplesOk_snoc _ _ _ _ T.1
    · rw [el] at hc
      exact LamX.among_app _ T.1 hc
    · rw [upd_ne n3, upd_ne n2]
      exact I.hok.fresh hsz
end
section
open LamX
variable {X : Cx} {pins : List (Addr × Obj)} {σ : L2.St} {H HZ : Hp} {s s1 : Shared}
theorem pe_act2 {CXg : CXT} {Eg : XK} {Ng : List Str} {qg : Str} {sg : Scope} {g f c' : Addr} {cdg pm ctv : Value} {params : Arguments} {body : Expr} {scope : Scope} {k i : Nat} {a : Str} {pn : List (Addr × Obj)} {xe : Value → Shared → Prop} {W : WX} {tb : XK → TE} {p1 p2 : Pos}
    (I : Inv X pins σ H s) (L : LamS X.env.scope scope) (hf : s.heap.get? f = some (PySem.W.kla_obj "<lambda>" (X.env.qual ++ "<lambda>") params body scope (cloFrom X.env.cells scope.names []) pm c' ctv)) (hfn : H f = none) (hfr : f ∉ frs X.stack)
    (hbind : bindArgs (PySem.W.kla_fn "<lambda>" (X.env.qual ++ "<lambda>") params body scope (cloFrom X.env.cells scope.names []) pm (.ref c') ctv) ⟨[], []⟩ = pure [])
    (tk : Takes ((cxOf CXg X.prog X.w X.K X.mg X.base Ng qg sg g cdg X.A X.stack s H Eg).tr pn xe) W) (hr : Room (k + 1) (X.A.deeper (envOfC qg sg s.heap.objs.size g cdg)))
    (hbody : ∀ (E : XK) (A : Around) (outer : List Env) (s : Shared) (H : Hp), Room k (A.deeper (lamEnv X scope s.heap.objs.size f c')) → PE (lamCx X A outer s H E scope f c') body (tb E))
    (hN : Ng[i]? = some a) (hv : Vis sg a) (hd : (a == ("__debug__" : Str)) = false := by decide) (hcd : (a == ("__classdict__" : Str)) = false := by decide) :
    PE ((cxOf CXg X.prog X.w X.K X.mg X.base Ng qg sg g cdg X.A X.stack s H Eg).tr pn xe) (.Call (.Name a p1) [] [] p2)
      (fun σZ HZ Q => σZ[i]? = some (some (.ref f)) ∧ HZ c' = some (CodeO c' (X.env.qual ++ "<lambda>")) ∧ tb (WE W σZ) σ HZ Q) := by
  refine ⟨fun pinsZ sZ σZ HZ Q IZ h => ?_⟩
  obtain ⟨hs, hc, ht⟩ := h
  generalize hE : WE W σZ = E at ht
  refine wpAny_Call_Name_kw (thn ((pe_var (pos := p1) (i := i) hN hv hd hcd).run pinsZ sZ σZ HZ (fun v H1 => v = .ref f ∧ H1 = HZ) IZ ⟨.ref f, hs, rfl, rfl⟩) fun u s1 ⟨v, H1, I1, r1, q1⟩ => ?_)
  obtain ⟨ev, eH⟩ := q1
  subst ev
  rw [eH] at I1
  obtain rfl : u = Value.ref f := r1
  have of1 : s1.heap.get? f = some (PySem.W.kla_obj "<lambda>" (X.env.qual ++ "<lambda>") params body scope (cloFrom X.env.cells scope.names []) pm c' ctv) := I1.base.keep f _ hf hfn hfr (fun z => nomatch (show f ∈ ([] : List Addr) from z))
  refine PySem.W.callWith_F0 ⟨_, _, _, _, of1⟩ ?_
  have un : Un (frs X.stack) [] H HZ s.heap s1.heap := I1.base
  obtain ⟨⟨oc, vs, t, hoc, hdc, hvc⟩, _, _⟩ := I1.hok c' _ hc
  have rc : codeAny (model X.prog X.w) (X.A.deeper (envOfC qg sg s.heap.objs.size g cdg)) (.call (.ref f) ⟨[], []⟩) (CR (L2.CX X.prog X.w) (envOfC qg sg s.heap.objs.size g cdg :: X.stack) X.prog X.w HZ s1 Q E) s1 := by
    refine PySem.W.kla_callFunE hr.depth of1 rfl L.co L.gen rfl ⟨c', oc, vs, t, rfl, hoc, hdc, hvc⟩ ?_
    rw [hbind]
    refine wpAny_pure (wpAny_newFunctionEnv (fun y hy => (L.own y hy).2) (fun y hy => absurd hy (by simp)) (fun h₁ hns hsb => ⟨I1.nolimit.fresh _ hsb, ?_⟩) L.kind)
    show codeAny _ _ (.expr body (lamEnv X scope s1.heap.objs.size f c')) _ _
    have kp : ∀ b o, s1.heap.get? b = some o → h₁.get? b = some o := fun b o e => hsb.extBut b o (Nat.ne_of_lt (Heap.lt_size e)) (Heap.get?_push_of_some _ e)
    have J : Inv (lamCx X (X.A.deeper (envOfC qg sg s.heap.objs.size g cdg)) (envOfC qg sg s.heap.objs.size g cdg :: X.stack) s1 HZ E scope f c') [] σ HZ { s1 with heap := h₁, toks := s1.toks + ([] : List (Str × Value)).length } :=
      lam_start2 I L I1.env0 hr.hd un hns kp
    refine PySem.W.kla_codeExpr (wpAny_mono ((hbody E _ _ s1 HZ (hr.deeper _)).run [] _ _ HZ Q J ht) (fun v s' hq => ?_) fun e s' hq => hq)
    obtain ⟨w', H', J', rv, q⟩ := hq
    exact ⟨w', H', J'.os, J'.bare, J'.base, J'.hok, rv, q⟩
  have hx : PassesAt (L2.CX X.prog X.w) ((cxOf CXg X.prog X.w X.K X.mg X.base Ng qg sg g cdg X.A X.stack s H Eg).tr pn xe) σZ E := hE ▸ passAt tk σZ
  refine wpAny_call (codeAny_mono rc fun r s' hq => ?_)
  cases r with
  | error e => exact hx pinsZ HZ s1 e s' I1 hq
  | ok fl =>
    cases fl with
    | ret u => exact I1.after hq
    | next => exact False.elim hq
    | brk => exact False.elim hq
    | cont => exact False.elim hq

def GivesTo2 (X : Cx) (Ng : List Str) (x : Str) (sg : Scope) (g : Addr) (cdg : Value) (bg : List Stmt) (a : Str) (q : Str) (TT : (XK → Hp → VK → Prop) → Hp → VK → Prop) : Prop :=
  ∀ (f c' : Addr) (s : Shared) (H : Hp) (Q : VK) (tl : XK → Hp → VK → Prop),
    (∀ (W : WX) (pn : List (Addr × Obj)) (xe : Value → Shared → Prop) (p1 p2 : Pos), Takes ((cxOf C8.CX0 X.prog X.w X.K X.mg X.base Ng x sg g cdg X.A X.stack s H C8.E0).tr pn xe) W →
      PE ((cxOf C8.CX0 X.prog X.w X.K X.mg X.base Ng x sg g cdg X.A X.stack s H C8.E0).tr pn xe) (.Call (.Name a p1) [] [] p2) (fun σZ HZ Q => σZ[0]? = some (some (.ref f)) ∧ HZ c' = some (CodeO c' q) ∧ tl (WE W σZ) HZ Q)) →
    H c' = some (CodeO c' q) → TT tl H Q →
    ∃ t, PSs (cxOf C8.CX0 X.prog X.w X.K X.mg X.base Ng x sg g cdg X.A X.stack s H C8.E0).nox bg t ∧ t { nx := fun _ H' => Q .non H', rt := Q } (L2.start Ng [.ref f]) H
end
def tLamC (P : Addr) (q : Str) (TT : (XK → Hp → VK → Prop) → Hp → VK → Prop) (t : XK → TE) : TE := fun σ H Q => ∃ ps, H P = some (.tbl ps) ∧ TbOk H q ps ∧ ∀ ps' H1, TbNew H H1 P q ps ps' → TT (fun E H' Q' => t E σ H' Q') H1 Q
theorem pe_lamC {X : Cx} {TT : (XK → Hp → VK → Prop) → Hp → VK → Prop} {x a q : Str} {g c P : Addr} {k : Nat} {pg : Arguments} {bg : List Stmt} {sg : Scope} {fd : FuncData} {Ng : List Str}
    {params : Arguments} {body : Expr} {scope : Scope} {t : XK → TE} {p lpos pos : Pos} (hg : Gl X x) (hm : X.mg x = some (.ref g)) (hk : PySem.W.keepIn X.K (.ref g) = true)
    (F : FunD X.K x x pg bg sg [] [] g fd) (hb : L2.Binds X.K fd [a] []) (Sg : FnScope Ng [a] sg) (hNg : Ng[0]? = some a) (hva : Vis sg a)
    (hG : ∀ cdv, GivesTo2 X Ng x sg g cdv bg a (X.env.qual ++ "<lambda>") TT)
    (TB : LamX.TabB X.base X.mg c P) (hcode : X.env.code = .ref c) (hq : X.env.qual ++ "<lambda>" = q) (hr : Room (k + 2) X.A) (L : LamX.LamS X.env.scope scope) (hdef : defaultsOf params X.env = ([], []))
    (hbind : ∀ (q : Str) (cl : List (Str × Addr)) (pm cv ctv : Value), bindArgs (PySem.W.kla_fn "<lambda>" q params body scope cl pm cv ctv) ⟨[], []⟩ = pure [])
    (hbody : ∀ (A : Around) (outer : List Env) (s : Shared) (H : Hp) (E : XK) (f c' : Addr), Room k (A.deeper (LamX.lamEnv X scope s.heap.objs.size f c')) → PE (LamX.lamCx X A outer s H E scope f c') body (t E))
    (hdb : (x == ("__debug__" : Str)) = false := by decide) (hd : (a == ("__debug__" : Str)) = false := by decide) (hcd : (a == ("__classdict__" : Str)) = false := by decide) :
    PE X (.Call (.Name x p) [.Lambda params body scope lpos] [] pos) (tLamC P q TT t) := by
  obtain ⟨oc, od, dV, kV, doc, pm, an, cdv, ct, osl, rfl, lk, hcg, _, _⟩ := F.ex
  refine ⟨fun pins s σ H Q I h => ?_⟩
  obtain ⟨ps, hP, hT, h⟩ := h
  refine wpAny_Call_Name_kw (ld_glob I hg hm ?_ hdb)
  refine PySem.W.callWith_K (h₀ := X.base) I.ok.mod.kin hk ?_ (by rfl) (by rfl)
  show wpAny _ _ (spliced ((false, eval (.Lambda params body scope lpos) X.env) :: backTo pos (starEach [] X.env))) _ _ s
  refine Calls.spliced_cons (lam_makeX I TB hcode hq hdef (L.has I.ok) hP hT fun f c' pm' ctv ps' H1 s' I1 nT hf hfn hfr hco => ?_)
  refine Calls.spliced_nil ⟨I1.kIn, ?_⟩
  have rc : codeAny (model X.prog X.w) X.A (.call (.ref g) ⟨[.ref f], []⟩) (CR C8.CX0 X.stack X.prog X.w H1 s' Q C8.E0) s' := by
    refine LamX.run_ofS (N := Ng) (ps := [a]) (us := [.ref f]) (vs := [.ref f]) lk hcg Sg hr I1.env0 (hb s' [.ref f] I1.kIn rfl) (.cons rfl .nil) rfl fun hr' => ?_
    obtain ⟨t', ht', hq'⟩ := hG cdv f c' s' H1 Q (fun E H' Q' => t E σ H' Q') (fun W pn xe p1 p2 tk => pe_act2 (i := 0) (tb := t) I1 L hf hfn hfr (hbind _ _ _ _ _) tk hr' (fun E A outer s H hr2 => hbody A outer s H E f c' hr2) hNg hva hd hcd) hco (h ps' H1 nT)
    exact ⟨t', ht'.nox, hq'⟩
  refine wpAny_call (codeAny_mono rc fun r s2 hq => ?_)
  cases r with
  | error e => exact (show False from hq).elim
  | ok fl =>
    cases fl with
    | ret u => exact I1.after hq
    | next => exact False.elim hq
    | brk => exact False.elim hq
    | cont => exact False.elim hq
theorem z_lamC {G H : Hp} {M : List (Addr × HO)} {P : Addr} {q : Str} {σ : L2.St} {Q : VK} {ps : Array Value} {TT : (XK → Hp → VK → Prop) → Hp → VK → Prop} {te : XK → TE} (z : Zp G M H) (k : Nat) (e : M[k]? = some (P, .tbl ps)) (t : TbOk G q ps) (h : ∀ G1 H1 ps', Zp G1 (M.set k (P, .tbl ps')) H1 → Same G G1 → TbOk G1 q ps' → TT (fun E H' Q' => te E σ H' Q') H1 Q) : tLamC P q TT te σ H Q := by
  refine ⟨ps, z.at_ k e, t.up z.sub, fun ps' H1 w => ?_⟩
  rcases w with ⟨rfl, rfl⟩ | ⟨c, hc, rfl, t1, t2⟩
  · have es : M.set k (P, HO.tbl ps') = M := by
      apply List.ext_getElem?
      intro i
      rw [List.getElem?_set]
      split
      · rename_i hi
        subst hi
        rw [e, if_pos (List.getElem?_eq_some_iff.mp e).1]
      · rfl
    exact h G _ ps' (by rw [es]; exact z) (Same.refl _) t
  · have gc : G c = none := z.free hc
    have z1 := z.put k e (.tbl ps')
    have hc1 : upd H P (.tbl ps') c = none := by
      rw [upd_ne]
      · exact hc
      · intro h0
        have := z.at_ k e
        rw [← h0, hc] at this
        cases this
    refine h _ _ ps' (z1.new hc1 _) (Same.new gc) ⟨t1, fun pos cv hcv => ?_⟩
    rcases t2 pos cv hcv with y | y
    · obtain ⟨c0, e1, e2⟩ := t.2 pos cv y
      exact ⟨c0, e1, Same.new gc _ _ e2⟩
    · exact ⟨c, y, upd_same⟩
end Ys
/-! try with several clauses, each with a name for what it caught -/
namespace Ys
open PySem PySem.Spec PyProof.Rows L2
def wNames (K : PySem.W.Frag) (Wout : WX) (D : Ends) : List (Value × Nat × (Addr → Value → Option Addr → TS)) → WX
  | [] => Wout
  | (c, i, ts) :: r => wAs K c i ts (wNames K Wout D r) D
inductive Named (X : Cx) : List ExceptHandler → List (Value × Nat × (Addr → Value → Option Addr → TS)) → Prop
  | nil : Named X [] []
  | cons {x n : Str} {c : Value} {i : Nat} {ts : Addr → Value → Option Addr → TS} {b₀ : Stmt} {suite : List Stmt} {np pos' : Pos} {hds : List ExceptHandler} {l : List (Value × Nat × (Addr → Value → Option Addr → TS))} (hi : X.N[i]? = some n) (hln : X.env.kindOf n = some .local) (hc : Names X x c)
      (hsu : ∀ (a : Addr) (oe : Obj) (cls : Value) (d : Option Addr) (pn : List (Addr × Obj)), Zc cls d oe → (∃ vs, oe.data = .fields vs) → PSs (X.suite a ((a, oe) :: pn)) (b₀ :: suite) (ts a cls d)) (r : Named X hds l) :
      Named X (.ExceptHandler (some (.Name x np)) (some n) (b₀ :: suite) pos' :: hds) ((c, i, ts) :: l)
section
variable {X : Cx} {Wout : WX} {D : Ends} {a : Addr} {B : Heap} {sI s' : Shared} {pins : List (Addr × Obj)} {σ : L2.St} {H : Hp} {cls : Value} {d : Option Addr} {h3 : Heap}
theorem meets (hs : X.stack = X.env :: X.outer) (hf : X.env.frame = some X.env.locals) (hN : X.N.Nodup) (tk : Takes X Wout) (ok : X.Ok) (J : Inv X pins σ H sI) (nb : ∀ b o, sI.heap.get? b = some o → b ∉ frs X.stack → B.get? b = some o) (up : sI.heap.UpToSlots s'.heap) (up3 : s'.heap.UpToSlots h3)
    (fl3 : HandSPX.FlyingZ B (X.env :: X.outer) a (Zc cls d) h3) (na : H a = none) (os : s'.os = sI.os) (ag : AllBare s'.gens) {hds : List ExceptHandler} {l : List (Value × Nat × (Addr → Value → Option Addr → TS))} (hk : Named X hds l) (w : wNames X.K Wout D l cls d σ H) :
    wpAny (model X.prog X.w) X.A (handleBy (.ref a) X.env hds) (SP X pins D) X.xe { s' with heap := h3 } := by
  induction hk with
  | nil =>
    refine wpAny_handleBy_nil ?_
    obtain ⟨_, _, _, _, vs, T, _, _, he, _, hd, h1, _⟩ := id fl3
    unfold PySem.passOn
    refine wpAny_bind (wpAny_field he hd h1 ?_)
    rw [if_neg (show ¬ ((Value.ref T == Value.none) = true) from by simp)]
    have away : wpAny (model X.prog X.w) X.A (setFlight (.ref a) X.env.frame) (fun _ s4 => wpAny (model X.prog X.w) X.A (throw (.ref a) : Sem Flow) (SP X pins D) X.xe s4) X.xe { s' with heap := h3 } := by
      rw [hf]
      exact HandSPX.setFlight_upZ fl3 fun h4 hh4 up4 => wpAny_throw (tk _ _ ⟨a, B, sI, pins, σ, H, cls, d, rfl, J, nb, (up.trans up3).trans up4, .inr (.inr (by rw [hs]; exact hh4)), na, os, ag, w⟩)
    first
      | exact wpAny_bind (wpAny_pure (wpAny_bind away))
      | exact wpAny_bind away
  | @cons x n c i ts b₀ suite np pos' hds l hi hln hc hsu r ih =>
    obtain ⟨b, hb1, hyes, hno⟩ := w
    have there : ∀ {h : Heap}, HandSPX.FlyingZ B (X.env :: X.outer) a (Zc cls d) h → s'.heap.UpToSlots h → ∃ oe vs, h.get? a = some oe ∧ Zc cls d oe ∧ oe.data = .fields vs ∧ Inv (X.suite a ((a, oe) :: (X.pn ++ pins))) [] σ H { s' with heap := h } := fun {h} fl u => by
      obtain ⟨oe, vs, he, hz, hd⟩ := fl.there
      have nfr : a ∉ frs (X.env :: X.outer) := fun hm => by
        obtain ⟨_, o', e', hnf⟩ := fl.2.2.1.mem hm
        rw [he] at e'
        cases e'
        exact hnf _ hd
      have JL : Inv X pins σ H { s' with heap := h } := J.landed nb fl.1 (up.trans u) os ag
      refine ⟨oe, vs, he, hz, hd, JL.suite he hd na (fun z => nfr (List.mem_filterMap.mpr ⟨X.env, List.mem_cons_self, by rw [hf, z]⟩)) fun hm => ?_⟩
      obtain ⟨e, he, q⟩ := List.mem_filterMap.mp hm
      exact nfr (List.mem_filterMap.mpr ⟨e, List.mem_cons_of_mem _ he, q⟩)
    obtain ⟨oe3, vs3, he3, hz3, hd3, S3⟩ := there fl3 up3
    refine wpAny_handleBy_cons (codeAny_handlers_test ?_) (by intro q; cases q)
    have JL3 : Inv X pins σ H { s' with heap := h3 } := J.landed nb fl3.1 (up.trans up3) os ag
    have LT : PySem.W.Looks (model X.prog X.w) h3 (typeOf (.ref a)) cls := fun A Q E s k q => wpAny_typeOf_ref (k _ _ he3) (by rw [hz3.1]; exact q)
    have LM := PySem.W.exm_one (M := model X.prog X.w) JL3.kIn LT hb1
    have test : ∀ {Q : Value → Shared → Prop} {E : Value → Shared → Prop}, Q c { s' with heap := h3 } → wpAny (model X.prog X.w) (X.A.mark (some (.ref a))) (eval (.Name x np) X.env) Q E { s' with heap := h3 } := fun {Q E} q => by
      obtain ⟨hg, hdbg, hm | ⟨hm, hv, hnn⟩⟩ := hc
      · exact ld_glob (X := X.suite a ((a, oe3) :: (X.pn ++ pins))) S3 hg hm q hdbg
      · exact ld_blt (X := X.suite a ((a, oe3) :: (X.pn ++ pins))) S3 hg hm hv q hnn hdbg
    refine test (LM.here ?_)
    cases b with
    | true =>
      refine codeAny_handlers_suite_as (HandSPX.lands_againZ fl3 fun h4 fl4 up4 => ?_)
      obtain ⟨oe4, vs4, he4, hz4, hd4, S4⟩ := there fl4 (up3.trans up4)
      refine store_ok (X := X.suite a ((a, oe4) :: (X.pn ++ pins))) (v := .ref a) S4 hN hi (.inl hln) rfl (fun s5 S5 => wpAny_mono ((hsu a oe4 cls d (X.pn ++ pins) hz4 ⟨_, hd4⟩).run [] s5 _ H _ S5 (hyes rfl a na)) (fun f s6 hsp => ?_) (fun _ _ z => False.elim z)) (.inr hln)
      have fin : ∀ {σ6 : L2.St} {H6 : Hp} {Q : Shared → Prop}, Inv (X.suite a ((a, oe4) :: (X.pn ++ pins))) [] σ6 H6 s6 → (∀ s7, Inv X pins (σ6.set i none) H6 s7 → Q s7) →
          wpAny (model X.prog X.w) X.A (do bindName X.env n .none; unbindBehindTheSuite X.env n pos') (fun _ s7 => Q s7) X.xe s6 := fun {σ6 H6 Q} S6 hq => gone_ok (S6.unsuite ok) hN hi hln hq
      cases f with
      | ret u =>
        obtain ⟨v6, σ6, H6, S6, r6, q6⟩ := hsp
        exact fin S6 fun s7 J7 => ⟨_, _, _, J7, r6, q6⟩
      | _ =>
        obtain ⟨σ6, H6, S6, q6⟩ := hsp
        exact fin S6 fun s7 J7 => ⟨_, _, J7, q6⟩
    | false => exact ih (hno rfl)
end
section
variable {X : Cx} {body : List Stmt} {h₀ : ExceptHandler} {hds : List ExceptHandler} {l : List (Value × Nat × (Addr → Value → Option Addr → TS))} {pos : Pos} {tb : WX → TS} {Wout : WX}
theorem ps_try_names (hs : X.stack = X.env :: X.outer) (hf : X.env.frame = some X.env.locals) (hN : X.N.Nodup) (tk : Takes X Wout)
    (hb : ∀ (W : WX) (pn : List (Addr × Obj)) (xe : Value → Shared → Prop), Takes (X.tr pn xe) W → PassesOwn (model X.prog X.w) X.A X.env xe → PSs (X.tr pn xe) body (tb W))
    (hh : Named X (h₀ :: hds) l) : PS X (.Try body (h₀ :: hds) [] [] pos) (fun D σ H => tb (wNames X.K Wout D l) D σ H) := by
  refine ⟨fun pins s σ H D I h => ?_⟩
  have hfr : X.A.frames = some (X.env :: X.outer) := by rw [I.ok.frames, hs]
  refine wpAny_Try_except ?_
  refine wpAny_mono ((hb (wNames X.K Wout D l) (X.pn ++ pins) (fun e s₁ => wpAny (model X.prog X.w) X.A (noteFrame e X.env) (fun _ s₂ => wpAny (model X.prog X.w) X.A (setFlight e none) (fun _ s₃ =>
    wpAny (model X.prog X.w) X.A (handleBy e X.env (h₀ :: hds)) (SP X pins D) X.xe s₃) X.xe s₂) X.xe s₁) (fun u s' xx => ?_) PassesOwn.looking).run [] s σ H D (I.toTry _) h) (fun f s1 hsp => ?_) (fun e s1 he => he)
  · obtain ⟨a, B, sI, pins', σ', H', cls, d, rfl, J', nb, up, sky, na, os, ag, w⟩ := xx
    show wpAny (model X.prog X.w) X.A (noteFrame (.ref a) X.env) _ _ _
    exact Sky.land Zc.steady hfr hf (by rw [← hs]; exact sky) fun h3 fl3 up3 => meets hs hf hN tk I.ok (J'.ofTry I.ok) nb up up3 fl3 na os ag hh w
  · cases f with
    | next =>
      obtain ⟨σ', H', J', q⟩ := hsp
      exact wpAny_execs_nil ⟨σ', H', J'.ofTry I.ok, q⟩
    | ret u =>
      obtain ⟨v, σ', H', J', r, q⟩ := hsp
      exact ⟨v, σ', H', J'.ofTry I.ok, r, q⟩
    | _ =>
      obtain ⟨σ', H', J', q⟩ := hsp
      exact ⟨σ', H', J'.ofTry I.ok, q⟩
end
end Ys
namespace Ys
open PySem PySem.Spec PyProof.Rows L2
/-! ### the Hook, with methods that say super() -/
theorem obC_eq {n : Nat} {fb : List (PySem.W.Frag → Bool)} {fn fc : List DefY} (s : PySem.W.SharedT) : obC n fb fn fc s = (hookC n fb fn fc).obs s.abs := by
  have e : HandSHeadRun.getT s = s.abs.heap.get? := funext (HandSHeadRun.getT_eq s)
  unfold obC
  rw [e]
  rfl
section
variable {fb : List (PySem.W.Frag → Bool)} {fn fc : List DefY} {K : PySem.W.Frag}
theorem SaysC.both (c : SaysC fb fn fc K) : SaysZ fb fn K ∧ (fc.map fun d => fnC K (d.ad K)) = fc.map DefY.val := by
  have h2 : (fn.map fun d => fnY K (d.ad K)) ++ (fc.map fun d => fnC K (d.ad K)) = fn.map DefY.val ++ fc.map DefY.val := congrArg Prod.snd c
  obtain ⟨h3, h4⟩ := List.append_inj h2 (by rw [List.length_map, List.length_map])
  have h1 : ((fb.all fun f => f K) && fn.all fun d => d.ok K) = true := congrArg Prod.fst c
  exact ⟨Prod.ext h1 h3, h4⟩
theorem SaysC.sup (c : SaysC fb fn fc K) (i : Nat) {d : DefY} (h : fc[i]? = some d := by rfl) : fnC K (d.ad K) = d.val := by
  have := congrArg (fun l : List He.FnW => l[i]?) c.both.2
  simp only [List.getElem?_map, h, Option.map_some] at this
  exact Option.some.inj this
end
/-! ### an own error's class -/
theorem oexB_ok {K : PySem.W.Frag} {C : Addr} (h : oexB K C = true) : ∃ nm q N bs bm sn sub ab col dd k0 k1 k2 k3 k5, K.lookup C = some (excClassObj nm q C N bs bm true sn sub ab col dd k0 k1 k2 k3 k5 "ValueError.__new__") ∧ PySem.HandSPX.refsVE bm = true := by
  unfold oexB at h
  split at h
  · rename_i t dd c sl look
    split at h
    · rename_i D bm k0 k1 k2 k3 m k5 hm hl
      obtain ⟨j, i⟩ := Bool.and_eq_true_iff.mp h
      obtain ⟨j1, j⟩ := Bool.and_eq_true_iff.mp j
      obtain ⟨j2, j3⟩ := Bool.and_eq_true_iff.mp j
      obtain ⟨i1, i⟩ := Bool.and_eq_true_iff.mp i
      obtain ⟨i2, i3⟩ := Bool.and_eq_true_iff.mp i
      have e1 := of_decide_eq_true j1
      have e2 := of_decide_eq_true j2
      have e3 := of_decide_eq_true j3
      obtain ⟨y1, y2, y3, y4, y5, y6, y7, y8, y9, y10, y11⟩ := c
      dsimp only at hm i2 i3
      have z3 : y11 = false := by cases y11 <;> simp_all
      have es : sl = #[k0, k1, k2, k3, some (.builtin m), k5] := Array.toList_inj.mp (by rw [hl])
      subst e1 e2 e3 hm es i2 z3
      exact ⟨y1, y5, y4, y2, bm, y7, y8, y9, y10, dd, k0, k1, k2, k3, k5, look, i1⟩
    · cases h
  · cases h
theorem oexA_ok {x : Str} {K : PySem.W.Frag} (h : oexA x K = true) : OexC K (He.ga K x) := by
  obtain ⟨h1, h⟩ := Bool.and_eq_true_iff.mp h
  obtain ⟨h2, h⟩ := Bool.and_eq_true_iff.mp h
  obtain ⟨h3, h⟩ := Bool.and_eq_true_iff.mp h
  obtain ⟨h4, h5⟩ := Bool.and_eq_true_iff.mp h
  exact { cls := oexB_ok h1, sa := of_decide_eq_true h2, exC := of_decide_eq_true h3, tyC := of_decide_eq_true h4, kC := h5 }
structure ExcA (K : PySem.W.Frag) (C : Addr) (fld : Str) : Prop where
  xf : XfC K C
  xc : ExcC K C
  no : PySem.W.findIn K (.ref C) fld = some none
  ex : PySem.W.exmOne K (.ref C) (.ref C) = some true
  kt : PySem.W.kitOne K (.ref C) (.type "ValueError") = some true
theorem excA_ok {x fld : Str} {K : PySem.W.Frag} (h : excA x fld K = true) : ExcA K (He.ga K x) fld := by
  obtain ⟨h1, h⟩ := Bool.and_eq_true_iff.mp h
  obtain ⟨h2, h⟩ := Bool.and_eq_true_iff.mp h
  obtain ⟨h3, h⟩ := Bool.and_eq_true_iff.mp h
  obtain ⟨h4, h⟩ := Bool.and_eq_true_iff.mp h
  obtain ⟨h5, h⟩ := Bool.and_eq_true_iff.mp h
  obtain ⟨h6, h⟩ := Bool.and_eq_true_iff.mp h
  obtain ⟨h7, h8⟩ := Bool.and_eq_true_iff.mp h
  have X := xfB_ok h1
  exact ⟨X, ⟨X.ga, X.gg, X.exC, X.hdC, of_decide_eq_true h2, of_decide_eq_true h3, of_decide_eq_true h4, of_decide_eq_true h5⟩, of_decide_eq_true h6, of_decide_eq_true h7, of_decide_eq_true h8⟩
/-! ### its __init__ -/
theorem fileB_ok {K : PySem.W.Frag} {cd : Value} {file : Str} (h : fileB K cd file = true) : ∃ a, cd = .ref a ∧ ∃ ccl cdd vs ccs z tf, K.lookup a = some ⟨ccl, cdd, .fields vs, ccs⟩ ∧ vs[2]? = some (.str z tf) ∧ (file == z) = true := by
  unfold fileB at h
  split at h
  · rename_i a
    split at h
    · rename_i c1 c2 vs c3 lk
      split at h
      · rename_i z tf hv
        exact ⟨a, rfl, c1, c2, vs, c3, z, tf, lk, hv, h⟩
      · cases h
    · cases h
  · cases h
theorem cloB_ok {K : PySem.W.Frag} {clo : List (Str × Addr)} {C : Addr} (h : cloB K clo C = true) : ∃ c, clo = [(("__class__" : Str), c)] ∧ ∃ cl cld csl, K.lookup c = some ⟨cl, cld, .cell (some (.ref C)), csl⟩ := by
  unfold cloB at h
  split at h
  · rename_i n c
    obtain ⟨h1, h2⟩ := Bool.and_eq_true_iff.mp h
    split at h2
    · rename_i c1 c2 D c3 lk
      have e1 := of_decide_eq_true h1
      have e2 := of_decide_eq_true h2
      subst e1 e2
      exact ⟨c, rfl, _, _, _, lk⟩
    · cases h2
  · cases h
theorem supA_ok {P : Program} {x fld : Str} {K : PySem.W.Frag} {d : DefY} (hf : d.ad K = cA x "__init__" K) (hn : d.name = "__init__") (e : fnC K (d.ad K) = d.val) (h : supA x d.qual fld P.main.file K = true) :
    ∃ fd, SupF P K (gA x K) (cA x "__init__" K) fld d.qual d.params d.body d.scope fd ∧ (∃ kV doc pm an cdv ct cc, fd = PySem.W.ksFn "__init__" d.qual d.params d.body d.scope .none kV doc pm an cdv ct cc) ∧
      PySem.W.findIn K (.ref (gA x K)) "__init__" = some (some (.ref (cA x "__init__" K))) ∧ PySem.W.typeIn K (.ref (cA x "__init__" K)) = some (.type "function") := by
  obtain ⟨h0, h⟩ := Bool.and_eq_true_iff.mp h
  obtain ⟨h1, h⟩ := Bool.and_eq_true_iff.mp h
  obtain ⟨h2, h⟩ := Bool.and_eq_true_iff.mp h
  obtain ⟨h3, h⟩ := Bool.and_eq_true_iff.mp h
  obtain ⟨h4, h⟩ := Bool.and_eq_true_iff.mp h
  obtain ⟨h5, h⟩ := Bool.and_eq_true_iff.mp h
  obtain ⟨h6, h⟩ := Bool.and_eq_true_iff.mp h
  obtain ⟨h7, h8⟩ := Bool.and_eq_true_iff.mp h
  rw [hf] at e
  split at h0
  · rename_i oc od g osl lk
    obtain ⟨j1, j⟩ := Bool.and_eq_true_iff.mp h0
    obtain ⟨j2, j⟩ := Bool.and_eq_true_iff.mp j
    obtain ⟨j3, j4⟩ := Bool.and_eq_true_iff.mp j
    obtain ⟨a, ha, jf⟩ := fileB_ok j2
    obtain ⟨c, hc, jc⟩ := cloB_ok j3
    have j4 := of_decide_eq_true j4
    unfold fnC at e
    rw [lk] at e
    obtain ⟨g1, g2, g3, g4, g5, g6, g7, g8, g9, g10, g11, g12, g13, g14, g15⟩ := g
    obtain ⟨i1, i2, i3, i4, i5, i6, i7⟩ : g1 = d.name ∧ g2 = d.qual ∧ g3 = d.params ∧ g4 = .stmts d.body ∧ g5 = d.scope ∧ g6 = mainGlobals ∧ g15 = builtinsNs := by
      have e' : (some (g1, g2, g3, g4, g5, g6, [], g15) : He.FnW) = some (d.name, d.qual, d.params, .stmts d.body, d.scope, mainGlobals, [], builtinsNs) := e
      simpa only [Option.some.injEq, Prod.mk.injEq, true_and] using e'
    have hc : g7 = [(("__class__" : Str), c)] := hc
    have ha : g13 = .ref a := ha
    have j4 : g8 = .none := j4
    rw [hn] at i1
    subst i1 i2 i3 i4 i5 i6 i7 hc ha j4
    exact ⟨_, ⟨⟨oc, od, osl, .none, g9, g10, g11, g12, a, g14, c, rfl, lk, j1, jf, jc⟩, of_decide_eq_true h1, of_decide_eq_true h2, of_decide_eq_true h3, of_decide_eq_true h4, of_decide_eq_true h5, of_decide_eq_true h6⟩, ⟨_, _, _, _, _, _, _, rfl⟩, of_decide_eq_true h7, of_decide_eq_true h8⟩
  · cases h0
end Ys
namespace Ys
open PySem PySem.Spec L2 Builtin Builtin.ObjectAttr
/-! ### an own error below any of the errors, made with keywords -/
section
variable {prog : Program} {w : World} {A : Around} {E : Value → Shared → Prop} {R : Result → Shared → Prop} {h : Heap} {g : Array GenState} {d : Drawn} {t : Nat} {os : OsState}
variable {nm q : Str} {C N : Addr} {bs tl : List Value} {hdct : Bool} {sn : List Str} {sub : List Value} {ab : Bool} {col : Option Bool} {dd : Option Addr} {k0 k1 k2 k3 k5 : Option Value} {B newId initId : String} {kw : List (Str × Value)}
theorem newC (F : ExcBaseFacts B newId initId tl) {us : List Value} {Q : Unit → Shared → Prop} (hC : h.get? C = some (excClassObj nm q C N bs tl hdct sn sub ab col dd k0 k1 k2 k3 k5 newId)) (hq : Q () ⟨h, g, d, t, os⟩) :
    wpAny (model prog w) A (checkBuiltinCall newId ⟨.ref C :: us, kw⟩) Q E ⟨h, g, d, t, os⟩ := by
  have sees : (Value.ref C :: tl).contains (.type B) = true := by rw [List.contains_cons, F.hasB, Bool.or_true]
  have nostar := F.noStar
  simp only [checkBuiltinCall, F.newRow, F.newSplit, F.newKind]
  repeat (first | refine wpAny_loadPart_at hC ?_ | (refine wpAny_isSubtype_exc hC ?_; rw [sees]) | refine wpAny_madeBy_exc hC ?_ | refine wpAny_staticBase_exc hC ?_ | simp only [bne_self_eq_false, if_false, Bool.false_eq_true] | wp_step)
  exact hq
theorem newE (F : ExcBaseFacts B newId initId tl) {us : List Value} (hC : h.get? C = some (excClassObj nm q C N bs tl hdct sn sub ab col dd k0 k1 k2 k3 k5 newId)) (hl : us.length ≤ sizeLine)
    (hq : R (.ok (.ret (.ref (h.objs.size + 1)))) ⟨(h.push (PySem.W.kdv_tup us)).push (PySem.HandSPX.excO C h.objs.size), g, d, t, os⟩) : codeAny (model prog w) A (.builtin newId ⟨.ref C :: us, kw⟩) R ⟨h, g, d, t, os⟩ := by
  have nends := F.ends
  have s1 : (Value.ref C :: tl).contains (.type B) = true := by rw [List.contains_cons, F.hasB, Bool.or_true]
  have s2 : (Value.ref C :: tl).contains (.type "AttributeError") = false := by rw [List.contains_cons, F.noAttr]; rfl
  have s3 : (Value.ref C :: tl).contains (.type "NameError") = false := by rw [List.contains_cons, F.noName]; rfl
  refine codeAny_builtinAt F.entry ?_
  unfold Builtin.«BaseException.__new__»
  refine wpAt_bind ?_
  refine (show wpAt _ _ _ (stack >>= _) _ _ _ from wpAt_bind (wpAt_stack fun p below => wpAt_of_wpAny ?_))
  wp_walk
  refine wpAt_of_wpAny ?_
  rw [F.owner]
  repeat (first | with_reducible refine wpAny_madeHere_exc F.canon hC ?_ | with_reducible refine wpAny_loadPart_at hC ?_ | (with_reducible refine wpAny_isSubtype_exc hC ?_; first | rw [s1] | rw [s2] | rw [s3]) | wp_step)
  refine (show R _ _ from ?_)
  rw [Heap.size_push]
  exact hq
theorem metaC {us : List Value} {Q : Unit → Shared → Prop} (hC : h.get? C = some (excClassObj nm q C N bs tl hdct sn sub ab col dd k0 k1 k2 k3 k5 newId)) (hq : Q () ⟨h, g, d, t, os⟩) :
    wpAny (model prog w) A (checkBuiltinCall "type.__call__" ⟨.ref C :: us, kw⟩) Q E ⟨h, g, d, t, os⟩ := by
  have sub3 := tc_sub
  have tyC : (⟨h, g, d, t, os⟩ : Shared).TypeIs (.ref C) "type" := ⟨_, hC, rfl⟩
  simp only [checkBuiltinCall, tc_split, tc_kind]
  repeat (any_goals (first | assumption | with_reducible refine wpAny_loadPart_at hC ?_ | with_reducible refine wpAny_map ?_ | with_reducible refine wpAny_onRaise ?_ | wp_step))
theorem typeE (F : ExcBaseFacts B newId initId tl) {us : List Value} {fI : Addr} {Q : Fin → Shared → Prop} (hC : h.get? C = some (excClassObj nm q C N bs tl hdct sn sub ab col dd k0 k1 k2 k3 k5 newId))
    (hi : W.Looks (model prog w) h (typeLookup (.ref C) "__init__") (some (.ref fI))) (hb : ∀ self, W.Looks (model prog w) h (bindSpecial (.ref fI) self) (.ref fI, [self])) (hl : us.length ≤ sizeLine)
    (hq : codeAny (model prog w) A (.call (.ref fI) ⟨.ref (h.objs.size + 1) :: us, kw⟩) (fun r s' => match r with | .ok (.ret v) => v = .none ∧ Q (.done (.ret (.ref (h.objs.size + 1)))) s' | .ok _ => False | .error e => E e s')
      ⟨(h.push (W.kdv_tup us)).push (PySem.HandSPX.excO C h.objs.size), g, d, t, os⟩) : wpAny (model prog w) A (Builtin.«type.__call__» ⟨.ref C :: us, kw⟩) Q E ⟨h, g, d, t, os⟩ := by
  repeat (first | with_reducible refine wpAny_madeBy_exc hC ?_ | with_reducible refine wpAny_loadPart_at hC ?_ | wp_step)
  refine codeAny_call_builtin_code (Code.quiet_builtin _ F.quiet) (newC F hC ?_)
  refine newE F hC hl ?_
  refine (show wpAny _ _ _ _ _ _ from ?_)
  have up : ∀ b o, h.get? b = some o → ((h.push (W.kdv_tup us)).push (PySem.HandSPX.excO C h.objs.size)).get? b = some o := fun b o e => Heap.get?_push_of_some _ (Heap.get?_push_of_some _ e)
  have hC2 := up _ _ hC
  have own : ((h.push (W.kdv_tup us)).push (PySem.HandSPX.excO C h.objs.size)).get? (h.objs.size + 1) = some (PySem.HandSPX.excO C h.objs.size) := by heap_get
  have inC : (Value.ref C :: tl).contains (.ref C) = true := by simp
  have i2 := hi.keeps up
  have b2 := (hb (.ref (h.objs.size + 1))).keeps up
  unfold isInstance
  repeat (first | with_reducible refine wpAny_loadPart_at own ?_ | (with_reducible refine wpAny_isSubtype_exc hC2 ?_; rw [inC]) | wp_step)
  refine (show wpAny _ _ (typeLookup (.ref C) _) _ _ _ from i2.at (wpAny_holding (wpAny_bind (b2.at (wpAny_bind (wpAny_call (codeAny_mono hq fun r s' z => ?_)))))))
  rcases r with e | (v | _ | _ | _) <;> first | exact z | exact z.elim | skip
  obtain ⟨rfl, z⟩ := z
  first
    | exact wpAny_pure (wpAny_pure z)
    | (wp_walk; exact z)
theorem callE (F : ExcBaseFacts B newId initId tl) {us : List Value} {fI : Addr} (hC : h.get? C = some (excClassObj nm q C N bs tl hdct sn sub ab col dd k0 k1 k2 k3 k5 newId))
    (hi : W.Looks (model prog w) h (typeLookup (.ref C) "__init__") (some (.ref fI))) (hb : ∀ self, W.Looks (model prog w) h (bindSpecial (.ref fI) self) (.ref fI, [self])) (hl : us.length ≤ sizeLine)
    (hq : codeAny (model prog w) (A.under (.builtin "type.__call__" ⟨.ref C :: us, kw⟩)) (.call (.ref fI) ⟨.ref (h.objs.size + 1) :: us, kw⟩) (W.InitBack (h.objs.size + 1) R) ⟨(h.push (W.kdv_tup us)).push (PySem.HandSPX.excO C h.objs.size), g, d, t, os⟩) :
    codeAny (model prog w) A (.call (.ref C) ⟨us, kw⟩) R ⟨h, g, d, t, os⟩ := by
  have l1 := tc_lookup
  have l2 := tc_bind (.ref C)
  have tyC : (⟨h, g, d, t, os⟩ : Shared).TypeIs (.ref C) "type" := ⟨_, hC, rfl⟩
  refine codeAny_of_tree ?_
  refine (show wpAny _ _ (callAny (.ref C) _) _ _ _ from ?_)
  repeat (any_goals (first | assumption | with_reducible refine wpAny_loadPart_at hC ?_ | wp_step))
  refine ⟨rfl, ?_⟩
  refine codeAny_call_builtin_at (Code.quiet_builtin _ (by decide +kernel)) entry_typeCall (metaC hC (typeE F hC hi hb hl ?_))
  refine codeAny_mono hq fun r s' z => ?_
  rcases r with e | (v | _ | _ | _) <;> exact z
end
end Ys
namespace Ys
open PySem PySem.Spec L2 Builtin Builtin.ObjectAttr
/-! ### the errors that own ones stand below -/
structure BaseE (B newId initId : String) (tl : List Value) : Prop where
  base : ExcBaseFacts B newId initId tl
  kxs : PySem.W.KxsFacts B initId
  passes : ∀ self : Value, refuseLoop self "__setattr__" tl = pure ()
  obj : tl.contains (.type "object") = true
theorem bValue : BaseE "ValueError" "ValueError.__new__" "ValueError.__init__" [.type "ValueError", .type "Exception", .type "BaseException", .type "object"] := ⟨F.excBase_ValueError, PySem.W.kxs_ValueError, F.store_ValueError.passes, by decide +kernel⟩
theorem bLookup : BaseE "LookupError" "LookupError.__new__" "LookupError.__init__" [.type "LookupError", .type "Exception", .type "BaseException", .type "object"] := ⟨F.excBase_LookupError, PySem.W.kxs_LookupError, F.store_LookupError.passes, by decide +kernel⟩
theorem bRuntime : BaseE "RuntimeError" "RuntimeError.__new__" "RuntimeError.__init__" [.type "RuntimeError", .type "Exception", .type "BaseException", .type "object"] := ⟨F.excBase_RuntimeError, PySem.W.kxs_RuntimeError, F.store_RuntimeError.passes, by decide +kernel⟩
theorem bOverflow : BaseE "OverflowError" "OverflowError.__new__" "OverflowError.__init__" [.type "OverflowError", .type "ArithmeticError", .type "Exception", .type "BaseException", .type "object"] := ⟨F.excBase_OverflowError, PySem.W.kxs_OverflowError, F.store_OverflowError.passes, by decide +kernel⟩
section
variable {prog : Program} {w : World} {A : Around} {E : Value → Shared → Prop} {R : Result → Shared → Prop} {hp : Heap} {g : Array GenState} {d : Drawn} {t : Nat} {os : OsState}
variable {K : W.Frag} {name : Str} {tk : Tok} {v : Value} {x C : Addr} {fv : Array Value} {cd : ClassData} {B newId initId : String} {tl : List Value}
theorem storeN (T : BaseE B newId initId tl) (X : K.In hp) (hx : hp.get? x = some { cls := .ref C, data := .fields fv }) (hc : W.clsIn K C = some cd) (hm : cd.mro = .ref C :: tl) (hd : cd.hasDict = true) (no : W.findIn K (.ref C) name = some none)
    (hq : ∀ h' tk' dx, (∀ b o, b ≠ x → hp.get? b = some o → h'.get? b = some o) → hp.objs.size ≤ dx → dx ≠ x → h'.get? x = some { cls := .ref C, dict := some dx, data := .fields fv } → h'.Ns1 dx (fun y => if y = name then some v else none) → R (.ok (.ret .none)) ⟨h', g, d, tk', os⟩) :
    codeAny (model prog w) A (.call (.builtin "object.__setattr__") ⟨[.ref x, .str name tk, v], []⟩) R ⟨hp, g, d, t, os⟩ := by
  have J : W.InstAt hp x { cls := .ref C, data := .fields fv } C none := ⟨hx, rfl, rfl, trivial⟩
  have so := F.store_object
  have full : cd.mro.isEmpty = false := by rw [hm]; rfl
  have ob : cd.mro.contains (.type "object") = true := by rw [hm, List.contains_cons, T.obj, Bool.or_true]
  have far : x ≠ hp.objs.size := Nat.ne_of_lt (Heap.lt_size hx)
  have below : W.Looks (model prog w) hp (isInstance (.ref x) (.type "object")) true := J.type.andThen (W.looks_mroIn X (by unfold W.mroIn; rw [hc, Option.bind_some, if_neg (by rw [full]; exact Bool.false_ne_true), ob]))
  refine codeAny_call_builtin so.slot.plain so.entry (@W.check_slot (model prog w) _ _ ⟨hp, g, d, t, os⟩ "object.__setattr__" "object" "__setattr__" (.ref x) [.str name tk, v] [] _ so.kind so.split below (so.args (.ref x) (.str name tk) v) ?_)
  have row : W.Looks (model prog w) hp (mroOf (.ref C)) cd.mro := (W.looks_clsIn X hc).andThen .now
  have none3 : W.Looks (model prog w) hp (storeTaker? none) none := .now
  have lc : W.Looks (model prog w) hp (classData C) cd := W.looks_clsIn X hc
  rw [W.osa_eq, refuse_eq]
  refine wpAny_bind (wpAny_bind (J.type.at (wpAny_bind (row.at ?_))))
  rw [hm, refuseLoop_ref, T.passes]
  refine wpAny_pure (wpAny_bind (J.type.at (wpAny_bind ((W.looks_findIn X no).at (wpAny_bind (none3.at ?_))))))
  refine (show wpAny _ _ (storeInOwnDict (.ref x) (.ref C) (.str name tk) name v false) _ _ _ from ?_)
  obtain ⟨y1, y2, y3, y4, y5, y6, y7, y8, y9, y10, y11⟩ := cd
  dsimp only at hd
  subst hd
  unfold storeInOwnDict ownDictForStores
  repeat (first | with_reducible refine PySem.HandSPX.store_in_new ?_ ?_ | with_reducible refine wpAny_loadPart_at hx ?_ | with_reducible refine lc.at ?_ | wp_step)
  · exact ⟨_, #[], _, (Heap.get?_update_ne _ _ _ _ far.symm).trans (Heap.get?_push_at rfl rfl), rfl, fun e he => absurd he (by simp), fun _ => rfl⟩
  · intro h' tk' hn' hs
    have hx2 : (hp.push { cls := .type "dict", data := .dict #[] }).get? x = some { cls := .ref C, data := .fields fv } := Heap.get?_push_of_some _ hx
    refine hq h' tk' hp.objs.size (fun b o nb ho => ?_) (Nat.le_refl _) far.symm ?_ hn'
    · exact (hs.2 b (Nat.ne_of_lt (Heap.lt_size ho))).trans ((Heap.get?_update_ne _ _ _ _ nb).trans (Heap.get?_push_of_some _ ho))
    · exact (hs.2 x far).trans (Heap.get?_update_self _ hx2 rfl)
theorem storeM {dx : Addr} {m0 : Str → Option Value} {nl : List Str} (T : BaseE B newId initId tl) (X : K.In hp) (hx : hp.get? x = some { cls := .ref C, dict := some dx, data := .fields fv }) (hn : hp.Ns1 dx m0) (hw : Within m0 nl) (hz : nl.length ≤ 1000) (hc : W.clsIn K C = some cd) (hm : cd.mro = .ref C :: tl) (hd : cd.hasDict = true)
    (no : W.findIn K (.ref C) name = some none)
    (hq : ∀ h' tk', (∀ b o, b ≠ dx → hp.get? b = some o → h'.get? b = some o) → h'.Ns1 dx (fun y => if y = name then some v else m0 y) → R (.ok (.ret .none)) ⟨h', g, d, tk', os⟩) :
    codeAny (model prog w) A (.call (.builtin "object.__setattr__") ⟨[.ref x, .str name tk, v], []⟩) R ⟨hp, g, d, t, os⟩ := by
  obtain ⟨od, _, _, hod, _, _⟩ := hn.count hw
  have J : W.InstAt hp x { cls := .ref C, dict := some dx, data := .fields fv } C (some od) := ⟨hx, rfl, rfl, hod⟩
  have so := F.store_object
  have full : cd.mro.isEmpty = false := by rw [hm]; rfl
  have ob : cd.mro.contains (.type "object") = true := by rw [hm, List.contains_cons, T.obj, Bool.or_true]
  have below : W.Looks (model prog w) hp (isInstance (.ref x) (.type "object")) true := J.type.andThen (W.looks_mroIn X (by unfold W.mroIn; rw [hc, Option.bind_some, if_neg (by rw [full]; exact Bool.false_ne_true), ob]))
  refine codeAny_call_builtin so.slot.plain so.entry (@W.check_slot (model prog w) _ _ ⟨hp, g, d, t, os⟩ "object.__setattr__" "object" "__setattr__" (.ref x) [.str name tk, v] [] _ so.kind so.split below (so.args (.ref x) (.str name tk) v) ?_)
  have row : W.Looks (model prog w) hp (mroOf (.ref C)) cd.mro := (W.looks_clsIn X hc).andThen .now
  have none3 : W.Looks (model prog w) hp (storeTaker? none) none := .now
  have lc : W.Looks (model prog w) hp (classData C) cd := W.looks_clsIn X hc
  rw [W.osa_eq, refuse_eq]
  refine wpAny_bind (wpAny_bind (J.type.at (wpAny_bind (row.at ?_))))
  rw [hm, refuseLoop_ref, T.passes]
  refine wpAny_pure (wpAny_bind (J.type.at (wpAny_bind ((W.looks_findIn X no).at (wpAny_bind (none3.at ?_))))))
  refine (show wpAny _ _ (storeInOwnDict (.ref x) (.ref C) (.str name tk) name v false) _ _ _ from ?_)
  obtain ⟨y1, y2, y3, y4, y5, y6, y7, y8, y9, y10, y11⟩ := cd
  dsimp only at hd
  subst hd
  unfold storeInOwnDict ownDictForStores
  repeat (first | with_reducible refine PySem.OEX.store_in_old hn hw hz ?_ | with_reducible refine wpAny_loadPart_at hx ?_ | with_reducible refine lc.at ?_ | wp_step)
  intro h' tk' hn' hs
  exact hq h' tk' (fun b o nb ho => (hs.2 b nb).trans ho) hn'
end
end Ys
namespace Ys
open PySem PySem.Spec PyProof.Rows L2
/-! ### the own __init__ of an error below any of the errors -/
structure OexE (K : PySem.W.Frag) (C : Addr) (newId : String) (tl : List Value) : Prop where
  cls : ∃ nm q N bs sn sub ab col dd k0 k1 k2 k3 k5, K.lookup C = some (excClassObj nm q C N bs tl true sn sub ab col dd k0 k1 k2 k3 k5 newId)
  sa : PySem.W.findIn K (.ref C) "__setattr__" = some (some (.builtin "object.__setattr__"))
  exC : PySem.W.subIn K (.ref C) (.type "BaseException") = some true
  tyC : PySem.W.typeIn K (.ref C) = some (.type "type")
  kC : PySem.W.keepIn K (.ref C) = true
structure SupE (P : Program) (K : PySem.W.Frag) (C fI : Addr) (B initId : String) (flds : List Str) (qual : Str) (params : Arguments) (body : List Stmt) (scope : Scope) (fd : FuncData) : Prop where
  ex : ∃ oc od osl dV kV doc pm an cda ct cc, fd = PySem.W.ksFn "__init__" qual params body scope dV kV doc pm an (.ref cda) ct cc ∧ K.lookup fI = some ⟨oc, od, .func fd, osl⟩ ∧ PySem.W.codeIn K (.ref cda) qual = true ∧
    (∃ ccl cdd vs ccs file tf, K.lookup cda = some ⟨ccl, cdd, .fields vs, ccs⟩ ∧ vs[2]? = some (.str file tf) ∧ ((P.main.file : Str) == file) = true) ∧ ∃ cl cld csl, K.lookup cc = some ⟨cl, cld, .cell (some (.ref C)), csl⟩
  sup : PySem.W.ks_superIn K C C "__init__" = some (some (.builtin initId))
  subV : PySem.W.subIn K (.ref C) (.type B) = some true
  opq : PySem.W.nsIn K cStatics "thirdparty.any" = some none
  gs : PySem.W.nsIn K mainGlobals "super" = some none
  no : ∀ f ∈ flds, PySem.W.findIn K (.ref C) f = some none
  mro : PySem.W.mroIn K C (.ref C) = some true
section
variable {P : Program} {w : World} {K : PySem.W.Frag} {C fI a t0 : Addr} {A : Around} {R : Result → Shared → Prop} {fd : FuncData} {hp : Heap} {g : Array GenState} {d : Drawn} {t : Nat} {os : OsState} {B newId initId : String} {tl : List Value}
theorem call_mwE (T : BaseE B newId initId tl) {mw : Addr} {us : List Value} {nm q : Str} {N : Addr} {bs : List Value} {hd : Bool} {sn : List Str} {sub : List Value} {ab : Bool} {col : Option Bool} {dd : Option Addr} {k0 k1 k2 k3 k5 : Option Value} {Q : Value → Shared → Prop} {E : Value → Shared → Prop}
    (hC : hp.get? C = some (excClassObj nm q C N bs tl hd sn sub ab col dd k0 k1 k2 k3 k5 newId)) (hx : hp.get? a = some (PySem.HandSPX.excO C t0)) (hu : hp.get? mw = some (PySem.W.kxs_mw initId a)) (hz : us.length ≤ sizeLine)
    (hq : ∀ h' t1, (∀ b o, b ≠ a → hp.get? b = some o → h'.get? b = some o) → h'.get? a = some (PySem.HandSPX.excO C t1) → Q .none ⟨h', g, d, t, os⟩) : wpAny (model P w) A (call (.ref mw) us) Q E ⟨hp, g, d, t, os⟩ := by
  refine wpAny_call (codeAny_of_tree ?_)
  show wpAny _ A.in1 (callAny (.ref mw) ⟨us, []⟩) _ _ _; simp only [callAny]
  refine wpAny_bind (wpAny_load hu ?_)
  have q1 : (Value.type "method-wrapper" == Value.type "method" || Value.type "method-wrapper" == Value.type "builtin_function_or_method" || Value.type "method-wrapper" == Value.type "method-wrapper") = true := by decide
  simp only [PySem.W.kxs_mw, q1, if_true]
  refine PySem.W.KFB.if_so (by decide) (wpAny_bind (PySem.W.check_bound_init T.base.toExcCallFacts hC hx rfl ?_))
  refine wpAny_bind (wpAny_pure (wpAny_pure ⟨plainId_quiet T.base.init.plain _, codeAny_builtin T.base.initEntry ?_⟩))
  exact PySem.W.exc_init_tree (cls := .ref C) (t0 := t0) (dv := none) (c2 := .none) (c3 := .none) (b4 := .bool false) hx hz fun h' k e _ => hq h' _ k e
structure SupZ (ps : List Str) (params : Arguments) (scope : Scope) : Prop where
  nc : ∀ y ∈ scope.names, y.2 ≠ .cell
  ns : scope.names.lookup ("super" : Str) = some .globalImplicit
  nk : scope.names.lookup ("__class__" : Str) = some .free
  loc : ∀ y ∈ ps, scope.names.lookup y = some .local
  co : scope.isCoroutine = false
  ge : scope.isGenerator = false
  ki : scope.kind = .function
  hd : ∃ ar, (params.posonlyargs ++ params.args).head? = some ar ∧ ar.arg = "self"
variable {qual : Str} {flds : List Str} {params : Arguments} {scope : Scope} {p0 p1 p2 p4 p5 : Pos} {es : List Expr} {rest : List Stmt} {mg mb : Str → Option Value} {vs : List Value} {ps : List Str}
theorem sup_first (S : SupE P K C fI B initId flds qual params (.Expr (.Call (.Attribute (.Call (.Name "super" p0) [] [] p1) "__init__" p2) es [] p4) p5 :: rest) scope fd) (Z : SupZ ("self" :: ps) params scope) (TB : BaseE B newId initId tl) (T : OexE K C newId tl)
    (X : K.In hp) (hg : hp.Ns mainGlobals mg) (hb : hp.Ns builtinsNs mb) (hbb : ∀ y : Str, y ≠ "__name__" → mb y = bootBuiltins y) (hlim : hp.NoLimit) (hroom : A.depth < recursionLimit)
    (hev : ∀ env : Env, env.scope = scope → ∃ pl : Sem Bool, eval (.Call (.Attribute (.Call (.Name "super" p0) [] [] p1) "__init__" p2) es [] p4) env = (do
      let ov ← attributeBase (.Call (.Name "super" p0) [] [] p1) "__init__" env (eval (.Call (.Name "super" p0) [] [] p1) env)
      standAt p2.atName
      let (f, first) ← holding [ov] (getMethod ov "__init__" pl)
      callWith p4 f first (backTo p4 (starEach es env)) []))
    (hpl : ∀ env : Env, (backTo p4 (starEach es env)).any (·.1) = false) (hne : ∀ env : Env, ∃ x xs, backTo p4 (starEach es env) = (false, x) :: xs)
    (hint : ∀ env : Env, env.scope = scope → interactive env = false) (hsw : ∀ env : Env, env.scope = scope → swapsWith (.Call (.Attribute (.Call (.Name "super" p0) [] [] p1) "__init__" p2) es [] p4) none p5.line env = pure false)
    (htop : (P.main.scope.names.lookup ("super" : Str)).isSome = false) (hlen : vs.length = ps.length) (hl : vs.length ≤ 100) (hns : ("self" : Str) ∉ ps)
    (hargs : ∀ (env : Env) (hh : Heap) (L : Addr) (A : Around) (t : Nat) (Q : List Value → Shared → Prop) (E : Value → Shared → Prop), env.scope = scope → env.locals = L → hh.Ns L (fun y => ((("self" : Str), Value.ref a) :: ps.zip vs).reverse.lookup y) → Q vs ⟨hh, g, d, t, os⟩ →
      wpAny (model P w) A (spliced (backTo p4 (starEach es env))) Q E ⟨hh, g, d, t, os⟩)
    (haK : K.lookup a = none) (hx : hp.get? a = some (PySem.HandSPX.excO C t0)) (args : Args) (hbind : BindsTo ⟨hp, g, d, t, os⟩ fd args ((("self" : Str), Value.ref a) :: ps.zip vs))
    (hrest : ∀ h2 t1 tk (env : Env) (c : Code) (E : Value → Shared → Prop), env.scope = scope → env.locals = hp.objs.size → K.In h2 → (hp.objs.size : Nat) < h2.objs.size → h2.Ns hp.objs.size (fun y => ((("self" : Str), Value.ref a) :: ps.zip vs).reverse.lookup y) → (∀ b o, b ≠ a → hp.get? b = some o → h2.get? b = some o) →
      h2.get? a = some (PySem.HandSPX.excO C t1) → PySem.wpAt (model P w) (A.deeper env) c (execs rest env) (fun f s' => R (.ok (.ret (match f with | .ret v => v | _ => .none))) s') E ⟨h2, g, d, tk, os⟩) :
    codeAny (model P w) A (.call (.ref fI) args) R ⟨hp, g, d, t, os⟩ := by
  obtain ⟨oc, od, osl, dV, kV, doc, pm, an, cda, ct, cc, rfl, lk, hcd, ⟨ccl, cdd, ws, ccs, file, tf, lcd, hvs, hfile⟩, cl, cld, csl, lcc⟩ := S.ex
  obtain ⟨ar, har, hars⟩ := Z.hd
  obtain ⟨nm, q, N, bs, sn, sub, ab, col, dd, k0, k1, k2, k3, k5, hC⟩ := T.cls
  have hcl : PySem.W.clsIn K C = some { name := nm, bases := bs, mro := .ref C :: tl, ns := N, qualname := q, hasDict := true, slotNames := sn, subclasses := sub, abstract := ab, collection := col, hasDel := false } := by unfold PySem.W.clsIn; rw [hC] <;> rfl
  have zin : ∀ y ∈ ps.zip vs, y.1 ∈ ps := fun y hy => (List.of_mem_zip hy).1
  refine ks_codeAny_call_defAt (binds := (("self" : Str), Value.ref a) :: ps.zip vs) hroom (X _ _ lk) rfl hlim (PySem.W.codeRec_of X hcd) rfl hbind Z.nc (fun y hy => ?_) (fun h0 hn0 hk => ?_) Z.co Z.ge Z.ki
  · rcases List.mem_cons.mp hy with rfl | hy
    · exact Z.loc _ (List.mem_cons_self ..)
    · exact Z.loc _ (List.mem_cons_of_mem _ (zin y hy))
  have X0 : K.In h0 := X.keeps hk
  have ns_ : ∀ {L : Addr} {m : Str → Option Value}, hp.Ns L m → h0.Ns L m := fun ⟨o, es, ep, e, d, r⟩ => ⟨o, es, ep, hk _ _ e, d, r⟩
  have hn2 : h0.Ns hp.objs.size (fun y => ((("self" : Str), Value.ref a) :: ps.zip vs).reverse.lookup y) := hn0
  have lself : ((("self" : Str), Value.ref a) :: ps.zip vs).reverse.lookup ("self" : Str) = some (.ref a) := by
    rw [List.reverse_cons, List.lookup_append]
    have : (ps.zip vs).reverse.lookup ("self" : Str) = none := by
      rw [List.lookup_eq_none_iff]
      intro y hy
      have := zin y (List.mem_reverse.mp hy)
      simp only [bne_iff_ne, ne_eq, beq_eq_false_iff_ne]
      intro z
      exact hns (z ▸ this)
    rw [this]
    simp [List.lookup]
  obtain ⟨pl, hev⟩ := hev (callEnv (PySem.W.ksFn "__init__" qual params (.Expr (.Call (.Attribute (.Call (.Name "super" p0) [] [] p1) "__init__" p2) es [] p4) p5 :: rest) scope dV kV doc pm an (.ref cda) ct cc) hp.objs.size fI) rfl
  refine ks_wpAt_execs_cons (ks_wpAt_Expr_any (ks_wpAt_MethodCall (pl := pl) ?_ hev) (hint _ rfl) (hsw _ rfl))
  refine ks_wpAt_super_base Z.ns Z.nk (by decide +kernel) rfl (X0 _ _ lk) rfl har rfl (X0 _ _ lcd) rfl hvs hfile htop ?_
  refine PySem.W.ks_loadName_global Z.ki Z.ns (PySem.Calls.loadGlobal_builtin (ns_ hg) (PySem.W.mg_none_of X hg S.gs) (ns_ hb) ((hbb _ (by decide +kernel)).trans (by first | rfl | kernel_rfl)) ⟨rfl, ?_⟩)
  refine wpAny_loadName_free Z.ki Z.nk rfl ⟨_, X0 _ _ lcc, rfl⟩ ?_
  rw [hars]
  refine wpAny_loadName_local Z.ki (Z.loc _ (List.mem_cons_self ..)) hn2 lself ?_
  refine ks_wpAny_isType_cls (X0 _ _ hC) rfl ⟨rfl, ?_⟩
  have hxa := hk _ _ hx
  refine ks_wpAny_call_super (X0 _ _ hC) rfl hxa rfl (fun c e => by cases e) (PySem.W.looks_mroIn X0 S.mro) (fun h1 e1 k1 => ?_)
  have X1 : K.In h1 := X0.keeps k1
  have I1 : PySem.W.InstAt h1 a (PySem.HandSPX.excO C t0) C none := ⟨k1 _ _ hxa, rfl, rfl, trivial⟩
  have hsup : PySem.W.alongIn K "__init__" ((((Value.ref C :: tl).dropWhile (· != .ref C)).drop 1)) = some (some (.builtin initId)) := by
    have := S.sup
    unfold PySem.W.ks_superIn at this
    rw [hcl] at this
    exact this
  refine PySem.W.kxs_getMethod TB.kxs e1 (PySem.W.looks_opaque X1 S.opq) (l₀ := .ref C :: tl) (fun A Q E s k q => wpAny_bind ((PySem.W.looks_clsIn X1 hcl) A _ E s k (wpAny_pure q))) rfl X1 hsup (I1.type.andThen (PySem.W.looks_subIn X1 S.subV)) (PySem.W.ks_ne X1 I1 hcl) (by decide +kernel) ?_
  refine PySem.W.kxs_callWith (i := initId) (x := a) (u := h1.objs.size) (hpl _) ?_
  have hk1 : ∀ b o, hp.get? b = some o → h1.get? b = some o := fun b o e => k1 _ _ (hk _ _ e)
  have hn3 : h1.Ns hp.objs.size (fun y => ((("self" : Str), Value.ref a) :: ps.zip vs).reverse.lookup y) := let ⟨o, es, ep, e, d, r⟩ := hn2; ⟨o, es, ep, k1 _ _ e, d, r⟩
  have hn4 : (h1.push (PySem.W.kxs_mw initId a)).Ns hp.objs.size (fun y => ((("self" : Str), Value.ref a) :: ps.zip vs).reverse.lookup y) := let ⟨o, es, ep, e, d, r⟩ := hn3; ⟨o, es, ep, Heap.get?_push_of_some _ e, d, r⟩
  obtain ⟨ex, exs, hex⟩ := hne (callEnv (PySem.W.ksFn "__init__" qual params (.Expr (.Call (.Attribute (.Call (.Name "super" p0) [] [] p1) "__init__" p2) es [] p4) p5 :: rest) scope dV kV doc pm an (.ref cda) ct cc) hp.objs.size fI)
  rw [hex]
  refine PySem.Calls.evalArgs_plain ?_
  rw [← hex]
  refine hargs _ _ hp.objs.size _ _ _ _ rfl rfl hn4 ⟨Heap.get?_push_at rfl rfl, ?_⟩
  show wpAny _ _ (call (.ref h1.objs.size) vs) _ _ _
  have kp : ∀ b o, h1.get? b = some o → (h1.push (PySem.W.kxs_mw initId a)).get? b = some o := fun b o e => Heap.get?_push_of_some _ e
  refine call_mwE TB (kp _ _ (X1 _ _ hC)) (kp _ _ (hk1 _ _ hx)) (Heap.get?_push_at rfl rfl) (by rw [sizeLine_eq]; omega) (fun h2 t1 k2 hx2 => ?_)
  have nC : C ≠ a := fun z => by have := X _ _ hC; rw [z, hx] at this; cases this
  have hL : hp.objs.size ≠ a := Nat.ne_of_gt (Heap.lt_size hx)
  have hn5 : h2.Ns hp.objs.size (fun y => ((("self" : Str), Value.ref a) :: ps.zip vs).reverse.lookup y) := by
    obtain ⟨o, es, ep, e, d, r⟩ := hn3
    exact ⟨o, es, ep, k2 _ _ hL (kp _ _ e), d, r⟩
  have k02 : ∀ b o, b ≠ a → hp.get? b = some o → h2.get? b = some o := fun b o nb e => k2 b o nb (kp _ _ (hk1 _ _ e))
  have hsz : hp.objs.size < h2.objs.size := let ⟨o, es, ep, e, d, r⟩ := hn5; Heap.lt_size e
  exact hrest h2 t1 _ _ _ _ rfl rfl (fun b o e => k02 b o (fun z => by rw [z, haK] at e; cases e) (X _ _ e)) hsz hn5 k02 hx2
end
end Ys
namespace Ys
open PySem PySem.Spec PyProof.Rows L2
section
variable {P : Program} {w : World} {K : PySem.W.Frag} {C fI a t0 : Addr} {A : Around} {R : Result → Shared → Prop} {fd : FuncData} {hp : Heap} {g : Array GenState} {d : Drawn} {t : Nat} {os : OsState} {B newId initId : String} {tl : List Value}
variable {qual x fld : Str} {params : Arguments} {scope : Scope} {p0 p1 p2 p3 p4 p5 p6 p7 p8 p9 : Pos} {mg mb : Str → Option Value} {v : Value}
theorem run_supE (S : SupE P K C fI B initId [fld] qual params (supBody x fld p0 p1 p2 p3 p4 p5 p6 p7 p8 p9) scope fd) (Z : SupZ ["self", x] params scope) (nd : (x == ("__debug__" : Str)) = false) (ne : ("self" : Str) ≠ x) (TB : BaseE B newId initId tl) (T : OexE K C newId tl)
    (X : K.In hp) (hg : hp.Ns mainGlobals mg) (hb : hp.Ns builtinsNs mb) (hbb : ∀ y : Str, y ≠ "__name__" → mb y = bootBuiltins y) (hlim : hp.NoLimit) (hroom : A.depth < recursionLimit)
    (hev : ∀ env : Env, env.scope = scope → ∃ pl : Sem Bool, eval (.Call (.Attribute (.Call (.Name "super" p0) [] [] p1) "__init__" p2) [.Name x p3] [] p4) env = (do
      let ov ← attributeBase (.Call (.Name "super" p0) [] [] p1) "__init__" env (eval (.Call (.Name "super" p0) [] [] p1) env)
      standAt p2.atName
      let (f, first) ← holding [ov] (getMethod ov "__init__" pl)
      callWith p4 f first (backTo p4 (starEach [.Name x p3] env)) []))
    (hint : ∀ env : Env, env.scope = scope → interactive env = false) (hsw1 : ∀ env : Env, env.scope = scope → swapsWith (.Call (.Attribute (.Call (.Name "super" p0) [] [] p1) "__init__" p2) [.Name x p3] [] p4) none p5.line env = pure false)
    (hsw2 : ∀ env : Env, env.scope = scope → swapsWith (.Name x p8) (some (.Attribute (.Name "self" p6) fld p7)) p9.line env = pure false)
    (htop : (P.main.scope.names.lookup ("super" : Str)).isSome = false)
    (haK : K.lookup a = none) (hx : hp.get? a = some (PySem.HandSPX.excO C t0)) (args : Args) (hbind : BindsTo ⟨hp, g, d, t, os⟩ fd args [("self", .ref a), (x, v)])
    (hR : ∀ h' tk dx t1, (∀ b o, b ≠ a → hp.get? b = some o → h'.get? b = some o) → hp.objs.size ≤ dx → dx ≠ a → h'.get? a = some ({ cls := .ref C, dict := some dx, data := .fields #[.ref t1, .none, .none, .none, .bool false, .none] } : Obj) →
      h'.Ns1 dx (fun y => if y = fld then some v else none) → R (.ok (.ret .none)) ⟨h', g, d, tk, os⟩) :
    codeAny (model P w) A (.call (.ref fI) args) R ⟨hp, g, d, t, os⟩ := by
  have lself : ((("self" : Str), Value.ref a) :: [x].zip [v]).reverse.lookup ("self" : Str) = some (.ref a) := by
    show List.lookup ("self" : Str) [(x, v), (("self" : Str), Value.ref a)] = _
    rw [List.lookup_cons, show (("self" : Str) == x) = false from by simpa using ne]
    simp [List.lookup]
  have lx : ((("self" : Str), Value.ref a) :: [x].zip [v]).reverse.lookup x = some v := by
    show List.lookup x [(x, v), (("self" : Str), Value.ref a)] = _
    rw [List.lookup_cons]
    simp
  have nx : scope.names.lookup x = some .local := Z.loc x (by simp)
  obtain ⟨nm, q, N, bs, sn, sub, ab, col, dd, k0, k1, k2, k3, k5, hC⟩ := T.cls
  have hcl : PySem.W.clsIn K C = some { name := nm, bases := bs, mro := .ref C :: tl, ns := N, qualname := q, hasDict := true, slotNames := sn, subclasses := sub, abstract := ab, collection := col, hasDel := false } := by unfold PySem.W.clsIn; rw [hC] <;> rfl
  refine sup_first (ps := [x]) (vs := [v]) S Z TB T X hg hb hbb hlim hroom hev (fun env => rfl) (fun env => ⟨_, _, rfl⟩) hint hsw1 htop rfl (by show 1 ≤ 100; decide) (by simpa using ne) (fun env hh L A t Q E hs hf hn hq => ?_) haK hx args hbind (fun h2 t1 tk env c E hs hf X2 hsz hn k02 hx2 => ?_)
  · subst hs
    subst hf
    refine PySem.Calls.spliced_cons ?_
    show wpAny _ _ (eval (.Name x p3) _) _ _ _
    exact PySem.ESX.ldL hn lx (wpAny_pure hq) Z.ki nx nd
  · subst hs
    have hL : hp.objs.size ≠ a := Nat.ne_of_gt (Heap.lt_size hx)
    rw [← hf] at hn
    refine ks_wpAt_execs_cons (ks_wpAt_Assign_Attr (wpAt_of_wpAny (PySem.ESX.ldL hn lx (PySem.ESX.ldL hn lself ?_ Z.ki (Z.loc _ (List.mem_cons_self ..)) (by decide)) Z.ki nx nd)) (hsw2 _ rfl))
    refine PySem.W.set_plain X2 (ox := PySem.HandSPX.excO C t1) (od := none) ⟨hx2, rfl, rfl, trivial⟩ T.sa ?_
    refine storeN TB X2 hx2 hcl rfl rfl (S.no _ (List.mem_cons_self ..)) (fun h3 tk3 dx k3 hd3 ne3 hx3 hn5 => ?_)
    refine wpAt_of_wpAny (wpAny_pure ?_)
    exact hR h3 tk3 dx t1 (fun b o nb e => k3 b o nb (k02 b o nb e)) (Nat.le_trans (Nat.le_of_lt hsz) hd3) ne3 hx3 hn5
theorem ok_supE {base : Heap} {CX : CXT} (S : SupE P K C fI B initId [fld] qual params (supBody x fld p0 p1 p2 p3 p4 p5 p6 p7 p8 p9) scope fd) (Z : SupZ ["self", x] params scope) (nd : (x == ("__debug__" : Str)) = false) (ne : ("self" : Str) ≠ x) (TB : BaseE B newId initId tl) (T : OexE K C newId tl)
    (hev : ∀ env : Env, env.scope = scope → ∃ pl : Sem Bool, eval (.Call (.Attribute (.Call (.Name "super" p0) [] [] p1) "__init__" p2) [.Name x p3] [] p4) env = (do
      let ov ← attributeBase (.Call (.Name "super" p0) [] [] p1) "__init__" env (eval (.Call (.Name "super" p0) [] [] p1) env)
      standAt p2.atName
      let (f, first) ← holding [ov] (getMethod ov "__init__" pl)
      callWith p4 f first (backTo p4 (starEach [.Name x p3] env)) []))
    (hint : ∀ env : Env, env.scope = scope → interactive env = false) (hsw1 : ∀ env : Env, env.scope = scope → swapsWith (.Call (.Attribute (.Call (.Name "super" p0) [] [] p1) "__init__" p2) [.Name x p3] [] p4) none p5.line env = pure false)
    (hsw2 : ∀ env : Env, env.scope = scope → swapsWith (.Name x p8) (some (.Attribute (.Name "self" p6) fld p7)) p9.line env = pure false)
    (htop : (P.main.scope.names.lookup ("super" : Str)).isSome = false) : FnOk P w K mg base CX 1 fI fd ["self", x] (spSup K C fld) := by
  refine ⟨fun vs H Q E h => ?_, fun A outer s H args us vs Q E hr e0 hbd r hsp => ?_⟩
  · obtain ⟨a, y, rfl, _⟩ := h
    rfl
  obtain ⟨a, y, rfl, ha, q⟩ := hsp
  obtain ⟨u1, u2, rfl, r1, r2⟩ := vals2 r
  obtain rfl : u1 = Value.ref a := r1
  obtain ⟨t0, hx⟩ := exo_at e0.hok ha
  have KX : K.In s.heap := e0.mod.kin.keeps fun b o e => (e0.bs b o e).1
  have haK : K.lookup a = none := by
    cases z : K.lookup a with
    | none => rfl
    | some o =>
      have := (e0.bs _ _ (e0.mod.kin _ _ z)).2
      rw [ha] at this
      cases this
  obtain ⟨mb, hmb, hbb⟩ := e0.mod.blt
  have ns_ : ∀ {L : Addr} {m : Str → Option Value}, base.Ns L m → s.heap.Ns L m := fun ⟨o, es, ep, e, d, r⟩ => ⟨o, es, ep, (e0.bs _ _ e).1, d, r⟩
  have lim : s.heap.NoLimit := e0.mod.nolimit.keeps fun b o e => (e0.bs b o e).1
  obtain ⟨hp, g, d, t, os⟩ := s
  refine run_supE S Z nd ne TB T KX (ns_ e0.mod.glob) (ns_ hmb) hbb lim hr.depth hev hint hsw1 hsw2 htop haK hx args hbd (fun h' tk dx t1 k hd ne hx' hn => ?_)
  have nH : H dx = none := e0.hok.fresh hd
  have old : ∀ {b : Addr} {o : Obj}, hp.get? b = some o → b ≠ dx := fun e z => absurd (Heap.lt_size (z ▸ e)) (Nat.not_lt.mpr hd)
  have sep : ∀ {b : Addr}, H b = none → b ≠ a := fun n z => by rw [z, ha] at n; cases n
  refine ⟨.non, upd (upd H dx (exd dx [(fld, y)])) a (exo a C (some dx)), rfl, e0.bare, ⟨fun b o e n _ _ => k b o (sep n) e, fun b o e n _ _ => ⟨o.slots, k b o (sep n) e⟩, fun b o e n _ => ?_, fun b o e _ => ?_, fun b xs e => ?_, fun b o u e => ?_, fun b ps e => ?_⟩, fun b o e => ?_, rfl, q dx nH ne⟩
  · rw [upd_ne (sep n), upd_ne (old e)]
    exact n
  · by_cases c : b = a
    · exact ⟨_, by rw [c]; exact hx'⟩
    · exact ⟨o, k b o c e⟩
  · rw [upd_ne (at_ne ha e exo_tup), upd_ne (ne_of_none e nH)]
    exact e
  · rw [upd_ne (at_ne ha e exo_frz), upd_ne (ne_of_none e nH)]
    exact e
  · exact ⟨#[], by rw [upd_ne (at_ne ha e exo_tbl), upd_ne (ne_of_none e nH), e]; simp⟩
  · by_cases c : b = a
    · subst c
      rw [upd_same] at e
      cases e
      exact exo_ok hx'
    rw [upd_ne c] at e
    by_cases c2 : b = dx
    · subst c2
      rw [upd_same] at e
      cases e
      exact exd_ok hn (relO_put (fs := []) r2 fun _ => True.intro)
    rw [upd_ne c2] at e
    refine (e0.hok b o e).stay (fun c' v' hc z => k c' v' ?_ z) (fun c' hc => ?_) (fun c' xs hc => ?_)
    · rcases hc with hc | hc
      · rw [hc]; exact c
      · exact at_ne ha hc exo_own
    · rw [upd_ne (at_ne ha hc exo_own), upd_ne (ne_of_none hc nH)]
      exact hc
    · rw [upd_ne (at_ne ha hc exo_tup), upd_ne (ne_of_none hc nH)]
      exact hc
end
end Ys
namespace Ys
open PySem PySem.Spec PyProof.Rows L2
/-! ### an own error made as a value -/
structure MkE (P : Program) (w : World) (K : PySem.W.Frag) (mg : Str → Option Value) (base : Heap) (CX : CXT) (k : Nat) (C : Addr) (x : Str) (n : Nat) (ks : List Str) (gV : List V → List V → List V) (sp : Sp) : Prop where
  ex : ∃ f fd ps g, PySem.W.findIn K (.ref C) "__init__" = some (some (.ref f)) ∧ PySem.W.typeIn K (.ref f) = some (.type "function") ∧ FnOk P w K mg base CX k f fd ps sp ∧ mg x = some (.ref C) ∧ KBn K fd ps (n + 1) ks g gV
  cl : ∃ B newId initId tl, BaseE B newId initId tl ∧ OexE K C newId tl
section
variable {X : Cx} {CX : CXT} {k n m : Nat} {C : Addr} {x : Str} {ks : List Str} {gV : List V → List V → List V} {sp : Sp} {E : XK} {t tk : TA} {p pos : Pos} {e : Expr} {es : List Expr} {kws : List Keyword} {G H : Hp} {M : List (Addr × HO)} {σ : L2.St} {Q : VK} {vs zs : List V}
def MkEW (C : Addr) (n m : Nat) (sp : Sp) (gV : List V → List V → List V) (E : XK) (vs zs : List V) (H2 : Hp) (Q : VK) : Prop := vs.length = n ∧ zs.length = m ∧ n ≤ 1000 ∧ ∀ a, H2 a = none → sp (gV (.ref a :: vs) zs) (upd H2 a (exo a C none)) (fun v H3 => v = .non ∧ Q (.ref a) H3) E
def tMkE (C : Addr) (n m : Nat) (sp : Sp) (gV : List V → List V → List V) (E : XK) (t tk : TA) : TE := fun σ H Q => t σ H fun vs H1 => tk σ H1 fun zs H2 => MkEW C n m sp gV E vs zs H2 Q
theorem made_end {pins : List (Addr × Obj)} {s2 : Shared} {us ws : List Value} {Rr : Result → Shared → Prop} (R : MkE X.prog X.w X.K X.mg X.base CX k C x n ks gV sp) (hr : Room (k + 1) X.A) (hx : Passes CX X E) (I2 : Inv X pins σ H s2) (r : Vals vs us) (rz : Vals zs ws) (q2 : MkEW C n ks.length sp gV E vs zs H Q)
    (hok : ∀ u v H' s', Inv X pins σ H' s' → RelV v u → Q v H' → Rr (.ok (.ret u)) s') (her : ∀ e s', X.xe e s' → Rr (.error e) s') : codeAny (model X.prog X.w) X.A (.call (.ref C) ⟨us, ks.zip ws⟩) Rr s2 := by
  obtain ⟨f, fd, ps, g, iC, tI, F, hm, hb⟩ := R.ex
  obtain ⟨B, newId, initId, tl, TB, T⟩ := R.cl
  obtain ⟨nm, q, N, bs, sn, sub, ab, col, dd, k0, k1, k2, k3, k5, hC⟩ := T.cls
  obtain ⟨l1, l2, ln, q2⟩ := q2
  obtain ⟨hp, gn, dr, tk, os⟩ := s2
  have hsz : hp.objs.size ≤ hp.objs.size + 1 := Nat.le_succ _
  have hn : H (hp.objs.size + 1) = none := I2.hok.fresh hsz
  have hq := q2 (hp.objs.size + 1) hn
  have kk : ∀ b o, hp.get? b = some o → ((hp.push (PySem.W.kdv_tup us)).push (PySem.HandSPX.excO C hp.objs.size)).get? b = some o := fun b o e => Heap.get?_push_of_some _ (Heap.get?_push_of_some _ e)
  have hget : ((hp.push (PySem.W.kdv_tup us)).push (PySem.HandSPX.excO C hp.objs.size)).get? (hp.objs.size + 1) = some (PySem.HandSPX.excO C hp.objs.size) := by heap_get
  have J : Inv X pins σ (upd H (hp.objs.size + 1) (exo (hp.objs.size + 1) C none)) ⟨(hp.push (PySem.W.kdv_tup us)).push (PySem.HandSPX.excO C hp.objs.size), gn, dr, tk, os⟩ :=
    I2.laid (t' := tk) (a := hp.objs.size + 1) (o := exo (hp.objs.size + 1) C none) (h' := (hp.push (PySem.W.kdv_tup us)).push (PySem.HandSPX.excO C hp.objs.size)) kk hsz (exo_ok hget)
  have ra : Vals (V.ref (hp.objs.size + 1) :: vs) (Value.ref (hp.objs.size + 1) :: us) := .cons rfl r
  have na : (Value.ref (hp.objs.size + 1) :: us).length = n + 1 := by rw [List.length_cons, ← r.length, l1]
  have hus : us.length ≤ sizeLine := by
    rw [← r.length, l1, sizeLine_eq]
    omega
  refine callE TB.base (I2.kIn _ _ hC) (PySem.W.looks_findIn I2.kIn iC) (fun self => PySem.W.bind_fn I2.kIn self tI) hus
    (codeAny_mono (F.run _ X.stack _ _ ⟨Value.ref (hp.objs.size + 1) :: us, ks.zip ws⟩ (g (Value.ref (hp.objs.size + 1) :: us) ws) _ _ E (hr.make C us (ks.zip ws)) (J.env0.make C us (ks.zip ws))
      (hb.to _ _ ws J.kIn na (rz.length.symm.trans l2)) (hb.rel ra rz) hq) fun rr s' hz => ?_)
  match rr, hz with
  | .error er, hz => exact her er s' (hx pins σ _ _ er s' J hz)
  | .ok (.ret u), hz =>
    obtain ⟨v, H', I3, rv, ev, q3⟩ := J.after hz
    subst ev
    exact ⟨rv, hok _ (V.ref (hp.objs.size + 1)) H' s' I3 rfl q3⟩
  | .ok .next, hz => exact hz.elim
  | .ok .brk, hz => exact hz.elim
  | .ok .cont, hz => exact hz.elim
theorem pe_mkE (R : MkE X.prog X.w X.K X.mg X.base CX k C x n ks gV sp) (hr : Room (k + 1) X.A) (hg : Gl X x) (hx : Passes CX X E) (ha : PA X (e :: es) t) (hkw : PK X kws tk)
    (hall : (backToKw pos (keywordEach kws X.env)).all (·.1.isSome) = true := by rfl) (hks : (backToKw pos (keywordEach kws X.env)).filterMap (·.1) = ks := by rfl) (hdb : (x == ("__debug__" : Str)) = false := by decide)
    (he : starEach (e :: es) X.env = (false, eval e X.env) :: starEach es X.env := by rfl) (hpl : ((backTo pos (starEach (e :: es) X.env)).any (·.1) || (backToKw pos (keywordEach kws X.env)).any (·.1.isNone)) = false := by rfl) :
    PE X (.Call (.Name x p) (e :: es) kws pos) (tMkE C n ks.length sp gV E t tk) := by
  have R0 := R
  obtain ⟨f, fd, ps, g, iC, tI, F, hm, hb⟩ := R.ex
  obtain ⟨B, newId, initId, tl, TB, T⟩ := R.cl
  refine ⟨fun pins s σ H Q I h => wpAny_Call_Name_kw (ld_glob I hg hm ?_ hdb)⟩
  refine PySem.W.callWith_KW (h₀ := X.base) I.ok.mod.kin T.kC hall (thn (ha.run pos pins s σ H _ I h) fun us s1 ⟨vs, H1, I1, r, q⟩ => ?_) hpl he
  refine thn (hkw.run pos pins s1 σ H1 _ I1 q) fun ws s2 ⟨zs, H2, I2, rz, l1, l2, q2⟩ => ⟨I2.kIn, ?_⟩
  rw [hks]
  exact wpAny_call (made_end R0 hr hx I2 r rz ⟨l1, l2, q2⟩ (fun u v H' s' I3 rv q3 => ⟨v, H', I3, rv, q3⟩) fun er s' z => z)
theorem pe_mkE0 (R : MkE X.prog X.w X.K X.mg X.base CX k C x 0 ks gV sp) (hr : Room (k + 1) X.A) (hg : Gl X x) (hx : Passes CX X E) (hkw : PK X kws tk)
    (hall : (backToKw pos (keywordEach kws X.env)).all (·.1.isSome) = true := by rfl) (hks : (backToKw pos (keywordEach kws X.env)).filterMap (·.1) = ks := by rfl) (hdb : (x == ("__debug__" : Str)) = false := by decide)
    (hpl : ((backTo pos (starEach [] X.env)).any (·.1) || (backToKw pos (keywordEach kws X.env)).any (·.1.isNone)) = false := by rfl) : PE X (.Call (.Name x p) [] kws pos) (tMkE C 0 ks.length sp gV E tNil tk) := by
  have R0 := R
  obtain ⟨f, fd, ps, g, iC, tI, F, hm, hb⟩ := R.ex
  obtain ⟨B, newId, initId, tl, TB, T⟩ := R.cl
  refine ⟨fun pins s σ H Q I h => wpAny_Call_Name_kw (ld_glob I hg hm ?_ hdb)⟩
  refine PySem.W.callWith_KW0 (h₀ := X.base) I.ok.mod.kin T.kC hall ?_ hpl
  refine thn (hkw.run pos pins s σ H _ I h) fun ws s2 ⟨zs, H2, I2, rz, l1, l2, q2⟩ => ⟨I2.kIn, ?_⟩
  rw [hks]
  exact wpAny_call (made_end (us := []) (vs := []) R0 hr hx I2 .nil rz ⟨l1, l2, q2⟩ (fun u v H' s' I3 rv q3 => ⟨v, H', I3, rv, q3⟩) fun er s' z => z)
theorem z_mkE (h : t σ H fun vs H1 => tk σ H1 fun zs H2 => MkEW C n m sp gV E vs zs H2 Q) : tMkE C n m sp gV E t tk σ H Q := h
theorem z_mkEI (z : Zp G M H) (l1 : vs.length = n) (l2 : zs.length = m) (ln : n ≤ 1000) (q : ∀ a, H a = none → sp (gV (.ref a :: vs) zs) (upd H a (exo a C none)) (fun v H3 => v = .non ∧ Q (.ref a) H3) E) : MkEW C n m sp gV E vs zs H Q := ⟨l1, l2, ln, q⟩
theorem z_mkE1 {fld : Str} {K : PySem.W.Frag} {y : V} (z : Zp G M H) (hg : gV (.ref (0 : Addr) :: vs) zs = [.ref (0 : Addr), y]) (hgv : ∀ a : Addr, gV (.ref a :: vs) zs = [.ref a, y]) (l1 : vs.length = n) (l2 : zs.length = m) (ln : n ≤ 1000)
    (q : ∀ a dx G1 H1, Zp G1 M H1 → Same G G1 → G1 a = some (exo a C (some dx)) → G1 dx = some (exd dx [(fld, y)]) → Q (.ref a) H1) : MkEW C n m (spSup K C fld) gV E vs zs H Q := by
  refine ⟨l1, l2, ln, fun a ha => ?_⟩
  refine ⟨a, y, hgv a, upd_same, fun dx hdx ne => ⟨rfl, ?_⟩⟩
  have hdx0 : H dx = none := by rw [upd_ne ne] at hdx; exact hdx
  have e1 : upd (upd (upd H a (exo a C none)) dx (exd dx [(fld, y)])) a (exo a C (some dx)) = upd (upd H dx (exd dx [(fld, y)])) a (exo a C (some dx)) := by
    funext b
    by_cases c : b = a
    · rw [c, upd_same, upd_same]
    · rw [upd_ne c, upd_ne c]
      by_cases c2 : b = dx
      · rw [c2, upd_same, upd_same]
      · rw [upd_ne c2, upd_ne c2, upd_ne c]
  rw [e1]
  have ha2 : upd H dx (exd dx [(fld, y)]) a = none := by rw [upd_ne (Ne.symm ne)]; exact ha
  have z1 := z.new hdx0 (exd dx [(fld, y)])
  have z2 := z1.new ha2 (exo a C (some dx))
  refine q a dx _ _ z2 ((Same.new (z.free hdx0)).trans (Same.new (z1.free ha2))) upd_same ?_
  rw [upd_ne ne, upd_same]
end
end Ys
namespace Ys
open PySem PySem.Spec PyProof.Rows L2
/-! ### what is asked of an error that is held as a value -/
def ErrAt (H : Hp) (a C : Addr) (fs : List (Str × V)) : Prop := ∃ dd, H a = some (exo a C (some dd)) ∧ H dd = some (exd dd fs)
theorem ErrAt.up {H H1 : Hp} {a C : Addr} {fs : List (Str × V)} (s : Same H H1) (h : ErrAt H a C fs) : ErrAt H1 a C fs := let ⟨dd, h1, h2⟩ := h; ⟨dd, s _ _ h1, s _ _ h2⟩
def rIsV (K : PySem.W.Frag) : List V → Hp → VK → Prop := fun xs H Q => ∃ (a C : Addr) (c : V) (cv : Value) (b : Bool), xs = [.ref a, c] ∧ ClsV c cv ∧ ExcC K C ∧ PySem.W.kitOne K (.ref C) cv = some b ∧ ((∃ fs, ErrAt H a C fs) ∨ H a = some (exo a C none)) ∧ Q (.bl b) H
section
variable {X : Cx} {K : PySem.W.Frag} {G H : Hp} {M : List (Addr × HO)} {σ : L2.St} {Q : VK}
theorem call_isV : CallR X (.builtin "isinstance") (rIsV X.K) := by
  intro pins s σ H xs us Q I r ⟨a, C, c, cv, b, e1, hc, T, e2, he, q⟩
  subst e1
  obtain ⟨u1, u2, rfl, r1, r2⟩ := vals2 r
  obtain rfl : u1 = Value.ref a := r1
  obtain rfl := hc.eq r2
  rcases he with ⟨fs, dd, h1, h2⟩ | h1
  · obtain ⟨t1, ho⟩ := exo_at I.hok h1
    obtain ⟨mA, hns, _⟩ := exd_at I.hok h2
    obtain ⟨od, hod, _⟩ := lookIn_ns hns
    have J : PySem.W.InstAt s.heap a { cls := .ref C, dict := some dd, data := .fields #[.ref t1, .none, .none, .none, .bool false, .none] } C (some od) := ⟨ho, rfl, rfl, hod⟩
    exact PySem.W.kia_one (kitx_exc T) I.kIn J e2 (fun z => nomatch z) fun tk => ⟨.bl b, H, I.kept (t' := tk) fun _ _ z => z, rfl, q⟩
  · obtain ⟨t1, ho⟩ := exo_at I.hok h1
    have J : PySem.W.InstAt s.heap a { cls := .ref C, dict := none, data := .fields #[.ref t1, .none, .none, .none, .bool false, .none] } C none := ⟨ho, rfl, rfl, trivial⟩
    exact PySem.W.kia_one (kitx_exc T) I.kIn J e2 (fun z => nomatch z) fun tk => ⟨.bl b, H, I.kept (t' := tk) fun _ _ z => z, rfl, q⟩
theorem k_isV (e : X.K = K := by rfl) : CallR X (.builtin "isinstance") (fun xs H Q => rIsiG K xs H Q ∨ rIsV K xs H Q) := e ▸ CallR.or c_isi call_isV
theorem z_isV {a C : Addr} {c : V} {cv : Value} {b : Bool} {fs : List (Str × V)} (z : Zp G M H) (hc : ClsV c cv) (T : ExcC K C) (e : PySem.W.kitOne K (.ref C) cv = some b) (h : ErrAt G a C fs) (q : Q (.bl b) H) : rIsiG K [.ref a, c] H Q ∨ rIsV K [.ref a, c] H Q :=
  .inr ⟨a, C, c, cv, b, rfl, hc, T, e, .inl ⟨fs, let ⟨dd, h1, h2⟩ := h; ⟨dd, z.sub _ _ h1, z.sub _ _ h2⟩⟩, q⟩
def EfW (K : PySem.W.Frag) (f : Str) (x : V) (H1 : Hp) (Q : VK) : Prop := ∃ (a C : Addr) (fs : List (Str × V)) (v : V), x = .ref a ∧ XfC K C ∧ PySem.W.findIn K (.ref C) f = some none ∧ ErrAt H1 a C fs ∧ fs.lookup f = some v ∧ Q v H1
def tEf (K : PySem.W.Frag) (f : Str) (te : TE) : TE := fun σ H Q => te σ H fun x H1 => EfW K f x H1 Q
theorem pe_ef {e : Expr} {te : TE} {pos : Pos} {f : Str} (he : PE X e te) (hb : attributeBase e f X.env (eval e X.env) = eval e X.env) (hK : X.K = K := by rfl) : PE X (.Attribute e f pos) (tEf K f te) := by
  subst hK
  refine ⟨fun pins s σ H Q I h => ?_⟩
  refine attr_of hb (thn (he.run pins s σ H _ I h) fun u s1 hh => ?_)
  obtain ⟨x, H1, I1, rx, a, C, fs, v, ex, T, no, ⟨dd, h1, h2⟩, l, q⟩ := hh
  subst ex
  obtain rfl : u = Value.ref a := rx
  obtain ⟨t1, ho⟩ := exo_at I1.hok h1
  obtain ⟨mA, hns, hr⟩ := exd_at I1.hok h2
  obtain ⟨od, hod, hl⟩ := lookIn_ns hns
  obtain ⟨u, hu, ru⟩ := RelO.some_of (v := v) (o := mA f) (by rw [← l]; exact hr f)
  have J : PySem.W.InstAt s1.heap a { cls := .ref C, dict := some dd, data := .fields #[.ref t1, .none, .none, .none, .bool false, .none] } C (some od) := ⟨ho, rfl, rfl, hod⟩
  exact HandSPX.exc_get I1.kIn J T.ga T.gg T.exC (PySem.W.findObj_own T.hdC no rfl (by rw [hl, hu])) (handed_of ru) ⟨v, H1, I1.tok _, ru, q⟩
theorem z_ef {te : TE} {f : Str} (h : te σ H fun x H1 => EfW K f x H1 Q) : tEf K f te σ H Q := h
theorem z_efI {a C : Addr} {fs : List (Str × V)} {v : V} {f : Str} (z : Zp G M H) (T : XfC K C) (no : PySem.W.findIn K (.ref C) f = some none) (h : ErrAt G a C fs) (l : fs.lookup f = some v) (q : Q v H) : EfW K f (.ref a) H Q :=
  ⟨a, C, fs, v, rfl, T, no, let ⟨dd, h1, h2⟩ := h; ⟨dd, z.sub _ _ h1, z.sub _ _ h2⟩, l, q⟩
end
end Ys
namespace Ys
open PySem PySem.Spec PyProof.Rows L2
/-! ### a def that asks repr, called by one that may -/
structure OwnG (P : Program) (w : World) (K : PySem.W.Frag) (mg : Str → Option Value) (base : Heap) (CX : CXT) (k : Nat) (x : Str) (ps : List Str) (sp : Sp) : Prop where
  ex : ∃ f fd, FnG P w K mg base CX k f fd ps sp ∧ mg x = some (.ref f) ∧ PySem.W.keepIn K (.ref f) = true ∧ Binds K fd ps []
theorem pe_ownG {X : Cx} {CX : CXT} {k : Nat} {x : Str} {ps : List Str} {sp : Sp} {E : XK} {p pos : Pos} {e : Expr} {es : List Expr} {t : TA} (C : OwnG X.prog X.w X.K X.mg X.base CX k x ps sp) (hgu : X.A.guards = some []) (hr : Room k X.A) (hg : Gl X x) (hx : Passes CX X E) (ha : PA X (e :: es) t)
    (hdb : (x == ("__debug__" : Str)) = false := by decide) (he : starEach (e :: es) X.env = (false, eval e X.env) :: starEach es X.env := by rfl) (hpl : (backTo pos (starEach es X.env)).any (·.1) = false := by rfl) :
    PE X (.Call (.Name x p) (e :: es) [] pos) (tCall sp [] E t) := by
  obtain ⟨f, fd, F, hm, hk, hb⟩ := C.ex
  refine ⟨fun pins s σ H Q I h => wpAny_Call_Name_kw (ld_glob I hg hm ?_ hdb)⟩
  refine PySem.W.callWith_K (h₀ := X.base) I.ok.mod.kin hk (thn (ha.run pos pins s σ H _ I h) fun us s1 ⟨vs, H1, I1, r, q⟩ => ⟨I1.kIn, ?_⟩) he hpl
  have r2 : Vals (vs ++ []) (us ++ []) := r.append .nil
  have hl : (us ++ []).length = ps.length := by rw [← r2.length]; exact F.len _ _ _ _ q
  refine wpAny_call (codeAny_mono (F.run X.A X.stack s1 H1 ⟨us, []⟩ (us ++ []) (vs ++ []) Q E hgu hr I1.env0 (hb s1 us I1.kIn hl) r2 q) fun rr s' hq => ?_)
  match rr, hq with
  | .error er, hq => exact hx pins σ H1 s1 er s' I1 hq
  | .ok (.ret u), hq => exact I1.after hq
  | .ok .next, hq => exact hq.elim
  | .ok .brk, hq => exact hq.elim
  | .ok .cont, hq => exact hq.elim
/-! ### an own error without an own __init__, made of nothing -/
def tNew0 (C : Addr) : TE := fun _ H Q => ∀ a, H a = none → Q (.ref a) (upd H a (exo a C none))
theorem pe_exc0 {X : Cx} {C : Addr} {bmB : List Value} {B newId initId : String} {x : Str} {p pos : Pos} (F : ExcBaseFacts B newId initId bmB) (q : PySem.W.excIn X.K C bmB newId = true) (gC : X.mg x = some (.ref C)) (kC : PySem.W.keepIn X.K (.ref C) = true) (hg : Gl X x)
    (hdb : (x == ("__debug__" : Str)) = false := by decide) : PE X (.Call (.Name x p) [] [] pos) (tNew0 C) := by
  refine ⟨fun pins s σ H Q I h => wpAny_Call_Name_kw (ld_glob I hg gC ?_ hdb)⟩
  refine PySem.W.callWith_K0 I.kIn kC ?_
  obtain ⟨bm, N, nm, qn, bs, hdct, sn, sub, ab, col, dd, k0, k1, k2, k3, k5, mN, hC, hN, hni, T⟩ := exc_obj I.kIn q
  refine wpAny_call_exc_subT F T hC hN hni (fun h' a hm => ?_) (by show 0 ≤ sizeLine; exact Nat.zero_le _)
  have hn : H a = none := I.hok.gone hm.new
  obtain ⟨t, ht, _, _⟩ := hm.there
  exact ⟨.ref a, upd H a (exo a C none), I.laidN hm.keeps hm.new hn (exo_ok ht), rfl, h a hn⟩
theorem z_new0 {C : Addr} {G H : Hp} {M : List (Addr × HO)} {σ : L2.St} {Q : VK} (z : Zp G M H) (q : ∀ a G1 H1, Zp G1 M H1 → Same G G1 → G1 a = some (exo a C none) → Q (.ref a) H1) : tNew0 C σ H Q :=
  fun a ha => q a _ _ (z.new ha _) (Same.new (z.free ha)) upd_same
end Ys
/-! own items, own setters, == of kept dicts -/
namespace Ys
open PySem PySem.Spec PyProof.Rows L2
section
variable {X : Cx} {CX : CXT} {n : Nat} {C f : Addr} {fd : FuncData} {ps : List Str} {sp : Sp} {E : XK} {a b : Expr} {ta tb tv : TE} {pos pos' : Pos} {o value : Expr}
/-! ### x[y], by the class's own -/
def rItI (C : Addr) (sp : Sp) (E : XK) : R2 := fun x y H Q => ∃ a dx fs, x = .ref a ∧ H a = some (.ins C dx fs) ∧ sp [x, y] H Q E
theorem pe_itI (F : FnOk X.prog X.w X.K X.mg X.base CX n f fd ps sp) (ha : PE X a ta) (hb : PE X b tb) (hs : PySem.W.findIn X.K (.ref C) "__getitem__" = some (some (.ref f))) (hf : PySem.W.fnIn X.K f = true) (hfn : PySem.W.isFn X.K (.ref f) = true) (hbd : Binds X.K fd ps []) (hx : Passes CX X E) (hr : Room (n + 1) X.A)
    (hsl : ∀ c i, subscripted b true (.ref c) i = runValue (.builtin "lifetime.subscript" ⟨[.ref c, i], []⟩) := by intro c i; with_unfolding_all rfl) : PE X (.Subscript a b pos) (tOp (rItI C sp E) ta tb) := by
  refine ⟨fun pins s σ H Q I h => ?_⟩
  refine Subscript_ (binT ha hb I h fun v u s2 x y H2 I2 rx ry q => ?_)
  obtain ⟨c, dx, fs, rfl, ea, q⟩ := q
  cases rx
  obtain ⟨mA, J, _⟩ := ins_get I2.hok ea
  obtain ⟨od, J, _⟩ := J.look
  obtain ⟨m, hF⟩ := I2.fr
  refine PySem.W.sub_K hF I2.ok.mod.kin J hs hf hfn ?_ (hsl _ _)
  have hl := F.len _ _ _ _ q
  refine wpAny_call (codeAny_mono (F.run X.A.in1 X.stack s2 H2 ⟨[.ref c, u], []⟩ [.ref c, u] [.ref c, y] _ E hr.in1 I2.env0.in1 (by
    have := hbd s2 [.ref c, u] I2.kIn (by simpa using hl)
    simpa using this) (.cons rfl (.cons ry .nil)) q) fun r s' hq => ?_)
  cases r with
  | error e => exact hx pins σ H2 s2 e s' I2 hq
  | ok fl =>
    cases fl with
    | ret w => exact I2.after hq
    | next => exact False.elim hq
    | brk => exact False.elim hq
    | cont => exact False.elim hq
/-! ### x.f = y, f a property with a setter -/
structure PropSet (K : PySem.W.Frag) (C : Addr) (nm : Str) (g : Addr) : Prop where
  ex : ∃ p a rest, PySem.W.takerIn K C nm = some (some (.ref p)) ∧ PySem.W.typeIn K (.ref p) = some (.type "property") ∧ PySem.W.recIn K p "property" = some (a :: .ref g :: rest)
def sPset (C : Addr) (sp : Sp) (E : XK) (ta tv : TE) : TS := fun D σ H => tv σ H fun y H1 => ta σ H1 fun x H2 => ∃ c dx fs, x = .ref c ∧ H2 c = some (.ins C dx fs) ∧ sp [x, y] H2 (fun _ H3 => D.nx σ H3) E
theorem ps_pset {nm : Str} (F : FnOk X.prog X.w X.K X.mg X.base CX n f fd ps sp) (ha : PE X o ta) (hv : PE X value tv) (c : Cls X.K C) (hp : PropSet X.K C nm f) (hbd : Binds X.K fd ps []) (hx : Passes CX X E) (hr : Room (n + 2) X.A)
    (hs : swapsWith value (some (.Attribute o nm pos')) pos.line X.env = pure false) : PS X (.Assign [.Attribute o nm pos'] value pos) (sPset C sp E ta tv) := by
  refine ⟨fun pins s σ H D I h => ?_⟩
  refine plainObj_wpAny_Assign_Attribute (thn (hv.run pins s σ H _ I h) fun u s1 ⟨y, H1, I1, ry, q⟩ => thn (ha.run pins s1 σ H1 _ I1 q) fun ov s2 ⟨x, H2, I2, rx, k, dx, fs, ex, ea, q2⟩ => ?_) hs
  subst ex
  obtain rfl : ov = Value.ref k := rx
  obtain ⟨mA, J, _⟩ := ins_get I2.hok ea
  obtain ⟨od, J, _⟩ := J.look
  obtain ⟨m, hF⟩ := I2.fr
  obtain ⟨p, a0, rest, h1, h2, h3⟩ := hp.ex
  have I3 := I2.tok (s2.toks + 1)
  refine PySem.W.set_prop hF I2.ok.mod.kin J c.sa c.po h1 h2 h3 ?_
  have hl := F.len _ _ _ _ q2
  refine codeAny_mono (F.run X.A.in1.in1 X.stack _ H2 ⟨[.ref k, u], []⟩ [.ref k, u] [.ref k, y] _ E hr.in1.in1 I3.env0.in1.in1 (by
    have := hbd _ [.ref k, u] I3.kIn (by simpa using hl)
    simpa using this) (.cons rfl (.cons ry .nil)) q2) fun r s' hq => ?_
  cases r with
  | error e => exact hx pins σ H2 _ e s' I3 hq
  | ok fl =>
    cases fl with
    | ret w =>
      obtain ⟨v, H4, I4, _, q4⟩ := I3.after hq
      exact ⟨σ, H4, I4, q4⟩
    | next => exact False.elim hq
    | brk => exact False.elim hq
    | cont => exact False.elim hq
end
end Ys
namespace PySem.W
open Lean Elab Tactic Meta PySem PySem.Calls PyProof.Rows PyProof.V PySem.Spec
section
variable {prog : Program} {w : World} {K : Type} [DecidableEq K] {knd : KeyKind prog w K} {A : Around} {E : Value → Shared → Prop} {s : Shared}
theorem samePairsG {nm : String} {a b : Addr} {ka kb : List (K × Value)} {Q : Bool → Shared → Prop} (I : Shared → Prop) (ha : (a == sysModules) = false) (hb : (b == sysModules) = false)
    (da : s.heap.DictOf knd a ka) (db : s.heap.DictOf knd b kb) (same : ∀ s', I s' → s'.heap.get? a = s.heap.get? a ∧ s'.heap.get? b = s.heap.get? b) (hl : ka.length = kb.length)
    (turn : ∀ (i : Nat) (k : K) (v : Value) s', ka[i]? = some (k, v) → I s' → ∃ y, valueAt kb k = some y ∧ wpAny (model prog w) A (eqBool v y) (fun r s2 => r = true ∧ I s2) E s') (h0 : I s) (h : ∀ s', I s' → Q true s') :
    wpAny (model prog w) A (Builtin.Dict.samePairs nm a b) Q E s := by
  obtain ⟨oa, es, ep, hoa, _, hda, hka, hpa, _⟩ := da
  obtain ⟨ob, es', ep', hob, _, hdb, hkb, hpb, _⟩ := db
  have hla : ka.length = es.size := by rw [← hpa.length]; exact Array.length_toList
  have hlb : kb.length = es'.size := by rw [← hpb.length]; exact Array.length_toList
  have hfind : ∀ k, findBy knd.is es' k = valueAt kb k := fun k => by
    rw [← hpb.find k]
    clear hlb hpb hkb hdb hob same
    obtain ⟨l⟩ := es'
    simp [findBy]
  have hsz : es.size = es'.size := by omega
  unfold Builtin.Dict.samePairs Builtin.Dict.showsAll
  rw [if_neg (show ¬ (a == sysModules) = true by rw [ha]; exact Bool.false_ne_true), if_neg (show ¬ (b == sysModules) = true by rw [hb]; exact Bool.false_ne_true)]
  refine wpAny_bind (wpAny_pure (wpAny_bind (wpAny_pure ?_)))
  refine wpAny_bind (wpAny_dictEntries hoa hda ?_)
  dsimp only
  refine wpAny_bind (wpAny_dictEntries hob hdb ?_)
  rw [if_neg (by rw [hsz]; simp)]
  refine wpAny_bind (wpAny_dictEpoch hoa hda ?_)
  refine wpAny_bind ?_
  rw [Std.Legacy.Range.forIn_eq_forIn_range']
  simp only [Std.Legacy.Range.size, Nat.sub_zero, Nat.add_sub_cancel, Nat.div_one]
  refine wpAny_forIn_list _
    (fun rest q s' => I s' ∧ q = (none, ()) ∧ ∃ i, rest = List.range' i (es.size - i) ∧ i ≤ es.size)
    _ ?_ ?_ _ _ ⟨h0, rfl, 0, by simp, Nat.zero_le _⟩
  · rintro x rest q s' ⟨hI, rfl, i, hr, hi⟩
    obtain ⟨sa, sb⟩ := same s' hI
    have hoa' := sa.trans hoa
    have hob' := sb.trans hob
    have hlt : i < es.size := by
      rcases Nat.lt_or_ge i es.size with h | h
      · exact h
      · rw [Nat.sub_eq_zero_of_le h] at hr; simp at hr
    obtain ⟨rfl, hrest⟩ : x = i ∧ rest = List.range' (i + 1) (es.size - (i + 1)) := by
      have e : es.size - i = (es.size - (i + 1)) + 1 := by omega
      rw [e, List.range'_succ] at hr
      injection hr with h1 h2
      exact ⟨h1, h2⟩
    refine wpAny_bind (wpAny_dictEntries hoa' hda ?_)
    rw [Array.getElem?_eq_getElem hlt]
    have hlt' : x < ka.length := by rw [hla]; exact hlt
    obtain ⟨k, v, hkv⟩ : ∃ k v, ka[x] = (k, v) := ⟨_, _, rfl⟩
    have hkx : ka[x]? = some (k, v) := by rw [List.getElem?_eq_getElem hlt', hkv]
    obtain ⟨hkey, hval⟩ := hpa.get? (i := x) (e := es[x]) (k := k) (v := v) (by rw [Array.getElem?_toList]; exact Array.getElem?_eq_getElem hlt) hkx
    obtain ⟨k', hk', hh⟩ := hka es[x] (Array.getElem_mem hlt)
    have ekk : k' = k := knd.inj _ _ _ hk' hkey
    rw [ekk] at hh
    obtain ⟨y, hy, he⟩ := turn x k v s' hkx hI
    show wpAny _ _ (holding [es[x].key, es[x].val] _ >>= _) _ _ _
    rw [hh]
    refine wpAny_bind (wpAny_holding (wpAny_bind (wpAny_dictFind_of hkey hob' hdb hkb ?_)))
    cases hj : es'.findIdx? fun e => knd.is k e.key with
    | none =>
      have hn : valueAt kb k = none := by rw [← hfind k, findBy_of_findIdx?, hj]
      rw [hn] at hy; exact nomatch hy
    | some j =>
      obtain ⟨hjlt, _, _⟩ := Array.findIdx?_eq_some_iff_getElem.mp hj
      have hv' : valueAt kb k = some es'[j].val := by
        rw [← hfind k, findBy_of_findIdx?, hj]
        simp [Array.getElem?_eq_getElem hjlt]
      refine wpAny_bind (wpAny_dictEntries hob' hdb ?_)
      rw [Array.getElem?_eq_getElem hjlt]
      have ey : es'[j].val = y := Option.some.inj (hv'.symm.trans hy)
      rw [← ey, ← hval] at he
      refine wpAny_holding (wpAny_mono he (fun r s2 z => ?_) fun _ _ z => z)
      obtain ⟨rfl, hI2⟩ := z
      show wpAny _ _ (if (!true) = true then _ else _) _ _ _
      rw [if_neg (by decide)]
      refine wpAny_bind (wpAny_dictEpoch ((same s2 hI2).1.trans hoa) hda ?_)
      rw [if_neg (by simp)]
      exact wpAny_pure ⟨hI2, rfl, x + 1, hrest, hlt⟩
  · rintro q s' ⟨hI, rfl, i, hr, hi⟩
    exact wpAny_pure (h s' hI)
theorem rcG_dicts {a b : Addr} {ka kb : List (K × Value)} {Q : Value → Shared → Prop} (I : Shared → Prop) (ha : (a == sysModules) = false) (hb : (b == sysModules) = false)
    (da : s.heap.DictOf knd a ka) (db : s.heap.DictOf knd b kb) (same : ∀ s', I s' → s'.heap.get? a = s.heap.get? a ∧ s'.heap.get? b = s.heap.get? b) (hl : ka.length = kb.length) (hu : A.units < cLine)
    (turn : ∀ (i : Nat) (k : K) (v : Value) s', ka[i]? = some (k, v) → I s' → ∃ y, valueAt kb k = some y ∧ wpAny (model prog w) A.in1 (eqBool v y) (fun r s2 => r = true ∧ I s2) E s') (h0 : I s) (h : ∀ s', I s' → Q (.bool true) s') : wpAny (model prog w) A (richCompare .Eq (.ref a) (.ref b)) Q E s := by
  refine wpAny_richCompare_same_room (op := .Eq) da.typeIs db.typeIs PySem.F.slot_dict_eq (GQ.call_here PySem.F.slot_dict_eq da.typeIs PySem.F.entry_dict_eq (PySem.F.args_dict_eq_2 _ _) ?_) hu
  show wpAny _ _ (Builtin.Dict.dictSlotArgs "__eq__" ⟨[.ref a, .ref b], []⟩ >>= _) _ _ s
  refine wpAny_bind ?_
  unfold Builtin.Dict.dictSlotArgs
  refine wpAny_bind (wpAny_notOrdered_dict da.typeIs ?_)
  show wpAny _ _ (pure (Value.ref a, Value.ref b)) _ _ s
  refine wpAny_pure ?_
  refine wpAny_bind (wpAny_isInstance (T := "dict") db.typeIs PySem.F.sub_dict_dict ?_)
  simp only [Bool.not_true, Bool.false_eq_true, if_false]
  refine wpAny_bind (wpAny_pure (wpAny_bind (wpAny_pure ?_)))
  refine wpAny_bind (samePairsG I ha hb da db same hl (fun i k v s' e hI => ?_) h0 fun s' hI => ?_)
  · obtain ⟨y, hy, he⟩ := turn i k v s' e hI
    refine ⟨y, hy, wpAny_mono he (fun _ _ z => z) fun _ _ z => ?_⟩
    exact z
  · refine wpAny_pure ⟨?_, ?_⟩
    · exact fun x => nomatch x
    · simpa using h s' hI
end
end PySem.W
namespace Ys
open PySem PySem.Spec PyProof.Rows L2
/-! ### == of kept dicts whose values have an == of their own -/
section
variable {X : Cx} {n m : Nat} {D D' : Eqv} {K : PySem.W.Frag}
def DSame : Eqv := fun x y _ => ∃ a, x = .ref a ∧ y = .ref a
theorem mon_same : Mon DSame := fun _ _ _ _ _ d => d
theorem eqG_same : EqG X 0 DSame := by
  intro A pins s σ H x y u v sb I rx ry d
  obtain ⟨a, rfl, rfl⟩ := d
  cases rx
  cases ry
  exact SeqAt.EqAt.same (A := A) (s := s) (.ref a) X.prog X.w X.xe _ ⟨rfl, H, I, Ext.rfl'⟩
def DData (K : PySem.W.Frag) : Eqv := fun x y H => ∃ d, Dp K H x d ∧ Dp K H y d ∧ SeqAt.shaped d = true ∧ PyData.eqv d d = true
mutual
theorem dp_ext {H H' : Hp} (e : Ext H H') : ∀ (d : PyData) (v : V), Dp K H v d → Dp K H' v d
  | .none, _, h => by cases h; exact .non
  | .bool b, _, h => by cases h; exact .bl b
  | .int i, _, h => by cases h; exact .int i
  | .str x, _, h => by cases h; exact .str x
  | .list ds, _, h => by
    cases h with
    | lst hs ha => exact .lst (hs.ext e) (dpAll_ext e ds _ ha)
  | .tuple ds, _, h => by
    cases h with
    | tup hs ha => exact .tup (hs.ext e) (dpAll_ext e ds _ ha)
  | .dict _, _, h => by cases h
theorem dpAll_ext {H H' : Hp} (e : Ext H H') : ∀ (ds : List PyData) (vs : List V), DpAll K H vs ds → DpAll K H' vs ds
  | [], _, h => by cases h; exact .nil
  | d :: ds, _, h => by
    cases h with
    | cons h1 h2 => exact .cons (dp_ext e d _ h1) (dpAll_ext e ds _ h2)
end
theorem mon_data : Mon (DData K) := fun x y H H' e ⟨d, h1, h2, h3⟩ => ⟨d, dp_ext e d x h1, dp_ext e d y h2, h3⟩
theorem eqG_data : EqG X 0 (DData X.K) := by
  intro A pins s σ H x y u v sb I rx ry ⟨d, h1, h2, h3, h4⟩
  obtain ⟨as, r1⟩ := Dp.reads I d x u h1 rx
  obtain ⟨bs, r2⟩ := Dp.reads I d y v h2 ry
  have hu := sb.room.un
  have := SeqAt.eqAt_reads d d A s u v as bs r1 r2 (SeqAt.canLay_of_shaped h3) (SeqAt.canLay_of_shaped h3) (SeqAt.room_of_shaped h3 (by omega))
  rw [h4] at this
  exact this X.prog X.w X.xe _ ⟨rfl, H, I, Ext.rfl'⟩
def DDict (D : Eqv) : Eqv := fun x y H => ∃ a b oa ob ks ls, x = .ref a ∧ y = .ref b ∧ H a = some (.frz oa (.dK ks)) ∧ H b = some (.frz ob (.dK ls)) ∧ ks.length = ls.length ∧ ∀ (i : Nat) (p : Key × V), ks[i]? = some p → ∃ u, valV ls p.1 = some u ∧ D p.2 u H
theorem mon_dict (hD : Mon D) : Mon (DDict D) := fun x y H H' e d => by
  obtain ⟨a, b, oa, ob, ks, ls, hx, hy, h1, h2, hl, p⟩ := d
  exact ⟨a, b, oa, ob, ks, ls, hx, hy, e _ _ h1, e _ _ h2, hl, fun i q hq => let ⟨u, e1, e2⟩ := p i q hq; ⟨u, e1, hD _ _ _ _ e e2⟩⟩
theorem rcG_dict (hD : Mon D) (h : EqG X n D) : RcG X (n + 1) (DDict D) := by
  intro A pins s σ H x y u v sb I rx ry d
  obtain ⟨a, b, oa, ob, ks, ls, rfl, rfl, ha, hb, hl, hp⟩ := d
  cases rx
  cases ry
  obtain ⟨ga, _, ya, va, ra, da⟩ := (show ObjOk X.prog X.w H s.heap a (.frz oa (.dK ks)) from I.hok a _ ha)
  obtain ⟨gb, _, yb, vb, rb, db⟩ := (show ObjOk X.prog X.w H s.heap b (.frz ob (.dK ls)) from I.hok b _ hb)
  refine PySem.W.rcG_dicts (knd := mixKind X.prog X.w) (fun s' => LoopI X pins σ H s') ya yb da db (fun s' q => ?_) (by rw [← ra.length, ← rb.length]; exact hl) sb.room.units0 (fun i k w s' e q => ?_) ⟨H, I, Ext.rfl'⟩ fun s' q => ⟨rfl, q⟩
  · obtain ⟨H1, I1, e1⟩ := q
    obtain ⟨g1, _⟩ := (show ObjOk X.prog X.w H1 s'.heap a (.frz oa (.dK ks)) from I1.hok a _ (e1 _ _ ha))
    obtain ⟨g2, _⟩ := (show ObjOk X.prog X.w H1 s'.heap b (.frz ob (.dK ls)) from I1.hok b _ (e1 _ _ hb))
    exact ⟨g1.trans ga.symm, g2.trans gb.symm⟩
  · obtain ⟨H1, I1, e1⟩ := q
    have hi : i < ks.length := by
      have := (List.getElem?_eq_some_iff.mp e).1
      rw [ra.length]; exact this
    obtain ⟨p, hpk⟩ : ∃ p, ks[i]? = some p := ⟨_, List.getElem?_eq_getElem hi⟩
    obtain ⟨w', hw, rw'⟩ := paired_get ra hpk
    rw [e] at hw
    obtain rfl : (k, w) = w' := Option.some.inj hw
    obtain ⟨rk, rv⟩ := rw'
    have rk : p.1 = k := rk
    obtain ⟨z, hz, hd⟩ := hp i p hpk
    have rr : RelO (some z) (valueAt vb p.1) := by rw [← hz]; exact rb.val p.1
    obtain ⟨y, hy, ry⟩ := rr.some_of
    refine ⟨y, by rw [← rk]; exact hy, ?_⟩
    refine wpAny_mono (h A.in1 pins s' σ H1 _ _ w y sb.in1 I1 rv ry (hD _ _ _ _ e1 hd)) (fun r s2 q => ?_) fun _ _ z => z
    obtain ⟨hr, H2, I2, e2⟩ := q
    exact ⟨hr, H2, I2, e1.trans e2⟩
theorem eqG_dict (hD : Mon D) (h : EqG X n D) : EqG X (n + 1) (DDict D) := (rcG_dict hD h).eqG fun _ _ _ d => let ⟨a, b, _, _, _, _, hx, hy, _⟩ := d; ⟨a, b, hx, hy⟩
theorem Zp.ext {G H H' : Hp} {M : List (Addr × HO)} (z : Zp G M H) (e : Ext H H') : Zp G M H' := ⟨fun a o h => e _ _ (z.sub a o h), fun i p o h => ⟨e _ _ (z.own i p o h).1, (z.own i p o h).2⟩, z.nd⟩
end
end Ys
/-! facts of the written part: setters, own items -/
namespace Ys
open PySem PySem.Spec PyProof.Rows L2
theorem fPset_ok {x m : Str} {K : PySem.W.Frag} (h : fPset x m K = true) : PropSet K (He.ga K x) m (sA x m K) := by
  obtain ⟨h1, h⟩ := Bool.and_eq_true_iff.mp h
  obtain ⟨h2, h4⟩ := Bool.and_eq_true_iff.mp h
  refine ⟨cA x m K, ?_⟩
  cases q : PySem.W.recIn K (cA x m K) "property" with
  | none => rw [q] at h4; cases h4
  | some l =>
    rw [q] at h4
    cases l with
    | nil => cases h4
    | cons v r =>
      cases r with
      | nil => cases h4
      | cons u r =>
        cases u with
        | ref g => exact ⟨v, r, of_decide_eq_true h1, of_decide_eq_true h2, by rw [of_decide_eq_true h4]⟩
        | _ => cases h4
end Ys
namespace Ys
open PySem PySem.Spec PyProof.Rows L2
/-! ### the Hook, with tables -/
theorem obCT_eq {n : Nat} {fb : List (PySem.W.Frag → Bool)} {fn fc : List DefY} {ts : List He.Tab} (s : PySem.W.SharedT) : obCT n fb fn fc ts s = (hookCT n fb fn fc ts).obs s.abs := by
  have e : HandSHeadRun.getT s = s.abs.heap.get? := funext (HandSHeadRun.getT_eq s)
  unfold obCT
  rw [e]
  rfl
section
variable {fb : List (PySem.W.Frag → Bool)} {fn fc : List DefY} {ts : List He.Tab} {w : World} {K : PySem.W.Frag}
theorem SaysCT.c (c : SaysCT fb fn fc ts w K) : SaysC fb fn fc K := congrArg (fun z : AlCT => z.1) c
theorem SaysCT.tab (c : SaysCT fb fn fc ts w K) (i : Nat) {t : He.Tab} (h : ts[i]? = some t := by rfl) : He.dicW K (t.1 K) = some (He.keysIn w.params t.2) := by
  have e : ts.map (fun t => He.dicW K (t.1 K)) = ts.map fun t => some (He.keysIn w.params t.2) := congrArg (fun z : AlCT => z.2) c
  have e2 : (ts.map fun t => He.dicW K (t.1 K))[i]? = (ts.map fun t => some (He.keysIn w.params t.2))[i]? := by rw [e]
  rw [List.getElem?_map, List.getElem?_map, h] at e2
  exact Option.some.inj e2
end
theorem lookup_mem {z : Str} {v : V} : ∀ {kvs : List (Str × V)}, kvs.lookup z = some v → (z, v) ∈ kvs
  | (k, x) :: r, h => by
    rw [List.lookup_cons] at h
    split at h
    · rename_i e
      have e := eq_of_beq e
      subst e
      rw [Option.some.inj h]
      exact List.mem_cons_self ..
    · exact List.mem_cons_of_mem _ (lookup_mem h)
theorem lookup_no {z : Str} : ∀ {kvs : List (Str × V)}, kvs.lookup z = none → z ∉ kvs.map (·.1)
  | [], _ => by simp
  | (k, x) :: r, h => by
    rw [List.lookup_cons] at h
    split at h
    · cases h
    · rename_i e
      have := lookup_no h
      simp only [List.map_cons, List.mem_cons, not_or]
      refine ⟨fun e2 => ?_, this⟩
      rw [e2, beq_self_eq_true] at e
      cases e
theorem keysLit_mem {P : Params} : ∀ {l : List DictEntry} {ks : List Str}, l.map He.keyOf = He.keysIn P ks → ∀ e ∈ l, ∃ x t, e.key = .str x t ∧ x ∈ ks
  | [], _, _, _, h => by cases h
  | e :: r, [], h, _, _ => by cases h
  | e :: r, k :: ks, h, e', he => by
    have h1 : He.keyOf e :: r.map He.keyOf = some (k, PyData.keyHash P k) :: He.keysIn P ks := h
    injection h1 with h2 h3
    rcases List.mem_cons.mp he with rfl | he
    · unfold He.keyOf at h2
      split at h2
      · rename_i x t q
        have h4 := Option.some.inj h2
        obtain ⟨h5, h6⟩ := Prod.mk.inj h4
        exact ⟨x, t, q, by rw [h5]; exact List.mem_cons_self ..⟩
      · cases h2
    · obtain ⟨x, t, q, m⟩ := keysLit_mem h3 e' he
      exact ⟨x, t, q, List.mem_cons_of_mem _ m⟩
theorem dicW_at {K : PySem.W.Frag} {w : World} {a : Addr} {ks : List Str} (h : He.dicW K a = some (He.keysIn w.params ks)) : ∃ es n, KDict K w a es n ∧ es.toList.map He.keyOf = He.keysIn w.params ks := by
  obtain ⟨es, n, D⟩ := He.dicW_ok h
  refine ⟨es, n, D, ?_⟩
  unfold He.dicW at h
  rw [D.at_] at h
  dsimp only at h
  split at h
  · exact Option.some.inj h
  · cases h
theorem tabD_of {K : PySem.W.Frag} {w : World} {a : PySem.W.Frag → Addr} {kvs : List (Str × V)} (h : He.dicW K (a K) = some (He.keysIn w.params (kvs.map (·.1)))) (hv : valsV kvs a K = true) : TabD K w (a K) kvs := by
  obtain ⟨es, n, D, hk⟩ := dicW_at h
  refine ⟨⟨es, n, D⟩, fun z v l => ?_, fun z l => ?_⟩
  · have h2 := List.all_eq_true.mp hv _ (lookup_mem l)
    cases e : PySem.W.nsIn K (a K) z with
    | none =>
      simp only [e] at h2
      cases h2
    | some r =>
      simp only [e] at h2
      cases r with
      | none => cases h2
      | some u => exact ⟨u, rfl, He.relB_ok h2⟩
  · have hn := lookup_no l
    unfold PySem.W.nsIn
    rw [D.at_]
    have f0 : es.toList.find? (·.key.isStr z) = none := by
      refine List.find?_eq_none.mpr fun e he c => ?_
      obtain ⟨x, t, q, m⟩ := keysLit_mem hk e he
      rw [q] at c
      have e2 : x = z := eq_of_beq (show (x == z) = true from c)
      exact hn (e2 ▸ m)
    have f1 : es.toList.any (·.refKey) = false := by
      refine Bool.eq_false_iff.mpr fun c => ?_
      obtain ⟨e, he, c⟩ := List.any_eq_true.mp c
      obtain ⟨x, t, q, m⟩ := keysLit_mem hk e he
      unfold DictEntry.refKey at c
      rw [q] at c
      cases c
    simp only [f0, f1]
    rfl
end Ys
namespace Ys
open PySem PySem.Spec PyProof.Rows L2
/-! ### the Hook, with tables of code objects -/
theorem obL_eq {n : Nat} {fb : List (PySem.W.Frag → Bool)} {fn fc : List DefY} {ts : List He.Tab} {tf : List (PySem.W.Frag → Addr)} (s : PySem.W.SharedT) : obL n fb fn fc ts tf s = (hookL n fb fn fc ts tf).obs s.abs := by
  have e : HandSHeadRun.getT s = s.abs.heap.get? := funext (HandSHeadRun.getT_eq s)
  unfold obL
  rw [e]
  rfl
theorem cdOf_eq {K : PySem.W.Frag} {x qual : Str} {params : Arguments} {body : List Stmt} {scope : Scope} {dvs : List V} {kws : List (Str × V)} {f : Addr} {fd : FuncData} (F : FunD K x qual params body scope dvs kws f fd) : fd.code = .ref (cdOf K f) := by
  obtain ⟨oc, od, dV, kV, doc, pm, an, cdv, ct, osl, rfl, lk, hcd, _, _⟩ := F.ex
  obtain ⟨c, rfl⟩ := He.codeIn_ref hcd
  unfold cdOf
  rw [lk]
end Ys
/-! the Hook with tables of code objects, over all objects up to an address -/
namespace Ys
open PySem PySem.Spec PyProof.Rows L2
theorem obRL_eq {n : Nat} {fb : List (PySem.W.Frag → Bool)} {fn fc : List DefY} {ts : List He.Tab} {tf : List (PySem.W.Frag → Addr)} (s : PySem.W.SharedT) : obRL n fb fn fc ts tf s = (hookRL n fb fn fc ts tf).obs s.abs := by
  have e : HandSHeadRun.getT s = s.abs.heap.get? := funext (HandSHeadRun.getT_eq s)
  unfold obRL
  rw [e]
  rfl
end Ys
/-! facts of the written part: classmethods of plain classes -/
namespace Ys
open PySem PySem.Spec PyProof.Rows L2
theorem cread0 {K : PySem.W.Frag} {C : Addr} (h0 : PySem.W.readsIn K C (.type "type") = true) : ClX.CRead K C (.type "type") := by
  refine ⟨h0, ?_⟩
  have h := h0
  unfold PySem.W.readsIn at h
  obtain ⟨h, _⟩ := He.ba h
  obtain ⟨h, _⟩ := He.ba h
  obtain ⟨h, h3⟩ := He.ba h
  obtain ⟨_, h2⟩ := He.ba h
  unfold PySem.W.specialIn
  rw [beq_iff_eq.mp h2, Option.bind_some]
  exact beq_iff_eq.mp h3
theorem fKm_ok {x m : Str} {K : PySem.W.Frag} (h : fKm x m K = true) : ClX.CRead K (gA x K) (.type "type") ∧ ClX.CMet K (gA x K) (.type "type") m (He.ma K (gA x K) m) (kmA x m K) := by
  obtain ⟨h1, h⟩ := He.ba h
  obtain ⟨h2, h3⟩ := He.ba h
  exact ⟨cread0 h1, He5.cmet_of h2 h3⟩
end Ys
namespace LW
open PySem PySem.Spec PyProof.Rows L2 Ys
/-! ### names -/
structure Nm (K : PySem.W.Frag) (mg : Str → Option Value) : Prop where
  sys : SysIn K
  b_len : mg "len" = none
  b_int : mg "int" = none
  b_list : mg "list" = none
  b_tuple : mg "tuple" = none
  b_set : mg "set" = none
  b_dict : mg "dict" = none
  b_str : mg "str" = none
  b_bool : mg "bool" = none
  b_sorted : mg "sorted" = none
  b_min : mg "min" = none
  b_max : mg "max" = none
  b_sum : mg "sum" = none
  b_all : mg "all" = none
  b_any : mg "any" = none
  b_repr : mg "repr" = none
  b_range : mg "range" = none
  b_isinstance : mg "isinstance" = none
  g_LETTERS : GC mg "LETTERS" (.str "abcdefghijklmnopqrstuvwxyz")
  g_LONGEST_WORD : GC mg "LONGEST_WORD" (.int 8)
  g_MOST_PERSONS : GC mg "MOST_PERSONS" (.int 1000000000000000000000000000000)
abbrev FnP (K : PySem.W.Frag) (x : Str) (st : Stmt) (f : Addr) (fd : FuncData) : Prop := FunD K x x (defArgs st) (defBody st) (defScope st) [] [] f fd
/-! ### the defs -/
abbrev N_wall : List Str := ["k"]
theorem sc_wall : FnScope N_wall ["k"] (defScope s_wall) := ⟨rfl, rfl, rfl, by decide +kernel, rfl, by decide +kernel, by decide +kernel⟩
abbrev N_is_word : List Str := ["value", "letter"]
theorem sc_is_word : FnScope N_is_word ["value"] (defScope s_is_word) := ⟨rfl, rfl, rfl, by decide +kernel, rfl, by decide +kernel, by decide +kernel⟩
abbrev N_is_integer : List Str := ["value"]
theorem sc_is_integer : FnScope N_is_integer ["value"] (defScope s_is_integer) := ⟨rfl, rfl, rfl, by decide +kernel, rfl, by decide +kernel, by decide +kernel⟩
abbrev N_is_within : List Str := ["value", "least", "most"]
theorem sc_is_within : FnScope N_is_within ["value", "least", "most"] (defScope s_is_within) := ⟨rfl, rfl, rfl, by decide +kernel, rfl, by decide +kernel, by decide +kernel⟩
abbrev N_ascending : List Str := ["words"]
theorem sc_ascending : FnScope N_ascending ["words"] (defScope s_ascending) := ⟨rfl, rfl, rfl, by decide +kernel, rfl, by decide +kernel, by decide +kernel⟩
abbrev N_valid_numbers : List Str := ["numbers", "name"]
theorem sc_valid_numbers : FnScope N_valid_numbers ["numbers"] (defScope s_valid_numbers) := ⟨rfl, rfl, rfl, by decide +kernel, rfl, by decide +kernel, by decide +kernel⟩
abbrev N_Staff_init : List Str := ["self", "known", "numbers"]
theorem sc_Staff_init : FnScope N_Staff_init ["self", "known", "numbers"] (defScope s_Staff_init) := ⟨rfl, rfl, rfl, by decide +kernel, rfl, by decide +kernel, by decide +kernel⟩
abbrev N_Staff_of : List Str := ["cls", "numbers", "name"]
theorem sc_Staff_of : FnScope N_Staff_of ["cls", "numbers"] (defScope s_Staff_of) := ⟨rfl, rfl, rfl, by decide +kernel, rfl, by decide +kernel, by decide +kernel⟩
abbrev N_Staff_kinds : List Str := ["self"]
theorem sc_Staff_kinds : FnScope N_Staff_kinds ["self"] (defScope s_Staff_kinds) := ⟨rfl, rfl, rfl, by decide +kernel, rfl, by decide +kernel, by decide +kernel⟩
abbrev N_Staff_total : List Str := ["self"]
theorem sc_Staff_total : FnScope N_Staff_total ["self"] (defScope s_Staff_total) := ⟨rfl, rfl, rfl, by decide +kernel, rfl, by decide +kernel, by decide +kernel⟩
abbrev N_Staff_numbers : List Str := ["self"]
theorem sc_Staff_numbers : FnScope N_Staff_numbers ["self"] (defScope s_Staff_numbers) := ⟨rfl, rfl, rfl, by decide +kernel, rfl, by decide +kernel, by decide +kernel⟩
abbrev N_Staff_persons_of : List Str := ["self", "kind"]
theorem sc_Staff_persons_of : FnScope N_Staff_persons_of ["self", "kind"] (defScope s_Staff_persons_of) := ⟨rfl, rfl, rfl, by decide +kernel, rfl, by decide +kernel, by decide +kernel⟩
abbrev N_Staff_fits_in : List Str := ["self", "other"]
theorem sc_Staff_fits_in : FnScope N_Staff_fits_in ["self", "other"] (defScope s_Staff_fits_in) := ⟨rfl, rfl, rfl, by decide +kernel, rfl, by decide +kernel, by decide +kernel⟩
abbrev N_Staff_within : List Str := ["self", "limits"]
theorem sc_Staff_within : FnScope N_Staff_within ["self", "limits"] (defScope s_Staff_within) := ⟨rfl, rfl, rfl, by decide +kernel, rfl, by decide +kernel, by decide +kernel⟩
abbrev N_Staff_iter : List Str := ["self"]
theorem sc_Staff_iter : FnScope N_Staff_iter ["self"] (defScope s_Staff_iter) := ⟨rfl, rfl, rfl, by decide +kernel, rfl, by decide +kernel, by decide +kernel⟩
abbrev N_Staff_getitem : List Str := ["self", "kind"]
theorem sc_Staff_getitem : FnScope N_Staff_getitem ["self", "kind"] (defScope s_Staff_getitem) := ⟨rfl, rfl, rfl, by decide +kernel, rfl, by decide +kernel, by decide +kernel⟩
abbrev N_Staff_eq : List Str := ["self", "other"]
theorem sc_Staff_eq : FnScope N_Staff_eq ["self", "other"] (defScope s_Staff_eq) := ⟨rfl, rfl, rfl, by decide +kernel, rfl, by decide +kernel, by decide +kernel⟩
abbrev N_Staff_add : List Str := ["self", "other", "names", "name"]
theorem sc_Staff_add : FnScope N_Staff_add ["self", "other"] (defScope s_Staff_add) := ⟨rfl, rfl, rfl, by decide +kernel, rfl, by decide +kernel, by decide +kernel⟩
abbrev N_Staff_sub : List Str := ["self", "other", "name"]
theorem sc_Staff_sub : FnScope N_Staff_sub ["self", "other"] (defScope s_Staff_sub) := ⟨rfl, rfl, rfl, by decide +kernel, rfl, by decide +kernel, by decide +kernel⟩
abbrev N_Staff_or : List Str := ["self", "other", "names", "name"]
theorem sc_Staff_or : FnScope N_Staff_or ["self", "other"] (defScope s_Staff_or) := ⟨rfl, rfl, rfl, by decide +kernel, rfl, by decide +kernel, by decide +kernel⟩
abbrev N_Staff_and : List Str := ["self", "other", "name"]
theorem sc_Staff_and : FnScope N_Staff_and ["self", "other"] (defScope s_Staff_and) := ⟨rfl, rfl, rfl, by decide +kernel, rfl, by decide +kernel, by decide +kernel⟩
abbrev N_greater : List Str := ["one", "other"]
theorem sc_greater : FnScope N_greater ["one", "other"] (defScope s_greater) := ⟨rfl, rfl, rfl, by decide +kernel, rfl, by decide +kernel, by decide +kernel⟩
abbrev N_smaller : List Str := ["one", "other"]
theorem sc_smaller : FnScope N_smaller ["one", "other"] (defScope s_smaller) := ⟨rfl, rfl, rfl, by decide +kernel, rfl, by decide +kernel, by decide +kernel⟩
abbrev N_staff_with : List Str := ["numbers"]
theorem sc_staff_with : FnScope N_staff_with ["numbers"] (defScope s_staff_with) := ⟨rfl, rfl, rfl, by decide +kernel, rfl, by decide +kernel, by decide +kernel⟩
abbrev N_law_pen : List Str := ["_law_script"]
theorem sc_law_pen : FnScope N_law_pen ["_law_script"] (defScope s_law_pen) := ⟨rfl, rfl, rfl, by decide +kernel, rfl, by decide +kernel, by decide +kernel⟩
abbrev N_law_draw : List Str := ["_law_pen_here", "_law_size", "_law_spot", "_law_cell", "_law_mixed", "_law_digit"]
theorem sc_law_draw : FnScope N_law_draw ["_law_pen_here", "_law_size"] (defScope s_law_draw) := ⟨rfl, rfl, rfl, by decide +kernel, rfl, by decide +kernel, by decide +kernel⟩
abbrev N_law_pick : List Str := ["_law_pen_here", "_law_items"]
theorem sc_law_pick : FnScope N_law_pick ["_law_pen_here", "_law_items"] (defScope s_law_pick) := ⟨rfl, rfl, rfl, by decide +kernel, rfl, by decide +kernel, by decide +kernel⟩
abbrev N_law_words : List Str := ["_law_pen_here", "_law_count", "_law_letters", "_law_stem", "_law_found", "_law_k", "_law_at", "_law_front", "_law_step", "_law_tail", "_law_word"]
theorem sc_law_words : FnScope N_law_words ["_law_pen_here", "_law_count"] (defScope s_law_words) := ⟨rfl, rfl, rfl, by decide +kernel, rfl, by decide +kernel, by decide +kernel⟩
abbrev N_law_any_value : List Str := ["_law_pen_here", "_law_some"]
theorem sc_law_any_value : FnScope N_law_any_value ["_law_pen_here"] (defScope s_law_any_value) := ⟨rfl, rfl, rfl, by decide +kernel, rfl, by decide +kernel, by decide +kernel⟩
abbrev N_law_is_word : List Str := ["_law_value", "_law_letters", "_law_sign"]
theorem sc_law_is_word : FnScope N_law_is_word ["_law_value"] (defScope s_law_is_word) := ⟨rfl, rfl, rfl, by decide +kernel, rfl, by decide +kernel, by decide +kernel⟩
abbrev N_law_is_integer : List Str := ["_law_value"]
theorem sc_law_is_integer : FnScope N_law_is_integer ["_law_value"] (defScope s_law_is_integer) := ⟨rfl, rfl, rfl, by decide +kernel, rfl, by decide +kernel, by decide +kernel⟩
abbrev N_law_told : List Str := ["_law_call", "e"]
theorem sc_law_told : FnScope N_law_told ["_law_call"] (defScope s_law_told) := ⟨rfl, rfl, rfl, by decide +kernel, rfl, by decide +kernel, by decide +kernel⟩
abbrev N_law_due : List Str := ["_law_value", "_law_odd", "_law_wrong", "_law_name", "_law_one"]
theorem sc_law_due : FnScope N_law_due ["_law_value"] (defScope s_law_due) := ⟨rfl, rfl, rfl, by decide +kernel, rfl, by decide +kernel, by decide +kernel⟩
abbrev N_law : List Str := ["_law_script", "_law_pen_here", "_law_lap", "_law_words_here", "_law_value", "_law_k", "_law_kept", "_law_name", "_law_word"]
theorem sc_law : FnScope N_law ["_law_script"] (defScope s_law) := ⟨rfl, rfl, rfl, by decide +kernel, rfl, by decide +kernel, by decide +kernel⟩
/-! ### the pen -/
def penO (L : Addr) (spot rest : Int) : HO := .dK [(.inr ("cells" : Str), .ref L), (.inr ("spot" : Str), .int spot), (.inr ("rest" : Str), .int rest)]
def Pen (K : PySem.W.Frag) (G : Hp) (b : Nat) (o : HO) : Prop := ∃ (L : Addr) (spot rest : Int) (cells : List Int), o = penO L spot rest ∧ SqL K G L (cells.map V.int) ∧ cells.length ≤ 63 ∧ 0 ≤ spot ∧ spot ≤ b ∧ 0 ≤ rest
theorem Pen.up {K : PySem.W.Frag} {G G1 : Hp} {b : Nat} {o : HO} (s : Same G G1) (p : Pen K G b o) : Pen K G1 b o := by
  obtain ⟨L, sp, r, cs, e, h, x⟩ := p
  exact ⟨L, sp, r, cs, e, upL s h, x⟩
theorem Pen.mono {K : PySem.W.Frag} {G : Hp} {b c : Nat} {o : HO} (h : b ≤ c) (p : Pen K G b o) : Pen K G c o := by
  obtain ⟨L, sp, r, cs, e, h1, h2, h3, h4, h5⟩ := p
  exact ⟨L, sp, r, cs, e, h1, h2, h3, by omega, h5⟩
theorem k_cr : ¬ (Sum.inr ("cells" : Str) : Key) = Sum.inr ("rest" : Str) := by decide +kernel
theorem k_sr : ¬ (Sum.inr ("spot" : Str) : Key) = Sum.inr ("rest" : Str) := by decide +kernel
theorem k_cs : ¬ (Sum.inr ("cells" : Str) : Key) = Sum.inr ("spot" : Str) := by decide +kernel
theorem k_sc : ¬ (Sum.inr ("spot" : Str) : Key) = Sum.inr ("cells" : Str) := by decide +kernel
theorem k_rs : ¬ (Sum.inr ("rest" : Str) : Key) = Sum.inr ("spot" : Str) := by decide +kernel
theorem k_rc : ¬ (Sum.inr ("rest" : Str) : Key) = Sum.inr ("cells" : Str) := by decide +kernel
section
variable {L : Addr} {spot rest x : Int} {H : Hp} {P : Addr} {Q : VK} {G : Hp} {M : List (Addr × HO)} {R : Hp → Prop}
abbrev pk (L : Addr) (spot rest : Int) : List (Key × V) := [(.inr ("cells" : Str), .ref L), (.inr ("spot" : Str), .int spot), (.inr ("rest" : Str), .int rest)]
theorem v_cells : valV (pk L spot rest) (.inr ("cells" : Str)) = some (.ref L) := valV_pos rfl
theorem v_spot : valV (pk L spot rest) (.inr ("spot" : Str)) = some (.int spot) := by rw [valV_neg k_cs]; exact valV_pos rfl
theorem v_rest : valV (pk L spot rest) (.inr ("rest" : Str)) = some (.int rest) := by rw [valV_neg k_cr, valV_neg k_sr]; exact valV_pos rfl
theorem p_spot : putK (pk L spot rest) (.inr ("spot" : Str)) (.int x) = pk L x rest := by
  have e1 : ¬ Str.ofString "cells" = Str.ofString "spot" := by decide +kernel
  have e2 : ¬ Str.ofString "rest" = Str.ofString "spot" := by decide +kernel
  simp [putK, e1, e2]
theorem p_rest : putK (pk L spot rest) (.inr ("rest" : Str)) (.int x) = pk L spot x := by
  have e1 : ¬ Str.ofString "cells" = Str.ofString "rest" := by decide +kernel
  have e2 : ¬ Str.ofString "spot" = Str.ofString "rest" := by decide +kernel
  simp [putK, e1, e2]
def DgW (x y : V) (H : Hp) (Q : VK) : Prop := ∃ a v, x = V.ref a ∧ DGet H a y (some v) ∧ Q v H
def DpW (x y v : V) (H : Hp) (R : Hp → Prop) : Prop := ∃ a H4, x = V.ref a ∧ DPut H a y v H4 ∧ R H4
theorem z_dg {ta tb : TE} {σ : L2.St} (h : ta σ H fun x H1 => tb σ H1 fun y H2 => DgW x y H2 Q) : tDGet ta tb σ H Q := h
theorem g_cells (z : Zp G ((P, penO L spot rest) :: M) H) (q : Q (.ref L) H) : DgW (.ref P) (.str ("cells" : Str)) H Q :=
  ⟨P, _, rfl, by have := DGet.k (k := .inr ("cells" : Str)) (z.at_ 0 rfl); rw [v_cells] at this; exact this, q⟩
theorem g_spot (z : Zp G ((P, penO L spot rest) :: M) H) (q : Q (.int spot) H) : DgW (.ref P) (.str ("spot" : Str)) H Q :=
  ⟨P, _, rfl, by have := DGet.k (k := .inr ("spot" : Str)) (z.at_ 0 rfl); rw [v_spot] at this; exact this, q⟩
theorem g_rest (z : Zp G ((P, penO L spot rest) :: M) H) (q : Q (.int rest) H) : DgW (.ref P) (.str ("rest" : Str)) H Q :=
  ⟨P, _, rfl, by have := DGet.k (k := .inr ("rest" : Str)) (z.at_ 0 rfl); rw [v_rest] at this; exact this, q⟩
theorem s_spot (z : Zp G ((P, penO L spot rest) :: M) H) (q : ∀ H1, Zp G ((P, penO L x rest) :: M) H1 → R H1) : DpW (.ref P) (.str ("spot" : Str)) (.int x) H R :=
  ⟨P, _, rfl, DPut.k (k := .inr ("spot" : Str)) (z.at_ 0 rfl) (by show 3 < sizeLine; decide), by rw [p_spot]; exact q _ (z.put 0 rfl _)⟩
theorem s_rest (z : Zp G ((P, penO L spot rest) :: M) H) (q : ∀ H1, Zp G ((P, penO L spot x) :: M) H1 → R H1) : DpW (.ref P) (.str ("rest" : Str)) (.int x) H R :=
  ⟨P, _, rfl, DPut.k (k := .inr ("rest" : Str)) (z.at_ 0 rfl) (by show 3 < sizeLine; decide), by rw [p_rest]; exact q _ (z.put 0 rfl _)⟩
theorem m_penput {D : Ends} {td ty tv : TE} {σ : L2.St} (h : tv σ H fun v H1 => td σ H1 fun x H2 => ty σ H2 fun y H3 => DpW x y v H3 (D.nx σ)) : sDPut td ty tv D σ H := h
end
end LW
open PySem PySem.Spec PyProof.Rows L2 Ys LW
local macro_rules | `(tactic| walk_at "z") => `(tactic| first
  | with_reducible refine z_seq ?_
  | with_reducible refine z_asg ?_
  | with_reducible refine z_name ?_
  | ((with_reducible apply z_var); (focus rfl))
  | with_reducible refine z_c ?_
  | with_reducible refine z_op ?_
  | with_reducible refine z_cons ?_
  | with_reducible refine z_nil ?_
  | with_reducible refine z_cb ?_
  | with_reducible refine z_call ?_
  | with_reducible refine z_ifS ?_
  | with_reducible refine z_ret ?_
  | with_reducible refine z_test ?_
  | with_reducible refine z_isB ?_
  | with_reducible refine z_tup ?_
  | with_reducible refine z_lst ?_
  | with_reducible refine z_I0 ?_
  | with_reducible refine z_addI ?_
  | with_reducible refine z_int ?_
  | with_reducible refine z_bT ?_
  | with_reducible refine z_bF ?_
  | with_reducible refine z_bN ?_
  | with_reducible refine z_and ?_
  | with_reducible refine z_or ?_
  | with_reducible refine z_not ?_
  | with_reducible refine z_if ?_
  | with_reducible refine z_andV ?_
  | with_reducible refine z_orV ?_
  | with_reducible refine z_notV ?_
  | with_reducible refine z_sl ?_
  | with_reducible refine z_np ?_
  | with_reducible refine z_part ?_
  | with_reducible refine z_isP ?_
  | with_reducible refine z_drop ?_
  | with_reducible refine z_next ?_
  | with_reducible refine z_retN ?_
  | with_reducible refine z_tB ?_
  | with_reducible refine z_bm ?_
  | with_reducible refine z_bm0 ?_
  | with_reducible refine z_m1 ?_
  | with_reducible refine z_isS ?_
  | with_reducible refine z_for ?_
  | with_reducible refine z_lc ?_
  | with_reducible refine z_yes ?_
  | with_reducible refine z_iL ?_
  | with_reducible refine z_iT ?_
  | with_reducible refine z_iS ?_
  | with_reducible refine z_iR ?_
  | with_reducible refine z_gcons ?_
  | with_reducible refine z_gnil ?_
  | with_reducible refine z_pr ?_
  | with_reducible refine z_pr2 ?_
  | with_reducible refine z_un ?_
  | with_reducible refine z_prop ?_
  | with_reducible refine z_mt ?_
  | with_reducible refine z_mk ?_
  | with_reducible refine z_fl ?_
  | with_reducible refine z_fs ?_
  | with_reducible refine z_chain ?_
  | with_reducible refine z_rs ?_
  | with_reducible refine z_mkS ?_
  | with_reducible refine z_gsub ?_
  | with_reducible refine z_iR2 ?_
  | with_reducible refine z_pc ?_
  | with_reducible refine z_pn ?_
  | with_reducible refine z_dg ?_
  | with_reducible refine z_star ?_
  | with_reducible refine z_callS ?_
  | with_reducible refine z_ownK ?_
  | with_reducible refine z_mtS ?_
  | with_reducible refine z_fa ?_
  | with_reducible refine z_frz ?_
  | with_reducible refine z_iK ?_
  | with_reducible refine z_iV ?_
  | with_reducible refine z_iI ?_
  | with_reducible refine z_din ?_
  | with_reducible refine z_dnin ?_
  | with_reducible refine z_dc ?_
  | with_reducible refine z_lc2 ?_
  | with_reducible refine z_mkR ?_
  | with_reducible refine z_cm ?_
  | with_reducible refine z_starD ?_
  | with_reducible refine z_mtK ?_
  | with_reducible refine z_dg2 ?_
  | with_reducible refine z_mkRK ?_
  | with_reducible refine z_cmK ?_
  | with_reducible refine z_ikx ?_
  | with_reducible refine z_dx ?_
  | with_reducible refine z_lkx ?_
  | with_reducible refine m_penput ?_
  | with_reducible refine g_rest (by assumption) ?_
  | with_reducible refine g_spot (by assumption) ?_
  | with_reducible refine g_cells (by assumption) ?_
  | with_reducible refine s_spot (by assumption) ?_
  | with_reducible refine s_rest (by assumption) ?_)
local macro_rules | `(tactic| walk_at "y") => `(tactic| first
  | with_reducible refine z_asg ?_
  | with_reducible refine z_name ?_
  | ((with_reducible apply z_var); (focus rfl))
  | with_reducible refine z_c ?_
  | with_reducible refine z_op ?_
  | with_reducible refine z_cons ?_
  | with_reducible refine z_nil ?_
  | with_reducible refine z_cb ?_
  | with_reducible refine z_call ?_
  | with_reducible refine z_ifS ?_
  | with_reducible refine z_ret ?_
  | with_reducible refine z_test ?_
  | with_reducible refine z_isB ?_
  | with_reducible refine z_tup ?_
  | with_reducible refine z_lst ?_
  | with_reducible refine z_I0 ?_
  | with_reducible refine z_addI ?_
  | with_reducible refine z_int ?_
  | with_reducible refine z_bT ?_
  | with_reducible refine z_bF ?_
  | with_reducible refine z_bN ?_
  | with_reducible refine z_and ?_
  | with_reducible refine z_or ?_
  | with_reducible refine z_not ?_
  | with_reducible refine z_if ?_
  | with_reducible refine z_andV ?_
  | with_reducible refine z_orV ?_
  | with_reducible refine z_notV ?_
  | with_reducible refine z_sl ?_
  | with_reducible refine z_np ?_
  | with_reducible refine z_part ?_
  | with_reducible refine z_isP ?_
  | with_reducible refine z_drop ?_
  | with_reducible refine z_next ?_
  | with_reducible refine z_retN ?_
  | with_reducible refine z_tB ?_
  | with_reducible refine z_bm ?_
  | with_reducible refine z_bm0 ?_
  | with_reducible refine z_m1 ?_
  | with_reducible refine z_isS ?_
  | with_reducible refine z_for ?_
  | with_reducible refine z_lc ?_
  | with_reducible refine z_yes ?_
  | with_reducible refine z_iL ?_
  | with_reducible refine z_iT ?_
  | with_reducible refine z_iS ?_
  | with_reducible refine z_iR ?_
  | with_reducible refine z_gcons ?_
  | with_reducible refine z_gnil ?_
  | with_reducible refine z_pr ?_
  | with_reducible refine z_pr2 ?_
  | with_reducible refine z_un ?_
  | with_reducible refine z_prop ?_
  | with_reducible refine z_mt ?_
  | with_reducible refine z_mk ?_
  | with_reducible refine z_fl ?_
  | with_reducible refine z_fs ?_
  | with_reducible refine z_chain ?_
  | with_reducible refine z_rs ?_
  | with_reducible refine z_mkS ?_
  | with_reducible refine z_gsub ?_
  | with_reducible refine z_iR2 ?_
  | with_reducible refine z_pc ?_
  | with_reducible refine z_pn ?_
  | with_reducible refine z_dg ?_
  | with_reducible refine z_star ?_
  | with_reducible refine z_callS ?_
  | with_reducible refine z_ownK ?_
  | with_reducible refine z_mtS ?_
  | with_reducible refine z_fa ?_
  | with_reducible refine z_frz ?_
  | with_reducible refine z_iK ?_
  | with_reducible refine z_iV ?_
  | with_reducible refine z_iI ?_
  | with_reducible refine z_din ?_
  | with_reducible refine z_dnin ?_
  | with_reducible refine z_dc ?_
  | with_reducible refine z_lc2 ?_
  | with_reducible refine z_mkR ?_
  | with_reducible refine z_cm ?_
  | with_reducible refine z_starD ?_
  | with_reducible refine z_mtK ?_
  | with_reducible refine z_dg2 ?_
  | with_reducible refine z_mkRK ?_
  | with_reducible refine z_cmK ?_
  | with_reducible refine z_ikx ?_
  | with_reducible refine z_dx ?_
  | with_reducible refine z_lkx ?_
  | with_reducible refine m_penput ?_
  | with_reducible refine g_rest (by assumption) ?_
  | with_reducible refine g_spot (by assumption) ?_
  | with_reducible refine g_cells (by assumption) ?_
  | with_reducible refine s_spot (by assumption) ?_
  | with_reducible refine s_rest (by assumption) ?_)
namespace LW
open PySem PySem.Spec PyProof.Rows L2 Ys

theorem can_ints : ∀ cells : List Int, PyData.canLayAll0 (cells.map PyData.int) = true
  | [] => rfl
  | c :: cs => by
    show (PyData.canLay0 (.int c) && PyData.canLayAll0 (cs.map PyData.int)) = true
    rw [can_ints cs]
    rfl
theorem dep_ints : ∀ cells : List Int, PyData.depthAll (cells.map PyData.int) ≤ 1
  | [] => by decide
  | c :: cs => by
    show max (PyData.depth (.int c)) (PyData.depthAll (cs.map PyData.int)) ≤ 1
    have := dep_ints cs
    have e : PyData.depth (.int c) = 0 := rfl
    omega
theorem sh_ints (cells : List Int) : SeqAt.shaped (.list (cells.map PyData.int)) = true := by
  unfold SeqAt.shaped
  have e : PyData.canLay0 (.list (cells.map PyData.int)) = true := can_ints cells
  have d : PyData.depth (.list (cells.map PyData.int)) = PyData.depthAll (cells.map PyData.int) + 1 := rfl
  rw [e, d]
  have := dep_ints cells
  simp
  omega
theorem cells_eq (cells : List Int) : PyData.eqv (.list (cells.map PyData.int)) (.list []) = decide (cells = []) := by
  cases cells with
  | nil => rfl
  | cons c cs => rfl
section
variable {P : Program} {w : World} {K : PySem.W.Frag} {mg : Str → Option Value} {base : Heap} {f : Addr} {fd : FuncData}
def spDraw (K : PySem.W.Frag) : Sp := fun vs H Q _ => ∃ p o G M b n, vs = [.ref p, .int n] ∧ Zp G ((p, o) :: M) H ∧ Pen K G b o ∧ b ≤ 1000000000000 ∧ 0 < n ∧ n ≤ 1000000000 ∧
  ∀ r G1 H1 o1, Zp G1 ((p, o1) :: M) H1 → Same G G1 → Pen K G1 (b + 1) o1 → 0 ≤ r → r < n → Q (.int r) H1
theorem ok_draw (T : Nm K mg) (F : FnP K "_law_draw" s_law_draw f fd) : FnOk P w K mg base CX0 1 f fd ["_law_pen_here", "_law_size"] (spDraw K) := by
  have nd : N_law_draw.Nodup := sc_law_draw.nd
  refine F.ok sc_law_draw (fun vs H Q E h => ?_) (fun cdv A outer s H vs Q E hr h => ?_)
  · obtain ⟨p, o, G, M, b, n, rfl, _⟩ := h
    rfl
  have hu := hr.units
  refine ⟨_, PSs.nox   (pss_cons (ps_if (pt_cmpR o_ge (pe_dget (hu_of hr) (pv 0) pe_str (fun _ _ => rfl)) (pv 1) (nomark _)) (pss_cons (ps_asg (pe_op o_mod (pe_callTy c_int (by rfl) T.b_int boot_int (pa_cons (pe_dget (hu_of hr) (pv 0) pe_str (fun _ _ => rfl)) pa_nil)) (pv 1)) (pg_name (i := 5) nd rfl (by first | exact .inl rfl | exact .inr rfl)))
    (pss_cons (ps_dput (hu_of hr) (pv 0) pe_str (pe_op o_div (pe_dget (hu_of hr) (pv 0) pe_str (fun _ _ => rfl)) (pv 1)) rfl)
    (pss_one (ps_ret (pv 5))))) pss_nil)
    (pss_cons (ps_asg (pe_dget (hu_of hr) (pv 0) pe_str (fun _ _ => rfl)) (pg_name (i := 2) nd rfl (by first | exact .inl rfl | exact .inr rfl)))
    (pss_cons (ps_dput (hu_of hr) (pv 0) pe_str (pe_op op_addG (pv 2) pe_int) rfl)
    (pss_cons (ps_asg (pe_op op_addG (pe_op o_mul pe_int (pv 2)) pe_int) (pg_name (i := 3) nd rfl (by first | exact .inl rfl | exact .inr rfl)))
    (pss_cons (ps_if (pt_cmpR (op_neG hu) (pe_dget (hu_of hr) (pv 0) pe_str (fun _ _ => rfl)) (pe_lst pa_nil) (nomark _)) (pss_one (ps_asg (pe_ix ix_seq (pe_dget (hu_of hr) (pv 0) pe_str (fun _ _ => rfl)) (pe_op o_mod (pe_callTy c_int (by rfl) T.b_int boot_int (pa_cons (pv 2) pa_nil)) (pe_callB c_len (by rfl) T.b_len PySem.boot_len (pa_cons (pe_dget (hu_of hr) (pv 0) pe_str (fun _ _ => rfl)) pa_nil))) (fun _ _ => rfl)) (pg_name (i := 3) nd rfl (by first | exact .inl rfl | exact .inr rfl)))) pss_nil)
    (pss_cons (ps_if (PW.pt (pw_and (pt_cmpR o_lt (pv 2) (pe_callB c_len (by rfl) T.b_len PySem.boot_len (pa_cons (pe_dget (hu_of hr) (pv 0) pe_str (fun _ _ => rfl)) pa_nil)) (nomark _)) (pw_and1 (pt_cmpR o_ge (pv 3) (pe_op o_pow pe_int pe_int) (nomark _))))) (pss_cons (ps_dput (hu_of hr) (pv 0) pe_str (pe_op o_div (pe_op o_sub (pv 3) (pe_op o_pow pe_int pe_int)) (pv 1)) rfl)
    (pss_one (ps_ret (pe_op o_mod (pe_callTy c_int (by rfl) T.b_int boot_int (pa_cons (pe_op o_sub (pv 3) (pe_op o_pow pe_int pe_int)) pa_nil)) (pv 1))))) pss_nil)
    (pss_cons (ps_asg (pe_op o_mul (pe_op o_mod (pe_callTy c_int (by rfl) T.b_int boot_int (pa_cons (pv 3) pa_nil)) pe_int) pe_int) (pg_name (i := 4) nd rfl (by first | exact .inl rfl | exact .inr rfl)))
    (pss_cons (ps_asg (pe_op o_mod (pe_callTy c_int (by rfl) T.b_int boot_int (pa_cons (pe_op op_addG (pe_op op_addG (pe_op op_addG (pv 4) (pe_op o_mul (pe_op o_mul pe_int (pv 2)) (pv 2))) (pe_op o_mul pe_int (pv 2))) pe_int) pa_nil)) pe_int) (pg_name (i := 4) nd rfl (by first | exact .inl rfl | exact .inr rfl)))
    (pss_cons (ps_asg (pe_op o_mod (pe_callTy c_int (by rfl) T.b_int boot_int (pa_cons (pe_op o_mul (pv 4) (pe_op op_addG (pv 4) pe_int)) pa_nil)) pe_int) (pg_name (i := 4) nd rfl (by first | exact .inl rfl | exact .inr rfl)))
    (pss_one (ps_ret (pe_op o_mod (pe_callTy c_int (by rfl) T.b_int boot_int (pa_cons (pe_op o_div (pe_op o_mod (pe_callTy c_int (by rfl) T.b_int boot_int (pa_cons (pe_op op_addG (pe_op o_mul (pv 4) (pv 4)) (pe_op o_mul pe_int (pv 4))) pa_nil)) pe_int) pe_int) pa_nil)) (pv 1))))))))))))), ?_⟩
  obtain ⟨p, o, G, M, b, n, rfl, z, ⟨L, spot, rest, cells, rfl, hL, hc, h0, hb, hr0⟩, hb2, n0, n1, q⟩ := h
  repeat (walk_at "z")
  refine z_bd (fun hrn => ?_) (fun hrn => ?_)
  · repeat (walk_at "z")
    refine z_I n0 ?_
    repeat (walk_at "z")
    refine z_I (dw n0 n1) ?_
    repeat (walk_at "z")
    intro H1 z1
    repeat (walk_at "z")
    refine q _ G H1 _ z1 (Same.refl G) ⟨L, spot, rest / n, cells, rfl, hL, hc, h0, by omega, Int.ediv_nonneg hr0 (by omega)⟩ (Int.emod_nonneg _ (by omega)) (Int.emod_lt_of_pos _ n0)
  · repeat (walk_at "z")
    intro H1 z1
    repeat (walk_at "z")
    refine z_I (mw (by omega) (by omega) (by omega) (by omega)) ?_
    repeat (walk_at "y")
    with_reducible refine z_cut (fun σ H => ∃ cell G3, Zp G3 ((p, penO L (spot + 1) rest) :: M) H ∧ Same G G3 ∧ σ = [some (.ref p), some (.int n), some (.int spot), some (.int cell), none, none]) (fun nx hnx => ?_) (fun σ H2 h2 => ?_)
    · repeat (walk_at "z")
      refine z_newL z1 (by decide) fun p2 G2 H2 z2 s2 e2 => ?_
      have hL2 := upL s2 hL
      refine z_neD (d := .list (cells.map PyData.int)) (e := .list []) z2 (.lst hL2 (dts_int cells)) (.lst (SqL.of e2) .nil) (sh_ints _) rfl ?_
      repeat (walk_at "z")
      rw [cells_eq]
      refine z_bd (fun c => ?_) (fun c => ?_)
      · refine z_next (hnx _ _ ⟨_, _, z2, s2, rfl⟩)
      · have c0 : 0 < cells.length := by cases cells with | nil => exact absurd rfl c | cons _ _ => exact Nat.succ_pos _
        repeat (walk_at "z")
        refine z_lenL z2 hL2 ?_
        rw [List.length_map]
        refine z_I (by omega) ?_
        have hm := Int.emod_lt_of_pos spot (show (0 : Int) < cells.length by omega)
        have hm0 := Int.emod_nonneg spot (show (cells.length : Int) ≠ 0 by omega)
        obtain ⟨k, hk⟩ := Int.eq_ofNat_of_zero_le hm0
        refine z_ixL z2 hL2 (v := .int (cells.getD k 0)) ?_ ?_
        · rw [hk]
          refine atI_nat ?_
          have : k < cells.length := by omega
          simp [List.getD, this]
        repeat (walk_at "z")
        exact hnx _ _ ⟨_, _, z2, s2, rfl⟩
    obtain ⟨cell, G3, z3, s3, rfl⟩ := h2
    have hL3 := upL s3 hL
    have e18 : (10 : Int) ^ (18 : Int).toNat = 1000000000000000000 := by decide +kernel
    with_reducible refine z_cut (fun σ H => H = H2 ∧ σ = [some (.ref p), some (.int n), some (.int spot), some (.int cell), none, none]) (fun nx hnx => ?_) (fun σ H3 h3 => ?_)
    · repeat (walk_at "z")
      refine z_lenL z3 hL3 ?_
      repeat (walk_at "z")
      refine z_b2 (fun c1 => ?_) (fun c1 => ?_)
      · repeat (walk_at "z")
        refine z_I ⟨by decide, by decide, by decide⟩ ?_
        repeat (walk_at "z")
        rw [e18]
        refine z_bd (fun c2 => ?_) (fun c2 => ?_)
        · repeat (walk_at "z")
          refine z_I ⟨by decide, by decide, by decide⟩ ?_
          repeat (walk_at "z")
          rw [e18]
          refine z_I (dw n0 n1) ?_
          repeat (walk_at "z")
          intro H4 z4
          repeat (walk_at "z")
          refine z_I ⟨by decide, by decide, by decide⟩ ?_
          repeat (walk_at "z")
          refine z_I n0 ?_
          exact q _ G3 H4 _ z4 s3 ⟨L, spot + 1, _, cells, rfl, hL3, hc, by omega, by omega, Int.ediv_nonneg (by omega) (by omega)⟩ (Int.emod_nonneg _ (by omega)) (Int.emod_lt_of_pos _ n0)
        · exact hnx _ _ ⟨rfl, rfl⟩
      · repeat (walk_at "z")
        exact hnx _ _ ⟨rfl, rfl⟩
    obtain ⟨rfl, rfl⟩ := h3
    repeat (walk_at "z")
    refine z_I (by decide) ?_
    repeat (walk_at "z")
    refine z_I (mw (by omega) (by omega) (by omega) (by omega)) ?_
    repeat (walk_at "z")
    have h1 := Int.emod_nonneg cell (show (2147483353 : Int) ≠ 0 by decide)
    have h2 := Int.emod_lt_of_pos cell (show (0 : Int) < 2147483353 by decide)
    refine z_I (mw (by omega) (by omega) (by omega) (by omega)) ?_
    repeat (walk_at "z")
    refine z_I (wide_mul (a := 64) (b := 64) (by omega) (by omega) (by decide) (by decide) (by decide)) ?_
    repeat (walk_at "z")
    refine z_I (mw (by omega) (by omega) (by omega) (by omega)) ?_
    repeat (walk_at "z")
    refine z_I (by decide) ?_
    repeat (walk_at "z")
    generalize hm1 : (cell % 2147483353 * 40127 + 52433 * spot * spot + 101 * spot + 31) % 2147483399 = m1
    have a1 : 0 ≤ m1 := by rw [← hm1]; exact Int.emod_nonneg _ (by decide)
    have a2 : m1 < 2147483399 := by rw [← hm1]; exact Int.emod_lt_of_pos _ (by decide)
    refine z_I (mw (by omega) (by omega) (by omega) (by omega)) ?_
    repeat (walk_at "z")
    refine z_I (by decide) ?_
    repeat (walk_at "z")
    generalize hm2 : m1 * (m1 + 70009) % 2147483423 = m2
    have b1 : 0 ≤ m2 := by rw [← hm2]; exact Int.emod_nonneg _ (by decide)
    have b2 : m2 < 2147483423 := by rw [← hm2]; exact Int.emod_lt_of_pos _ (by decide)
    refine z_I (mw (by omega) (by omega) (by omega) (by omega)) ?_
    repeat (walk_at "z")
    refine z_I (mw (by omega) (by omega) (by omega) (by omega)) ?_
    repeat (walk_at "z")
    refine z_I (by decide) ?_
    repeat (walk_at "z")
    refine z_I (dw (by decide) (by decide)) ?_
    repeat (walk_at "z")
    refine z_I n0 ?_
    exact q _ G3 _ _ z3 s3 ⟨L, spot + 1, _, cells, rfl, hL3, hc, by omega, by omega, hr0⟩ (Int.emod_nonneg _ (by omega)) (Int.emod_lt_of_pos _ n0)
end
end LW
namespace LW
open PySem PySem.Spec PyProof.Rows L2 Ys

section
variable {P : Program} {w : World} {K : PySem.W.Frag} {mg : Str → Option Value} {base : Heap} {f : Addr} {fd : FuncData}
def spPen (K : PySem.W.Frag) : Sp := fun vs H Q _ => ∃ (a : Addr) (G : Hp) (ns : List Int), vs = [.ref a] ∧ Zp G [] H ∧ SqL K G a (ns.map V.int) ∧
  ∀ p G1 H1 o1, Zp G1 [(p, o1)] H1 → Same G G1 → Pen K G1 0 o1 → Q (.ref p) H1
theorem ok_pen (T : Nm K mg) (F : FnP K "_law_pen" s_law_pen f fd) : FnOk P w K mg base CX0 1 f fd ["_law_script"] (spPen K) := by
  have nd : N_law_pen.Nodup := sc_law_pen.nd
  refine F.ok sc_law_pen (fun vs H Q E h => ?_) (fun cdv A outer s H vs Q E hr h => ?_)
  · obtain ⟨a, G, ns, rfl, _⟩ := h
    rfl
  have hu := hr.units
  refine ⟨_, PSs.nox   (pss_one (ps_ret (pe_disp (pps_cons pe_str (pe_callTy (kc_list (K := K)) (by rfl) T.b_list boot_list (pa_cons (pe_slice (k_sl (K := K)) (pv 0) po_none (po_some pe_int)) pa_nil)) (pps_cons pe_str pe_int (pps_cons pe_str pe_int pps_nil))) (by rfl) (by rfl) (fun z => by cases z) (by decide)))), ?_⟩
  obtain ⟨a, G, ns, rfl, z, hS, q⟩ := h
  repeat (walk_at "z")
  refine z_disp z fun p H1 z1 => ?_
  repeat (walk_at "z")
  refine z_slL z1 hS fun a2 G2 H2 z2 s2 e2 => ?_
  rw [cut_map] at e2
  repeat (walk_at "z")
  refine z_listG z2 (.inl (SqL.of e2)) fun a3 G3 H3 z3 s3 e3 => ?_
  repeat (walk_at "z")
  refine z_dispE (M := []) z3 [(.inr ("cells" : Str), .ref a3), (.inr ("spot" : Str), .int 0), (.inr ("rest" : Str), .int 0)] rfl (by show 3 ≤ 15; decide) fun H4 z4 => ?_
  refine q p G3 H4 _ z4 (s2.trans s3) ⟨a3, 0, 0, _, ?_, SqL.of e3, ?_, by decide, by decide, by decide⟩
  · have e1 : ¬ Str.ofString "cells" = Str.ofString "rest" := by decide +kernel
    have e2 : ¬ Str.ofString "spot" = Str.ofString "rest" := by decide +kernel
    have e3 : ¬ Str.ofString "cells" = Str.ofString "spot" := by decide +kernel
    simp [mergeK, putK, e1, e2, e3, penO]
  · rw [List.length_take]
    have : HT.sIx ns.length ns.length (some 63) = min 63 ns.length := HT.sIx_nat ns.length ns.length 63
    rw [this]
    omega
def spPick (K : PySem.W.Frag) : Sp := fun vs H Q _ => ∃ p o G M b x, vs = [.ref p, x] ∧ Zp G ((p, o) :: M) H ∧ Pen K G b o ∧ b ≤ 1000000000000 ∧
  ((∃ a xs, x = .ref a ∧ (SqL K G a xs ∨ SqT K G a xs) ∧ xs ≠ [] ∧ xs.length ≤ 100000 ∧ ∀ v G1 H1 o1, v ∈ xs → Zp G1 ((p, o1) :: M) H1 → Same G G1 → Pen K G1 (b + 1) o1 → Q v H1) ∨
   (∃ s : Str, x = .str s ∧ 0 < s.length ∧ s.length ≤ 100000 ∧ ∀ ch G1 H1 o1, ch ∈ s.cps.toList → Zp G1 ((p, o1) :: M) H1 → Same G G1 → Pen K G1 (b + 1) o1 → Q (.str ⟨#[ch]⟩) H1))
theorem ok_pick (T : Nm K mg) (C_law_draw : Own P w K mg base CX0 1 "_law_draw" ["_law_pen_here", "_law_size"] (spDraw K)) (F : FnP K "_law_pick" s_law_pick f fd) : FnOk P w K mg base CX0 2 f fd ["_law_pen_here", "_law_items"] (spPick K) := by
  have nd : N_law_pick.Nodup := sc_law_pick.nd
  refine F.ok sc_law_pick (fun vs H Q E h => ?_) (fun cdv A outer s H vs Q E hr h => ?_)
  · obtain ⟨p, o, G, M, b, x, rfl, _⟩ := h
    rfl
  have hu := hr.units
  refine ⟨_, PSs.nox   (pss_one (ps_ret (pe_ix (k_ix (K := K)) (pv 1) (pe_own C_law_draw (hr.mono (by omega)) (by rfl) pass0 (pa_cons (pv 0) (pa_cons (pe_callB (kc_len (K := K) (P := P) (w := w)) (by rfl) T.b_len PySem.boot_len (pa_cons (pv 1) pa_nil)) pa_nil))) (fun _ _ => rfl)))), ?_⟩
  obtain ⟨p, o, G, M, b, x, rfl, z, hp, hb, h⟩ := h
  repeat (walk_at "z")
  rcases h with ⟨a, xs, rfl, hS, h0, h1, q⟩ | ⟨t, rfl, h0, h1, q⟩
  · have h00 : 0 < xs.length := by cases xs with | nil => exact absurd rfl h0 | cons _ _ => exact Nat.succ_pos _
    rcases hS with hS | hS
    · refine z_lenL z hS ?_
      repeat (walk_at "z")
      refine ⟨p, o, G, M, b, _, rfl, z, hp, hb, by omega, by omega, fun r G1 H1 o1 z1 s1 hp1 r0 r1 => ?_⟩
      obtain ⟨v, hv, e⟩ := at_in r0 r1
      exact z_ixL z1 (upL s1 hS) e (q v G1 H1 o1 hv z1 s1 hp1)
    · refine z_lenT z hS ?_
      repeat (walk_at "z")
      refine ⟨p, o, G, M, b, _, rfl, z, hp, hb, by omega, by omega, fun r G1 H1 o1 z1 s1 hp1 r0 r1 => ?_⟩
      obtain ⟨v, hv, e⟩ := at_in r0 r1
      exact z_ixT z1 (upT s1 hS) e (q v G1 H1 o1 hv z1 s1 hp1)
  · refine z_lenS h1 ?_
    repeat (walk_at "z")
    refine ⟨p, o, G, M, b, _, rfl, z, hp, hb, by omega, by omega, fun r G1 H1 o1 z1 s1 hp1 r0 r1 => ?_⟩
    obtain ⟨v, hv, e⟩ := at_in (xs := t.cps.toList) r0 (by rw [Array.length_toList]; exact r1)
    exact z_ixS h1 e (q v G1 H1 o1 hv z1 s1 hp1)
end
end LW
namespace LW
open PySem PySem.Spec PyProof.Rows L2 Ys

/-! ### drawn words are different ones -/
def Cop (st : Int) : Prop := ∀ a b m : Int, st * (a - b) = 26 * m → a - b < 20 → b - a < 20 → a = b
theorem toList_app (x y : Str) : (x ++ y).cps.toList = x.cps.toList ++ y.cps.toList := by
  show (x.cps ++ y.cps).toList = _
  simp
theorem mid_at {x y : Str} {c n : Nat} (h : x.length = n) : (x ++ ⟨#[c]⟩ ++ y).cps.toList[n]? = some c := by
  rw [toList_app, toList_app]
  have hx : x.cps.toList.length = n := by rw [← h]; simp [Str.length]
  rw [List.append_assoc, List.getElem?_append_right (by omega), hx, Nat.sub_self]
  rfl
theorem app_at {x y : Str} {c n : Nat} (h : x.cps.toList[n]? = some c) : (x ++ y).cps.toList[n]? = some c := by
  rw [toList_app, List.getElem?_append_left (List.getElem?_eq_some_iff.mp h).1]
  exact h
theorem snoc_at {fs : List Str} {word : Str} {ch n : Nat} {fr st : Int} (hat : ∀ (i : Nat) (t : Str), fs[i]? = some t → ∃ ch, t.cps.toList[n]? = some ch ∧ atI ("abcdefghijklmnopqrstuvwxyz" : Str).cps.toList ((fr + st * i) % 26) = some ch) (h1 : word.cps.toList[n]? = some ch) (h2 : atI ("abcdefghijklmnopqrstuvwxyz" : Str).cps.toList ((fr + st * (fs.length : Int)) % 26) = some ch) :
    ∀ (i : Nat) (t : Str), (fs ++ [word])[i]? = some t → ∃ ch, t.cps.toList[n]? = some ch ∧ atI ("abcdefghijklmnopqrstuvwxyz" : Str).cps.toList ((fr + st * i) % 26) = some ch := fun i t h => by
  by_cases c : i < fs.length
  · rw [List.getElem?_append_left c] at h
    exact hat i t h
  · rw [List.getElem?_append_right (by omega)] at h
    have hi : i = fs.length := by
      have := (List.getElem?_eq_some_iff.mp h).1
      simp at this
      omega
    subst hi
    rw [Nat.sub_self] at h
    obtain rfl : word = t := by simpa using h
    exact ⟨ch, h1, h2⟩
theorem abc_inj : ∀ i < 26, ∀ j < 26, ("abcdefghijklmnopqrstuvwxyz" : Str).cps.toList[i]? = ("abcdefghijklmnopqrstuvwxyz" : Str).cps.toList[j]? → i = j := by decide +kernel
theorem words_nd {fs : List Str} {n : Nat} {fr st : Int} (hl : fs.length ≤ 20) (f0 : 0 ≤ fr) (hc : Cop st) (hat : ∀ (i : Nat) (t : Str), fs[i]? = some t → ∃ ch, t.cps.toList[n]? = some ch ∧ atI ("abcdefghijklmnopqrstuvwxyz" : Str).cps.toList ((fr + st * i) % 26) = some ch) : fs.Nodup := by
  show List.Pairwise (· ≠ ·) fs
  refine List.pairwise_iff_getElem.mpr fun i j hi hj hij e => ?_
  have h1 : fs[i]? = some fs[i] := List.getElem?_eq_getElem hi
  obtain ⟨c1, g1, a1⟩ := hat i _ h1
  obtain ⟨c2, g2, a2⟩ := hat j fs[i] (by rw [List.getElem?_eq_getElem hj, e])
  rw [g1] at g2
  cases g2
  have m1 := Int.emod_nonneg (fr + st * i) (show (26 : Int) ≠ 0 by decide)
  have m2 := Int.emod_nonneg (fr + st * j) (show (26 : Int) ≠ 0 by decide)
  have l1 := Int.emod_lt_of_pos (fr + st * i) (show (0 : Int) < 26 by decide)
  have l2 := Int.emod_lt_of_pos (fr + st * j) (show (0 : Int) < 26 by decide)
  have key : ∀ {x : Int}, 0 ≤ x → x < 26 → atI ("abcdefghijklmnopqrstuvwxyz" : Str).cps.toList x = ("abcdefghijklmnopqrstuvwxyz" : Str).cps.toList[x.toNat]? := fun {x} h0 h1 => by
    have : ixN ("abcdefghijklmnopqrstuvwxyz" : Str).cps.toList.length x = some x.toNat := by
      unfold ixN
      rw [if_pos h0, if_pos (by rw [show ("abcdefghijklmnopqrstuvwxyz" : Str).cps.toList.length = 26 by decide +kernel]; omega)]
    unfold atI
    rw [this]
    rfl
  rw [key m1 l1] at a1
  rw [key m2 l2] at a2
  have := abc_inj _ (by omega) _ (by omega) (a1.trans a2.symm)
  have he : (fr + st * (i : Int)) % 26 = (fr + st * (j : Int)) % 26 := by omega
  have d1 := Int.emod_add_mul_ediv (fr + st * (i : Int)) 26
  have d2 := Int.emod_add_mul_ediv (fr + st * (j : Int)) 26
  have hm : st * ((i : Int) - (j : Int)) = 26 * ((fr + st * (i : Int)) / 26 - (fr + st * (j : Int)) / 26) := by
    rw [Int.mul_sub]
    omega
  have := hc _ _ _ hm (by omega) (by omega)
  omega
section
variable {P : Program} {w : World} {K : PySem.W.Frag} {mg : Str → Option Value} {base : Heap} {f : Addr} {fd : FuncData}
abbrev OwnD (P : Program) (w : World) (K : PySem.W.Frag) (mg : Str → Option Value) (base : Heap) : Prop := Own P w K mg base CX0 1 "_law_draw" ["_law_pen_here", "_law_size"] (spDraw K)
abbrev OwnP (P : Program) (w : World) (K : PySem.W.Frag) (mg : Str → Option Value) (base : Heap) : Prop := Own P w K mg base CX0 2 "_law_pick" ["_law_pen_here", "_law_items"] (spPick K)
def spWords (K : PySem.W.Frag) : Sp := fun vs H Q _ => ∃ p o G M b, ∃ n : Nat, vs = [.ref p, .int n] ∧ Zp G ((p, o) :: M) H ∧ Pen K G b o ∧ b ≤ 100000000000 ∧ n ≤ 20 ∧
  ∀ l G1 H1 o1, ∀ ss : List Str, Zp G1 ((p, o1) :: M) H1 → Same G G1 → Pen K G1 (b + 10) o1 → G1 l = some (.lst (ss.map V.str)) → ss.length = n → (∀ s ∈ ss, Wd s) → ss.Nodup → Q (.ref l) H1
theorem ok_words (T : Nm K mg) (C_law_draw : OwnD P w K mg base) (C_law_pick : OwnP P w K mg base) (F : FnP K "_law_words" s_law_words f fd) : FnOk P w K mg base CX0 3 f fd ["_law_pen_here", "_law_count"] (spWords K) := by
  have nd : N_law_words.Nodup := sc_law_words.nd
  refine F.ok sc_law_words (fun vs H Q E h => ?_) (fun cdv A outer s H vs Q E hr h => ?_)
  · obtain ⟨p, o, G, M, b, n, rfl, _⟩ := h
    rfl
  have hu := hr.units
  refine ⟨_, PSs.nox   (pss_cons (ps_asg pe_str (pg_name (i := 2) nd rfl (by first | exact .inl rfl | exact .inr rfl)))
    (pss_cons (ps_asg (pe_joinG pe_str (pe_lc (own := [("_law_k", 5)]) (tt := tYes) rfl nd (pi_range1 (by rfl) (T.b_range) (pa_cons (pe_own C_law_draw (hr.mono (by omega)) (by rfl) pass0 (pa_cons (pv 0) (pa_cons pe_int pa_nil))) pa_nil)) (blkOk_by (N := N_law_words) (sc := defScope s_law_words) (by decide +kernel)) (fun _ _ _ _ _ => (pg_name (i := 5) nd rfl (by first | exact .inl rfl | exact .inr rfl))) (fun _ _ _ _ _ => pts_nil) (fun _ _ _ _ _ => (pe_own C_law_pick (hr.mono (by omega)) (by rfl) pass0 (pa_cons (pv 0) (pa_cons (pv 2) pa_nil)))))) (pg_name (i := 3) nd rfl (by first | exact .inl rfl | exact .inr rfl)))
    (pss_cons (ps_par (i := 6) (j := 7) (by rfl) nd rfl rfl (by decide) rfl rfl (pa_cons (pe_own C_law_draw (hr.mono (by omega)) (by rfl) pass0 (pa_cons (pv 0) (pa_cons (pe_op (k_add (K := K)) (pe_callB (kc_len (K := K) (P := P) (w := w)) (by rfl) T.b_len PySem.boot_len (pa_cons (pv 3) pa_nil)) pe_int) pa_nil))) (pa_cons (pe_own C_law_draw (hr.mono (by omega)) (by rfl) pass0 (pa_cons (pv 0) (pa_cons pe_int pa_nil))) pa_nil)) (by rfl))
    (pss_cons (ps_par (i := 8) (j := 9) (by rfl) nd rfl rfl (by decide) rfl rfl (pa_cons (pe_own C_law_pick (hr.mono (by omega)) (by rfl) pass0 (pa_cons (pv 0) (pa_cons (pe_lst (pa_cons pe_int (pa_cons pe_int (pa_cons pe_int (pa_cons pe_int (pa_cons pe_int (pa_cons pe_int (pa_cons pe_int (pa_cons pe_int pa_nil))))))))) pa_nil))) (pa_cons (pe_own C_law_pick (hr.mono (by omega)) (by rfl) pass0 (pa_cons (pv 0) (pa_cons (pe_lst (pa_cons pe_str (pa_cons pe_str (pa_cons pe_str (pa_cons pe_str pa_nil))))) pa_nil))) pa_nil)) (by rfl))
    (pss_cons (ps_asg (pe_lst pa_nil) (pg_name (i := 4) nd rfl (by first | exact .inl rfl | exact .inr rfl)))
    (pss_cons (ps_for PassesOwn.never rfl (pi_range1 (by rfl) (T.b_range) (pa_cons (pv 1) pa_nil)) (pg_name (i := 5) nd rfl (by first | exact .inl rfl | exact .inr rfl)) (pss_cons (ps_asg (pe_op (k_add (K := K)) (pe_op (k_add (K := K)) (pe_slice (k_sl (K := K)) (pv 3) po_none (po_some (pv 6))) (pe_ix (k_ix (K := K)) (pv 2) (pe_op o_mod (pe_callTy c_int (by rfl) T.b_int boot_int (pa_cons (pe_op (k_add (K := K)) (pv 7) (pe_op o_mul (pv 8) (pv 5))) pa_nil)) pe_int) (fun _ _ => rfl))) (pe_slice (k_sl (K := K)) (pv 3) (po_some (pv 6)) po_none)) (pg_name (i := 10) nd rfl (by first | exact .inl rfl | exact .inr rfl)))
    (pss_one (ps_expr (pe_bm PySem.F.plainAttrs_list PySem.F.slot_list_append PySem.F.type_list_append mt_append (pv 4) (pa_cons (pe_ifExp (pt_cmpR (k_eq (K := K) hu) (pe_op o_mod (pe_callTy c_int (by rfl) T.b_int boot_int (pa_cons (pv 5) pa_nil)) pe_int) pe_int (nomark _)) (pe_op (k_add (K := K)) (pv 10) (pv 9)) (pv 10)) pa_nil))))))
    (pss_one (ps_ret (pv 4))))))))), ?_⟩
  obtain ⟨p, o, G, M, b, n, rfl, z, hp, hb, hn, q⟩ := h
  repeat (walk_at "z")
  refine ⟨p, o, G, M, b, _, rfl, z, hp, by omega, by decide, by decide, fun c1 G1 H1 o1 z1 s1 hp1 c0 c6 => ?_⟩
  repeat (walk_at "z")
  refine z_itR (by omega) (by omega) ?_
  refine lc_src src_R (fun i G' M' acc => ∃ o', ∃ ss : List Str, M' = (p, o') :: M ∧ Same G G' ∧ Pen K G' (b + 1 + i) o' ∧ acc = ss.map V.str ∧ ss.length = i ∧ ∀ t ∈ ss, Lt t ∧ t.length = 1) z1 ⟨o1, [], rfl, s1, hp1, rfl, rfl, by simp⟩ (fun _ _ _ _ _ _ _ _ => trivial) ?_ ?_
  · rintro i x G2 M2 acc Dl H2 hx ⟨o2, ss, rfl, s2, hp2, rfl, rfl, hss⟩ z2
    have hi : ss.length < 6 := by
      have := (List.getElem?_eq_some_iff.mp hx).1
      rw [rngV_len] at this
      omega
    repeat (walk_at "z")
    refine ⟨by rfl, ?_⟩
    repeat (walk_at "z")
    refine ⟨p, o2, G2, _, _, _, rfl, z2, hp2, by omega, .inr ⟨_, rfl, by rw [abc_len]; decide, by rw [abc_len]; decide, fun ch G3 H3 o3 hch z3 s3 hp3 => ?_⟩⟩
    refine z_laid (M := (p, o3) :: M) z3 (by rw [List.length_map]; omega) ⟨o3, ss ++ [⟨#[ch]⟩], rfl, s2.trans s3, hp3, by simp, by simp, fun t ht => ?_⟩
    rcases List.mem_append.mp ht with ht | ht
    · exact hss t ht
    · obtain rfl : t = ⟨#[ch]⟩ := by simpa using ht
      exact ⟨Lt.one (abc_mem hch), rfl⟩
  · rintro p2 G2 M2 acc G3 H3 ⟨o2, ss, rfl, s2, hp2, rfl, hlen, hss⟩ s3 z3 e3
    rw [rngV_len] at hlen hp2
    have hl6 : ss.length ≤ 5 := by omega
    have hsum : (Txt.join "" ss).length = ss.length := PySem.W.KT.join_ones ss fun t ht => (hss t ht).2
    have hsm : ∀ l : List Str, (∀ t ∈ l, t.length = 1) → (l.map (·.length)).sum = l.length := by
      intro l
      induction l with
      | nil => intro _; rfl
      | cons a r ih =>
        intro h
        rw [List.map_cons, List.sum_cons, ih fun t ht => h t (List.mem_cons_of_mem _ ht), h a (List.mem_cons_self ..), List.length_cons]
        omega
    refine z_join z3 (SqL.of e3) ?_ ?_
    · rw [hsm ss fun t ht => (hss t ht).2]
      have : ("" : Str).length = 0 := by decide
      rw [this]
      omega
    have hstem : Lt (Txt.join "" ss) := Lt.join fun t ht => (hss t ht).1
    generalize Txt.join "" ss = stem at hstem hsum ⊢
    have hp2 := hp2.mono (c := b + 6) (by omega)
    rw [← hsum] at hlen hl6
    repeat (walk_at "z")
    refine z_lenS (by omega) ?_
    repeat (walk_at "z")
    refine ⟨p, o2, G3, _, _, _, rfl, z3, hp2.up s3, by omega, by omega, by omega, fun at_ G4 H4 o4 z4 s4 hp4 a0 a1 => ?_⟩
    repeat (walk_at "z")
    refine ⟨p, o4, G4, _, _, _, rfl, z4, hp4, by omega, by omega, by omega, fun fr G5 H5 o5 z5 s5 hp5 f0 f1 => ?_⟩
    repeat (walk_at "z")
    refine z_newL z5 (by simp) fun q6 G6 H6 z6 s6 e6 => ?_
    repeat (walk_at "z")
    refine ⟨p, o5, G6, _, _, _, rfl, z6, hp5.up s6, by omega, .inl ⟨q6, _, rfl, .inl (SqL.of e6), by simp, by simp, fun v G7 H7 o7 hv z7 s7 hp7 => ?_⟩⟩
    obtain ⟨st, rfl, st0, st1, stc⟩ : ∃ i, v = V.int i ∧ 0 < i ∧ i < 20 ∧ Cop i := by
      simp at hv
      rcases hv with rfl | rfl | rfl | rfl | rfl | rfl | rfl | rfl <;> exact ⟨_, rfl, by decide, by decide, fun a b m e h1 h2 => by omega⟩
    repeat (walk_at "z")
    refine z_newL z7 (by simp) fun q8 G8 H8 z8 s8 e8 => ?_
    repeat (walk_at "z")
    refine ⟨p, o7, G8, _, _, _, rfl, z8, hp7.up s8, by omega, .inl ⟨q8, _, rfl, .inl (SqL.of e8), by simp, by simp, fun v G9 H9 o9 hv z9 s9 hp9 => ?_⟩⟩
    obtain ⟨tail, rfl, tl0, tl1⟩ : ∃ t : Str, v = V.str t ∧ t.length ≤ 2 ∧ Lt t := by
      have k0 : ("" : Str).length ≤ 2 ∧ ∀ c ∈ ("" : Str).cps.toList, 97 ≤ c ∧ c ≤ 122 := by decide +kernel
      have k1 : ("w" : Str).length ≤ 2 ∧ ∀ c ∈ ("w" : Str).cps.toList, 97 ≤ c ∧ c ≤ 122 := by decide +kernel
      have k2 : ("ww" : Str).length ≤ 2 ∧ ∀ c ∈ ("ww" : Str).cps.toList, 97 ≤ c ∧ c ≤ 122 := by decide +kernel
      rcases List.mem_cons.mp hv with rfl | hv
      · exact ⟨_, rfl, k0⟩
      rcases List.mem_cons.mp hv with rfl | hv
      · exact ⟨_, rfl, k0⟩
      rcases List.mem_cons.mp hv with rfl | hv
      · exact ⟨_, rfl, k1⟩
      rcases List.mem_cons.mp hv with rfl | hv
      · exact ⟨_, rfl, k2⟩
      · cases hv
    have hpz := hp9.mono (c := b + 10) (by omega)
    have sz : Same G G9 := (s2.trans s3).trans ((s4.trans s5).trans ((s6.trans s7).trans (s8.trans s9)))
    clear hp9 hp7 hp5 hp4 hp2 hp1 hp z8 z7 z6 z5 z4 z3 z1 z e3 e6 e8 s9 s8 s7 s6 s5 s4 s3 s2 s1
    repeat (walk_at "z")
    refine z_ownP z9 (by simp) fun fa H10 z10 => ?_
    repeat (walk_at "z")
    refine z_itR (by omega) (by omega) ?_
    refine for_src src_R (fun i σ G' M' => ∃ fs : List Str, ∃ k5 k10 : Option V, M' = (p, o9) :: (fa, .lst (fs.map V.str)) :: M ∧ G' = G9 ∧ fs.length = i ∧ (∀ t ∈ fs, Wd t) ∧ (∀ (i : Nat) (t : Str), fs[i]? = some t → ∃ ch, t.cps.toList[at_.toNat]? = some ch ∧ atI ("abcdefghijklmnopqrstuvwxyz" : Str).cps.toList ((fr + st * i) % 26) = some ch) ∧
      σ = [some (.ref p), some (.int n), some (.str ("abcdefghijklmnopqrstuvwxyz" : Str)), some (.str stem), some (.ref fa), k5, some (.int at_), some (.int fr), some (.int st), some (.str tail), k10])
      z10 ⟨[], _, _, rfl, rfl, rfl, by simp, (fun i t h => by simp at h), rfl⟩ (fun _ _ _ _ _ _ _ => trivial) ?_ ?_
    · rintro i x σ G' M' H' hx ⟨fs, k5, k10, rfl, rfl, rfl, hfs, hat, rfl⟩ z'
      obtain ⟨hi, rfl⟩ := rng_at hx
      generalize hk : (0 : Int) + (fs.length : Int) = k
      repeat (walk_at "z")
      refine z_slS (by omega) ?_
      repeat (walk_at "z")
      refine z_I (mw (by omega) (by omega) (by omega) (by omega)) ?_
      repeat (walk_at "z")
      refine z_I (by decide) ?_
      repeat (walk_at "z")
      obtain ⟨ch, hch, ech⟩ := at_in (xs := ("abcdefghijklmnopqrstuvwxyz" : Str).cps.toList) (i := (fr + st * k) % 26) (Int.emod_nonneg _ (by decide)) (by rw [Array.length_toList]; exact Int.emod_lt_of_pos _ (by decide))
      refine z_ixS (by rw [abc_len]; decide) ech ?_
      have l1 : (cutS stem none (some at_)).length ≤ stem.length := by rw [cutS_len]; have := HT.sIx_le stem.length stem.length (Nat.le_refl _) (some at_); omega
      have hch1 := Lt.one (abc_mem hch)
      have hc1 : (⟨#[ch]⟩ : Str).length = 1 := rfl
      refine z_addS (by omega) ?_
      repeat (walk_at "z")
      refine z_slS (by omega) ?_
      have e1 : (cutS stem none (some at_)).length = at_.toNat := by
        rw [cutS_len]
        show (if at_ < 0 then (at_ + (stem.length : Int)).toNat else min at_.toNat stem.length) - 0 = at_.toNat
        rw [if_neg (by omega)]
        omega
      have e2 : (cutS stem (some at_) none).length = stem.length - at_.toNat := by
        rw [cutS_len]
        show stem.length - (if at_ < 0 then (at_ + (stem.length : Int)).toNat else min at_.toNat stem.length) = stem.length - at_.toNat
        rw [if_neg (by omega)]
        omega
      have e3 : (cutS stem none (some at_) ++ ⟨#[ch]⟩).length = at_.toNat + 1 := by rw [len_app, e1]; rfl
      refine z_addS (by omega) ?_
      have e4 : (cutS stem none (some at_) ++ ⟨#[ch]⟩ ++ cutS stem (some at_) none).length = stem.length + 1 := by rw [len_app, e3, e2]; omega
      have e5 : Lt (cutS stem none (some at_) ++ ⟨#[ch]⟩ ++ cutS stem (some at_) none) := ((hstem.cut _ _).app hch1).app (hstem.cut _ _)
      have e6 : (cutS stem none (some at_) ++ ⟨#[ch]⟩ ++ cutS stem (some at_) none).cps.toList[at_.toNat]? = some ch := mid_at e1
      have ech' : atI ("abcdefghijklmnopqrstuvwxyz" : Str).cps.toList ((fr + st * (fs.length : Int)) % 26) = some ch := by rw [← ech, ← hk, Int.zero_add]
      generalize cutS stem none (some at_) ++ ⟨#[ch]⟩ ++ cutS stem (some at_) none = word at e4 e5 e6
      repeat (walk_at "z")
      refine z_tyO z' 1 rfl ?_
      repeat (walk_at "z")
      refine z_I (by decide) ?_
      repeat (walk_at "z")
      refine z_eqS rfl ?_
      repeat (walk_at "z")
      refine z_b2 (fun _ => ?_) (fun _ => ?_)
      · repeat (walk_at "z")
        refine z_addS (by omega) ?_
        repeat (walk_at "z")
        refine z_append z' 1 rfl (by rw [List.length_map]; omega) fun H'' z'' => ?_
        repeat (walk_at "z")
        refine ⟨_, _, z'', fs ++ [word ++ tail], _, _, by simp, rfl, by simp, fun t ht => ?_, ?hat, rfl⟩
        case hat => exact snoc_at hat (by rw [app_at e6]) ech'
        rcases List.mem_append.mp ht with ht | ht
        · exact hfs t ht
        · obtain rfl : t = word ++ tail := by simpa using ht
          exact ⟨by rw [len_app]; omega, by rw [len_app]; omega, e5.app tl1⟩
      · repeat (walk_at "z")
        refine z_append z' 1 rfl (by rw [List.length_map]; omega) fun H'' z'' => ?_
        repeat (walk_at "z")
        refine ⟨_, _, z'', fs ++ [word], _, _, by simp, rfl, by simp, fun t ht => ?_, ?hat, rfl⟩
        case hat => exact snoc_at hat e6 ech'
        rcases List.mem_append.mp ht with ht | ht
        · exact hfs t ht
        · obtain rfl : t = word := by simpa using ht
          exact ⟨by omega, by omega, e5⟩
    · rintro σ G' M' H' ⟨fs, k5, k10, rfl, rfl, hfl, hfs, hat, rfl⟩ z'
      rw [rngV_len] at hfl
      repeat (walk_at "z")
      obtain ⟨z'', n''⟩ := z'.fix2
      exact q fa _ _ o9 fs z'' (sz.trans (Same.new n'')) (hpz.up (Same.new n'')) upd_same (by omega) hfs (words_nd (by omega) f0 stc hat)
end
end LW
namespace LW
open PySem PySem.Spec PyProof.Rows L2 Ys

section
variable {P : Program} {w : World} {K : PySem.W.Frag} {mg : Str → Option Value} {base : Heap} {f : Addr} {fd : FuncData}
def spShuf (K : PySem.W.Frag) : Sp := fun vs H Q _ => ∃ p o G M b a, ∃ xs : List V, vs = [.ref p, .ref a] ∧ Zp G ((p, o) :: M) H ∧ Pen K G b o ∧ b + xs.length ≤ 1000000000000 ∧ (SqL K G a xs ∨ SqT K G a xs) ∧ (∀ v ∈ xs, El K G v) ∧ xs.length ≤ 1000 ∧
  ∀ l ys G1 H1 o1, Zp G1 ((p, o1) :: (l, .lst ys) :: M) H1 → Same G G1 → Pen K G1 (b + xs.length) o1 → ys.Perm xs → Q (.ref l) H1
end
end LW
namespace LW
open PySem PySem.Spec PyProof.Rows L2 Ys
end LW
namespace LW
open PySem PySem.Spec PyProof.Rows L2 Ys

/-! ### what the words' functions tell -/
def abcL : List Nat := (("abcdefghijklmnopqrstuvwxyz" : Str)).cps.toList
def wordS (s : Str) : Bool := decide (1 ≤ s.length) && (decide (s.length ≤ 8) && s.cps.toList.all fun c => decide (c ∈ abcL))
def isStrD : PyData → Bool
  | .str _ => true
  | _ => false
def wordD : PyData → Bool
  | .str s => wordS s
  | _ => false
def intD : PyData → Bool
  | .int _ => true
  | _ => false
def listD : PyData → Bool
  | .list _ => true
  | .tuple _ => true
  | _ => false
def itemsD : PyData → List PyData
  | .list ds => ds
  | .tuple ds => ds
  | _ => []
theorem wordD_ns {d : PyData} (h : isStrD d = false) : wordD d = false := by cases d <;> first | rfl | cases h
theorem kit_str (d : PyData) : kitB (tyD d) "str" = some (isStrD d) := by cases d <;> (simp only [tyD, isStrD]; decide +kernel)
theorem all_map_bl {α : Type} (f : α → Bool) (l : List α) : (l.map f).all id = l.all f := by rw [List.all_map]; rfl
def ShortD (d : PyData) : Prop := ∀ s, d = .str s → s.length ≤ 100000
section
variable {P : Program} {w : World} {K : PySem.W.Frag} {mg : Str → Option Value} {base : Heap} {f : Addr} {fd : FuncData}
def spWord (K : PySem.W.Frag) : Sp := fun vs H Q _ => ∃ G M v d, vs = [v] ∧ Zp G M H ∧ Dt K G v d ∧ ShortD d ∧ ∀ G1 H1, Zp G1 M H1 → Same G G1 → Q (.bl (wordD d)) H1
theorem ok_is_word (T : Nm K mg) (F : FnP K "is_word" s_is_word f fd) : FnOk P w K mg base CX0 1 f fd ["value"] (spWord K) := by
  have nd : N_is_word.Nodup := sc_is_word.nd
  refine F.ok sc_is_word (fun vs H Q E h => ?_) (fun cdv A outer s H vs Q E hr h => ?_)
  · obtain ⟨G, M, v, d, rfl, _⟩ := h
    rfl
  have hu := hr.units
  refine ⟨_, PSs.nox   (pss_cons (ps_if (PW.pt (pw_or (pt_not (pt_val (pe_callB (kc_isi (K := K)) (by rfl) T.b_isinstance boot_isinstance (pa_cons (pv 0) (pa_cons (pe_bltn (v := .ty "str") (by rfl) T.b_str boot_str rfl) pa_nil))))) (pw_or1 (pt_not (pt_chain o_le o_le pe_int (pe_callB (kc_len (K := K) (P := P) (w := w)) (by rfl) T.b_len PySem.boot_len (pa_cons (pv 0) pa_nil)) (pe_gC T.g_LONGEST_WORD (by rfl))))))) (pss_one (ps_ret pe_bl)) pss_nil)
    (pss_one (ps_ret (pe_callB (kc_all (K := K) rfl) (by rfl) T.b_all boot_all (pa_cons (pe_lc (own := [("letter", 1)]) (tt := tYes) rfl nd (k_any (K := K) (pv 0)) (blkOk_by (N := N_is_word) (sc := defScope s_is_word) (by decide +kernel)) (fun _ _ _ _ _ => (pg_name (i := 1) nd rfl (by first | exact .inl rfl | exact .inr rfl))) (fun _ _ _ _ _ => pts_nil) (fun _ _ _ _ _ => (pe_cmpR (k_in (K := K)) (pv 1) (pe_gC T.g_LETTERS (by rfl)) (by rfl)))) pa_nil))))), ?_⟩
  obtain ⟨G, M, v, d, rfl, z, hd, hs, q⟩ := h
  repeat (walk_at "z")
  refine z_isi (.ty "str") (hd.up z.sub).ty (kit_ty (kit_str d)) ?_
  cases hi : isStrD d with
  | false =>
    repeat (walk_at "z")
    have := q G H z (Same.refl G)
    rw [wordD_ns hi] at this
    exact this
  | true =>
    cases hd with
    | str t =>
      have hl := hs t rfl
      repeat (walk_at "z")
      refine z_lenS hl ?_
      repeat (walk_at "z")
      by_cases c1 : 1 ≤ t.length
      · rw [decide_eq_true (show (1 : Int) ≤ (t.length : Int) by omega)]
        repeat (walk_at "z")
        by_cases c2 : t.length ≤ 8
        · rw [decide_eq_true (show (t.length : Int) ≤ 8 by omega)]
          repeat (walk_at "z")
          refine z_anyS ?_
          repeat (walk_at "z")
          refine z_itS ?_
          refine lc_src src_S (fun i G' M' acc => M' = M ∧ G' = G ∧ acc = ((t.cps.toList.take i).map fun c => V.bl (decide (c ∈ abcL)))) z ⟨rfl, rfl, rfl⟩ (fun _ _ _ _ _ _ _ _ => trivial) ?_ ?_
          · rintro i x G2 M2 acc Dl H2 hx ⟨rfl, rfl, rfl⟩ z2
            obtain ⟨c, hc, rfl⟩ : ∃ c, t.cps.toList[i]? = some c ∧ x = V.str ⟨#[c]⟩ := by
              unfold chrV at hx
              rw [List.getElem?_map] at hx
              cases e : t.cps.toList[i]? with
              | none => rw [e] at hx; cases hx
              | some c => rw [e] at hx; exact ⟨c, rfl, (Option.some.inj hx).symm⟩
            repeat (walk_at "z")
            refine ⟨by rfl, ?_⟩
            repeat (walk_at "z")
            refine z_inS ?_
            refine z_laid z2 (by rw [List.length_map, List.length_take, Array.length_toList]; show min _ t.length ≤ _; omega) ⟨rfl, rfl, ?_⟩
            rw [List.take_add_one, hc]
            simp [abcL]
          · rintro p2 G2 M2 acc G3 H3 ⟨rfl, rfl, rfl⟩ s3 z3 e3
            rw [chrV_len, show t.length = t.cps.toList.length from (Array.length_toList).symm, List.take_length] at e3
            repeat (walk_at "z")
            refine z_all (bs := t.cps.toList.map fun c => decide (c ∈ abcL)) z3 (SqL.of (by rw [List.map_map]; exact e3)) ?_
            have := q G3 H3 z3 s3
            rw [all_map_bl]
            have e : wordD (.str t) = t.cps.toList.all fun c => decide (c ∈ abcL) := by
              show (decide _ && (decide _ && _)) = _
              rw [decide_eq_true c1, decide_eq_true c2]
              rfl
            rw [e] at this
            exact this
        · rw [decide_eq_false (show ¬ (t.length : Int) ≤ 8 by omega)]
          repeat (walk_at "z")
          have := q G H z (Same.refl G)
          have e : wordD (.str t) = false := by
            show (decide _ && (decide _ && _)) = _
            rw [decide_eq_false c2, Bool.false_and, Bool.and_false]
          rw [e] at this
          exact this
      · rw [decide_eq_false (show ¬ (1 : Int) ≤ (t.length : Int) by omega)]
        repeat (walk_at "z")
        have := q G H z (Same.refl G)
        have e : wordD (.str t) = false := by
          show (decide _ && (decide _ && _)) = _
          rw [decide_eq_false c1, Bool.false_and]
        rw [e] at this
        exact this
    | _ => cases hi
def spAsc (K : PySem.W.Frag) : Sp := fun vs H Q _ => ∃ G M a, ∃ ss : List Str, vs = [.ref a] ∧ Zp G M H ∧ SqL K H a (ss.map V.str) ∧ ss.length < 64 ∧
  ∀ p G1 H1, Zp G1 M H1 → Same G G1 → SqT K G1 p ((asc ss).map V.str) → Q (.ref p) H1
theorem ok_asc (T : Nm K mg) (F : FnP K "ascending" s_ascending f fd) : FnOk P w K mg base CX0 1 f fd ["words"] (spAsc K) := by
  have nd : N_ascending.Nodup := sc_ascending.nd
  refine F.ok sc_ascending (fun vs H Q E h => ?_) (fun cdv A outer s H vs Q E hr h => ?_)
  · obtain ⟨G, M, a, ss, rfl, _⟩ := h
    rfl
  have hu := hr.units
  refine ⟨_, PSs.nox   (pss_one (ps_ret (pe_callTy (kc_tuple (K := K)) (by rfl) T.b_tuple boot_tuple (pa_cons (pe_callB (kc_sorted (K := K) (P := P) (w := w) rfl) (by rfl) T.b_sorted boot_sorted (pa_cons (pe_callTy (kc_set (K := K) (P := P) (w := w) rfl) (by rfl) T.b_set boot_set (pa_cons (pv 0) pa_nil)) pa_nil)) pa_nil)))), ?_⟩
  obtain ⟨G, M, a, ss, rfl, z, hS, hs, q⟩ := h
  repeat (walk_at "z")
  refine z_setH z (.inl hS) (by omega) fun p l G2 H2 z2 s2 e2 m2 nd2 l2 => ?_
  repeat (walk_at "z")
  refine z_sortX z2 e2 m2 nd2 (by omega) fun p3 G3 H3 z3 s3 e3 => ?_
  repeat (walk_at "z")
  exact z_tupL z3 (SqL.of e3) fun p4 G4 H4 z4 s4 h4 => q p4 G4 H4 z4 ((s2.trans s3).trans s4) h4
end
end LW
namespace LW
open PySem PySem.Spec PyProof.Rows L2 Ys

def boolD : PyData → Bool
  | .bool _ => true
  | _ => false
theorem kit_int (d : PyData) : kitB (tyD d) "int" = some (intD d || boolD d) := by cases d <;> (simp only [tyD, intD, boolD]; decide +kernel)
theorem kit_bool (d : PyData) : kitB (tyD d) "bool" = some (boolD d) := by cases d <;> (simp only [tyD, boolD]; decide +kernel)
def isLD : PyData → Bool
  | .list _ => true
  | _ => false
def isTDV : PyData → Bool
  | .tuple _ => true
  | _ => false
theorem kit_list {K : PySem.W.Frag} (d : PyData) : PySem.W.kitAny K (.type (tyD d)) [.type "list", .type "tuple"] = some (listD d) := by
  have k1 : kitB (tyD d) "list" = some (isLD d) := by cases d <;> (simp only [tyD, isLD]; decide +kernel)
  have k2 : kitB (tyD d) "tuple" = some (isTDV d) := by cases d <;> (simp only [tyD, isTDV]; decide +kernel)
  refine kitAny_cons (kit_ty k1) (fun h => kitAny_cons (kit_ty k2) (fun h2 => ?_) fun h2 => ?_) fun h => ?_
  · rw [kitAny_nil]
    cases d <;> first | rfl | (cases h2; done) | (cases h; done)
  · cases d <;> first | rfl | cases h2
  · cases d <;> first | rfl | cases h
def withinD (a b : Int) : PyData → Bool
  | .int i => decide (a ≤ i) && decide (i ≤ b)
  | _ => false
def moreD (m : Option Int) (ds : List PyData) : Bool := match m with
  | none => true
  | some m => decide ((ds.length : Int) ≤ m)
def wordsD (m : Option Int) (d : PyData) : Bool := listD d && (moreD m (itemsD d) && (itemsD d).all wordD)
def strOf : PyData → Str
  | .str s => s
  | _ => ""
def diffD (m : Option Int) (d : PyData) : Bool := wordsD m d && decide ((dd ((itemsD d).map strOf)).length = (itemsD d).length)
def mV : Option Int → V
  | none => .non
  | some i => .int i
section
variable {P : Program} {w : World} {K : PySem.W.Frag} {mg : Str → Option Value} {base : Heap} {f : Addr} {fd : FuncData}
def spInt (K : PySem.W.Frag) : Sp := fun vs H Q _ => ∃ G M v d, vs = [v] ∧ Zp G M H ∧ Dt K G v d ∧ Q (.bl (intD d)) H
theorem ok_is_integer (T : Nm K mg) (F : FnP K "is_integer" s_is_integer f fd) : FnOk P w K mg base CX0 1 f fd ["value"] (spInt K) := by
  have nd : N_is_integer.Nodup := sc_is_integer.nd
  refine F.ok sc_is_integer (fun vs H Q E h => ?_) (fun cdv A outer s H vs Q E hr h => ?_)
  · obtain ⟨G, M, v, d, rfl, _⟩ := h
    rfl
  have hu := hr.units
  refine ⟨_, PSs.nox   (pss_one (ps_ret (pe_and (pe_callB (kc_isi (K := K)) (by rfl) T.b_isinstance boot_isinstance (pa_cons (pv 0) (pa_cons (pe_bltn (v := .ty "int") (by rfl) T.b_int boot_int rfl) pa_nil))) (pe_one (pe_not (pe_callB (kc_isi (K := K)) (by rfl) T.b_isinstance boot_isinstance (pa_cons (pv 0) (pa_cons (pe_bltn (v := .ty "bool") (by rfl) T.b_bool boot_bool rfl) pa_nil)))))))), ?_⟩
  obtain ⟨G, M, v, d, rfl, z, hd, q⟩ := h
  repeat (walk_at "z")
  refine z_isi (.ty "int") (hd.up z.sub).ty (kit_ty (kit_int d)) ?_
  repeat (walk_at "z")
  have e : intD d = ((intD d || boolD d) && !boolD d) := by cases d <;> rfl
  cases h1 : (intD d || boolD d) with
  | false =>
    repeat (walk_at "z")
    rw [e, h1] at q
    exact q
  | true =>
    repeat (walk_at "z")
    refine z_isi (.ty "bool") (hd.up z.sub).ty (kit_ty (kit_bool d)) ?_
    repeat (walk_at "z")
    rw [e, h1, Bool.true_and] at q
    exact q
def spWithin (K : PySem.W.Frag) : Sp := fun vs H Q _ => ∃ G M v d a b, vs = [v, .int a, .int b] ∧ Zp G M H ∧ Dt K G v d ∧ Q (.bl (withinD a b d)) H
theorem ok_is_within (T : Nm K mg) (C_is_integer : Own P w K mg base CX0 1 "is_integer" ["value"] (spInt K)) (F : FnP K "is_within" s_is_within f fd) : FnOk P w K mg base CX0 2 f fd ["value", "least", "most"] (spWithin K) := by
  have nd : N_is_within.Nodup := sc_is_within.nd
  refine F.ok sc_is_within (fun vs H Q E h => ?_) (fun cdv A outer s H vs Q E hr h => ?_)
  · obtain ⟨G, M, v, d, a, b, rfl, _⟩ := h
    rfl
  have hu := hr.units
  refine ⟨_, PSs.nox   (pss_one (ps_ret (pe_and (pe_own C_is_integer (hr.mono (by omega)) (by rfl) pass0 (pa_cons (pv 0) pa_nil)) (pe_one (pe_chain o_le o_le (pv 1) (pv 0) (pv 2)))))), ?_⟩
  obtain ⟨G, M, v, d, a, b, rfl, z, hd, q⟩ := h
  repeat (walk_at "z")
  refine ⟨G, M, v, d, rfl, z, hd, ?_⟩
  repeat (walk_at "z")
  cases hi : intD d with
  | false =>
    repeat (walk_at "z")
    have e : withinD a b d = false := by cases d <;> first | rfl | cases hi
    rw [e] at q
    exact q
  | true =>
    cases hd with
    | int i =>
      repeat (walk_at "z")
      refine z_b2 (fun c => ?_) (fun c => ?_)
      · repeat (walk_at "z")
        have e : withinD a b (.int i) = decide (i ≤ b) := by
          show (decide (a ≤ i) && _) = _
          rw [c]
          rfl
        rw [e] at q
        exact q
      · have e : withinD a b (.int i) = false := by
          show (decide (a ≤ i) && _) = _
          rw [c]
          rfl
        rw [e] at q
        exact q
    | _ => cases hi
def spIsList (K : PySem.W.Frag) : Sp := fun vs H Q _ => ∃ G M v d, vs = [v] ∧ Zp G M H ∧ Ar K G M v d ∧ ∀ G1 H1, Zp G1 M H1 → Same G G1 → Q (.bl (listD d)) H1
abbrev OwnWV (P : Program) (w : World) (K : PySem.W.Frag) (mg : Str → Option Value) (base : Heap) : Prop := Own P w K mg base CX0 1 "is_word" ["value"] (spWord K)
abbrev OwnL (P : Program) (w : World) (K : PySem.W.Frag) (mg : Str → Option Value) (base : Heap) : Prop := Own P w K mg base CX0 1 "is_list" ["value"] (spIsList K)
def FineD (d : PyData) : Prop := (itemsD d).length ≤ 500 ∧ ∀ e ∈ itemsD d, ShortD e
def spAreWords (K : PySem.W.Frag) : Sp := fun vs H Q _ => ∃ G M v d m, vs = [v, mV m] ∧ Zp G M H ∧ Ar K G M v d ∧ FineD d ∧ ∀ G1 H1, Zp G1 M H1 → Same G G1 → Q (.bl (wordsD m d)) H1
theorem words_lc {G : Hp} {M : List (Addr × HO)} {H : Hp} {J : It} {xs : List V} {ds : List PyData} {OK : Hp → Prop} {σ : L2.St} {Q : VK} {v mv : V} (S : Src J xs OK) (hd : Dts K G xs ds) (z : Zp G M H) (hf : ds.length ≤ 500) (hs : ∀ e ∈ ds, ShortD e)
    (ok : ∀ G' M1 H', Same G G' → Zp G' (M ++ M1) H' → OK H') (q : ∀ p G1 H1, Zp G1 M H1 → Same G G1 → G1 p = some (.lst ((ds.map wordD).map V.bl)) → Q (.ref p) H1) (hσ : σ = [some v, some mv, none]) :
    LcW J (gName 2) tYes (tCall (spWord K) [] E0 (tCons (tVar 2) tNil)) [2] σ H Q := by
  subst hσ
  have hl := hd.len (ds := ds)
  refine lc_src S (fun i G' M' acc => M' = M ∧ Same G G' ∧ acc = ((ds.take i).map wordD).map V.bl) z ⟨rfl, Same.refl G, rfl⟩ ?_ ?_ ?_
  · rintro i G' M' M1 acc H' ⟨rfl, s1, _⟩ z'
    exact ok G' M1 H' s1 z'
  · rintro i x G2 M2 acc Dl H2 hx ⟨rfl, s2, rfl⟩ z2
    obtain ⟨d, h1, h2⟩ := hd.at_ hx
    repeat (walk_at "z")
    refine ⟨by rfl, ?_⟩
    repeat (walk_at "z")
    refine ⟨G2, _, x, d, rfl, z2, h2.up s2, hs d (List.mem_of_getElem? h1), fun G3 H3 z3 s3 => ?_⟩
    refine z_laid z3 (by rw [List.length_map, List.length_map, List.length_take]; omega) ⟨rfl, s2.trans s3, ?_⟩
    rw [List.take_add_one, h1]
    simp
  · rintro p2 G2 M2 acc G3 H3 ⟨rfl, s2, rfl⟩ s3 z3 e3
    rw [hl, List.take_length] at e3
    exact q p2 G3 H3 z3 (s2.trans s3) e3
end
end LW
namespace LW
open PySem PySem.Spec PyProof.Rows L2 Ys

/-! ### dicts of texts, what they hold as data -/
def lookE : List (Str × PyData) → Str → PyData
  | [], _ => .none
  | q :: r, s => if q.1 = s then q.2 else lookE r s
def EvK (K : PySem.W.Frag) (G : Hp) (p : Key × V) (q : Str × PyData) : Prop := p.1 = .inr q.1 ∧ Dt K G p.2 q.2
abbrev KvE (K : PySem.W.Frag) (G : Hp) (kvs : List (Key × V)) (es : List (Str × PyData))   : Prop := Paired (EvK K G) kvs es
theorem KvE.keys {K : PySem.W.Frag} {G : Hp} : ∀ {kvs : List (Key × V)} {es : List (Str × PyData)}, KvE K G kvs es → kvs.map (·.1) = (es.map (·.1)).map .inr
  | _, _, .nil => rfl
  | _, _, .cons h t => by rw [List.map_cons, List.map_cons, List.map_cons, KvE.keys t, h.1]
theorem KvE.up {K : PySem.W.Frag} {G G1 : Hp} {kvs : List (Key × V)} {es : List (Str × PyData)} (h : KvE K G kvs es) (s : Same G G1) : KvE K G1 kvs es := L2.Paired.mapP h fun _ _ h => ⟨h.1, h.2.up s⟩
theorem KvE.val {K : PySem.W.Frag} {G : Hp} {s : Str} : ∀ {kvs : List (Key × V)} {es : List (Str × PyData)}, KvE K G kvs es → s ∈ es.map (·.1) → ∃ v, valV kvs (.inr s) = some v ∧ Dt K G v (lookE es s)
  | _, _, .nil, h => by cases h
  | _, _, .cons (a := p) (b := q) h t, hs => by
    by_cases c : q.1 = s
    · exact ⟨p.2, valV_pos (by rw [h.1, c]), by unfold lookE; rw [if_pos c]; exact h.2⟩
    · rw [List.map_cons, List.mem_cons] at hs
      obtain ⟨v, e, d⟩ := KvE.val t (hs.elim (fun e => absurd e.symm c) id)
      exact ⟨v, by rw [valV_neg (fun e => c (Sum.inr.inj (h.1.symm.trans e)))]; exact e, by unfold lookE; rw [if_neg c]; exact d⟩
structure EsOk (es : List (Str × PyData)) : Prop where
  sh : ∀ q ∈ es, q.1.length ≤ 100
  ln : es.length ≤ 20
def numD (d : PyData) : Bool := withinD 0 1000000000000000000000000000000 d
theorem numD_int {d : PyData} (h : numD d = true) : ∃ i, d = .int i := by
  cases d with
  | int i => exact ⟨i, rfl⟩
  | _ => cases h
def bad1 {α : Type} (f : α → Bool) (l : List α) : Option α := (l.filter fun x => !f x).head?
theorem bad1_at {α : Type} {f : α → Bool} {s : α} : ∀ {l : List α} {i : Nat}, l[i]? = some s → (∀ x ∈ l.take i, f x = true) → f s = false → bad1 f l = some s
  | [], _, h, _, _ => by simp at h
  | x :: l, 0, h, _, hs => by
    obtain rfl : x = s := by simpa using h
    unfold bad1
    rw [List.filter_cons, if_pos (by simp [hs])]
    rfl
  | x :: l, i + 1, h, ha, hs => by
    unfold bad1
    rw [List.filter_cons, if_neg (by simpa using ha x (by simp))]
    exact bad1_at (l := l) (i := i) (by simpa using h) (fun y hy => ha y (by rw [List.take_succ_cons]; exact List.mem_cons_of_mem _ hy)) hs
theorem bad1_no {α : Type} {f : α → Bool} {l : List α} (h : ∀ x ∈ l, f x = true) : bad1 f l = none := by
  unfold bad1
  rw [List.filter_eq_nil_iff.mpr fun x hx => by simp [h x hx]]
  rfl
def keysE (es : List (Str × PyData)) : List Str := asc (es.map (·.1))
def dueE (es : List (Str × PyData)) : Option PyData := match bad1 wordS (keysE es) with
  | some s => some (.str s)
  | none => bad1 numD ((keysE es).map (lookE es))
theorem dueE_w {es : List (Str × PyData)} {s : Str} (h : bad1 wordS (keysE es) = some s) : dueE es = some (.str s) := by unfold dueE; rw [h]
theorem dueE_n {es : List (Str × PyData)} (h : bad1 wordS (keysE es) = none) : dueE es = bad1 numD ((keysE es).map (lookE es)) := by unfold dueE; rw [h]
theorem asc_lenS (l : List Str) : (asc l).length ≤ l.length := by
  have h1 : (asc l).length = (dd l).length := (List.mergeSort_perm _ _).length_eq
  have h2 : ∀ l : List Str, (dd l).length ≤ l.length := by
    intro l
    induction l with
    | nil => exact Nat.le_refl _
    | cons x r ih =>
      show (if x ∈ r then dd r else x :: dd r).length ≤ _
      split
      · exact Nat.le_succ_of_le ih
      · exact Nat.succ_le_succ ih
  rw [h1]
  exact h2 l
theorem z_dgU {G H : Hp} {M : List (Addr × HO)} {d : Addr} {kvs : List (Key × V)} {k : Str} {v : V} {Q : VK} (z : Zp G M H) (h : FzD G d kvs) (e : valV kvs (.inr k) = some v) (q : Q v H) : DgW (.ref d) (.str k) H Q := ⟨d, v, rfl, .inl ⟨kvs, .inr k, h.rd z, rfl, e.symm⟩, q⟩
theorem keysE_len {es : List (Str × PyData)} (h : EsOk es) : (keysE es).length ≤ 20 := by
  have := asc_lenS (es.map (·.1))
  rw [List.length_map] at this
  have := h.ln
  show (asc _).length ≤ 20
  omega
theorem keysE_sh {es : List (Str × PyData)} (h : EsOk es) {s : Str} (hs : s ∈ keysE es) : s ∈ es.map (·.1) ∧ ShortD (.str s) := by
  have hm := asc_mem.mp hs
  refine ⟨hm, fun s' e => ?_⟩
  cases e
  obtain ⟨q, hq, rfl⟩ := List.mem_map.mp hm
  exact Nat.le_trans (h.sh q hq) (by decide)
theorem take_app {α : Type} {l : List α} {i : Nat} {x : α} (h : l[i]? = some x) : l.take (i + 1) = l.take i ++ [x] := by rw [List.take_add_one, h]; rfl
/-! ### a value that may be shown: data, or a dict with keys of all kinds -/
def Sh1 (K : PySem.W.Frag) (w : World) (G : Hp) (v : V) (d : PyData) : Prop := Dt K G v d ∨ ∃ a od kvs ds, v = .ref a ∧ G a = some (.frz od (Dxo w a kvs)) ∧ NDs K G kvs ds ∧ d = .dict ds
theorem nds_up {K : PySem.W.Frag} {G G1 : Hp} (s : Same G G1) : ∀ {kvs : List NV} {ds : List (PyData × PyData)}, NDs K G kvs ds → NDs K G1 kvs ds
  | _, _, .nil => .nil
  | _, _, .cons h1 h2 t => .cons (h1.up s) (h2.up s) (nds_up s t)
theorem Sh1.up {K : PySem.W.Frag} {w : World} {G G1 : Hp} {v : V} {d : PyData} (h : Sh1 K w G v d) (s : Same G G1) : Sh1 K w G1 v d := h.imp (fun h => h.up s) fun ⟨a, od, kvs, ds, e, g, n, e2⟩ => ⟨a, od, kvs, ds, e, s _ _ g, nds_up s n, e2⟩
theorem z_reprX1 {K : PySem.W.Frag} {w : World} {G H : Hp} {M : List (Addr × HO)} {v : V} {d : PyData} {Q : VK} (z : Zp G M H) (h : Sh1 K w G v d) (s1 : d.showable = true) (s2 : d.depth ≤ 60) (s3 : d.shown.length ≤ 100000) (q : Q (.str d.shown) H) : rReprX K w [v] H Q := by
  rcases h with h | ⟨a, od, kvs, ds, rfl, g, n, rfl⟩
  · exact .inl ⟨v, d, rfl, z.dt h, s1, s2, Nat.le_trans s3 (by decide), q⟩
  · exact .inr ⟨a, od, kvs, ds, rfl, z.sub _ _ g, nds_up z.sub n, s1, s2, Nat.le_trans s3 (by decide), q⟩
/-! ### a drawn value -/
inductive VV where
  | dat (d : PyData)
  | txt (es : List (Str × PyData))
  | odd (ds : List (PyData × PyData))
def ndict : PyData → Bool
  | .dict _ => false
  | _ => true
def dataV : VV → PyData
  | .dat d => d
  | .txt es => .dict (es.map fun q => (.str q.1, q.2))
  | .odd ds => .dict ds
def dueV : VV → Option PyData
  | .dat d => some d
  | .txt es => dueE es
  | .odd ds => some (.dict ds)
def Wv (K : PySem.W.Frag) (w : World) (G : Hp) (v : V) : VV → Prop
  | .dat d => Dt K G v d ∧ ndict d = true
  | .txt es => ∃ a kvs, v = .ref a ∧ FzD G a kvs ∧ KvE K G kvs es ∧ EsOk es
  | .odd ds => ∃ a od kvs, v = .ref a ∧ G a = some (.frz od (Dxo w a kvs)) ∧ NDs K G kvs ds ∧ kvs.length ≤ 20 ∧ ds.all (fun p => isStrD p.1) = false
theorem Wv.up {K : PySem.W.Frag} {w : World} {G G1 : Hp} {v : V} (s : Same G G1) : ∀ {vv : VV}, Wv K w G v vv → Wv K w G1 v vv
  | .dat _, h => ⟨h.1.up s, h.2⟩
  | .txt _, ⟨a, kvs, e, f, k, o⟩ => ⟨a, kvs, e, f.up s, k.up s, o⟩
  | .odd _, ⟨a, od, kvs, e, g, n, l, o⟩ => ⟨a, od, kvs, e, s _ _ g, nds_up s n, l, o⟩
theorem dts_kv {K : PySem.W.Frag} {G : Hp} : ∀ {kvs : List (Key × V)} {es : List (Str × PyData)}, KvE K G kvs es → Dts K G (kvs.map (·.2)) ((es.map fun q => (PyData.str q.1, q.2)).map (·.2))
  | _, _, .nil => .nil
  | _, _, .cons h t => .cons h.2 (dts_kv t)
theorem dt_kv {K : PySem.W.Frag} {G : Hp} {a : Addr} {kvs : List (Key × V)} {es : List (Str × PyData)} (f : FzD G a kvs) (h : KvE K G kvs es) : Dt K G (.ref a) (.dict (es.map fun q => (.str q.1, q.2))) := by
  obtain ⟨od, e⟩ := f
  refine .dct (.inr ⟨od, e⟩) ?_ (dts_kv h)
  have e1 : kvs.map (fun p => kD p.1) = (kvs.map (·.1)).map kD := by rw [List.map_map]; rfl
  rw [e1, h.keys, List.map_map, List.map_map, List.map_map]
  rfl
theorem Wv.sh {K : PySem.W.Frag} {w : World} {G : Hp} {v : V} : ∀ {vv : VV}, Wv K w G v vv → Sh1 K w G v (dataV vv)
  | .dat _, h => .inl h.1
  | .txt _, ⟨a, kvs, e, f, k, o⟩ => .inl (e ▸ dt_kv f k)
  | .odd _, ⟨a, od, kvs, e, g, n, l, o⟩ => .inr ⟨a, od, kvs, _, e, g, n, rfl⟩
section
variable {P : Program} {w : World} {K : PySem.W.Frag} {mg : Str → Option Value} {base : Heap} {f : Addr} {fd : FuncData} {C CI : Addr}
def VErr (K : PySem.W.Frag) (w : World) (CI : Addr) (G : Hp) (M : List (Addr × HO)) (E : XK) (d : PyData) : Prop := ∀ dx v G1 H1, Zp G1 M H1 → Same G G1 → G1 dx = some (.xd [("value", v)]) → Sh1 K w G1 v d → E (.ref CI) (some dx) H1
theorem VErr.up {G G1 : Hp} {M : List (Addr × HO)} {E : XK} {d : PyData} (h : VErr K w CI G M E d) (s : Same G G1) : VErr K w CI G1 M E d := fun dx v G2 H2 z2 s2 hx hs => h dx v G2 H2 z2 (s.trans s2) hx hs
theorem VErr.more {G : Hp} {M M1 : List (Addr × HO)} {E : XK} {d : PyData} (h : VErr K w CI G M E d) : VErr K w CI G (M ++ M1) E d := fun dx v G2 H2 z2 s2 hx hs => h dx v G2 H2 z2.cut s2 hx hs
def spAscF (K : PySem.W.Frag) : Sp := fun vs H Q _ => ∃ G M d kvs, ∃ ks : List Str, vs = [.ref d] ∧ Zp G M H ∧ FzD G d kvs ∧ kvs.map (·.1) = ks.map .inr ∧ ks.length < 64 ∧
  ∀ p G1 H1, Zp G1 M H1 → Same G G1 → SqT K G1 p ((asc ks).map V.str) → Q (.ref p) H1
theorem ok_ascF (T : Nm K mg) (F : FnP K "ascending" s_ascending f fd) : FnOk P w K mg base CX0 1 f fd ["words"] (spAscF K) := by
  have nd : N_ascending.Nodup := sc_ascending.nd
  refine F.ok sc_ascending (fun vs H Q E h => ?_) (fun cdv A outer s H vs Q E hr h => ?_)
  · obtain ⟨G, M, d, kvs, ks, rfl, _⟩ := h
    rfl
  have hu := hr.units
  refine ⟨_, PSs.nox   (pss_one (ps_ret (pe_callTy (kc_tuple (K := K)) (by rfl) T.b_tuple boot_tuple (pa_cons (pe_callB (kc_sorted (K := K) (P := P) (w := w) rfl) (by rfl) T.b_sorted boot_sorted (pa_cons (pe_callTy (kc_setD (P := P) (w := w) rfl) (by rfl) T.b_set boot_set (pa_cons (pv 0) pa_nil)) pa_nil)) pa_nil)))), ?_⟩
  obtain ⟨G, M, d, kvs, ks, rfl, z, hd, hk, hs, q⟩ := h
  repeat (walk_at "z")
  refine z_setD z hd hk (by omega) fun p l G2 H2 z2 s2 e2 m2 nd2 l2 => ?_
  repeat (walk_at "z")
  refine z_sortX z2 e2 m2 nd2 (by omega) fun p3 G3 H3 z3 s3 e3 => ?_
  repeat (walk_at "z")
  exact z_tupL z3 (SqL.of e3) fun p4 G4 H4 z4 s4 h4 => q p4 G4 H4 z4 ((s2.trans s3).trans s4) h4
def spValidX (K : PySem.W.Frag) (w : World) (CI : Addr) : Sp := fun vs H Q E => ∃ G M d kvs es, vs = [.ref d] ∧ Zp G M H ∧ FzD G d kvs ∧ KvE K G kvs es ∧ EsOk es ∧
  (dueE es = none → ∀ p G1 H1, Zp G1 M H1 → Same G G1 → Q (.ref p) H1) ∧ ∀ e, dueE es = some e → VErr K w CI G M E e
theorem ok_validX (T : Nm K mg) (S_InvalidStaff : ExcS P w K mg base CI "InvalidStaff" "value") (C_ascF : Own P w K mg base CX0 1 "ascending" ["words"] (spAscF K)) (C_is_word : Own P w K mg base CX0 1 "is_word" ["value"] (spWord K)) (C_is_within : Own P w K mg base CX0 2 "is_within" ["value", "least", "most"] (spWithin K)) (F : FnP K "valid_numbers" s_valid_numbers f fd) :
    FnOk P w K mg base (L2.CX P w) 3 f fd ["numbers"] (spValidX K w CI) := by
  have nd : N_valid_numbers.Nodup := sc_valid_numbers.nd
  refine F.ok sc_valid_numbers (fun vs H Q E h => ?_) (fun cdv A outer s H vs Q E hr h => ?_)
  · obtain ⟨G, M, d, kvs, es, rfl, _⟩ := h
    rfl
  have hu := hr.units
  refine ⟨_,   (pss_cons (ps_for (passes_of rfl) rfl (k_any (K := K) (pe_own C_ascF (hr.mono (by omega)) (by rfl) pass0 (pa_cons (pv 0) pa_nil))) (pg_name (i := 1) nd rfl (by first | exact .inl rfl | exact .inr rfl)) (pss_one (ps_if (pt_not (pt_val (pe_own C_is_word (hr.mono (by omega)) (by rfl) pass0 (pa_cons (pv 1) pa_nil)))) (pss_one (ps_rs S_InvalidStaff rfl (takes_of rfl rfl rfl rfl) (hr.mono (by omega)) (by rfl) (pv 1))) pss_nil)))
    (pss_cons (ps_for (passes_of rfl) rfl (k_any (K := K) (pe_own C_ascF (hr.mono (by omega)) (by rfl) pass0 (pa_cons (pv 0) pa_nil))) (pg_name (i := 1) nd rfl (by first | exact .inl rfl | exact .inr rfl)) (pss_one (ps_if (pt_not (pt_val (pe_own C_is_within (hr.mono (by omega)) (by rfl) pass0 (pa_cons (pe_dget (hu_of hr) (pv 0) (pv 1) (fun _ _ => rfl)) (pa_cons pe_int (pa_cons (pe_gC T.g_MOST_PERSONS (by rfl)) pa_nil)))))) (pss_one (ps_rs S_InvalidStaff rfl (takes_of rfl rfl rfl rfl) (hr.mono (by omega)) (by rfl) (pe_dget (hu_of hr) (pv 0) (pv 1) (fun _ _ => rfl)))) pss_nil)))
    (pss_one (ps_ret (pe_frz (pe_dc (own := [("name", 1)]) rfl nd (k_any (K := K) (pe_own C_ascF (hr.mono (by omega)) (by rfl) pass0 (pa_cons (pv 0) pa_nil))) (blkOk_by (N := N_valid_numbers) (sc := defScope s_valid_numbers) (by decide +kernel)) (fun _ _ _ _ _ => (pg_name (i := 1) nd rfl (by first | exact .inl rfl | exact .inr rfl))) (fun _ _ _ _ _ => pts_one (pt_cmpR o_gt (pe_dget (hu_of hr) (pv 0) (pv 1) (fun _ _ => rfl)) pe_int (nomark _))) (fun _ _ _ _ _ => (pv 1)) (fun _ _ _ _ _ => (pe_dget (hu_of hr) (pv 0) (pv 1) (fun _ _ => rfl))))))))), ?_⟩
  obtain ⟨G, M, d, kvs, es, rfl, z, hd, hk, ok, q, qx⟩ := h
  have hkl : (es.map (·.1)).length < 64 := by rw [List.length_map]; have := ok.ln; omega
  have hkn := keysE_len ok
  have key : ∀ {j : Nat} {y : V}, ((keysE es).map V.str)[j]? = some y → ∃ s, (keysE es)[j]? = some s ∧ y = .str s ∧ s ∈ es.map (·.1) ∧ ShortD (.str s) := fun {j y} hy => by
    rw [List.getElem?_map] at hy
    obtain ⟨s, hs, rfl⟩ := Option.map_eq_some_iff.mp hy
    exact ⟨s, hs, rfl, keysE_sh ok (List.mem_of_getElem? hs)⟩
  repeat (walk_at "z")
  refine z_anyT ?_
  repeat (walk_at "z")
  refine ⟨G, M, d, _, _, rfl, z, hd, hk.keys, hkl, fun p1 G1 H1 z1 s1 e1 => ?_⟩
  refine z_itT z1 e1 ?_
  refine for_src src_T (fun i σ G' M' => ∃ k1, M' = M ∧ Same G1 G' ∧ (∀ x ∈ (keysE es).take i, wordS x = true) ∧ σ = [some (.ref d), k1]) z1 ⟨_, rfl, Same.refl _, (fun x hx => by simp at hx), rfl⟩ (fun i σ G' M' H' ⟨_, _, s', _⟩ z' => z'.seqT (upT s' e1)) ?_ ?_
  · rintro j y σ G' M' H' hy ⟨k1, rfl, s', hin, rfl⟩ z'
    obtain ⟨s, hs, rfl, hm, hsh⟩ := key hy
    repeat (walk_at "z")
    refine ⟨G', _, .str s, .str s, rfl, z', .str s, hsh, fun G2 H2 z2 s2 => ?_⟩
    rw [show wordD (.str s) = wordS s from rfl]
    cases hw : wordS s with
    | true =>
      repeat (walk_at "z")
      refine ⟨G2, _, z2, _, rfl, s'.trans s2, fun x hx => ?_, rfl⟩
      rw [take_app hs] at hx
      rcases List.mem_append.mp hx with hx | hx
      · exact hin x hx
      · rw [List.mem_singleton.mp hx]; exact hw
    | false =>
      repeat (walk_at "z")
      exact z_rsI fun dd hdd => qx _ (dueE_w (bad1_at hs hin hw)) dd (.str s) _ _ (z2.new hdd _) ((s1.trans (s'.trans s2)).trans (Same.new (z2.free hdd))) upd_same (.inl (.str s))
  rintro σ G2 M2 H2 ⟨k1, rfl, s2, hin, rfl⟩ z2
  rw [List.length_map, show (asc (es.map (·.1))).length = (keysE es).length from rfl, List.take_length] at hin
  have hdn := dueE_n (bad1_no hin)
  have s12 := s1.trans s2
  repeat (walk_at "z")
  refine z_anyT ?_
  repeat (walk_at "z")
  refine ⟨G2, _, d, _, _, rfl, z2, hd.up s12, hk.keys, hkl, fun p3 G3 H3 z3 s3 e3 => ?_⟩
  refine z_itT z3 e3 ?_
  refine for_src src_T (fun i σ G' M' => ∃ k1, M' = M2 ∧ Same G3 G' ∧ (∀ x ∈ ((keysE es).map (lookE es)).take i, numD x = true) ∧ σ = [some (.ref d), k1]) z3 ⟨_, rfl, Same.refl _, (fun x hx => by simp at hx), rfl⟩ (fun i σ G' M' H' ⟨_, _, s', _⟩ z' => z'.seqT (upT s' e3)) ?_ ?_
  · rintro j y σ G' M' H' hy ⟨k1, rfl, s', hnu, rfl⟩ z'
    obtain ⟨s, hs, rfl, hm, hsh⟩ := key hy
    have sA := (s12.trans s3).trans s'
    obtain ⟨v, hv, hdt⟩ := (hk.up sA).val hm
    have hs2 : ((keysE es).map (lookE es))[j]? = some (lookE es s) := by rw [List.getElem?_map, hs]; rfl
    repeat (walk_at "z")
    refine z_dgU z' (hd.up sA) hv ?_
    repeat (walk_at "z")
    refine ⟨G', _, v, lookE es s, _, _, rfl, z', hdt, ?_⟩
    rw [show withinD 0 1000000000000000000000000000000 (lookE es s) = numD (lookE es s) from rfl]
    cases hn : numD (lookE es s) with
    | true =>
      repeat (walk_at "z")
      refine ⟨G', _, z', _, rfl, s', fun x hx => ?_, rfl⟩
      rw [take_app hs2] at hx
      rcases List.mem_append.mp hx with hx | hx
      · exact hnu x hx
      · rw [List.mem_singleton.mp hx]; exact hn
    | false =>
      repeat (walk_at "z")
      refine z_dgU z' (hd.up sA) hv ?_
      exact z_rsI fun dd hdd => qx _ (hdn.trans (bad1_at hs2 hnu hn)) dd v _ _ (z'.new hdd _) (sA.trans (Same.new (z'.free hdd))) upd_same (.inl (hdt.up (Same.new (z'.free hdd))))
  rintro σ G4 M4 H4 ⟨k1, rfl, s4, hnu, rfl⟩ z4
  rw [List.length_map, List.take_of_length_le (by rw [List.length_map]; exact Nat.le_refl _)] at hnu
  have hok : dueE es = none := hdn.trans (bad1_no hnu)
  have s14 := (s12.trans s3).trans s4
  repeat (walk_at "z")
  refine z_anyT ?_
  repeat (walk_at "z")
  refine ⟨G4, _, d, _, _, rfl, z4, hd.up s14, hk.keys, hkl, fun p5 G5 H5 z5 s5 e5 => ?_⟩
  refine z_itT z5 e5 ?_
  refine dc_src src_T (fun i G' M' acc => M' = M4 ∧ Same G5 G' ∧ acc.length ≤ i) z5 ⟨rfl, Same.refl _, Nat.le_refl _⟩ (fun i G' M' M1 acc H' ⟨_, s', _⟩ z' => z'.seqT (upT s' e5)) ?_ ?_
  · rintro j y G' M' acc Dl H' hy ⟨rfl, s', hl⟩ z'
    obtain ⟨s, hs, rfl, hm, hsh⟩ := key hy
    have hj := (List.getElem?_eq_some_iff.mp hs).1
    have sA := (s14.trans s5).trans s'
    obtain ⟨v, hv, hdt⟩ := (hk.up sA).val hm
    obtain ⟨i, hi⟩ := numD_int (hnu (lookE es s) (List.mem_map.mpr ⟨s, List.mem_of_getElem? hs, rfl⟩))
    rw [hi] at hdt
    cases hdt
    repeat (walk_at "z")
    refine ⟨by rfl, ?_⟩
    repeat (walk_at "z")
    refine z_dgU z' (hd.up sA) hv ?_
    repeat (walk_at "z")
    refine z_bd (fun hp => ?_) (fun hp => ?_)
    · repeat (walk_at "z")
      refine z_dgU z' (hd.up sA) hv ?_
      refine z_laidD (k := .inr s) z' (by omega) ⟨rfl, s', Nat.le_trans (DSub.putK_len acc (.inr s) _) (by omega)⟩
    · exact z_leftD z' ⟨rfl, s', by omega⟩
  · rintro p6 G6 M6 acc H6 ⟨rfl, s6, hl⟩ z6
    refine z_frzL z6 fun G7 H7 z7 s7 f7 => ?_
    exact q hok p6 G7 H7 z7 (((s14.trans s5).trans s6).trans s7)
end
end LW
namespace LW
open PySem PySem.Spec PyProof.Rows L2 Ys

theorem one_line {v : V} : [v].length ≤ sizeLine := (by decide : 1 ≤ sizeLine)
theorem kit_dictS : kitB "dict" "dict" = some true := by decide +kernel
structure StC (K : PySem.W.Frag) (C : Addr) : Prop where
  cl : Cls K C
  no : NoAttr K C "own_numbers"
  ha : PySem.W.findIn K (.ref C) "__class__" = some (some (.builtin "object.__class__"))
  hn : PySem.W.specialIn K (.builtin "object.__class__") "__get__" = some (some (.builtin "getset_descriptor.__get__"))
  ht : PySem.W.takesIn K (.builtin "object.__class__") = some true
  hm : PySem.W.mroIn K C (.type "object") = some true
  own : ((PySem.W.clsIn K C).isSome && PySem.W.typeIn K (.ref C) == some (.type "type")) = true
theorem StC.ty {K : PySem.W.Frag} {C : Addr} (h : StC K C) {H : Hp} {a dx : Addr} {fs : List (Str × V)} (e : H a = some (.ins C dx fs)) : TyX K H (.ref a) (.ref C) := .base (.ins e h.cl h.ha h.hn h.ht h.hm)
/-! ### what is a dict, what is a text -/
def isDict : PyData → Bool
  | .dict _ => true
  | _ => false
theorem kit_dictD (d : PyData) : kitB (tyD d) "dict" = some (isDict d) := by cases d <;> (simp only [tyD, isDict]; decide +kernel)
section
variable {P : Program} {w : World} {K : PySem.W.Frag} {mg : Str → Option Value} {base : Heap} {f : Addr} {fd : FuncData} {C CI : Addr}
def spStX0 (K : PySem.W.Frag) (w : World) (C CI : Addr) : Sp := fun vs H Q E => ∃ G M x dx p q kvs es, vs = [.ref x, .ref p, .ref q] ∧ EsOk es ∧ KvE K G kvs es ∧ ((∃ d, Zp G (M ++ [(x, .ins C dx [])]) H ∧ G p = some (.tup [.ref d]) ∧ FzD G d kvs) ∨ (Zp G ((M ++ [(x, .ins C dx [])]) ++ [(q, .dK kvs)]) H ∧ G p = some (.tup []))) ∧
  (dueE es = none → ∀ n G1 H1, Zp G1 (M ++ [(x, .ins C dx [("own_numbers", .ref n)])]) H1 → Same G G1 → Q .non H1) ∧ ∀ e, dueE es = some e → VErr K w CI G M E e
def spStX (K : PySem.W.Frag) (w : World) (C CI : Addr) : Sp := fun vs H Q E => ∃ G M x dx d kvs es, vs = [.ref x, .ref d] ∧ Zp G (M ++ [(x, .ins C dx [])]) H ∧ FzD G d kvs ∧ KvE K G kvs es ∧ EsOk es ∧
  (dueE es = none → ∀ n G1 H1, Zp G1 (M ++ [(x, .ins C dx [("own_numbers", .ref n)])]) H1 → Same G G1 → Q .non H1) ∧ ∀ e, dueE es = some e → VErr K w CI G M E e
theorem init_bodyX (T : Nm K mg) (SC : StC K C) (C_valid_numbers : Own P w K mg base (L2.CX P w) 3 "valid_numbers" ["numbers"] (spValidX K w CI)) {cdv : Value} (A : Around) (outer : List Env) (s : Shared) (H : Hp) (vs : List V) (Q : VK) (E : XK) (hr : Room 3 (A.deeper (envOfC "Staff.__init__" (defScope s_Staff_init) s.heap.objs.size f cdv))) (h : spStX0 K w C CI vs H Q E) :
    ∃ t, PSs (cxOf (L2.CX P w) P w K mg base N_Staff_init "Staff.__init__" (defScope s_Staff_init) f cdv A outer s H E) (defBody s_Staff_init) t ∧ t { nx := fun _ H' => Q .non H', rt := Q } (start N_Staff_init vs) H := by
  have nd : N_Staff_init.Nodup := sc_Staff_init.nd
  have hu := hr.units
  refine ⟨_,   (pss_one (ps_fld (pv 0) (pe_ownX C_valid_numbers (hr.mono (by omega)) (by rfl) (takes_of rfl rfl rfl rfl) (pa_cons (pe_ifExp (pt_cmpR (k_neT0 (K := K) hu) (pv 1) (pe_tup pa_nil) (nomark _)) (pe_ix (k_ix (K := K)) (pv 1) pe_int (fun _ _ => rfl)) (pe_frz (pv 2))) pa_nil)) rfl)), ?_⟩
  obtain ⟨G, M, x, dx, p, q0, kvs, es, rfl, ok, hk, h, q, qx⟩ := h
  rcases h with ⟨d, z, hp, hd⟩ | ⟨z, hp⟩
  · repeat (walk_at "z")
    refine z_newT z (by simp) fun p1 G1 H1 z1 s1 e1 => ?_
    refine z_neT0 z1 (s1 _ _ hp) e1 ?_
    rw [decide_eq_true (by simp)]
    repeat (walk_at "z")
    refine z_ixT z1 (SqT.of (s1 _ _ hp)) (by rfl) ?_
    repeat (walk_at "z")
    refine ⟨G1, _, d, kvs, es, rfl, z1, hd.up s1, hk.up s1, ok, fun hdu n G2 H2 z2 s2 => ?_, fun e he => ((qx e he).up s1).more⟩
    repeat (walk_at "z")
    refine z_fsL z2 SC.cl SC.no (by simp) fun H3 z3 => ?_
    exact q hdu n G2 H3 z3 (s1.trans s2)
  · repeat (walk_at "z")
    refine z_newT z (by simp) fun p1 G1 H1 z1 s1 e1 => ?_
    refine z_neT0 z1 (s1 _ _ hp) e1 ?_
    rw [decide_eq_false (by simp)]
    repeat (walk_at "z")
    refine z_frzL z1 fun G2 H2 z2 s2 f2 => ?_
    repeat (walk_at "z")
    refine ⟨G2, _, q0, kvs, es, rfl, z2, f2, hk.up (s1.trans s2), ok, fun hdu n G3 H3 z3 s3 => ?_, fun e he => ((qx e he).up (s1.trans s2)).more⟩
    repeat (walk_at "z")
    refine z_fsL z3 SC.cl SC.no (by simp) fun H4 z4 => ?_
    exact q hdu n G3 H4 z4 (s1.trans (s2.trans s3))
theorem ok_sinitX (T : Nm K mg) (SC : StC K C) (C_valid_numbers : Own P w K mg base (L2.CX P w) 3 "valid_numbers" ["numbers"] (spValidX K w CI)) (F : FunD K "__init__" "Staff.__init__" (defArgs s_Staff_init) (defBody s_Staff_init) (defScope s_Staff_init) [] [] f fd) : FnR P w K mg base (L2.CX P w) 4 f (spStX K w C CI) := by
  obtain ⟨oc, od, dV, kV, doc, pm, an, cdv, ct, osl, rfl, lk, hcd, hD, hK⟩ := F.ex
  have eD : dV = .none := by
    rcases hD with ⟨_, rfl⟩ | ⟨e, _⟩
    · rfl
    · exact absurd rfl e
  subst eD
  refine FnR.imp (StX.fn_starkw (k := 3) (ps := ["self"]) (pv := "known") (pd := "numbers") (sp := spStX0 K w C CI) lk hcd sc_Staff_init StX.cxUp (fun us rest hl => ?_) (fun A outer s H vs Q E hr h => init_bodyX T SC C_valid_numbers A outer s H vs Q E hr h)) fun vs H Q E h => ?_
  · match us, rest, hl with
    | [u], [], _ => rfl
    | [u], r :: rs, _ => rfl
  · obtain ⟨G, M, x, dx, d, kvs, es, rfl, z, hd, hk, ok, q0, qx⟩ := h
    refine ⟨[.ref x], [.ref d], rfl, rfl, one_line, fun p q hp hq ne => ?_⟩
    have z1 := z.new hp (.tup [.ref d])
    have n1 := z.free hp
    have hq' : upd H p (HO.tup [V.ref d]) q = none := by rw [upd_ne ne]; exact hq
    have z2 := z1.new hq' (.dK [])
    have n2 := z1.free hq'
    have s := (Same.new (o := .tup [V.ref d]) n1).trans (Same.new (o := .dK []) n2)
    exact ⟨_, M, x, dx, p, q, kvs, es, rfl, ok, hk.up s, .inl ⟨d, z2, (Same.new n2) _ _ upd_same, hd.up s⟩, fun hdu n G1 H1 z3 s3 => q0 hdu n G1 H1 z3 (s.trans s3), fun e he => (qx e he).up s⟩
def spStKX (K : PySem.W.Frag) (w : World) (C CI : Addr) (ks : List Str) : Sp := fun vs H Q E => ∃ G M x dx zs es, vs = .ref x :: zs ∧ KvE K G (kwD ks zs) es ∧ EsOk es ∧ Zp G (M ++ [(x, .ins C dx [])]) H ∧
  (dueE es = none → ∀ n G1 H1, Zp G1 (M ++ [(x, .ins C dx [("own_numbers", .ref n)])]) H1 → Same G G1 → Q .non H1) ∧ ∀ e, dueE es = some e → VErr K w CI G M E e
theorem ok_sinitKX {ks : List Str} (hks : ks.Nodup) (hkl : ks.length ≤ sizeLine) (hb : ∀ (kV doc pm : Value) (an : Option Addr) (cdv ct : Value) (us ws : List Value), us.length = 1 → ws.length = ks.length → bindArgs (PySem.W.fnOf "__init__" "Staff.__init__" (defArgs s_Staff_init) (defBody s_Staff_init) (defScope s_Staff_init) .none kV doc pm an cdv ct) ⟨us, ks.zip ws⟩ = kwFill ["self"] ks "known" "numbers" us ws)
    (T : Nm K mg) (SC : StC K C) (C_valid_numbers : Own P w K mg base (L2.CX P w) 3 "valid_numbers" ["numbers"] (spValidX K w CI)) (F : FunD K "__init__" "Staff.__init__" (defArgs s_Staff_init) (defBody s_Staff_init) (defScope s_Staff_init) [] [] f fd) : FnRK P w K mg base (L2.CX P w) 4 f 1 ks (spStKX K w C CI ks) := by
  obtain ⟨oc, od, dV, kV, doc, pm, an, cdv, ct, osl, rfl, lk, hcd, hD, hK⟩ := F.ex
  have eD : dV = .none := by
    rcases hD with ⟨_, rfl⟩ | ⟨e, _⟩
    · rfl
    · exact absurd rfl e
  subst eD
  refine FnRK.imp (fn_starK (k := 3) (ps := ["self"]) (pv := "known") (pd := "numbers") (sp := spStX0 K w C CI) lk hcd sc_Staff_init StX.cxUp hks hkl (fun us ws l1 l2 => hb kV doc pm an cdv ct us ws l1 l2) (fun A outer s H vs Q E hr h => init_bodyX T SC C_valid_numbers A outer s H vs Q E hr h)) fun vs H Q E h => ?_
  obtain ⟨G, M, x, dx, zs, es, rfl, hk, ok, z, q0, qx⟩ := h
  refine ⟨[.ref x], zs, rfl, rfl, fun p q hp hq ne => ?_⟩
  have z1 := z.new hp (.tup [])
  have n1 := z.free hp
  have hq' : upd H p (HO.tup []) q = none := by rw [upd_ne ne]; exact hq
  have z2 := z1.add hq' (.dK (kwD ks zs))
  have s := Same.new (o := .tup []) n1
  exact ⟨_, M, x, dx, p, q, _, es, rfl, ok, hk.up s, .inr ⟨z2, upd_same⟩, fun hdu n G1 H1 z3 s3 => q0 hdu n G1 H1 z3 (s.trans s3), fun e he => (qx e he).up s⟩
theorem bind_s1 (kV doc pm : Value) (an : Option Addr) (cdv ct : Value) (us ws : List Value) (h1 : us.length = 1) (h2 : ws.length = 1) : bindArgs (PySem.W.fnOf "__init__" "Staff.__init__" (defArgs s_Staff_init) (defBody s_Staff_init) (defScope s_Staff_init) .none kV doc pm an cdv ct) ⟨us, (["p"] : List Str).zip ws⟩ = kwFill ["self"] ["p"] "known" "numbers" us ws := by
  match us, ws, h1, h2 with
  | [u], [a0], _, _ => rfl
theorem bind_s2 (kV doc pm : Value) (an : Option Addr) (cdv ct : Value) (us ws : List Value) (h1 : us.length = 1) (h2 : ws.length = 2) : bindArgs (PySem.W.fnOf "__init__" "Staff.__init__" (defArgs s_Staff_init) (defBody s_Staff_init) (defScope s_Staff_init) .none kV doc pm an cdv ct) ⟨us, (["p", "A"] : List Str).zip ws⟩ = kwFill ["self"] ["p", "A"] "known" "numbers" us ws := by
  match us, ws, h1, h2 with
  | [u], [a0, a1], _, _ => rfl
theorem bind_s3 (kV doc pm : Value) (an : Option Addr) (cdv ct : Value) (us ws : List Value) (h1 : us.length = 1) (h2 : ws.length = 2) : bindArgs (PySem.W.fnOf "__init__" "Staff.__init__" (defArgs s_Staff_init) (defBody s_Staff_init) (defScope s_Staff_init) .none kV doc pm an cdv ct) ⟨us, (["b", "a"] : List Str).zip ws⟩ = kwFill ["self"] ["b", "a"] "known" "numbers" us ws := by
  match us, ws, h1, h2 with
  | [u], [a0, a1], _, _ => rfl

def spOfX (K : PySem.W.Frag) (w : World) (C CI : Addr) : Sp := fun vs H Q E => ∃ G M v vv, vs = [.ref C, v] ∧ Zp G M H ∧ Wv K w G v vv ∧ (dueV vv = none → ∀ x G1 H1, Zp G1 M H1 → Same G G1 → Q (.ref x) H1) ∧ ∀ e, dueV vv = some e → VErr K w CI G M E e
theorem odd_all {K : PySem.W.Frag} {G : Hp} : ∀ {kvs : List NV} {ds : List (PyData × PyData)}, NDs K G kvs ds → ∀ {i : Nat} {x : V}, (kvs.map NV.kv)[i]? = some x → ∃ d, (ds.map (·.1))[i]? = some d ∧ Dt K G x d
  | _, _, .nil, i, x, h => by simp at h
  | _, _, .cons h1 h2 t, 0, x, h => by
    obtain rfl : _ = x := by simpa using h
    exact ⟨_, rfl, h1⟩
  | _, _, .cons h1 h2 t, i + 1, x, h => odd_all t (i := i) (by simpa using h)
theorem nds_len {K : PySem.W.Frag} {G : Hp} : ∀ {kvs : List NV} {ds : List (PyData × PyData)}, NDs K G kvs ds → kvs.length = ds.length
  | _, _, .nil => rfl
  | _, _, .cons _ _ t => congrArg Nat.succ (nds_len t)
theorem ok_sofX (T : Nm K mg) (S_InvalidStaff : ExcS P w K mg base CI "InvalidStaff" "value") (MS : MkR P w K mg base (L2.CX P w) 4 C (spStX K w C CI)) (F : FunD K "of" "Staff.of" (defArgs s_Staff_of) (defBody s_Staff_of) (defScope s_Staff_of) [] [] f fd) : FnOk P w K mg base (L2.CX P w) 6 f fd ["cls", "numbers"] (spOfX K w C CI) := by
  have nd : N_Staff_of.Nodup := sc_Staff_of.nd
  refine F.ok sc_Staff_of (fun vs H Q E h => ?_) (fun cdv A outer s H vs Q E hr h => ?_)
  · obtain ⟨G, M, v, vv, rfl, _⟩ := h
    rfl
  have hu := hr.units
  refine ⟨_,   (pss_cons (ps_if (PW.pt (pw_or (pt_not (pt_val (pe_callB (kc_isiX (K := K) (w := w)) (by rfl) T.b_isinstance boot_isinstance (pa_cons (pv 1) (pa_cons (pe_bltn (v := .ty "dict") (by rfl) T.b_dict boot_dict rfl) pa_nil))))) (pw_or1 (pt_not (pt_val (pe_callB (kc_all (K := K) rfl) (by rfl) T.b_all boot_all (pa_cons (pe_lc (own := [("name", 2)]) (tt := tYes) rfl nd (pi_kx T.sys (pv 1)) (blkOk_by (N := N_Staff_of) (sc := defScope s_Staff_of) (by decide +kernel)) (fun _ _ _ _ _ => (pg_name (i := 2) nd rfl (by first | exact .inl rfl | exact .inr rfl))) (fun _ _ _ _ _ => pts_nil) (fun _ _ _ _ _ => (pe_callB (kc_isi (K := K)) (by rfl) T.b_isinstance boot_isinstance (pa_cons (pv 2) (pa_cons (pe_bltn (v := .ty "str") (by rfl) T.b_str boot_str rfl) pa_nil))))) pa_nil))))))) (pss_one (ps_rs S_InvalidStaff rfl (takes_of rfl rfl rfl rfl) (hr.mono (by omega)) (by rfl) (pv 1))) pss_nil)
    (pss_one (ps_ret (pe_mkL (i := 0) MS (hr.mono (by omega)) rfl (by first | exact .inl rfl | exact .inr rfl) (passes_call (takes_of rfl rfl rfl rfl) fun _ _ _ _ z => z) (pa_cons (pv 1) pa_nil))))), ?_⟩
  obtain ⟨G, M, v, vv, rfl, z, hv, q, qx⟩ := h
  match vv, hv with
  | .dat d, ⟨hd, hn⟩ =>
    repeat (walk_at "z")
    refine .inl (z_isi (.ty "dict") (hd.up z.sub).ty (kit_ty (kit_dictD d)) ?_)
    rw [show isDict d = false by cases d <;> first | rfl | cases hn]
    repeat (walk_at "z")
    exact z_rsI fun dd hdd => qx d rfl dd v _ _ (z.new hdd _) (Same.new (z.free hdd)) upd_same (.inl (hd.up (Same.new (z.free hdd))))
  | .txt es, ⟨a, kvs, e, ⟨od, eod⟩, hk, ok⟩ =>
    subst e
    have hkl : kvs.length ≤ 20 := by have := Paired.length hk; have := ok.ln; omega
    repeat (walk_at "z")
    refine .inl (z_isi (.ty "dict") (.fDict (z.sub _ _ eod)) (kit_ty kit_dictS) ?_)
    repeat (walk_at "z")
    refine z_itKX z eod ?_
    refine lc_src src_K (fun i G' M' acc => M' = M ∧ Same G G' ∧ acc = (List.replicate i true).map V.bl) z ⟨rfl, Same.refl _, rfl⟩ (fun i G' M' M1 acc H' ⟨_, s', _⟩ z' => z'.sub _ _ (s' _ _ eod)) ?_ ?_
    · rintro j y G' M' acc Dl H' hy ⟨rfl, s', rfl⟩ z'
      have hj := (List.getElem?_eq_some_iff.mp hy).1
      rw [List.length_map] at hj
      obtain ⟨s, rfl⟩ : ∃ s, y = .str s := by
        rw [List.getElem?_map] at hy
        obtain ⟨pr, hp, rfl⟩ := Option.map_eq_some_iff.mp hy
        have hm : pr.1 ∈ kvs.map (·.1) := List.mem_map.mpr ⟨pr, List.mem_of_getElem? hp, rfl⟩
        rw [hk.keys] at hm
        obtain ⟨s, _, e⟩ := List.mem_map.mp hm
        exact ⟨s, by show kV pr.1 = _; rw [← e]; rfl⟩
      repeat (walk_at "z")
      refine ⟨by rfl, ?_⟩
      repeat (walk_at "z")
      refine z_isi (.ty "str") (Dt.ty (d := .str s) (.str s)) (kit_ty (kit_str (.str s))) ?_
      refine z_laid (M := M') z' (by rw [List.length_map, List.length_replicate]; omega) ⟨rfl, s', ?_⟩
      rw [List.replicate_succ', List.map_append]
      rfl
    rintro p1 G1 M1 acc G2 H2 ⟨rfl, s1, rfl⟩ s2 z2 e2
    have s12 := s1.trans s2
    repeat (walk_at "z")
    refine z_all z2 (SqL.of e2) ?_
    rw [show (List.replicate (List.map (fun p => kV p.1) kvs).length true).all id = true by simp]
    repeat (walk_at "z")
    refine z_mkL rfl ?_
    repeat (walk_at "z")
    refine z_mkRI z2 fun x dx H9 z9 s9 => ?_
    refine ⟨_, _, x, dx, a, kvs, es, rfl, z9, (FzD.up ⟨od, eod⟩ s12).up s9, (hk.up s12).up s9, ok, fun hdu n G10 H10 z10 s10 => ⟨rfl, ?_⟩, fun e he => (qx e he).up (s12.trans s9)⟩
    have sN := Same.new (o := HO.ins C dx [("own_numbers", .ref n)]) (z10.own _ _ _ last_at).2
    exact q hdu x _ _ z10.fix (s12.trans (s9.trans (s10.trans sN)))
  | .odd ds, ⟨a, od, kvs, e, eod, hn, hl, ho⟩ =>
    subst e
    repeat (walk_at "z")
    refine .inr ⟨a, _, _, _, od, kvs, rfl, z.sub _ _ eod, .ty "dict", kit_ty kit_dictS, ?_⟩
    repeat (walk_at "z")
    refine z_itXX z eod ?_
    refine lc_src src_X (fun i G' M' acc => M' = M ∧ Same G G' ∧ acc = ((ds.map fun p => isStrD p.1).take i).map V.bl) z ⟨rfl, Same.refl _, rfl⟩ (fun i G' M' M1 acc H' ⟨_, s', _⟩ z' => z'.sub _ _ (s' _ _ eod)) ?_ ?_
    · rintro j y G' M' acc Dl H' hy ⟨rfl, s', rfl⟩ z'
      have hj := (List.getElem?_eq_some_iff.mp hy).1
      rw [List.length_map] at hj
      obtain ⟨d, hd, hdt⟩ := odd_all hn hy
      repeat (walk_at "z")
      refine ⟨by rfl, ?_⟩
      repeat (walk_at "z")
      refine z_isi (.ty "str") ((hdt.up s').up z'.sub).ty (kit_ty (kit_str d)) ?_
      refine z_laid (M := M') z' (by rw [List.length_map, List.length_take]; omega) ⟨rfl, s', ?_⟩
      have hd2 : (ds.map fun p => isStrD p.1)[j]? = some (isStrD d) := by
        rw [List.getElem?_map] at hd ⊢
        obtain ⟨pr, hp, rfl⟩ := Option.map_eq_some_iff.mp hd
        rw [hp]
        rfl
      rw [take_app hd2, List.map_append]
      rfl
    rintro p1 G1 M1 acc G2 H2 ⟨rfl, s1, rfl⟩ s2 z2 e2
    rw [List.length_map, nds_len hn, List.take_of_length_le (by rw [List.length_map]; exact Nat.le_refl _)] at e2
    repeat (walk_at "z")
    refine z_all z2 (SqL.of e2) ?_
    rw [show (ds.map fun p => isStrD p.1).all id = false by rw [List.all_map]; exact ho]
    repeat (walk_at "z")
    have s12 := s1.trans s2
    exact z_rsI fun dd hdd => qx _ rfl dd (.ref a) _ _ (z2.new hdd _) (s12.trans (Same.new (z2.free hdd))) upd_same (.inr ⟨a, od, kvs, ds, rfl, (s12.trans (Same.new (z2.free hdd))) _ _ eod, nds_up (s12.trans (Same.new (z2.free hdd))) hn, rfl⟩)
end
end LW
namespace LW
open PySem PySem.Spec PyProof.Rows L2 Ys

def dT (x : String) : PyData := .tuple [.str x]
def any1 : List PyData := [.none, .bool true, .bool false, .int 0, .int 1, .int 2, .int 3, .int 4, .int (-1), .int (10 ^ (60 : Int).toNat), .str "", .str "a", .str "A", .str "ab", .str "abcdefghi", .str "a b", .tuple [], dT "a"]
def any2 : List PyData := [.list [], .list [.str "a"], .list [.int 1], .dict [], .dict [(.str "a", .int 1)], .tuple [.int 1, .int 2], dT "then", .tuple [.none], .tuple [.str "a", .int 1], .list [.list [.str "a"]], .tuple [dT "a"]]
def any3 : List PyData := [.str "then", .dict [(.str "p", .list [])], .list [.str "a", .str "a"], dT "either"]

/-! ### literals whose dicts are locked -/
def TopF (G : Hp) (v : V) (d : PyData) : Prop := ∀ ds, d = .dict ds → ∃ a kvs, v = .ref a ∧ FzD G a kvs
theorem TopF.up {G G1 : Hp} {v : V} {d : PyData} (h : TopF G v d) (s : Same G G1) : TopF G1 v d := fun ds e => let ⟨a, kvs, e, f⟩ := h ds e; ⟨a, kvs, e, f.up s⟩
section
variable {K : PySem.W.Frag} {te : TE} {t : TA} {d : PyData} {ds : List PyData}
def LitWF (K : PySem.W.Frag) (te : TE) (d : PyData) : Prop := ∀ σ G M H Q, Zp G M H → (∀ v G1 H1, Zp G1 M H1 → Same G G1 → Dt K G1 v d → TopF G1 v d → Q v H1) → te σ H Q
def LitAF (K : PySem.W.Frag) (t : TA) (ds : List PyData) : Prop := ∀ σ G M H Q, Zp G M H → (∀ vs G1 H1, Zp G1 M H1 → Same G G1 → vs.length = ds.length → (∀ v ∈ vs, ∃ d ∈ ds, Dt K G1 v d ∧ TopF G1 v d) → Q vs H1) → t σ H Q
theorem litF (h : LitW K te d) (hn : ndict d = true) : LitWF K te d := fun σ G M H Q z q => h σ G M H Q z fun v G1 H1 z1 s1 d1 => q v G1 H1 z1 s1 d1 fun ds e => by rw [e] at hn; cases hn
theorem lit_fz0 : LitWF K (tFrz tDNewK) (.dict []) := fun σ G M H Q z q p hp => z_frzL (z.add hp _) fun G1 H1 z1 s1 f1 => q _ _ _ z1 s1 (.dct (let ⟨o, e⟩ := f1; .inr ⟨o, e⟩) rfl .nil) fun _ _ => ⟨p, _, rfl, f1⟩
theorem lit_fz1 {k : Str} (h : LitW K te d) : LitWF K (tFrz (tDisp [(tC (.str k), te)])) (.dict [(.str k, d)]) := fun σ G M H Q z q =>
  z_frz (z_disp z fun p H1 z1 => z_pc (z_c (h σ G _ H1 _ z1 fun v G2 H2 z2 s2 d2 => z_pn (z_dispE z2 [(.inr k, v)] rfl (by show 1 ≤ 15; decide) fun H3 z3 =>
    z_frzL z3 fun G4 H4 z4 s4 f4 => q _ _ _ z4 (s2.trans s4) (.dct (let ⟨o, e⟩ := f4; .inr ⟨o, e⟩) rfl (.cons (d2.up s4) .nil)) fun _ _ => ⟨p, _, rfl, f4⟩))))
theorem litF_nil : LitAF K tNil [] := fun _ G _ H _ z q => q [] G H z (Same.refl G) rfl fun v h => by cases h
theorem litF_cons (h1 : LitWF K te d) (h2 : LitAF K t ds) : LitAF K (tCons te t) (d :: ds) := fun σ G M H Q z q =>
  h1 σ G M H _ z fun v G1 H1 z1 s1 d1 f1 => h2 σ G1 M H1 _ z1 fun vs G2 H2 z2 s2 l2 d2 => q (v :: vs) G2 H2 z2 (s1.trans s2) (by simp [l2]) fun x hx => by
    rcases List.mem_cons.mp hx with rfl | hx
    · exact ⟨d, by simp, d1.up s2, f1.up s2⟩
    · obtain ⟨e, he, h⟩ := d2 x hx
      exact ⟨e, List.mem_cons_of_mem _ he, h⟩
theorem litF_list {σ : L2.St} {G H : Hp} {M : List (Addr × HO)} {Q : VK} (h : LitAF K t ds) (hl : ds.length ≤ 1000) (z : Zp G M H) (q : ∀ p xs G1 H1, Zp G1 M H1 → Same G G1 → G1 p = some (.lst xs) → xs.length = ds.length → (∀ v ∈ xs, ∃ d ∈ ds, Dt K G1 v d ∧ TopF G1 v d) → Q (.ref p) H1) : tLst t σ H Q :=
  h σ G M H _ z fun vs G1 H1 z1 s1 l1 d1 => z_newL z1 (by omega) fun p G2 H2 z2 s2 e2 => q p _ G2 H2 z2 (s1.trans s2) e2 l1 fun v hv => let ⟨d, hd, h⟩ := d1 v hv; ⟨d, hd, h.1.up s2, h.2.up s2⟩
end
section
variable {P : Program} {w : World} {K : PySem.W.Frag} {mg : Str → Option Value} {base : Heap} {f : Addr} {fd : FuncData}
def spAnyF (K : PySem.W.Frag) : Sp := fun vs H Q _ => ∃ p o G M b, vs = [.ref p] ∧ Zp G ((p, o) :: M) H ∧ Pen K G b o ∧ b ≤ 100000000000 ∧
  ∀ v d G1 H1 o1, Zp G1 ((p, o1) :: M) H1 → Same G G1 → Pen K G1 (b + 1) o1 → Dt K G1 v d → TopF G1 v d → d ∈ any1 ++ any2 ++ any3 → Q v H1
theorem ok_anyF (T : Nm K mg) (C_law_pick : OwnP P w K mg base) (F : FnP K "_law_any_value" s_law_any_value f fd) : FnOk P w K mg base CX0 3 f fd ["_law_pen_here"] (spAnyF K) := by
  have nd : N_law_any_value.Nodup := sc_law_any_value.nd
  refine F.ok sc_law_any_value (fun vs H Q E h => ?_) (fun cdv A outer s H vs Q E hr h => ?_)
  · obtain ⟨p, o, G, M, b, rfl, _⟩ := h
    rfl
  have hu := hr.units
  refine ⟨_, PSs.nox   (pss_cons (ps_asg (pe_lst (pa_cons pe_non (pa_cons pe_bl (pa_cons pe_bl (pa_cons pe_int (pa_cons pe_int (pa_cons pe_int (pa_cons pe_int (pa_cons pe_int (pa_cons (pe_un un_neg pe_int) (pa_cons (pe_op o_pow pe_int pe_int) (pa_cons pe_str (pa_cons pe_str (pa_cons pe_str (pa_cons pe_str (pa_cons pe_str (pa_cons pe_str (pa_cons (pe_tup pa_nil) (pa_cons (pe_tup (pa_cons pe_str pa_nil)) pa_nil))))))))))))))))))) (pg_name (i := 1) nd rfl (by first | exact .inl rfl | exact .inr rfl)))
    (pss_cons (ps_asg (pe_op (k_add (K := K)) (pv 1) (pe_lst (pa_cons (pe_lst pa_nil) (pa_cons (pe_lst (pa_cons pe_str pa_nil)) (pa_cons (pe_lst (pa_cons pe_int pa_nil)) (pa_cons (pe_frz pe_dnewK) (pa_cons (pe_frz (pe_disp (pps_cons pe_str pe_int pps_nil) (by rfl) (by rfl) (fun z => by cases z) (by decide))) (pa_cons (pe_tup (pa_cons pe_int (pa_cons pe_int pa_nil))) (pa_cons (pe_tup (pa_cons pe_str pa_nil)) (pa_cons (pe_tup (pa_cons pe_non pa_nil)) (pa_cons (pe_tup (pa_cons pe_str (pa_cons pe_int pa_nil))) (pa_cons (pe_lst (pa_cons (pe_lst (pa_cons pe_str pa_nil)) pa_nil)) (pa_cons (pe_tup (pa_cons (pe_tup (pa_cons pe_str pa_nil)) pa_nil)) pa_nil))))))))))))) (pg_name (i := 1) nd rfl (by first | exact .inl rfl | exact .inr rfl)))
    (pss_cons (ps_asg (pe_op (k_add (K := K)) (pv 1) (pe_lst (pa_cons pe_str (pa_cons (pe_frz (pe_disp (pps_cons pe_str (pe_lst pa_nil) pps_nil) (by rfl) (by rfl) (fun z => by cases z) (by decide))) (pa_cons (pe_lst (pa_cons pe_str (pa_cons pe_str pa_nil))) (pa_cons (pe_tup (pa_cons pe_str pa_nil)) pa_nil)))))) (pg_name (i := 1) nd rfl (by first | exact .inl rfl | exact .inr rfl)))
    (pss_one (ps_ret (pe_own C_law_pick (hr.mono (by omega)) (by rfl) pass0 (pa_cons (pv 0) (pa_cons (pv 1) pa_nil)))))))), ?_⟩
  obtain ⟨p, o, G, M, b, rfl, z, hp, hb, q⟩ := h
  with_reducible refine z_seq ?_
  with_reducible refine z_asg ?_
  refine litF_list (ds := any1) (K := K) (by
    refine litF_cons (litF lit_non rfl) (litF_cons (litF (lit_bl _) rfl) (litF_cons (litF (lit_bl _) rfl) (litF_cons (litF (lit_int _) rfl) (litF_cons (litF (lit_int _) rfl) (litF_cons (litF (lit_int _) rfl) (litF_cons (litF (lit_int _) rfl) (litF_cons (litF (lit_int _) rfl) (litF_cons (litF (lit_neg (lit_int 1)) rfl) (litF_cons (litF (lit_pow 10 60 ⟨by decide, by decide, by decide⟩) rfl) ?_)))))))))
    exact litF_cons (litF (lit_str _) rfl) (litF_cons (litF (lit_str _) rfl) (litF_cons (litF (lit_str _) rfl) (litF_cons (litF (lit_str _) rfl) (litF_cons (litF (lit_str _) rfl) (litF_cons (litF (lit_str _) rfl) (litF_cons (litF (lit_tup lit_nil (by decide)) rfl) (litF_cons (litF (lit_tup (lit_cons (lit_str _) lit_nil) (by decide)) rfl) litF_nil)))))))) (by decide) z fun p1 x1 G1 H1 z1 s1 e1 l1 d1 => ?_
  with_reducible refine z_name ?_
  with_reducible refine z_seq ?_
  with_reducible refine z_asg ?_
  with_reducible refine z_op ?_
  (with_reducible apply z_var); (focus rfl)
  refine litF_list (ds := any2) (K := K) (by
    exact litF_cons (litF (lit_lst lit_nil (by decide)) rfl) (litF_cons (litF (lit_lst (lit_cons (lit_str _) lit_nil) (by decide)) rfl) (litF_cons (litF (lit_lst (lit_cons (lit_int _) lit_nil) (by decide)) rfl) (litF_cons lit_fz0 (litF_cons (lit_fz1 (lit_int _)) (litF_cons (litF (lit_tup (lit_cons (lit_int _) (lit_cons (lit_int _) lit_nil)) (by decide)) rfl) (litF_cons (litF (lit_tup (lit_cons (lit_str _) lit_nil) (by decide)) rfl) (litF_cons (litF (lit_tup (lit_cons lit_non lit_nil) (by decide)) rfl) (litF_cons (litF (lit_tup (lit_cons (lit_str _) (lit_cons (lit_int _) lit_nil)) (by decide)) rfl) (litF_cons (litF (lit_lst (lit_cons (lit_lst (lit_cons (lit_str _) lit_nil) (by decide)) lit_nil) (by decide)) rfl) (litF_cons (litF (lit_tup (lit_cons (lit_tup (lit_cons (lit_str _) lit_nil) (by decide)) lit_nil) (by decide)) rfl) litF_nil))))))))))) (by decide) z1 fun p2 x2 G2 H2 z2 s2 e2 l2 d2 => ?_
  have l1 : x1.length = 18 := l1
  have l2 : x2.length = 11 := l2
  refine z_addL z2 (s2 _ _ e1) e2 (by omega) fun p3 G3 H3 z3 s3 e3 => ?_
  with_reducible refine z_name ?_
  with_reducible refine z_seq ?_
  with_reducible refine z_asg ?_
  with_reducible refine z_op ?_
  (with_reducible apply z_var); (focus rfl)
  refine litF_list (ds := any3) (K := K) (by
    exact litF_cons (litF (lit_str _) rfl) (litF_cons (lit_fz1 (lit_lst lit_nil (by decide))) (litF_cons (litF (lit_lst (lit_cons (lit_str _) (lit_cons (lit_str _) lit_nil)) (by decide)) rfl) (litF_cons (litF (lit_tup (lit_cons (lit_str _) lit_nil) (by decide)) rfl) litF_nil)))) (by decide) z3 fun p4 x4 G4 H4 z4 s4 e4 l4 d4 => ?_
  have l4 : x4.length = 4 := l4
  have l3 : (x1 ++ x2).length = 29 := by rw [List.length_append, l1, l2]
  refine z_addL z4 (s4 _ _ e3) e4 (by omega) fun p5 G5 H5 z5 s5 e5 => ?_
  repeat (walk_at "z")
  have s15 := s1.trans (s2.trans (s3.trans (s4.trans s5)))
  have l5 : (x1 ++ x2 ++ x4).length = 33 := by rw [List.length_append, l3, l4]
  refine ⟨p, o, G5, M, b, _, rfl, z5, hp.up s15, by omega, .inl ⟨p5, _, rfl, .inl (SqL.of e5), (fun e => by rw [e] at l5; cases l5), by omega, fun v G6 H6 o6 hv z6 s6 hp6 => ?_⟩⟩
  have dd : ∃ d ∈ any1 ++ any2 ++ any3, Dt K G5 v d ∧ TopF G5 v d := by
    rcases List.mem_append.mp hv with hv | hv
    · rcases List.mem_append.mp hv with hv | hv
      · obtain ⟨d, hd, h1, h2⟩ := d1 v hv
        have sx := s2.trans (s3.trans (s4.trans s5))
        exact ⟨d, List.mem_append_left _ (List.mem_append_left _ hd), h1.up sx, h2.up sx⟩
      · obtain ⟨d, hd, h1, h2⟩ := d2 v hv
        have sx := s3.trans (s4.trans s5)
        exact ⟨d, List.mem_append_left _ (List.mem_append_right _ hd), h1.up sx, h2.up sx⟩
    · obtain ⟨d, hd, h1, h2⟩ := d4 v hv
      exact ⟨d, List.mem_append_right _ hd, h1.up s5, h2.up s5⟩
  obtain ⟨d, hd, h1, h2⟩ := dd
  exact q v d G6 H6 o6 z6 (s15.trans s6) hp6 (h1.up s6) (h2.up s6) hd
theorem ok_lword (T : Nm K mg) (F : FnP K "_law_is_word" s_law_is_word f fd) : FnOk P w K mg base CX0 1 f fd ["_law_value"] (spWord K) := by
  have nd : N_law_is_word.Nodup := sc_law_is_word.nd
  refine F.ok sc_law_is_word (fun vs H Q E h => ?_) (fun cdv A outer s H vs Q E hr h => ?_)
  · obtain ⟨G, M, v, d, rfl, _⟩ := h
    rfl
  have hu := hr.units
  refine ⟨_, PSs.nox   (pss_cons (ps_asg pe_str (pg_name (i := 1) nd rfl (by first | exact .inl rfl | exact .inr rfl)))
    (pss_cons (ps_if (PW.pt (pw_or (pt_not (pt_val (pe_callB (kc_isi (K := K)) (by rfl) T.b_isinstance boot_isinstance (pa_cons (pv 0) (pa_cons (pe_bltn (v := .ty "str") (by rfl) T.b_str boot_str rfl) pa_nil))))) (pw_or1 (pt_not (pt_chain o_le o_le pe_int (pe_callB (kc_len (K := K) (P := P) (w := w)) (by rfl) T.b_len PySem.boot_len (pa_cons (pv 0) pa_nil)) pe_int))))) (pss_one (ps_ret pe_bl)) pss_nil)
    (pss_one (ps_ret (pe_cmpR (k_eq (K := K) hu) (pe_lc (own := [("_law_sign", 2)]) rfl nd (k_any (K := K) (pv 0)) (blkOk_by (N := N_law_is_word) (sc := defScope s_law_is_word) (by decide +kernel)) (fun _ _ _ _ _ => (pg_name (i := 2) nd rfl (by first | exact .inl rfl | exact .inr rfl))) (fun _ _ _ _ _ => pts_one (pt_cmpR (k_notIn (K := K)) (pv 2) (pv 1) (by rfl))) (fun _ _ _ _ _ => (pv 2))) (pe_lst pa_nil) (nomark _)))))), ?_⟩
  obtain ⟨G, M, v, d, rfl, z, hd, hs, q⟩ := h
  repeat (walk_at "z")
  refine z_isi (.ty "str") (hd.up z.sub).ty (kit_ty (kit_str d)) ?_
  cases hi : isStrD d with
  | false =>
    repeat (walk_at "z")
    have := q G H z (Same.refl G)
    rw [wordD_ns hi] at this
    exact this
  | true =>
    cases hd with
    | str t =>
      have hl := hs t rfl
      repeat (walk_at "z")
      refine z_lenS hl ?_
      repeat (walk_at "z")
      have fls : ¬ (1 ≤ t.length ∧ t.length ≤ 8) → Q (.bl false) H := fun c => by
        have := q G H z (Same.refl G)
        have e : wordD (.str t) = false := by
          show (decide _ && (decide _ && _)) = _
          by_cases c1 : 1 ≤ t.length
          · rw [decide_eq_false (show ¬ t.length ≤ 8 from fun h => c ⟨c1, h⟩), Bool.false_and, Bool.and_false]
          · rw [decide_eq_false c1, Bool.false_and]
        rw [e] at this
        exact this
      refine z_bd (fun c1 => ?_) (fun c1 => ?_)
      · repeat (walk_at "z")
        refine z_bd (fun c2 => ?_) (fun c2 => ?_)
        · repeat (walk_at "z")
          refine z_anyS ?_
          repeat (walk_at "z")
          refine z_itS ?_
          refine lc_src src_S (fun i G' M' acc => M' = M ∧ G' = G ∧ acc = ((t.cps.toList.take i).filter fun c => !decide (c ∈ abcL)).map fun c => V.str ⟨#[c]⟩) z ⟨rfl, rfl, rfl⟩ (fun _ _ _ _ _ _ _ _ => trivial) ?_ ?_
          · rintro i x G2 M2 acc Dl H2 hx ⟨rfl, rfl, rfl⟩ z2
            obtain ⟨c, hc, rfl⟩ : ∃ c, t.cps.toList[i]? = some c ∧ x = V.str ⟨#[c]⟩ := by
              unfold chrV at hx
              rw [List.getElem?_map] at hx
              cases e : t.cps.toList[i]? with
              | none => rw [e] at hx; cases hx
              | some c => rw [e] at hx; exact ⟨c, rfl, (Option.some.inj hx).symm⟩
            repeat (walk_at "z")
            refine ⟨by rfl, ?_⟩
            repeat (walk_at "z")
            refine .inl ⟨c, _, rfl, rfl, ?_⟩
            refine ⟨_, rfl, ?_⟩
            show Bif (!decide (c ∈ abcL)) _ _
            have tk : ((t.cps.toList.take (i + 1)).filter fun c => !decide (c ∈ abcL)) = ((t.cps.toList.take i).filter fun c => !decide (c ∈ abcL)) ++ if (!decide (c ∈ abcL)) = true then [c] else [] := by
              rw [List.take_add_one, hc, List.filter_append]
              congr 1
              show List.filter _ [c] = _
              rw [List.filter_cons]
              rfl
            refine z_b2 (fun c3 => ?_) (fun c3 => ?_)
            · repeat (walk_at "z")
              refine z_laid z2 ?_ ⟨rfl, rfl, ?_⟩
              · rw [List.length_map]
                have h1 := List.length_filter_le (fun c => !decide (c ∈ abcL)) (t.cps.toList.take i)
                have h2 : (t.cps.toList.take i).length ≤ t.length := by rw [List.length_take, Array.length_toList]; exact Nat.min_le_right _ _
                omega
              · rw [tk, if_pos c3, List.map_append]
                rfl
            · refine z_left z2 ⟨rfl, rfl, ?_⟩
              rw [tk, if_neg (by rw [c3]; exact Bool.false_ne_true), List.append_nil]
          · rintro p2 G2 M2 acc G3 H3 ⟨rfl, rfl, rfl⟩ s3 z3 e3
            rw [chrV_len, show t.length = t.cps.toList.length from (Array.length_toList).symm, List.take_length] at e3
            repeat (walk_at "z")
            refine z_newL z3 (by simp) fun p4 G4 H4 z4 s4 e4 => ?_
            refine z_eqNil (z4.seqL (SqL.of (s4 _ _ e3))) (z4.sub _ _ e4) ?_
            have := q G4 _ z4 (s3.trans s4)
            have e : wordD (.str t) = decide ((((t.cps.toList).filter fun c => !decide (c ∈ abcL)).map fun c => V.str ⟨#[c]⟩) = []) := by
              show (decide _ && (decide _ && _)) = _
              rw [decide_eq_true (show 1 ≤ t.length by omega), decide_eq_true (show t.length ≤ 8 by omega), Bool.true_and, Bool.true_and]
              rw [Bool.eq_iff_iff, List.all_eq_true, decide_eq_true_iff, List.map_eq_nil_iff, List.filter_eq_nil_iff]
              simp
            rw [e] at this
            exact this
        · repeat (walk_at "z")
          exact fls fun h => c2 (by omega)
      · repeat (walk_at "z")
        exact fls fun h => c1 (by omega)
    | _ => cases hi
theorem ok_lint (T : Nm K mg) (F : FnP K "_law_is_integer" s_law_is_integer f fd) : FnOk P w K mg base CX0 1 f fd ["_law_value"] (spInt K) := by
  have nd : N_law_is_integer.Nodup := sc_law_is_integer.nd
  refine F.ok sc_law_is_integer (fun vs H Q E h => ?_) (fun cdv A outer s H vs Q E hr h => ?_)
  · obtain ⟨G, M, v, d, rfl, _⟩ := h
    rfl
  have hu := hr.units
  refine ⟨_, PSs.nox   (pss_one (ps_ret (pe_and (pe_callB (kc_isi (K := K)) (by rfl) T.b_isinstance boot_isinstance (pa_cons (pv 0) (pa_cons (pe_bltn (v := .ty "int") (by rfl) T.b_int boot_int rfl) pa_nil))) (pe_one (pe_not (pe_callB (kc_isi (K := K)) (by rfl) T.b_isinstance boot_isinstance (pa_cons (pv 0) (pa_cons (pe_bltn (v := .ty "bool") (by rfl) T.b_bool boot_bool rfl) pa_nil)))))))), ?_⟩
  obtain ⟨G, M, v, d, rfl, z, hd, q⟩ := h
  repeat (walk_at "z")
  refine z_isi (.ty "int") (hd.up z.sub).ty (kit_ty (kit_int d)) ?_
  repeat (walk_at "z")
  have e : intD d = ((intD d || boolD d) && !boolD d) := by cases d <;> rfl
  cases h1 : (intD d || boolD d) with
  | false =>
    repeat (walk_at "z")
    rw [e, h1] at q
    exact q
  | true =>
    repeat (walk_at "z")
    refine z_isi (.ty "bool") (hd.up z.sub).ty (kit_ty (kit_bool d)) ?_
    repeat (walk_at "z")
    rw [e, h1, Bool.true_and] at q
    exact q

end
/-! ### what is shown -/
theorem rc_one {q c : Nat} (hq : q = 34 ∨ q = 39) (h1 : 97 ≤ c) (h2 : c ≤ 122) : (Builtin.Str.reprChar q c).length = 1 := by
  have h : (List.range 26).all (fun k => decide ((Builtin.Str.reprChar 34 (97 + k)).length = 1) && decide ((Builtin.Str.reprChar 39 (97 + k)).length = 1)) = true := by decide +kernel
  have := List.all_eq_true.mp h (c - 97) (List.mem_range.mpr (by omega))
  have e : 97 + (c - 97) = c := by omega
  rw [e] at this
  obtain ⟨a, b⟩ := Bool.and_eq_true_iff.mp this
  rcases hq with rfl | rfl
  · exact of_decide_eq_true a
  · exact of_decide_eq_true b
theorem fold_one {q : Nat} (hq : q = 34 ∨ q = 39) : ∀ (l : List Nat) (n : Nat), (∀ c ∈ l, 97 ≤ c ∧ c ≤ 122) → l.foldl (fun n c => n + (Builtin.Str.reprChar q c).length) n = n + l.length
  | [], n, _ => rfl
  | c :: r, n, h => by
    have hc := h c (List.mem_cons_self ..)
    rw [List.foldl_cons, rc_one hq hc.1 hc.2, fold_one hq r _ fun d hd => h d (List.mem_cons_of_mem _ hd), List.length_cons]
    omega
theorem rt_len {s : Str} (h : Lt s) : (reprText s).length = s.length + 2 := by
  have hq : reprQuote s = 34 ∨ reprQuote s = 39 := by
    unfold reprQuote
    split
    · exact .inl rfl
    · exact .inr rfl
  rw [← reprLen_eq, ← Array.foldl_toList, fold_one hq _ _ h]
  have e : s.cps.toList.length = s.length := by simp [Str.length]
  omega
theorem joinP : ∀ ts : List Str, (Str.join ", " ts).length ≤ piled ts
  | [] => Nat.zero_le _
  | t :: ts => by
    have := join_length_add (t :: ts) (by simp)
    omega
theorem tup_len (ts : List Str) : (tupleText ts).length ≤ piled ts + 3 := by
  have h1 := joinP ts
  unfold tupleText
  have e1 : ((",)" : String) : Str).length = 2 := rfl
  have e2 : ((")" : String) : Str).length = 1 := rfl
  have e3 : ((if (ts.length == 1) = true then ",)" else ")" : String) : Str).length ≤ 2 := by
    split
    · exact Nat.le_of_eq e1
    · rw [e2]; decide
  rw [PySem.Str.length_append, PySem.Str.length_append]
  have e4 : (("(" : Str)).length = 1 := rfl
  rw [e4]
  omega
theorem tf_len : ∀ (ts : List Str) (k : Nat) (acc : Str), (textFrom k acc ts).length ≤ acc.length + piled ts
  | [], k, acc => by show acc.length ≤ _; exact Nat.le_add_right _ _
  | t :: r, k, acc => by
    have ih := tf_len r (k + 1) (acc ++ (if k > 0 then ", " else "" : String) ++ t)
    have e : (acc ++ (if k > 0 then ", " else "" : String) ++ t).length ≤ acc.length + 2 + t.length := by
      rw [PySem.Str.length_append, PySem.Str.length_append]
      have : ((if k > 0 then ", " else "" : String) : Str).length ≤ 2 := by split <;> decide
      omega
    show (textFrom (k + 1) _ r).length ≤ _
    rw [piled_cons]
    omega
theorem lst_len (ts : List Str) : (listText ts).length ≤ piled ts + 2 := by
  have h := tf_len ts 0 "["
  have e1 : (("[" : String) : Str).length = 1 := rfl
  have e2 : (("]" : String) : Str).length = 1 := rfl
  unfold listText
  rw [PySem.Str.length_append, e2]
  rw [e1] at h
  omega
theorem sAll_map : ∀ ds : List PyData, PyData.shownAll ds = ds.map PyData.shown
  | [] => rfl
  | d :: ds => congrArg (PyData.shown d :: ·) (sAll_map ds)
theorem sAll_ok : ∀ {ds : List PyData}, (∀ d ∈ ds, d.showable = true) → PyData.showableAll ds = true
  | [], _ => rfl
  | d :: ds, h => by
    show (d.showable && PyData.showableAll ds) = true
    rw [h d (List.mem_cons_self ..), sAll_ok fun e he => h e (List.mem_cons_of_mem _ he)]
    rfl
structure Shw (d : PyData) (n : Nat) : Prop where
  ok : d.showable = true
  le : d.shown.length ≤ n
theorem Shw.mono {n m : Nat} {d : PyData} (h : Shw d n) (hn : n ≤ m) : Shw d m := ⟨h.ok, Nat.le_trans h.le hn⟩
theorem shw_wd {s : Str} (h : Wd s) : Shw (.str s) 10 := ⟨rfl, by
  show (reprText s).length ≤ 10
  rw [rt_len h.2.2]
  have := h.2.1
  omega⟩
theorem piled_le {n : Nat} : ∀ {ts : List Str}, (∀ t ∈ ts, t.length ≤ n) → piled ts ≤ (n + 2) * ts.length
  | [], _ => Nat.zero_le _
  | t :: ts, h => by
    have h1 := h t (List.mem_cons_self ..)
    have h2 := piled_le (ts := ts) fun u hu => h u (List.mem_cons_of_mem _ hu)
    rw [piled_cons, List.length_cons, Nat.mul_add, Nat.mul_one]
    omega
theorem shw_tup {n : Nat} {ds : List PyData} (h : ∀ d ∈ ds, Shw d n) : Shw (.tuple ds) ((n + 2) * ds.length + 3) := by
  refine ⟨sAll_ok fun d hd => (h d hd).ok, ?_⟩
  show (tupleText (PyData.shownAll ds)).length ≤ _
  have h1 := tup_len (PyData.shownAll ds)
  have h2 := piled_le (n := n) (ts := PyData.shownAll ds) fun t ht => by
    rw [sAll_map] at ht
    obtain ⟨d, hd, rfl⟩ := List.mem_map.mp ht
    exact (h d hd).le
  rw [sAll_map, List.length_map] at h2
  rw [sAll_map] at h1 ⊢
  omega
theorem shw_lst {n : Nat} {ds : List PyData} (h : ∀ d ∈ ds, Shw d n) : Shw (.list ds) ((n + 2) * ds.length + 2) := by
  refine ⟨sAll_ok fun d hd => (h d hd).ok, ?_⟩
  show (listText (PyData.shownAll ds)).length ≤ _
  have h1 := lst_len (PyData.shownAll ds)
  have h2 := piled_le (n := n) (ts := PyData.shownAll ds) fun t ht => by
    rw [sAll_map] at ht
    obtain ⟨d, hd, rfl⟩ := List.mem_map.mp ht
    exact (h d hd).le
  rw [sAll_map, List.length_map] at h2
  rw [sAll_map] at h1 ⊢
  omega
theorem word_wd {s : Str} (h : wordS s = true) : Wd s := by
  obtain ⟨h1, h2⟩ := Bool.and_eq_true_iff.mp h
  obtain ⟨h3, h4⟩ := Bool.and_eq_true_iff.mp h2
  refine ⟨of_decide_eq_true h1, of_decide_eq_true h3, fun c hc => ?_⟩
  have hm := of_decide_eq_true (List.all_eq_true.mp h4 c hc)
  have e : abcL = (List.range 26).map (· + 97) := by decide +kernel
  rw [e] at hm
  obtain ⟨k, hk, rfl⟩ := List.mem_map.mp hm
  have := List.mem_range.mp hk
  omega
theorem shw_word {s : Str} (h : wordS s = true) : Shw (.str s) 10 := shw_wd (word_wd h)
theorem dict_len (ts : List Str) : (dictText ts).length ≤ piled ts + 2 := by
  have h1 := joinP ts
  unfold dictText
  rw [PySem.Str.length_append, PySem.Str.length_append]
  have e1 : (("{" : Str)).length = 1 := rfl
  have e2 : (("}" : Str)).length = 1 := rfl
  rw [e1, e2]
  omega

/-! ### what calls a lambda -/
def Caught (K : PySem.W.Frag) (w : World) (CI : Addr) (cls : Value) (d : Option Addr) (H' : Hp) (Q : VK) : Prop := cls = .ref CI ∧ ∃ dd v, d = some dd ∧ H' dd = some (.xd [("value", v)]) ∧ rReprX K w [v] H' fun r H2 => H2 dd = some (.xd [("value", v)]) ∧ NewT [r, .bl true] H2 Q
def TTtd (K : PySem.W.Frag) (w : World) (CI : Addr) : (XK → Hp → VK → Prop) → Hp → VK → Prop := fun tl H Q => ∀ E : XK, (∀ cls d H', Caught K w CI cls d H' Q → E cls d H') → tl E H fun _ H' => Q .non H'
structure ToC (K : PySem.W.Frag) (mg : Str → Option Value) (CI : Addr) : Prop where
  ex : ∃ g fd, FnP K "_law_told" s_law_told g fd ∧ mg "_law_told" = some (.ref g) ∧ Binds K fd ["_law_call"] []
  gCI : mg "InvalidStaff" = some (.ref CI)
  ve : mg "ValueError" = none
  xfI : XfC K CI
  xcI : ExcC K CI
  noI : PySem.W.findIn K (.ref CI) "value" = some none
  eII : PySem.W.exmOne K (.ref CI) (.ref CI) = some true
  ktV : PySem.W.kitOne K (.ref CI) (.type "ValueError") = some true
theorem rReprX_mono {K : PySem.W.Frag} {w : World} {vs : List V} {H : Hp} {Q Q' : VK} (h : rReprX K w vs H Q) (m : ∀ r H2, Q r H2 → Q' r H2) : rReprX K w vs H Q' :=
  h.imp (fun ⟨x, d, a, b, c, e, f, q⟩ => ⟨x, d, a, b, c, e, f, m _ _ q⟩) fun ⟨d, o, kvs, ds, a, b, c, e, f, g, q⟩ => ⟨d, o, kvs, ds, a, b, c, e, f, g, m _ _ q⟩
theorem told_gives {X : Cx} {CI g : Addr} {cdg : Value} {q : Str} {k : Nat} (T : Nm X.K X.mg) (TC : ToC X.K X.mg CI) (hg : X.A.guards = some []) (hr : Room (k + 2) X.A) : GivesTo2 X N_law_told "_law_told" (defScope s_law_told) g cdg (defBody s_law_told) "_law_call" q (TTtd X.K X.w CI) := by
  intro f c' s H Q tl act hc h
  have nd : N_law_told.Nodup := sc_law_told.nd
  have hu := (hr.deeper (envOfC "_law_told" (defScope s_law_told) s.heap.objs.size g cdg)).units
  refine ⟨_, PSs.nox (pss_one (ps_try_names (Wout := fun _ _ _ _ => False) (tb := fun W D σ H => σ[0]? = some (some (.ref f)) ∧ H c' = some (LamX.CodeO c' q) ∧ tl (WE W σ) H fun _ H' => D.rt .non H') rfl rfl nd takes0
    (fun W pn xe tW pW => ⟨fun pins s' σ H' D I h' => (by
      exact (pss_cons (ps_expr (act W pn xe _ _ tW)) (pss_one (ps_ret pe_non))).run pins s' σ H' D I h')⟩)
    (.cons (x := "InvalidStaff") (n := "e") (c := .ref CI) (i := 1) rfl rfl ⟨by rfl, by decide, .inl TC.gCI⟩ (fun a oe cls d pn hz hf => pss_one (ps_ret (pe_tup (pa_cons (pe_callB (kc_reprX (K := X.K) (w := X.w) hg T.sys hu) (by rfl) T.b_repr boot_repr (pa_cons (pe_xf TC.xfI TC.noI hz hf (pv 1)) pa_nil)) (pa_cons (pe_callB (call_isX TC.xcI hz hf) (by rfl) T.b_isinstance boot_isinstance (pa_cons (pv 1) (pa_cons (pe_bltn (v := .ty "ValueError") (by rfl) TC.ve PyProof.Rows.Boot.«ValueError» rfl) pa_nil))) pa_nil))))) .nil))), ?_⟩
  repeat (walk_at "z")
  refine ⟨rfl, hc, h _ fun cls d H' hcau => ?_⟩
  obtain ⟨e, dd, v, ed, hx, qv⟩ := hcau
  subst e ed
  refine ⟨true, TC.eII, fun _ e he => ?_, fun z => by cases z⟩
  repeat (walk_at "z")
  refine ⟨_, rfl, rfl, rfl, dd, _, _, rfl, hx, rfl, ?_⟩
  repeat (walk_at "z")
  refine rReprX_mono qv fun r H2 ⟨hx2, qr⟩ => ?_
  repeat (walk_at "z")
  refine ⟨.ty "ValueError", .type "ValueError", true, dd, _, rfl, rfl, .ty _, TC.ktV, rfl, hx2, ?_⟩
  repeat (walk_at "z")
  exact qr
section
variable {X : Cx} {CI c P : Addr} {k : Nat} {q : Str} {params : Arguments} {body : Expr} {scope : Scope} {t : XK → TE} {p lpos pos : Pos}
theorem pe_told (T : Nm X.K X.mg) (TC : ToC X.K X.mg CI) (hgu : X.A.guards = some []) (hg : Gl X "_law_told") (TB : LamX.TabB X.base X.mg c P) (hcode : X.env.code = .ref c) (hq : X.env.qual ++ "<lambda>" = q) (hr : Room (k + 2) X.A) (L : LamX.LamS X.env.scope scope) (hdef : defaultsOf params X.env = ([], []))
    (hbind : ∀ (q : Str) (cl : List (Str × Addr)) (pm cv ctv : Value), bindArgs (PySem.W.kla_fn "<lambda>" q params body scope cl pm cv ctv) ⟨[], []⟩ = pure [])
    (hbody : ∀ (A : Around) (outer : List Env) (s : Shared) (H : Hp) (E : XK) (f c' : Addr), Room k (A.deeper (LamX.lamEnv X scope s.heap.objs.size f c')) → PE (LamX.lamCx X A outer s H E scope f c') body (t E)) :
    PE X (.Call (.Name "_law_told" p) [.Lambda params body scope lpos] [] pos) (tLamC P q (TTtd X.K X.w CI) t) := by
  obtain ⟨g, fd, F, hm, hb⟩ := TC.ex
  exact pe_lamC hg hm F.kp F hb sc_law_told rfl (.inl rfl) (fun cdv => told_gives T TC hgu hr) TB hcode hq hr L hdef hbind hbody
end
/-! ### what is due, and told -/
def dueP : Option PyData → PyData
  | none => .none
  | some e => .tuple [.str e.shown, .bool true]
theorem z_told {K : PySem.W.Frag} {w : World} {CI P : Addr} {q : Str} {σ : L2.St} {Q : VK} {te : XK → TE} {G H : Hp} {M : List (Addr × HO)} {ps : Array Value} (z : Zp G M H) (k : Nat) (e : M[k]? = some (P, .tbl ps)) (t : TbOk G q ps) (du : Option PyData) (hs : ∀ e, du = some e → Shw e 60000 ∧ e.depth ≤ 60)
    (body : ∀ E G1 H1 ps1, Zp G1 (M.set k (P, .tbl ps1)) H1 → Same G G1 → (∀ e, du = some e → VErr K w CI G1 (M.set k (P, .tbl ps1)) E e) → ∀ Qn : Hp → Prop, (du = none → ∀ G2 H2, Zp G2 (M.set k (P, .tbl ps1)) H2 → Same G1 G2 → Qn H2) → te E σ H1 fun _ H' => Qn H')
    (fin : ∀ rv G2 H2 ps2, Zp G2 (M.set k (P, .tbl ps2)) H2 → Same G G2 → TbOk G2 q ps2 → Dt K G2 rv (dueP du) → Q rv H2) : tLamC P q (TTtd K w CI) te σ H Q := by
  refine z_lamC z k e t fun G1 H1 ps' z1 s1 t1 => ?_
  intro E hE
  refine body E G1 H1 ps' z1 s1 (fun e' he => ?_) (fun H' => Q .non H') (fun hd G2 H2 z2 s2 => fin .non G2 H2 ps' z2 (s1.trans s2) (t1.up s2) (by rw [hd]; exact .non))
  obtain ⟨h1, h2⟩ := hs e' he
  intro dx v G2 H2 z2 s2 hx hsh
  refine hE _ _ _ ⟨rfl, dx, v, rfl, z2.sub _ _ hx, z_reprX1 z2 hsh h1.ok h2 (Nat.le_trans h1.le (by decide)) ⟨z2.sub _ _ hx, ?_⟩⟩
  exact z_newT z2 (by simp) fun p3 G3 H3 z3 s3 e3 => fin (.ref p3) G3 H3 ps' z3 (s1.trans (s2.trans s3)) (t1.up (s2.trans s3)) (by rw [he]; exact .tup (SqT.of e3) (.cons (.str _) (.cons (.bl _) .nil)))
end LW
namespace LW
open PySem PySem.Spec PyProof.Rows L2 Ys

section
variable {P : Program} {w : World} {K : PySem.W.Frag} {mg : Str → Option Value} {base : Heap} {f : Addr} {fd : FuncData}
theorem bad1_nil {α : Type} {f : α → Bool} {l : List α} (h : (l.filter fun x => !f x) = []) : bad1 f l = none := by unfold bad1; rw [h]; rfl
theorem bad1_hd {α : Type} {f : α → Bool} {l r : List α} {x : α} (h : (l.filter fun x => !f x) = x :: r) : bad1 f l = some x := by unfold bad1; rw [h]; rfl
def spDueX (K : PySem.W.Frag) (w : World) : Sp := fun vs H Q _ => ∃ G M v vv, vs = [v] ∧ Zp G M H ∧ Wv K w G v vv ∧ (Shw (dataV vv) 60000 ∧ (dataV vv).depth ≤ 60) ∧ (∀ e, dueV vv = some e → Shw e 60000 ∧ e.depth ≤ 60) ∧ ∀ rv G1 H1, Zp G1 M H1 → Same G G1 → Dt K G1 rv (dueP (dueV vv)) → Q rv H1
theorem dts_filter {K : PySem.W.Frag} {G : Hp} {x : V} {d : PyData} {xs : List V} {ds : List PyData} (h : Dts K G xs ds) (hd : Dt K G x d) : Dts K G (xs ++ [x]) (ds ++ [d]) := Dts.app h (.cons hd .nil)
theorem ok_dueX (T : Nm K mg) (C_law_is_word : Own P w K mg base CX0 1 "_law_is_word" ["_law_value"] (spWord K)) (C_law_is_integer : Own P w K mg base CX0 1 "_law_is_integer" ["_law_value"] (spInt K)) (F : FnP K "_law_due" s_law_due f fd) : FnG P w K mg base CX0 3 f fd ["_law_value"] (spDueX K w) := by
  have nd : N_law_due.Nodup := sc_law_due.nd
  refine okG F sc_law_due (fun vs H Q E h => ?_) (fun cdv A outer s H vs Q E hg hr h => ?_)
  · obtain ⟨G, M, v, vv, rfl, _⟩ := h
    rfl
  have hu := hr.units
  refine ⟨_, PSs.nox   (pss_cons (ps_if (PW.pt (pw_or (pt_not (pt_val (pe_callB (kc_isiX (K := K) (w := w)) (by rfl) T.b_isinstance boot_isinstance (pa_cons (pv 0) (pa_cons (pe_bltn (v := .ty "dict") (by rfl) T.b_dict boot_dict rfl) pa_nil))))) (pw_or1 (pt_cmpR (k_ne (K := K) hu) (pe_lc (own := [("_law_name", 3)]) rfl nd (pi_kx T.sys (pv 0)) (blkOk_by (N := N_law_due) (sc := defScope s_law_due) (by decide +kernel)) (fun _ _ _ _ _ => (pg_name (i := 3) nd rfl (by first | exact .inl rfl | exact .inr rfl))) (fun _ _ _ _ _ => pts_one (pt_not (pt_val (pe_callB (kc_isi (K := K)) (by rfl) T.b_isinstance boot_isinstance (pa_cons (pv 3) (pa_cons (pe_bltn (v := .ty "str") (by rfl) T.b_str boot_str rfl) pa_nil)))))) (fun _ _ _ _ _ => (pv 3))) (pe_lst pa_nil) (nomark _))))) (pss_one (ps_ret (pe_tup (pa_cons (pe_callB (kc_reprX (K := K) (w := w) hg T.sys hu) (by rfl) T.b_repr boot_repr (pa_cons (pv 0) pa_nil)) (pa_cons pe_bl pa_nil))))) pss_nil)
    (pss_cons (ps_setLc (i := 1) (own := [("_law_name", 3)]) rfl nd rfl rfl (sw_true rfl rfl rfl (by decide +kernel)) (k_any (K := K) (pe_callB (kc_sorted (K := K) (P := P) (w := w) rfl) (by rfl) T.b_sorted boot_sorted (pa_cons (pe_callTy (kc_setD (P := P) (w := w) rfl) (by rfl) T.b_set boot_set (pa_cons (pv 0) pa_nil)) pa_nil))) (blkOk_by (N := N_law_due) (sc := defScope s_law_due) (by decide +kernel)) (fun _ _ _ _ _ => (pg_name (i := 3) nd rfl (by first | exact .inl rfl | exact .inr rfl))) (fun _ _ _ _ _ => pts_one (pt_not (pt_val (pe_own C_law_is_word (hr.mono (by omega)) (by rfl) pass0 (pa_cons (pv 3) pa_nil))))) (fun _ _ _ _ _ => (pv 3)))
    (pss_cons (ps_if (pt_cmpR (k_ne (K := K) hu) (pv 1) (pe_lst pa_nil) (nomark _)) (pss_one (ps_ret (pe_tup (pa_cons (pe_callB (kc_repr (K := K) hg T.sys hu) (by rfl) T.b_repr boot_repr (pa_cons (pe_ix (k_ix (K := K)) (pv 1) pe_int (fun _ _ => rfl)) pa_nil)) (pa_cons pe_bl pa_nil))))) pss_nil)
    (pss_cons (ps_setLc (i := 2) (own := [("_law_name", 3)]) (tt := tYes) rfl nd rfl rfl (sw_true rfl rfl rfl (by decide +kernel)) (k_any (K := K) (pe_callB (kc_sorted (K := K) (P := P) (w := w) rfl) (by rfl) T.b_sorted boot_sorted (pa_cons (pe_callTy (kc_setD (P := P) (w := w) rfl) (by rfl) T.b_set boot_set (pa_cons (pv 0) pa_nil)) pa_nil))) (blkOk_by (N := N_law_due) (sc := defScope s_law_due) (by decide +kernel)) (fun _ _ _ _ _ => (pg_name (i := 3) nd rfl (by first | exact .inl rfl | exact .inr rfl))) (fun _ _ _ _ _ => pts_nil) (fun _ _ _ _ _ => (pe_dget (hu_of hr) (pv 0) (pv 3) (fun _ _ => rfl))))
    (pss_cons (ps_setLc (i := 2) (own := [("_law_one", 4)]) rfl nd rfl rfl (sw_true rfl rfl rfl (by decide +kernel)) (k_any (K := K) (pv 2)) (blkOk_by (N := N_law_due) (sc := defScope s_law_due) (by decide +kernel)) (fun _ _ _ _ _ => (pg_name (i := 4) nd rfl (by first | exact .inl rfl | exact .inr rfl))) (fun _ _ _ _ _ => pts_one (PW.pt (pw_or (pt_not (pt_val (pe_own C_law_is_integer (hr.mono (by omega)) (by rfl) pass0 (pa_cons (pv 4) pa_nil)))) (pw_or1 (pt_not (pt_chain o_le o_le pe_int (pv 4) (pe_op o_pow pe_int pe_int))))))) (fun _ _ _ _ _ => (pv 4)))
    (pss_one (ps_ret (pe_ifExp (pt_cmpR (k_ne (K := K) hu) (pv 2) (pe_lst pa_nil) (nomark _)) (pe_tup (pa_cons (pe_callB (kc_repr (K := K) hg T.sys hu) (by rfl) T.b_repr boot_repr (pa_cons (pe_ix (k_ix (K := K)) (pv 2) pe_int (fun _ _ => rfl)) pa_nil)) (pa_cons pe_bl pa_nil))) pe_non)))))))), ?_⟩
  obtain ⟨G, M, v, vv, rfl, z, hv, hsd, hse, q⟩ := h
  have told1 : ∀ {G1 H1} e, dueV vv = some e → Zp G1 M H1 → Same G G1 → NewT [.str e.shown, .bl true] H1 Q := fun {G1 H1} e he z1 s1 => z_newT z1 (by simp) fun p G2 H2 z2 s2 e2 => q (.ref p) G2 H2 z2 (s1.trans s2) (by rw [he]; exact .tup (SqT.of e2) (.cons (.str _) (.cons (.bl _) .nil)))
  match vv, hv with
  | .dat d, ⟨hd, hn⟩ =>
    repeat (walk_at "z")
    refine .inl (z_isi (.ty "dict") (hd.up z.sub).ty (kit_ty (kit_dictD d)) ?_)
    rw [show isDict d = false by cases d <;> first | rfl | cases hn]
    repeat (walk_at "z")
    refine z_reprX1 z (.inl hd) hsd.1.ok hsd.2 (Nat.le_trans hsd.1.le (by decide)) ?_
    repeat (walk_at "z")
    exact told1 d rfl z (Same.refl G)
  | .odd ds, ⟨a, od, kvs, e, eod, hn, hl, ho⟩ =>
    subst e
    repeat (walk_at "z")
    refine .inr ⟨a, _, _, _, od, kvs, rfl, z.sub _ _ eod, .ty "dict", kit_ty kit_dictS, ?_⟩
    repeat (walk_at "z")
    refine z_itXX z eod ?_
    refine lc_src src_X (fun i G' M' acc => M' = M ∧ Same G G' ∧ acc.length ≤ i ∧ (acc = [] → ((ds.map fun p => isStrD p.1).take i).all id = true)) z ⟨rfl, Same.refl _, Nat.le_refl _, fun _ => rfl⟩ (fun i G' M' M1 acc H' ⟨_, s', _⟩ z' => z'.sub _ _ (s' _ _ eod)) ?_ ?_
    · rintro j y G' M' acc Dl H' hy ⟨rfl, s', hal, hac⟩ z'
      have hj := (List.getElem?_eq_some_iff.mp hy).1
      rw [List.length_map] at hj
      obtain ⟨d, hd, hdt⟩ := odd_all hn hy
      have hd2 : (ds.map fun p => isStrD p.1)[j]? = some (isStrD d) := by
        rw [List.getElem?_map] at hd ⊢
        obtain ⟨pr, hp, rfl⟩ := Option.map_eq_some_iff.mp hd
        rw [hp]
        rfl
      repeat (walk_at "z")
      refine ⟨by rfl, ?_⟩
      repeat (walk_at "z")
      refine z_isi (.ty "str") ((hdt.up s').up z'.sub).ty (kit_ty (kit_str d)) ?_
      repeat (walk_at "z")
      cases hi : isStrD d with
      | true =>
        repeat (walk_at "z")
        refine z_left z' ⟨rfl, s', by omega, fun e => ?_⟩
        rw [take_app hd2, hi, List.all_append, hac e]
        rfl
      | false =>
        repeat (walk_at "z")
        exact z_laid z' (by omega) ⟨rfl, s', by rw [List.length_append]; show _ + 1 ≤ j + 1; omega, fun e => by simp at e⟩
    rintro p1 G1 M1 acc G2 H2 ⟨rfl, s1, hal, hac⟩ s2 z2 e2
    rw [List.length_map, nds_len hn, List.take_of_length_le (by rw [List.length_map]; exact Nat.le_refl _), List.all_map] at hac
    have s12 := s1.trans s2
    repeat (walk_at "z")
    refine z_newL z2 (by simp) fun p3 G3 H3 z3 s3 e3 => ?_
    refine z_neNil (z3.seqL (SqL.of (s3 _ _ e2))) (z3.sub _ _ e3) ?_
    rw [decide_eq_true (show acc ≠ [] from fun e => by have := hac e; rw [show ds.all (id ∘ fun p => isStrD p.1) = ds.all (fun p => isStrD p.1) from rfl, ho] at this; cases this)]
    repeat (walk_at "z")
    have s13 := s12.trans s3
    refine z_reprX1 z3 (.inr ⟨a, od, kvs, ds, rfl, s13 _ _ eod, nds_up s13 hn, rfl⟩) hsd.1.ok hsd.2 (Nat.le_trans hsd.1.le (by decide)) ?_
    repeat (walk_at "z")
    exact told1 _ rfl z3 s13
  | .txt es, ⟨a, kvs, e, ⟨od, eod⟩, hk, ok⟩ =>
    subst e
    have hfz : FzD G a kvs := ⟨od, eod⟩
    have hkl : kvs.length ≤ 20 := by have := Paired.length hk; have := ok.ln; omega
    have hel : (es.map (·.1)).length ≤ 900 := by rw [List.length_map]; have := ok.ln; omega
    have hkn := keysE_len ok
    have key : ∀ {j : Nat} {y : V}, ((keysE es).map V.str)[j]? = some y → ∃ s, (keysE es)[j]? = some s ∧ y = .str s ∧ s ∈ es.map (·.1) ∧ ShortD (.str s) := fun {j y} hy => by
      rw [List.getElem?_map] at hy
      obtain ⟨s, hs, rfl⟩ := Option.map_eq_some_iff.mp hy
      exact ⟨s, hs, rfl, keysE_sh ok (List.mem_of_getElem? hs)⟩
    repeat (walk_at "z")
    refine .inl (z_isi (.ty "dict") (.fDict (z.sub _ _ eod)) (kit_ty kit_dictS) ?_)
    repeat (walk_at "z")
    refine z_itKX z eod ?_
    refine lc_src src_K (fun i G' M' acc => M' = M ∧ Same G G' ∧ acc = []) z ⟨rfl, Same.refl _, rfl⟩ (fun i G' M' M1 acc H' ⟨_, s', _⟩ z' => z'.sub _ _ (s' _ _ eod)) ?_ ?_
    · rintro j y G' M' acc Dl H' hy ⟨rfl, s', rfl⟩ z'
      obtain ⟨s, rfl⟩ : ∃ s, y = .str s := by
        rw [List.getElem?_map] at hy
        obtain ⟨pr, hp, rfl⟩ := Option.map_eq_some_iff.mp hy
        have hm : pr.1 ∈ kvs.map (·.1) := List.mem_map.mpr ⟨pr, List.mem_of_getElem? hp, rfl⟩
        rw [hk.keys] at hm
        obtain ⟨s, _, e⟩ := List.mem_map.mp hm
        exact ⟨s, by show kV pr.1 = _; rw [← e]; rfl⟩
      repeat (walk_at "z")
      refine ⟨by rfl, ?_⟩
      repeat (walk_at "z")
      refine z_isi (.ty "str") (Dt.ty (d := .str s) (.str s)) (kit_ty (kit_str (.str s))) ?_
      repeat (walk_at "z")
      exact z_left z' ⟨rfl, s', rfl⟩
    rintro p1 G1 M1 acc G2 H2 ⟨rfl, s1, rfl⟩ s2 z2 e2
    have s12 := s1.trans s2
    repeat (walk_at "z")
    refine z_newL z2 (by simp) fun p3 G3 H3 z3 s3 e3 => ?_
    refine z_neNil (z3.seqL (SqL.of (s3 _ _ e2))) (z3.sub _ _ e3) ?_
    rw [decide_eq_false (fun h => h rfl)]
    repeat (walk_at "z")
    have s13 := s12.trans s3
    refine z_anyL ?_
    repeat (walk_at "z")
    refine z_setD z3 (hfz.up s13) hk.keys hel fun p4 l4 G4 H4 z4 s4 e4 m4 nd4 l4' => ?_
    repeat (walk_at "z")
    refine z_sortX z4 e4 m4 nd4 (by rw [List.length_map] at l4'; have := ok.ln; omega) fun p5 G5 H5 z5 s5 e5 => ?_
    refine z_itL z5 (SqL.of e5) ?_
    have s15 := s13.trans (s4.trans s5)
    refine lc_src src_L (fun i G' M' acc => M' = M1 ∧ Same G5 G' ∧ acc = (((keysE es).take i).filter fun s => !wordS s).map V.str) z5 ⟨rfl, Same.refl _, rfl⟩ (fun i G' M' M2 acc H' ⟨_, s', _⟩ z' => z'.seqL (upL s' (SqL.of e5))) ?_ ?_
    · rintro j y G' M' acc Dl H' hy ⟨rfl, s', rfl⟩ z'
      obtain ⟨s, hs, rfl, hm, hsh⟩ := key hy
      have hj := (List.getElem?_eq_some_iff.mp hs).1
      have hfl := List.length_filter_le (fun s => !wordS s) ((keysE es).take j)
      rw [List.length_take] at hfl
      repeat (walk_at "z")
      refine ⟨by rfl, ?_⟩
      repeat (walk_at "z")
      refine ⟨G', _, .str s, .str s, rfl, z', .str s, hsh, fun G6 H6 z6 s6 => ?_⟩
      rw [show wordD (.str s) = wordS s from rfl]
      cases hw : wordS s with
      | true =>
        repeat (walk_at "z")
        refine z_left z6 ⟨rfl, s'.trans s6, ?_⟩
        rw [take_app hs, List.filter_append]
        simp [hw]
      | false =>
        repeat (walk_at "z")
        refine z_laid z6 (by rw [List.length_map]; omega) ⟨rfl, s'.trans s6, ?_⟩
        rw [take_app hs, List.filter_append]
        simp [hw]
    rintro p6 G6 M6 acc G7 H7 ⟨rfl, s6, rfl⟩ s7 z7 e7
    rw [List.length_map, show (asc (es.map (·.1))).length = (keysE es).length from rfl, List.take_length] at e7
    have s17 := s15.trans (s6.trans s7)
    repeat (walk_at "z")
    refine z_newL z7 (by simp) fun p8 G8 H8 z8 s8 e8 => ?_
    have s18 := s17.trans s8
    refine z_neNil (z8.seqL (SqL.of (s8 _ _ e7))) (z8.sub _ _ e8) ?_
    cases hf : (keysE es).filter fun s => !wordS s with
    | cons s r =>
      have hdu := dueE_w (bad1_hd hf)
      rw [decide_eq_true (by simp)]
      rw [hf] at e7
      repeat (walk_at "z")
      refine z_ixL z8 (SqL.of (s8 _ _ e7)) (v := .str s) (atI_nat (j := 0) rfl) ?_
      obtain ⟨h1, h2⟩ := hse _ hdu
      refine ⟨_, _, rfl, .str s, h1.ok, h2, Nat.le_trans h1.le (by decide), ?_⟩
      repeat (walk_at "z")
      exact told1 _ hdu z8 s18
    | nil =>
      have hdn := dueE_n (bad1_nil hf)
      rw [decide_eq_false (by simp)]
      repeat (walk_at "z")
      refine z_anyL ?_
      repeat (walk_at "z")
      refine z_setD z8 (hfz.up s18) hk.keys hel fun p9 l9 G9 H9 z9 s9 e9 m9 nd9 l9' => ?_
      repeat (walk_at "z")
      refine z_sortX z9 e9 m9 nd9 (by rw [List.length_map] at l9'; have := ok.ln; omega) fun p10 G10 H10 z10 s10 e10 => ?_
      have s110 := s18.trans (s9.trans s10)
      refine z_itL z10 (SqL.of e10) ?_
      refine lc_src src_L (fun i G' M' acc => M' = M6 ∧ Same G10 G' ∧ Dts K G' acc (((keysE es).take i).map (lookE es))) z10 ⟨rfl, Same.refl _, .nil⟩ (fun i G' M' M2 acc H' ⟨_, s', _⟩ z' => z'.seqL (upL s' (SqL.of e10))) ?_ ?_
      · rintro j y G' M' acc Dl H' hy ⟨rfl, s', hac⟩ z'
        obtain ⟨s, hs, rfl, hm, hsh⟩ := key hy
        have hj := (List.getElem?_eq_some_iff.mp hs).1
        have hal := hac.len (ds := [])
        rw [List.length_map, List.length_take] at hal
        obtain ⟨v, hv, hdt⟩ := (hk.up (s110.trans s')).val hm
        repeat (walk_at "z")
        refine ⟨by rfl, ?_⟩
        repeat (walk_at "z")
        refine z_dgU z' (hfz.up (s110.trans s')) hv ?_
        refine z_laid z' (by omega) ⟨rfl, s', ?_⟩
        rw [take_app hs, List.map_append]
        exact dts_filter hac hdt
      rintro p11 G11 M11 acc G12 H12 ⟨rfl, s11, hac⟩ s12' z12 e12
      rw [List.length_map, show (asc (es.map (·.1))).length = (keysE es).length from rfl, List.take_length] at hac
      have s112 := s110.trans (s11.trans s12')
      repeat (walk_at "z")
      refine z_anyL ?_
      repeat (walk_at "z")
      refine z_itL z12 (SqL.of e12) ?_
      have hacl := hac.len (ds := [])
      rw [List.length_map] at hacl
      refine lc_src src_L (fun i G' M' acc' => M' = M11 ∧ Same G12 G' ∧ Dts K G' acc' ((((keysE es).map (lookE es)).take i).filter fun d => !numD d)) z12 ⟨rfl, Same.refl _, .nil⟩ (fun i G' M' M2 acc H' ⟨_, s', _⟩ z' => z'.seqL (upL s' (SqL.of e12))) ?_ ?_
      · rintro j y G' M' acc' Dl H' hy ⟨rfl, s', hac'⟩ z'
        have hj := (List.getElem?_eq_some_iff.mp hy).1
        obtain ⟨d, hd, hdt⟩ := (hac.up (s12'.trans s')).at_ hy
        have hal := hac'.len (ds := [])
        have hfl := List.length_filter_le (fun d => !numD d) (((keysE es).map (lookE es)).take j)
        rw [List.length_take] at hfl
        have no : numD d = false → Laid (fun G'' M'' acc'' => M'' = M' ∧ Same G12 G'' ∧ Dts K G'' acc'' ((((keysE es).map (lookE es)).take (j + 1)).filter fun d => !numD d)) Dl y H' := fun hw => by
          refine z_laid z' (by omega) ⟨rfl, s', ?_⟩
          rw [take_app hd, List.filter_append]
          have : [d].filter (fun d => !numD d) = [d] := by simp [hw]
          rw [this]
          exact dts_filter hac' hdt
        have yes : numD d = true → Kept (fun G'' M'' acc'' => M'' = M' ∧ Same G12 G'' ∧ Dts K G'' acc'' ((((keysE es).map (lookE es)).take (j + 1)).filter fun d => !numD d)) Dl H' := fun hw => by
          refine z_left z' ⟨rfl, s', ?_⟩
          rw [take_app hd, List.filter_append]
          have : [d].filter (fun d => !numD d) = [] := by simp [hw]
          rw [this, List.append_nil]
          exact hac'
        repeat (walk_at "z")
        refine ⟨by rfl, ?_⟩
        repeat (walk_at "z")
        refine ⟨G', _, y, d, rfl, z', hdt, ?_⟩
        cases hi : intD d with
        | false =>
          repeat (walk_at "z")
          exact no (by cases d <;> first | rfl | cases hi)
        | true =>
          cases hdt with
          | int i =>
            repeat (walk_at "z")
            refine z_bd (fun c1 => ?_) (fun c1 => ?_)
            · repeat (walk_at "z")
              refine z_I (by unfold CPow; decide) ?_
              repeat (walk_at "z")
              rw [show ((10 : Int) ^ (30 : Int).toNat) = 1000000000000000000000000000000 from by decide]
              refine z_bd (fun c2 => ?_) (fun c2 => ?_)
              · repeat (walk_at "z")
                exact yes (by show (decide (0 ≤ i) && decide (i ≤ 1000000000000000000000000000000)) = true; rw [decide_eq_true c1, decide_eq_true c2]; rfl)
              · repeat (walk_at "z")
                exact no (by show (decide (0 ≤ i) && decide (i ≤ 1000000000000000000000000000000)) = false; rw [decide_eq_false c2, Bool.and_false])
            · repeat (walk_at "z")
              exact no (by show (decide (0 ≤ i) && decide (i ≤ 1000000000000000000000000000000)) = false; rw [decide_eq_false c1, Bool.false_and])
          | _ => cases hi
      rintro p13 G13 M13 acc2 G14 H14 ⟨rfl, s13', hac2⟩ s14' z14 e14
      rw [List.take_of_length_le (by rw [List.length_map]; omega)] at hac2
      have s114 := s112.trans (s13'.trans s14')
      repeat (walk_at "z")
      refine z_newL z14 (by simp) fun p15 G15 H15 z15 s15' e15 => ?_
      have s115 := s114.trans s15'
      refine z_neNil (z15.seqL (SqL.of (s15' _ _ e14))) (z15.sub _ _ e15) ?_
      cases hf2 : ((keysE es).map (lookE es)).filter fun d => !numD d with
      | cons d r =>
        rw [hf2] at hac2
        cases hac2 with
        | @cons x xs _ _ hx hr2 =>
          have hdu := hdn.trans (bad1_hd hf2)
          rw [decide_eq_true (by simp)]
          repeat (walk_at "z")
          refine z_ixL z15 (SqL.of (s15' _ _ e14)) (v := x) (atI_nat (j := 0) rfl) ?_
          obtain ⟨h1, h2⟩ := hse _ hdu
          refine ⟨_, _, rfl, (hx.up (s14'.trans s15')).up z15.sub, h1.ok, h2, Nat.le_trans h1.le (by decide), ?_⟩
          repeat (walk_at "z")
          exact told1 _ hdu z15 s115
      | nil =>
        rw [hf2] at hac2
        cases hac2
        have hdu := hdn.trans (bad1_nil hf2)
        rw [decide_eq_false (by simp)]
        repeat (walk_at "z")
        exact q .non G15 _ z15 s115 (by rw [show dueV (.txt es) = dueE es from rfl, hdu]; exact .non)
end
end LW
namespace LW
open PySem PySem.Spec PyProof.Rows L2 Ys

theorem psnoc {α β : Type} {R : α → β → Prop} : ∀ {xs : List α} {ys : List β} {x : α} {y : β}, R x y → Paired R xs ys → Paired R (xs ++ [x]) (ys ++ [y])
  | _, _, _, _, h, .nil => .cons h .nil
  | _, _, _, _, h, .cons a r => .cons a (psnoc h r)
def Prk (K : PySem.W.Frag) (G : Hp) (ps : List Addr) (kvs : List (Key × V)) : Prop := Paired (fun p (kv : Key × V) => SqT K G p [kV kv.1, kv.2]) ps kvs
theorem Prk.up {K : PySem.W.Frag} {G G1 : Hp} {ps kvs} (h : Prk K G ps kvs) (s : Same G G1) : Prk K G1 ps kvs := L2.Paired.mapP h fun _ _ h => upT s h
theorem Prk.len {K : PySem.W.Frag} {G : Hp} {ps kvs} (h : Prk K G ps kvs) : ps.length = kvs.length := Paired.length h

/-! ### texts of right signs -/
theorem so_iff {x : Str} : PyData.strOk x = true ↔ ∀ c ∈ x.cps.toList, c < 0x110000 := by
  unfold PyData.strOk
  rw [Array.all_eq_true_iff_forall_mem]
  exact ⟨fun h c hc => of_decide_eq_true (h c (by simpa using hc)), fun h c hc => decide_eq_true (h c (by simpa using hc))⟩
theorem so_app {x y : Str} (hx : PyData.strOk x = true) (hy : PyData.strOk y = true) : PyData.strOk (x ++ y) = true := by
  rw [so_iff] at *
  intro c hc
  have e : (x ++ y).cps.toList = x.cps.toList ++ y.cps.toList := by
    show (x.cps ++ y.cps).toList = _
    rw [Array.toList_append]
  rw [e] at hc
  rcases List.mem_append.mp hc with h | h
  · exact hx c h
  · exact hy c h
theorem so_joinL {S : List Nat} (hS : ∀ c ∈ S, c < 0x110000) : ∀ {ps : List (List Nat)}, (∀ p ∈ ps, ∀ c ∈ p, c < 0x110000) → ∀ c ∈ TL.joinL S ps, c < 0x110000
  | [], _, c, h => by simp [TL.joinL] at h
  | [p], hp, c, h => hp p (by simp) c (by simpa [TL.joinL] using h)
  | p :: q :: r, hp, c, h => by
    have h' : c ∈ p ++ (S ++ TL.joinL S (q :: r)) := by simpa [TL.joinL] using h
    rcases List.mem_append.mp h' with h | h
    · exact hp p (by simp) c h
    · rcases List.mem_append.mp h with h | h
      · exact hS c h
      · exact so_joinL hS (ps := q :: r) (fun x hx => hp x (List.mem_cons_of_mem _ hx)) c h
theorem so_join {s : Str} {ts : List Str} (hs : PyData.strOk s = true) (ht : ∀ t ∈ ts, PyData.strOk t = true) : PyData.strOk (Str.join s ts) = true := by
  rw [so_iff]
  intro c hc
  have e : (Str.join s ts).cps.toList = TL.joinL (TL.tl s) (ts.map TL.tl) := TL.tl_join s ts
  rw [e] at hc
  refine so_joinL (so_iff.mp hs) (fun p hp => ?_) c hc
  obtain ⟨t, ht', rfl⟩ := List.mem_map.mp hp
  exact so_iff.mp (ht t ht')
theorem rc_id {q c : Nat} (hq : q = 34 ∨ q = 39) (h1 : 97 ≤ c) (h2 : c ≤ 122) : Builtin.Str.reprChar q c = [c] := by
  have h : (List.range 26).all (fun k => decide (Builtin.Str.reprChar 34 (97 + k) = [97 + k]) && decide (Builtin.Str.reprChar 39 (97 + k) = [97 + k])) = true := by decide +kernel
  have := List.all_eq_true.mp h (c - 97) (List.mem_range.mpr (by omega))
  have e : 97 + (c - 97) = c := by omega
  rw [e] at this
  obtain ⟨a, b⟩ := Bool.and_eq_true_iff.mp this
  rcases hq with rfl | rfl
  · exact of_decide_eq_true a
  · exact of_decide_eq_true b
theorem fold_id {q : Nat} (hq : q = 34 ∨ q = 39) : ∀ (l : List Nat) (acc : Array Nat), (∀ c ∈ l, 97 ≤ c ∧ c ≤ 122) → l.foldl (fun out c => out ++ (Builtin.Str.reprChar q c).toArray) acc = acc ++ l.toArray
  | [], acc, _ => by simp
  | c :: r, acc, h => by
    have hc := h c (List.mem_cons_self ..)
    rw [List.foldl_cons, rc_id hq hc.1 hc.2, fold_id hq r _ fun d hd => h d (List.mem_cons_of_mem _ hd)]
    simp
theorem so_repr {s : Str} (h : Lt s) : PyData.strOk (reprText s) = true := by
  have hq : reprQuote s = 34 ∨ reprQuote s = 39 := by
    unfold reprQuote
    split
    · exact .inl rfl
    · exact .inr rfl
  have e : reprText s = ⟨(#[reprQuote s] ++ s.cps).push (reprQuote s)⟩ := by
    unfold reprText
    rw [← Array.foldl_toList, fold_id hq _ _ h]
  rw [e, so_iff]
  intro c hc
  have hc : c = reprQuote s ∨ c ∈ s.cps.toList := by
    simp only [Array.toList_push, Array.toList_append, List.mem_append, List.mem_cons, List.not_mem_nil, or_false] at hc
    rcases hc with (h | h) | h
    · exact .inl h
    · exact .inr h
    · exact .inl h
  rcases hc with rfl | hc
  · rcases hq with h | h <;> rw [h] <;> decide
  · have := (h c hc).2
    omega
/-! ### data that can be shown -/
structure ShD (d : PyData) : Prop where
  sh : Shw d 200
  dp : d.depth ≤ 5
  so : PyData.strOk d.shown = true
def shB (d : PyData) : Bool := d.showable && (decide (d.shown.length ≤ 200) && (decide (d.depth ≤ 5) && PyData.strOk d.shown))
theorem shB_ok {d : PyData} (h : shB d = true) : ShD d := by
  obtain ⟨h1, h2⟩ := Bool.and_eq_true_iff.mp h
  obtain ⟨h3, h4⟩ := Bool.and_eq_true_iff.mp h2
  obtain ⟨h5, h6⟩ := Bool.and_eq_true_iff.mp h4
  exact ⟨⟨h1, of_decide_eq_true h3⟩, of_decide_eq_true h5, h6⟩
theorem shd_wd {s : Str} (h : Wd s) : ShD (.str s) := ⟨(shw_wd h).mono (by decide), by show (0 : Nat) ≤ 5; decide, so_repr h.2.2⟩
theorem any_shd : ∀ d ∈ any1 ++ any2 ++ any3, ShD d := by
  have h : (any1 ++ any2 ++ any3).all shB = true := by decide +kernel
  exact fun d hd => shB_ok (List.all_eq_true.mp h d hd)
def KyD (d : PyData) : Prop := ShD d ∧ ∀ s, d = .str s → s.length ≤ 100
theorem kyd_wd {s : Str} (h : Wd s) : KyD (.str s) := ⟨shd_wd h, fun t e => by cases e; have := h.2.1; omega⟩
def kyB (d : PyData) : Bool := shB d && match d with
  | .str s => decide (s.length ≤ 100)
  | _ => true
theorem kyB_ok {d : PyData} (h : kyB d = true) : KyD d := by
  obtain ⟨h1, h2⟩ := Bool.and_eq_true_iff.mp h
  exact ⟨shB_ok h1, fun s e => by subst e; exact of_decide_eq_true h2⟩
theorem kv_shd : ∀ {ds : List (PyData × PyData)}, (∀ q ∈ ds, ShD q.1 ∧ ShD q.2) → PyData.showableKv ds = true ∧ piled (PyData.shownKv ds) ≤ 420 * ds.length ∧ PyData.depthKv ds ≤ 5 ∧ ∀ t ∈ PyData.shownKv ds, PyData.strOk t = true
  | [], _ => ⟨rfl, Nat.zero_le _, Nat.zero_le _, fun t h => by cases h⟩
  | (k, v) :: r, h => by
    obtain ⟨hk, hv⟩ := h (k, v) (by simp)
    obtain ⟨i1, i2, i3, i4⟩ := kv_shd (ds := r) fun q hq => h q (List.mem_cons_of_mem _ hq)
    have hk : ShD k := hk
    have hv : ShD v := hv
    refine ⟨?_, ?_, ?_, fun t ht => ?_⟩
    · rw [PyData.showableKv, hk.sh.ok, hv.sh.ok, i1]; rfl
    · rw [PyData.shownKv, piled_cons, List.length_cons, PySem.Str.length_append, PySem.Str.length_append]
      have e : ((": " : Str)).length = 2 := rfl
      have a1 := hk.sh.le
      have a2 := hv.sh.le
      rw [e]
      omega
    · rw [PyData.depthKv]
      exact Nat.max_le.mpr ⟨Nat.max_le.mpr ⟨hk.dp, hv.dp⟩, i3⟩
    · rw [PyData.shownKv] at ht
      rcases List.mem_cons.mp ht with rfl | ht
      · exact so_app (so_app hk.so (by decide +kernel)) hv.so
      · exact i4 t ht
structure ShW (d : PyData) : Prop where
  sh : Shw d 60000
  dp : d.depth ≤ 60
  so : PyData.strOk d.shown = true
theorem ShD.w {d : PyData} (h : ShD d) : ShW d := ⟨h.sh.mono (by decide), Nat.le_trans h.dp (by decide), h.so⟩
theorem shw_dct {ds : List (PyData × PyData)} (h : ∀ q ∈ ds, ShD q.1 ∧ ShD q.2) (hl : ds.length ≤ 20) : ShW (.dict ds) := by
  obtain ⟨i1, i2, i3, i4⟩ := kv_shd h
  have h1 := dict_len (PyData.shownKv ds)
  refine ⟨⟨i1, ?_⟩, ?_, ?_⟩
  · show (dictText _).length ≤ _
    omega
  · show PyData.depthKv ds + 1 ≤ 60
    omega
  · show PyData.strOk (dictText _) = true
    exact so_app (so_app (by decide +kernel) (so_join (by decide +kernel) i4)) (by decide +kernel)
/-! ### the entries of a drawn dict -/
structure EvX (K : PySem.W.Frag) (G : Hp) (a : NV) (e : PyData × PyData) : Prop where
  k : Dt K G a.kv e.1
  v : Dt K G a.v e.2
  ky : KyD e.1
  vl : ShD e.2
theorem EvX.up {K : PySem.W.Frag} {G G1 : Hp} {a : NV} {e : PyData × PyData} (h : EvX K G a e) (s : Same G G1) : EvX K G1 a e := ⟨h.k.up s, h.v.up s, h.ky, h.vl⟩
def EsX (K : PySem.W.Frag) (G : Hp) (kvs : List NV) : Prop := ∀ a ∈ kvs, ∃ e, EvX K G a e
theorem EsX.up {K : PySem.W.Frag} {G G1 : Hp} {kvs : List NV} (h : EsX K G kvs) (s : Same G G1) : EsX K G1 kvs := fun a ha => let ⟨e, q⟩ := h a ha; ⟨e, q.up s⟩
theorem EsX.put {K : PySem.W.Frag} {G : Hp} {kvs : List NV} {k : NestedKey} {kv v : V} {d e : PyData} (h : EsX K G kvs) (hk : Dt K G kv d) (hky : KyD d) (hv : Dt K G v e) (hvl : ShD e) : EsX K G (putV kvs k kv v) := fun a ha => by
  unfold putV at ha
  split at ha
  · obtain ⟨b, hb, rfl⟩ := List.mem_map.mp ha
    obtain ⟨e', q⟩ := h b hb
    split
    · exact ⟨(e'.1, e), q.k, hv, q.ky, hvl⟩
    · exact ⟨e', q⟩
  · rcases List.mem_append.mp ha with ha | ha
    · exact h a ha
    · rw [List.mem_singleton.mp ha]
      exact ⟨(d, e), hk, hv, hky, hvl⟩
theorem nk_text {K : PySem.W.Frag} {H : Hp} {v : V} {s : Str} (h : NkV K H v (.text s)) : v = .str s := by cases h; rfl
theorem nk_of_str {K : PySem.W.Frag} {H : Hp} {s : Str} {k : NestedKey} (h : NkV K H (.str s) k) : k = .text s := by cases h; rfl
theorem all_text {K : PySem.W.Frag} {G : Hp} : ∀ {kvs : List NV}, (∀ a ∈ kvs, NkV K G a.kv a.k) → EsX K G kvs → (∀ a ∈ kvs, ∃ s, a.k = .text s) → ∃ (tk : List (Key × V)) (es : List (Str × PyData)), tk.map nvK = kvs ∧ KvE K G tk es ∧ ∀ q ∈ es, KyD (.str q.1) ∧ ShD q.2
  | [], _, _, _ => ⟨[], [], rfl, .nil, fun q h => by cases h⟩
  | a :: r, hn, he, ht => by
    obtain ⟨tk, es, e1, e2, e3⟩ := all_text (kvs := r) (fun a ha => hn a (List.mem_cons_of_mem _ ha)) (fun a ha => he a (List.mem_cons_of_mem _ ha)) fun a ha => ht a (List.mem_cons_of_mem _ ha)
    obtain ⟨s, hs⟩ := ht a (by simp)
    obtain ⟨⟨d, e⟩, q⟩ := he a (by simp)
    have hv : a.kv = .str s := nk_text (hs ▸ hn a (by simp))
    have hk : Dt K G a.kv d := q.k
    rw [hv] at hk
    obtain rfl : d = .str s := by cases hk; rfl
    refine ⟨(.inr s, a.v) :: tk, (s, e) :: es, ?_, .cons ⟨rfl, q.v⟩ e2, fun x hx => ?_⟩
    · rw [List.map_cons, e1]
      obtain ⟨ak, akv, av⟩ := a
      have h1 : ak = .text s := hs
      have h2 : akv = .str s := hv
      subst h1 h2
      rfl
    · rcases List.mem_cons.mp hx with rfl | hx
      · exact ⟨q.ky, q.vl⟩
      · exact e3 x hx
theorem some_odd {K : PySem.W.Frag} {G : Hp} : ∀ {kvs : List NV}, EsX K G kvs → ∃ ds, NDs K G kvs ds ∧ (∀ q ∈ ds, KyD q.1 ∧ ShD q.2)
  | [], _ => ⟨[], .nil, fun q h => by cases h⟩
  | a :: r, he => by
    obtain ⟨ds, h1, h2⟩ := some_odd (kvs := r) fun a ha => he a (List.mem_cons_of_mem _ ha)
    obtain ⟨e, q⟩ := he a (by simp)
    exact ⟨e :: ds, .cons q.k q.v h1, fun x hx => by
      rcases List.mem_cons.mp hx with rfl | hx
      · exact ⟨q.ky, q.vl⟩
      · exact h2 x hx⟩
theorem odd_no {K : PySem.W.Frag} {G : Hp} : ∀ {kvs : List NV} {ds : List (PyData × PyData)}, NDs K G kvs ds → (∀ a ∈ kvs, NkV K G a.kv a.k) → ds.all (fun p => isStrD p.1) = true → ∀ a ∈ kvs, ∃ s, a.k = .text s
  | _, _, .nil, _, _, a, h => by cases h
  | _, _, .cons (a := b) (p := p) h1 h2 t, hn, ha, a, hm => by
    rw [List.all_cons, Bool.and_eq_true_iff] at ha
    rcases List.mem_cons.mp hm with rfl | hm
    · obtain ⟨d, e⟩ := p
      have h1 : Dt K G a.kv d := h1
      cases d with
      | str s =>
        have hv : a.kv = .str s := by
          generalize a.kv = x at h1
          cases h1
          rfl
        exact ⟨s, nk_of_str (hv ▸ hn a (by simp))⟩
      | _ => exact absurd ha.1 (by intro h; cases h)
    · exact odd_no t (fun a ha => hn a (List.mem_cons_of_mem _ ha)) ha.2 a hm
theorem nd_tk {tk : List (Key × V)} (h : ((tk.map nvK).map NV.k).Nodup) : (tk.map (·.1)).Nodup := by
  have e : (tk.map nvK).map NV.k = (tk.map (·.1)).map nkK := by rw [List.map_map, List.map_map]; rfl
  rw [e] at h
  exact List.Pairwise.of_map nkK (fun a b hne hab => hne (by rw [hab])) h
/-! ### what a drawn value is -/
structure VvOk (vv : VV) : Prop where
  all : ShW (dataV vv)
  due : ∀ e, dueV vv = some e → ShW e
theorem dueE_mem {es : List (Str × PyData)} {e : PyData} (h : dueE es = some e) : (∃ s ∈ es.map (·.1), e = .str s) ∨ ∃ s ∈ es.map (·.1), e = lookE es s := by
  unfold dueE at h
  split at h
  · rename_i s hs
    cases h
    refine .inl ⟨s, ?_, rfl⟩
    unfold bad1 at hs
    exact asc_mem.mp (List.mem_filter.mp (List.mem_of_mem_head? hs)).1
  · unfold bad1 at h
    have := (List.mem_filter.mp (List.mem_of_mem_head? h)).1
    obtain ⟨s, hs, rfl⟩ := List.mem_map.mp this
    exact .inr ⟨s, asc_mem.mp hs, rfl⟩
theorem lookE_mem : ∀ {es : List (Str × PyData)} {s : Str}, s ∈ es.map (·.1) → ∃ q ∈ es, lookE es s = q.2
  | [], _, h => by cases h
  | q :: r, s, h => by
    unfold lookE
    by_cases c : q.1 = s
    · rw [if_pos c]; exact ⟨q, by simp, rfl⟩
    · rw [if_neg c]
      rw [List.map_cons, List.mem_cons] at h
      obtain ⟨x, hx, e⟩ := lookE_mem (es := r) (h.elim (fun e => absurd e.symm c) id)
      exact ⟨x, List.mem_cons_of_mem _ hx, e⟩
theorem vv_txt {es : List (Str × PyData)} (h : ∀ q ∈ es, KyD (.str q.1) ∧ ShD q.2) (hl : es.length ≤ 20) : VvOk (.txt es) ∧ EsOk es := by
  refine ⟨⟨shw_dct (fun q hq => ?_) (by rw [List.length_map]; exact hl), fun e he => ?_⟩, fun q hq => (h q hq).1.2 _ rfl, hl⟩
  · obtain ⟨x, hx, rfl⟩ := List.mem_map.mp hq
    exact ⟨(h x hx).1.1, (h x hx).2⟩
  · rcases dueE_mem he with ⟨s, hs, rfl⟩ | ⟨s, hs, rfl⟩
    · obtain ⟨x, hx, rfl⟩ := List.mem_map.mp hs
      exact (h x hx).1.1.w
    · obtain ⟨x, hx, e⟩ := lookE_mem hs
      rw [e]
      exact (h x hx).2.w
theorem vv_odd {ds : List (PyData × PyData)} (h : ∀ q ∈ ds, KyD q.1 ∧ ShD q.2) (hl : ds.length ≤ 20) : VvOk (.odd ds) := by
  have := shw_dct (fun q hq => ⟨(h q hq).1.1, (h q hq).2⟩) hl
  exact ⟨this, fun e he => by cases he; exact this⟩
theorem kve_of {K : PySem.W.Frag} {G : Hp} : ∀ {es : List (Str × PyData)} {kvs : List (Key × V)}, (es.map fun q => (PyData.str q.1, q.2)).map (·.1) = kvs.map (fun p => kD p.1) → Dts K G (kvs.map (·.2)) ((es.map fun q => (PyData.str q.1, q.2)).map (·.2)) → KvE K G kvs es
  | [], [], _, _ => .nil
  | [], _ :: _, h, _ => by cases h
  | _ :: _, [], h, _ => by cases h
  | q :: es, p :: kvs, h, hd => by
    have h1 : PyData.str q.1 = kD p.1 := (List.cons.inj h).1
    have h2 := (List.cons.inj h).2
    cases hd with
    | cons d1 d2 =>
      refine .cons ⟨?_, d1⟩ (kve_of h2 d2)
      obtain ⟨k, v⟩ := p
      cases k with
      | inl i => cases h1
      | inr x => cases h1; rfl
theorem fz_same {G : Hp} {a : Addr} {kvs kvs' : List (Key × V)} (h : FzD G a kvs) (h2 : Rd G a (.dK kvs')) : kvs = kvs' := by
  obtain ⟨od, e⟩ := h
  rcases h2 with h2 | ⟨o, h2⟩
  · rw [e] at h2; cases h2
  · rw [e] at h2; cases h2; rfl
theorem wv_any {K : PySem.W.Frag} {w : World} {G : Hp} {v : V} {d : PyData} (hd : d ∈ any1 ++ any2 ++ any3) (h : Dt K G v d) (ht : TopF G v d) : ∃ vv, Wv K w G v vv ∧ VvOk vv := by
  have hs := any_shd d hd
  cases hn : ndict d with
  | true => exact ⟨.dat d, ⟨h, hn⟩, hs.w, fun e he => by cases he; exact hs.w⟩
  | false =>
    have key : ∀ es : List (Str × PyData), d = .dict (es.map fun q => (.str q.1, q.2)) → (∀ q ∈ es, KyD (.str q.1) ∧ ShD q.2) → es.length ≤ 20 → ∃ vv, Wv K w G v vv ∧ VvOk vv := fun es e hq hl => by
      subst e
      obtain ⟨a, kvs, rfl, hf⟩ := ht _ rfl
      cases h with
      | dct hr hk hv =>
        have e := fz_same hf hr
        subst e
        obtain ⟨h1, h2⟩ := vv_txt hq hl
        exact ⟨.txt es, ⟨a, kvs, rfl, hf, kve_of hk hv, h2⟩, h1⟩
    have : d = .dict [] ∨ d = .dict [(.str "a", .int 1)] ∨ d = .dict [(.str "p", .list [])] := by
      simp only [any1, any2, any3, dT, List.cons_append, List.nil_append, List.mem_cons, List.not_mem_nil, or_false] at hd
      revert hn
      rcases hd with h | h | h | h | h | h | h | h | h | h | h | h | h | h | h | h | h | h | h | h | h | h | h | h | h | h | h | h | h | h | h | h | h <;> subst h <;> intro hn <;> first | exact .inl rfl | exact .inr (.inl rfl) | exact .inr (.inr rfl) | cases hn
    rcases this with e | e | e
    · exact key [] e (fun q hq => by cases hq) (by decide)
    · exact key [("a", .int 1)] e (fun q hq => by rw [List.mem_singleton.mp hq]; exact ⟨kyB_ok (by decide +kernel), shB_ok (by decide +kernel)⟩) (by decide)
    · exact key [("p", .list [])] e (fun q hq => by rw [List.mem_singleton.mp hq]; exact ⟨kyB_ok (by decide +kernel), shB_ok (by decide +kernel)⟩) (by decide)
/-! ### what is due, told twice -/
theorem dueP_shp {du : Option PyData} (h : ∀ e, du = some e → PyData.strOk e.shown = true) : SeqAt.shaped (dueP du) = true := by
  cases du with
  | none => rfl
  | some e =>
    unfold SeqAt.shaped
    rw [Bool.and_eq_true_iff]
    refine ⟨?_, ?_⟩
    · show (PyData.strOk e.shown && PyData.canLayAll0 [.bool true]) = true
      rw [h e rfl]
      rfl
    · rfl
end LW
namespace LW
open PySem PySem.Spec PyProof.Rows L2 Ys

section
variable {K : PySem.W.Frag} {w : World} {G G1 H : Hp} {M : List (Addr × HO)} {σ : L2.St} {Q : VK} {te : TE} {d : Addr} {kvs : List NV} {v i : V} {kk : NestedKey}
theorem z_lkxV (z : Zp G (M ++ [(d, Dxo w d kvs)]) H) (ok : KsOk K G kvs) (he : EsX K G kvs) (hl : kvs.length ≤ 20) (q : ∀ vv G1 H1, Zp G1 M H1 → Same G G1 → Wv K w G1 (.ref d) vv → VvOk vv → Q (.ref d) H1) : LkxW w (.ref d) H Q := by
  have hn : ∀ a ∈ kvs, NkV K G a.kv a.k := fun a ha => (ok.is a ha).1
  obtain ⟨ds, h1, h2⟩ := some_odd he
  cases ha : ds.all (fun p => isStrD p.1) with
  | true =>
    obtain ⟨tk, es, e1, e2, e3⟩ := all_text hn he (odd_no h1 hn ha)
    have l1 : tk.length = kvs.length := by rw [← e1, List.length_map]
    have l2 : tk.length = es.length := Paired.length e2
    obtain ⟨v1, v2⟩ := vv_txt e3 (by omega)
    refine z_lkxT z e1 (nd_tk (by rw [e1]; exact ok.nd)) (by omega) fun G1 H1 z1 s1 f1 => q (.txt es) G1 H1 z1 s1 ⟨d, tk, rfl, f1, e2.up s1, v2⟩ v1
  | false =>
    have l1 := nds_len h1
    exact z_lkxO z fun od G1 H1 z1 s1 f1 => q (.odd ds) G1 H1 z1 s1 ⟨d, od, kvs, rfl, f1, nds_up s1 h1, hl, ha⟩ (vv_odd h2 (by omega))
end

theorem putK_all {P : Key → Prop} {R : V → Prop} {acc : List (Key × V)} {k : Key} {v : V} (h : ∀ p ∈ acc, P p.1 ∧ R p.2) (hk : P k) (hv : R v) : ∀ p ∈ putK acc k v, P p.1 ∧ R p.2 := fun p hp => by
  unfold putK at hp
  split at hp
  · obtain ⟨q, hq, rfl⟩ := List.mem_map.mp hp
    have := h q hq
    split
    · exact ⟨this.1, hv⟩
    · exact this
  · rcases List.mem_append.mp hp with hp | hp
    · exact h p hp
    · rw [List.mem_singleton.mp hp]
      exact ⟨hk, hv⟩
theorem mergeK_all {P : Key → Prop} {R : V → Prop} : ∀ {kvs acc : List (Key × V)}, (∀ p ∈ acc, P p.1 ∧ R p.2) → (∀ p ∈ kvs, P p.1 ∧ R p.2) → (∀ p ∈ mergeK acc kvs, P p.1 ∧ R p.2) ∧ (mergeK acc kvs).length ≤ acc.length + kvs.length
  | [], acc, ha, _ => ⟨ha, Nat.le_refl _⟩
  | q :: r, acc, ha, hk => by
    have hq := hk q (by simp)
    obtain ⟨h1, h2⟩ := mergeK_all (kvs := r) (acc := putK acc q.1 q.2) (putK_all ha hq.1 hq.2) fun p hp => hk p (List.mem_cons_of_mem _ hp)
    have := DSub.putK_len acc q.1 q.2
    refine ⟨h1, ?_⟩
    show (mergeK (putK acc q.1 q.2) r).length ≤ _
    rw [List.length_cons]
    omega
def esT2 : List (Str × PyData) := [("p", .int (-1))]
def esT4 : List (Str × PyData) := [("p", .int 1), ("A", .int (-1))]
def esT6 : List (Str × PyData) := [("b", .none), ("a", .bool true)]
theorem keysE_is {es : List (Str × PyData)} {ys : List Str} (h : ys.Pairwise (fun a b => leS a b = true)) (nd : ys.Nodup) (m : ∀ x, x ∈ ys ↔ x ∈ es.map (·.1)) : keysE es = ys :=
  (perm_one ((List.perm_ext_iff_of_nodup nd (asc_nodup _)).mpr fun x => by rw [m x, asc_mem]) h (asc_pw _)).symm
theorem lookE_hd {x : Str} {d : PyData} {r : List (Str × PyData)} : lookE ((x, d) :: r) x = d := if_pos rfl
theorem lookE_tl {x y : Str} {d : PyData} {r : List (Str × PyData)} (h : y ≠ x) : lookE ((y, d) :: r) x = lookE r x := if_neg h
theorem due_T2 : dueE esT2 = some (.int (-1)) := by
  have e : keysE esT2 = (["p"] : List Str) := keysE_is (es := esT2) (ys := (["p"] : List Str)) (by decide +kernel) (by decide +kernel) fun x => by simp [esT2]
  rw [dueE_n (by rw [e]; decide +kernel), e, List.map_cons, List.map_nil, show lookE esT2 "p" = .int (-1) from lookE_hd]
  rfl
theorem due_T4 : dueE esT4 = some (.str "A") := by
  have e : keysE esT4 = (["A", "p"] : List Str) := keysE_is (es := esT4) (ys := (["A", "p"] : List Str)) (by decide +kernel) (by decide +kernel) fun x => by simp [esT4, or_comm]
  exact dueE_w (by rw [e]; decide +kernel)
theorem due_T6 : dueE esT6 = some (.bool true) := by
  have e : keysE esT6 = (["a", "b"] : List Str) := keysE_is (es := esT6) (ys := (["a", "b"] : List Str)) (by decide +kernel) (by decide +kernel) fun x => by simp [esT6, or_comm]
  rw [dueE_n (by rw [e]; decide +kernel), e, List.map_cons, List.map_cons, List.map_nil, show lookE esT6 "a" = .bool true from (lookE_tl (by decide +kernel)).trans lookE_hd]
  rfl
theorem sho_T2 : (PyData.int (-1)).shown = "-1" := by decide +kernel
theorem sho_T4 : (PyData.str "A").shown = "'A'" := by decide +kernel
theorem sho_T6 : (PyData.bool true).shown = "True" := by decide +kernel
/-! ### the law -/
section
variable {P : Program} {w : World} {K : PySem.W.Frag} {mg : Str → Option Value} {base : Heap} {f : Addr} {fd : FuncData} {C CI cL pT : Addr}
def spPenM (K : PySem.W.Frag) : Sp := fun vs H Q _ => ∃ (a : Addr) (G : Hp) (M : List (Addr × HO)) (ns : List Int), vs = [.ref a] ∧ Zp G M H ∧ SqL K G a (ns.map V.int) ∧ ∀ p G1 H1 o1, Zp G1 ((p, o1) :: M) H1 → Same G G1 → Pen K G1 0 o1 → Q (.ref p) H1
theorem ok_penM (T : Nm K mg) (F : FnP K "_law_pen" s_law_pen f fd) : FnOk P w K mg base CX0 1 f fd ["_law_script"] (spPenM K) := by
  have nd : N_law_pen.Nodup := sc_law_pen.nd
  refine F.ok sc_law_pen (fun vs H Q E h => ?_) (fun cdv A outer s H vs Q E hr h => ?_)
  · obtain ⟨a, G, M, ns, rfl, _⟩ := h
    rfl
  have hu := hr.units
  refine ⟨_, PSs.nox   (pss_one (ps_ret (pe_disp (pps_cons pe_str (pe_callTy (kc_list (K := K)) (by rfl) T.b_list boot_list (pa_cons (pe_slice (k_sl (K := K)) (pv 0) po_none (po_some pe_int)) pa_nil)) (pps_cons pe_str pe_int (pps_cons pe_str pe_int pps_nil))) (by rfl) (by rfl) (fun z => by cases z) (by decide)))), ?_⟩
  obtain ⟨a, G, M, ns, rfl, z, hS, q⟩ := h
  repeat (walk_at "z")
  refine z_disp z fun p H1 z1 => ?_
  repeat (walk_at "z")
  refine z_slL z1 hS fun a2 G2 H2 z2 s2 e2 => ?_
  rw [cut_map] at e2
  repeat (walk_at "z")
  refine z_listG z2 (.inl (SqL.of e2)) fun a3 G3 H3 z3 s3 e3 => ?_
  repeat (walk_at "z")
  refine z_dispE (M := M) z3 [(.inr ("cells" : Str), .ref a3), (.inr ("spot" : Str), .int 0), (.inr ("rest" : Str), .int 0)] rfl (by show 3 ≤ 15; decide) fun H4 z4 => ?_
  refine q p G3 H4 _ (z4.perm (by exact List.perm_append_comm)) (s2.trans s3) ⟨a3, 0, 0, _, ?_, SqL.of e3, ?_, by decide, by decide, by decide⟩
  · have e1 : ¬ Str.ofString "cells" = Str.ofString "rest" := by decide +kernel
    have e2 : ¬ Str.ofString "spot" = Str.ofString "rest" := by decide +kernel
    have e3 : ¬ Str.ofString "cells" = Str.ofString "spot" := by decide +kernel
    simp [mergeK, putK, e1, e2, e3, penO]
  · rw [List.length_take]
    have : HT.sIx ns.length ns.length (some 63) = min 63 ns.length := HT.sIx_nat ns.length ns.length 63
    rw [this]
    omega

def spLaw (K : PySem.W.Frag) (pT : Addr) : Sp := fun vs H Q _ => ∃ G a, ∃ ns : List Int, vs = [.ref a] ∧ Zp G [(pT, .tbl #[])] H ∧ SqL K G a (ns.map V.int) ∧ ns.length ≤ 63 ∧ ∀ H1, Q (.bl true) H1
abbrev QL : Str := "law.<locals>.<lambda>"
structure LawC (P : Program) (w : World) (K : PySem.W.Frag) (mg : Str → Option Value) (base : Heap) (C CI : Addr) : Prop where
  pen : Own P w K mg base CX0 1 "_law_pen" ["_law_script"] (spPenM K)
  drw : OwnD P w K mg base
  pick : OwnP P w K mg base
  words : Own P w K mg base CX0 3 "_law_words" ["_law_pen_here", "_law_count"] (spWords K)
  any : Own P w K mg base CX0 3 "_law_any_value" ["_law_pen_here"] (spAnyF K)
  due : OwnG P w K mg base CX0 3 "_law_due" ["_law_value"] (spDueX K w)
  gS : mg "Staff" = some (.ref C)
  cr : ∃ mc, ClX.CRead K C mc ∧ ∃ pO gO, ClX.CMet K C mc "of" pO gO ∧ FnR P w K mg base (L2.CX P w) 6 gO (spOfX K w C CI)
  mk1 : MkRK P w K mg base (L2.CX P w) 4 C ["p"] (spStKX K w C CI ["p"])
  mk2 : MkRK P w K mg base (L2.CX P w) 4 C ["p", "A"] (spStKX K w C CI ["p", "A"])
  mk3 : MkRK P w K mg base (L2.CX P w) 4 C ["b", "a"] (spStKX K w C CI ["b", "a"])
  to : ToC K mg CI
theorem z_neP {K : PySem.W.Frag} {G H : Hp} {M : List (Addr × HO)} {x y : V} {du : Option PyData} {Q : VK} (z : Zp G M H) (h1 : Dt K G x (dueP du)) (h2 : Dt K G y (dueP du)) (h : ∀ e, du = some e → PyData.strOk e.shown = true) (q : Q (.bl false) H) : Ys.rNeG K x y H Q := by
  refine z_neD z h1 h2 (dueP_shp h) (dueP_shp h) ?_
  rw [SeqAt.eqv_refl _ (SeqAt.canLay_of_shaped (dueP_shp h))]
  exact q
theorem z_eqP {K : PySem.W.Frag} {G H : Hp} {M : List (Addr × HO)} {x y : V} {du : Option PyData} {Q : VK} (z : Zp G M H) (h1 : Dt K G x (dueP du)) (h2 : Dt K G y (dueP du)) (h : ∀ e, du = some e → PyData.strOk e.shown = true) (q : Q (.bl true) H) : Ys.rEqG K x y H Q := by
  refine z_eqD z h1 h2 (dueP_shp h) (dueP_shp h) ?_
  rw [SeqAt.eqv_refl _ (SeqAt.canLay_of_shaped (dueP_shp h))]
  exact q
theorem ok_law (T : Nm K mg) (L : LawC P w K mg base C CI) (B_law : LamX.TabB base mg cL pT) (F : FnP K "law" s_law f fd) (hcd : fd.code = .ref cL) : FnG P w K mg base CX0 30 f fd ["_law_script"] (spLaw K pT) := by
  have C_law_pen := L.pen
  have C_law_draw := L.drw
  have C_law_pick := L.pick
  have C_law_words := L.words
  have C_law_any_value := L.any
  obtain ⟨mc, CR, pO, gO, CM, OF⟩ := L.cr
  have nd : N_law.Nodup := sc_law.nd
  refine okGC F hcd sc_law (fun vs H Q E h => ?_) (fun A outer s H vs Q E hg hr h => ?_)
  · obtain ⟨G, a, ns, rfl, _⟩ := h
    rfl
  have hu := hr.units
  refine ⟨_, PSs.nox   (pss_cons (ps_asg (pe_own C_law_pen (hr.mono (by omega)) (by rfl) pass0 (pa_cons (pv 0) pa_nil)) (pg_name (i := 1) nd rfl (by first | exact .inl rfl | exact .inr rfl)))
    (pss_cons (ps_for PassesOwn.never rfl (pi_range1 (by rfl) (T.b_range) (pa_cons (pe_op (k_add (K := K)) pe_int (pe_callB (c_min2 rfl) (by rfl) T.b_min boot_min (pa_cons pe_int (pa_cons (pe_callB (kc_len (K := K) (P := P) (w := w)) (by rfl) T.b_len PySem.boot_len (pa_cons (pv 0) pa_nil)) pa_nil)))) pa_nil)) (pg_name (i := 2) nd rfl (by first | exact .inl rfl | exact .inr rfl)) (pss_cons (ps_asg (pe_own C_law_words (hr.mono (by omega)) (by rfl) pass0 (pa_cons (pv 1) (pa_cons pe_int pa_nil))) (pg_name (i := 3) nd rfl (by first | exact .inl rfl | exact .inr rfl)))
    (pss_cons (ps_asg (pe_dx (pe_callTy (c_dictP (K := K) rfl) (by rfl) T.b_dict boot_dict (pa_cons (pe_lc (own := [("_law_word", 8)]) (tt := tYes) rfl nd (k_any (K := K) (pe_slice (k_sl (K := K)) (pv 3) po_none (po_some (pe_own C_law_draw (hr.mono (by omega)) (by rfl) pass0 (pa_cons (pv 1) (pa_cons pe_int pa_nil)))))) (blkOk_by (N := N_law) (sc := defScope s_law) (by decide +kernel)) (fun _ _ _ _ _ => (pg_name (i := 8) nd rfl (by first | exact .inl rfl | exact .inr rfl))) (fun _ _ _ _ _ => pts_nil) (fun _ _ _ _ _ => (pe_tup (pa_cons (pv 8) (pa_cons (pe_own C_law_pick (hr.mono (by omega)) (by rfl) pass0 (pa_cons (pv 1) (pa_cons (pe_lst (pa_cons pe_int (pa_cons pe_int (pa_cons pe_int (pa_cons (pe_op o_pow pe_int pe_int) pa_nil))))) pa_nil))) pa_nil))))) pa_nil))) (pg_name (i := 4) nd rfl (by first | exact .inl rfl | exact .inr rfl)))
    (pss_cons (ps_for PassesOwn.never rfl (pi_range1 (by rfl) (T.b_range) (pa_cons (pe_own C_law_draw (hr.mono (by omega)) (by rfl) pass0 (pa_cons (pv 1) (pa_cons pe_int pa_nil))) pa_nil)) (pg_name (i := 5) nd rfl (by first | exact .inl rfl | exact .inr rfl)) (pss_cons (ps_asg (pe_own C_law_pick (hr.mono (by omega)) (by rfl) pass0 (pa_cons (pv 1) (pa_cons (pe_op (k_add (K := K)) (pv 3) (pe_lst (pa_cons pe_str (pa_cons pe_str (pa_cons pe_str (pa_cons pe_str (pa_cons pe_str (pa_cons pe_str (pa_cons pe_int (pa_cons pe_non (pa_cons (pe_tup (pa_cons pe_str pa_nil)) pa_nil))))))))))) pa_nil))) (pg_name (i := 7) nd rfl (by first | exact .inl rfl | exact .inr rfl)))
    (pss_one (ps_asg (pe_own C_law_pick (hr.mono (by omega)) (by rfl) pass0 (pa_cons (pv 1) (pa_cons (pe_lst (pa_cons pe_int (pa_cons pe_int (pa_cons (pe_un un_neg pe_int) (pa_cons pe_bl (pa_cons pe_non (pa_cons pe_str (pa_cons (pe_op (k_add (K := K)) (pe_op o_pow pe_int pe_int) pe_int) (pa_cons (pe_lst (pa_cons pe_int pa_nil)) (pa_cons (pe_op o_pow pe_int pe_int) pa_nil)))))))))) pa_nil))) (pg_sub (pv 4) (pv 7) (k_setX (K := K) (w := w) (Nat.lt_of_le_of_lt (Nat.add_le_add_left (by decide : 16 ≤ 64) _) hu)))))))
    (pss_cons (ps_asg (pe_own C_law_pick (hr.mono (by omega)) (by rfl) pass0 (pa_cons (pv 1) (pa_cons (pe_lst (pa_cons (pe_lkx T.sys (pv 4)) (pa_cons (pv 4) (pa_cons (pv 4) (pa_cons (pe_own C_law_any_value (hr.mono (by omega)) (by rfl) pass0 (pa_cons (pv 1) pa_nil)) pa_nil))))) pa_nil))) (pg_name (i := 4) nd rfl (by first | exact .inl rfl | exact .inr rfl)))
    (pss_cons (ps_asg (pe_callB (kc_reprX (K := K) (w := w) hg T.sys hu) (by rfl) T.b_repr boot_repr (pa_cons (pv 4) pa_nil)) (pg_name (i := 6) nd rfl (by first | exact .inl rfl | exact .inr rfl)))
    (pss_one (ps_if (PW.pt (pw_or (pt_cmpR (k_ne (K := K) hu) (pe_told (k := 20) (q := QL) T L.to hg (by rfl) B_law rfl (by rfl) (hr.mono (by omega)) (LamX.lamS_by (show LamX.lamSB (defScope s_law) _ = true from by decide +kernel)) (by rfl) (fun _ _ _ _ _ => by rfl) (fun A2 o2 s2 H2 E2 f2 c2 hr2 => (ClX.pe_cmeth (pe_glob (v := .ref C) (by rfl) L.gS rfl) CR CM OF (hr2.mono (by omega)) (passes_call (takes_of rfl rfl rfl rfl) fun _ _ _ _ z => z) (pa_cons (pv 4) pa_nil)))) (pe_ownG L.due hg (hr.mono (by omega)) (by rfl) pass0 (pa_cons (pv 4) pa_nil)) (nomark _)) (pw_or1 (pt_cmpR (k_ne (K := K) hu) (pe_callB (kc_reprX (K := K) (w := w) hg T.sys hu) (by rfl) T.b_repr boot_repr (pa_cons (pv 4) pa_nil)) (pv 6) (nomark _))))) (pss_one (ps_ret pe_bl)) pss_nil))))))))
    (pss_cons (ps_if (pt_cmpR (k_ne (K := K) hu) (pe_told (k := 20) (q := QL) T L.to hg (by rfl) B_law rfl (by rfl) (hr.mono (by omega)) (LamX.lamS_by (show LamX.lamSB (defScope s_law) _ = true from by decide +kernel)) (by rfl) (fun _ _ _ _ _ => by rfl) (fun A2 o2 s2 H2 E2 f2 c2 hr2 => (pe_mkRK L.mk1 L.gS (hr2.mono (by omega)) (by rfl) (passes_call (takes_of rfl rfl rfl rfl) fun _ _ _ _ z => z) (pk_cons (pe_un un_neg pe_int) pk_nil)))) (pe_tup (pa_cons pe_str (pa_cons pe_bl pa_nil))) (nomark _)) (pss_one (ps_ret pe_bl)) pss_nil)
    (pss_cons (ps_if (pt_cmpR (k_ne (K := K) hu) (pe_told (k := 20) (q := QL) T L.to hg (by rfl) B_law rfl (by rfl) (hr.mono (by omega)) (LamX.lamS_by (show LamX.lamSB (defScope s_law) _ = true from by decide +kernel)) (by rfl) (fun _ _ _ _ _ => by rfl) (fun A2 o2 s2 H2 E2 f2 c2 hr2 => (pe_mkRK L.mk2 L.gS (hr2.mono (by omega)) (by rfl) (passes_call (takes_of rfl rfl rfl rfl) fun _ _ _ _ z => z) (pk_cons pe_int (pk_cons (pe_un un_neg pe_int) pk_nil))))) (pe_tup (pa_cons pe_str (pa_cons pe_bl pa_nil))) (nomark _)) (pss_one (ps_ret pe_bl)) pss_nil)
    (pss_one (ps_ret (pe_cmpR (k_eq (K := K) hu) (pe_told (k := 20) (q := QL) T L.to hg (by rfl) B_law rfl (by rfl) (hr.mono (by omega)) (LamX.lamS_by (show LamX.lamSB (defScope s_law) _ = true from by decide +kernel)) (by rfl) (fun _ _ _ _ _ => by rfl) (fun A2 o2 s2 H2 E2 f2 c2 hr2 => (pe_mkRK L.mk3 L.gS (hr2.mono (by omega)) (by rfl) (passes_call (takes_of rfl rfl rfl rfl) fun _ _ _ _ z => z) (pk_cons pe_non (pk_cons pe_bl pk_nil))))) (pe_tup (pa_cons pe_str (pa_cons pe_bl pa_nil))) (nomark _)))))))), ?_⟩
  obtain ⟨G, a, ns, rfl, z, hS, hn, q⟩ := h
  repeat (walk_at "z")
  refine ⟨a, G, _, ns, rfl, z, hS, fun p G1 H1 o1 z1 s1 hp1 => ?_⟩
  repeat (walk_at "z")
  refine z_lenH (.inl (z1.seqL (upL s1 hS))) ?_
  rw [List.length_map]
  repeat (walk_at "z")
  refine z_min2 ?_
  generalize hn8 : (if (ns.length : Int) < 8 then (ns.length : Int) else 8) = n8
  have n80 : 0 ≤ n8 ∧ n8 ≤ 8 := by rw [← hn8]; split <;> omega
  repeat (walk_at "z")
  refine z_itR (by omega) (by omega) ?_
  refine for_src src_R (fun i σ G' M' => ∃ o' ps k2 k3 k4 k5 k6 k7 k8, M' = [(p, o'), (pT, .tbl ps)] ∧ TbOk G' QL ps ∧ Same G1 G' ∧ Pen K G' (100 * i) o' ∧ σ = [some (.ref a), some (.ref p), k2, k3, k4, k5, k6, k7, k8])
    z1 ⟨o1, #[], _, _, _, _, _, _, _, rfl, .nil, Same.refl _, hp1, rfl⟩ (fun _ _ _ _ _ _ _ => trivial) ?_ ?_
  · rintro i x σ G0 M0 H0 hx ⟨o0, ps0, k2, k3, k4, k5, k6, k7, k8, rfl, tb0, sm0, hp0, rfl⟩ z0
    obtain ⟨hi, rfl⟩ := rng_at hx
    have hb : 100 * i ≤ 4000 := by omega
    generalize hbb : 100 * i = b at hp0 hb
    repeat (walk_at "z")
    refine ⟨p, o0, G0, _, b, 4, rfl, z0, hp0, by omega, by decide, fun lw G2 H2 o2 ss z2 s2 hp2 e2 l2 w2 wn2 => ?_⟩
    -- the dict's first entries
    repeat (walk_at "z")
    refine z_anyL ?_
    repeat (walk_at "z")
    refine ⟨p, o2, G2, _, _, 5, rfl, z2, hp2, by omega, by decide, by decide, fun c G3 H3 o3 z3 s3 hp3 c0 c5 => ?_⟩
    repeat (walk_at "z")
    refine z_slL z3 (upL s3 (SqL.of e2)) fun cl G4 H4 z4 s4 e4 => ?_
    obtain ⟨cs, hcs, hsub⟩ : ∃ cs : List Str, cutV (ss.map V.str) none (some c) = cs.map V.str ∧ ∀ s ∈ cs, s ∈ ss := by
      unfold cutV
      rw [← List.map_drop, ← List.map_take]
      exact ⟨_, rfl, fun s hs => List.mem_of_mem_drop (List.mem_of_mem_take hs)⟩
    have hcl : (cutV (ss.map V.str) none (some c)).length ≤ 4 := by
      unfold cutV
      refine Nat.le_trans (List.length_take_le' _ _) (Nat.le_trans ?_ (Nat.le_of_eq l2))
      rw [List.length_drop, List.length_map]
      omega
    rw [hcs] at e4 hcl
    rw [List.length_map] at hcl
    repeat (walk_at "z")
    refine z_itL z4 (SqL.of e4) ?_
    refine lc_src src_L (fun i G' M' acc => ∃ o' ps kvs, M' = [(p, o'), (pT, .tbl ps0)] ∧ Same G4 G' ∧ Pen K G' (b + 15 + 2 * i) o' ∧ acc = ps.map V.ref ∧ Prk K G' ps kvs ∧ kvs.length ≤ i ∧ ∀ q ∈ kvs, (∃ s, q.1 = .inr s ∧ Wd s) ∧ ∃ n, q.2 = .int n ∧ ShD (.int n)) z4 ⟨o3, [], [], rfl, Same.refl _, (hp3.up s4).mono (by omega), rfl, .nil, Nat.le_refl _, fun q hq => by cases hq⟩ (fun i G' M' M1 acc H' ⟨_, _, _, _, s', _⟩ z' => z'.seqL (upL s' (SqL.of e4))) ?_ ?_
    · rintro j y G' M' acc Dl H' hy ⟨o', ps, kvs, rfl, s', hp', rfl, hps, hkl, hkv⟩ z'
      rw [List.getElem?_map] at hy
      obtain ⟨s, hs, rfl⟩ := Option.map_eq_some_iff.mp hy
      have hj := (List.getElem?_eq_some_iff.mp hs).1
      have hpl := hps.len
      repeat (walk_at "z")
      refine ⟨by rfl, ?_⟩
      repeat (walk_at "z")
      refine z_I (by unfold CPow; decide) ?_
      repeat (walk_at "z")
      refine z_newL z' (by simp) fun q6 G6 H6 z6 s6 e6 => ?_
      repeat (walk_at "z")
      refine ⟨p, o', G6, _, _, _, rfl, z6, hp'.up s6, by omega, .inl ⟨q6, _, rfl, .inl (SqL.of e6), by simp, by simp, fun v G7 H7 o7 hv z7 s7 hp7 => ?_⟩⟩
      obtain ⟨n, rfl, hsn⟩ : ∃ n, v = V.int n ∧ ShD (.int n) := by
        simp only [List.mem_cons, List.not_mem_nil, or_false] at hv
        rcases hv with rfl | rfl | rfl | rfl
        all_goals exact ⟨_, rfl, shB_ok (by decide +kernel)⟩
      repeat (walk_at "z")
      refine z_newT z7 (by simp) fun q8 G8 H8 z8 s8 e8 => ?_
      have s18 := s6.trans (s7.trans s8)
      refine z_laid (M := [(p, o7), (pT, .tbl ps0)]) z8 (by rw [List.length_map]; omega) ⟨o7, ps ++ [q8], kvs ++ [((Sum.inr s, V.int n) : Key × V)], rfl, s'.trans s18, (hp7.up s8).mono (by omega), by rw [List.map_append]; rfl, psnoc (R := fun p (kv : Key × V) => SqT K G8 p [kV kv.1, kv.2]) (y := (.inr s, .int n)) (SqT.of e8) (hps.up s18), by rw [List.length_append]; show _ + 1 ≤ j + 1; omega, fun q hq => ?_⟩
      rcases List.mem_append.mp hq with hq | hq
      · exact hkv q hq
      · rw [List.mem_singleton.mp hq]
        exact ⟨⟨s, rfl, w2 s (hsub s (List.mem_of_getElem? hs))⟩, n, rfl, hsn⟩
    rintro p5 G5 M5 acc G6 H6 ⟨o5, ps, kvs, rfl, s5, hp5, rfl, hps, hkl, hkv⟩ s6 z6 e6
    rw [List.length_map] at hkl hp5
    obtain ⟨hmk, hml⟩ := mergeK_all (P := fun k => ∃ s, k = .inr s ∧ Wd s) (R := fun v => ∃ n, v = .int n ∧ ShD (.int n)) (acc := []) (kvs := kvs) (fun p hp => by cases hp) hkv
    have s26 := s3.trans (s4.trans (s5.trans s6))
    repeat (walk_at "z")
    refine z_dictP z6 (SqL.of e6) (hps.up s6) fun gd H7 z7 => ?_
    refine z_dxI z7 fun hnd H8 z8 => ?_
    generalize hkk : mergeK [] kvs = kv0 at hmk hml hnd z8
    have hm0 : kv0.length ≤ 4 := by rw [List.length_nil] at hml; omega
    have ok0 : KsOk K G6 (kv0.map nvK) := keysOk hnd (by omega)
    have ex0 : EsX K G6 (kv0.map nvK) := fun x hx => by
      obtain ⟨⟨k, v⟩, hq, rfl⟩ := List.mem_map.mp hx
      obtain ⟨⟨s, e1, hw⟩, n, e2, hsn⟩ := hmk _ hq
      have e1 : k = .inr s := e1
      have e2 : v = .int n := e2
      subst e1 e2
      exact ⟨(.str s, .int n), .str s, .int n, kyd_wd hw, hsn⟩
    have e26 := s26 _ _ e2
    have tb6 := tb0.up (s2.trans s26)
    have sm6 := sm0.trans (s2.trans s26)
    have hp6 : Pen K G6 (b + 30) o5 := (hp5.up s6).mono (by omega)
    have hl0 : (kv0.map nvK).length ≤ 4 := by rw [List.length_map]; exact hm0
    generalize kv0.map nvK = nv0 at z8 ok0 ex0 hl0
    clear z0 z2 z3 z4 z6 z7 hp0 hp2 hp3 hp5 e2 e4 e6 s2 s3 s4 s5 s6 s26 hps hkv hmk hnd hml hkk tb0 sm0
    -- one or two odd ones
    repeat (walk_at "z")
    refine ⟨p, o5, G6, _, _, 3, rfl, z8, hp6, by omega, by decide, by decide, fun c2 G9 H9 o9 z9 s9 hp9 c20 c23 => ?_⟩
    repeat (walk_at "z")
    refine z_itR (by omega) (by omega) ?_
    refine for_src src_R (fun i σ G' M' => ∃ o' nv k2 k5 k6 k7 k8, M' = [(p, o'), (pT, .tbl ps0), (gd, Dxo w gd nv)] ∧ Same G9 G' ∧ Pen K G' (b + 40 + 5 * i) o' ∧ KsOk K G' nv ∧ EsX K G' nv ∧ nv.length ≤ 4 + i ∧ σ = [some (.ref a), some (.ref p), k2, some (.ref lw), some (.ref gd), k5, k6, k7, k8])
      z9 ⟨o9, nv0, _, _, _, _, _, rfl, Same.refl _, hp9.mono (by omega), ok0.up s9, ex0.up s9, hl0, rfl⟩ (fun _ _ _ _ _ _ _ => trivial) ?_ ?_
    · rintro j y σ G' M' H' hy ⟨o', nv, k2', k5', k6', k7', k8', rfl, s', hp', ok', ex', hl', rfl⟩ z'
      obtain ⟨hj, rfl⟩ := rng_at hy
      have hj3 : j < 3 := by omega
      have e9 := s' _ _ (s9 _ _ e26)
      repeat (walk_at "z")
      refine z_newT z' (by simp) fun tq G10 H10 z10 s10 e10 => ?_
      repeat (walk_at "z")
      refine z_newL z10 (by simp) fun q11 G11 H11 z11 s11 e11 => ?_
      refine z_addL z11 (s11 _ _ (s10 _ _ e9)) e11 (by rw [List.length_map, l2]; simp) fun q12 G12 H12 z12 s12 e12 => ?_
      have s112 := s10.trans (s11.trans s12)
      repeat (walk_at "z")
      refine ⟨p, o', G12, _, _, _, rfl, z12, hp'.up s112, by omega, .inl ⟨q12, _, rfl, .inl (SqL.of e12), (fun h => by simp at h), (by rw [List.length_append, List.length_map, l2]; simp), fun v G13 H13 o13 hv z13 s13 hp13 => ?_⟩⟩
      obtain ⟨d1, kk, hd1, hnk, hkd, hky⟩ : ∃ d kk, Dt K G13 v d ∧ NkV K G13 v kk ∧ kk.depth ≤ 8 ∧ KyD d := by
        have et : G13 tq = some (.tup [.str "a"]) := (s11.trans (s12.trans s13)) _ _ e10
        rcases List.mem_append.mp hv with hv | hv
        · obtain ⟨s, hs, rfl⟩ := List.mem_map.mp hv
          exact ⟨.str s, .text s, .str s, .str s, by simp [NestedKey.depth], kyd_wd (w2 s hs)⟩
        · simp only [List.mem_cons, List.not_mem_nil, or_false] at hv
          rcases hv with rfl | rfl | rfl | rfl | rfl | rfl | rfl | rfl | rfl
          · exact ⟨_, _, .str _, .str _, by simp [NestedKey.depth], kyB_ok (by decide +kernel)⟩
          · exact ⟨_, _, .str _, .str _, by simp [NestedKey.depth], kyB_ok (by decide +kernel)⟩
          · exact ⟨_, _, .str _, .str _, by simp [NestedKey.depth], kyB_ok (by decide +kernel)⟩
          · exact ⟨_, _, .str _, .str _, by simp [NestedKey.depth], kyB_ok (by decide +kernel)⟩
          · exact ⟨_, _, .str _, .str _, by simp [NestedKey.depth], kyB_ok (by decide +kernel)⟩
          · exact ⟨_, _, .str _, .str _, by simp [NestedKey.depth], kyB_ok (by decide +kernel)⟩
          · exact ⟨_, _, .int _, .int _, by simp [NestedKey.depth], kyB_ok (by decide +kernel)⟩
          · exact ⟨_, _, .non, .non, by simp [NestedKey.depth], kyB_ok (by decide +kernel)⟩
          · exact ⟨_, .tup [.text "a"], .tup (SqT.of et) (.cons (.str _) .nil), .tup (SqT.of et) (.cons (.str _) .nil), by simp [NestedKey.depth, NestedKey.depthAll], kyB_ok (by decide +kernel)⟩
      repeat (walk_at "z")
      refine z_neg ?_
      repeat (walk_at "z")
      refine z_I (by unfold CPow; decide) ?_
      repeat (walk_at "z")
      refine z_newL z13 (by simp) fun q14 G14 H14 z14 s14 e14 => ?_
      repeat (walk_at "z")
      refine z_I (by unfold CPow; decide) ?_
      repeat (walk_at "z")
      refine z_newL z14 (by simp) fun q15 G15 H15 z15 s15 e15 => ?_
      repeat (walk_at "z")
      refine ⟨p, o13, G15, _, _, _, rfl, z15, hp13.up (s14.trans s15), by omega, .inl ⟨q15, _, rfl, .inl (SqL.of e15), by simp, by simp, fun v2 G16 H16 o16 hv2 z16 s16 hp16 => ?_⟩⟩
      obtain ⟨d2, hd2, hvl⟩ : ∃ d, Dt K G16 v2 d ∧ ShD d := by
        have el : G16 q14 = some (.lst [.int 1]) := (s15.trans s16) _ _ e14
        simp only [List.mem_cons, List.not_mem_nil, or_false] at hv2
        rcases hv2 with rfl | rfl | rfl | rfl | rfl | rfl | rfl | rfl | rfl
        · exact ⟨_, .int _, shB_ok (by decide +kernel)⟩
        · exact ⟨_, .int _, shB_ok (by decide +kernel)⟩
        · exact ⟨_, .int _, shB_ok (by decide +kernel)⟩
        · exact ⟨_, .bl _, shB_ok (by decide +kernel)⟩
        · exact ⟨_, .non, shB_ok (by decide +kernel)⟩
        · exact ⟨_, .str _, shB_ok (by decide +kernel)⟩
        · exact ⟨_, .int _, shB_ok (by decide +kernel)⟩
        · exact ⟨_, .lst (SqL.of el) (.cons (.int _) .nil), shB_ok (by decide +kernel)⟩
        · exact ⟨_, .int _, shB_ok (by decide +kernel)⟩
      have s36 := s14.trans (s15.trans s16)
      have sN := s112.trans (s13.trans s36)
      repeat (walk_at "z")
      refine z_setX z16 2 rfl (ok'.up sN) (by omega) (hnk.up s36) hkd fun H17 z17 => ?_
      repeat (walk_at "z")
      have hpl := putV_len nv kk v v2
      exact ⟨G16, _, z17, o16, _, _, _, _, _, _, rfl, s'.trans sN, hp16.mono (by omega), putV_ok (ok'.up sN) (by omega) (hnk.up s36) hkd, (ex'.up sN).put (hd1.up s36) hky hd2 hvl, by omega, rfl⟩
    rintro σ G10 M10 H10 ⟨o10, nv, k2', k5', k6', k7', k8', rfl, s10, hp10, ok10, ex10, hl10, rfl⟩ z10
    rw [rngV_len] at hp10 hl10
    have z10 : Zp G10 ([(p, o10), (pT, .tbl ps0)] ++ [(gd, Dxo w gd nv)]) H10 := z10
    have s910 := s9.trans s10
    have tb10 := tb6.up s910
    have sm10 := sm6.trans s910
    have hp10 : Pen K G10 (b + 60) o10 := hp10.mono (by omega)
    clear z8 z9 hp6 hp9 ok0 ex0 s9 s10 s910 tb6 sm6 e26
    repeat (walk_at "z")
    refine z_lkxV z10 ok10 ex10 (by omega) fun vg G11 H11 z11 s11 wg11 og => ?_
    repeat (walk_at "z")
    refine ⟨p, o10, G11, _, _, rfl, z11, hp10.up s11, by omega, fun va da G12 H12 o12 z12 s12 hp12 hda hta hma => ?_⟩
    obtain ⟨va', wa12, oa⟩ := wv_any (w := w) hma hda hta
    repeat (walk_at "z")
    refine z_newL z12 (by simp) fun q13 G13 H13 z13 s13 e13 => ?_
    repeat (walk_at "z")
    refine ⟨p, o12, G13, _, _, _, rfl, z13, hp12.up s13, by omega, .inl ⟨q13, _, rfl, .inl (SqL.of e13), by simp, by simp, fun v G14 H14 o14 hv z14 s14 hp14 => ?_⟩⟩
    obtain ⟨vv, wv, ov⟩ : ∃ vv, Wv K w G14 v vv ∧ VvOk vv := by
      simp only [List.mem_cons, List.not_mem_nil, or_false] at hv
      rcases hv with rfl | rfl | rfl | rfl
      · exact ⟨vg, wg11.up (s12.trans (s13.trans s14)), og⟩
      · exact ⟨vg, wg11.up (s12.trans (s13.trans s14)), og⟩
      · exact ⟨vg, wg11.up (s12.trans (s13.trans s14)), og⟩
      · exact ⟨va', wa12.up (s13.trans s14), oa⟩
    have s114 := s11.trans (s12.trans (s13.trans s14))
    have tb14 := tb10.up s114
    have sm14 := sm10.trans s114
    have hp14 : Pen K G14 (b + 90) o14 := hp14.mono (by omega)
    have hal := ov.all
    clear z10 z11 z12 z13 hp10 hp12 ok10 ex10 wg11 wa12 hda hta hma hv e13 s11 s12 s13 s14 s114 tb10 sm10
    repeat (walk_at "z")
    refine z_reprX1 z14 wv.sh hal.sh.ok hal.dp (Nat.le_trans hal.sh.le (by decide)) ?_
    repeat (walk_at "z")
    refine z_told (K := K) (w := w) (CI := CI) z14 1 rfl tb14 (dueV vv) (fun e he => ⟨(ov.due e he).sh, (ov.due e he).dp⟩) (fun E1 G1 H1 ps1 z1 s1 hbad Qn hok => ?_) (fun rv G15 H15 ps15 z15 s15 tb15 hrv => ?_)
    · repeat (walk_at "z")
      refine ⟨rfl, ?_⟩
      repeat (walk_at "z")
      exact ⟨G1, _, v, vv, rfl, z1, wv.up s1, fun hd x G2 H2 z2 s2 => hok hd G2 H2 z2 s2, fun e he => hbad e he⟩
    have z15 : Zp G15 [(p, o14), (pT, .tbl ps15)] H15 := z15
    have wv15 := wv.up s15
    repeat (walk_at "z")
    refine ⟨G15, _, v, vv, rfl, z15, wv15, ⟨hal.sh, hal.dp⟩, fun e he => ⟨(ov.due e he).sh, (ov.due e he).dp⟩, fun rv2 G16 H16 z16 s16 hrv2 => ?_⟩
    refine z_neP z16 (hrv.up s16) hrv2 (fun e he => (ov.due e he).so) ?_
    repeat (walk_at "z")
    refine z_reprX1 z16 (wv15.up s16).sh hal.sh.ok hal.dp (Nat.le_trans hal.sh.le (by decide)) ?_
    repeat (walk_at "z")
    refine z_neS rfl ?_
    rw [decide_eq_true rfl]
    repeat (walk_at "z")
    have s116 := s15.trans s16
    exact ⟨G16, _, z16, o14, ps15, _, _, _, _, _, _, _, rfl, tb15.up s16, sm14.trans s116, (hp14.up s116).mono (by omega), rfl⟩
  · rintro σ G0 M0 H0 ⟨o0, ps0, k2, k3, k4, k5, k6, k7, k8, rfl, tb0, sm0, hp0, rfl⟩ z0
    repeat (walk_at "z")
    refine z_told (K := K) (w := w) (CI := CI) z0 1 rfl tb0 (some (.int (-1))) (fun e he => by cases he; exact ⟨⟨by decide +kernel, by decide +kernel⟩, by decide⟩) (fun E1 G1 H1 ps1 z1 s1 hbad Qn hok => ?_) (fun rv2 G2 H2 ps2 z2 s2 tb2 hrv2 => ?_)
    · repeat (walk_at "z")
      refine z_neg ?_
      repeat (walk_at "z")
      refine z_mkRKI rfl z1 fun x dx H3 z3 s3 => ?_
      exact ⟨_, _, x, dx, _, esT2, rfl, .cons ⟨rfl, .int _⟩ (.nil), ⟨by decide, by decide⟩, z3, (fun h => by rw [due_T2] at h; cases h), fun e he => by
        rw [due_T2] at he
        cases he
        exact ((hbad _ rfl).up s3).more⟩
    have z2 : Zp G2 [(p, o0), (pT, .tbl ps2)] H2 := z2
    repeat (walk_at "z")
    refine z_newT z2 (by simp) fun q2 G2' H2' z2' s2' e2' => ?_
    have hq2 : Dt K G2' (.ref q2) (dueP (some (.int (-1)))) := .tup (SqT.of e2') (.cons (by rw [sho_T2]; exact .str _) (.cons (.bl _) .nil))
    refine z_neP z2' (hrv2.up s2') hq2 (fun e he => by cases he; decide +kernel) ?_
    repeat (walk_at "z")
    refine z_told (K := K) (w := w) (CI := CI) z2' 1 rfl (tb2.up s2') (some (.str "A")) (fun e he => by cases he; exact ⟨⟨by decide +kernel, by decide +kernel⟩, by decide⟩) (fun E1 G1 H1 ps1 z1 s1 hbad Qn hok => ?_) (fun rv4 G4 H4 ps4 z4 s4 tb4 hrv4 => ?_)
    · repeat (walk_at "z")
      refine z_neg ?_
      repeat (walk_at "z")
      refine z_mkRKI rfl z1 fun x dx H3 z3 s3 => ?_
      exact ⟨_, _, x, dx, _, esT4, rfl, .cons ⟨rfl, .int _⟩ (.cons ⟨rfl, .int _⟩ (.nil)), ⟨by decide, by decide⟩, z3, (fun h => by rw [due_T4] at h; cases h), fun e he => by
        rw [due_T4] at he
        cases he
        exact ((hbad _ rfl).up s3).more⟩
    have z4 : Zp G4 [(p, o0), (pT, .tbl ps4)] H4 := z4
    repeat (walk_at "z")
    refine z_newT z4 (by simp) fun q4 G4' H4' z4' s4' e4' => ?_
    have hq4 : Dt K G4' (.ref q4) (dueP (some (.str "A"))) := .tup (SqT.of e4') (.cons (by rw [sho_T4]; exact .str _) (.cons (.bl _) .nil))
    refine z_neP z4' (hrv4.up s4') hq4 (fun e he => by cases he; decide +kernel) ?_
    repeat (walk_at "z")
    refine z_told (K := K) (w := w) (CI := CI) z4' 1 rfl (tb4.up s4') (some (.bool true)) (fun e he => by cases he; exact ⟨⟨by decide +kernel, by decide +kernel⟩, by decide⟩) (fun E1 G1 H1 ps1 z1 s1 hbad Qn hok => ?_) (fun rv6 G6 H6 ps6 z6 s6 tb6 hrv6 => ?_)
    · repeat (walk_at "z")
      refine z_mkRKI rfl z1 fun x dx H3 z3 s3 => ?_
      exact ⟨_, _, x, dx, _, esT6, rfl, .cons ⟨rfl, .non⟩ (.cons ⟨rfl, .bl _⟩ (.nil)), ⟨by decide, by decide⟩, z3, (fun h => by rw [due_T6] at h; cases h), fun e he => by
        rw [due_T6] at he
        cases he
        exact ((hbad _ rfl).up s3).more⟩
    have z6 : Zp G6 [(p, o0), (pT, .tbl ps6)] H6 := z6
    repeat (walk_at "z")
    refine z_newT z6 (by simp) fun q6 G6' H6' z6' s6' e6' => ?_
    have hq6 : Dt K G6' (.ref q6) (dueP (some (.bool true))) := .tup (SqT.of e6') (.cons (by rw [sho_T6]; exact .str _) (.cons (.bl _) .nil))
    refine z_eqP z6' (hrv6.up s6') hq6 (fun e he => by cases he; decide +kernel) ?_
    exact q _
end
end LW
namespace LW
open PySem PySem.Spec PyProof.Rows L2 Ys

theorem okSup {w : World} {K : PySem.W.Frag} {mg : Str → Option Value} {base : Heap} {C fI : Addr} {fd : FuncData} (S : SupF PR K C fI "value" "InvalidStaff.__init__" (defArgs s_x) (defBody s_x) (defScope s_x) fd) (T : OexC K C) : FnOk PR w K mg base CX0 1 fI fd ["self", "value"] (spSup K C "value") :=
  ok_sup (x := "value") S ⟨by decide +kernel, by rfl, by rfl, by rfl, by rfl, rfl, rfl, rfl, ⟨_, rfl, rfl⟩, by decide, by decide⟩ T (fun env h => by cases env; subst h; exact ⟨_, rfl⟩) (fun env h => by cases env; subst h; rfl) (fun env h => by cases env; subst h; rfl) (fun env h => by cases env; subst h; rfl) (by decide +kernel)
theorem facts {w : World} {K : PySem.W.Frag} {h : Heap} {mg : Str → Option Value} {f : Addr} (X : K.In h) (G : h.Ns mainGlobals mg) (hfa : mg ("law" : Str) = some (.ref f)) (cl : SaysL fb fn fc ts tf w h K) :
    ∃ fd : FuncData, (∀ (s : Shared) (v : Value), BindsTo s fd ⟨[v], []⟩ [("_law_script", v)]) ∧ ∀ base : Heap, K.In base → base.Ns mainGlobals mg → (∀ p ∈ tf.map (cTb K), LamX.TabB base mg p.1 p.2) → FnG PR w K mg base CX0 30 f fd ["_law_script"] (spLaw K (cTb K (gA "law")).2) := by
  have ct0 := cl.ct
  have cc0 := ct0.c
  have c := cc0.both.1
  obtain ⟨fd_is_word, F_is_word⟩ : ∃ fd, FnP K "is_word" s_is_word (gA "is_word" K) fd := c.def_ 0
  obtain ⟨fd_is_integer, F_is_integer⟩ : ∃ fd, FnP K "is_integer" s_is_integer (gA "is_integer" K) fd := c.def_ 1
  obtain ⟨fd_is_within, F_is_within⟩ : ∃ fd, FnP K "is_within" s_is_within (gA "is_within" K) fd := c.def_ 2
  obtain ⟨fd_ascending, F_ascending⟩ : ∃ fd, FnP K "ascending" s_ascending (gA "ascending" K) fd := c.def_ 3
  obtain ⟨fd_valid_numbers, F_valid_numbers⟩ : ∃ fd, FnP K "valid_numbers" s_valid_numbers (gA "valid_numbers" K) fd := c.def_ 4
  obtain ⟨fd_law_pen, F_law_pen⟩ : ∃ fd, FnP K "_law_pen" s_law_pen (gA "_law_pen" K) fd := c.def_ 5
  obtain ⟨fd_law_draw, F_law_draw⟩ : ∃ fd, FnP K "_law_draw" s_law_draw (gA "_law_draw" K) fd := c.def_ 6
  obtain ⟨fd_law_pick, F_law_pick⟩ : ∃ fd, FnP K "_law_pick" s_law_pick (gA "_law_pick" K) fd := c.def_ 7
  obtain ⟨fd_law_words, F_law_words⟩ : ∃ fd, FnP K "_law_words" s_law_words (gA "_law_words" K) fd := c.def_ 8
  obtain ⟨fd_law_any_value, F_law_any_value⟩ : ∃ fd, FnP K "_law_any_value" s_law_any_value (gA "_law_any_value" K) fd := c.def_ 9
  obtain ⟨fd_law_is_word, F_law_is_word⟩ : ∃ fd, FnP K "_law_is_word" s_law_is_word (gA "_law_is_word" K) fd := c.def_ 10
  obtain ⟨fd_law_is_integer, F_law_is_integer⟩ : ∃ fd, FnP K "_law_is_integer" s_law_is_integer (gA "_law_is_integer" K) fd := c.def_ 11
  obtain ⟨fd_law_told, F_law_told⟩ : ∃ fd, FnP K "_law_told" s_law_told (gA "_law_told" K) fd := c.def_ 12
  obtain ⟨fd_law_due, F_law_due⟩ : ∃ fd, FnP K "_law_due" s_law_due (gA "_law_due" K) fd := c.def_ 13
  obtain ⟨fd_law, F_law⟩ : ∃ fd, FnP K "law" s_law (gA "law" K) fd := c.def_ 14
  obtain ⟨fd_m___init__, F_m___init__⟩ : ∃ fd, FunD K "__init__" "Staff.__init__" (defArgs s_Staff_init) (defBody s_Staff_init) (defScope s_Staff_init) [] [] (cA "Staff" "__init__" K) fd := c.def_ 15
  obtain ⟨fd_m_of, F_m_of⟩ : ∃ fd, FunD K "of" "Staff.of" (defArgs s_Staff_of) (defBody s_Staff_of) (defScope s_Staff_of) [] [] (kmA "Staff" "of" K) fd := c.def_ 16
  have T : Nm K mg := ⟨sysB_ok (c.at_ 0), He.free_ok X G (c.at_ 18), He.free_ok X G (c.at_ 19), He.free_ok X G (c.at_ 20), He.free_ok X G (c.at_ 21), He.free_ok X G (c.at_ 22), He.free_ok X G (c.at_ 23), He.free_ok X G (c.at_ 24), He.free_ok X G (c.at_ 25), He.free_ok X G (c.at_ 26), He.free_ok X G (c.at_ 27), He.free_ok X G (c.at_ 28), He.free_ok X G (c.at_ 29), He.free_ok X G (c.at_ 30), He.free_ok X G (c.at_ 31), He.free_ok X G (c.at_ 32), He.free_ok X G (c.at_ 33), He.free_ok X G (c.at_ 34), let ⟨t, e⟩ := He.str_ok X G (c.at_ 36); ⟨_, e, t, rfl⟩, let ⟨t, e⟩ := He.int_ok X G (c.at_ 37); ⟨_, e, t, rfl⟩, let ⟨t, e⟩ := He.int_ok X G (c.at_ 38); ⟨_, e, t, rfl⟩⟩
  have e := hfa.symm.trans (He.glo_ok X G (c.at_ 15))
  cases e
  have SC : StC K (gA "Staff" K) := by
    obtain ⟨h1, h2⟩ := Bool.and_eq_true_iff.mp (c.at_ 42)
    obtain ⟨h3, h4⟩ := Bool.and_eq_true_iff.mp h2
    obtain ⟨h5, h6⟩ := Bool.and_eq_true_iff.mp h4
    obtain ⟨h7, h8⟩ := Bool.and_eq_true_iff.mp h6
    exact ⟨He.cls_ok (c.at_ 39), He.noat_ok (c.at_ 40), of_decide_eq_true h1, of_decide_eq_true h3, of_decide_eq_true h5, of_decide_eq_true h7, h8⟩
  have b := FunD.bindsA (ps := ["_law_script"]) F_law fun _ _ _ _ _ _ us hl => match us, hl with | [_], _ => rfl
  refine ⟨fd_law, fun s v => b s [v] rfl, fun base _ _ tb => ?_⟩
  have B_law := tb (cTb K (gA "law")) (List.mem_map.mpr ⟨gA "law", by simp [tf], rfl⟩)
  have L : LawC PR w K mg base (gA "Staff" K) (gA "InvalidStaff" K) := by
    obtain ⟨fd_x, S_x, ⟨kV, doc, pm, an, cdv, ct, cc, e_x⟩, iC, tI⟩ := supA_ok (P := PR) (x := "InvalidStaff") (fld := "value") (d := dSup) rfl rfl (cc0.sup 0) (c.at_ 46)
    have O_x := oexA_ok (c.at_ 44)
    have A_x := excA_ok (c.at_ 45)
    have S_InvalidStaff : ExcS PR w K mg base (gA "InvalidStaff" K) "InvalidStaff" "value" := ⟨O_x, ⟨_, fd_x, "value", iC, tI, okSup S_x O_x, by
      rw [e_x]
      exact .all fun us hl => match us, hl with | [_, _], _ => rfl⟩, He.glo_ok X G (c.at_ 17)⟩
    have gS := He.glo_ok X G (c.at_ 16)
    have C_is_word : Own PR w K mg base CX0 1 "is_word" ["value"] (spWord K) := ⟨⟨_, _, ok_is_word T F_is_word, He.glo_ok X G (c.at_ 1), F_is_word.kp, F_is_word.bindsN fun _ _ _ _ _ _ us hl => match us, hl with | [_], _ => rfl⟩⟩
    have C_is_integer : Own PR w K mg base CX0 1 "is_integer" ["value"] (spInt K) := ⟨⟨_, _, ok_is_integer T F_is_integer, He.glo_ok X G (c.at_ 2), F_is_integer.kp, F_is_integer.bindsN fun _ _ _ _ _ _ us hl => match us, hl with | [_], _ => rfl⟩⟩
    have C_is_within : Own PR w K mg base CX0 2 "is_within" ["value", "least", "most"] (spWithin K) := ⟨⟨_, _, ok_is_within T C_is_integer F_is_within, He.glo_ok X G (c.at_ 3), F_is_within.kp, F_is_within.bindsN fun _ _ _ _ _ _ us hl => match us, hl with | [_, _, _], _ => rfl⟩⟩
    have C_ascF : Own PR w K mg base CX0 1 "ascending" ["words"] (spAscF K) := ⟨⟨_, _, ok_ascF T F_ascending, He.glo_ok X G (c.at_ 4), F_ascending.kp, F_ascending.bindsN fun _ _ _ _ _ _ us hl => match us, hl with | [_], _ => rfl⟩⟩
    have C_valid_numbers : Own PR w K mg base (L2.CX PR w) 3 "valid_numbers" ["numbers"] (spValidX K w (gA "InvalidStaff" K)) := ⟨⟨_, _, ok_validX T S_InvalidStaff C_ascF C_is_word C_is_within F_valid_numbers, He.glo_ok X G (c.at_ 5), F_valid_numbers.kp, F_valid_numbers.bindsN fun _ _ _ _ _ _ us hl => match us, hl with | [_], _ => rfl⟩⟩
    have MS : MkR PR w K mg base (L2.CX PR w) 4 (gA "Staff" K) (spStX K w (gA "Staff" K) (gA "InvalidStaff" K)) := ⟨⟨_, He.mkr_ok (c.at_ 41), ok_sinitX T SC C_valid_numbers F_m___init__⟩⟩
    have CR := fKm_ok (c.at_ 43)
    have OF : FnR PR w K mg base (L2.CX PR w) 6 (kmA "Staff" "of" K) (spOfX K w (gA "Staff" K) (gA "InvalidStaff" K)) := fnR_of (ok_sofX T S_InvalidStaff MS F_m_of) (F_m_of.bindsN fun _ _ _ _ _ _ us hl => match us, hl with | [_, _], _ => rfl)
    have MK1 : MkRK PR w K mg base (L2.CX PR w) 4 (gA "Staff" K) ["p"] (spStKX K w (gA "Staff" K) (gA "InvalidStaff" K) ["p"]) := ⟨⟨_, He.mkr_ok (c.at_ 41), ok_sinitKX (by decide +kernel) (by show 1 ≤ sizeLine; decide) bind_s1 T SC C_valid_numbers F_m___init__⟩⟩
    have MK2 : MkRK PR w K mg base (L2.CX PR w) 4 (gA "Staff" K) ["p", "A"] (spStKX K w (gA "Staff" K) (gA "InvalidStaff" K) ["p", "A"]) := ⟨⟨_, He.mkr_ok (c.at_ 41), ok_sinitKX (by decide +kernel) (by show 2 ≤ sizeLine; decide) bind_s2 T SC C_valid_numbers F_m___init__⟩⟩
    have MK3 : MkRK PR w K mg base (L2.CX PR w) 4 (gA "Staff" K) ["b", "a"] (spStKX K w (gA "Staff" K) (gA "InvalidStaff" K) ["b", "a"]) := ⟨⟨_, He.mkr_ok (c.at_ 41), ok_sinitKX (by decide +kernel) (by show 2 ≤ sizeLine; decide) bind_s3 T SC C_valid_numbers F_m___init__⟩⟩
    have C_law_pen : Own PR w K mg base CX0 1 "_law_pen" ["_law_script"] (spPenM K) := ⟨⟨_, _, ok_penM T F_law_pen, He.glo_ok X G (c.at_ 6), F_law_pen.kp, F_law_pen.bindsN fun _ _ _ _ _ _ us hl => match us, hl with | [_], _ => rfl⟩⟩
    have C_law_draw : Own PR w K mg base CX0 1 "_law_draw" ["_law_pen_here", "_law_size"] (spDraw K) := ⟨⟨_, _, ok_draw T F_law_draw, He.glo_ok X G (c.at_ 7), F_law_draw.kp, F_law_draw.bindsN fun _ _ _ _ _ _ us hl => match us, hl with | [_, _], _ => rfl⟩⟩
    have C_law_pick : Own PR w K mg base CX0 2 "_law_pick" ["_law_pen_here", "_law_items"] (spPick K) := ⟨⟨_, _, ok_pick T C_law_draw F_law_pick, He.glo_ok X G (c.at_ 8), F_law_pick.kp, F_law_pick.bindsN fun _ _ _ _ _ _ us hl => match us, hl with | [_, _], _ => rfl⟩⟩
    have C_law_words : Own PR w K mg base CX0 3 "_law_words" ["_law_pen_here", "_law_count"] (spWords K) := ⟨⟨_, _, ok_words T C_law_draw C_law_pick F_law_words, He.glo_ok X G (c.at_ 9), F_law_words.kp, F_law_words.bindsN fun _ _ _ _ _ _ us hl => match us, hl with | [_, _], _ => rfl⟩⟩
    have C_law_any_value : Own PR w K mg base CX0 3 "_law_any_value" ["_law_pen_here"] (spAnyF K) := ⟨⟨_, _, ok_anyF T C_law_pick F_law_any_value, He.glo_ok X G (c.at_ 10), F_law_any_value.kp, F_law_any_value.bindsN fun _ _ _ _ _ _ us hl => match us, hl with | [_], _ => rfl⟩⟩
    have C_law_is_word : Own PR w K mg base CX0 1 "_law_is_word" ["_law_value"] (spWord K) := ⟨⟨_, _, ok_lword T F_law_is_word, He.glo_ok X G (c.at_ 11), F_law_is_word.kp, F_law_is_word.bindsN fun _ _ _ _ _ _ us hl => match us, hl with | [_], _ => rfl⟩⟩
    have C_law_is_integer : Own PR w K mg base CX0 1 "_law_is_integer" ["_law_value"] (spInt K) := ⟨⟨_, _, ok_lint T F_law_is_integer, He.glo_ok X G (c.at_ 12), F_law_is_integer.kp, F_law_is_integer.bindsN fun _ _ _ _ _ _ us hl => match us, hl with | [_], _ => rfl⟩⟩
    have C_law_due : OwnG PR w K mg base CX0 3 "_law_due" ["_law_value"] (spDueX K w) := ⟨⟨_, _, ok_dueX T C_law_is_word C_law_is_integer F_law_due, He.glo_ok X G (c.at_ 14), F_law_due.kp, F_law_due.bindsN fun _ _ _ _ _ _ us hl => match us, hl with | [_], _ => rfl⟩⟩
    have TO : ToC K mg (gA "InvalidStaff" K) := ⟨⟨_, _, F_law_told, He.glo_ok X G (c.at_ 13), F_law_told.bindsN fun _ _ _ _ _ _ us hl => match us, hl with | [_], _ => rfl⟩, He.glo_ok X G (c.at_ 17), He.free_ok X G (c.at_ 35), A_x.xf, A_x.xc, A_x.no, A_x.ex, of_decide_eq_true (c.at_ 47)⟩
    exact ⟨C_law_pen, C_law_draw, C_law_pick, C_law_words, C_law_any_value, C_law_due, gS, ⟨_, CR.1, _, _, CR.2, OF⟩, MK1, MK2, MK3, TO⟩
  exact ok_law T L B_law F_law (cdOf_eq F_law)
end LW
open PySem PySem.W PySem.Calls PyProof.Rows
theorem PySem.Challenge.cw_fewhands_k03_staffs_refused_holds : PySem.Challenge.rw_fewhands_k03_staffs_refused.Holds := by
  w_on; o_law
  refine HandSHeadRun.head_any (r := OpenLaw.row PySem.Challenge.rw_fewhands_k03_staffs_refused) (q := view (OpenLaw.row PySem.Challenge.rw_fewhands_k03_staffs_refused).prog [28]) (H := LW.hk) (ob := Ys.obRL 1500 LW.fb LW.fn LW.fc LW.ts LW.tf) (M := 4000) (loose := LW.loose) (d := HandSHeadRun.topDef (OpenLaw.row PySem.Challenge.rw_fewhands_k03_staffs_refused).prog 28) (kwd := []) Ys.obRL_eq
    (by kernel_rfl) (fun s => by kernel_rfl) LW.run (by kernel_rfl) (by kernel_rfl) (by kernel_rfl) (by rfl) (by first | assumption | decide +kernel) (by decide +kernel) ⟨rfl, rfl, rfl, rfl, rfl, by decide +kernel⟩ ?hw ?hc
  case hw => w_witness2
  case hc =>
    refine Ys.walk_ofGT (l := PySem.Challenge.rw_fewhands_k03_staffs_refused) (n := 63) (k := 30) (x := "_law_script") (CX := fun _ => L2.CX0) rfl (by decide) (by kernel_rfl) ⟨rfl, by decide, by decide⟩ ?F (fun _ _ _ _ _ z => z)
    intro w mg fa h Y G hmg0
    obtain ⟨K, KX, c⟩ := Y
    have hmg : mg ("law" : PySem.Str) = some (.ref fa) := by
      have e : (HandSHeadRun.topDef (OpenLaw.row PySem.Challenge.rw_fewhands_k03_staffs_refused).prog 28).name = ("law" : PySem.Str) := by kernel_rfl
      rw [← e]
      exact hmg0
    obtain ⟨fd, hb, hF⟩ := LW.facts (w := w) KX G hmg c
    refine ⟨K, fd, LW.tf.map (Ys.cTb K), LW.spLaw K (Ys.cTb K (Ys.gA "law")).2, KX, ⟨fun p hp => ?_, fun p hp => ?_, fun p hp => ?_, ?_⟩, hb, fun G H a ns hl z hS => ⟨G, a, ns, rfl, z, hS, hl, fun _ => rfl⟩, hF⟩
    · obtain ⟨g, hg, rfl⟩ := List.mem_map.mp hp
      exact c.emp g hg
    · obtain ⟨g, hg, rfl⟩ := List.mem_map.mp hp
      exact c.out g hg
    · obtain ⟨g, hg, rfl⟩ := List.mem_map.mp hp
      exact PySem.W.codeHd_of_K KX (c.hd g hg)
    · rw [List.map_map]
      exact c.nd
