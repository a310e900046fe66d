import PyProof.Rows.All
import Wide.All
import OpenK.AllK
import Wide.FinOn
import HandS.ForMost
import HandS.SetTxt0
import HandS.Set
import HandS.SetFor
import HandS.Strs
import HandS.More
import PyProof.ReprRoads
import PyProof.CallFns
import KE.KStateDown
import HandS.Defaults
import HandS.Head0
import HandS.Head1
import HandS.Head2
import HandS.HeadEnd
import HandS.HeadHook1
import HandS.HeadHook2
import HandS.Conv
import HandS.TupAny
import HandS.Wide
import HandS.Flow
import HandS.NoneIn
import HandS.IsInst
import HandS.Text
import HandS.Property
import HandS.OwnEq
import HandS.MakeKwOnly
import HandS.MakeKw
import HandS.TupSets
import HandS.Dict
import HandS.DictComp
import HandS.Iter
import HandS.WordsDict
import KE.KExcSuper
import KE.RegKSuper
import HandS.Exc
import HandS.ExcInit
import HandS.ExcField
import HandS.ExcIs
import HandS.ExcSuper
import KE.KIsAll
import KE.KTryMore
import HandS.WordsExc
import HandS.RaiseMore
import HandS.ExcOwn
import HandS.Star
import HandS.Style
import HandS.AnyAll
import HandS.HeadHook3
import PyProof.AutoSeq1
import KE.KDictSum
import PyProof.TupleOfSeq
import HandS.DictEq
import HandS.ClsMeth
import HandS.CallLocal
import HandS.DeepEq
import KE.KExcPX
import HandS.ExcValue
import PyProof.Rows.ExtendIn
import HandS.HeadNt
import PySem.Challenge.RW_fewhands_k02_whole_staffs_as_numbers
set_option Elab.async false
set_option linter.all false
set_option maxRecDepth 100000
set_option maxHeartbeats 40000000
namespace Ys
open PySem PySem.Spec PyProof.Rows L2
def sysB (K : PySem.W.Frag) : Bool := match K.lookup sysModules with
  | some o => o.cls == .type "dict"
  | none => false
structure DefY where
  ad : PySem.W.Frag → Addr
  name : Str
  qual : Str
  params : Arguments
  body : List Stmt
  scope : Scope
  dfl : List He.Dv := []
  kwd : List (Str × He.Dv) := []
def fnY (K : PySem.W.Frag) (a : Addr) : He.FnW := (K.lookup a).bind fun o => match o.data with
  | .func fd => some (fd.name, fd.qualname, fd.params, fd.body, fd.scope, fd.globals, fd.closure, fd.builtins)
  | _ => none
def DefY.val (d : DefY) : He.FnW := some (d.name, d.qual, d.params, .stmts d.body, d.scope, mainGlobals, [], builtinsNs)
def DefY.dvs (K : PySem.W.Frag) (d : DefY) : List V := d.dfl.map (He.Dv.v K)
def DefY.kws (K : PySem.W.Frag) (d : DefY) : List (Str × V) := d.kwd.map fun q => (q.1, q.2.v K)
def DefY.ok (K : PySem.W.Frag) (d : DefY) : Bool := PySem.W.keepIn K (.ref (d.ad K)) && ((K.lookup (d.ad K)).elim false fun o => match o.data with
  | .func fd => PySem.W.codeIn K fd.code d.qual && (He.dflB K fd.defaults (d.dvs K) && He.kwdB K fd.kwdefaults (d.kws K))
  | _ => false)
def obsZ (fb : List (PySem.W.Frag → Bool)) (fn : List DefY) (K : PySem.W.Frag) : He.AlD := ((fb.all fun f => f K) && fn.all fun d => d.ok K, fn.map fun d => fnY K (d.ad K))
def valZ (fn : List DefY) : He.AlD := (true, fn.map DefY.val)
def SaysZ (fb : List (PySem.W.Frag → Bool)) (fn : List DefY) (K : PySem.W.Frag) : Prop := obsZ fb fn K = valZ fn
def frZ (n : Nat) (g : Addr → Option Obj) : PySem.W.Frag := He.frG g (sysModules :: He.asD g n)
def hookZ (n : Nat) (fb : List (PySem.W.Frag → Bool)) (fn : List DefY) : PySem.W.Hook where
  α := He.AlD
  obs := fun s => obsZ fb fn (frZ n s.heap.get?)
  val := fun _ => valZ fn
  says := fun _ h => ∃ K : PySem.W.Frag, K.In h ∧ SaysZ fb fn K
  of := fun _ _ e => ⟨_, He.frG_in, e⟩
  keeps := fun _ _ _ ⟨K, hK, c⟩ k => ⟨K, PySem.W.Frag.In.keeps hK k, c⟩
def obZ (n : Nat) (fb : List (PySem.W.Frag → Bool)) (fn : List DefY) (s : PySem.W.SharedT) : He.AlD := obsZ fb fn (frZ n (HandSHeadRun.getT s))
def gA (x : Str) (K : PySem.W.Frag) : Addr := He.ga K x
def cA (x m : Str) (K : PySem.W.Frag) : Addr := He.ma K (He.ga K x) m
def pA (x m : Str) (K : PySem.W.Frag) : Addr := match PySem.W.recIn K (cA x m K) "property" with
  | some (.ref g :: _) => g
  | _ => 0
def kA (x f m : Str) (K : PySem.W.Frag) : Addr := match K.lookup (cA x f K) with
  | some ⟨_, _, .func fd, _⟩ => (match fd.kwdefaults with
    | .ref D => (match PySem.W.nsIn K D m with
      | some (some (.ref a)) => a
      | _ => 0)
    | _ => 0)
  | _ => 0
def fProp (x m : Str) (K : PySem.W.Frag) : Bool := decide (PySem.W.findIn K (.ref (He.ga K x)) m = some (some (.ref (cA x m K)))) && (decide (PySem.W.specialIn K (.ref (cA x m K)) "__get__" = some (some (.builtin "property.__get__"))) &&
  (decide (PySem.W.takesIn K (.ref (cA x m K)) = some true) && (match PySem.W.recIn K (cA x m K) "property" with
    | some (.ref g :: _) => decide (g = pA x m K)
    | _ => false)))
def fTy (x : Str) (K : PySem.W.Frag) : Bool := decide (PySem.W.findIn K (.ref (He.ga K x)) "__class__" = some (some (.builtin "object.__class__"))) && (decide (PySem.W.specialIn K (.builtin "object.__class__") "__get__" = some (some (.builtin "getset_descriptor.__get__"))) &&
  (decide (PySem.W.takesIn K (.builtin "object.__class__") = some true) && (decide (PySem.W.mroIn K (He.ga K x) (.type "object") = some true) && ((PySem.W.clsIn K (He.ga K x)).isSome && PySem.W.typeIn K (.ref (He.ga K x)) == some (.type "type")))))
def fNe (x : Str) (K : PySem.W.Frag) : Bool := decide (PySem.W.findIn K (.ref (He.ga K x)) "__ne__" = some (some (.builtin "object.__ne__")))
def fNil (a : PySem.W.Frag → Addr) (K : PySem.W.Frag) : Bool := match K.lookup (a K) with
  | some ⟨.type c, _, .seq its _, _⟩ => decide (c = "tuple") && decide (its.size = 0)
  | _ => false
def fnC (K : PySem.W.Frag) (a : Addr) : He.FnW := (K.lookup a).bind fun o => match o.data with
  | .func g => some (g.name, g.qualname, g.params, g.body, g.scope, g.globals, [], g.builtins)
  | _ => none
def obsC (fb : List (PySem.W.Frag → Bool)) (fn fc : List DefY) (K : PySem.W.Frag) : He.AlD := ((fb.all fun f => f K) && fn.all fun d => d.ok K, (fn.map fun d => fnY K (d.ad K)) ++ fc.map fun d => fnC K (d.ad K))
def valC (fn fc : List DefY) : He.AlD := (true, fn.map DefY.val ++ fc.map DefY.val)
def SaysC (fb : List (PySem.W.Frag → Bool)) (fn fc : List DefY) (K : PySem.W.Frag) : Prop := obsC fb fn fc K = valC fn fc
def frC (n : Nat) (g : Addr → Option Obj) : PySem.W.Frag := He.frG g (cStatics :: sysModules :: He.asD g n)
def hookC (n : Nat) (fb : List (PySem.W.Frag → Bool)) (fn fc : List DefY) : PySem.W.Hook where
  α := He.AlD
  val := fun _ => valC fn fc
  obs := fun t => obsC fb fn fc (frC n t.heap.get?)
  says := fun _ h => ∃ K : PySem.W.Frag, K.In h ∧ SaysC fb fn fc K
  keeps := fun _ _ _ ⟨K, i, c⟩ k => ⟨K, i.keeps k, c⟩
  of := fun _ _ e => ⟨_, He.frG_in, e⟩
def obC (n : Nat) (fb : List (PySem.W.Frag → Bool)) (fn fc : List DefY) (s : PySem.W.SharedT) : He.AlD := obsC fb fn fc (frC n (HandSHeadRun.getT s))
def oexB (K : PySem.W.Frag) (C : Addr) : Bool := match K.lookup C with
  | some ⟨.type t, _, .cls c, sl⟩ => (match c.mro, sl.toList with
    | .ref D :: bm, [_, _, _, _, some (.builtin m), _] => (decide (t = "type") && (decide (D = C) && decide (m = "ValueError.__new__"))) && (PySem.HandSPX.refsVE bm && (c.hasDict && !c.hasDel))
    | _, _ => false)
  | _ => false
def oexA (x : Str) (K : PySem.W.Frag) : Bool := oexB K (He.ga K x) && (decide (PySem.W.findIn K (.ref (He.ga K x)) "__setattr__" = some (some (.builtin "object.__setattr__"))) && (decide (PySem.W.subIn K (.ref (He.ga K x)) (.type "BaseException") = some true) &&
  (decide (PySem.W.typeIn K (.ref (He.ga K x)) = some (.type "type")) && PySem.W.keepIn K (.ref (He.ga K x)))))
def excA (x fld : Str) (K : PySem.W.Frag) : Bool := xfB K (He.ga K x) && (decide (PySem.W.findIn K (.ref (He.ga K x)) "__class__" = some (some (.builtin "object.__class__"))) && (decide (PySem.W.specialIn K (.builtin "object.__class__") "__get__" = some (some (.builtin "getset_descriptor.__get__"))) &&
  (decide (PySem.W.takesIn K (.builtin "object.__class__") = some true) && (decide (PySem.W.mroIn K (He.ga K x) (.type "object") = some true) && (decide (PySem.W.findIn K (.ref (He.ga K x)) fld = some none) &&
  (decide (PySem.W.exmOne K (.ref (He.ga K x)) (.ref (He.ga K x)) = some true) && decide (PySem.W.kitOne K (.ref (He.ga K x)) (.type "ValueError") = some true)))))))
def fileB (K : PySem.W.Frag) (cd : Value) (file : Str) : Bool := match cd with
  | .ref a => (match K.lookup a with
    | some ⟨_, _, .fields vs, _⟩ => (match (vs[2]? : Option Value) with
      | some (.str z _) => file == z
      | _ => false)
    | _ => false)
  | _ => false
def cloB (K : PySem.W.Frag) (clo : List (Str × Addr)) (C : Addr) : Bool := match clo with
  | [(n, c)] => decide (n = "__class__") && (match K.lookup c with
    | some ⟨_, _, .cell (some (.ref D)), _⟩ => decide (D = C)
    | _ => false)
  | _ => false
def supA (x qual fld file : Str) (K : PySem.W.Frag) : Bool := (match K.lookup (cA x "__init__" K) with
    | some ⟨_, _, .func g, _⟩ => PySem.W.codeIn K g.code qual && (fileB K g.code file && (cloB K g.closure (gA x K) && decide (g.defaults = .none)))
    | _ => false) &&
  (decide (PySem.W.ks_superIn K (gA x K) (gA x K) "__init__" = some (some (.builtin "ValueError.__init__"))) && (decide (PySem.W.subIn K (.ref (gA x K)) (.type "ValueError") = some true) && (decide (PySem.W.nsIn K cStatics "thirdparty.any" = some none) &&
  (decide (PySem.W.nsIn K mainGlobals "super" = some none) && (decide (PySem.W.findIn K (.ref (gA x K)) fld = some none) && (decide (PySem.W.mroIn K (gA x K) (.ref (gA x K)) = some true) &&
  (decide (PySem.W.findIn K (.ref (gA x K)) "__init__" = some (some (.ref (cA x "__init__" K)))) && decide (PySem.W.typeIn K (.ref (cA x "__init__" K)) = some (.type "function")))))))))
def sA (x m : Str) (K : PySem.W.Frag) : Addr := match PySem.W.recIn K (cA x m K) "property" with
  | some (_ :: .ref g :: _) => g
  | _ => 0
def fPset (x m : Str) (K : PySem.W.Frag) : Bool := decide (PySem.W.takerIn K (He.ga K x) m = some (some (.ref (cA x m K)))) && (decide (PySem.W.typeIn K (.ref (cA x m K)) = some (.type "property")) &&
  (match PySem.W.recIn K (cA x m K) "property" with
    | some (_ :: .ref g :: _) => decide (g = sA x m K)
    | _ => false))
def fFn (x m : Str) (K : PySem.W.Frag) : Bool := PySem.W.fnIn K (cA x m K)
abbrev AlCT : Type := He.AlD × List (Option (List (Option (Str × Int))))
def obsCT (fb : List (PySem.W.Frag → Bool)) (fn fc : List DefY) (ts : List He.Tab) (K : PySem.W.Frag) : AlCT := (obsC fb fn fc K, ts.map fun t => He.dicW K (t.1 K))
def valCT (fn fc : List DefY) (ts : List He.Tab) (w : World) : AlCT := (valC fn fc, ts.map fun t => some (He.keysIn w.params t.2))
def SaysCT (fb : List (PySem.W.Frag → Bool)) (fn fc : List DefY) (ts : List He.Tab) (w : World) (K : PySem.W.Frag) : Prop := obsCT fb fn fc ts K = valCT fn fc ts w
def hookCT (n : Nat) (fb : List (PySem.W.Frag → Bool)) (fn fc : List DefY) (ts : List He.Tab) : PySem.W.Hook where
  α := AlCT
  val := fun w => valCT fn fc ts w
  obs := fun t => obsCT fb fn fc ts (frC n t.heap.get?)
  says := fun w h => ∃ K : PySem.W.Frag, K.In h ∧ SaysCT fb fn fc ts w K
  keeps := fun _ _ _ ⟨K, i, c⟩ k => ⟨K, i.keeps k, c⟩
  of := fun _ _ e => ⟨_, He.frG_in, e⟩
def obCT (n : Nat) (fb : List (PySem.W.Frag → Bool)) (fn fc : List DefY) (ts : List He.Tab) (s : PySem.W.SharedT) : AlCT := obsCT fb fn fc ts (frC n (HandSHeadRun.getT s))
def valsV (kvs : List (Str × V)) (a : PySem.W.Frag → Addr) (K : PySem.W.Frag) : Bool := kvs.all fun q => match PySem.W.nsIn K (a K) q.1 with
  | some (some u) => He.relB q.2 u
  | _ => false
def frR (n : Nat) (g : Addr → Option Obj) : PySem.W.Frag := He.frG g (List.range n)
def hookRT (n : Nat) (fb : List (PySem.W.Frag → Bool)) (fn fc : List DefY) (ts : List He.Tab) : PySem.W.Hook where
  α := AlCT
  val := fun w => valCT fn fc ts w
  obs := fun t => obsCT fb fn fc ts (frR n t.heap.get?)
  says := fun w h => ∃ K : PySem.W.Frag, K.In h ∧ SaysCT fb fn fc ts w K
  keeps := fun _ _ _ ⟨K, i, c⟩ k => ⟨K, i.keeps k, c⟩
  of := fun _ _ e => ⟨_, He.frG_in, e⟩
def obRT (n : Nat) (fb : List (PySem.W.Frag → Bool)) (fn fc : List DefY) (ts : List He.Tab) (s : PySem.W.SharedT) : AlCT := obsCT fb fn fc ts (frR n (HandSHeadRun.getT s))
def kmA (x m : Str) (K : PySem.W.Frag) : Addr := He5.wf K (gA x K) "classmethod" m
def fKm (x m : Str) (K : PySem.W.Frag) : Bool := PySem.W.readsIn K (gA x K) (.type "type") && (He5.wrapB K (gA x K) "classmethod" "classmethod.__get__" m && PySem.W.fnIn K (kmA x m K))
def fSelf (x : Str) (K : PySem.W.Frag) : Bool := PySem.W.selfFirst K (gA x K)
def oexEB (K : PySem.W.Frag) (C : Addr) (newId : String) (tl : List Value) : Bool := match K.lookup C with
  | some ⟨.type t, _, .cls c, sl⟩ => (match c.mro, sl.toList with
    | .ref D :: bm, [_, _, _, _, some (.builtin m), _] => (decide (t = "type") && (decide (D = C) && decide (m = newId))) && (bm == tl && (c.hasDict && !c.hasDel))
    | _, _ => false)
  | _ => false
def oexEA (x : Str) (newId : String) (tl : List Value) (K : PySem.W.Frag) : Bool := oexEB K (gA x K) newId tl && (decide (PySem.W.findIn K (.ref (gA x K)) "__setattr__" = some (some (.builtin "object.__setattr__"))) && (decide (PySem.W.subIn K (.ref (gA x K)) (.type "BaseException") = some true) &&
  (decide (PySem.W.typeIn K (.ref (gA x K)) = some (.type "type")) && PySem.W.keepIn K (.ref (gA x K)))))
def excX (x : Str) (K : PySem.W.Frag) : Bool := xfB K (gA x K) && (decide (PySem.W.findIn K (.ref (gA x K)) "__class__" = some (some (.builtin "object.__class__"))) && (decide (PySem.W.specialIn K (.builtin "object.__class__") "__get__" = some (some (.builtin "getset_descriptor.__get__"))) &&
  (decide (PySem.W.takesIn K (.builtin "object.__class__") = some true) && decide (PySem.W.mroIn K (gA x K) (.type "object") = some true))))
def supEA (x qual : Str) (flds : List Str) (B initId : String) (file : Str) (K : PySem.W.Frag) : Bool := (match K.lookup (cA x "__init__" K) with
    | some ⟨_, _, .func g, _⟩ => PySem.W.codeIn K g.code qual && (fileB K g.code file && (cloB K g.closure (gA x K) && decide (g.defaults = .none)))
    | _ => false) &&
  (decide (PySem.W.ks_superIn K (gA x K) (gA x K) "__init__" = some (some (.builtin initId))) && (decide (PySem.W.subIn K (.ref (gA x K)) (.type B) = some true) && (decide (PySem.W.nsIn K cStatics "thirdparty.any" = some none) &&
  (decide (PySem.W.nsIn K mainGlobals "super" = some none) && ((flds.all fun f => decide (PySem.W.findIn K (.ref (gA x K)) f = some none)) && (decide (PySem.W.mroIn K (gA x K) (.ref (gA x K)) = some true) &&
  (decide (PySem.W.findIn K (.ref (gA x K)) "__init__" = some (some (.ref (cA x "__init__" K)))) && decide (PySem.W.typeIn K (.ref (cA x "__init__" K)) = some (.type "function")))))))))
end Ys
namespace LW
open PySem PySem.Spec PyProof.Rows L2 Ys
abbrev P0 : Program := PySem.Challenge.pw_fewhands_k02_whole_staffs_as_numbers
def top (i : Nat) : Stmt := P0.main.body.getD i (.Pass ⟨0, 0, 0, 0⟩)
def inner : Stmt → Nat → Stmt
  | .ClassDef _ _ _ body _ _ _ _ _ _ _, j => (body.filter fun y => match y with | .FunctionDef .. => true | _ => false).getD j (.Pass ⟨0, 0, 0, 0⟩)
  | s, _ => s
abbrev s_wall : Stmt := top 0
abbrev s_is_word : Stmt := top 7
abbrev s_is_integer : Stmt := top 8
abbrev s_is_within : Stmt := top 9
abbrev s_ascending : Stmt := top 10
abbrev s_valid_numbers : Stmt := top 13
abbrev s_Staff_init : Stmt := (inner (top 14) 0)
abbrev s_Staff_of : Stmt := (inner (top 14) 1)
abbrev s_Staff_kinds : Stmt := (inner (top 14) 2)
abbrev s_Staff_total : Stmt := (inner (top 14) 3)
abbrev s_Staff_numbers : Stmt := (inner (top 14) 4)
abbrev s_Staff_persons_of : Stmt := (inner (top 14) 5)
abbrev s_Staff_fits_in : Stmt := (inner (top 14) 6)
abbrev s_Staff_within : Stmt := (inner (top 14) 7)
abbrev s_Staff_iter : Stmt := (inner (top 14) 8)
abbrev s_Staff_getitem : Stmt := (inner (top 14) 9)
abbrev s_Staff_eq : Stmt := (inner (top 14) 10)
abbrev s_Staff_add : Stmt := (inner (top 14) 11)
abbrev s_Staff_sub : Stmt := (inner (top 14) 12)
abbrev s_Staff_or : Stmt := (inner (top 14) 13)
abbrev s_Staff_and : Stmt := (inner (top 14) 14)
abbrev s_greater : Stmt := top 15
abbrev s_smaller : Stmt := top 16
abbrev s_staff_with : Stmt := top 17
abbrev s_law_pen : Stmt := top 19
abbrev s_law_draw : Stmt := top 20
abbrev s_law_pick : Stmt := top 21
abbrev s_law_words : Stmt := top 22
abbrev s_law_staff : Stmt := top 23
abbrev s_law_less : Stmt := top 24
abbrev s_law_plain : Stmt := top 25
abbrev s_law_within : Stmt := top 26
abbrev s_law : Stmt := top 27
abbrev PR : Program := (PySem.Challenge.rw_fewhands_k02_whole_staffs_as_numbers).prog
abbrev s_x0 : Stmt := inner (top 3) 0
def dSup0 : DefY := ⟨cA "TooFew" "__init__", "__init__", "TooFew.__init__", defArgs s_x0, defBody s_x0, defScope s_x0, [], []⟩
def fb : List (PySem.W.Frag → Bool) := [sysB, fun K => He.Fa.ok K (.glo "is_word"), fun K => He.Fa.ok K (.glo "is_integer"), fun K => He.Fa.ok K (.glo "is_within"), fun K => He.Fa.ok K (.glo "ascending"), fun K => He.Fa.ok K (.glo "valid_numbers"), fun K => He.Fa.ok K (.glo "greater"), fun K => He.Fa.ok K (.glo "smaller"), fun K => He.Fa.ok K (.glo "staff_with"), fun K => He.Fa.ok K (.glo "_law_pen"), fun K => He.Fa.ok K (.glo "_law_draw"), fun K => He.Fa.ok K (.glo "_law_pick"), fun K => He.Fa.ok K (.glo "_law_words"), fun K => He.Fa.ok K (.glo "_law_staff"), fun K => He.Fa.ok K (.glo "_law_less"), fun K => He.Fa.ok K (.glo "_law_plain"), fun K => He.Fa.ok K (.glo "_law_within"), fun K => He.Fa.ok K (.glo "law"), fun K => He.Fa.ok K (.glo "Staff"), fun K => He.Fa.ok K (.glo "TooFew"), fun K => He.Fa.ok K (.free "len"), fun K => He.Fa.ok K (.free "int"), fun K => He.Fa.ok K (.free "list"), fun K => He.Fa.ok K (.free "tuple"), fun K => He.Fa.ok K (.free "set"), fun K => He.Fa.ok K (.free "dict"), fun K => He.Fa.ok K (.free "str"), fun K => He.Fa.ok K (.free "bool"), fun K => He.Fa.ok K (.free "sorted"), fun K => He.Fa.ok K (.free "min"), fun K => He.Fa.ok K (.free "max"), fun K => He.Fa.ok K (.free "sum"), fun K => He.Fa.ok K (.free "all"), fun K => He.Fa.ok K (.free "any"), fun K => He.Fa.ok K (.free "repr"), fun K => He.Fa.ok K (.free "range"), fun K => He.Fa.ok K (.free "isinstance"), fun K => He.Fa.ok K (.free "OverflowError"), fun K => He.Fa.ok K (.str "LETTERS" "abcdefghijklmnopqrstuvwxyz"), fun K => He.Fa.ok K (.int "LONGEST_WORD" 8), fun K => He.Fa.ok K (.int "MOST_PERSONS" 1000000000000000000000000000000), fun K => He.Fa.ok K (.cls "Staff"), fun K => He.Fa.ok K (.noat "Staff" "own_numbers"), fun K => He.Fa.ok K (.mkr "Staff"), fTy "Staff", fNe "Staff", fSelf "Staff", fKm "Staff" "of", fun K => He.Fa.ok K (.meth "Staff" "numbers"), fun K => He.Fa.ok K (.meth "Staff" "persons_of"), fun K => He.Fa.ok K (.meth "Staff" "fits_in"), fun K => He.Fa.ok K (.meth "Staff" "within"), fun K => He.Fa.ok K (.meth "Staff" "__add__"), fun K => He.Fa.ok K (.meth "Staff" "__sub__"), fun K => He.Fa.ok K (.meth "Staff" "__or__"), fun K => He.Fa.ok K (.meth "Staff" "__and__"), fun K => He.Fa.ok K (.meth "Staff" "__eq__"), excX "TooFew", oexEA "TooFew" "OverflowError.__new__" [.type "OverflowError", .type "ArithmeticError", .type "Exception", .type "BaseException", .type "object"], supEA "TooFew" "TooFew.__init__" ["kind"] "OverflowError" "OverflowError.__init__" PR.main.file, fun K => decide (PySem.W.findIn K (.ref (gA "TooFew" K)) "kind" = some none), fun K => decide (PySem.W.kitOne K (.ref (gA "TooFew" K)) (.type "OverflowError") = some true), fun K => decide (PySem.W.exmOne K (.ref (gA "TooFew" K)) (.ref (gA "TooFew" K)) = some true)]
def fn : List DefY := [⟨gA "is_word", "is_word", "is_word", defArgs s_is_word, defBody s_is_word, defScope s_is_word, [], []⟩, ⟨gA "is_integer", "is_integer", "is_integer", defArgs s_is_integer, defBody s_is_integer, defScope s_is_integer, [], []⟩, ⟨gA "is_within", "is_within", "is_within", defArgs s_is_within, defBody s_is_within, defScope s_is_within, [], []⟩, ⟨gA "ascending", "ascending", "ascending", defArgs s_ascending, defBody s_ascending, defScope s_ascending, [], []⟩, ⟨gA "valid_numbers", "valid_numbers", "valid_numbers", defArgs s_valid_numbers, defBody s_valid_numbers, defScope s_valid_numbers, [], []⟩, ⟨gA "greater", "greater", "greater", defArgs s_greater, defBody s_greater, defScope s_greater, [], []⟩, ⟨gA "smaller", "smaller", "smaller", defArgs s_smaller, defBody s_smaller, defScope s_smaller, [], []⟩, ⟨gA "staff_with", "staff_with", "staff_with", defArgs s_staff_with, defBody s_staff_with, defScope s_staff_with, [], []⟩, ⟨gA "_law_pen", "_law_pen", "_law_pen", defArgs s_law_pen, defBody s_law_pen, defScope s_law_pen, [], []⟩, ⟨gA "_law_draw", "_law_draw", "_law_draw", defArgs s_law_draw, defBody s_law_draw, defScope s_law_draw, [], []⟩, ⟨gA "_law_pick", "_law_pick", "_law_pick", defArgs s_law_pick, defBody s_law_pick, defScope s_law_pick, [], []⟩, ⟨gA "_law_words", "_law_words", "_law_words", defArgs s_law_words, defBody s_law_words, defScope s_law_words, [], []⟩, ⟨gA "_law_staff", "_law_staff", "_law_staff", defArgs s_law_staff, defBody s_law_staff, defScope s_law_staff, [], []⟩, ⟨gA "_law_less", "_law_less", "_law_less", defArgs s_law_less, defBody s_law_less, defScope s_law_less, [], []⟩, ⟨gA "_law_plain", "_law_plain", "_law_plain", defArgs s_law_plain, defBody s_law_plain, defScope s_law_plain, [], []⟩, ⟨gA "_law_within", "_law_within", "_law_within", defArgs s_law_within, defBody s_law_within, defScope s_law_within, [], []⟩, ⟨gA "law", "law", "law", defArgs s_law, defBody s_law, defScope s_law, [], []⟩, ⟨cA "Staff" "numbers", "numbers", "Staff.numbers", defArgs s_Staff_numbers, defBody s_Staff_numbers, defScope s_Staff_numbers, [], []⟩, ⟨cA "Staff" "persons_of", "persons_of", "Staff.persons_of", defArgs s_Staff_persons_of, defBody s_Staff_persons_of, defScope s_Staff_persons_of, [], []⟩, ⟨cA "Staff" "fits_in", "fits_in", "Staff.fits_in", defArgs s_Staff_fits_in, defBody s_Staff_fits_in, defScope s_Staff_fits_in, [], []⟩, ⟨cA "Staff" "within", "within", "Staff.within", defArgs s_Staff_within, defBody s_Staff_within, defScope s_Staff_within, [], []⟩, ⟨cA "Staff" "__add__", "__add__", "Staff.__add__", defArgs s_Staff_add, defBody s_Staff_add, defScope s_Staff_add, [], []⟩, ⟨cA "Staff" "__sub__", "__sub__", "Staff.__sub__", defArgs s_Staff_sub, defBody s_Staff_sub, defScope s_Staff_sub, [], []⟩, ⟨cA "Staff" "__or__", "__or__", "Staff.__or__", defArgs s_Staff_or, defBody s_Staff_or, defScope s_Staff_or, [], []⟩, ⟨cA "Staff" "__and__", "__and__", "Staff.__and__", defArgs s_Staff_and, defBody s_Staff_and, defScope s_Staff_and, [], []⟩, ⟨cA "Staff" "__eq__", "__eq__", "Staff.__eq__", defArgs s_Staff_eq, defBody s_Staff_eq, defScope s_Staff_eq, [], []⟩, ⟨cA "Staff" "__init__", "__init__", "Staff.__init__", defArgs s_Staff_init, defBody s_Staff_init, defScope s_Staff_init, [], []⟩, ⟨kmA "Staff" "of", "of", "Staff.of", defArgs s_Staff_of, defBody s_Staff_of, defScope s_Staff_of, [], []⟩]
def fc : List DefY := [dSup0]
def ts : List He.Tab := []
abbrev R : PySem.W.OpenRow := PySem.W.OpenLaw.row PySem.Challenge.rw_fewhands_k02_whole_staffs_as_numbers
abbrev hk : PySem.W.Hook := hookRT 3000 fb fn fc ts
def loose : List Str := (["_wall", "InvalidStaff", "TooFew", "LETTERS", "LONGEST_WORD", "is_word", "is_integer", "is_within", "ascending", "MOST_PERSONS", "valid_numbers", "Staff", "greater", "smaller", "staff_with", "_law_pen", "_law_draw", "_law_pick", "_law_words", "_law_staff", "_law_less", "_law_plain", "_law_within"] : List Str)
theorem run (w : World) : HandSHeadRun.RunEq R (PySem.W.view R.prog [27]) hk (obRT 3000 fb fn fc ts) 14000 loose w := by
  intro os
  kernel_rfl
end LW
/-! sets of texts: made of a list or a tuple, counted, sorted -/
namespace Ys
open PySem PySem.Spec PyProof.Rows L2

def TxSet (P : Program) (w : World) (h : Heap) (a : Addr) (l : List Str) : Prop :=
  ∃ D : Froz.SD, h.get? a = some (Froz.sObj "set" D) ∧ Froz.TxOk P w D l ∧ l.Nodup ∧ Ris D.2.2.place.toList ∧ (w.params.followText "set-order" = true ∨ D.2.2.led = true)

section
variable {P : Program} {w : World} {A : Around} {E : Value → Shared → Prop} {s : Shared}

theorem TxSet.same {h h' : Heap} {a : Addr} {l : List Str} (R : TxSet P w h a l) (k : ∀ o, h.get? a = some o → h'.get? a = some o) : TxSet P w h' a l :=
  let ⟨D, e, r⟩ := R
  ⟨D, k _ e, r⟩

theorem tail_tab (ep : Nat) (es : Array (Int × Value)) (t : SetTable) (b : Bool) (r : Ris t.place.toList) : Ris (Froz.tailTx ep es t b).2.2.place.toList ∧ (Froz.tailTx ep es t b).2.2.led = t.led := by
  unfold Froz.tailTx
  by_cases c : (!b && t.tooFull) = true
  · rw [if_pos c]
    exact ⟨relayAll_ris _ _ _, relayAll_led _ _ _⟩
  · rw [if_neg c]
    exact ⟨r, rfl⟩
theorem add_tab (hs : Int) (v : Value) (D : Froz.SD) (r : Ris D.2.2.place.toList) : Ris (Froz.addTx hs v D).2.2.place.toList ∧ (Froz.addTx hs v D).2.2.led = D.2.2.led := by
  have r1 := layNew_ris D.2.2 D.1 hs v r
  have l1 := layNew_led D.2.2 D.1 hs v
  unfold Froz.addTx
  have core : ∀ t : SetTable, Ris t.place.toList → t.led = D.2.2.led → ∀ ep es b, Ris (Froz.tailTx ep es t b).2.2.place.toList ∧ (Froz.tailTx ep es t b).2.2.led = D.2.2.led := fun t h1 h2 ep es b =>
    ⟨(tail_tab ep es t b h1).1, (tail_tab ep es t b h1).2.trans h2⟩
  refine core _ ?_ ?_ _ _ _
  · split
    · exact r1
    · exact r1
  · split
    · exact l1
    · exact l1

theorem add_there {a : Addr} {D : Froz.SD} {l : List Str} {k : Str} {u : Tok} {Q : Bool → Shared → Prop} (ho : s.heap.get? a = some (Froz.sObj "set" D)) (F : Froz.TxOk P w D l) (hk : k ∈ l) (hb : l.length < scanBound)
    (h : Q false s) : wpAny (model P w) A (setAddHashed a (.str k u) (hashStr w k)) Q E s := by
  obtain ⟨es, ep, t⟩ := D
  have e1 : (Froz.sObj "set" (es, ep, t)).data = .set es ep t := rfl
  have e2 : t.fits es.size = true := F.fit
  have e3 : ElemsOf (PySem.strKind P w) es.toList := F.el
  have e4 : es.size < scanBound := by
    have z : es.size = l.length := F.sz
    rw [z]
    exact hb
  have e5 : (PySem.strKind P w).is k (.str k u) = true := Froz.is_str k u
  unfold setAddHashed setAddHashedIn
  refine wpAny_holding (wpAny_bind (wpAny_setState_of ho e1 e2 ?_))
  dsimp only
  rw [byScan_of rfl e4 e3]
  simp only [↓reduceIte]
  unfold setAddByScan
  refine wpAny_bind (wpAny_bind (wpAny_rule (wpAny_bind (wpAny_setScan_of (knd := PySem.strKind P w) (k := k) e5 ho e1 e2 e3 ?_))))
  cases q : List.findIdx? (fun e => (PySem.strKind P w).is k e.2) es.toList with
  | some j =>
    dsimp only
    exact wpAny_pure (wpAny_pure h)
  | none =>
    obtain ⟨e, he, z⟩ := (F.mem k).mp hk
    have y := List.findIdx?_eq_none_iff.mp q e he
    rw [z] at y
    cases y
theorem add_txt {a : Addr} {l : List Str} {k : Str} {u : Tok} {Q : Bool → Shared → Prop} (R : TxSet P w s.heap a l) (hb : l.length + 1 < scanBound)
    (h : ∀ (b : Bool) (h' : Heap) (l' : List Str), Heap.SameBut a s.heap h' → TxSet P w h' a l' → (∀ x, x ∈ l' ↔ x ∈ l ∨ x = k) → l'.length ≤ l.length + 1 → Q b { s with heap := h' }) :
    wpAny (model P w) A (setAddHashed a (.str k u) (hashStr w k)) Q E s := by
  obtain ⟨D, ho, F, nd, r, ld⟩ := R
  by_cases hk : k ∈ l
  · refine add_there ho F hk (by omega) ?_
    refine h false s.heap l (Heap.SameBut.refl a s.heap) ⟨D, ho, F, nd, r, ld⟩ (fun x => ⟨.inl, fun z => z.elim id fun e => e ▸ hk⟩) (Nat.le_succ _)
  · refine Froz.add_x ho F hk hb ?_
    have ex : (s.heap.update a (fun _ => Froz.sObj "set" (Froz.addTx (hashStr w k) (.str k u) D))).get? a = some (Froz.sObj "set" (Froz.addTx (hashStr w k) (.str k u) D)) := Froz.get_upd _ ho rfl
    obtain ⟨t1, t2⟩ := add_tab (hashStr w k) (.str k u) D r
    refine h true _ (k :: l) (Heap.SameBut.update s.heap a _) ⟨_, ex, Froz.add_ok u F, List.nodup_cons.mpr ⟨hk, nd⟩, t1, ?_⟩ (fun x => ?_) (Nat.le_refl _)
    · rw [t2]
      exact ld
    · rw [List.mem_cons]
      exact Or.comm

theorem fill_txt {I : Addr} {fp wr : List Addr} {G : Array GenState → Array GenState → Prop} {n : Nat} {Pv : Nat → Value → Prop} {St : Nat → Shared → Prop} {R : Result → Shared → Prop}
    (W : WalksS P w A.in1 I fp wr G n Pv St) (S : Addr) (hS : S ∉ fp) (xs : List Str) (hn : xs.length = n) (hfew : n + 1 < scanBound) (hval : ∀ i v, Pv i v → ∃ t, v = .str (xs.getD i Str.empty) t) :
    ∀ (k i : Nat) (s : Shared), n - i = k → i ≤ n → St i s → (∃ l, TxSet P w s.heap S l ∧ (∀ x, x ∈ l ↔ x ∈ xs.take i) ∧ l.length ≤ i) →
      (∀ s' l, Moved (S :: wr) G s s' → TxSet P w s'.heap S l → (∀ x, x ∈ l ↔ x ∈ xs) → l.length ≤ n → R (.ok (.ret .none)) s') →
      codeAny (model P w) A (.builtin "set.update.loop" ⟨[.ref S, .ref I], []⟩) R s := by
  have nw : S ∉ wr := fun z => hS (W.sub _ z)
  have sub : ∀ b ∈ wr, b ∈ S :: wr := fun b hb => List.mem_cons_of_mem _ hb
  intro k
  induction k with
  | zero =>
    intro i s hk hi st ⟨l, T, m, len⟩ hR
    obtain rfl : i = n := by omega
    refine codeAny_builtin PyProof.Rows.F.entry_set_update_loop ?_
    rw [Around.under_plainId PyProof.Rows.F.plain_set_update_loop _]
    refine wpAny_bind (W.done s _ _ st fun s' mv => ?_)
    refine wpAny_pure (hR s' l (mv.mono sub) (T.same fun o e => mv.heap S o nw e) (fun x => ?_) len)
    rw [m x, ← hn, List.take_length]
  | succ k ih =>
    intro i s hk hi st ⟨l, T, m, len⟩ hR
    have hlt : i < n := by omega
    refine codeAny_builtin PyProof.Rows.F.entry_set_update_loop ?_
    rw [Around.under_plainId PyProof.Rows.F.plain_set_update_loop _]
    refine wpAny_bind (W.item i s _ _ hlt st fun v s' hv st' mv => ?_)
    obtain ⟨t, rfl⟩ := hval i v hv
    have T' : TxSet P w s'.heap S l := T.same fun o e => mv.heap S o nw e
    refine wpAny_bind (wpAny_holding ?_)
    unfold setAdd
    refine wpAny_holding (wpAny_bind ((PySem.strKind P w).pyHash (k := xs.getD i Str.empty) (strKind_is _ _ _ _) ?_))
    refine add_txt (s := { s' with toks := s'.toks + 1 }) T' (by omega) fun b h' l' hsb T2 m2 len2 => ?_
    have hg : xs[i]? = some (xs.getD i Str.empty) := by
      have : i < xs.length := by omega
      rw [List.getD_eq_getElem?_getD, List.getElem?_eq_getElem this]
      rfl
    refine wpAny_pure ⟨plainId_quiet PyProof.Rows.F.plain_set_update_loop _, ih (i + 1) _ (by omega) hlt (W.frame _ s' _ _ st' (Nat.le_succ _) fun b hb o e => ?_) ⟨l', T2, fun x => ?_, by omega⟩ fun s'' l2 mv'' T'' m'' len'' => ?_⟩
    · rw [hsb.2 b (fun z : b = S => hS (by rw [← z]; exact hb))]
      exact e
    · rw [m2 x, m x, List.take_succ, hg, List.mem_append]
      simp
    · refine hR s'' l2 (Moved.trans W.gtrans ((mv.mono sub).then_heap (Nat.le_succ _) fun b o hb e => ?_) mv'') T'' m'' len''
      rw [hsb.2 b (fun z : b = S => hb (by rw [z]; exact List.mem_cons_self))]
      exact e
end
end Ys
namespace Ys
open PySem PySem.Spec PyProof.Rows L2
section
variable {P : Program} {w : World} {A : Around} {E : Value → Shared → Prop} {s : Shared}
abbrev bare (w : World) : Obj := { cls := .type "set", dict := none, data := .set #[] 0 (.fresh 0 0 (!w.params.followText "set-order")) }
theorem none_from {h : Heap} {b : Addr} (z : h.objs.size ≤ b) : h.get? b = none := by
  cases q : h.get? b with
  | none => rfl
  | some o => exact absurd (Nat.lt_of_lt_of_le (Heap.lt_size q) z) (Nat.lt_irrefl _)
theorem bare_txt {h : Heap} {a : Addr} (e : h.get? a = some (bare w)) : TxSet P w h a [] := by
  refine ⟨(#[], 0, .fresh 0 0 (!w.params.followText "set-order")), e, Froz.TxOk.nil rfl, List.nodup_nil, List.Pairwise.nil, ?_⟩
  show _ ∨ (!w.params.followText "set-order") = true
  cases w.params.followText "set-order"
  · exact .inr rfl
  · exact .inl rfl
structure TxSrc (P : Program) (w : World) (T : String) (l : Addr) (xs : List Str) (h : Heap) : Prop where
  type : ∀ s' : Shared, (∀ b o, h.get? b = some o → s'.heap.get? b = some o) → s'.TypeIs (.ref l) T
  set : isSubtype (.type T) (.type "set") = pure false
  froz : isSubtype (.type T) (.type "frozenset") = pure false
  nd : (Value.type T == Value.type "dict") = false
  lt : l < h.objs.size
  iter : ∀ (A : Around) (s' : Shared) (E : Value → Shared → Prop) (Q : Value → Shared → Prop), (∀ b o, h.get? b = some o → s'.heap.get? b = some o) →
    (∀ it : Obj, (∀ A' : Around, A'.handled = none → l ≠ s'.heap.objs.size → ∃ (Pv : Nat → Value → Prop) (St : Nat → Heap → Prop),
        Walks P w A' s'.heap.objs.size [s'.heap.objs.size, l] [s'.heap.objs.size] xs.length Pv St ∧ (∀ i v, Pv i v → ∃ t, v = .str (xs.getD i Str.empty) t) ∧ St 0 (s'.heap.push it)) →
      Q (.ref s'.heap.objs.size) { s' with heap := s'.heap.push it }) →
    wpAny (model P w) A (pyIter (.ref l)) Q E s'
theorem src_list {l : Addr} {items : Array Value} {xs : List Str} {h : Heap} (hl : h.IsList l items) (hi : StrsAre items.toList xs) : TxSrc P w "list" l xs h where
  type := fun s' k => by
    obtain ⟨o, e, c, _⟩ := hl
    exact ⟨o, k _ _ e, c⟩
  set := F.sub_list_set
  froz := F.sub_list_frozenset
  nd := by decide
  lt := by
    obtain ⟨o, e, _⟩ := hl
    exact Heap.lt_size e
  iter := fun A s' E Q k hQ => by
    have hl' : s'.heap.IsList l items := by
      obtain ⟨o, e, r⟩ := hl
      exact ⟨o, k _ _ e, r⟩
    refine wpAny_pyIter_list hl' (hQ _ fun A' hA ne => ⟨fun i v => items[i]? = some v, fun i z => z.IsListIter s'.heap.objs.size l i ∧ z.IsList l items, ?_, fun i v hv => SS.strs_at hi i v (by rw [Array.getElem?_toList]; exact hv), ⟨⟨_, Heap.get?_push_size _ rfl, rfl, rfl⟩, hl'.push _⟩⟩)
    have e : xs.length = items.size := by rw [← StrsAre.len_eq hi, Array.length_toList]
    rw [e]
    exact Walks.list hA _ l ne items
theorem src_tuple {l : Addr} {items : Array Value} {xs : List Str} {h : Heap} (hl : h.IsTuple l items) (hi : StrsAre items.toList xs) : TxSrc P w "tuple" l xs h where
  type := fun s' k => by
    obtain ⟨o, e, c, _⟩ := hl
    exact ⟨o, k _ _ e, c⟩
  set := F.sub_tuple_set
  froz := F.sub_tuple_frozenset
  nd := by decide
  lt := by
    obtain ⟨o, e, _⟩ := hl
    exact Heap.lt_size e
  iter := fun A s' E Q k hQ => by
    have hl' : s'.heap.IsTuple l items := by
      obtain ⟨o, e, r⟩ := hl
      exact ⟨o, k _ _ e, r⟩
    refine wpAny_pyIter_tuple hl' (hQ _ fun A' hA ne => ⟨fun i v => items[i]? = some v, fun i z => z.IsTupleIter s'.heap.objs.size l i ∧ z.IsTuple l items, ?_, fun i v hv => SS.strs_at hi i v (by rw [Array.getElem?_toList]; exact hv), ⟨⟨_, Heap.get?_push_size _ rfl, rfl, rfl⟩, hl'.push _⟩⟩)
    have e : xs.length = items.size := by rw [← StrsAre.len_eq hi, Array.length_toList]
    rw [e]
    exact Walks.tuple hA _ l ne items

theorem make_txt {T : String} {l : Addr} {xs : List Str} {Q : Value → Shared → Prop} (hh : A.handled = none) (S : TxSrc P w T l xs s.heap) (few : xs.length + 1 < scanBound)
    (h : ∀ (h' : Heap) (tk : Nat) (l' : List Str), TxSet P w h' s.heap.objs.size l' → (∀ x, x ∈ l' ↔ x ∈ xs) → l'.length ≤ xs.length → (∀ b o, s.heap.get? b = some o → h'.get? b = some o) →
      Q (.ref s.heap.objs.size) { s with heap := h', toks := tk }) : wpAny (model P w) A (call (.type "set") [.ref l]) Q E s := by
  have a1 := F.called_set.made
  have a2 := F.called_set.sub
  have a3 := F.called_set.notType
  have a4 := F.called_set.canCreate
  have a5 := F.typeCall_set_1 (.ref l)
  obtain ⟨c, tl, a6⟩ := F.called_set.mro
  refine wpAny_call (codeAny_of_tree ?_)
  show wpAny _ _ (callAny (.type "set") _) _ _ _
  refine wpAny_pure ⟨Code.quiet_builtin _ (by decide +kernel), codeAny_builtin F.entry_type_call ?_⟩
  rw [Around.under_plain (weight_type_call_type "set" [.ref l] []) rfl]
  repeat (any_goals (first | assumption | wp_step))
  refine codeAny_mono (L2.code_set_led1 (.ref l) (E := E) (Q₁ := fun v z => v = .ref s.heap.objs.size ∧ z = { s with heap := s.heap.push (bare w) }) ⟨rfl, rfl⟩) fun r s1 hr => ?_
  cases r with
  | error e => exact hr
  | ok fl =>
    cases fl with
    | next => exact hr.elim
    | brk => exact hr.elim
    | cont => exact hr.elim
    | ret v =>
      obtain ⟨rfl, rfl⟩ := hr
      have b0 : (s.heap.push (bare w)).get? s.heap.objs.size = some (bare w) := Heap.get?_push_size _ rfl
      have b1 : Shared.TypeIs { s with heap := s.heap.push (bare w) } (.ref s.heap.objs.size) "set" := ⟨_, b0, rfl⟩
      have b2 := F.called_set.init.lookup
      have b3 := F.called_set.init.bind (.ref s.heap.objs.size)
      repeat (any_goals (first | assumption | wp_step))
      refine codeAny_mono (codeAny_call_builtin (R := wants (fun r z => r = .none ∧ ∃ h' tk l', z = { s with heap := h', toks := tk } ∧ TxSet P w h' s.heap.objs.size l' ∧ (∀ x, x ∈ l' ↔ x ∈ xs) ∧ l'.length ≤ xs.length ∧
          (∀ b o, s.heap.get? b = some o → h'.get? b = some o)) E) F.called_set.init.plain F.entry_set_init (check_set_init_1 b1 ?_)) fun r2 s2 hr2 => ?_
      · have k1 : ∀ b o, s.heap.get? b = some o → (s.heap.push (bare w)).get? b = some o := fun b o e => Heap.get?_push_of_some _ e
        have c1 : Shared.TypeIs { s with heap := s.heap.push (bare w) } (.ref l) T := S.type _ k1
        have c2 := S.set
        have c3 := S.froz
        have c4 := S.nd
        unfold Builtin.«set.__init__» noKeywords Builtin.Frozenset.updateFrom
        generalize hPI : pyIter = PI
        wp_walk
        subst hPI
        have hsz : (s.heap.push (bare w)).objs.size = s.heap.objs.size + 1 := Heap.size_push ..
        have lt := S.lt
        refine S.iter _ _ _ _ k1 fun it hit => ?_
        refine wpAny_bind (wpAny_runValue ?_)
        obtain ⟨Pv, St, W, hv, st⟩ := hit A.in1.in1.in1 (by simp [hh]) (by show l ≠ (s.heap.push (bare w)).objs.size; rw [hsz]; exact Nat.ne_of_lt (Nat.lt_succ_of_lt lt))
        have ns : s.heap.objs.size ∉ [(s.heap.push (bare w)).objs.size, l] := by
          rw [hsz]
          simp only [List.mem_cons, List.not_mem_nil, or_false, not_or]
          exact ⟨Nat.ne_of_lt (Nat.lt_succ_self _), Nat.ne_of_gt lt⟩
        refine fill_txt W.toS s.heap.objs.size ns xs rfl few hv (xs.length - 0) 0 _ (by omega) (Nat.zero_le _) st ⟨[], ?_, (fun x => by simp), Nat.zero_le _⟩ fun s' l' mv T' m len => ?_
        · exact bare_txt (Heap.get?_push_of_some _ b0)
        · obtain ⟨h', g', d', tk', os'⟩ := s'
          obtain rfl : g' = s.gens := mv.gens
          obtain rfl : d' = s.drawn := mv.drawn
          obtain rfl : os' = s.os := mv.os
          refine wpAny_pure (wpAny_pure ⟨rfl, h', tk', l', rfl, T', m, len, fun b o e => ?_⟩)
          have hb : b < s.heap.objs.size := Heap.lt_size e
          refine mv.heap b o ?_ (Heap.get?_push_of_some _ (Heap.get?_push_of_some _ e))
          simp only [List.mem_cons, List.not_mem_nil, or_false, not_or]
          refine ⟨Nat.ne_of_lt hb, ?_⟩
          show b ≠ (s.heap.push (bare w)).objs.size
          rw [hsz]
          exact Nat.ne_of_lt (Nat.lt_succ_of_lt hb)
      · cases r2 with
        | error e => exact hr2
        | ok f2 =>
          cases f2 with
          | next => exact hr2.elim
          | brk => exact hr2.elim
          | cont => exact hr2.elim
          | ret r =>
            obtain ⟨rfl, h', tk, l', rfl, T', m, len, k⟩ := hr2
            repeat (any_goals (first | assumption | wp_step))
            exact h _ _ _ T' m len k
end
end Ys
namespace Ys
open PySem PySem.Spec PyProof.Rows L2
section
variable {P : Program} {w : World} {A : Around} {E : Value → Shared → Prop} {s : Shared}
theorem txt_vals {es : List (Int × Value)} (h : ElemsOf (PySem.strKind P w) es) : ∀ e ∈ es, ∃ (x : Str) (t : Tok), e.2 = .str x t := fun e he => by
  obtain ⟨⟨k, hk, _⟩, _⟩ := h e he
  obtain ⟨t, q⟩ := Value.isStrOf_shape (x := k) (v := e.2) hk
  exact ⟨k, t, q⟩
def txtOf : Value → Str
  | .str x _ => x
  | _ => Str.empty
theorem strsAre_txt : ∀ {us : List Value}, (∀ u ∈ us, ∃ (x : Str) (t : Tok), u = .str x t) → StrsAre us (us.map txtOf)
  | [], _ => .nil
  | u :: us, h => by
    obtain ⟨x, t, rfl⟩ := h u List.mem_cons_self
    exact .cons x t (strsAre_txt fun v hv => h v (List.mem_cons_of_mem _ hv))
theorem perm_len : ∀ (l m : List Str), l.Nodup → (∀ x ∈ l, x ∈ m) → m.length ≤ l.length → m.Perm l
  | [], m, _, _, h => by
    have e : m = [] := List.length_eq_zero_iff.mp (Nat.le_zero.mp h)
    rw [e]
  | x :: l, m, nd, h, hl => by
    obtain ⟨n1, n2⟩ := List.nodup_cons.mp nd
    have hx : x ∈ m := h x List.mem_cons_self
    have p := List.perm_cons_erase hx
    have e : m.length = (m.erase x).length + 1 := by rw [p.length_eq, List.length_cons]
    refine p.trans (.cons x (perm_len l (m.erase x) n2 (fun y hy => ?_) (by rw [List.length_cons] at hl; omega)))
    have ne : y ≠ x := fun z => n1 (z ▸ hy)
    exact (List.mem_erase_of_ne ne).mpr (h y (List.mem_cons_of_mem _ hy))
theorem sort_txt {a : Addr} {l : List Str} {Q : Value → Shared → Prop} (hh : A.handled = none) (T : TxSet P w s.heap a l) (few : l.length < 64)
    (hQ : ∀ s' p (out : List Value) (c : Nat) (ys : List Str), (∀ b o, s.heap.get? b = some o → s'.heap.get? b = some o) → s'.gens = s.gens → s'.os = s.os → s.heap.objs.size ≤ p →
      s'.heap.get? p = some { cls := .type "list", data := .seq out.toArray c } → StrsAre out ys → ys.Perm l → sortedS ys = true → Q (.ref p) s') :
    wpAny (model P w) A (call (.builtin "sorted") [.ref a]) Q E s := by
  obtain ⟨⟨es, ep, t⟩, ho, F, nd, r, ld⟩ := T
  have fit : t.fits es.size = true := F.fit
  have sz : es.size = l.length := F.sz
  have el : ElemsOf (PySem.strKind P w) es.toList := F.el
  have vals := txt_vals el
  refine Calls.call_function_entry kind_sorted plain_sorted entry_sorted (args_sorted1 _) ?_
  unfold Builtin.«sorted»
  refine wpAny_bind (m := checkCount "sorted" 1 1 _) (wpAny_pure ?_)
  refine wpAny_bind (collect_set (A := A.in1) hh ⟨_, ho, rfl, rfl⟩ fit (by rw [sz]; unfold scanBound; omega) r ld fun s1 vs k1 hz g1 o1 pm => ?_)
  have hv : ∀ v ∈ vs, ∃ (x : Str) (t : Tok), v = .str x t := fun v hv => by
    obtain ⟨e, he, q⟩ := List.mem_map.mp (pm.mem_iff.mp hv)
    obtain ⟨x, t, z⟩ := vals e he
    exact ⟨x, t, by rw [← q, z]⟩
  have hS := strsAre_txt hv
  have hlen : vs.length = l.length := by rw [pm.length_eq, List.length_map, Array.length_toList, sz]
  -- the texts of the set's entries are l, in some order
  have pl : (vs.map txtOf).Perm l := by
    have p1 : (vs.map txtOf).Perm ((es.toList.map (·.2)).map txtOf) := pm.map txtOf
    have mem : ∀ x, x ∈ (es.toList.map (·.2)).map txtOf ↔ x ∈ l := fun x => by
      rw [F.mem x, List.map_map, List.mem_map]
      constructor
      · rintro ⟨e, he, q⟩
        obtain ⟨y, t, z⟩ := vals e he
        refine ⟨e, he, ?_⟩
        have : y = x := by
          have q' : txtOf e.2 = x := q
          rw [z] at q'
          exact q'
        rw [z, this]
        exact Froz.is_str x t
      · rintro ⟨e, he, q⟩
        obtain ⟨t, z⟩ := Value.isStrOf_shape (x := x) (v := e.2) q
        exact ⟨e, he, by show txtOf e.2 = x; rw [z]; rfl⟩
    have len : ((es.toList.map (·.2)).map txtOf).length = l.length := by rw [List.length_map, List.length_map, Array.length_toList, sz]
    refine p1.trans ?_
    exact perm_len l _ nd (fun x hx => (mem x).mpr hx) (Nat.le_of_eq len)
  refine wpAny_bind (wpAny_newList ?_ (by rw [hlen, sizeLine_eq]; omega))
  have hoL : (s1.heap.push (seqObj "list" vs.toArray 0)).get? s1.heap.objs.size = some (seqObj "list" vs.toArray 0) := Heap.get?_push_size _ rfl
  show wpAny _ _ _ _ _ { s1 with heap := s1.heap.push (seqObj "list" vs.toArray 0) }
  refine wpAny_bind (wpAny_holding (wpAny_call_entry slot_list_sort ⟨_, hoL, rfl⟩ entry_list_sort
    (list_sort_treeK strKind_oneLt (s := { s1 with heap := s1.heap.push (seqObj "list" vs.toArray 0) }) hoL hS.keysOf (fun v1 v2 rest e => keyKind_strs (by rw [← e]; exact hS)) (by rw [hlen]; exact few) fun st' hp hs => ⟨_, rfl, ?_⟩)
    (args_list_sort _)))
  obtain ⟨ys, b1, b2, b3⟩ := sorted_out_str hS hp hs
  obtain ⟨c, hc⟩ := sortedHeap_at (vs := vs) (out := (arrOf st').map (·.2)) hoL
  refine wpAny_pure ⟨_, rfl, hQ _ s1.heap.objs.size ((arrOf st').map (·.2)).toList c ys (fun b u e => ?_) g1 o1 hz (by rw [Array.toArray_toList]; exact hc) b1 (b2.trans pl) b3⟩
  have q := k1 b u e
  have hlt := Heap.lt_size q
  show (sortedHeap (s1.heap.push (seqObj "list" vs.toArray 0)) s1.heap.objs.size vs ((arrOf st').map (·.2))).get? b = some u
  rw [sortedHeap_old (Nat.ne_of_lt hlt) (by rw [size_push']; exact Nat.lt_succ_of_lt hlt)]
  exact Heap.get?_push_of_some _ q
end

/-! ### over the abstract heap -/
def TxO (P : Program) (w : World) (a : Addr) (l : List Str) : HO := .ext fun h => TxSet P w h a l
section
variable {X : Cx}
theorem txO_ok {P : Program} {w : World} {H : Hp} {h : Heap} {a : Addr} {l : List Str} (T : TxSet P w h a l) : ObjOk P w H h a (TxO P w a l) := by
  have ⟨D, e, _⟩ := T
  exact ⟨T, ⟨_, e⟩, fun h1 h2 p k => TxSet.same p k⟩
def rSetTx (K : PySem.W.Frag) (P : Program) (w : World) : List V → Hp → VK → Prop := fun vs H Q => ∃ (p : Addr) (xs : List Str), vs = [V.ref p] ∧ (SqL K H p (xs.map V.str) ∨ SqT K H p (xs.map V.str)) ∧ xs.length < 1000 ∧
  ∀ a l, (∀ x, x ∈ l ↔ x ∈ xs) → l.Nodup → l.length ≤ xs.length → H a = none → Q (.ref a) (upd H a (TxO P w a l))
theorem cr_setTx (hc : X.calm = true) : CallR X (.type "set") (rSetTx X.K X.prog X.w) := by
  intro pins s σ H vs us Q I r h
  obtain ⟨p, xs, rfl, hq, few, q⟩ := h
  rw [Vals.ref1 r]
  have fin : ∀ T, TxSrc X.prog X.w T p xs s.heap → wpAny (model X.prog X.w) X.A (call (.type "set") [.ref p]) (EP X pins σ Q) X.xe s := fun T S => by
    refine make_txt (I.ok.hd hc) S (by unfold scanBound; omega) fun h' tk l' T' m len k => ?_
    have nd : l'.Nodup := let ⟨_, _, _, nd, _⟩ := T'; nd
    exact ⟨.ref s.heap.objs.size, upd H s.heap.objs.size (TxO X.prog X.w s.heap.objs.size l'), I.laid (t' := tk) k (Nat.le_refl _) (txO_ok T'), rfl, q _ l' m nd len (I.hok.fresh (Nat.le_refl _))⟩
  rcases hq with hq | hq
  · obtain ⟨its, rv, pl, hz⟩ := I.list hq
    exact fin "list" (src_list pl.isList (by simpa using rv.strs))
  · obtain ⟨its, rv, pl, hz⟩ := I.tuple hq
    exact fin "tuple" (src_tuple pl (by simpa using rv.strs))
def rSortTx (P : Program) (w : World) : List V → Hp → VK → Prop := fun vs H Q => ∃ (a : Addr) (l : List Str), vs = [V.ref a] ∧ H a = some (TxO P w a l) ∧ l.length < 64 ∧
  ∀ (ys : List Str) (p : Addr), ys.Perm l → sortedS ys = true → H p = none → Q (.ref p) (upd H p (.lst (ys.map V.str)))
theorem cr_sortTx (hc : X.calm = true) : CallR X (.builtin "sorted") (rSortTx X.prog X.w) := by
  intro pins s σ H vs us Q I r h
  obtain ⟨a, l, rfl, ha, few, q⟩ := h
  rw [Vals.ref1 r]
  have T : TxSet X.prog X.w s.heap a l := (I.hok a _ ha).1
  refine sort_txt (I.ok.hd hc) T few fun s' p out c ys k g o hp hg hS pm so => ?_
  have hn : H p = none := I.hok.fresh hp
  have hlen : (ys.map V.str).length ≤ sizeLine := by rw [List.length_map, pm.length_eq, sizeLine_eq]; omega
  obtain ⟨h', g', d', tk', os'⟩ := s'
  obtain rfl : os' = s.os := o
  refine ⟨.ref p, upd H p (.lst (ys.map V.str)), I.call (h' := h') (g' := g') (d' := d') (t' := tk') (ch := []) (Un.laid k hp hn) (I.hok.laid k hp ⟨hlen, out, c, vals_of_strs hS, hg⟩) ?_ (fun _ z => nomatch z), rfl, q ys p pm so hn⟩
  obtain rfl : g' = s.gens := g
  exact I.bare
def rLenTx (P : Program) (w : World) : List V → Hp → VK → Prop := fun vs H Q => ∃ (a : Addr) (l : List Str), vs = [V.ref a] ∧ H a = some (TxO P w a l) ∧ l.length < 1000 ∧ Q (.int l.length) H
theorem cr_lenTx : CallR X (.builtin "len") (rLenTx X.prog X.w) := by
  intro pins s σ H vs us Q I r h
  obtain ⟨a, l, rfl, ha, few, q⟩ := h
  rw [Vals.ref1 r]
  have T : TxSet X.prog X.w s.heap a l := (I.hok a _ ha).1
  obtain ⟨⟨es, ep, t⟩, ho, F, nd, rs, ld⟩ := T
  have sz : es.size = l.length := F.sz
  refine call_len_set ho ⟨rfl, rfl, rfl⟩ rfl F.fit (by rw [sz]; omega) ⟨.int l.length, H, I.tok _, ⟨_, by rw [sz]⟩, q⟩
end

end Ys
namespace Ys
open PySem PySem.Spec PyProof.Rows L2
/-! ### data, dicts too -/
def kD : Key → PyData
  | .inl i => .int i
  | .inr x => .str x
mutual
inductive Dt (K : PySem.W.Frag) (H : Hp) : V → PyData → Prop
  | non : Dt K H .non .none
  | bl (b : Bool) : Dt K H (.bl b) (.bool b)
  | int (i : Int) : Dt K H (.int i) (.int i)
  | str (x : Str) : Dt K H (.str x) (.str x)
  | lst {a : Addr} {xs : List V} {ds : List PyData} : SqL K H a xs → Dts K H xs ds → Dt K H (.ref a) (.list ds)
  | tup {a : Addr} {xs : List V} {ds : List PyData} : SqT K H a xs → Dts K H xs ds → Dt K H (.ref a) (.tuple ds)
  | dct {a : Addr} {kvs : List (Key × V)} {ds : List (PyData × PyData)} : Rd H a (.dK kvs) → ds.map (·.1) = kvs.map (fun p => kD p.1) → Dts K H (kvs.map (·.2)) (ds.map (·.2)) → Dt K H (.ref a) (.dict ds)
inductive Dts (K : PySem.W.Frag) (H : Hp) : List V → List PyData → Prop
  | nil : Dts K H [] []
  | cons {v : V} {vs : List V} {d : PyData} {ds : List PyData} : Dt K H v d → Dts K H vs ds → Dts K H (v :: vs) (d :: ds)
end
section
variable {X : Cx} {pins : List (Addr × Obj)} {σ : L2.St} {H : Hp} {s : Shared}
def SysIn (K : PySem.W.Frag) : Prop := ∃ o, K.lookup sysModules = some o ∧ o.cls = .type "dict"
theorem sys_ne (I : Inv X pins σ H s) (S : SysIn X.K) {a : Addr} {u : HO} (h : Rd H a u) : a ≠ sysModules := by
  rintro rfl
  obtain ⟨o, e, _⟩ := S
  have n := (I.bs _ _ (I.mod.kin _ _ e)).2
  rcases h with h | ⟨_, h⟩
  · rw [n] at h; cases h
  · rw [n] at h; cases h
theorem sys_neL (I : Inv X pins σ H s) (S : SysIn X.K) {a : Addr} {xs : List V} (h : SqL X.K H a xs) : a ≠ sysModules := by
  rcases h with h | ⟨o, its, n, hk, hc, _⟩
  · exact sys_ne I S h
  · rintro rfl
    obtain ⟨o', e, c⟩ := S
    rw [hk] at e
    cases e
    rw [hc] at c
    exact absurd c (by decide)
theorem kD_reads {h : Heap} {k : Key} {v : Value} (e : keyIs k v = true) : Reads h v (kD k) [] := by
  rcases keyIs_shape e with ⟨i, t, rfl, rfl⟩ | ⟨x, t, rfl, rfl⟩
  · exact .int i t
  · exact .str x t
theorem keys_reads {h : Heap} : ∀ {es : List DictEntry} {kvs : List (Key × Value)} {ks : List PyData}, Pairs (mixKind X.prog X.w) es kvs → ks = kvs.map (fun p => kD p.1) → ReadsAll h (es.map (·.key)) ks []
  | _, _, _, .nil, e => by subst e; exact .nil
  | _, _, _, .cons a b r, e => by
    subst e
    exact .cons (kD_reads a) (keys_reads r rfl)
theorem pairs_vals : ∀ {es : List DictEntry} {kvs : List (Key × Value)}, Pairs (mixKind X.prog X.w) es kvs → es.map (·.val) = kvs.map (·.2)
  | _, _, .nil => rfl
  | _, _, .cons a b r => by rw [List.map_cons, List.map_cons, b, pairs_vals r]
theorem kv_vals : ∀ {kvs : List (Key × V)} {vs : List (Key × Value)}, KV kvs vs → Vals (kvs.map (·.2)) (vs.map (·.2))
  | _, _, .nil => .nil
  | _, _, .cons r t => .cons r.2 (kv_vals t)
theorem kv_keys : ∀ {kvs : List (Key × V)} {vs : List (Key × Value)}, KV kvs vs → kvs.map (fun p => kD p.1) = vs.map (fun p => kD p.1)
  | _, _, .nil => rfl
  | _, _, .cons r t => by rw [List.map_cons, List.map_cons, r.1, kv_keys t]
theorem size_snd : ∀ ds : List (PyData × PyData), sizeOf (ds.map (·.2)) ≤ sizeOf ds
  | [] => Nat.le_refl _
  | (k, v) :: ds => by
    have ih := size_snd ds
    simp only [List.map_cons, List.cons.sizeOf_spec, Prod.mk.sizeOf_spec]
    omega
mutual
theorem Dt.reads (I : Inv X pins σ H s) (S : SysIn X.K) : ∀ (d : PyData) (v : V) (u : Value), Dt X.K H v d → RelV v u → ∃ as, Reads s.heap u d as ∧ sysModules ∉ as
  | .none, _, _, h, r => by
    cases h
    cases r
    exact ⟨_, .none, by simp⟩
  | .bool b, _, _, h, r => by
    cases h
    cases r
    exact ⟨_, .bool b, by simp⟩
  | .int i, _, _, h, r => by
    cases h
    obtain ⟨t, rfl⟩ := r
    exact ⟨_, .int i t, by simp⟩
  | .str x, _, _, h, r => by
    cases h
    obtain ⟨t, rfl⟩ := r
    exact ⟨_, .str x t, by simp⟩
  | .list ds, _, _, h, r => by
    cases h with
    | lst hs ha =>
      cases r
      have ne := sys_neL I S hs
      obtain ⟨its, rv, ⟨o, n, ho, hc, _, hd⟩, _⟩ := I.list hs
      obtain ⟨as, hr, na⟩ := Dts.reads I S ds _ its ha rv
      exact ⟨_, .list ho hc hd hr, fun z => (List.mem_cons.mp z).elim (fun e => ne e.symm) na⟩
  | .tuple ds, _, _, h, r => by
    cases h with
    | tup hs ha =>
      cases r
      obtain ⟨its, rv, ⟨o, ho, hc, n, hd⟩, _⟩ := I.tuple hs
      obtain ⟨as, hr, na⟩ := Dts.reads I S ds _ its ha rv
      exact ⟨_, .tuple ho hc hd hr, na⟩
  | .dict ds, _, _, h, r => by
    cases h with
    | dct hs hk ha =>
      cases r
      have ne := sys_ne I S hs
      obtain ⟨_, _, vs, rel, o, es, ep, ho, hx, hd, _, hp, _⟩ := dk_rd I.hok hs
      obtain ⟨as, hr, na⟩ := Dts.reads I S (ds.map (·.2)) _ (vs.map (·.2)) ha (kv_vals rel)
      refine ⟨_, .dict ho hx.1 hd (keys_reads hp (hk.trans (kv_keys rel))) (by rw [pairs_vals hp]; exact hr), fun z => ?_⟩
      exact (List.mem_append.mp z).elim (fun e => ne (List.mem_singleton.mp e).symm) na
termination_by d => sizeOf d
decreasing_by
  · simp only [PyData.list.sizeOf_spec]; omega
  · simp only [PyData.tuple.sizeOf_spec]; omega
  · have := size_snd ds
    simp only [PyData.dict.sizeOf_spec]; omega
theorem Dts.reads (I : Inv X pins σ H s) (S : SysIn X.K) : ∀ (ds : List PyData) (vs : List V) (us : List Value), Dts X.K H vs ds → Vals vs us → ∃ as, ReadsAll s.heap us ds as ∧ sysModules ∉ as
  | [], _, _, h, r => by
    cases h
    cases r
    exact ⟨_, .nil, by simp⟩
  | d :: ds, _, _, h, r => by
    cases h with
    | cons h1 h2 =>
      cases r with
      | cons r1 r2 =>
        obtain ⟨as, q1, n1⟩ := Dt.reads I S d _ _ h1 r1
        obtain ⟨bs, q2, n2⟩ := Dts.reads I S ds _ _ h2 r2
        exact ⟨_, .cons q1 q2, fun z => (List.mem_append.mp z).elim n1 n2⟩
termination_by ds => sizeOf ds
decreasing_by
  · simp only [List.cons.sizeOf_spec]; omega
  · simp only [List.cons.sizeOf_spec]; omega
end
/-! data without dicts -/
mutual
theorem Dt.dp {K : PySem.W.Frag} : ∀ (d : PyData) (v : V), d.canLay0 = true → Dt K H v d → Dp K H v d
  | .none, _, _, h => by cases h; exact .non
  | .bool b, _, _, h => by cases h; exact .bl b
  | .int i, _, _, h => by cases h; exact .int i
  | .str x, _, _, h => by cases h; exact .str x
  | .list ds, _, c, h => by
    cases h with
    | lst hs ha => exact .lst hs (Dts.dp ds _ (by simpa only [PyData.canLay0] using c) ha)
  | .tuple ds, _, c, h => by
    cases h with
    | tup hs ha => exact .tup hs (Dts.dp ds _ (by simpa only [PyData.canLay0] using c) ha)
  | .dict _, _, c, _ => by simp [PyData.canLay0] at c
theorem Dts.dp {K : PySem.W.Frag} : ∀ (ds : List PyData) (vs : List V), PyData.canLayAll0 ds = true → Dts K H vs ds → DpAll K H vs ds
  | [], _, _, h => by cases h; exact .nil
  | d :: ds, _, c, h => by
    cases h with
    | cons h1 h2 =>
      have c' : (d.canLay0 && PyData.canLayAll0 ds) = true := by simpa only [PyData.canLayAll0] using c
      obtain ⟨c1, c2⟩ := Bool.and_eq_true_iff.mp c'
      exact .cons (Dt.dp d _ c1 h1) (Dts.dp ds _ c2 h2)
end
end

/-! ### repr -/
section
variable {X : Cx}
def rRepr (K : PySem.W.Frag) : List V → Hp → VK → Prop := fun vs H Q => ∃ (x : V) (d : PyData), vs = [x] ∧ Dt K H x d ∧ d.showable = true ∧ d.depth ≤ 60 ∧ d.shown.length ≤ sizeLine ∧ Q (.str d.shown) H
theorem cr_repr (hg : X.A.guards = some []) (S : SysIn X.K) (hu : X.A.units + 64 < cLine) : CallR X (.builtin "repr") (rRepr X.K) := by
  intro pins s σ H vs us Q I r h
  obtain ⟨x, d, rfl, hd, sh, dp, sz, q⟩ := h
  obtain ⟨u, rfl, rx⟩ := vals1 r
  obtain ⟨as, hr, na⟩ := Dt.reads I S d x u hd rx
  cases x with
  | non =>
    cases rx; cases hd
    simp only [PyData.shown] at q
    exact PySem.P.repr_of_none ⟨.str _, H, I.tok _, ⟨_, rfl⟩, q⟩
  | bl b =>
    cases rx; cases hd
    simp only [PyData.shown] at q
    exact PySem.P.repr_of_bool ⟨.str _, H, I.tok _, ⟨_, rfl⟩, q⟩
  | int i =>
    obtain ⟨t, rfl⟩ := rx; cases hd
    simp only [PyData.shown] at q
    have hz : i.natAbs.log2 < 1920 := by simpa [PyData.showable] using sh
    exact PySem.P.repr_of_int hz ⟨.str _, H, I.tok _, ⟨_, rfl⟩, q⟩
  | str z =>
    obtain ⟨t, rfl⟩ := rx; cases hd
    simp only [PyData.shown] at q sz
    exact PySem.P.repr_of_str ⟨.str _, H, I.tok _, ⟨_, rfl⟩, q⟩ sz
  | byt _ => cases hd
  | flt _ => cases hd
  | ty _ => cases hd
  | ref a =>
    cases rx
    refine repr_of_reads' hr sh (fun _ => na) hg (by omega) (fun _ _ e => e) (fun h' u tk k => ?_) sz
    exact ⟨.str _, H, I.kept (t' := tk) k, ⟨_, rfl⟩, q⟩
end

/-! ### a def that is told that nothing is being shown -/
structure FnG (P : Program) (w : World) (K : PySem.W.Frag) (mg : Str → Option Value) (base : Heap) (CX : CXT) (k : Nat) (f : Addr) (fd : FuncData) (ps : List Str) (sp : Sp) : Prop where
  len : ∀ vs H Q E, sp vs H Q E → vs.length = ps.length
  run : ∀ (A : Around) (outer : List Env) (s : Shared) (H : Hp) (args : Args) (us : List Value) (vs : List V) (Q : VK) (E : XK), A.guards = some [] → Room k A → Env0 P w K mg base A outer s H → BindsTo s fd args (ps.zip us) → Vals vs us → sp vs H Q E →
    codeAny (model P w) A (.call (.ref f) args) (CR CX outer P w H s Q E) s
theorem FnOk.g {P : Program} {w : World} {K : PySem.W.Frag} {mg : Str → Option Value} {base : Heap} {CX : CXT} {k : Nat} {f : Addr} {fd : FuncData} {ps : List Str} {sp : Sp} (F : FnOk P w K mg base CX k f fd ps sp) : FnG P w K mg base CX k f fd ps sp :=
  ⟨F.len, fun A outer s H args us vs Q E _ => F.run A outer s H args us vs Q E⟩
end Ys
namespace Ys
open PySem PySem.Spec PyProof.Rows L2
section
variable {P : Program} {w : World} {K : PySem.W.Frag} {mg : Str → Option Value} {base : Heap} {x qual : Str} {params : Arguments} {body : List Stmt} {scope : Scope} {dvs : List V} {kws : List (Str × V)} {f : Addr} {fd : FuncData}
theorem okG {CX : CXT} {N ps : List Str} {k : Nat} {sp : Sp} (F : FunD K x qual params body scope dvs kws f fd) (S : FnScope N ps scope) (len : ∀ vs H Q E, sp vs H Q E → vs.length = ps.length)
    (hb : ∀ (cdv : Value) (A : Around) (outer : List Env) (s : Shared) (H : Hp) (vs : List V) (Q : VK) (E : XK), A.guards = some [] → Room k (A.deeper (envOfC qual scope s.heap.objs.size f cdv)) → sp vs H Q E →
      ∃ t, PSs (cxOf CX P w K mg base N qual scope f cdv A outer s H E) body t ∧ t { nx := fun _ H' => Q .non H', rt := Q } (start N vs) H) : FnG P w K mg base CX (k + 1) f fd ps sp := by
  obtain ⟨oc, od, dV, kV, doc, pm, an, cdv, ct, osl, rfl, lk, hcd, _, _⟩ := F.ex
  refine ⟨len, fun A outer s H args us vs Q E hg hr e0 hbd r hsp => ?_⟩
  have KX : K.In s.heap := e0.mod.kin.keeps fun b o e => (e0.bs b o e).1
  have lim : s.heap.NoLimit := e0.mod.nolimit.keeps fun b o e => (e0.bs b o e).1
  refine codeAny_call_function hr.depth (KX _ _ lk) rfl S.co S.gen rfl (PySem.W.codeRec_of KX hcd) (hbd _ _ _ _ (wpAny_newFunctionEnv_cells S.kind (fun y hy => ?_) fun env he s1 z => ?_))
  · rcases S.par y.1 (List.of_mem_zip (show (y.1, y.2) ∈ ps.zip us from hy)).1 with q | q
    · exact .inl q
    · exact .inr ⟨q, PySem.W.cellsFrom_some _ _ _ (.inl q)⟩
  · subst he
    refine ⟨lim.keeps z.toInCall.keep, codeAny_func ?_⟩
    obtain ⟨t, ht, hq⟩ := hb cdv A outer s H vs Q E hg (hr.deeper _) hsp
    have I : Inv (cxOf CX P w K mg base N qual scope f cdv A outer s H E) [] (start N vs) H s1 := inv_start S hr.hd e0 (len _ _ _ _ hsp) r z
    refine wpAny_mono (ht.run [] s1 (start N vs) H _ I hq) (fun fl s' hs => ?_) fun e s' hs => hs
    cases fl with
    | ret u => exact let ⟨v, σ', H', J, rv, q⟩ := hs; ⟨v, H', J.os, J.bare, J.base, J.hok, rv, q⟩
    | next => exact let ⟨σ', H', J, q⟩ := hs; ⟨.non, H', J.os, J.bare, J.base, J.hok, rfl, q⟩
    | brk => exact let ⟨_, _, _, q⟩ := hs; q.elim
    | cont => exact let ⟨_, _, _, q⟩ := hs; q.elim
end

theorem law_callG {P : Program} {w : World} {K : PySem.W.Frag} {mg mb : Str → Option Value} {CX : CXT} {k : Nat} {fa a : Addr} {fd : FuncData} {x : Str} {sp : Sp} {s1 : Shared} {vs : List Value} {ns : List Int}
    (KX : K.In s1.heap) (hns : s1.heap.Ns mainGlobals mg) (hb : s1.heap.Ns builtinsNs mb) (hbb : ∀ x : Str, x ≠ "__name__" → mb x = bootBuiltins x) (hlim : s1.heap.NoLimit) (hg : s1.gens = #[])
    (ha : s1.heap.get? a = some { cls := .type "list", data := .seq vs.toArray }) (hi : IntsAre vs ns) (hl : ns.length ≤ sizeLine) (hr : Room k callerA)
    (F : ∀ base : Heap, K.In base → base.Ns mainGlobals mg → FnG P w K mg base CX k fa fd [x] sp) (hbind : ∀ (s : Shared) (u : Value), BindsTo s fd ⟨[u], []⟩ [(x, u)])
    (hsp : ∀ H : Hp, Only H → SqL K H a (ns.map V.int) → sp [.ref a] H (fun v _ => v = .bl true) fun _ _ _ => False) (hCX : ∀ H e s', CX [] H s1 (fun _ _ _ => False) e s' → False) :
    codeAny (model P w) callerA (.call (.ref fa) ⟨[.ref a], []⟩) (fun r s' => r = .ok (.ret (.bool true)) ∧ OldK s1.heap s'.heap ∧ s'.os = s1.os ∧ AllBare s'.gens) s1 := by
  have rv := vals_ints hi
  have len := hi.length
  -- what is tracked: the script, where the written part does not hold it
  obtain ⟨H, hO, hS, hok, hA, hK⟩ : ∃ H : Hp, Only H ∧ SqL K H a (ns.map V.int) ∧ HOk P w H s1.heap ∧ (∀ b u, H b = some u → b = a) ∧ (∀ u, H a = some u → K.lookup a = none) := by
    cases hk : K.lookup a with
    | some o =>
      have e := KX a o hk
      rw [ha] at e
      cases e
      exact ⟨fun _ => none, fun _ => .inl rfl, .inr ⟨_, vs.toArray, _, hk, rfl, rfl, rfl, by rw [List.size_toArray, len]; exact hl, by simpa using rv⟩, (fun b u (z : (none : Option HO) = some u) => by cases z), (fun b u (z : (none : Option HO) = some u) => by cases z), (fun u (z : (none : Option HO) = some u) => by cases z)⟩
    | none =>
      have at_ : ∀ b u, (if b = a then some (HO.frz { cls := .type "list", data := .seq vs.toArray } (.lst (ns.map V.int))) else none) = some u → b = a ∧ u = .frz { cls := .type "list", data := .seq vs.toArray } (.lst (ns.map V.int)) := fun b u z => by
        by_cases c : b = a
        · rw [if_pos c] at z
          exact ⟨c, (Option.some.inj z).symm⟩
        · rw [if_neg c] at z
          cases z
      refine ⟨fun b => if b = a then some (.frz { cls := .type "list", data := .seq vs.toArray } (.lst (ns.map V.int))) else none, fun b => ?_, .inl (.inr ⟨_, if_pos rfl⟩), fun b u z => ?_, fun b u z => (at_ b u z).1, fun _ _ => rfl⟩
      · by_cases c : b = a
        · exact .inr ⟨_, _, if_pos c⟩
        · exact .inl (if_neg c)
      · obtain ⟨rfl, rfl⟩ := at_ b u z
        exact ⟨ha, by rw [List.length_map]; exact hl, vs, _, rv, ha⟩
  have free : ∀ {b : Addr} {o : Obj} {es : Array DictEntry} {ep : Nat}, s1.heap.get? b = some o → o.data = .dict es ep → H b = none := fun {b o es ep} e d => by
    cases q : H b with
    | none => rfl
    | some u =>
      obtain rfl := hA b u q
      rw [ha] at e
      cases e
      exact nomatch (show Data.seq vs.toArray _ = Data.dict es ep from d)
  have ns_ : ∀ {b : Addr} {m : Str → Option Value}, s1.heap.Ns b m → (hidT s1.heap H).Ns b m := fun {b m} ⟨o, es, ep, e, d, r⟩ => ⟨o, es, ep, hidT_get e (free e d), d, r⟩
  have kb : K.In (hidT s1.heap H) := fun b o e => hidT_get (KX b o e) (by
    cases q : H b with
    | none => rfl
    | some u =>
      obtain rfl := hA b u q
      rw [hK u q] at e
      cases e)
  have md : Mod K mg (hidT s1.heap H) := ⟨kb, ns_ hns, ⟨mb, ns_ hb, hbb⟩, let ⟨mc, h1, h2⟩ := hlim; ⟨mc, ns_ h1, h2⟩⟩
  have e0 : Env0 P w K mg (hidT s1.heap H) callerA [] s1 H := ⟨rfl, md, fun b o e => of_hidT e, Nat.le_of_eq (hidT_size _ _), trivial, fun b hb => absurd (show b ∈ ([] : List Addr) from hb) (by simp), hok, .of_eq hg⟩
  refine codeAny_mono ((F _ kb (ns_ hns)).run callerA [] s1 H ⟨[.ref a], []⟩ [.ref a] [.ref a] _ _ rfl hr e0 (hbind s1 (.ref a)) (.cons rfl .nil) (hsp H hO hS)) fun r s' h => ?_
  cases r with
  | error e => exact (hCX H e s' h).elim
  | ok fl =>
    cases fl with
    | next => exact False.elim h
    | brk => exact False.elim h
    | cont => exact False.elim h
    | ret u =>
      obtain ⟨v, H', os, bare, un, hok', r', q⟩ := h
      obtain rfl : v = .bl true := q
      obtain rfl : u = Value.bool true := r'
      refine ⟨rfl, OldK.of_keep fun b o e => ?_, os, bare⟩
      cases q : H b with
      | none => exact un.keep b o e q (fun z => absurd (show b ∈ ([] : List Addr) from z) (by simp)) (by simp)
      | some u =>
        rcases hO b with z | ⟨ob, xs, z⟩
        · rw [q] at z; cases z
        · obtain ⟨e1, _⟩ := hok b _ z
          obtain ⟨e2, _⟩ := hok' b _ (un.frzs b ob _ z)
          rw [e] at e1
          cases e1
          exact e2

theorem walk_ofG {l : PySem.W.OpenLaw} {n k : Nat} {q : Program} {loose : List Str} {XP : (Str → Option Value) → Heap → Prop} {YP : World → Heap → Prop} {d : DefRec} {CX : World → CXT} {x : Str}
    (hn : l.most = some n) (hn2 : n ≤ sizeLine) (hdf : d.params.defaults = []) (hr : Room k callerA)
    (F : ∀ (w : World) (mg : Str → Option Value) (fa : Addr) (h : Heap), YP w h → h.Ns mainGlobals mg → mg d.name = some (.ref fa) →
      ∃ (K : PySem.W.Frag) (fd : FuncData) (sp : Sp), K.In h ∧ (∀ (s : Shared) (u : Value), BindsTo s fd ⟨[u], []⟩ [(x, u)]) ∧
        (∀ (H : Hp) (a : Addr) (ns : List Int), ns.length ≤ n → Only H → SqL K H a (ns.map V.int) → sp [.ref a] H (fun v _ => v = .bl true) fun _ _ _ => False) ∧
        ∀ base : Heap, K.In base → base.Ns mainGlobals mg → FnG l.prog w K mg base (CX w) k fa fd [x] sp)
    (hCX : ∀ (w : World) (H : Hp) (s : Shared) (e : Value) (s' : Shared), CX w [] H s (fun _ _ _ => False) e s' → False) :
    PySem.W.WalkO q loose XP YP l.row.toRowW d [] (fun f vs => PySem.call f vs) := by
  refine Att.attach_call hn hdf fun w s0 s1 mg mb fa o pm cd doc a vs ns G Y ho hd hcd hmg hobj hints hlen hg => ?_
  obtain ⟨K, fd, sp, KX, hb, hsp, hF⟩ := F w mg fa _ Y G.T.g hmg
  exact law_callG KX G.T.g G.T.b G.T.builtins G.T.nolimit hg hobj hints (Nat.le_trans hlen hn2) hr hF hb (fun H hO hS => hsp H a ns hlen hO hS) fun H e s' => hCX w H s1 e s'

/-! ### the Hook: any look at the written part, which holds the table of modules too -/
def obsY (fb : PySem.W.Frag → Bool) (fn : List He.DefD) (K : PySem.W.Frag) : He.AlD := (fb K && fn.all fun d => d.ok K, fn.map fun d => He.fnW K d.at_)
def SaysY (fb : PySem.W.Frag → Bool) (fn : List He.DefD) (K : PySem.W.Frag) : Prop := obsY fb fn K = He.valD fn
def frY (n : Nat) (g : Addr → Option Obj) : PySem.W.Frag := He.frG g (sysModules :: He.asD g n)
def hookY (n : Nat) (fb : PySem.W.Frag → Bool) (fn : List He.DefD) : PySem.W.Hook where
  α := He.AlD
  obs := fun s => obsY fb fn (frY n s.heap.get?)
  val := fun _ => He.valD fn
  says := fun _ h => ∃ K : PySem.W.Frag, K.In h ∧ SaysY fb fn K
  of := fun _ _ e => ⟨_, He.frG_in, e⟩
  keeps := fun _ _ _ ⟨K, hK, c⟩ k => ⟨K, PySem.W.Frag.In.keeps hK k, c⟩
def obY (n : Nat) (fb : PySem.W.Frag → Bool) (fn : List He.DefD) (s : PySem.W.SharedT) : He.AlD := obsY fb fn (frY n (HandSHeadRun.getT s))
theorem obY_eq {n : Nat} {fb : PySem.W.Frag → Bool} {fn : List He.DefD} (s : PySem.W.SharedT) : obY n fb fn s = (hookY n fb fn).obs s.abs := by
  have e : HandSHeadRun.getT s = s.abs.heap.get? := funext (HandSHeadRun.getT_eq s)
  unfold obY
  rw [e]
  rfl
section
variable {fb : PySem.W.Frag → Bool} {fn : List He.DefD} {K : PySem.W.Frag}
theorem SaysY.look (c : SaysY fb fn K) : fb K = true := (He.ba (show (fb K && fn.all fun d => d.ok K) = true from congrArg (fun z : He.AlD => z.1) c)).1
theorem SaysY.def_ (c : SaysY fb fn K) (i : Nat) {d : He.DefD} (h : fn[i]? = some d := by rfl) : ∃ fd, FunD K d.name d.qual d.params d.body d.scope (d.dvs K) (d.kws K) (He.fAd K d.at_) fd := by
  have c2 := (He.ba (show (fb K && fn.all fun d => d.ok K) = true from congrArg (fun z : He.AlD => z.1) c)).2
  have e : (fn.map fun d => He.fnW K d.at_)[i]? = (fn.map He.DefD.val)[i]? := by rw [show fn.map (fun d => He.fnW K d.at_) = fn.map He.DefD.val from congrArg (fun z : He.AlD => z.2) c]
  rw [List.getElem?_map, List.getElem?_map, h] at e
  exact He.DefD.funD (Option.some.inj e) (List.all_eq_true.mp c2 d (List.mem_of_getElem? h))
theorem sysB_ok (h : sysB K = true) : SysIn K := by
  unfold sysB at h
  cases q : K.lookup sysModules with
  | none => rw [q] at h; cases h
  | some o =>
    rw [q] at h
    exact ⟨o, q, eq_of_beq h⟩
end
end Ys
namespace Ys
open PySem PySem.Spec PyProof.Rows L2
/-! ### the state: G is known and stays, M may change -/
structure Zp (G : Hp) (M : List (Addr × HO)) (H : Hp) : Prop where
  sub : ∀ a o, G a = some o → H a = some o
  own : ∀ (i : Nat) p o, M[i]? = some (p, o) → H p = some o ∧ G p = none
  nd : (M.map (·.1)).Nodup
section
variable {G G0 G1 H H1 : Hp} {M M1 : List (Addr × HO)} {p a : Addr} {o o1 : HO} {K : PySem.W.Frag} {v : V} {d : PyData} {xs vs : List V} {ds : List PyData}
theorem Zp.free (z : Zp G M H) (h : H p = none) : G p = none := by
  cases q : G p with
  | none => rfl
  | some o => rw [z.sub p o q] at h; cases h
theorem Zp.ne (z : Zp G M H) (h : H p = none) {i : Nat} {q : Addr} (e : M[i]? = some (q, o)) : q ≠ p := by
  rintro rfl
  rw [(z.own i q o e).1] at h
  cases h
theorem Same.new (h : G p = none) : Same G (upd G p o) := fun b u e => by
  rw [upd_ne (ne_of_none e h)]
  exact e
theorem Zp.new (z : Zp G M H) (h : H p = none) (o : HO) : Zp (upd G p o) M (upd H p o) where
  sub := fun a u e => by
    by_cases c : a = p
    · subst c
      rw [upd_same] at e ⊢
      exact e
    · rw [upd_ne c] at e ⊢
      exact z.sub a u e
  own := fun i q u e => by
    have ne := z.ne h e
    rw [upd_ne ne, upd_ne ne]
    exact z.own i q u e
  nd := z.nd
theorem Zp.add (z : Zp G M H) (h : H p = none) (o : HO) : Zp G (M ++ [(p, o)]) (upd H p o) where
  sub := fun a u e => by
    rw [upd_ne (ne_of_none (z.sub a u e) h)]
    exact z.sub a u e
  own := fun i q u e => by
    by_cases c : i < M.length
    · rw [List.getElem?_append_left c] at e
      rw [upd_ne (z.ne h e)]
      exact z.own i q u e
    · rw [List.getElem?_append_right (by omega)] at e
      have e0 : i - M.length = 0 := by
        cases n : i - M.length with
        | zero => rfl
        | succ k => rw [n] at e; simp at e
      rw [e0] at e
      obtain ⟨rfl, rfl⟩ : p = q ∧ o = u := by simpa using e
      exact ⟨upd_same, z.free h⟩
  nd := by
    rw [List.map_append, List.nodup_append]
    refine ⟨z.nd, by simp, fun x hx y hy => ?_⟩
    obtain ⟨⟨q, u⟩, hq, rfl⟩ := List.mem_map.mp hx
    obtain rfl : y = p := by simpa using hy
    obtain ⟨i, hi⟩ := List.getElem?_of_mem hq
    exact z.ne h hi
theorem Zp.at_ (z : Zp G M H) (i : Nat) (e : M[i]? = some (p, o)) : H p = some o := (z.own i p o e).1
theorem Zp.put (z : Zp G M H) (i : Nat) (e : M[i]? = some (p, o)) (o1 : HO) : Zp G (M.set i (p, o1)) (upd H p o1) where
  sub := fun a u q => by
    have n := (z.own i p o e).2
    rw [upd_ne (ne_of_none q n)]
    exact z.sub a u q
  own := fun j q u ej => by
    by_cases c : j = i
    · subst c
      rw [List.getElem?_set_self (List.getElem?_eq_some_iff.mp e).1] at ej
      obtain ⟨rfl, rfl⟩ : p = q ∧ o1 = u := by simpa using ej
      exact ⟨upd_same, (z.own j p o e).2⟩
    · rw [List.getElem?_set_ne (fun h => c h.symm)] at ej
      have ne : q ≠ p := by
        rintro rfl
        have hi := (List.getElem?_eq_some_iff.mp e).1
        have hj := (List.getElem?_eq_some_iff.mp ej).1
        have e1 : (M.map (·.1))[i]? = some q := by rw [List.getElem?_map, e]; rfl
        have e2 : (M.map (·.1))[j]? = some q := by rw [List.getElem?_map, ej]; rfl
        exact c ((List.getElem?_inj (by simpa using hj) z.nd).mp (e2.trans e1.symm))
      rw [upd_ne ne]
      exact z.own j q u ej
  nd := by
    have e1 : ((M.set i (p, o1)).map (·.1)) = M.map (·.1) := by
      rw [List.map_set]
      apply List.ext_getElem?
      intro j
      by_cases c : j = i
      · subst c
        have hi := (List.getElem?_eq_some_iff.mp e).1
        rw [List.getElem?_set_self (by simpa using hi), List.getElem?_map, e]
        rfl
      · rw [List.getElem?_set_ne (fun h => c h.symm)]
    rw [e1]
    exact z.nd
theorem Zp.fix (z : Zp G (M ++ [(p, o)]) H) : Zp (upd G p o) M H := by
  have e : (M ++ [(p, o)])[M.length]? = some (p, o) := by simp
  obtain ⟨h1, h2⟩ := z.own _ p o e
  have nd := z.nd
  rw [List.map_append, List.nodup_append] at nd
  refine ⟨fun a u q => ?_, fun i q u ei => ?_, nd.1⟩
  · by_cases c : a = p
    · subst c
      rw [upd_same] at q
      rw [h1]
      exact q
    · rw [upd_ne c] at q
      exact z.sub a u q
  · have hi := (List.getElem?_eq_some_iff.mp ei).1
    have ne : q ≠ p := by
      have := nd.2.2 q (List.mem_map.mpr ⟨(q, u), List.mem_of_getElem? ei, rfl⟩) p (by simp)
      exact this
    rw [upd_ne ne]
    exact z.own i q u (by rw [List.getElem?_append_left hi]; exact ei)
theorem Zp.cut (z : Zp G (M ++ M1) H) : Zp G M H where
  sub := z.sub
  own := fun i q u e => z.own i q u (by rw [List.getElem?_append_left (List.getElem?_eq_some_iff.mp e).1]; exact e)
  nd := by
    have nd := z.nd
    rw [List.map_append, List.nodup_append] at nd
    exact nd.1
theorem Zp.seqL (z : Zp G M H) (h : SqL K G a xs) : SqL K H a xs := by
  rcases h with (h | ⟨o, h⟩) | h
  · exact .inl (.inl (z.sub _ _ h))
  · exact .inl (.inr ⟨o, z.sub _ _ h⟩)
  · exact .inr h
theorem Zp.seqT (z : Zp G M H) (h : SqT K G a xs) : SqT K H a xs := by
  rcases h with (h | ⟨o, h⟩) | h
  · exact .inl (.inl (z.sub _ _ h))
  · exact .inl (.inr ⟨o, z.sub _ _ h⟩)
  · exact .inr h
theorem upL (s : Same G G1) (h : SqL K G a xs) : SqL K G1 a xs := s.seq h
theorem upT (s : Same G G1) (h : SqT K G a xs) : SqT K G1 a xs := by
  rcases h with (h | ⟨o, h⟩) | h
  · exact .inl (.inl (s _ _ h))
  · exact .inl (.inr ⟨o, s _ _ h⟩)
  · exact .inr h
theorem upR (s : Same G G1) (h : Rd G a o) : Rd G1 a o := by
  rcases h with h | ⟨o, h⟩
  · exact .inl (s _ _ h)
  · exact .inr ⟨o, s _ _ h⟩
end
mutual
theorem Dt.up {K : PySem.W.Frag} {G G1 : Hp} (s : Same G G1) : ∀ {v : V} {d : PyData}, Dt K G v d → Dt K G1 v d
  | _, _, .non => .non
  | _, _, .bl b => .bl b
  | _, _, .int i => .int i
  | _, _, .str x => .str x
  | _, _, .lst h a => .lst (upL s h) (Dts.up s a)
  | _, _, .tup h a => .tup (upT s h) (Dts.up s a)
  | _, _, .dct h k a => .dct (upR s h) k (Dts.up s a)
theorem Dts.up {K : PySem.W.Frag} {G G1 : Hp} (s : Same G G1) : ∀ {v : List V} {d : List PyData}, Dts K G v d → Dts K G1 v d
  | _, _, .nil => .nil
  | _, _, .cons h a => .cons (Dt.up s h) (Dts.up s a)
end
theorem Zp.dt {K : PySem.W.Frag} {G H : Hp} {M : List (Addr × HO)} {v : V} {d : PyData} (z : Zp G M H) (h : Dt K G v d) : Dt K H v d := h.up z.sub
end Ys
namespace Ys
open PySem PySem.Spec PyProof.Rows L2
/-! ### operators over any values -/
section
variable {X : Cx}
def rCatL (K : PySem.W.Frag) : R2 := fun x y H Q => ∃ l b xs zs, x = .ref l ∧ y = .ref b ∧ H l = some (.lst xs) ∧ H b = some (.lst zs) ∧ xs.length + zs.length ≤ sizeLine ∧ ∀ p, H p = none → Q (.ref p) (upd H p (.lst (xs ++ zs)))
def rStr2 : R2 := fun x y H Q => ∃ i j, x = .str i ∧ y = .str j ∧ i.length + j.length ≤ sizeLine ∧ Q (.str (i ++ j)) H
def rAddG (K : PySem.W.Frag) : R2 := fun x y H Q => rI0 (fun i j => .int (i + j)) x y H Q ∨ rStr2 x y H Q ∨ rCat x y H Q ∨ rCatA K x y H Q
theorem op_addG : OpR X (binaryOp .Add) (rAddG X.K) := op_add.or ((show OpR X (binaryOp .Add) rStr2 from op_add_str).or (op_cat.or op_catA))
def rEqLen (K : PySem.W.Frag) (r : Bool) : R2 := fun x y H Q => ∃ a b xs ys, x = V.ref a ∧ y = V.ref b ∧ SqL K H a xs ∧ SqL K H b ys ∧ xs.length ≠ ys.length ∧ Q (.bl r) H
theorem isl {X : Cx} {pins : List (Addr × Obj)} {σ : L2.St} {H : Hp} {s : Shared} {a : Addr} {xs : List V} (I : Inv X pins σ H s) (h : SqL X.K H a xs) : ∃ its : List Value, its.length = xs.length ∧ s.heap.IsList a its.toArray := by
  obtain ⟨its, rv, ⟨o, n, ho, hc, hx, hd⟩, _⟩ := I.list h
  exact ⟨its, rv.length.symm, o, ho, hc, n, hd⟩
theorem op_eqLen (hu : X.A.units + 64 < cLine) : OpR X (compareOp .Eq) (rEqLen X.K false) := by
  intro pins s σ H x y v u Q I rx ry ⟨a, b, xs, ys, e1, e2, h1, h2, hne, q⟩
  subst e1 e2
  cases rx
  cases ry
  obtain ⟨i1, l1, j1⟩ := isl I h1
  obtain ⟨i2, l2, j2⟩ := isl I h2
  exact PySem.SeqAt.RcAt.lists_lengths j1 j2 (by rw [List.size_toArray, List.size_toArray, l1, l2]; exact bne_iff_ne.mpr hne) (by omega) X.prog X.w X.xe _ ⟨.bl false, H, I, rfl, q⟩
theorem op_neLen (hu : X.A.units + 64 < cLine) : OpR X (compareOp .NotEq) (rEqLen X.K true) := by
  intro pins s σ H x y v u Q I rx ry ⟨a, b, xs, ys, e1, e2, h1, h2, hne, q⟩
  subst e1 e2
  cases rx
  cases ry
  obtain ⟨i1, l1, j1⟩ := isl I h1
  obtain ⟨i2, l2, j2⟩ := isl I h2
  exact PySem.SeqAt.RcNeAt.lists_lengths j1 j2 (by rw [List.size_toArray, List.size_toArray, l1, l2]; exact bne_iff_ne.mpr hne) (by omega) X.prog X.w X.xe _ ⟨.bl true, H, I, rfl, q⟩
def rEqG (K : PySem.W.Frag) : R2 := fun x y H Q => rEq x y H Q ∨ rEqD K x y H Q ∨ rEqLen K false x y H Q
def rNeG (K : PySem.W.Frag) : R2 := fun x y H Q => rNe x y H Q ∨ rNeD K x y H Q ∨ rEqLen K true x y H Q
theorem op_eqG (hu : X.A.units + 64 < cLine) : OpR X (compareOp .Eq) (rEqG X.K) := op_eq.or ((op_eqD hu).or (op_eqLen hu))
theorem op_neG (hu : X.A.units + 64 < cLine) : OpR X (compareOp .NotEq) (rNeG X.K) := op_ne.or ((op_neD hu).or (op_neLen hu))
def rSlG (K : PySem.W.Frag) : V → Option Int → Option Int → Hp → VK → Prop := fun x lo hi H Q => rSlL K x lo hi H Q ∨ rSlA K x lo hi H Q ∨ rSlS x lo hi H Q
theorem sl_any : SlR X (rSlG X.K) := sl_list.or (sl_tupA.or sl_str)
abbrev rMulG : R2 := rI CMulW fun i j => .int (i * j)
abbrev rDivG : R2 := rI CDivW fun i j => .int (i / j)
abbrev rModG : R2 := rI (fun _ j => 0 < j) fun i j => .int (i % j)
abbrev rPowG : R2 := rI CPow fun i j => .int (i ^ j.toNat)
abbrev rSubG : R2 := rI0 fun i j => .int (i - j)
abbrev rLtG : R2 := rI0 fun i j => .bl (decide (i < j))
abbrev rLeG : R2 := rI0 fun i j => .bl (decide (i ≤ j))
abbrev rGtG : R2 := rI0 fun i j => .bl (decide (j < i))
abbrev rGeG : R2 := rI0 fun i j => .bl (decide (j ≤ i))
theorem o_sub : OpR X (binaryOp .Sub) rSubG := op_sub
theorem o_mul : OpR X (binaryOp .Mult) rMulG := op_mulW
theorem o_div : OpR X (binaryOp .FloorDiv) rDivG := op_fdivW
theorem o_mod : OpR X (binaryOp .Mod) rModG := op_mod
theorem o_pow : OpR X (binaryOp .Pow) rPowG := op_pow
theorem o_lt : OpR X (compareOp .Lt) rLtG := op_lt
theorem o_le : OpR X (compareOp .LtE) rLeG := op_le
theorem o_gt : OpR X (compareOp .Gt) rGtG := op_gt
theorem o_ge : OpR X (compareOp .GtE) rGeG := op_ge
abbrev rIsNon : R2 := fun x y H Q => y = .non ∧ Q (.bl (decide (x = .non))) H
abbrev rNotNon : R2 := fun x y H Q => y = .non ∧ Q (.bl (!decide (x = .non))) H
theorem o_isN : OpR X (compareOp .Is) rIsNon := op_isN
theorem o_notN : OpR X (compareOp .IsNot) rNotNon := op_notN
def rInG (K : PySem.W.Frag) (neg : Bool) : R2 := fun x y H Q => (∃ c z, x = V.str ⟨#[c]⟩ ∧ y = V.str z ∧ Q (.bl (if neg then !decide (c ∈ z.cps.toList) else decide (c ∈ z.cps.toList))) H) ∨ rIn K neg x y H Q
theorem o_in : OpR X (compareOp .In) (rInG X.K false) := by
  refine OpR.or ?_ op_in_seq
  intro pins s σ H x y v u Q I rx ry ⟨c, z, e1, e2, q⟩
  exact op_in_sign pins s σ H x y v u Q I rx ry ⟨c, z, e1, e2, by simpa using q⟩
theorem o_notIn : OpR X (compareOp .NotIn) (rInG X.K true) := by
  refine OpR.or ?_ op_notIn_seq
  intro pins s σ H x y v u Q I rx ry ⟨c, z, e1, e2, q⟩
  exact op_notIn_sign pins s σ H x y v u Q I rx ry ⟨c, z, e1, e2, by simpa using q⟩
def rIntG : List V → Hp → VK → Prop := fun xs H Q => (∃ i, xs = [.int i] ∧ Q (.int i) H) ∨ ∃ k, xs = [.bl k] ∧ Q (.int (if k then 1 else 0)) H
theorem c_int : CallR X (.type "int") rIntG := call_int1
def rLenG (K : PySem.W.Frag) (P : Program) (w : World) : List V → Hp → VK → Prop := fun xs H Q => (∃ x n, xs = [x] ∧ LenV K x H n ∧ Q (.int n) H) ∨ rLenTx P w xs H Q
theorem c_len : CallR X (.builtin "len") (rLenG X.K X.prog X.w) := CallR.or call_len cr_lenTx
def rListG (K : PySem.W.Frag) : List V → Hp → VK → Prop := fun xs H Q => ∃ p ys, xs = [V.ref p] ∧ (SqL K H p ys ∨ SqT K H p ys) ∧ ∀ l, H l = none → Q (.ref l) (upd H l (.lst ys))
theorem c_list : CallR X (.type "list") (rListG X.K) := call_list_of
def rTupG (K : PySem.W.Frag) : List V → Hp → VK → Prop := fun xs H Q => ∃ p ys, xs = [V.ref p] ∧ ((SqL K H p ys ∧ ∀ l, H l = none → Q (.ref l) (upd H l (.tup ys))) ∨ (SqT K H p ys ∧ Q (.ref p) H))
theorem c_tuple : CallR X (.type "tuple") (rTupG X.K) := call_tuple_of
def rMin2 : List V → Hp → VK → Prop := fun xs H Q => ∃ i j, xs = [V.int i, V.int j] ∧ Q (.int (if j < i then j else i)) H
theorem c_min2 (hc : X.calm = true) : CallR X (.builtin "min") rMin2 := call_min2 hc
def rAllG (K : PySem.W.Frag) : List V → Hp → VK → Prop := fun vs H Q => ∃ (a : Addr) (bs : List Bool), vs = [V.ref a] ∧ SqL K H a (bs.map V.bl) ∧ Q (.bl (bs.all id)) H
theorem c_all (hc : X.calm = true) : CallR X (.builtin "all") (rAllG X.K) := cr_all hc
def rSortG (K : PySem.W.Frag) (P : Program) (w : World) : List V → Hp → VK → Prop := fun vs H Q => rSortTx P w vs H Q ∨ rSortedS K vs H Q
theorem c_sorted (hc : X.calm = true) : CallR X (.builtin "sorted") (rSortG X.K X.prog X.w) := CallR.or (cr_sortTx hc) cr_sortedS
end

/-! ### the steps of a reading -/
def Bif (c : Bool) (A B : Prop) : Prop := if c = true then A else B
def IsB (x : V) (H : Hp) (Q : Bool → Hp → Prop) : Prop := ∃ k, x = .bl k ∧ Q k H
def IsP (x : V) (H : Hp) (Q : Option Int → Hp → Prop) : Prop := ∃ i, x = .int i ∧ Q (some i) H
def NewT (xs : List V) (H : Hp) (Q : VK) : Prop := xs.length ≤ sizeLine ∧ ∀ p, H p = none → Q (.ref p) (upd H p (.tup xs))
def NewL (xs : List V) (H : Hp) (Q : VK) : Prop := xs.length ≤ sizeLine ∧ ∀ p, H p = none → Q (.ref p) (upd H p (.lst xs))
section
variable {K : PySem.W.Frag} {G H : Hp} {M : List (Addr × HO)} {σ : L2.St} {Q : VK} {QB : Bool → Hp → Prop} {QO : Option Int → Hp → Prop} {QA : List V → Hp → Prop} {D : Ends} {ta tb te : TE} {tt uu : TT} {tr t : TA} {t1 t2 : TS} {r : R2} {A B : Prop} {c : Bool} {v x y : V} {i j : Int} {k : Nat} {p a b : Addr} {xs ys vs : List V} {sp : Sp} {E : XK} {g : TG}
theorem z_var (h : σ[k]? = some (some v)) (q : Q v H) : tVar k σ H Q := ⟨v, h, q⟩
theorem z_c (q : Q v H) : tC v σ H Q := q
theorem z_op (h : ta σ H fun x H1 => tb σ H1 fun y H2 => r x y H2 Q) : tOp r ta tb σ H Q := h
theorem z_un {r : V → Hp → VK → Prop} (h : ta σ H fun x H1 => r x H1 Q) : tUn r ta σ H Q := h
theorem z_test (h : te σ H fun x H1 => IsB x H1 QB) : tTest te σ H QB := h
theorem z_tB (h : te σ H fun x H1 => IsB x H1 QB) : tB te σ H QB := h
theorem z_isB (q : QB c H) : IsB (.bl c) H QB := ⟨c, rfl, q⟩
theorem z_bT (h : A) : Bif true A B := by unfold Bif; rw [if_pos rfl]; exact h
theorem z_bF (h : B) : Bif false A B := by unfold Bif; rw [if_neg Bool.false_ne_true]; exact h
theorem z_b2 (h1 : c = true → A) (h2 : c = false → B) : Bif c A B := by
  cases c with
  | true => exact z_bT (h1 rfl)
  | false => exact z_bF (h2 rfl)
theorem z_bN (h : Bif c B A) : Bif (!c) A B := by cases c with | true => exact h | false => exact h
theorem z_bD {p : Prop} [Decidable p] (h1 : p → A) (h2 : ¬ p → B) : Bif (decide p) A B := z_b2 (fun h => h1 (of_decide_eq_true h)) fun h => h2 (of_decide_eq_false h)
theorem z_and (h : tt σ H fun c H1 => Bif c (uu σ H1 QB) (QB false H1)) : tAnd tt uu σ H QB := h
theorem z_or (h : tt σ H fun c H1 => Bif c (QB true H1) (uu σ H1 QB)) : tOr tt uu σ H QB := h
theorem z_not (h : tt σ H fun c H1 => QB (!c) H1) : tNot tt σ H QB := h
theorem z_andV (h : ta σ H fun x H1 => IsB x H1 fun c H1 => Bif c (tb σ H1 Q) (Q (.bl false) H1)) : tAndV ta tb σ H Q := h
theorem z_orV (h : ta σ H fun x H1 => IsB x H1 fun c H1 => Bif c (Q (.bl true) H1) (tb σ H1 Q)) : tOrV ta tb σ H Q := h
theorem z_notV (h : ta σ H fun x H1 => IsB x H1 fun c H1 => Q (.bl (!c)) H1) : tNotV ta σ H Q := h
theorem z_if (h : tt σ H fun c H1 => Bif c (ta σ H1 Q) (tb σ H1 Q)) : tIf tt ta tb σ H Q := h
theorem z_nil (q : QA [] H) : tNil σ H QA := q
theorem z_cons (h : ta σ H fun x H1 => tr σ H1 fun xs H2 => QA (x :: xs) H2) : tCons ta tr σ H QA := h
theorem z_tup (h : t σ H fun xs H1 => NewT xs H1 Q) : tTup t σ H Q := h
theorem z_lst (h : t σ H fun xs H1 => NewL xs H1 Q) : tLst t σ H Q := h
theorem z_cb {r : List V → Hp → VK → Prop} (h : t σ H fun vs H1 => r vs H1 Q) : tCB r t σ H Q := h
theorem z_call {dvs : List V} (h : t σ H fun vs H1 => sp (vs ++ dvs) H1 Q E) : tCall sp dvs E t σ H Q := h
theorem z_sl {r : V → Option Int → Option Int → Hp → VK → Prop} {tl th : TO} (h : te σ H fun x H1 => tl σ H1 fun l H2 => th σ H2 fun u H3 => r x l u H3 Q) : tSl r te tl th σ H Q := h
theorem z_np (q : QO none H) : tNoPart σ H QO := q
theorem z_part (h : te σ H fun x H1 => IsP x H1 QO) : tPart te σ H QO := h
theorem z_isP (q : QO (some i) H) : IsP (.int i) H QO := ⟨i, rfl, q⟩
theorem z_seq (h : t1 ⟨t2 D, D.rt, D.bk, D.ct⟩ σ H) : tSeq t1 t2 D σ H := h
theorem z_asg (h : te σ H fun x H1 => g x σ H1 D.nx) : tAsg te g D σ H := h
theorem z_name {R : L2.St → Hp → Prop} (q : R (σ.set k (some v)) H) : gName k v σ H R := q
theorem z_ifS (h : tt σ H fun b H1 => Bif b (t1 D σ H1) (t2 D σ H1)) : tIfS tt t1 t2 D σ H := h
theorem z_ret (h : te σ H D.rt) : tRet te D σ H := h
theorem z_retN (q : D.rt .non H) : tRetN D σ H := q
theorem z_drop (h : te σ H fun _ H1 => D.nx σ H1) : tDrop te D σ H := h
theorem z_next (q : D.nx σ H) : tNext D σ H := q
theorem z_par {k l : Nat} {w : V} (h : t σ H fun vs H1 => ∃ v w, vs = [v, w] ∧ D.nx ((σ.set k (some v)).set l (some w)) H1) : tPar k l t D σ H := h
theorem z_dget (h : ta σ H fun x H1 => tb σ H1 fun y H2 => ∃ a v, x = .ref a ∧ DGet H2 a y (some v) ∧ Q v H2) : tDGet ta tb σ H Q := h

/-! new objects -/
theorem z_newT (z : Zp G M H) (hl : xs.length ≤ 100000) (q : ∀ p G1 H1, Zp G1 M H1 → Same G G1 → G1 p = some (.tup xs) → Q (.ref p) H1) : NewT xs H Q :=
  ⟨Nat.le_trans hl (by decide), fun p hp => q p _ _ (z.new hp _) (Same.new (z.free hp)) upd_same⟩
theorem z_newL (z : Zp G M H) (hl : xs.length ≤ 100000) (q : ∀ p G1 H1, Zp G1 M H1 → Same G G1 → G1 p = some (.lst xs) → Q (.ref p) H1) : NewL xs H Q :=
  ⟨Nat.le_trans hl (by decide), fun p hp => q p _ _ (z.new hp _) (Same.new (z.free hp)) upd_same⟩
theorem z_ownL (z : Zp G M H) (hl : xs.length ≤ 100000) (q : ∀ p H1, Zp G (M ++ [(p, .lst xs)]) H1 → Q (.ref p) H1) : NewL xs H Q :=
  ⟨Nat.le_trans hl (by decide), fun p hp => q p _ (z.add hp _)⟩

/-! operators -/
theorem z_addI (q : Q (.int (i + j)) H) : rAddG K (.int i) (.int j) H Q := .inl ⟨i, j, rfl, rfl, q⟩
theorem z_addS {x y : Str} (hl : x.length + y.length ≤ 100000) (q : Q (.str (x ++ y)) H) : rAddG K (.str x) (.str y) H Q := .inr (.inl ⟨x, y, rfl, rfl, Nat.le_trans hl (by decide), q⟩)
theorem z_addL (z : Zp G M H) (h1 : G a = some (.lst xs)) (h2 : G b = some (.lst ys)) (hl : xs.length + ys.length ≤ 100000) (q : ∀ p G1 H1, Zp G1 M H1 → Same G G1 → G1 p = some (.lst (xs ++ ys)) → Q (.ref p) H1) : rAddG K (.ref a) (.ref b) H Q :=
  .inr (.inr (.inl ⟨a, b, xs, ys, rfl, rfl, z.sub _ _ h1, z.sub _ _ h2, Nat.le_trans hl (by decide), fun p hp => q p _ _ (z.new hp _) (Same.new (z.free hp)) upd_same⟩))
theorem z_addT (z : Zp G M H) (h1 : SqT K G a xs) (h2 : SqT K G b ys) (hl : xs.length + ys.length ≤ 100000) (q : ∀ p G1 H1, Zp G1 M H1 → Same G G1 → SqT K G1 p (xs ++ ys) → Q (.ref p) H1) : rAddG K (.ref a) (.ref b) H Q := by
  refine .inr (.inr (.inr ⟨a, b, xs, ys, rfl, rfl, z.seqT h1, z.seqT h2, Nat.le_trans hl (by decide), fun e => ?_, fun _ e => ?_, fun _ _ p hp => ?_⟩))
  · subst e
    exact q b G H z (Same.refl G) h2
  · subst e
    exact q a G H z (Same.refl G) (by rw [List.append_nil]; exact h1)
  · exact q p _ _ (z.new hp _) (Same.new (z.free hp)) (SqT.of upd_same)
theorem z_I0 {f : Int → Int → V} (q : Q (f i j) H) : rI0 f (.int i) (.int j) H Q := ⟨i, j, rfl, rfl, q⟩
theorem z_I {C : Int → Int → Prop} {f : Int → Int → V} (h : C i j) (q : Q (f i j) H) : rI C f (.int i) (.int j) H Q := ⟨i, j, rfl, rfl, h, q⟩
theorem z_eqS (h : scal x y = true) (q : Q (.bl (decide (x = y))) H) : rEqG K x y H Q := .inl ⟨h, q⟩
theorem z_neS (h : scal x y = true) (q : Q (.bl (!decide (x = y))) H) : rNeG K x y H Q := .inl ⟨h, q⟩
theorem z_eqD {d e : PyData} (z : Zp G M H) (h1 : Dt K G x d) (h2 : Dt K G y e) (c1 : SeqAt.shaped d = true) (c2 : SeqAt.shaped e = true) (q : Q (.bl (PyData.eqv d e)) H) : rEqG K x y H Q :=
  .inr (.inl ⟨d, e, Dt.dp d x (SeqAt.canLay_of_shaped c1) (z.dt h1), Dt.dp e y (SeqAt.canLay_of_shaped c2) (z.dt h2), c1, c2, q⟩)
theorem z_neD {d e : PyData} (z : Zp G M H) (h1 : Dt K G x d) (h2 : Dt K G y e) (c1 : SeqAt.shaped d = true) (c2 : SeqAt.shaped e = true) (q : Q (.bl (!PyData.eqv d e)) H) : rNeG K x y H Q :=
  .inr (.inl ⟨d, e, Dt.dp d x (SeqAt.canLay_of_shaped c1) (z.dt h1), Dt.dp e y (SeqAt.canLay_of_shaped c2) (z.dt h2), c1, c2, q⟩)
theorem z_ixL (z : Zp G M H) (h : SqL K G a xs) (e : atI xs i = some v) (q : Q v H) : rIx K (.ref a) (.int i) H Q := .inl ⟨a, xs, i, v, rfl, rfl, z.seqL h, e, q⟩
theorem z_ixT (z : Zp G M H) (h : SqT K G a xs) (e : atI xs i = some v) (q : Q v H) : rIx K (.ref a) (.int i) H Q := .inr (.inl ⟨a, xs, i, v, rfl, rfl, z.seqT h, e, q⟩)
theorem z_ixS {s : Str} {ch : Nat} (hl : s.length ≤ 100000) (e : atI s.cps.toList i = some ch) (q : Q (.str ⟨#[ch]⟩) H) : rIx K (.str s) (.int i) H Q := .inr (.inr ⟨s, i, ch, rfl, rfl, Nat.le_trans hl (by decide), e, q⟩)
theorem z_slL {lo hi : Option Int} (z : Zp G M H) (h : SqL K G a xs) (q : ∀ p G1 H1, Zp G1 M H1 → Same G G1 → G1 p = some (.lst (cutV xs lo hi)) → Q (.ref p) H1) : rSlG K (.ref a) lo hi H Q :=
  .inl ⟨a, xs, rfl, z.seqL h, fun p hp => q p _ _ (z.new hp _) (Same.new (z.free hp)) upd_same⟩
theorem sIx_all {lo hi : Option Int} (h : HT.sIx xs.length 0 lo = 0 ∧ HT.sIx xs.length xs.length hi = xs.length) : cutV xs lo hi = xs := by
  unfold cutV
  rw [h.1, h.2]
  simp
theorem z_slT {lo hi : Option Int} (z : Zp G M H) (h : SqT K G a xs) (q : ∀ p G1 H1, Zp G1 M H1 → Same G G1 → SqT K G1 p (cutV xs lo hi) → Q (.ref p) H1) : rSlG K (.ref a) lo hi H Q :=
  .inr (.inl ⟨a, xs, rfl, z.seqT h, fun e => q a G H z (Same.refl G) (by rw [sIx_all e]; exact h), fun _ p hp => q p _ _ (z.new hp _) (Same.new (z.free hp)) (SqT.of upd_same)⟩)
theorem z_slS {s : Str} {lo hi : Option Int} (hl : s.length ≤ 100000) (q : Q (.str (cutS s lo hi)) H) : rSlG K (.str s) lo hi H Q := .inr (.inr ⟨s, rfl, Nat.le_trans hl (by decide), q⟩)
/-! calls of what is built in -/
theorem z_int (q : Q (.int i) H) : rIntG [.int i] H Q := .inl ⟨i, rfl, q⟩
theorem z_lenL {P : Program} {w : World} (z : Zp G M H) (h : SqL K G a xs) (q : Q (.int xs.length) H) : rLenG K P w [.ref a] H Q := .inl ⟨_, _, rfl, .inl ⟨xs, z.seqL h, rfl⟩, q⟩
end
end Ys
namespace Ys
open PySem PySem.Spec PyProof.Rows L2
/-! ### sorted, different texts: one list alone -/
theorem ltCps_irr : ∀ xs : List Nat, ltCps xs xs = false := fun xs => by rw [ltCps_eq]; exact decide_eq_false (fun h => List.lt_irrefl xs h)
def leS (a b : Str) : Bool := !decide (b.cps.toList < a.cps.toList)
theorem leS_total (a b : Str) : (leS a b || leS b a) = true := by
  unfold leS
  by_cases h : b.cps.toList < a.cps.toList
  · have : ¬ a.cps.toList < b.cps.toList := fun h2 => List.lt_asymm h h2
    simp [h, this]
  · simp [h]
theorem leS_trans (a b c : Str) (h1 : leS a b = true) (h2 : leS b c = true) : leS a c = true := by
  unfold leS at *
  simp only [Bool.not_eq_true', decide_eq_false_iff_not, List.not_lt] at *
  exact List.le_trans h1 h2
theorem leS_anti {a b : Str} (h1 : leS a b = true) (h2 : leS b a = true) : a = b := by
  unfold leS at *
  simp only [Bool.not_eq_true', decide_eq_false_iff_not, List.not_lt] at *
  have e := List.le_antisymm h1 h2
  obtain ⟨⟨x⟩⟩ := a
  obtain ⟨⟨y⟩⟩ := b
  simp only at e
  rw [e]
theorem sortedS_pw : ∀ l : List Str, sortedS l = true → l.Pairwise (fun a b => leS a b = true)
  | [], _ => List.Pairwise.nil
  | x :: r, h => by
    have go : ∀ (r : List Str) (x : Str), risingS x r = true → (x :: r).Pairwise (fun a b => leS a b = true) := by
      intro r
      induction r with
      | nil => intro x _; exact List.pairwise_singleton _ _
      | cons y r ih =>
        intro x h
        obtain ⟨h1, h2⟩ := Bool.and_eq_true_iff.mp (show (!ltCps y.cps.toList x.cps.toList && risingS y r) = true from h)
        have hxy : leS x y = true := by
          unfold leS
          rw [← ltCps_eq]
          exact h1
        have p := ih y h2
        refine List.pairwise_cons.mpr ⟨fun z hz => ?_, p⟩
        rcases List.mem_cons.mp hz with rfl | hz
        · exact hxy
        · exact leS_trans _ _ _ hxy (List.rel_of_pairwise_cons p hz)
    exact go r x h
theorem perm_one {l m : List Str} (p : l.Perm m) (h1 : l.Pairwise (fun a b => leS a b = true)) (h2 : m.Pairwise (fun a b => leS a b = true)) : l = m :=
  List.Perm.eq_of_pairwise (le := fun a b => leS a b = true) (fun a b _ _ x y => leS_anti x y) h1 h2 p
def dd : List Str → List Str
  | [] => []
  | x :: r => if x ∈ r then dd r else x :: dd r
theorem mem_dd {x : Str} : ∀ {xs : List Str}, x ∈ dd xs ↔ x ∈ xs
  | [] => by simp [dd]
  | y :: r => by
    have ih := mem_dd (x := x) (xs := r)
    unfold dd
    by_cases h : y ∈ r
    · rw [if_pos h, ih, List.mem_cons]
      exact ⟨.inr, fun z => z.elim (fun e => e ▸ h) id⟩
    · rw [if_neg h, List.mem_cons, List.mem_cons, ih]
theorem dd_nodup : ∀ xs : List Str, (dd xs).Nodup
  | [] => List.nodup_nil
  | y :: r => by
    unfold dd
    by_cases h : y ∈ r
    · rw [if_pos h]
      exact dd_nodup r
    · rw [if_neg h]
      exact List.nodup_cons.mpr ⟨fun z => h (mem_dd.mp z), dd_nodup r⟩
def asc (xs : List Str) : List Str := (dd xs).mergeSort leS
theorem asc_mem {x : Str} {xs : List Str} : x ∈ asc xs ↔ x ∈ xs := by
  unfold asc
  rw [(List.mergeSort_perm _ _).mem_iff]
  exact mem_dd
theorem asc_nodup (xs : List Str) : (asc xs).Nodup := (List.mergeSort_perm _ _).nodup_iff.mpr (dd_nodup xs)
theorem asc_pw (xs : List Str) : (asc xs).Pairwise (fun a b => leS a b = true) := List.pairwise_mergeSort leS_trans leS_total _
theorem asc_is {xs ys l : List Str} (h1 : ys.Perm l) (h2 : sortedS ys = true) (nd : l.Nodup) (m : ∀ x, x ∈ l ↔ x ∈ xs) : ys = asc xs := by
  refine perm_one ?_ (sortedS_pw ys h2) (asc_pw xs)
  refine (List.perm_ext_iff_of_nodup (h1.nodup_iff.mpr nd) (asc_nodup xs)).mpr fun x => ?_
  rw [h1.mem_iff, m x, asc_mem]
theorem asc_congr {xs ys : List Str} (m : ∀ x, x ∈ xs ↔ x ∈ ys) : asc xs = asc ys := by
  refine perm_one ?_ (asc_pw _) (asc_pw _)
  exact (List.perm_ext_iff_of_nodup (asc_nodup xs) (asc_nodup ys)).mpr fun x => by rw [asc_mem, asc_mem, m x]
end Ys
namespace Ys
open PySem PySem.Spec PyProof.Rows L2
section
variable {K : PySem.W.Frag} {P : Program} {w : World} {G H : Hp} {M : List (Addr × HO)} {σ : L2.St} {Q : VK} {QB : Bool → Hp → Prop} {QA : List V → Hp → Prop} {D : Ends} {ta tb te : TE} {tt : TT} {t : TA} {ts : TS} {A : Prop} {v x y : V} {i j : Int} {k : Nat} {a b : Addr} {xs ys vs : List V} {g : TG}
/-! ### calls of what is built in -/
theorem z_lenT (z : Zp G M H) (h : SqT K G a xs) (q : Q (.int xs.length) H) : rLenG K P w [.ref a] H Q := .inl ⟨_, _, rfl, .inr ⟨xs, z.seqT h, rfl⟩, q⟩
theorem z_lenO (z : Zp G M H) (k : Nat) (e : M[k]? = some (a, .lst xs)) (q : Q (.int xs.length) H) : rLenG K P w [.ref a] H Q := .inl ⟨_, _, rfl, .inl ⟨xs, SqL.of (z.at_ k e), rfl⟩, q⟩
theorem z_lenS {s : Str} (hl : s.length ≤ 100000) (q : Q (.int s.length) H) : rLenG K P w [.str s] H Q := .inl ⟨_, _, rfl, ⟨Nat.le_trans hl (by decide), rfl⟩, q⟩
theorem z_lenX {l : List Str} (z : Zp G M H) (h : G a = some (TxO P w a l)) (hl : l.length < 1000) (q : Q (.int l.length) H) : rLenG K P w [.ref a] H Q := .inr ⟨a, l, rfl, z.sub _ _ h, hl, q⟩
theorem z_listG (z : Zp G M H) (h : SqL K G a xs ∨ SqT K G a xs) (q : ∀ p G1 H1, Zp G1 M H1 → Same G G1 → G1 p = some (.lst xs) → Q (.ref p) H1) : rListG K [.ref a] H Q :=
  ⟨a, xs, rfl, h.imp z.seqL z.seqT, fun p hp => q p _ _ (z.new hp _) (Same.new (z.free hp)) upd_same⟩
theorem z_listO (z : Zp G M H) (h : SqL K G a xs ∨ SqT K G a xs) (q : ∀ p H1, Zp G (M ++ [(p, .lst xs)]) H1 → Q (.ref p) H1) : rListG K [.ref a] H Q :=
  ⟨a, xs, rfl, h.imp z.seqL z.seqT, fun p hp => q p _ (z.add hp _)⟩
theorem z_tupL (z : Zp G M H) (h : SqL K G a xs) (q : ∀ p G1 H1, Zp G1 M H1 → Same G G1 → SqT K G1 p xs → Q (.ref p) H1) : rTupG K [.ref a] H Q :=
  ⟨a, xs, rfl, .inl ⟨z.seqL h, fun p hp => q p _ _ (z.new hp _) (Same.new (z.free hp)) (SqT.of upd_same)⟩⟩
theorem z_tupO (z : Zp G M H) (k : Nat) (e : M[k]? = some (a, .lst xs)) (q : ∀ p G1 H1, Zp G1 M H1 → Same G G1 → SqT K G1 p xs → Q (.ref p) H1) : rTupG K [.ref a] H Q :=
  ⟨a, xs, rfl, .inl ⟨SqL.of (z.at_ k e), fun p hp => q p _ _ (z.new hp _) (Same.new (z.free hp)) (SqT.of upd_same)⟩⟩
theorem z_tupT (z : Zp G M H) (h : SqT K G a xs) (q : Q (.ref a) H) : rTupG K [.ref a] H Q := ⟨a, xs, rfl, .inr ⟨z.seqT h, q⟩⟩
theorem z_set {ss : List Str} (z : Zp G M H) (h : SqL K G a (ss.map V.str) ∨ SqT K G a (ss.map V.str)) (hl : ss.length < 1000)
    (q : ∀ p l G1 H1, Zp G1 M H1 → Same G G1 → G1 p = some (TxO P w p l) → (∀ x, x ∈ l ↔ x ∈ ss) → l.Nodup → l.length ≤ ss.length → Q (.ref p) H1) : rSetTx K P w [.ref a] H Q :=
  ⟨a, ss, rfl, h.imp z.seqL z.seqT, hl, fun p l m nd len hp => q p l _ _ (z.new hp _) (Same.new (z.free hp)) upd_same m nd len⟩
theorem z_sortX {l ss : List Str} (z : Zp G M H) (h : G a = some (TxO P w a l)) (m : ∀ x, x ∈ l ↔ x ∈ ss) (nd : l.Nodup) (hl : l.length < 64) (q : ∀ p G1 H1, Zp G1 M H1 → Same G G1 → G1 p = some (.lst ((asc ss).map V.str)) → Q (.ref p) H1) :
    rSortG K P w [.ref a] H Q := .inl ⟨a, l, rfl, z.sub _ _ h, hl, fun ys p pm so hp => by
  rw [asc_is pm so nd m]
  exact q p _ _ (z.new hp _) (Same.new (z.free hp)) upd_same⟩
theorem z_all {bs : List Bool} (z : Zp G M H) (h : SqL K G a (bs.map V.bl)) (q : Q (.bl (bs.all id)) H) : rAllG K [.ref a] H Q := ⟨a, bs, rfl, z.seqL h, q⟩
theorem z_min2 (q : Q (.int (if j < i then j else i)) H) : rMin2 [.int i, .int j] H Q := ⟨i, j, rfl, q⟩
theorem z_repr {d : PyData} (z : Zp G M H) (h : Dt K G x d) (s1 : d.showable = true) (s2 : d.depth ≤ 60) (s3 : d.shown.length ≤ 100000) (q : Q (.str d.shown) H) : rRepr K [x] H Q := ⟨x, d, rfl, z.dt h, s1, s2, Nat.le_trans s3 (by decide), q⟩
/-! methods -/
def TyV (K : PySem.W.Frag) (T : String) (x : V) (H : Hp) (A : Prop) : Prop := tyV K T x H ∧ A
theorem z_bm {T : String} {r : V → List V → Hp → VK → Prop} (h : te σ H fun x H1 => TyV K T x H1 (t σ H1 fun xs H2 => r x xs H2 Q)) : tBM K T r te t σ H Q := h
theorem z_bm0 {T : String} {r : V → List V → Hp → VK → Prop} (h : te σ H fun x H1 => TyV K T x H1 (r x [] H1 Q)) : tBM0 K T r te σ H Q := h
theorem z_tyO (z : Zp G M H) (k : Nat) (e : M[k]? = some (a, .lst xs)) (q : A) : TyV K "list" (.ref a) H A := ⟨.inl ⟨rfl, _, SqL.of (z.at_ k e)⟩, q⟩
theorem z_tyL (z : Zp G M H) (e : SqL K G a xs) (q : A) : TyV K "list" (.ref a) H A := ⟨.inl ⟨rfl, _, z.seqL e⟩, q⟩
theorem z_append (z : Zp G M H) (k : Nat) (e : M[k]? = some (a, .lst xs)) (hl : xs.length ≤ 100000) (q : ∀ H1, Zp G (M.set k (a, .lst (xs ++ [v]))) H1 → Q .non H1) : rAppend (.ref a) [v] H Q :=
  ⟨a, xs, v, rfl, rfl, z.at_ k e, Nat.lt_of_le_of_lt hl (by decide), q _ (z.put k e _)⟩
theorem seqIx {n : Nat} {i : Int} (h0 : 0 ≤ i) (h1 : i < n) : seqIndex? i n = some i.toNat := by
  obtain ⟨k, rfl⟩ := Int.eq_ofNat_of_zero_le h0
  have := atI_get (atI_nat (xs := List.replicate n ()) (j := k) (v := ()) (by
    have : k < n := by omega
    simp [this]))
  obtain ⟨j, e1, e2, e3, _⟩ := this
  rw [List.length_replicate] at e1
  have hk : (ixN n (k : Int)) = some k := by
    unfold ixN
    rw [if_pos (by omega), if_pos h1]
    rfl
  have := (ixN_seq hk).1
  rw [this]
  rfl
theorem z_popAt (z : Zp G M H) (k : Nat) (e : M[k]? = some (a, .lst xs)) (h0 : 0 ≤ i) (h1 : i < xs.length) (hl : xs.length ≤ 100000) (ev : xs[i.toNat]? = some v) (q : ∀ H1, Zp G (M.set k (a, .lst (xs.eraseIdx i.toNat))) H1 → Q v H1) :
    rPopAt (.ref a) [.int i] H Q := ⟨a, xs, i, i.toNat, v, rfl, rfl, z.at_ k e, by omega, by omega, seqIx h0 h1, ev, q _ (z.put k e _)⟩
theorem z_extend {b : Addr} (z : Zp G M H) (k : Nat) (e : M[k]? = some (a, .lst xs)) (h : G b = some (.lst ys)) (hl : xs.length + ys.length ≤ 100000) (q : ∀ H1, Zp G (M.set k (a, .lst (xs ++ ys))) H1 → Q .non H1) : rExtend (.ref a) [.ref b] H Q :=
  ⟨a, b, xs, ys, rfl, rfl, z.at_ k e, z.sub _ _ h, Nat.le_trans hl (by decide), q _ (z.put k e _)⟩
def IsS (x : V) (A : Prop) : Prop := (∃ a, x = .str a) ∧ A
theorem z_m1 {r : V → List V → Hp → VK → Prop} (h : ta σ H fun x H1 => IsS x (te σ H1 fun y H2 => r x [y] H2 Q)) : tM1 r ta te σ H Q := h
theorem z_isS {s : Str} (q : A) : IsS (.str s) A := ⟨⟨s, rfl⟩, q⟩
def rJoin (K : PySem.W.Frag) : V → List V → Hp → VK → Prop := fun x xs H Q => ∃ a p, ∃ ys : List Str, x = .str a ∧ xs = [.ref p] ∧ (SqL K H p (ys.map V.str) ∨ SqT K H p (ys.map V.str)) ∧ (ys.map (·.length)).sum + ys.length * a.length ≤ 16777216 ∧ Q (.str (Txt.join a ys)) H
theorem z_join {s : Str} {ss : List Str} (z : Zp G M H) (h : SqL K G a (ss.map V.str)) (hl : (ss.map (·.length)).sum + ss.length * s.length ≤ 100000) (q : Q (.str (Txt.join s ss)) H) : rJoin K (.str s) [.ref a] H Q :=
  ⟨s, a, ss, rfl, rfl, .inl (z.seqL h), Nat.le_trans hl (by decide), q⟩
/-! ### targets of several names -/
def UnpT (K : PySem.W.Frag) (n : Nat) (t : TGs) (v : V) (σ : L2.St) (H : Hp) (R : L2.St → Hp → Prop) : Prop := gTup K n t v σ H R
theorem z_gtup {n : Nat} {u : TGs} {R : L2.St → Hp → Prop} (z : Zp G M H) (h : SqT K G a xs) (hl : xs.length = n) (q : u xs σ H R) : gTup K n u (.ref a) σ H R := ⟨a, xs, rfl, z.seqT h, hl, q⟩
theorem z_gunl {n : Nat} {u : TGs} {R : L2.St → Hp → Prop} (z : Zp G M H) (h : SqL K G a xs) (hl : xs.length = n) (q : u xs σ H R) : gUnl K n u (.ref a) σ H R := ⟨a, xs, rfl, z.seqL h, hl, q⟩
theorem z_gnil {R : L2.St → Hp → Prop} (q : R σ H) : gNil [] σ H R := ⟨rfl, q⟩
theorem z_gcons {u : TGs} {R : L2.St → Hp → Prop} (q : g v σ H fun σ' H' => u xs σ' H' R) : gCons g u (v :: xs) σ H R := ⟨v, xs, rfl, q⟩
/-! ### what is walked -/
structure Src (J : It) (xs : List V) (OK : Hp → Prop) : Prop where
  go : ∀ i H, OK H → i < xs.length → J.go i H
  stop : ∀ i H, OK H → xs.length ≤ i → J.stop i H
  yld : ∀ i H x H', OK H → i < xs.length → J.yld i H x H' → H' = H ∧ xs[i]? = some x
theorem src_L {xs : List V} : Src (Itl K a) xs (fun H => SqL K H a xs) where
  go := fun i H h hi => ⟨xs, xs[i], h, by simp [hi]⟩
  stop := fun i H h hi => ⟨xs, h, hi⟩
  yld := fun i H x H' h _ y => ⟨y.1, y.2 xs h⟩
theorem src_T {xs : List V} : Src (Itt K a) xs (fun H => SqT K H a xs) where
  go := fun i H h hi => ⟨xs, xs[i], h, by simp [hi]⟩
  stop := fun i H h hi => ⟨xs, h, hi⟩
  yld := fun i H x H' h _ y => ⟨y.1, y.2 xs h⟩
def rngV (lo : Int) (n : Nat) : List V := (List.range n).map fun (i : Nat) => V.int (lo + (i : Int))
theorem rngV_len (lo : Int) (n : Nat) : (rngV lo n).length = n := by simp [rngV]
theorem src_R {lo : Int} {n : Nat} : Src (Itr lo n) (rngV lo n) (fun _ => True) where
  go := fun i H _ hi => by rw [rngV_len] at hi; exact hi
  stop := fun i H _ hi => by rw [rngV_len] at hi; exact hi
  yld := fun i H x H' _ hi y => ⟨y.1, by
    rw [rngV_len] at hi
    rw [y.2]
    simp [rngV, hi]⟩
def chrV (s : Str) : List V := s.cps.toList.map fun c => V.str ⟨#[c]⟩
theorem chrV_len (s : Str) : (chrV s).length = s.length := by simp [chrV]; rfl
theorem src_S {s : Str} : Src (Its s) (chrV s) (fun _ => True) where
  go := fun i H _ hi => by rw [chrV_len] at hi; exact hi
  stop := fun i H _ hi => by rw [chrV_len] at hi; exact hi
  yld := fun i H x H' _ _ y => by
    obtain ⟨e, c, h1, h2⟩ := y
    refine ⟨e, ?_⟩
    unfold chrV
    rw [List.getElem?_map, Array.getElem?_toList, h1, h2]
    rfl
/-! ### for -/
def ForW (J : It) (g : TG) (tb : TS) (D : Ends) (σ : L2.St) (H : Hp) : Prop := ∃ W : Nat → Nat → L2.St → Hp → Prop, (∃ m, W 0 m σ H) ∧ ∀ i m σ H, W i m σ H →
  (J.stop i H ∧ D.nx σ H) ∨ (J.go i H ∧ ∃ N : L2.St → Hp → Prop, (∀ σ' H', N σ' H' → ∃ m', m' < m ∧ W (i + 1) m' σ' H') ∧ ∀ x H', J.yld i H x H' → g x σ H' fun σ2 H2 => tb { D with nx := N, ct := N, bk := D.nx } σ2 H2)
theorem z_for {wi : TI} {tb : TS} (h : wi σ H fun J H1 => ForW J g tb D σ H1) : tFor wi g tb D σ H := h
theorem for_src {J : It} {tb : TS} {OK : Hp → Prop} (S : Src J xs OK) (I : Nat → L2.St → Hp → List (Addr × HO) → Prop) (z : Zp G M H) (h0 : I 0 σ G M) (ok : ∀ i σ G M H, I i σ G M → Zp G M H → OK H)
    (turn : ∀ i x σ G M H, xs[i]? = some x → I i σ G M → Zp G M H → g x σ H fun σ2 H2 => tb ⟨fun σ' H' => ∃ G' M', Zp G' M' H' ∧ I (i + 1) σ' G' M', D.rt, D.nx, fun σ' H' => ∃ G' M', Zp G' M' H' ∧ I (i + 1) σ' G' M'⟩ σ2 H2)
    (done : ∀ σ G M H, I xs.length σ G M → Zp G M H → D.nx σ H) : ForW J g tb D σ H := by
  refine ⟨fun i m σ H => m = xs.length - i ∧ i ≤ xs.length ∧ ∃ G M, Zp G M H ∧ I i σ G M, ⟨xs.length, by simp, Nat.zero_le _, G, M, z, h0⟩, ?_⟩
  rintro i m σ H ⟨rfl, hi, G, M, z, h⟩
  have o := ok i σ G M H h z
  by_cases c : i < xs.length
  · refine .inr ⟨S.go i H o c, fun σ' H' => ∃ G' M', Zp G' M' H' ∧ I (i + 1) σ' G' M', fun σ' H' q => ⟨xs.length - (i + 1), by omega, rfl, c, q⟩, fun x H' y => ?_⟩
    obtain ⟨rfl, e⟩ := S.yld i H x H' o c y
    exact turn i x σ G M H' e h z
  · obtain rfl : i = xs.length := by omega
    exact .inl ⟨S.stop _ H o (Nat.le_refl _), done σ G M H h z⟩
/-! ### comprehensions -/
def LcW (J : It) (g : TG) (tt : TT) (te : TE) (ws : List Nat) (σ : L2.St) (H1 : Hp) (Q : VK) : Prop := ∀ D, H1 D = none → ∃ W : Nat → Nat → Hp → Prop, (∃ m, W 0 m (upd H1 D (.lst []))) ∧ ∀ i m H, W i m H →
  (J.stop i H ∧ Q (.ref D) H) ∨ (J.go i H ∧ ∃ Nx : Hp → Prop, (∀ H', Nx H' → ∃ m', m' < m ∧ W (i + 1) m' H') ∧ ∀ x H', J.yld i H x H' → g x (wipe σ ws) H' fun σ2 H2 => wipe σ2 ws = wipe σ ws ∧ tt σ2 H2 fun b H3 =>
    if b = true then te σ2 H3 fun y H4 => ∃ acc, H4 D = some (.lst acc) ∧ acc.length < sizeLine ∧ Nx (upd H4 D (.lst (acc ++ [y]))) else Nx H3)
theorem z_lc {wi : TI} {ws : List Nat} (h : wi σ H fun J H1 => LcW J g tt te ws σ H1 Q) : tLc wi g tt te ws σ H Q := h
def Kept (I : Hp → List (Addr × HO) → List V → Prop) (D : Addr) (H : Hp) : Prop := ∃ G M acc, Zp G (M ++ [(D, .lst acc)]) H ∧ I G M acc
def Laid (I : Hp → List (Addr × HO) → List V → Prop) (D : Addr) (y : V) (H : Hp) : Prop := ∃ acc, H D = some (.lst acc) ∧ acc.length < sizeLine ∧ Kept I D (upd H D (.lst (acc ++ [y])))
theorem last_at {M : List (Addr × HO)} {p : Addr × HO} : (M ++ [p])[M.length]? = some p := by simp
theorem z_laid {I : Hp → List (Addr × HO) → List V → Prop} {Dl : Addr} {acc : List V} (z : Zp G (M ++ [(Dl, .lst acc)]) H) (hl : acc.length ≤ 100000) (q : I G M (acc ++ [y])) : Laid I Dl y H := by
  refine ⟨acc, z.at_ M.length last_at, Nat.lt_of_le_of_lt hl (by decide), G, M, acc ++ [y], ?_, q⟩
  have := z.put M.length last_at (.lst (acc ++ [y]))
  rw [List.set_append_right _ _ (Nat.le_refl _), Nat.sub_self] at this
  exact this
theorem z_left {I : Hp → List (Addr × HO) → List V → Prop} {Dl : Addr} {acc : List V} (z : Zp G (M ++ [(Dl, .lst acc)]) H) (q : I G M acc) : Kept I Dl H := ⟨G, M, acc, z, q⟩
theorem lc_src {J : It} {ws : List Nat} {OK : Hp → Prop} (S : Src J xs OK) (I : Nat → Hp → List (Addr × HO) → List V → Prop) (z : Zp G M H) (h0 : I 0 G M []) (ok : ∀ i G M M1 acc H, I i G M acc → Zp G (M ++ M1) H → OK H)
    (turn : ∀ i x G M acc Dl H, xs[i]? = some x → I i G M acc → Zp G (M ++ [(Dl, .lst acc)]) H → g x (wipe σ ws) H fun σ2 H2 => wipe σ2 ws = wipe σ ws ∧ tt σ2 H2 fun b H3 =>
      Bif b (te σ2 H3 fun y H4 => Laid (I (i + 1)) Dl y H4) (Kept (I (i + 1)) Dl H3))
    (done : ∀ p G M acc G1 H1, I xs.length G M acc → Same G G1 → Zp G1 M H1 → G1 p = some (.lst acc) → Q (.ref p) H1) : LcW J g tt te ws σ H Q := by
  intro Dl hD
  refine ⟨fun i m H => m = xs.length - i ∧ i ≤ xs.length ∧ Kept (I i) Dl H, ⟨xs.length, by simp, Nat.zero_le _, G, M, [], z.add hD _, h0⟩, ?_⟩
  rintro i m H ⟨rfl, hi, G, M, acc, z, h⟩
  have o := ok i G M _ acc H h z
  by_cases c : i < xs.length
  · refine .inr ⟨S.go i H o c, Kept (I (i + 1)) Dl, fun H' q => ⟨xs.length - (i + 1), by omega, rfl, c, q⟩, fun x H' y => ?_⟩
    obtain ⟨rfl, e⟩ := S.yld i H x H' o c y
    exact turn i x G M acc Dl H' e h z
  · obtain rfl : i = xs.length := by omega
    refine .inl ⟨S.stop _ H o (Nat.le_refl _), done Dl G M acc _ H h (Same.new ?_) z.fix upd_same⟩
    exact (z.own M.length _ _ last_at).2
theorem z_yes (q : QB true H) : tYes σ H QB := q
/-! what a for or a comprehension begins with -/
def ItL (K : PySem.W.Frag) (x : V) (H : Hp) (R : It → Hp → Prop) : Prop := ∃ a, x = .ref a ∧ (∃ xs, SqL K H a xs) ∧ R (Itl K a) H
def ItT (K : PySem.W.Frag) (x : V) (H : Hp) (R : It → Hp → Prop) : Prop := ∃ a, x = .ref a ∧ (∃ xs, SqT K H a xs) ∧ R (Itt K a) H
def ItS (x : V) (H : Hp) (R : It → Hp → Prop) : Prop := ∃ s, x = .str s ∧ R (Its s) H
def ItR (vs : List V) (H : Hp) (R : It → Hp → Prop) : Prop := ∃ j : Int, vs = [.int j] ∧ -(2 ^ 62) ≤ j ∧ j < 2 ^ 62 ∧ R (Itr 0 j.toNat) H
variable {R : It → Hp → Prop}
theorem z_iL (h : te σ H fun x H1 => ItL K x H1 R) : iList K te σ H R := h
theorem z_iT (h : te σ H fun x H1 => ItT K x H1 R) : iTup K te σ H R := h
theorem z_iS (h : te σ H fun x H1 => ItS x H1 R) : iStr te σ H R := h
theorem z_iR (h : t σ H fun vs H1 => ItR vs H1 R) : iRng1 t σ H R := h
theorem z_itL (z : Zp G M H) (h : SqL K G a xs) (q : R (Itl K a) H) : ItL K (.ref a) H R := ⟨a, rfl, ⟨xs, z.seqL h⟩, q⟩
theorem z_itT (z : Zp G M H) (h : SqT K G a xs) (q : R (Itt K a) H) : ItT K (.ref a) H R := ⟨a, rfl, ⟨xs, z.seqT h⟩, q⟩
theorem z_itS {s : Str} (q : R (Its s) H) : ItS (.str s) H R := ⟨s, rfl, q⟩
theorem z_itR {j : Int} (h0 : -(2 ^ 62) ≤ j) (h1 : j < 2 ^ 62) (q : R (Itr 0 j.toNat) H) : ItR [.int j] H R := ⟨j, rfl, h0, h1, q⟩
/-! ### a call of a def of the module -/
structure Own (P : Program) (w : World) (K : PySem.W.Frag) (mg : Str → Option Value) (base : Heap) (CX : CXT) (k : Nat) (x : Str) (ps : List Str) (sp : Sp) : Prop where
  ex : ∃ f fd, FnOk P w K mg base CX k f fd ps sp ∧ mg x = some (.ref f) ∧ PySem.W.keepIn K (.ref f) = true ∧ Binds K fd ps []
theorem pe_own {X : Cx} {CX : CXT} {k : Nat} {x : Str} {ps : List Str} {sp : Sp} {E : XK} {p pos : Pos} {e : Expr} {es : List Expr} {t : TA} (C : Own X.prog X.w X.K X.mg X.base CX k x ps sp) (hr : Room k X.A) (hg : Gl X x) (hx : Passes CX X E) (ha : PA X (e :: es) t)
    (hdb : (x == ("__debug__" : Str)) = false := by decide) (he : starEach (e :: es) X.env = (false, eval e X.env) :: starEach es X.env := by rfl) (hpl : (backTo pos (starEach es X.env)).any (·.1) = false := by rfl) :
    PE X (.Call (.Name x p) (e :: es) [] pos) (tCall sp [] E t) := by
  refine ⟨fun pins s σ H Q I h => ?_⟩
  obtain ⟨f, fd, F, hm, hk, hb⟩ := C.ex
  exact (pe_call F hr hg hm hk hb .nil hx ha hdb he hpl).run pins s σ H Q I h
end
end Ys
namespace Ys
open PySem PySem.Spec PyProof.Rows L2
section
variable {K : PySem.W.Frag} {P : Program} {w : World} {G G1 H : Hp} {M M1 : List (Addr × HO)} {σ : L2.St} {Q : VK} {QB : Bool → Hp → Prop} {D : Ends} {tc : TT} {tb t1 t2 : TS} {A B : Prop} {v x y : V} {i j : Int} {a b p : Addr} {xs ys vs : List V} {o : HO} {u : Addr × HO}
theorem Zp.perm (z : Zp G M H) (h : M.Perm M1) : Zp G M1 H where
  sub := z.sub
  own := fun i q o e => by
    obtain ⟨j, hj⟩ := List.getElem?_of_mem (h.mem_iff.mpr (List.mem_of_getElem? e))
    exact z.own j q o hj
  nd := (h.map _).nodup_iff.mp z.nd
theorem Zp.keep (z : Zp G M H) (h : M1.Sublist M) : Zp G M1 H where
  sub := z.sub
  own := fun i q o e => by
    obtain ⟨j, hj⟩ := List.getElem?_of_mem (h.subset (List.mem_of_getElem? e))
    exact z.own j q o hj
  nd := (h.map _).nodup z.nd
theorem Zp.addP (z : Zp G (u :: M) H) (h : H p = none) (o : HO) : Zp G (u :: (p, o) :: M) (upd H p o) :=
  (z.add h o).perm (by
    rw [List.cons_append]
    exact List.Perm.cons _ (List.perm_append_comm (l₁ := M) (l₂ := [(p, o)])))
theorem Zp.drop2 (z : Zp G (u :: (p, o) :: M) H) : Zp G (u :: M) H :=
  Zp.cut (M := u :: M) (M1 := [(p, o)]) (z.perm (by
    rw [List.cons_append]
    exact List.Perm.cons _ (List.perm_append_comm (l₁ := [(p, o)]) (l₂ := M))))
theorem Zp.fix2 (z : Zp G (u :: (p, o) :: M) H) : Zp (upd G p o) (u :: M) H ∧ G p = none :=
  have z2 : Zp G ((u :: M) ++ [(p, o)]) H := z.perm (by
    rw [List.cons_append]
    exact List.Perm.cons _ (List.perm_append_comm (l₁ := [(p, o)]) (l₂ := M)))
  ⟨z2.fix, (z2.own (u :: M).length p o (by simp)).2⟩
theorem z_listP (z : Zp G (u :: M) H) (h : SqL K G a xs ∨ SqT K G a xs) (q : ∀ p H1, Zp G (u :: (p, .lst xs) :: M) H1 → Q (.ref p) H1) : rListG K [.ref a] H Q :=
  ⟨a, xs, rfl, h.imp z.seqL z.seqT, fun p hp => q p _ (z.addP hp _)⟩
theorem z_ownP (z : Zp G (u :: M) H) (hl : xs.length ≤ 100000) (q : ∀ p H1, Zp G (u :: (p, .lst xs) :: M) H1 → Q (.ref p) H1) : NewL xs H Q :=
  ⟨Nat.le_trans hl (by decide), fun p hp => q p _ (z.addP hp _)⟩
theorem z_bd {p : Prop} {i : Decidable p} (h1 : p → A) (h2 : ¬ p → B) : Bif (@decide p i) A B := z_bD h1 h2
theorem z_cut (I : L2.St → Hp → Prop) (h1 : ∀ nx, (∀ σ H, I σ H → nx σ H) → t1 ⟨nx, D.rt, D.bk, D.ct⟩ σ H) (h2 : ∀ σ H, I σ H → t2 D σ H) : tSeq t1 t2 D σ H := h1 (t2 D) h2
theorem mw (h1 : -18446744073709551616 < i) (h2 : i < 18446744073709551616) (h3 : -18446744073709551616 < j) (h4 : j < 18446744073709551616) : CMulW i j := wide_mul (a := 64) (b := 64) (by omega) (by omega) (by decide) (by decide) (by decide)
theorem dw (h1 : 0 < j) (h2 : j ≤ 1000000000) : CDivW i j := wide_div (b := 30) h1 (by omega) (by decide) (by decide)
def Par2 (k l : Nat) (D : Ends) (σ : L2.St) (vs : List V) (H1 : Hp) : Prop := ∃ v w, vs = [v, w] ∧ D.nx ((σ.set k (some v)).set l (some w)) H1
theorem z_pr {k l : Nat} {t : TA} (h : t σ H (Par2 k l D σ)) : tPar k l t D σ H := h
theorem z_pr2 {k l : Nat} (q : D.nx ((σ.set k (some x)).set l (some y)) H) : Par2 k l D σ [x, y] H := ⟨x, y, rfl, q⟩
theorem rng_at {lo : Int} {n k : Nat} {x : V} (h : (rngV lo n)[k]? = some x) : k < n ∧ x = .int (lo + (k : Int)) := by
  have hi := (List.getElem?_eq_some_iff.mp h).1
  rw [rngV_len] at hi
  refine ⟨hi, ?_⟩
  unfold rngV at h
  rw [List.getElem?_map, List.getElem?_range hi] at h
  exact (Option.some.inj h).symm
/-! ### while -/
def WhB (I : Nat → L2.St → Hp → List (Addr × HO) → Prop) (n : Nat) (tb : TS) (D : Ends) (σ : L2.St) (b : Bool) (H1 : Hp) : Prop :=
  if b = true then ∃ N : L2.St → Hp → Prop, (∀ σ' H', N σ' H' → ∃ m', m' < n ∧ ∃ G M, Zp G M H' ∧ I m' σ' G M) ∧ tb { D with nx := N, ct := N, bk := D.nx } σ H1 else D.nx σ H1
theorem z_while (I : Nat → L2.St → Hp → List (Addr × HO) → Prop) (n : Nat) (z : Zp G M H) (h0 : I n σ G M) (turn : ∀ n σ G M H, I n σ G M → Zp G M H → tc σ H (WhB I n tb D σ)) : tWhile tc tb D σ H :=
  ⟨fun m σ H => ∃ G M, Zp G M H ∧ I m σ G M, ⟨n, G, M, z, h0⟩, fun m σ H ⟨G, M, z, h⟩ => turn m σ G M H h z⟩
theorem z_whT {I : Nat → L2.St → Hp → List (Addr × HO) → Prop} {n : Nat} (h : tb ⟨fun σ' H' => ∃ m', m' < n ∧ ∃ G M, Zp G M H' ∧ I m' σ' G M, D.rt, D.nx, fun σ' H' => ∃ m', m' < n ∧ ∃ G M, Zp G M H' ∧ I m' σ' G M⟩ σ H) : WhB I n tb D σ true H := by
  unfold WhB
  rw [if_pos rfl]
  exact ⟨_, fun _ _ h => h, h⟩
theorem z_whF {I : Nat → L2.St → Hp → List (Addr × HO) → Prop} {n : Nat} (h : D.nx σ H) : WhB I n tb D σ false H := by
  unfold WhB
  rw [if_neg Bool.false_ne_true]
  exact h
/-! ### data -/
theorem dts_int : ∀ cells : List Int, Dts K G (cells.map V.int) (cells.map PyData.int)
  | [] => .nil
  | c :: cs => .cons (.int c) (dts_int cs)
theorem dts_str : ∀ ss : List Str, Dts K G (ss.map V.str) (ss.map PyData.str)
  | [] => .nil
  | c :: cs => .cons (.str c) (dts_str cs)
def El (K : PySem.W.Frag) (G : Hp) (v : V) : Prop := ∃ d, Dt K G v d ∧ d.canLay0 = true ∧ d.depth ≤ 60
theorem El.up (s : Same G G1) : El K G v → El K G1 v := fun ⟨d, h, c⟩ => ⟨d, h.up s, c⟩
theorem El.str {s : Str} (h : PyData.strOk s = true) : El K G (.str s) := ⟨.str s, .str s, h, Nat.zero_le _⟩
theorem El.int (i : Int) : El K G (.int i) := ⟨.int i, .int i, rfl, Nat.zero_le _⟩
theorem El.non : El K G .non := ⟨.none, .non, rfl, Nat.zero_le _⟩
theorem El.all : ∀ {xs : List V}, (∀ v ∈ xs, El K G v) → ∃ ds, Dts K G xs ds ∧ PyData.canLayAll0 ds = true ∧ PyData.depthAll ds ≤ 60 ∧ (ds = [] ↔ xs = [])
  | [], _ => ⟨[], .nil, rfl, by decide, by simp⟩
  | x :: xs, h => by
    obtain ⟨d, h1, h2, h3⟩ := h x (List.mem_cons_self ..)
    obtain ⟨ds, g1, g2, g3, _⟩ := El.all (xs := xs) fun v hv => h v (List.mem_cons_of_mem _ hv)
    refine ⟨d :: ds, .cons h1 g1, ?_, ?_, by simp⟩
    · show (d.canLay0 && PyData.canLayAll0 ds) = true
      rw [h2, g2]
      rfl
    · show max d.depth (PyData.depthAll ds) ≤ 60
      omega
theorem shp {ds : List PyData} (c : PyData.canLayAll0 ds = true) (d : PyData.depthAll ds ≤ 60) : SeqAt.shaped (.list ds) = true := by
  unfold SeqAt.shaped
  have e : PyData.canLay0 (.list ds) = true := c
  have e2 : PyData.depth (.list ds) = PyData.depthAll ds + 1 := rfl
  rw [e, e2]
  simp
  omega
theorem shpT {ds : List PyData} (c : PyData.canLayAll0 ds = true) (d : PyData.depthAll ds ≤ 60) : SeqAt.shaped (.tuple ds) = true := by
  unfold SeqAt.shaped
  have e : PyData.canLay0 (.tuple ds) = true := c
  have e2 : PyData.depth (.tuple ds) = PyData.depthAll ds + 1 := rfl
  rw [e, e2]
  simp
  omega
theorem z_neNil (hl : SqL K H a xs) (h2 : H b = some (.lst [])) (q : Q (.bl (decide (xs ≠ []))) H) : rNeG K (.ref a) (.ref b) H Q := by
  cases xs with
  | nil => exact .inr (.inl ⟨.list [], .list [], Dt.dp _ _ rfl (.lst hl .nil), Dt.dp _ _ rfl (.lst (SqL.of h2) .nil), rfl, rfl, q⟩)
  | cons x xs => exact .inr (.inr ⟨a, b, _, [], rfl, rfl, hl, SqL.of h2, by simp, q⟩)
theorem z_eqNil (hl : SqL K H a xs) (h2 : H b = some (.lst [])) (q : Q (.bl (decide (xs = []))) H) : rEqG K (.ref a) (.ref b) H Q := by
  cases xs with
  | nil => exact .inr (.inl ⟨.list [], .list [], Dt.dp _ _ rfl (.lst hl .nil), Dt.dp _ _ rfl (.lst (SqL.of h2) .nil), rfl, rfl, q⟩)
  | cons x xs => exact .inr (.inr ⟨a, b, _, [], rfl, rfl, hl, SqL.of h2, by simp, q⟩)
/-! ### a dict that is written down -/
variable {ps : List (V × V)} {tk tv : TE} {trs : List (TE × TE)} {QP : List (V × V) → Hp → Prop}
def DispE (p : Addr) (ps : List (V × V)) (H : Hp) (Q : VK) : Prop := H p = some (.dK []) ∧ ∃ kvs : List (Key × V), ps = kvs.map (fun kv => (kV kv.1, kv.2)) ∧ kvs.length ≤ 15 ∧ Q (.ref p) (upd H p (.dK (mergeK [] kvs)))
theorem z_disp (z : Zp G M H) (h : ∀ p H1, Zp G (M ++ [(p, .dK [])]) H1 → tPairs trs σ H1 fun ps H2 => DispE p ps H2 Q) : tDisp trs σ H Q := fun p hp => h p _ (z.add hp _)
theorem z_pn (q : QP [] H) : tPairs [] σ H QP := q
theorem z_pc (h : tk σ H fun x H1 => tv σ H1 fun y H2 => tPairs trs σ H2 fun ps H3 => QP ((x, y) :: ps) H3) : tPairs ((tk, tv) :: trs) σ H QP := h
theorem z_dispE (z : Zp G (M ++ [(p, .dK [])]) H) (kvs : List (Key × V)) (e : ps = kvs.map (fun kv => (kV kv.1, kv.2))) (hl : kvs.length ≤ 15) (q : ∀ H3, Zp G (M ++ [(p, .dK (mergeK [] kvs))]) H3 → Q (.ref p) H3) : DispE p ps H Q := by
  refine ⟨z.at_ M.length last_at, kvs, e, hl, q _ ?_⟩
  have := z.put M.length last_at (.dK (mergeK [] kvs))
  rw [List.set_append_right _ _ (Nat.le_refl _), Nat.sub_self] at this
  exact this
/-! ### looks into lists -/
theorem at_in {α : Type} {xs : List α} {i : Int} (h0 : 0 ≤ i) (h1 : i < xs.length) : ∃ v, v ∈ xs ∧ atI xs i = some v := by
  obtain ⟨k, rfl⟩ := Int.eq_ofNat_of_zero_le h0
  have hk : k < xs.length := by omega
  exact ⟨xs[k], List.getElem_mem hk, atI_nat (by simp [hk])⟩
theorem cut_map {α : Type} (f : α → V) (xs : List α) (lo hi : Option Int) : cutV (xs.map f) lo hi = ((xs.drop (HT.sIx xs.length 0 lo)).take (HT.sIx xs.length xs.length hi - HT.sIx xs.length 0 lo)).map f := by
  unfold cutV
  rw [List.length_map, List.map_take, List.map_drop]
end
end Ys
namespace Ys
open PySem PySem.Spec PyProof.Rows L2 TL
theorem erase_perm {α : Type} : ∀ {zs : List α} {k : Nat} (h : k < zs.length), (zs[k] :: zs.eraseIdx k).Perm zs
  | x :: xs, 0, _ => List.Perm.refl _
  | x :: xs, k + 1, h => by
    show (xs[k]'(by simpa using h) :: x :: xs.eraseIdx k).Perm (x :: xs)
    exact (List.Perm.swap _ _ _).trans (List.Perm.cons _ (erase_perm (by simpa using h)))
/-! ### words -/
def Lt (s : Str) : Prop := ∀ c ∈ s.cps.toList, 97 ≤ c ∧ c ≤ 122
def Wd (s : Str) : Prop := 1 ≤ s.length ∧ s.length ≤ 8 ∧ Lt s
theorem Lt.app {x y : Str} (hx : Lt x) (hy : Lt y) : Lt (x ++ y) := fun c hc => by
  have e : (x ++ y).cps.toList = x.cps.toList ++ y.cps.toList := by
    show (x.cps ++ y.cps).toList = _
    rw [Array.toList_append]
  rw [e] at hc
  rcases List.mem_append.mp hc with h | h
  · exact hx c h
  · exact hy c h
theorem Lt.cut {x : Str} (hx : Lt x) (lo hi : Option Int) : Lt (cutS x lo hi) := fun c hc => hx c (List.mem_of_mem_drop (List.mem_of_mem_take (by simpa [cutS] using hc)))
theorem len_app (x y : Str) : (x ++ y).length = x.length + y.length := PySem.Str.length_append x y
theorem Lt.one {c : Nat} (h : 97 ≤ c ∧ c ≤ 122) : Lt ⟨#[c]⟩ := fun d hd => by
  obtain rfl : d = c := by simpa using hd
  exact h
theorem Lt.ok {s : Str} (h : Lt s) : PyData.strOk s = true := by
  unfold PyData.strOk
  rw [Array.all_eq_true_iff_forall_mem]
  intro c hc
  have := (h c (by simpa using hc)).2
  exact decide_eq_true (by omega)
theorem abc_mem {c : Nat} (h : c ∈ (("abcdefghijklmnopqrstuvwxyz" : Str)).cps.toList) : 97 ≤ c ∧ c ≤ 122 := by
  have e : (("abcdefghijklmnopqrstuvwxyz" : Str)).cps.toList = (List.range 26).map (· + 97) := by decide +kernel
  rw [e] at h
  obtain ⟨k, hk, rfl⟩ := List.mem_map.mp h
  have := List.mem_range.mp hk
  omega
theorem abc_len : (("abcdefghijklmnopqrstuvwxyz" : Str)).length = 26 := by decide +kernel
theorem joinL0 : ∀ {ps : List (List Nat)} {c : Nat}, c ∈ joinL [] ps → ∃ p ∈ ps, c ∈ p
  | [], _, h => by simp [joinL] at h
  | [p], _, h => ⟨p, by simp, by simpa [joinL] using h⟩
  | p :: q :: r, c, h => by
    have h' : c ∈ p ++ ([] ++ joinL [] (q :: r)) := by simpa [joinL] using h
    rcases List.mem_append.mp h' with h | h
    · exact ⟨p, by simp, h⟩
    · obtain ⟨x, hx, hc⟩ := joinL0 (ps := q :: r) (by simpa using h)
      exact ⟨x, List.mem_cons_of_mem _ hx, hc⟩
theorem Lt.join {ss : List Str} (h : ∀ s ∈ ss, Lt s) : Lt (Txt.join "" ss) := fun c hc => by
  have e : (Txt.join "" ss).cps.toList = joinL (tl ("" : Str)) (ss.map tl) := by
    rw [join_eq]
    exact tl_join "" ss
  have e0 : tl ("" : Str) = [] := by decide +kernel
  rw [e, e0] at hc
  obtain ⟨p, hp, hc⟩ := joinL0 hc
  obtain ⟨s, hs, rfl⟩ := List.mem_map.mp hp
  exact h s hs c hc
theorem cutS_len (x : Str) (lo hi : Option Int) : (cutS x lo hi).length = HT.sIx x.length x.length hi - HT.sIx x.length 0 lo := by
  have h2 := HT.sIx_le x.length x.length (Nat.le_refl _) hi
  show ((((x.cps.toList.drop (HT.sIx x.length 0 lo)).take (HT.sIx x.length x.length hi - HT.sIx x.length 0 lo)).toArray).size) = _
  rw [List.size_toArray, List.length_take, List.length_drop, Array.length_toList]
  show min _ (x.length - _) = _
  omega
section
variable {X : Cx} {o e : Expr} {to te : TE}
theorem pe_joinG {apos pos : Pos} (ho : PE X o to) (he : PE X e te) (hs : starEach [e] X.env = [(false, eval e X.env)] := by rfl) (hbase : attributeBase o "join" X.env (eval o X.env) = eval o X.env := by rfl) (hline : (apos.endLine == pos.line) = true := by rfl) :
    PE X (.Call (.Attribute o "join" apos) [e] [] pos) (tM1 (rJoin X.K) to te) := pe_join ho he hs hbase hline
end
end Ys
namespace Ys
open PySem PySem.Spec PyProof.Rows L2
section
variable {M : Model} {prog : Program} {w : World} {A : Around} {E : Value → Shared → Prop} {s : Shared} {K : PySem.W.Frag} {x C f : Addr} {ox : Obj} {od : Option Obj} {b tb : Value}
theorem ifBound_objNe {args : List Value} {Q : Option Value → Shared → Prop} (X : K.In s.heap) (I : PySem.W.InstAt s.heap x ox C od) (hs : PySem.W.findIn K (.ref C) "__ne__" = some (some (.builtin "object.__ne__")))
    (h : wpAny M A (call (.builtin "object.__ne__") (.ref x :: args)) (fun v => Q (some v)) E s) : wpAny M A (callSpecialIfBound? (.ref x) "__ne__" args) Q E s := by
  simp only [callSpecialIfBound?, bindSpecialIfBound?]
  refine wpAny_holding (wpAny_bind (wpAny_bind (wpAny_bind (I.type.here ((PySem.W.looks_findIn X hs).here ?_)))))
  refine wpAny_bind (wpAny_askSetting (wpAny_ite ?_))
  have fin : wpAny M A (call (.builtin "object.__ne__") ([.ref x] ++ args) >>= fun v => pure (some v)) Q E s := wpAny_bind (wpAny_mono h (fun v s' h' => wpAny_pure h') fun _ _ h' => h')
  split
  · exact wpAny_bind (wpAny_of_eq (F.cmp_object.ne.bind _) (wpAny_pure (by exact fin)))
  · exact wpAny_tryCatch (wpAny_bind (wpAny_of_eq (F.cmp_object.ne.bind _) (wpAny_pure (by exact fin))))
def BackB (Q : Bool → Shared → Prop) (v : Value) (s' : Shared) : Prop := ∃ r, v = .bool r ∧ Q r s'
theorem ne_K {Q : Value → Shared → Prop} (hu : A.units + 1 < cLine) (X : K.In s.heap) (I : PySem.W.InstAt s.heap x ox C od) (hb : PySem.W.Looks (model prog w) s.heap (typeOf b) tb) (hn : PySem.W.notFirst K C tb = true)
    (hm : PySem.W.mroIn K C (.type "object") = some true) (hs : PySem.W.findIn K (.ref C) "__ne__" = some (some (.builtin "object.__ne__"))) (he : PySem.W.findIn K (.ref C) "__eq__" = some (some (.ref f))) (hf : PySem.W.isFn K (.ref f) = true)
    (h : wpAny (model prog w) A.in1 (call (.ref f) [.ref x, b]) (BackB fun r s' => Q (.bool (!r)) s') E s) : wpAny (model prog w) A (richCompare .NotEq (.ref x) b) Q E s := by
  have ent : wpAny (model prog w) A.in1 (Builtin.«object.__ne__» ⟨[.ref x, b], []⟩) (fun r s' => ∃ v, r = .done (.ret (.bool v)) ∧ Q (.bool v) s') E s := by
    unfold Builtin.«object.__ne__»
    repeat (first
      | with_reducible refine wpAny_cRoomFor hu ?_
      | (refine wpAny_bind (m := callSpecialIfBound? (.ref x) (Str.ofString "__eq__") [b])
          (PySem.W.ifBound_K X I he hf (wpAny_mono h (fun r s' hr => by
            obtain ⟨b, rfl, hq⟩ := hr
            repeat (first | exact ⟨_, rfl, hq⟩ | exact wpAny_pure ⟨_, rfl, hq⟩ | (refine wpAny_bind (m := truthy (.bool _)) (wpAny_truthy_bool ?_)) | wp_step)) fun _ _ e => e)))
      | wp_step)
  have one : wpAny (model prog w) A (tryCompare (.ref x) "__ne__" b) (fun r s' => ∃ v, r = some v ∧ Q v s') E s := by
    unfold tryCompare
    refine wpAny_bind (ifBound_objNe X I hs ?_)
    refine wpAny_call (codeAny_call_builtin F.cmp_object.ne.plain F.cmpEntry_ne (PySem.W.check_slot F.cmpKind_ne F.cmpSplit_ne (I.type.andThen (PySem.W.looks_mroIn X hm)) (F.cmpArgs_ne _ _) ?_))
    refine wpAny_mono ent (fun r s' hq => ?_) fun _ _ e => e
    obtain ⟨v, rfl, hq⟩ := hq
    first
      | exact wpAny_pure ⟨_, rfl, hq⟩
      | exact ⟨_, rfl, wpAny_pure ⟨_, rfl, hq⟩⟩
  unfold richCompare
  simp only [oneThing_ref]
  refine wpAny_holding (wpAny_bind (wpAny_cRoomFor (Nat.lt_of_succ_lt hu) ?_))
  refine wpAny_bind (I.type.here (wpAny_bind (hb.here ?_)))
  split
  · rename_i q
    have e : PySem.W.subIn K tb (.ref C) = some false := by
      rcases Bool.or_eq_true_iff.mp hn with e | e
      · rw [beq_iff_eq.mp e] at q; simp at q
      · exact beq_iff_eq.mp e
    refine wpAny_bind ((PySem.W.looks_subIn X e).here ?_)
    simp only [Bool.false_eq_true, if_false]
    refine wpAny_bind (wpAny_mono one (fun r s' z => ?_) fun _ _ e => e)
    obtain ⟨v, rfl, hq⟩ := z
    exact wpAny_pure hq
  · refine wpAny_bind (wpAny_pure ?_)
    simp only [Bool.false_eq_true, if_false]
    refine wpAny_bind (wpAny_mono one (fun r s' z => ?_) fun _ _ e => e)
    obtain ⟨v, rfl, hq⟩ := z
    exact wpAny_pure hq
end
section
variable {X : Cx} {CX : CXT} {n : Nat} {C f : Addr} {fd : FuncData} {ps : List Str} {sp : Sp} {E : XK}
def rEqI (K : PySem.W.Frag) (C : Addr) (sp : Sp) (E : XK) : R2 := fun x y H Q => ∃ a dx fs t, x = .ref a ∧ H a = some (.ins C dx fs) ∧ TyX K H y t ∧ PySem.W.notFirst K C t = true ∧ sp [x, y] H (fun v H' => ∃ b, v = .bl b ∧ Q (.bl b) H') E
def rNeI (K : PySem.W.Frag) (C : Addr) (sp : Sp) (E : XK) : R2 := fun x y H Q => ∃ a dx fs t, x = .ref a ∧ H a = some (.ins C dx fs) ∧ TyX K H y t ∧ PySem.W.notFirst K C t = true ∧ sp [x, y] H (fun v H' => ∃ b, v = .bl b ∧ Q (.bl (!b)) H') E
theorem op_eqI (F : FnOk X.prog X.w X.K X.mg X.base CX n f fd ps sp) (hs : PySem.W.findIn X.K (.ref C) "__eq__" = some (some (.ref f))) (hf : PySem.W.isFn X.K (.ref f) = true) (hb : Binds X.K fd ps []) (hx : Passes CX X E) (hr : Room n X.A) :
    OpR X (compareOp .Eq) (rEqI X.K C sp E) := by
  intro pins s σ H x y v u Q I rx ry ⟨a, dx, fs, t, e1, ha, ty, nf, q⟩
  subst e1
  cases rx
  obtain ⟨mA, J, _⟩ := ins_get I.hok ha
  obtain ⟨od, J, _⟩ := J.look
  obtain ⟨P, Z, p, _⟩ := kit_of I ry ty
  obtain ⟨m, hF⟩ := I.fr
  show wpAny (model X.prog X.w) X.A (richCompare .Eq (.ref a) u) (EP X pins σ Q) X.xe s
  refine PySem.W.cmp_K (op := .Eq) (tb := t) hr.units0 hF I.ok.mod.kin J (Z.ty _ _ I.kIn p) nf hs hf ?_
  have hl := F.len _ _ _ _ q
  refine wpAny_call (codeAny_mono (F.run X.A X.stack s H ⟨[.ref a, u], []⟩ [.ref a, u] [.ref a, y] _ E hr I.env0 (by
    have := hb s [.ref a, u] I.kIn (by simpa using hl)
    simpa using this) (.cons rfl (.cons ry .nil)) q) fun r s' hq => ?_)
  cases r with
  | error e => exact hx pins σ H s e s' I hq
  | ok fl =>
    cases fl with
    | ret w =>
      obtain ⟨z, H', I', rz, b, rfl, q2⟩ := I.after hq
      cases rz
      exact ⟨.bl b, H', I', rfl, q2⟩
    | next => exact False.elim hq
    | brk => exact False.elim hq
    | cont => exact False.elim hq
theorem op_neI (F : FnOk X.prog X.w X.K X.mg X.base CX n f fd ps sp) (he : PySem.W.findIn X.K (.ref C) "__eq__" = some (some (.ref f))) (hs : PySem.W.findIn X.K (.ref C) "__ne__" = some (some (.builtin "object.__ne__"))) (hm : PySem.W.mroIn X.K C (.type "object") = some true)
    (hf : PySem.W.isFn X.K (.ref f) = true) (hb : Binds X.K fd ps []) (hx : Passes CX X E) (hr : Room (n + 1) X.A) : OpR X (compareOp .NotEq) (rNeI X.K C sp E) := by
  intro pins s σ H x y v u Q I rx ry ⟨a, dx, fs, t, e1, ha, ty, nf, q⟩
  subst e1
  cases rx
  obtain ⟨mA, J, _⟩ := ins_get I.hok ha
  obtain ⟨od, J, _⟩ := J.look
  obtain ⟨P, Z, p, _⟩ := kit_of I ry ty
  show wpAny (model X.prog X.w) X.A (richCompare .NotEq (.ref a) u) (EP X pins σ Q) X.xe s
  refine ne_K (by have := hr.units; omega) I.kIn J (Z.ty _ _ I.kIn p) nf hm hs he hf ?_
  have hl := F.len _ _ _ _ q
  refine wpAny_call (codeAny_mono (F.run X.A.in1 X.stack s H ⟨[.ref a, u], []⟩ [.ref a, u] [.ref a, y] _ E hr.in1 I.env0.in1 (by
    have := hb s [.ref a, u] I.kIn (by simpa using hl)
    simpa using this) (.cons rfl (.cons ry .nil)) q) fun r s' hq => ?_)
  cases r with
  | error e => exact hx pins σ H s e s' I hq
  | ok fl =>
    cases fl with
    | ret w =>
      obtain ⟨z, H', I', rz, b, rfl, q2⟩ := I.after hq
      cases rz
      exact ⟨b, rfl, .bl (!b), H', I', rfl, q2⟩
    | next => exact False.elim hq
    | brk => exact False.elim hq
    | cont => exact False.elim hq
end
end Ys
namespace Ys
open PySem PySem.Spec PyProof.Rows L2
section
variable {X : Cx} {K : PySem.W.Frag} {P : Program} {w : World} {G G1 H : Hp} {M M1 : List (Addr × HO)} {σ : L2.St} {Q : VK} {QB : Bool → Hp → Prop} {D : Ends} {tc : TT} {ta te tb : TE} {t : TA} {A B : Prop} {v x y : V} {i j : Int} {a b p : Addr} {xs ys vs : List V} {o : HO} {d : PyData} {R : It → Hp → Prop}
/-! ### what is walked: a list, a tuple or a text -/
def iOr (i1 i2 : TI) : TI := fun σ H R => i1 σ H R ∨ i2 σ H R
theorem pi_or {tg e : Expr} {i1 i2 : TI} (h1 : PI X tg e i1) (h2 : PI X tg e i2) : PI X tg e (iOr i1 i2) := ⟨fun pins s σ H R I h => h.elim (h1.run pins s σ H R I) (h2.run pins s σ H R I)⟩
def iAny (K : PySem.W.Frag) (te : TE) : TI := iOr (iList K te) (iOr (iTup K te) (iStr te))
theorem pi_any {tg e : Expr} (h : PE X e te) : PI X tg e (iAny X.K te) := pi_or (pi_list h) (pi_or (pi_tup h) (pi_str h))
theorem z_anyL (h : te σ H fun x H1 => ItL K x H1 R) : iAny K te σ H R := .inl h
theorem z_anyT (h : te σ H fun x H1 => ItT K x H1 R) : iAny K te σ H R := .inr (.inl h)
theorem z_anyS (h : te σ H fun x H1 => ItS x H1 R) : iAny K te σ H R := .inr (.inr h)
/-! ### isinstance -/
def rIsiG (K : PySem.W.Frag) : List V → Hp → VK → Prop := fun xs H Q => rIsi K xs H Q ∨ rIsiT K xs H Q
theorem c_isi : CallR X (.builtin "isinstance") (rIsiG X.K) := CallR.or call_isi call_isiT
theorem z_isi {t u : Value} {r : Bool} {c : V} (k : ClsV c u) (ty : TyX K H x t) (e : PySem.W.kitOne K t u = some r) (q : Q (.bl r) H) : rIsiG K [x, c] H Q := .inl ⟨x, c, t, u, r, rfl, k, ty, e, q⟩
theorem z_isi2 {cs : List V} {t : Value} {us : List Value} {r : Bool} (z : Zp G M H) (h : G a = some (.tup cs)) (k : Paired ClsV cs us) (ty : TyX K H x t) (e : PySem.W.kitAny K t us = some r) (q : Q (.bl r) H) : rIsiG K [x, .ref a] H Q :=
  .inr ⟨x, a, cs, t, us, r, rfl, z.sub _ _ h, k, ty, e, q⟩
def tyD : PyData → String
  | .none => "NoneType"
  | .bool _ => "bool"
  | .int _ => "int"
  | .str _ => "str"
  | .list _ => "list"
  | .tuple _ => "tuple"
  | .dict _ => "dict"
theorem tyL (h : SqL K H a xs) : TyX K H (.ref a) (.type "list") := by
  rcases h with (h | ⟨o, h⟩) | ⟨o, its, n, hk, hc, _⟩
  · exact .base (.lst h)
  · exact .base (.frz h)
  · exact .kList hk hc
theorem tyT (h : SqT K H a xs) : TyX K H (.ref a) (.type "tuple") := by
  rcases h with (h | ⟨o, h⟩) | ⟨o, its, n, hk, hc, _⟩
  · exact .base (.tup h)
  · exact .fTuple h
  · exact .kTuple hk hc
theorem Dt.ty (h : Dt K H v d) : TyX K H v (.type (tyD d)) := by
  cases h with
  | non => exact .base .non
  | bl b => exact .base (.bl b)
  | int i => exact .base (.int i)
  | str x => exact .base (.str x)
  | lst h _ => exact tyL h
  | tup h _ => exact tyT h
  | dct h _ _ =>
    rcases h with h | ⟨o, h⟩
    · exact .base (.dK h)
    · exact .fDict h
def Ar (K : PySem.W.Frag) (G : Hp) (M : List (Addr × HO)) (v : V) (d : PyData) : Prop := Dt K G v d ∨ ∃ a xs ds, v = .ref a ∧ (a, .lst xs) ∈ M ∧ Dts K G xs ds ∧ d = .list ds
theorem Ar.up (s : Same G G1) (h : Ar K G M v d) : Ar K G1 M v d := h.imp (fun h => h.up s) fun ⟨a, xs, ds, e, m, h, e2⟩ => ⟨a, xs, ds, e, m, h.up s, e2⟩
theorem Ar.sub (s : ∀ u ∈ M, u ∈ M1) (h : Ar K G M v d) : Ar K G M1 v d := h.imp id fun ⟨a, xs, ds, e, m, h, e2⟩ => ⟨a, xs, ds, e, s _ m, h, e2⟩
theorem Zp.mem (z : Zp G M H) (h : (a, o) ∈ M) : H a = some o := by
  obtain ⟨i, hi⟩ := List.getElem?_of_mem h
  exact (z.own i a o hi).1
theorem Ar.dt (z : Zp G M H) (h : Ar K G M v d) : Dt K H v d := by
  rcases h with h | ⟨a, xs, ds, rfl, m, h, rfl⟩
  · exact z.dt h
  · exact .lst (SqL.of (z.mem m)) (h.up z.sub)
theorem Ar.ty (z : Zp G M H) (h : Ar K G M v d) : TyX K H v (.type (tyD d)) := (h.dt z).ty
theorem Ar.list {ds : List PyData} (z : Zp G M H) (h : Ar K G M v (.list ds)) : ∃ a xs, v = .ref a ∧ SqL K H a xs ∧ Dts K G xs ds ∧ ∀ G1 H1, Zp G1 M H1 → Same G G1 → SqL K H1 a xs := by
  rcases h with h | ⟨a, xs, ds', rfl, m, h, e⟩
  · cases h with
    | lst h1 h2 => exact ⟨_, _, rfl, z.seqL h1, h2, fun G1 H1 z1 s1 => z1.seqL (upL s1 h1)⟩
  · cases e
    exact ⟨a, xs, rfl, SqL.of (z.mem m), h, fun G1 H1 z1 s1 => SqL.of (z1.mem m)⟩
theorem Ar.tup {ds : List PyData} (h : Ar K G M v (.tuple ds)) : ∃ a xs, v = .ref a ∧ SqT K G a xs ∧ Dts K G xs ds := by
  rcases h with h | ⟨a, xs, ds', rfl, m, h, e⟩
  · cases h with
    | tup h1 h2 => exact ⟨_, _, rfl, h1, h2⟩
  · cases e
theorem Ar.str {s : Str} (h : Ar K G M v (.str s)) : v = .str s := by
  rcases h with h | ⟨a, xs, ds', rfl, m, h, e⟩
  · cases h; rfl
  · cases e
theorem Dts.len {ds : List PyData} : ∀ {xs : List V} {ds : List PyData}, Dts K G xs ds → xs.length = ds.length
  | _, _, .nil => rfl
  | _, _, .cons _ h => congrArg Nat.succ (Dts.len (ds := ds) h)
theorem Dts.at_ : ∀ {xs : List V} {ds : List PyData} {k : Nat} {x : V}, Dts K G xs ds → xs[k]? = some x → ∃ d, ds[k]? = some d ∧ Dt K G x d
  | _, _, 0, x, .cons h _, e => by
    simp at e
    exact ⟨_, rfl, e ▸ h⟩
  | _, _, k + 1, x, .cons _ h, e => by
    have := Dts.at_ (k := k) h (by simpa using e)
    simpa using this
/-! ### constants of the module -/
def GC (mg : Str → Option Value) (x : Str) (v : V) : Prop := ∃ u, mg x = some u ∧ RelV v u
theorem pe_gC {x : Str} {pos : Pos} (h : GC X.mg x v) (hg : Gl X x) (hd : (x == ("__debug__" : Str)) = false := by decide) : PE X (.Name x pos) (tC v) := by
  obtain ⟨u, hm, r⟩ := h
  exact ⟨fun pins s σ H Q I h => (pe_glob (v := v) hg hm r hd).run pins s σ H Q I h⟩
/-! ### calls with defaults, properties, methods, making -/
structure OwnA (P : Program) (w : World) (K : PySem.W.Frag) (mg : Str → Option Value) (base : Heap) (CX : CXT) (k : Nat) (x : Str) (ps : List Str) (dvs : List V) (sp : Sp) : Prop where
  ex : ∃ f fd ds, FnOk P w K mg base CX k f fd ps sp ∧ mg x = some (.ref f) ∧ PySem.W.keepIn K (.ref f) = true ∧ Binds K fd ps ds ∧ Vals dvs ds
theorem pe_ownA {CX : CXT} {k : Nat} {x : Str} {ps : List Str} {dvs : List V} {sp : Sp} {E : XK} {p pos : Pos} {e : Expr} {es : List Expr} {t : TA} (C : OwnA X.prog X.w X.K X.mg X.base CX k x ps dvs sp) (hr : Room k X.A) (hg : Gl X x) (hx : Passes CX X E) (ha : PA X (e :: es) t)
    (hdb : (x == ("__debug__" : Str)) = false := by decide) (he : starEach (e :: es) X.env = (false, eval e X.env) :: starEach es X.env := by rfl) (hpl : (backTo pos (starEach es X.env)).any (·.1) = false := by rfl) :
    PE X (.Call (.Name x p) (e :: es) [] pos) (tCall sp dvs E t) := by
  obtain ⟨f, fd, ds, F, hm, hk, hb, hv⟩ := C.ex
  exact ⟨fun pins s σ H Q I h => (pe_call F hr hg hm hk hb hv hx ha hdb he hpl).run pins s σ H Q I h⟩
structure Prp (P : Program) (w : World) (K : PySem.W.Frag) (mg : Str → Option Value) (base : Heap) (CX : CXT) (k : Nat) (C : Addr) (x : Str) (sp : Sp) : Prop where
  ex : ∃ p g fd, PropOf K C x p g ∧ FnOk P w K mg base CX k g fd ["self"] sp ∧ Binds K fd ["self"] []
  cl : Cls K C
theorem pe_pr {CX : CXT} {k : Nat} {C : Addr} {x : Str} {sp : Sp} {E : XK} {e : Expr} {pos : Pos} (R : Prp X.prog X.w X.K X.mg X.base CX k C x sp) (hr : Room (k + 1) X.A) (hx : Passes CX X.nox E) (he : PE X e ta) (hb : attributeBase e x X.env (eval e X.env) = eval e X.env := by rfl) :
    PE X (.Attribute e x pos) (tProp C sp [] E ta) := by
  obtain ⟨p, g, fd, hp, F, hd⟩ := R.ex
  exact ⟨fun pins s σ H Q I h => (pe_prop he R.cl hp F hr hd .nil hx hb).run pins s σ H Q I h⟩
def InsW (C : Addr) (x : V) (H : Hp) (A : Prop) : Prop := ∃ a dx fs, x = .ref a ∧ H a = some (.ins C dx fs) ∧ A
end
end Ys
namespace Ys
open PySem PySem.Spec PyProof.Rows L2
section
variable {X : Cx} {K : PySem.W.Frag} {P : Program} {w : World} {G G1 H : Hp} {M M1 : List (Addr × HO)} {σ : L2.St} {Q : VK} {QB : Bool → Hp → Prop} {QA : List V → Hp → Prop} {D : Ends} {ta te tb tv : TE} {t tk : TA} {A B : Prop} {v x y : V} {i j : Int} {a b p : Addr} {xs ys vs zs : List V} {o : HO} {d : PyData}
variable {CX : CXT} {k n m : Nat} {C dx : Addr} {nm f : Str} {ps ks : List Str} {dvs : List V} {sp : Sp} {E : XK} {fs : List (Str × V)} {gV : List V → List V → List V}
structure Mth (P : Program) (w : World) (K : PySem.W.Frag) (mg : Str → Option Value) (base : Heap) (CX : CXT) (k : Nat) (C : Addr) (m : Str) (ps : List Str) (dvs : List V) (sp : Sp) : Prop where
  ex : ∃ f fd ds, Meth K C m f ∧ FnOk P w K mg base CX k f fd ps sp ∧ Binds K fd ps ds ∧ Vals dvs ds
  cl : Cls K C
theorem pe_mt0 {m : Str} {e : Expr} {pos apos : Pos} {pl : Sem Bool} (R : Mth X.prog X.w X.K X.mg X.base CX k C m ps dvs sp) (hr : Room k X.A) (hx : Passes CX X E) (he : PE X e ta)
    (ht : eval (.Call (.Attribute e m apos) [] [] pos) X.env = (do
      let ov ← eval e X.env
      standAt apos.atName
      let (f, first) ← holding [ov] (getMethod ov m pl)
      callWith pos f first (backTo pos (starEach [] X.env)) (backToKw pos (keywordEach [] X.env))) := by rfl) : PE X (.Call (.Attribute e m apos) [] [] pos) (tMeth C m sp dvs E ta tNil) := by
  obtain ⟨f, fd, ds, hm, F, hb, hv⟩ := R.ex
  exact ⟨fun pins s σ H Q I h => (pe_meth0 he R.cl hm F hr hb hv hx ht).run pins s σ H Q I h⟩
theorem pe_mt {m : Str} {e e1 : Expr} {es : List Expr} {pos apos : Pos} {pl : Sem Bool} (R : Mth X.prog X.w X.K X.mg X.base CX k C m ps dvs sp) (hr : Room k X.A) (hx : Passes CX X E) (he : PE X e ta) (ha : PA X (e1 :: es) t)
    (hst : starEach (e1 :: es) X.env = (false, eval e1 X.env) :: starEach es X.env := by rfl) (hpl : (backTo pos (starEach es X.env)).any (·.1) = false := by rfl)
    (ht : eval (.Call (.Attribute e m apos) (e1 :: es) [] pos) X.env = (do
      let ov ← eval e X.env
      standAt apos.atName
      let (f, first) ← holding [ov] (getMethod ov m pl)
      callWith pos f first (backTo pos (starEach (e1 :: es) X.env)) (backToKw pos (keywordEach [] X.env))) := by rfl) : PE X (.Call (.Attribute e m apos) (e1 :: es) [] pos) (tMeth C m sp dvs E ta t) := by
  obtain ⟨f, fd, ds, hm, F, hb, hv⟩ := R.ex
  exact ⟨fun pins s σ H Q I h => (pe_meth he R.cl hm F hr hb hv hx ha hst hpl ht).run pins s σ H Q I h⟩
structure MkS (P : Program) (w : World) (K : PySem.W.Frag) (mg : Str → Option Value) (base : Heap) (CX : CXT) (k : Nat) (C : Addr) (x : Str) (n : Nat) (ks : List Str) (gV : List V → List V → List V) (sp : Sp) : Prop where
  ex : ∃ f fd ps g, Mk K C f ∧ FnOk P w K mg base CX k f fd ps sp ∧ mg x = some (.ref C) ∧ KBn K fd ps (n + 1) ks g gV
theorem pe_mk0 {x : Str} {p pos : Pos} {kws : List Keyword} (R : MkS X.prog X.w X.K X.mg X.base CX k C x 0 ks gV sp) (hr : Room (k + 1) X.A) (hg : Gl X x) (hx : Passes CX X E) (hkw : PK X kws tk)
    (hall : (backToKw pos (keywordEach kws X.env)).all (·.1.isSome) = true := by rfl) (hks : (backToKw pos (keywordEach kws X.env)).filterMap (·.1) = ks := by rfl) (hdb : (x == ("__debug__" : Str)) = false := by decide)
    (hpl : ((backTo pos (starEach [] X.env)).any (·.1) || (backToKw pos (keywordEach kws X.env)).any (·.1.isNone)) = false := by rfl) :
    PE X (.Call (.Name x p) [] kws pos) (tMakeK C 0 ks.length sp gV E tNil tk) := by
  obtain ⟨f, fd, ps, g, hm, F, hmg, hb⟩ := R.ex
  exact ⟨fun pins s σ H Q I h => (pe_makeK0 hm F hr hg hmg hb hx hkw hall hks hdb hpl).run pins s σ H Q I h⟩
theorem pe_mk {x : Str} {p pos : Pos} {kws : List Keyword} {e : Expr} {es : List Expr} (R : MkS X.prog X.w X.K X.mg X.base CX k C x n ks gV sp) (hr : Room (k + 1) X.A) (hg : Gl X x) (hx : Passes CX X E) (ha : PA X (e :: es) t) (hkw : PK X kws tk)
    (hall : (backToKw pos (keywordEach kws X.env)).all (·.1.isSome) = true := by rfl) (hks : (backToKw pos (keywordEach kws X.env)).filterMap (·.1) = ks := by rfl) (hdb : (x == ("__debug__" : Str)) = false := by decide)
    (he : starEach (e :: es) X.env = (false, eval e X.env) :: starEach es X.env := by rfl) (hpl : ((backTo pos (starEach (e :: es) X.env)).any (·.1) || (backToKw pos (keywordEach kws X.env)).any (·.1.isNone)) = false := by rfl) :
    PE X (.Call (.Name x p) (e :: es) kws pos) (tMakeK C n ks.length sp gV E t tk) := by
  obtain ⟨f, fd, ps, g, hm, F, hmg, hb⟩ := R.ex
  exact ⟨fun pins s σ H Q I h => (pe_makeK hm F hr hg hmg hb hx ha hkw hall hks hdb he hpl).run pins s σ H Q I h⟩
/-! the steps -/
def PrW (C : Addr) (sp : Sp) (dvs : List V) (E : XK) (x : V) (H : Hp) (Q : VK) : Prop := ∃ a dx fs, x = .ref a ∧ H a = some (.ins C dx fs) ∧ sp (.ref a :: dvs) H Q E
theorem z_prop (h : ta σ H fun x H1 => PrW C sp dvs E x H1 Q) : tProp C sp dvs E ta σ H Q := h
theorem z_prI (z : Zp G M H) (h : G a = some (.ins C dx fs)) (q : sp (.ref a :: dvs) H Q E) : PrW C sp dvs E (.ref a) H Q := ⟨a, dx, fs, rfl, z.sub _ _ h, q⟩
def MtW (C : Addr) (f : Str) (x : V) (H : Hp) (A : Prop) : Prop := ∃ a dx fs, x = .ref a ∧ H a = some (.ins C dx fs) ∧ fs.lookup f = none ∧ A
theorem z_mt (h : ta σ H fun x H1 => MtW C f x H1 (t σ H1 fun vs H2 => sp (x :: (vs ++ dvs)) H2 Q E)) : tMeth C f sp dvs E ta t σ H Q := h
theorem z_mtI (z : Zp G M H) (h : G a = some (.ins C dx fs)) (l : fs.lookup f = none) (q : A) : MtW C f (.ref a) H A := ⟨a, dx, fs, rfl, z.sub _ _ h, l, q⟩
def MkW (C : Addr) (n m : Nat) (sp : Sp) (gV : List V → List V → List V) (E : XK) (vs zs : List V) (H2 : Hp) (Q : VK) : Prop := vs.length = n ∧ zs.length = m ∧ ∀ x dx, H2 x = none → H2 dx = none → dx ≠ x →
  sp (gV (.ref x :: vs) zs) (upd (upd H2 dx (.own x)) x (.ins C dx [])) (fun v H3 => v = .non ∧ Q (.ref x) H3) E
theorem z_mk (h : t σ H fun vs H1 => tk σ H1 fun zs H2 => MkW C n m sp gV E vs zs H2 Q) : tMakeK C n m sp gV E t tk σ H Q := h
theorem z_mkI (z : Zp G M H) (l1 : vs.length = n) (l2 : zs.length = m) (q : ∀ x dx H1, Zp (upd G dx (.own x)) (M ++ [(x, .ins C dx [])]) H1 → Same G (upd G dx (.own x)) → sp (gV (.ref x :: vs) zs) H1 (fun v H3 => v = .non ∧ Q (.ref x) H3) E) : MkW C n m sp gV E vs zs H Q :=
  ⟨l1, l2, fun x dx hx hd ne => q x dx _ ((z.new hd _).add (by rw [upd_ne (Ne.symm ne)]; exact hx) _) (Same.new (z.free hd))⟩
def FlW (K : PySem.W.Frag) (f : Str) (x : V) (H : Hp) (Q : VK) : Prop := ∃ a C dx fs v, x = .ref a ∧ H a = some (.ins C dx fs) ∧ Cls K C ∧ NoAttr K C f ∧ fs.lookup f = some v ∧ Q v H
theorem z_fl (h : ta σ H fun x H1 => FlW K f x H1 Q) : tFld K ta f σ H Q := h
theorem z_flI (z : Zp G M H) (h : G a = some (.ins C dx fs)) (c : Cls K C) (n : NoAttr K C f) (l : fs.lookup f = some v) (q : Q v H) : FlW K f (.ref a) H Q := ⟨a, C, dx, fs, v, rfl, z.sub _ _ h, c, n, l, q⟩
def FsW (K : PySem.W.Frag) (f : Str) (x y : V) (H2 : Hp) (R : Hp → Prop) : Prop := ∃ a C dx fs, x = .ref a ∧ H2 a = some (.ins C dx fs) ∧ Cls K C ∧ NoAttr K C f ∧ fs.length < 1000 ∧ R (upd H2 a (.ins C dx (putF f y fs)))
theorem z_fs (h : tv σ H fun y H1 => ta σ H1 fun x H2 => FsW K f x y H2 (D.nx σ)) : sFld K ta tv f D σ H := h
theorem z_fsI {R : Hp → Prop} (z : Zp G M H) (i : Nat) (e : M[i]? = some (a, .ins C dx fs)) (c : Cls K C) (n : NoAttr K C f) (l : fs.length < 1000) (q : ∀ H1, Zp G (M.set i (a, .ins C dx (putF f y fs))) H1 → R H1) : FsW K f (.ref a) y H R :=
  ⟨a, C, dx, fs, rfl, z.at_ i e, c, n, l, q _ (z.put i e _)⟩
theorem z_nN (q : Q (.bl (!decide (x = .non))) H) : rNotNon x .non H Q := ⟨rfl, q⟩
theorem z_iN (q : Q (.bl (decide (x = .non))) H) : rIsNon x .non H Q := ⟨rfl, q⟩
theorem z_itLH {R : It → Hp → Prop} (h : SqL K H a xs) (q : R (Itl K a) H) : ItL K (.ref a) H R := ⟨a, rfl, ⟨xs, h⟩, q⟩
theorem z_itTH {R : It → Hp → Prop} (h : SqT K H a xs) (q : R (Itt K a) H) : ItT K (.ref a) H R := ⟨a, rfl, ⟨xs, h⟩, q⟩
theorem z_lenH (h : SqL K H a xs ∨ SqT K H a xs) (q : Q (.int xs.length) H) : rLenG K P w [.ref a] H Q := h.elim (fun h => .inl ⟨_, _, rfl, .inl ⟨xs, h, rfl⟩, q⟩) fun h => .inl ⟨_, _, rfl, .inr ⟨xs, h, rfl⟩, q⟩
theorem z_setH {ss : List Str} (z : Zp G M H) (h : SqL K H a (ss.map V.str) ∨ SqT K H a (ss.map V.str)) (hl : ss.length < 1000)
    (q : ∀ p l G1 H1, Zp G1 M H1 → Same G G1 → G1 p = some (TxO P w p l) → (∀ x, x ∈ l ↔ x ∈ ss) → l.Nodup → l.length ≤ ss.length → Q (.ref p) H1) : rSetTx K P w [.ref a] H Q :=
  ⟨a, ss, rfl, h, hl, fun p l m nd len hp => q p l _ _ (z.new hp _) (Same.new (z.free hp)) upd_same m nd len⟩
theorem z_tI {R : It → Hp → Prop} (h : te σ H fun x H1 => ItT K x H1 R) : iTup K te σ H R := h
theorem z_fsL {R : Hp → Prop} (z : Zp G (M ++ [(a, .ins C dx fs)]) H) (c : Cls K C) (n : NoAttr K C f) (l : fs.length < 1000) (q : ∀ H1, Zp G (M ++ [(a, .ins C dx (putF f y fs))]) H1 → R H1) : FsW K f (.ref a) y H R := by
  refine z_fsI z M.length last_at c n l fun H1 z1 => q H1 ?_
  rw [List.set_append_right _ _ (Nat.le_refl _), Nat.sub_self] at z1
  exact z1
theorem putF_lt {n : Nat} : ∀ {fs : List (Str × V)}, fs.length < n → (putF f y fs).length < n + 1
  | [], h => by show 1 < n + 1; have : 0 < n := h; omega
  | (g, v) :: r, h => by
    unfold putF
    split
    · exact Nat.lt_succ_of_lt h
    · have h' : r.length + 1 < n := h
      cases n with
      | zero => omega
      | succ n =>
        have := putF_lt (n := n) (fs := r) (by omega)
        show (putF f y r).length + 1 < n + 1 + 1
        omega
def ItR2 (vs : List V) (H : Hp) (R : It → Hp → Prop) : Prop := ∃ i j : Int, vs = [.int i, .int j] ∧ (-(2 ^ 62) ≤ i ∧ i < 2 ^ 62 ∧ -(2 ^ 62) ≤ j ∧ j < 2 ^ 62) ∧ R (Itr i (j - i).toNat) H
theorem z_iR2 {R : It → Hp → Prop} (h : t σ H fun vs H1 => ItR2 vs H1 R) : iRng2 t σ H R := h
theorem z_itR2 {R : It → Hp → Prop} (h : -(2 ^ 62) ≤ i ∧ i < 2 ^ 62 ∧ -(2 ^ 62) ≤ j ∧ j < 2 ^ 62) (q : R (Itr i (j - i).toNat) H) : ItR2 [.int i, .int j] H R := ⟨i, j, rfl, h, q⟩
theorem z_gsub {ti : TE} {ts : TSet} {R : L2.St → Hp → Prop} (h : ta σ H fun o H1 => ti σ H1 fun i H2 => ts o i v H2 fun H3 => R σ H3) : gSub ta ti ts v σ H R := h
theorem z_slO {lo hi : Option Int} (z : Zp G M H) (k : Nat) (e : M[k]? = some (a, .lst xs)) (q : ∀ p G1 H1, Zp G1 M H1 → Same G G1 → G1 p = some (.lst (cutV xs lo hi)) → Q (.ref p) H1) : rSlG K (.ref a) lo hi H Q :=
  .inl ⟨a, xs, rfl, SqL.of (z.at_ k e), fun p hp => q p _ _ (z.new hp _) (Same.new (z.free hp)) upd_same⟩
theorem z_setO {R : Hp → Prop} {j : Nat} (z : Zp G M H) (k : Nat) (e : M[k]? = some (a, .lst xs)) (hj : ixN xs.length i = some j) (q : ∀ H1, Zp G (M.set k (a, .lst (xs.set j v))) H1 → R H1) : rSetL (.ref a) (.int i) v H R :=
  ⟨a, xs, i, j, rfl, rfl, z.at_ k e, hj, q _ (z.put k e _)⟩
theorem Dts.snoc : ∀ {xs : List V} {ds : List PyData} {x : V} {d : PyData}, Dts K G xs ds → Dt K G x d → Dts K G (xs ++ [x]) (ds ++ [d])
  | _, _, _, _, .nil, h => .cons h .nil
  | _, _, _, _, .cons a b, h => .cons a (Dts.snoc b h)
theorem Dts.set : ∀ {xs : List V} {ds : List PyData} {x : V} {d : PyData} (j : Nat), Dts K G xs ds → Dt K G x d → Dts K G (xs.set j x) (ds.set j d)
  | _, _, _, _, _, .nil, _ => .nil
  | _, _, _, _, 0, .cons a b, h => .cons h b
  | _, _, _, _, j + 1, .cons a b, h => .cons a (Dts.set j b h)
theorem perm_strs {ys : List V} {ss : List Str} (h : ys.Perm (ss.map V.str)) : ∃ ts : List Str, ys = ts.map V.str ∧ ts.Perm ss := by
  let un : V → Str := fun v => match v with | .str s => s | _ => ""
  have e : (ss.map V.str).map un = ss := by rw [List.map_map]; exact List.map_id'' (fun _ => rfl) ss
  refine ⟨ys.map un, ?_, ?_⟩
  · rw [List.map_map]
    have : ∀ v ∈ ys, (V.str ∘ un) v = v := fun v hv => by
      obtain ⟨s, _, rfl⟩ := List.mem_map.mp (h.mem_iff.mp hv)
      rfl
    rw [List.map_congr_left this]
    exact (List.map_id ys).symm
  · have := h.map un
    rw [e] at this
    exact this
/-! chains -/
theorem z_chain {r r' : R2} {tc : TE} (h : ta σ H fun x H1 => tb σ H1 fun y H2 => r x y H2 fun z H3 => IsB z H3 fun k H3 => Bif k (tc σ H3 fun w' H4 => r' y w' H4 Q) (Q (.bl false) H3)) : tChain r r' ta tb tc σ H Q := h
theorem z_inS {c : Nat} {z : Str} (q : Q (.bl (decide (c ∈ z.cps.toList))) H) : rInG K false (.str ⟨#[c]⟩) (.str z) H Q := .inl ⟨c, z, rfl, rfl, by simpa using q⟩
theorem z_eqI {sp : Sp} {t : Value} (z : Zp G M H) (h : G a = some (.ins C dx fs)) (ty : TyX K H y t) (nf : PySem.W.notFirst K C t = true) (q : sp [.ref a, y] H (fun v H' => ∃ b, v = .bl b ∧ Q (.bl b) H') E) : rEqI K C sp E (.ref a) y H Q :=
  ⟨a, dx, fs, t, rfl, z.sub _ _ h, ty, nf, q⟩
theorem z_neI {sp : Sp} {t : Value} (z : Zp G M H) (h : G a = some (.ins C dx fs)) (ty : TyX K H y t) (nf : PySem.W.notFirst K C t = true) (q : sp [.ref a, y] H (fun v H' => ∃ b, v = .bl b ∧ Q (.bl (!b)) H') E) : rNeI K C sp E (.ref a) y H Q :=
  ⟨a, dx, fs, t, rfl, z.sub _ _ h, ty, nf, q⟩
end
end Ys
namespace Ys
open PySem PySem.Spec PyProof.Rows L2
/-! the rules with the written part told -/
section
variable {X : Cx} {K : PySem.W.Frag} {P : Program} {w : World}
theorem k_add (e : X.K = K := by rfl) : OpR X (binaryOp .Add) (rAddG K) := e ▸ op_addG
theorem k_eq (hu : X.A.units + 64 < cLine) (e : X.K = K := by rfl) : OpR X (compareOp .Eq) (rEqG K) := e ▸ op_eqG hu
theorem k_ne (hu : X.A.units + 64 < cLine) (e : X.K = K := by rfl) : OpR X (compareOp .NotEq) (rNeG K) := e ▸ op_neG hu
theorem k_in (e : X.K = K := by rfl) : OpR X (compareOp .In) (rInG K false) := e ▸ o_in
theorem k_notIn (e : X.K = K := by rfl) : OpR X (compareOp .NotIn) (rInG K true) := e ▸ o_notIn
theorem k_sl (e : X.K = K := by rfl) : SlR X (rSlG K) := e ▸ sl_any
theorem kc_len (e : X.K = K := by rfl) (e1 : X.prog = P := by rfl) (e2 : X.w = w := by rfl) : CallR X (.builtin "len") (rLenG K P w) := by subst e; subst e1; subst e2; exact c_len
theorem kc_list (e : X.K = K := by rfl) : CallR X (.type "list") (rListG K) := e ▸ c_list
theorem kc_tuple (e : X.K = K := by rfl) : CallR X (.type "tuple") (rTupG K) := e ▸ c_tuple
theorem kc_all (hc : X.calm = true) (e : X.K = K := by rfl) : CallR X (.builtin "all") (rAllG K) := e ▸ c_all hc
theorem kc_sorted (hc : X.calm = true) (e : X.K = K := by rfl) (e1 : X.prog = P := by rfl) (e2 : X.w = w := by rfl) : CallR X (.builtin "sorted") (rSortG K P w) := by subst e; subst e1; subst e2; exact c_sorted hc
theorem kc_set (hc : X.calm = true) (e : X.K = K := by rfl) (e1 : X.prog = P := by rfl) (e2 : X.w = w := by rfl) : CallR X (.type "set") (rSetTx K P w) := by subst e; subst e1; subst e2; exact cr_setTx hc
theorem kc_repr (hg : X.A.guards = some []) (S : SysIn X.K) (hu : X.A.units + 64 < cLine) (e : X.K = K := by rfl) : CallR X (.builtin "repr") (rRepr K) := e ▸ cr_repr hg S hu
theorem kc_isi (e : X.K = K := by rfl) : CallR X (.builtin "isinstance") (rIsiG K) := e ▸ c_isi
theorem k_any {tg e : Expr} {te : TE} (h : PE X e te) (q : X.K = K := by rfl) : PI X tg e (iAny K te) := q ▸ pi_any h
theorem k_ix (e : X.K = K := by rfl) : IxR X (rIx K) := e ▸ ix_seq
theorem k_fld {o : Expr} {f : Str} {pos : Pos} {ta : TE} (h : PE X o ta) (hb : attributeBase o f X.env (eval o X.env) = eval o X.env) (e : X.K = K := by rfl) : PE X (.Attribute o f pos) (tFld K ta f) := e ▸ pe_fld h hb
theorem kg_tup {es : List Expr} {k : Nat} {t : TGs} {n : Nat} {pos : Pos} (hc : X.calm = true) (h : PGs X es t) (e : X.K = K := by rfl)
    (hn : (assignEach es X.env).length = n := by rfl) (hst : (assignEach es X.env).findIdx? (·.1) = none := by rfl) : PG X (.Tuple es k pos) (gTup K n t) := e ▸ pg_tup hc h hn hst
theorem kg_unl {es : List Expr} {k : Nat} {t : TGs} {n : Nat} {pos : Pos} (hc : X.calm = true) (h : PGs X es t) (e : X.K = K := by rfl)
    (hn : (assignEach es X.env).length = n := by rfl) (hst : (assignEach es X.env).findIdx? (·.1) = none := by rfl) : PG X (.Tuple es k pos) (gUnl K n t) := e ▸ pg_unl hc h hn hst
theorem k_tup {tg e : Expr} {te : TE} (h : PE X e te) (q : X.K = K := by rfl) : PI X tg e (iTup K te) := q ▸ pi_tup h
end
end Ys
namespace Ys
open PySem PySem.Spec PyProof.Rows L2
/-! ### defs that stand anywhere -/
theorem DefY.funD {K : PySem.W.Frag} {d : DefY} (e : fnY K (d.ad K) = d.val) (c : d.ok K = true) : ∃ fd, FunD K d.name d.qual d.params d.body d.scope (d.dvs K) (d.kws K) (d.ad K) fd := by
  obtain ⟨kp, c2⟩ := Bool.and_eq_true_iff.mp c
  cases hq : K.lookup (d.ad K) with
  | none => rw [hq] at c2; exact absurd c2 (by simp)
  | some ob =>
    rw [hq] at c2
    unfold fnY at e
    rw [hq] at e
    obtain ⟨o1, o2, o3, o4⟩ := ob
    cases o3 with
    | func g =>
      obtain ⟨g1, g2, g3, g4, g5, g6, g7, g8, g9, g10, g11, g12, g13, g14, g15⟩ := g
      obtain ⟨i1, i2, i3, i4, i5, i6, i7, i8⟩ : g1 = d.name ∧ g2 = d.qual ∧ g3 = d.params ∧ g4 = .stmts d.body ∧ g5 = d.scope ∧ g6 = mainGlobals ∧ g7 = [] ∧ g15 = builtinsNs := by
        have e' : (some (g1, g2, g3, g4, g5, g6, g7, g15) : He.FnW) = some (d.name, d.qual, d.params, .stmts d.body, d.scope, mainGlobals, [], builtinsNs) := e
        simpa only [Option.some.injEq, Prod.mk.injEq] using e'
      subst i1 i2 i3 i4 i5 i6 i7 i8
      obtain ⟨j1, j2⟩ := Bool.and_eq_true_iff.mp (show (PySem.W.codeIn K g13 d.qual && (He.dflB K g8 (d.dvs K) && He.kwdB K g9 (d.kws K))) = true from c2)
      obtain ⟨j3, j4⟩ := Bool.and_eq_true_iff.mp j2
      exact ⟨_, ⟨o1, o2, g8, g9, g10, g11, g12, g13, g14, o4, rfl, hq, j1, He.dflB_ok j3, He.kwdB_ok j4⟩, kp⟩
    | _ => exact absurd c2 (by simp)
/-! ### the Hook over facts of any kind -/
theorem obZ_eq {n : Nat} {fb : List (PySem.W.Frag → Bool)} {fn : List DefY} (s : PySem.W.SharedT) : obZ n fb fn s = (hookZ n fb fn).obs s.abs := by
  unfold obZ
  rw [show HandSHeadRun.getT s = s.abs.heap.get? from funext (HandSHeadRun.getT_eq s)]
  rfl
section
variable {fb : List (PySem.W.Frag → Bool)} {fn : List DefY} {K : PySem.W.Frag}
theorem SaysZ.at_ (c : SaysZ fb fn K) (i : Nat) {f : PySem.W.Frag → Bool} (h : fb[i]? = some f := by rfl) : f K = true := by
  have h1 : ((fb.all fun f => f K) && fn.all fun d => d.ok K) = true := congrArg Prod.fst c
  exact List.all_eq_true.mp (Bool.and_eq_true_iff.mp h1).1 f (List.mem_of_getElem? h)
theorem SaysZ.def_ (c : SaysZ fb fn K) (i : Nat) {d : DefY} (h : fn[i]? = some d := by rfl) : ∃ fd, FunD K d.name d.qual d.params d.body d.scope (d.dvs K) (d.kws K) (d.ad K) fd := by
  have h1 : ((fb.all fun f => f K) && fn.all fun d => d.ok K) = true := congrArg Prod.fst c
  have h2 : (fn.map fun d => fnY K (d.ad K)) = fn.map DefY.val := congrArg Prod.snd c
  refine DefY.funD ?_ (List.all_eq_true.mp (Bool.and_eq_true_iff.mp h1).2 d (List.mem_of_getElem? h))
  have h3 := congrArg (fun l : List He.FnW => l[i]?) h2
  simp only [List.getElem?_map, h, Option.map_some] at h3
  exact Option.some.inj h3
end
/-! ### facts -/
theorem fProp_ok {x m : Str} {K : PySem.W.Frag} (h : fProp x m K = true) : PropOf K (He.ga K x) m (cA x m K) (pA x m K) := by
  obtain ⟨h1, h⟩ := Bool.and_eq_true_iff.mp h
  obtain ⟨h2, h⟩ := Bool.and_eq_true_iff.mp h
  obtain ⟨h3, h4⟩ := Bool.and_eq_true_iff.mp h
  refine ⟨of_decide_eq_true h1, of_decide_eq_true h2, of_decide_eq_true h3, ?_⟩
  cases q : PySem.W.recIn K (cA x m K) "property" with
  | none => rw [q] at h4; cases h4
  | some l =>
    rw [q] at h4
    cases l with
    | nil => cases h4
    | cons v r =>
      cases v with
      | ref g => exact ⟨r, by rw [of_decide_eq_true h4]⟩
      | _ => cases h4
theorem fNil_ok {a : PySem.W.Frag → Addr} {K : PySem.W.Frag} (h : fNil a K = true) (G : Hp) : SqT K G (a K) [] := by
  unfold fNil at h
  cases q : K.lookup (a K) with
  | none => rw [q] at h; cases h
  | some ob =>
    rw [q] at h
    obtain ⟨o1, o2, o3, o4⟩ := ob
    cases o1 with
    | type c =>
      cases o3 with
      | seq its n =>
        obtain ⟨h1, h2⟩ := Bool.and_eq_true_iff.mp (show (decide (c = "tuple") && decide (its.size = 0)) = true from h)
        have hz := of_decide_eq_true h2
        have he : its.toList = [] := by
          apply List.eq_nil_of_length_eq_zero
          rw [Array.length_toList]
          exact hz
        exact .inr ⟨_, its, n, q, congrArg Value.type (of_decide_eq_true h1), rfl, by rw [hz]; exact Nat.zero_le _, by rw [he]; exact .nil⟩
      | _ => cases h
    | _ => cases o3 <;> cases h
end Ys
namespace Ys
open PySem PySem.Spec PyProof.Rows L2
/-! ### set(dict): the keys are texts -/
section
variable {P : Program} {w : World} {A : Around} {E : Value → Shared → Prop} {s : Shared}
theorem laid_nil (m f mv : Nat) (led pl : Bool) : SetTable.laid m f mv led pl #[] = some ({ mask := m, place := #[], dummies := #[], finger := f, led, moves := mv, plain := pl }, #[]) := by
  have e : SetTable.layClean m #[] = some (Array.replicate (m + 1) none) := rfl
  have e2 : ((List.range (m + 1)).filterMap fun j => ((Array.replicate (m + 1) (none : Option Nat)).getD j none).map (j, ·)) = [] := by
    rw [List.filterMap_eq_nil_iff]
    intro j _
    have : (Array.replicate (m + 1) (none : Option Nat)).getD j none = none := by
      simp [Array.getD]
    rw [this]
    rfl
  unfold SetTable.laid
  rw [e]
  show some (_, _) = _
  simp only [e2]
  rfl
theorem room_txt {a : Addr} {n : Nat} {Q : Unit → Shared → Prop} (ho : s.heap.get? a = some (Froz.sObj "set" (#[], 0, .fresh 0 0 (!w.params.followText "set-order")))) (hn : n ≤ 1000)
    (h : ∀ h' : Heap, Heap.SameBut a s.heap h' → TxSet P w h' a [] → Q () { s with heap := h' }) : wpAny (model P w) A (setRoomFor a n) Q E s := by
  have e1 : (Froz.sObj "set" (#[], 0, SetTable.fresh 0 0 (!w.params.followText "set-order"))).data = .set #[] 0 (.fresh 0 0 (!w.params.followText "set-order")) := rfl
  have hl : ∀ t : SetTable, t.led = (!w.params.followText "set-order") → (w.params.followText "set-order" = true ∨ t.led = true) := fun t e => by
    rw [e]
    cases w.params.followText "set-order"
    · exact .inr rfl
    · exact .inl rfl
  have tx : ∀ t : SetTable, t.place = #[] → t.led = (!w.params.followText "set-order") → t.fits 0 = true → TxSet P w (s.heap.update a (Obj.putSet #[] t)) a [] := fun t hp hl' hf =>
    ⟨(#[], 1, t), Heap.get?_update_self _ ho rfl, Froz.TxOk.nil hf, List.nodup_nil, (by show Ris t.place.toList; rw [hp]; exact List.Pairwise.nil), hl t hl'⟩
  unfold setRoomFor
  refine wpAny_bind (wpAny_setState_of ho e1 rfl ?_)
  dsimp only
  unfold SetTable.roomFor
  split
  · rename_i wanted hw
    split at hw
    · have hw := Option.some.inj hw
      have hw2 : wanted = (0 + n) * 2 := hw.symm
      have hsz : ¬ SetTable.sizeAbove wanted > sizeLine := by
        have key : (List.range 2002).all (fun k => decide (¬ SetTable.sizeAbove k > sizeLine)) = true := by decide +kernel
        exact of_decide_eq_true (List.all_eq_true.mp key wanted (List.mem_range.mpr (by omega)))
      rw [L2.setRelay_eq]
      refine wpAny_bind (wpAny_setState_of ho e1 rfl ?_)
      dsimp only
      rw [if_neg hsz]
      unfold SetTable.relaid
      have em : (#[] : Array (Int × Value)).map (·.1) = #[] := by simp
      rw [em, laid_nil]
      dsimp only
      have ef : ((#[] : Array Nat).filterMap fun i => (#[] : Array (Int × Value))[i]?) = #[] := by simp
      rw [ef]
      simp only [bne_self_eq_false, Bool.false_eq_true, if_false]
      refine wpAny_bind (wpAny_pure ?_)
      dsimp only
      exact wpAny_storeSet_of ho e1 (h _ (Heap.SameBut.update s.heap a _) (tx _ rfl rfl (by simp [SetTable.fits, SetTable.fill])))
    · cases hw
  · exact wpAny_pure (h s.heap (Heap.SameBut.refl a s.heap) ⟨_, ho, Froz.TxOk.nil rfl, List.nodup_nil, List.Pairwise.nil, hl _ rfl⟩)
theorem from_dict {id : String} {a d : Addr} {kvs : List (Key × Value)} {ep : Nat} {ks : List Str} {Q : Unit → Shared → Prop} (ho : s.heap.get? a = some (bare w)) (hd : s.heap.DictAt (mixKind P w) d kvs ep) (hk : kvs.map (·.1) = ks.map Sum.inr) (hs : (d == sysModules) = false) (few : ks.length ≤ 900)
    (h : ∀ (h' : Heap) (l' : List Str), Heap.SameBut a s.heap h' → TxSet P w h' a l' → (∀ x, x ∈ l' ↔ x ∈ ks) → l'.length ≤ ks.length → Q () { s with heap := h' }) : wpAny (model P w) A (Builtin.Frozenset.updateFrom id a (.ref d)) Q E s := by
  have hda := hd
  obtain ⟨o, es, e0, ex, e1, K1, K2, nd⟩ := hd
  have ne : d ≠ a := fun z => by
    rw [z, ho] at e0
    cases e0
    cases e1
  have ty : s.TypeIs (.ref d) "dict" := hda.dictOf.typeIs
  have hlen : es.size = ks.length := by
    have := K2.length
    rw [Array.length_toList] at this
    have h2 := congrArg List.length hk
    rw [List.length_map, List.length_map] at h2
    omega
  unfold Builtin.Frozenset.updateFrom
  have c1 := F.sub_dict_set
  have c2 : isSubtype (.type "dict") (.type "frozenset") = pure false := by rw [isSubtype_type]; kernel_rfl
  generalize hSR : setRoomFor = SR
  generalize hSA : setAddHashed = SA
  repeat (any_goals (first | assumption | wp_step))
  rw [e1]
  refine wpAny_pure ?_
  refine wpAny_bind (wpAny_dictEntries e0 e1 ?_)
  subst hSR
  refine wpAny_bind (room_txt ho (by omega) fun h1 sb1 T1 => ?_)
  have g1 : h1.get? d = some o := (sb1.2 d ne).trans e0
  refine wpAny_bind (wpAny_dictEntries g1 e1 ?_)
  refine wpAny_bind ?_
  rw [Std.Legacy.Range.forIn_eq_forIn_range']
  simp only [Std.Legacy.Range.size, Nat.sub_zero, Nat.add_sub_cancel, Nat.div_one]
  refine wpAny_forIn_list _ (fun rest _ s' => ∃ h2 i l2, s' = { s with heap := h2 } ∧ rest = List.range' i (es.size - i) ∧ i ≤ es.size ∧ Heap.SameBut a s.heap h2 ∧ TxSet P w h2 a l2 ∧ (∀ x, x ∈ l2 ↔ x ∈ ks.take i) ∧ l2.length ≤ i) _ ?_ ?_ _ _
    ⟨h1, 0, [], rfl, by simp, Nat.zero_le _, sb1, T1, by simp, Nat.le_refl _⟩
  · rintro x rest b s' ⟨h2, i, l2, rfl, hr, hi, sb2, T2, m2, len2⟩
    have hlt : i < es.size := by
      rcases Nat.lt_or_ge i es.size with q | q
      · exact q
      · rw [Nat.sub_eq_zero_of_le q] at hr
        cases hr
    have er : es.size - i = (es.size - (i + 1)) + 1 := by omega
    rw [er, List.range'_succ] at hr
    injection hr with r1 r2
    subst r1
    have g2 : h2.get? d = some o := (sb2.2 d ne).trans e0
    refine wpAny_bind (wpAny_dictEntries g2 e1 ?_)
    obtain ⟨k, hk1⟩ : ∃ k, ks[x]? = some k := ⟨ks[x]'(by omega), List.getElem?_eq_getElem _⟩
    obtain ⟨v, hv⟩ : ∃ v, kvs[x]? = some (Sum.inr k, v) := by
      have := congrArg (fun l : List Key => l[x]?) hk
      simp only [List.getElem?_map, hk1, Option.map_some] at this
      cases q : kvs[x]? with
      | none => rw [q] at this; cases this
      | some p =>
        rw [q] at this
        obtain ⟨p1, p2⟩ := p
        exact ⟨p2, by rw [show p1 = Sum.inr k from Option.some.inj this]⟩
    obtain ⟨key, hval⟩ := K2.get? (i := x) (e := es[x]) (by rw [Array.getElem?_toList]; exact Array.getElem?_eq_getElem hlt) hv
    obtain ⟨k', kk, hh⟩ := K1 es[x] (Array.getElem_mem hlt)
    have ek : k' = Sum.inr k := (mixKind P w).inj _ _ _ kk key
    rw [ek] at hh
    rw [Array.getElem?_eq_getElem hlt]
    dsimp only
    obtain ⟨u, eu⟩ : ∃ u, es[x].key = .str k u := by
      rcases keyIs_shape (show keyIs (Sum.inr k) es[x].key = true from key) with ⟨_, _, z, _⟩ | ⟨_, t, z, z2⟩
      · cases z
      · cases z
        exact ⟨t, z2⟩
    rw [eu, hh]
    subst hSA
    refine wpAny_bind (wpAny_holding ?_)
    refine add_txt (s := { s with heap := h2 }) T2 (by have : scanBound = scanBound := rfl; unfold scanBound; omega) fun b3 h3 l3 sb3 T3 m3 len3 => ?_
    have g3 : h3.get? d = some o := (sb3.2 d ne).trans g2
    refine wpAny_bind (wpAny_dictEpoch g3 e1 ?_)
    rw [if_neg (by simp)]
    refine wpAny_pure ⟨h3, x + 1, l3, rfl, r2, hlt, sb2.trans sb3, T3, fun y => ?_, by omega⟩
    rw [m3 y, m2 y, List.take_add_one, hk1]
    simp
  · rintro b s' ⟨h2, i, l2, rfl, hr, hi, sb2, T2, m2, len2⟩
    have : i = es.size := by
      rcases Nat.lt_or_ge i es.size with q | q
      · rw [show es.size - i = (es.size - (i + 1)) + 1 by omega, List.range'_succ] at hr
        cases hr
      · omega
    refine wpAny_pure (h h2 l2 sb2 T2 (fun y => ?_) (by omega))
    rw [m2 y, this, hlen, List.take_length]
end
end Ys
namespace Ys
open PySem PySem.Spec PyProof.Rows L2
section
variable {P : Program} {w : World} {A : Around} {E : Value → Shared → Prop} {s : Shared}
theorem make_dict {d : Addr} {kvs : List (Key × Value)} {ep : Nat} {ks : List Str} {Q : Value → Shared → Prop} (hh : A.handled = none) (hd : s.heap.DictAt (mixKind P w) d kvs ep) (hk : kvs.map (·.1) = ks.map Sum.inr) (hs : (d == sysModules) = false) (few : ks.length ≤ 900)
    (h : ∀ (h' : Heap) (tk : Nat) (l' : List Str), TxSet P w h' s.heap.objs.size l' → (∀ x, x ∈ l' ↔ x ∈ ks) → l'.length ≤ ks.length → (∀ b o, s.heap.get? b = some o → h'.get? b = some o) →
      Q (.ref s.heap.objs.size) { s with heap := h', toks := tk }) : wpAny (model P w) A (call (.type "set") [.ref d]) Q E s := by
  have a1 := F.called_set.made
  have a2 := F.called_set.sub
  have a3 := F.called_set.notType
  have a4 := F.called_set.canCreate
  have a5 := F.typeCall_set_1 (.ref d)
  obtain ⟨c, tl, a6⟩ := F.called_set.mro
  refine wpAny_call (codeAny_of_tree ?_)
  show wpAny _ _ (callAny (.type "set") _) _ _ _
  refine wpAny_pure ⟨Code.quiet_builtin _ (by decide +kernel), codeAny_builtin F.entry_type_call ?_⟩
  rw [Around.under_plain (weight_type_call_type "set" [.ref d] []) rfl]
  repeat (any_goals (first | assumption | wp_step))
  refine codeAny_mono (L2.code_set_led1 (.ref d) (E := E) (Q₁ := fun v z => v = .ref s.heap.objs.size ∧ z = { s with heap := s.heap.push (bare w) }) ⟨rfl, rfl⟩) fun r s1 hr => ?_
  cases r with
  | error e => exact hr
  | ok fl =>
    cases fl with
    | next => exact hr.elim
    | brk => exact hr.elim
    | cont => exact hr.elim
    | ret v =>
      obtain ⟨rfl, rfl⟩ := hr
      have b0 : (s.heap.push (bare w)).get? s.heap.objs.size = some (bare w) := Heap.get?_push_size _ rfl
      have b1 : Shared.TypeIs { s with heap := s.heap.push (bare w) } (.ref s.heap.objs.size) "set" := ⟨_, b0, rfl⟩
      have b2 := F.called_set.init.lookup
      have b3 := F.called_set.init.bind (.ref s.heap.objs.size)
      repeat (any_goals (first | assumption | wp_step))
      refine codeAny_mono (codeAny_call_builtin (R := wants (fun r z => r = .none ∧ ∃ h' tk l', z = { s with heap := h', toks := tk } ∧ TxSet P w h' s.heap.objs.size l' ∧ (∀ x, x ∈ l' ↔ x ∈ ks) ∧ l'.length ≤ ks.length ∧
          (∀ b o, s.heap.get? b = some o → h'.get? b = some o)) E) F.called_set.init.plain F.entry_set_init (check_set_init_1 b1 ?_)) fun r2 s2 hr2 => ?_
      · have k1 : ∀ b o, s.heap.get? b = some o → (s.heap.push (bare w)).get? b = some o := fun b o e => Heap.get?_push_of_some _ e
        unfold Builtin.«set.__init__» noKeywords
        generalize hU : @Builtin.Frozenset.updateFrom = U
        wp_walk
        subst hU
        refine from_dict (s := { s with heap := s.heap.push (bare w) }) b0 (hd.push _) hk hs few fun h' l' sb T' m len => ?_
        repeat (first
          | exact ⟨rfl, h', s.toks, l', rfl, T', m, len, fun b o e => (sb.2 b (Nat.ne_of_lt (Heap.lt_size e))).trans (Heap.get?_push_of_some _ e)⟩
          | refine wpAny_pure ?_
          | wp_step)
      · cases r2 with
        | error e => exact hr2
        | ok f2 =>
          cases f2 with
          | next => exact hr2.elim
          | brk => exact hr2.elim
          | cont => exact hr2.elim
          | ret r =>
            obtain ⟨rfl, h', tk, l', rfl, T', m, len, k⟩ := hr2
            repeat (any_goals (first | assumption | wp_step))
            exact h _ _ _ T' m len k
end
end Ys
/-! dicts: kept for good, walked, looked into, made -/
namespace Ys
open PySem PySem.Spec PyProof.Rows L2
section
variable {X : Cx} {K : PySem.W.Frag} {P : Program} {w : World} {G G1 H : Hp} {M M1 : List (Addr × HO)} {σ : L2.St} {Q : VK} {QB : Bool → Hp → Prop} {D : Ends} {ta tb te td tyy tk tv : TE} {t : TA} {g : TG} {tt : TT} {A B : Prop} {v x y : V} {i j : Int} {a b d p : Addr} {xs ys vs : List V} {o : HO} {od : Obj} {kvs : List (Key × V)} {k : Key} {R : It → Hp → Prop}
/-! ### a dict that is changed no more -/
def tFrz (t : TE) : TE := fun σ H Q => t σ H fun x H1 => ∃ d u, x = .ref d ∧ H1 d = some u ∧ Mut (some u) ∧ ∀ od, Q x (upd H1 d (.frz od u))
theorem pe_frz {e : Expr} (h : PE X e te) : PE X e (tFrz te) := by
  refine ⟨fun pins s σ H Q I q => ?_⟩
  refine wpAny_mono (h.run pins s σ H _ I q) (fun u s1 z => ?_) fun _ _ z => z
  obtain ⟨x, H1, I1, rx, d, ob, ex, hd, mu, q⟩ := z
  obtain ⟨od, I2⟩ := I1.lock hd mu
  exact ⟨x, _, I2, rx, q od⟩
def FzD (G : Hp) (d : Addr) (kvs : List (Key × V)) : Prop := ∃ od, G d = some (.frz od (.dK kvs))
theorem FzD.up (h : FzD G d kvs) (s : Same G G1) : FzD G1 d kvs := let ⟨o, e⟩ := h; ⟨o, s _ _ e⟩
theorem FzD.rd (h : FzD G d kvs) (z : Zp G M H) : Rd H d (.dK kvs) := let ⟨o, e⟩ := h; .inr ⟨o, z.sub _ _ e⟩
theorem FzD.ty (h : FzD G d kvs) : TyX K G (.ref d) (.type "dict") := let ⟨o, e⟩ := h; .fDict e
def FrzW (x : V) (H1 : Hp) (Q : VK) : Prop := ∃ d u, x = .ref d ∧ H1 d = some u ∧ Mut (some u) ∧ ∀ od, Q x (upd H1 d (.frz od u))
theorem z_frz (h : te σ H fun x H1 => FrzW x H1 Q) : tFrz te σ H Q := h
theorem z_frzL (z : Zp G (M ++ [(d, .dK kvs)]) H) (q : ∀ G1 H1, Zp G1 M H1 → Same G G1 → FzD G1 d kvs → Q (.ref d) H1) : FrzW (.ref d) H Q := by
  refine ⟨d, _, rfl, z.at_ M.length last_at, trivial, fun od => ?_⟩
  have fr : G d = none := (z.own M.length _ _ last_at).2
  have z1 := z.put M.length last_at (.frz od (.dK kvs))
  rw [List.set_append_right _ _ (Nat.le_refl _), Nat.sub_self] at z1
  exact q _ _ z1.fix (Same.new fr) ⟨od, upd_same⟩
/-! ### walks -/
theorem src_K : Src (Itk d od kvs) (kvs.map (fun p => kV p.1)) (fun H => H d = some (.frz od (.dK kvs))) where
  go := fun i H h hi => ⟨h, by simpa using hi⟩
  stop := fun i H h hi => ⟨h, by simpa using hi⟩
  yld := fun i H x H' h hi y => by
    obtain ⟨e, k, v, e1, rfl⟩ := y
    exact ⟨e, by rw [List.getElem?_map, e1]; rfl⟩
theorem src_V : Src (Itd d od kvs) (kvs.map (·.2)) (fun H => H d = some (.frz od (.dK kvs))) where
  go := fun i H h hi => ⟨h, by simpa using hi⟩
  stop := fun i H h hi => ⟨h, by simpa using hi⟩
  yld := fun i H x H' h hi y => by
    obtain ⟨e, k, e1⟩ := y
    exact ⟨e, by rw [List.getElem?_map, e1]; rfl⟩
def ItKW (x : V) (H1 : Hp) (R : It → Hp → Prop) : Prop := ∃ d o, x = .ref d ∧ ((∃ kvs, H1 d = some (.frz o (.dK kvs)) ∧ R (Itk d o kvs) H1) ∨ ∃ kvs, H1 d = some (.frz o (.dT kvs)) ∧ R (Itkt d o kvs) H1)
theorem z_iK (h : td σ H fun x H1 => ItKW x H1 R) : iKeys td σ H R := h
theorem z_itK (z : Zp G M H) (h : G d = some (.frz od (.dK kvs))) (q : R (Itk d od kvs) H) : ItKW (.ref d) H R := ⟨d, od, rfl, .inl ⟨kvs, z.sub _ _ h, q⟩⟩
def ItVW (x : V) (H1 : Hp) (R : It → Hp → Prop) : Prop := ∃ d o kvs, x = .ref d ∧ H1 d = some (.frz o (.dK kvs)) ∧ R (Itd d o kvs) H1
theorem z_iV (h : td σ H fun x H1 => ItVW x H1 R) : iVals td σ H R := h
theorem z_itV (z : Zp G M H) (h : G d = some (.frz od (.dK kvs))) (q : R (Itd d od kvs) H) : ItVW (.ref d) H R := ⟨d, od, kvs, rfl, z.sub _ _ h, q⟩
def ItIW (x : V) (H1 : Hp) (R : It → Hp → Prop) : Prop := ∃ d o kvs, x = .ref d ∧ H1 d = some (.frz o (.dK kvs)) ∧ R (Iti d o kvs) H1
theorem z_iI (h : td σ H fun x H1 => ItIW x H1 R) : iItems td σ H R := h
theorem z_itI (z : Zp G M H) (h : G d = some (.frz od (.dK kvs))) (q : R (Iti d od kvs) H) : ItIW (.ref d) H R := ⟨d, od, kvs, rfl, z.sub _ _ h, q⟩
theorem for_items {ts : TS} (I : Nat → L2.St → Hp → List (Addr × HO) → Prop) (z : Zp G M H) (h0 : I 0 σ G M) (fz : ∀ i σ G' M', I i σ G' M' → G' d = some (.frz od (.dK kvs)))
    (turn : ∀ i k v T σ G' M' G2 H', kvs[i]? = some (k, v) → I i σ G' M' → Zp G2 M' H' → Same G' G2 → G2 T = some (.tup [kV k, v]) →
      g (.ref T) σ H' fun σ2 H2 => ts ⟨fun σ' H' => ∃ G' M', Zp G' M' H' ∧ I (i + 1) σ' G' M', D.rt, D.nx, fun σ' H' => ∃ G' M', Zp G' M' H' ∧ I (i + 1) σ' G' M'⟩ σ2 H2)
    (done : ∀ σ G M H, I kvs.length σ G M → Zp G M H → D.nx σ H) : ForW (Iti d od kvs) g ts D σ H := by
  refine ⟨fun i m σ H => m = kvs.length - i ∧ i ≤ kvs.length ∧ ∃ G M, Zp G M H ∧ I i σ G M, ⟨kvs.length, by simp, Nat.zero_le _, G, M, z, h0⟩, ?_⟩
  rintro i m σ H ⟨rfl, hi, G, M, z, h⟩
  have o := z.sub _ _ (fz i σ G M h)
  by_cases c : i < kvs.length
  · refine .inr ⟨⟨o, c⟩, fun σ' H' => ∃ G' M', Zp G' M' H' ∧ I (i + 1) σ' G' M', fun σ' H' q => ⟨kvs.length - (i + 1), by omega, rfl, c, q⟩, fun x H' y => ?_⟩
    obtain ⟨T, k, v, e, rfl, hT, rfl⟩ := y
    exact turn i k v T σ G M _ _ e h (z.new hT _) (Same.new (z.free hT)) upd_same
  · obtain rfl : i = kvs.length := by omega
    exact .inl ⟨⟨o, Nat.le_refl _⟩, done σ G M H h z⟩
/-! ### looks -/
def DgW (x y : V) (H2 : Hp) (Q : VK) : Prop := ∃ a v, x = .ref a ∧ DGet H2 a y (some v) ∧ Q v H2
theorem z_dgt (h : td σ H fun x H1 => tyy σ H1 fun y H2 => DgW x y H2 Q) : tDGet td tyy σ H Q := h
theorem z_dgF (z : Zp G M H) (h : FzD G d kvs) (e : valV kvs k = some v) (q : Q v H) : DgW (.ref d) (kV k) H Q := ⟨d, v, rfl, .inl ⟨kvs, k, h.rd z, rfl, e.symm⟩, q⟩
def DiW (neg : Bool) (y x : V) (H2 : Hp) (Q : VK) : Prop := ∃ a o, x = .ref a ∧ DGet H2 a y o ∧ Q (.bl (if neg then !o.isSome else o.isSome)) H2
theorem z_din (h : tyy σ H fun y H1 => td σ H1 fun x H2 => DiW false y x H2 Q) : tDIn tyy td σ H Q := h
theorem z_dnin (h : tyy σ H fun y H1 => td σ H1 fun x H2 => DiW true y x H2 Q) : tDNotIn tyy td σ H Q := h
theorem z_diF {neg : Bool} (z : Zp G M H) (h : FzD G d kvs) (q : Q (.bl (if neg then !(valV kvs k).isSome else (valV kvs k).isSome)) H) : DiW neg (kV k) (.ref d) H Q := ⟨d, _, rfl, .inl ⟨kvs, k, h.rd z, rfl, rfl⟩, q⟩
/-! ### dicts that are made -/
def DcW (J : It) (g : TG) (tt : TT) (tk tv : TE) (ws : List Nat) (σ : L2.St) (H1 : Hp) (Q : VK) : Prop := ∀ D, H1 D = none → ∃ W : Nat → Nat → Hp → Prop, (∃ m, W 0 m (upd H1 D (.dK []))) ∧ ∀ i m H, W i m H →
  (J.stop i H ∧ Q (.ref D) H) ∨ (J.go i H ∧ ∃ Nx : Hp → Prop, (∀ H', Nx H' → ∃ m', m' < m ∧ W (i + 1) m' H') ∧ ∀ x H', J.yld i H x H' → g x (wipe σ ws) H' fun σ2 H2 => wipe σ2 ws = wipe σ ws ∧ tt σ2 H2 fun b H3 =>
    if b = true then tk σ2 H3 fun y H4 => tv σ2 H4 fun z H5 => ∃ kvs k, y = kV k ∧ H5 D = some (.dK kvs) ∧ kvs.length < sizeLine ∧ Nx (upd H5 D (.dK (putK kvs k z))) else Nx H3)
theorem z_dc {wi : TI} {ws : List Nat} (h : wi σ H fun J H1 => DcW J g tt tk tv ws σ H1 Q) : tDc wi g tt tk tv ws σ H Q := h
def KeptD (I : Hp → List (Addr × HO) → List (Key × V) → Prop) (D : Addr) (H : Hp) : Prop := ∃ G M acc, Zp G (M ++ [(D, .dK acc)]) H ∧ I G M acc
def LaidD (I : Hp → List (Addr × HO) → List (Key × V) → Prop) (D : Addr) (y z : V) (H : Hp) : Prop := ∃ acc k, y = kV k ∧ H D = some (.dK acc) ∧ acc.length < sizeLine ∧ KeptD I D (upd H D (.dK (putK acc k z)))
theorem z_laidD {I : Hp → List (Addr × HO) → List (Key × V) → Prop} {Dl : Addr} {acc : List (Key × V)} (z : Zp G (M ++ [(Dl, .dK acc)]) H) (hl : acc.length ≤ 100000) (q : I G M (putK acc k y)) : LaidD I Dl (kV k) y H := by
  refine ⟨acc, k, rfl, z.at_ M.length last_at, Nat.lt_of_le_of_lt hl (by decide), G, M, _, ?_, q⟩
  have := z.put M.length last_at (.dK (putK acc k y))
  rw [List.set_append_right _ _ (Nat.le_refl _), Nat.sub_self] at this
  exact this
theorem z_leftD {I : Hp → List (Addr × HO) → List (Key × V) → Prop} {Dl : Addr} {acc : List (Key × V)} (z : Zp G (M ++ [(Dl, .dK acc)]) H) (q : I G M acc) : KeptD I Dl H := ⟨G, M, acc, z, q⟩
theorem dc_src {J : It} {ws : List Nat} {OK : Hp → Prop} (S : Src J xs OK) (I : Nat → Hp → List (Addr × HO) → List (Key × V) → Prop) (z : Zp G M H) (h0 : I 0 G M []) (ok : ∀ i G M M1 acc H, I i G M acc → Zp G (M ++ M1) H → OK H)
    (turn : ∀ i x G M acc Dl H, xs[i]? = some x → I i G M acc → Zp G (M ++ [(Dl, .dK acc)]) H → g x (wipe σ ws) H fun σ2 H2 => wipe σ2 ws = wipe σ ws ∧ tt σ2 H2 fun b H3 =>
      Bif b (tk σ2 H3 fun y H4 => tv σ2 H4 fun z H5 => LaidD (I (i + 1)) Dl y z H5) (KeptD (I (i + 1)) Dl H3))
    (done : ∀ p G M acc H1, I xs.length G M acc → Zp G (M ++ [(p, .dK acc)]) H1 → Q (.ref p) H1) : DcW J g tt tk tv ws σ H Q := by
  intro Dl hD
  refine ⟨fun i m H => m = xs.length - i ∧ i ≤ xs.length ∧ KeptD (I i) Dl H, ⟨xs.length, by simp, Nat.zero_le _, G, M, [], z.add hD _, h0⟩, ?_⟩
  rintro i m H ⟨rfl, hi, G, M, acc, z, h⟩
  have o := ok i G M _ acc H h z
  by_cases c : i < xs.length
  · refine .inr ⟨S.go i H o c, KeptD (I (i + 1)) Dl, fun H' q => ⟨xs.length - (i + 1), by omega, rfl, c, q⟩, fun x H' y => ?_⟩
    obtain ⟨rfl, e⟩ := S.yld i H x H' o c y
    exact turn i x G M acc Dl H' e h z
  · obtain rfl : i = xs.length := by omega
    exact .inl ⟨S.stop _ H o (Nat.le_refl _), done Dl G M acc _ h z⟩
/-! ### two fors in one comprehension -/
def Lc2T (J1 : It) (g1 : TG) (tt1 : TT) (te : TE) (vs1 : List Nat) (D : Addr) (Nx : Hp → Prop) (σ2 : L2.St) (H4 : Hp) : Prop := ∃ W1 : Nat → Nat → Hp → Prop, (∃ m, W1 0 m H4) ∧ ∀ j k H, W1 j k H →
  (J1.stop j H ∧ Nx H) ∨ (J1.go j H ∧ ∃ Nx1 : Hp → Prop, (∀ H', Nx1 H' → ∃ k', k' < k ∧ W1 (j + 1) k' H') ∧ ∀ x H', J1.yld j H x H' → g1 x (wipe σ2 vs1) H' fun σ3 H5 => wipe σ3 vs1 = wipe σ2 vs1 ∧ tt1 σ3 H5 fun b H6 =>
    if b = true then te σ3 H6 fun y H7 => ∃ acc, H7 D = some (.lst acc) ∧ acc.length < sizeLine ∧ Nx1 (upd H7 D (.lst (acc ++ [y]))) else Nx1 H6)
def Lc2W (J : It) (g : TG) (tt : TT) (wi1 : TI) (g1 : TG) (tt1 : TT) (te : TE) (ws ws1 : List Nat) (σ : L2.St) (H1 : Hp) (Q : VK) : Prop := ∀ D, H1 D = none → ∃ W : Nat → Nat → Hp → Prop, (∃ m, W 0 m (upd H1 D (.lst []))) ∧ ∀ i m H, W i m H →
  (J.stop i H ∧ Q (.ref D) H) ∨ (J.go i H ∧ ∃ Nx : Hp → Prop, (∀ H', Nx H' → ∃ m', m' < m ∧ W (i + 1) m' H') ∧ ∀ x H', J.yld i H x H' → g x (wipe σ ws) H' fun σ2 H2 => wipe σ2 ws = wipe σ ws ∧ tt σ2 H2 fun b H3 =>
    if b = true then wi1 σ2 H3 fun J1 H4 => Lc2T J1 g1 tt1 te ws1 D Nx σ2 H4 else Nx H3)
theorem z_lc2 {wi wi1 : TI} {g1 : TG} {tt1 : TT} {ws ws1 : List Nat} (h : wi σ H fun J H1 => Lc2W J g tt wi1 g1 tt1 te ws ws1 σ H1 Q) : tLc2 wi g tt wi1 g1 tt1 te ws ws1 σ H Q := h
theorem lc2_src {wi1 : TI} {g1 : TG} {tt1 : TT} {J : It} {ws ws1 : List Nat} {OK : Hp → Prop} (S : Src J xs OK) (I : Nat → Hp → List (Addr × HO) → List V → Prop) (z : Zp G M H) (h0 : I 0 G M []) (ok : ∀ i G M M1 acc H, I i G M acc → Zp G (M ++ M1) H → OK H)
    (turn : ∀ i x G M acc Dl H, xs[i]? = some x → I i G M acc → Zp G (M ++ [(Dl, .lst acc)]) H → g x (wipe σ ws) H fun σ2 H2 => wipe σ2 ws = wipe σ ws ∧ tt σ2 H2 fun b H3 =>
      Bif b (wi1 σ2 H3 fun J1 H4 => Lc2T J1 g1 tt1 te ws1 Dl (Kept (I (i + 1)) Dl) σ2 H4) (Kept (I (i + 1)) Dl H3))
    (done : ∀ p G M acc G1 H1, I xs.length G M acc → Same G G1 → Zp G1 M H1 → G1 p = some (.lst acc) → Q (.ref p) H1) : Lc2W J g tt wi1 g1 tt1 te ws ws1 σ H Q := by
  intro Dl hD
  refine ⟨fun i m H => m = xs.length - i ∧ i ≤ xs.length ∧ Kept (I i) Dl H, ⟨xs.length, by simp, Nat.zero_le _, G, M, [], z.add hD _, h0⟩, ?_⟩
  rintro i m H ⟨rfl, hi, G, M, acc, z, h⟩
  have o := ok i G M _ acc H h z
  by_cases c : i < xs.length
  · refine .inr ⟨S.go i H o c, Kept (I (i + 1)) Dl, fun H' q => ⟨xs.length - (i + 1), by omega, rfl, c, q⟩, fun x H' y => ?_⟩
    obtain ⟨rfl, e⟩ := S.yld i H x H' o c y
    exact turn i x G M acc Dl H' e h z
  · obtain rfl : i = xs.length := by omega
    refine .inl ⟨S.stop _ H o (Nat.le_refl _), done Dl G M acc _ H h (Same.new ?_) z.fix upd_same⟩
    exact (z.own M.length _ _ last_at).2
theorem lc2_in {g1 : TG} {tt1 : TT} {J1 : It} {ws1 : List Nat} {OK : Hp → Prop} {Dl : Addr} {acc : List V} {Nx : Hp → Prop} (S : Src J1 ys OK) (I : Nat → Hp → List (Addr × HO) → List V → Prop) (z : Zp G (M ++ [(Dl, .lst acc)]) H) (h0 : I 0 G M acc) (ok : ∀ i G M M1 acc H, I i G M acc → Zp G (M ++ M1) H → OK H)
    (turn : ∀ i x G M acc H, ys[i]? = some x → I i G M acc → Zp G (M ++ [(Dl, .lst acc)]) H → g1 x (wipe σ ws1) H fun σ2 H2 => wipe σ2 ws1 = wipe σ ws1 ∧ tt1 σ2 H2 fun b H3 =>
      Bif b (te σ2 H3 fun y H4 => Laid (I (i + 1)) Dl y H4) (Kept (I (i + 1)) Dl H3))
    (done : ∀ G M acc H1, I ys.length G M acc → Zp G (M ++ [(Dl, .lst acc)]) H1 → Nx H1) : Lc2T J1 g1 tt1 te ws1 Dl Nx σ H := by
  refine ⟨fun i m H => m = ys.length - i ∧ i ≤ ys.length ∧ Kept (I i) Dl H, ⟨ys.length, by simp, Nat.zero_le _, G, M, acc, z, h0⟩, ?_⟩
  rintro i m H ⟨rfl, hi, G, M, acc, z, h⟩
  have o := ok i G M _ acc H h z
  by_cases c : i < ys.length
  · refine .inr ⟨S.go i H o c, Kept (I (i + 1)) Dl, fun H' q => ⟨ys.length - (i + 1), by omega, rfl, c, q⟩, fun x H' y => ?_⟩
    obtain ⟨rfl, e⟩ := S.yld i H x H' o c y
    exact turn i x G M acc H' e h z
  · obtain rfl : i = ys.length := by omega
    exact .inl ⟨S.stop _ H o (Nat.le_refl _), done G M acc H h z⟩
/-! ### what is built in, of dicts -/
def rDictP (K : PySem.W.Frag) : List V → Hp → VK → Prop := fun xs H Q => ∃ (a : Addr) (ps : List Addr) (kvs : List (Key × V)), xs = [.ref a] ∧ SqL K H a (ps.map V.ref) ∧ Paired (fun p kv => SqT K H p [kV kv.1, kv.2]) ps kvs ∧
  ∀ p, H p = none → Q (.ref p) (upd H p (.dK (mergeK [] kvs)))
theorem c_dictP (hcalm : X.calm = true) (e : X.K = K := by rfl) : CallR X (.type "dict") (rDictP K) := e ▸ call_dictP hcalm
theorem z_dictP {ps : List Addr} (z : Zp G M H) (h : SqL K G a (ps.map V.ref)) (hp : Paired (fun p (kv : Key × V) => SqT K G p [kV kv.1, kv.2]) ps kvs) (q : ∀ p H1, Zp G (M ++ [(p, .dK (mergeK [] kvs))]) H1 → Q (.ref p) H1) : rDictP K [.ref a] H Q :=
  ⟨a, ps, kvs, rfl, z.seqL h, L2.Paired.mapP hp fun _ _ h => z.seqT h, fun p hp => q p _ (z.add hp _)⟩
def rDictD : List V → Hp → VK → Prop := fun xs H Q => ∃ (a : Addr) (kvs : List (Key × V)), xs = [.ref a] ∧ Rd H a (.dK kvs) ∧ ∀ p, H p = none → Q (.ref p) (upd H p (.dK kvs))
theorem c_dictD : CallR X (.type "dict") rDictD := call_dictD
theorem z_dictD (z : Zp G M H) (h : FzD G d kvs) (q : ∀ p H1, Zp G (M ++ [(p, .dK kvs)]) H1 → Q (.ref p) H1) : rDictD [.ref d] H Q := ⟨d, kvs, rfl, h.rd z, fun p hp => q p _ (z.add hp _)⟩
def rLenD : List V → Hp → VK → Prop := fun xs H Q => ∃ (a : Addr) (kvs : List (Key × V)), xs = [.ref a] ∧ Rd H a (.dK kvs) ∧ Q (.int kvs.length) H
theorem c_lenD : CallR X (.builtin "len") rLenD := by
  intro pins s σ H vs us Q I r h
  obtain ⟨a, kvs, rfl, ha, q⟩ := h
  rw [Vals.ref1 r]
  exact d_len I ha fun t s' I' => ⟨.int kvs.length, H, I', ⟨t, rfl⟩, q⟩
theorem z_lenD (z : Zp G M H) (h : FzD G d kvs) (q : Q (.int kvs.length) H) : rLenD [.ref d] H Q := ⟨d, kvs, rfl, h.rd z, q⟩
def rSetD (P : Program) (w : World) : List V → Hp → VK → Prop := fun vs H Q => ∃ (d : Addr) (od : Obj) (kvs : List (Key × V)) (ks : List Str), vs = [V.ref d] ∧ H d = some (.frz od (.dK kvs)) ∧ kvs.map (·.1) = ks.map .inr ∧ ks.length ≤ 900 ∧
  ∀ a l, (∀ x, x ∈ l ↔ x ∈ ks) → l.Nodup → l.length ≤ ks.length → H a = none → Q (.ref a) (upd H a (TxO P w a l))
theorem cr_setD (hc : X.calm = true) : CallR X (.type "set") (rSetD X.prog X.w) := by
  intro pins s σ H vs us Q I r h
  obtain ⟨d, od, kvs, ks, rfl, hd, hk, few, q⟩ := h
  rw [Vals.ref1 r]
  obtain ⟨hs, hgd, hx, es, ep, vs, hdt, hsz, kv, hm⟩ := I.frzK hd
  refine make_dict (I.ok.hd hc) hm ((KV.keys kv).symm.trans hk) hs few fun h' tk l' T' m len k => ?_
  have nd : l'.Nodup := let ⟨_, _, _, nd, _⟩ := T'; nd
  exact ⟨.ref s.heap.objs.size, upd H s.heap.objs.size (TxO X.prog X.w s.heap.objs.size l'), I.laid (t' := tk) k (Nat.le_refl _) (txO_ok T'), rfl, q _ l' m nd len (I.hok.fresh (Nat.le_refl _))⟩
theorem kc_setD (hc : X.calm = true) (e1 : X.prog = P := by rfl) (e2 : X.w = w := by rfl) : CallR X (.type "set") (rSetD P w) := by subst e1; subst e2; exact cr_setD hc
theorem z_setD {ks : List Str} (z : Zp G M H) (h : FzD G d kvs) (hk : kvs.map (·.1) = ks.map .inr) (hl : ks.length ≤ 900)
    (q : ∀ p l G1 H1, Zp G1 M H1 → Same G G1 → G1 p = some (TxO P w p l) → (∀ x, x ∈ l ↔ x ∈ ks) → l.Nodup → l.length ≤ ks.length → Q (.ref p) H1) : rSetD P w [.ref d] H Q := by
  obtain ⟨od, e⟩ := h
  exact ⟨d, od, kvs, ks, rfl, z.sub _ _ e, hk, hl, fun p l m nd len hp => q p l _ _ (z.new hp _) (Same.new (z.free hp)) upd_same m nd len⟩
theorem kc_sum (hc : X.calm = true) (e : X.K = K := by rfl) : CallR X (.builtin "sum") (rSum K) := e ▸ cr_sum hc
theorem kc_max (hc : X.calm = true) (e : X.K = K := by rfl) : CallR X (.builtin "max") (rMax K) := e ▸ cr_max hc
theorem z_sum {ns : List Int} (z : Zp G M H) (h : SqL K G a (ns.map V.int)) (q : Q (.int ns.sum) H) : rSum K [.ref a] H Q := ⟨a, ns, rfl, z.seqL h, q⟩
theorem z_max {ns : List Int} {m : Int} (z : Zp G M H) (h : SqL K G a (ns.map V.int)) (hm : m ∈ ns) (h1 : ∀ y ∈ ns, y ≤ m) (q : Q (.int m) H) : rMax K [.ref a] H Q :=
  ⟨a, ns, rfl, z.seqL h, List.length_pos_of_mem hm, fun m' hm' h2 => by
    obtain rfl : m = m' := Int.le_antisymm (h2 m hm) (h1 m' hm')
    exact q⟩
/-! ### keys and values -/
theorem valV_ix : ∀ {kvs : List (Key × V)} {i : Nat} {k : Key} {v : V}, (kvs.map (·.1)).Nodup → kvs[i]? = some (k, v) → valV kvs k = some v
  | [], _, _, _, _, h => by simp at h
  | p :: r, 0, k, v, nd, h => by
    obtain rfl : p = (k, v) := by simpa using h
    exact valV_pos rfl
  | p :: r, i + 1, k, v, nd, h => by
    have h' : r[i]? = some (k, v) := by simpa using h
    obtain ⟨n1, n2⟩ := List.nodup_cons.mp nd
    rw [valV_neg (p := p) fun e : p.1 = k => n1 (List.mem_map.mpr ⟨(k, v), List.mem_of_getElem? h', e.symm⟩)]
    exact valV_ix n2 h'
theorem valV_out {kvs : List (Key × V)} {k : Key} (h : k ∉ kvs.map (·.1)) : valV kvs k = none := by
  cases e : valV kvs k with
  | none => rfl
  | some v => exact absurd (valV_in e) h
theorem valV_isin {kvs : List (Key × V)} {k : Key} (h : k ∈ kvs.map (·.1)) : (valV kvs k).isSome = true := by
  cases e : valV kvs k with
  | some v => rfl
  | none => exact absurd h (valV_not e)
end
end Ys
namespace Ys
open PySem PySem.Spec PyProof.Rows L2
/-! ### an own exception's __init__ that says super().__init__(x), self.f = x -/
structure SupF (P : Program) (K : PySem.W.Frag) (C fI : Addr) (fld qual : Str) (params : Arguments) (body : List Stmt) (scope : Scope) (fd : FuncData) : Prop where
  ex : ∃ oc od osl dV kV doc pm an cda ct cc, fd = PySem.W.ksFn "__init__" qual params body scope dV kV doc pm an (.ref cda) ct cc ∧ K.lookup fI = some ⟨oc, od, .func fd, osl⟩ ∧ PySem.W.codeIn K (.ref cda) qual = true ∧
    (∃ ccl cdd vs ccs file tf, K.lookup cda = some ⟨ccl, cdd, .fields vs, ccs⟩ ∧ vs[2]? = some (.str file tf) ∧ ((P.main.file : Str) == file) = true) ∧ ∃ cl cld csl, K.lookup cc = some ⟨cl, cld, .cell (some (.ref C)), csl⟩
  sup : PySem.W.ks_superIn K C C "__init__" = some (some (.builtin "ValueError.__init__"))
  subV : PySem.W.subIn K (.ref C) (.type "ValueError") = some true
  opq : PySem.W.nsIn K cStatics "thirdparty.any" = some none
  gs : PySem.W.nsIn K mainGlobals "super" = some none
  no : PySem.W.findIn K (.ref C) fld = some none
  mro : PySem.W.mroIn K C (.ref C) = some true
structure SupS (x : Str) (params : Arguments) (scope : Scope) : Prop where
  nc : ∀ y ∈ scope.names, y.2 ≠ .cell
  ns : scope.names.lookup ("super" : Str) = some .globalImplicit
  nk : scope.names.lookup ("__class__" : Str) = some .free
  n1 : scope.names.lookup ("self" : Str) = some .local
  n2 : scope.names.lookup x = some .local
  co : scope.isCoroutine = false
  ge : scope.isGenerator = false
  ki : scope.kind = .function
  hd : ∃ ar, (params.posonlyargs ++ params.args).head? = some ar ∧ ar.arg = "self"
  ne : ("self" : Str) ≠ x
  nd : (x == ("__debug__" : Str)) = false
section
variable {P : Program} {w : World} {K : PySem.W.Frag} {C fI a t0 : Addr} {x fld qual : Str} {params : Arguments} {scope : Scope} {p0 p1 p2 p3 p4 p5 p6 p7 p8 p9 : Pos} {A : Around} {mg mb : Str → Option Value} {v : Value} {R : Result → Shared → Prop} {fd : FuncData} {hp : Heap} {g : Array GenState} {d : Drawn} {t : Nat} {os : OsState}
theorem call_mwV {mw : Addr} {us : List Value} {nm q : Str} {N : Addr} {bs bm : List Value} {hd : Bool} {sn : List Str} {sub : List Value} {ab : Bool} {col : Option Bool} {dd : Option Addr} {k0 k1 k2 k3 k5 : Option Value} {Q : Value → Shared → Prop} {E : Value → Shared → Prop}
    (hC : hp.get? C = some (excClassObj nm q C N bs bm hd sn sub ab col dd k0 k1 k2 k3 k5 "ValueError.__new__")) (_hT : ∀ Y : String, bm.contains (.type Y) = PySem.HandSPX.veTail.contains (.type Y)) (hx : hp.get? a = some (PySem.HandSPX.excO C t0)) (hu : hp.get? mw = some (PySem.W.kxs_mw "ValueError.__init__" a)) (hz : us.length ≤ sizeLine)
    (hq : ∀ h' t1, (∀ b o, b ≠ a → hp.get? b = some o → h'.get? b = some o) → h'.get? a = some (PySem.HandSPX.excO C t1) → Q .none ⟨h', g, d, t, os⟩) : wpAny (model P w) A (call (.ref mw) us) Q E ⟨hp, g, d, t, os⟩ := by
  refine wpAny_call (codeAny_of_tree ?_)
  show wpAny _ A.in1 (callAny (.ref mw) ⟨us, []⟩) _ _ _; simp only [callAny]
  refine wpAny_bind (wpAny_load hu ?_)
  have q1 : (Value.type "method-wrapper" == Value.type "method" || Value.type "method-wrapper" == Value.type "builtin_function_or_method" || Value.type "method-wrapper" == Value.type "method-wrapper") = true := by decide
  simp only [PySem.W.kxs_mw, q1, if_true]
  refine PySem.W.KFB.if_so (by decide) (wpAny_bind (PySem.W.check_bound_init F.excBase_ValueError.toExcCallFacts hC hx rfl ?_))
  refine wpAny_bind (wpAny_pure (wpAny_pure ⟨plainId_quiet F.excBase_ValueError.init.plain _, codeAny_builtin F.excBase_ValueError.initEntry ?_⟩))
  exact PySem.W.exc_init_tree (cls := .ref C) (t0 := t0) (dv := none) (c2 := .none) (c3 := .none) (b4 := .bool false) hx hz fun h' k e _ => hq h' _ k e
def supBody (x fld : Str) (p0 p1 p2 p3 p4 p5 p6 p7 p8 p9 : Pos) : List Stmt := [.Expr (.Call (.Attribute (.Call (.Name "super" p0) [] [] p1) "__init__" p2) [.Name x p3] [] p4) p5, .Assign [.Attribute (.Name "self" p6) fld p7] (.Name x p8) p9]
theorem run_sup (S : SupF P K C fI fld qual params (supBody x fld p0 p1 p2 p3 p4 p5 p6 p7 p8 p9) scope fd) (Z : SupS x params scope) (T : OexC K C) (X : K.In hp) (hg : hp.Ns mainGlobals mg) (hb : hp.Ns builtinsNs mb) (hbb : ∀ y : Str, y ≠ "__name__" → mb y = bootBuiltins y) (hlim : hp.NoLimit) (hroom : A.depth < recursionLimit) (hun : A.units + 64 < cLine)
    (hev : ∀ env : Env, env.scope = scope → ∃ pl : Sem Bool, eval (.Call (.Attribute (.Call (.Name "super" p0) [] [] p1) "__init__" p2) [.Name x p3] [] p4) env = (do
      let ov ← attributeBase (.Call (.Name "super" p0) [] [] p1) "__init__" env (eval (.Call (.Name "super" p0) [] [] p1) env)
      standAt p2.atName
      let (f, first) ← holding [ov] (getMethod ov "__init__" pl)
      callWith p4 f first (backTo p4 (starEach [.Name x p3] env)) []))
    (hint : ∀ env : Env, env.scope = scope → interactive env = false) (hsw1 : ∀ env : Env, env.scope = scope → swapsWith (.Call (.Attribute (.Call (.Name "super" p0) [] [] p1) "__init__" p2) [.Name x p3] [] p4) none p5.line env = pure false)
    (hsw2 : ∀ env : Env, env.scope = scope → swapsWith (.Name x p8) (some (.Attribute (.Name "self" p6) fld p7)) p9.line env = pure false)
    (htop : (P.main.scope.names.lookup ("super" : Str)).isSome = false)
    (haK : K.lookup a = none) (hx : hp.get? a = some (PySem.HandSPX.excO C t0)) (args : Args) (hbind : BindsTo ⟨hp, g, d, t, os⟩ fd args [("self", .ref a), (x, v)])
    (hR : ∀ h' tk dx t1, (∀ b o, b ≠ a → hp.get? b = some o → h'.get? b = some o) → hp.objs.size ≤ dx → dx ≠ a → h'.get? a = some ({ cls := .ref C, dict := some dx, data := .fields #[.ref t1, .none, .none, .none, .bool false, .none] } : Obj) →
      h'.Ns1 dx (fun y => if y = fld then some v else none) → R (.ok (.ret .none)) ⟨h', g, d, tk, os⟩) :
    codeAny (model P w) A (.call (.ref fI) args) R ⟨hp, g, d, t, os⟩ := by
  obtain ⟨oc, od, osl, dV, kV, doc, pm, an, cda, ct, cc, rfl, lk, hcd, ⟨ccl, cdd, vs, ccs, file, tf, lcd, hvs, hfile⟩, cl, cld, csl, lcc⟩ := S.ex
  obtain ⟨ar, har, hars⟩ := Z.hd
  obtain ⟨nm, q, N, bs, bm, sn, sub, ab, col, dd, k0, k1, k2, k3, k5, hC, hbm⟩ := T.cls
  have hcl : PySem.W.clsIn K C = some { name := nm, bases := bs, mro := .ref C :: bm, ns := N, qualname := q, hasDict := true, slotNames := sn, subclasses := sub, abstract := ab, collection := col, hasDel := false } := by unfold PySem.W.clsIn; rw [hC] <;> rfl
  refine ks_codeAny_call_defAt (body := supBody x fld p0 p1 p2 p3 p4 p5 p6 p7 p8 p9) (binds := [("self", .ref a), (x, v)]) hroom (X _ _ lk) rfl hlim (PySem.W.codeRec_of X hcd) rfl hbind Z.nc (fun y hy => ?_) (fun h0 hns hk => ?_) Z.co Z.ge Z.ki
  · rcases List.mem_cons.mp hy with rfl | hy
    · exact Z.n1
    · obtain rfl : y = (x, v) := by simpa using hy
      exact Z.n2
  have X0 : K.In h0 := X.keeps hk
  have ns_ : ∀ {L : Addr} {m : Str → Option Value}, hp.Ns L m → h0.Ns L m := fun ⟨o, es, ep, e, d, r⟩ => ⟨o, es, ep, hk _ _ e, d, r⟩
  have hn2 : h0.Ns hp.objs.size (fun y => [(("self" : Str), Value.ref a), (x, v)].reverse.lookup y) := hns
  have lself : ([(("self" : Str), Value.ref a), (x, v)].reverse.lookup ("self" : Str)) = some (.ref a) := by
    show List.lookup ("self" : Str) [(x, v), (("self" : Str), Value.ref a)] = _
    rw [List.lookup_cons, show (("self" : Str) == x) = false from by simpa using Z.ne]
    simp [List.lookup]
  have lx : ([(("self" : Str), Value.ref a), (x, v)].reverse.lookup x) = some v := by
    show List.lookup x [(x, v), (("self" : Str), Value.ref a)] = _
    rw [List.lookup_cons]
    simp
  obtain ⟨pl, hev⟩ := hev (callEnv (PySem.W.ksFn "__init__" qual params (supBody x fld p0 p1 p2 p3 p4 p5 p6 p7 p8 p9) scope dV kV doc pm an (.ref cda) ct cc) hp.objs.size fI) rfl
  refine ks_wpAt_execs_cons (ks_wpAt_Expr_any (ks_wpAt_MethodCall (pl := pl) ?_ hev) (hint _ rfl) (hsw1 _ rfl))
  refine ks_wpAt_super_base Z.ns Z.nk (by decide +kernel) rfl (X0 _ _ lk) rfl har rfl (X0 _ _ lcd) rfl hvs hfile htop ?_
  refine PySem.W.ks_loadName_global Z.ki Z.ns (PySem.Calls.loadGlobal_builtin (ns_ hg) (PySem.W.mg_none_of X hg S.gs) (ns_ hb) ((hbb _ (by decide +kernel)).trans (by first | rfl | kernel_rfl)) ⟨rfl, ?_⟩)
  refine wpAny_loadName_free Z.ki Z.nk rfl ⟨_, X0 _ _ lcc, rfl⟩ ?_
  rw [hars]
  refine wpAny_loadName_local Z.ki Z.n1 hn2 lself ?_
  refine ks_wpAny_isType_cls (X0 _ _ hC) rfl ⟨rfl, ?_⟩
  have hxa := hk _ _ hx
  refine ks_wpAny_call_super (X0 _ _ hC) rfl hxa rfl (fun c e => by cases e) (PySem.W.looks_mroIn X0 S.mro) (fun h1 e1 k1 => ?_)
  have X1 : K.In h1 := X0.keeps k1
  have I1 : PySem.W.InstAt h1 a (PySem.HandSPX.excO C t0) C none := ⟨k1 _ _ hxa, rfl, rfl, trivial⟩
  have hsup : PySem.W.alongIn K "__init__" ((((Value.ref C :: bm).dropWhile (· != .ref C)).drop 1)) = some (some (.builtin "ValueError.__init__")) := by
    have := S.sup
    unfold PySem.W.ks_superIn at this
    rw [hcl] at this
    exact this
  refine PySem.W.kxs_getMethod PySem.W.kxs_ValueError e1 (PySem.W.looks_opaque X1 S.opq) (l₀ := .ref C :: bm) (fun A Q E s k q => wpAny_bind ((PySem.W.looks_clsIn X1 hcl) A _ E s k (wpAny_pure q))) rfl X1 hsup (I1.type.andThen (PySem.W.looks_subIn X1 S.subV)) (PySem.W.ks_ne X1 I1 hcl) (by decide +kernel) ?_
  refine PySem.W.kxs_callWith (i := "ValueError.__init__") (x := a) (u := h1.objs.size) rfl (PySem.Calls.evalArgs_plain (PySem.Calls.spliced_cons ?_))
  show wpAny _ _ (eval (.Name x p3) _) _ _ _
  have hk1 : ∀ b o, hp.get? b = some o → h1.get? b = some o := fun b o e => k1 _ _ (hk _ _ e)
  have hn3 : h1.Ns hp.objs.size (fun y => [(("self" : Str), Value.ref a), (x, v)].reverse.lookup y) := let ⟨o, es, ep, e, d, r⟩ := hn2; ⟨o, es, ep, k1 _ _ e, d, r⟩
  refine PySem.ESX.ldL (m := fun y => [(("self" : Str), Value.ref a), (x, v)].reverse.lookup y) ?_ lx ?_ Z.ki Z.n2 Z.nd
  · let ⟨o, es, ep, e, d, r⟩ := hn3
    exact ⟨o, es, ep, Heap.get?_push_of_some _ e, d, r⟩
  refine wpAny_pure ⟨Heap.get?_push_at rfl rfl, ?_⟩
  show wpAny _ _ (call (.ref h1.objs.size) [v]) _ _ _
  have kp : ∀ b o, h1.get? b = some o → (h1.push (PySem.W.kxs_mw "ValueError.__init__" a)).get? b = some o := fun b o e => Heap.get?_push_of_some _ e
  refine call_mwV (kp _ _ (X1 _ _ hC)) (fun Y => PySem.HandSPX.refsVE_contains Y bm hbm) (kp _ _ (hk1 _ _ hx)) (Heap.get?_push_at rfl rfl) (by show 1 ≤ sizeLine; decide) (fun h2 t1 k2 hx2 => ?_)
  have k02 : ∀ b o, b ≠ a → hp.get? b = some o → h2.get? b = some o := fun b o nb e => k2 b o nb (kp _ _ (hk1 _ _ e))
  have nC : C ≠ a := fun z => by have := X _ _ hC; rw [z, hx] at this; cases this
  have X2 : K.In h2 := fun b o e => k02 b o (fun z => by rw [z, haK] at e; cases e) (X _ _ e)
  have hL : hp.objs.size ≠ a := Nat.ne_of_gt (Heap.lt_size hx)
  have hn4 : h2.Ns hp.objs.size (fun y => [(("self" : Str), Value.ref a), (x, v)].reverse.lookup y) := by
    obtain ⟨o, es, ep, e, d, r⟩ := hn3
    exact ⟨o, es, ep, k2 _ _ hL (kp _ _ e), d, r⟩
  refine ks_wpAt_execs_cons (ks_wpAt_Assign_Attr (wpAt_of_wpAny (PySem.ESX.ldL hn4 lx (PySem.ESX.ldL hn4 lself ?_ Z.ki Z.n1 (by decide)) Z.ki Z.n2 Z.nd)) (hsw2 _ rfl))
  refine PySem.W.set_plain X2 (ox := PySem.HandSPX.excO C t1) (od := none) ⟨hx2, rfl, rfl, trivial⟩ T.sa ?_
  refine PySem.HandSPX.exc_osa X2 hx2 hcl (show PySem.HandSPX.refsVE (.ref C :: bm) = true from hbm) rfl S.no (fun h3 tk3 dx k3 hd3 ne3 hx3 hn5 => ?_)
  refine wpAt_of_wpAny (wpAny_pure ?_)
  have hsz : hp.objs.size < h2.objs.size := let ⟨o, es, ep, e, d, r⟩ := hn4; Heap.lt_size e
  exact hR h3 tk3 dx t1 (fun b o nb e => k3 b o nb (k02 b o nb e)) (Nat.le_trans (Nat.le_of_lt hsz) hd3) ne3 hx3 hn5
def spSup (K : PySem.W.Frag) (C : Addr) (fld : Str) : Sp := fun vs H Q _ => ∃ a y, vs = [.ref a, y] ∧ H a = some (exo a C none) ∧ ∀ dx, H dx = none → dx ≠ a → Q .non (upd (upd H dx (exd dx [(fld, y)])) a (exo a C (some dx)))
theorem ok_sup {base : Heap} {CX : CXT} (S : SupF P K C fI fld qual params (supBody x fld p0 p1 p2 p3 p4 p5 p6 p7 p8 p9) scope fd) (Z : SupS x params scope) (T : OexC K C)
    (hev : ∀ env : Env, env.scope = scope → ∃ pl : Sem Bool, eval (.Call (.Attribute (.Call (.Name "super" p0) [] [] p1) "__init__" p2) [.Name x p3] [] p4) env = (do
      let ov ← attributeBase (.Call (.Name "super" p0) [] [] p1) "__init__" env (eval (.Call (.Name "super" p0) [] [] p1) env)
      standAt p2.atName
      let (f, first) ← holding [ov] (getMethod ov "__init__" pl)
      callWith p4 f first (backTo p4 (starEach [.Name x p3] env)) []))
    (hint : ∀ env : Env, env.scope = scope → interactive env = false) (hsw1 : ∀ env : Env, env.scope = scope → swapsWith (.Call (.Attribute (.Call (.Name "super" p0) [] [] p1) "__init__" p2) [.Name x p3] [] p4) none p5.line env = pure false)
    (hsw2 : ∀ env : Env, env.scope = scope → swapsWith (.Name x p8) (some (.Attribute (.Name "self" p6) fld p7)) p9.line env = pure false)
    (htop : (P.main.scope.names.lookup ("super" : Str)).isSome = false) : FnOk P w K mg base CX 1 fI fd ["self", x] (spSup K C fld) := by
  refine ⟨fun vs H Q E h => ?_, fun A outer s H args us vs Q E hr e0 hbd r hsp => ?_⟩
  · obtain ⟨a, y, rfl, _⟩ := h
    rfl
  obtain ⟨a, y, rfl, ha, q⟩ := hsp
  obtain ⟨u1, u2, rfl, r1, r2⟩ := vals2 r
  obtain rfl : u1 = Value.ref a := r1
  obtain ⟨t0, hx⟩ := exo_at e0.hok ha
  have KX : K.In s.heap := e0.mod.kin.keeps fun b o e => (e0.bs b o e).1
  have haK : K.lookup a = none := by
    cases z : K.lookup a with
    | none => rfl
    | some o =>
      have := (e0.bs _ _ (e0.mod.kin _ _ z)).2
      rw [ha] at this
      cases this
  obtain ⟨mb, hmb, hbb⟩ := e0.mod.blt
  have ns_ : ∀ {L : Addr} {m : Str → Option Value}, base.Ns L m → s.heap.Ns L m := fun ⟨o, es, ep, e, d, r⟩ => ⟨o, es, ep, (e0.bs _ _ e).1, d, r⟩
  have lim : s.heap.NoLimit := e0.mod.nolimit.keeps fun b o e => (e0.bs b o e).1
  obtain ⟨hp, g, d, t, os⟩ := s
  refine run_sup S Z T KX (ns_ e0.mod.glob) (ns_ hmb) hbb lim hr.depth hr.units hev hint hsw1 hsw2 htop haK hx args hbd (fun h' tk dx t1 k hd ne hx' hn => ?_)
  have nH : H dx = none := e0.hok.fresh hd
  have old : ∀ {b : Addr} {o : Obj}, hp.get? b = some o → b ≠ dx := fun e z => absurd (Heap.lt_size (z ▸ e)) (Nat.not_lt.mpr hd)
  have sep : ∀ {b : Addr}, H b = none → b ≠ a := fun n z => by rw [z, ha] at n; cases n
  refine ⟨.non, upd (upd H dx (exd dx [(fld, y)])) a (exo a C (some dx)), rfl, e0.bare, ⟨fun b o e n _ _ => k b o (sep n) e, fun b o e n _ _ => ⟨o.slots, k b o (sep n) e⟩, fun b o e n _ => ?_, fun b o e _ => ?_, fun b xs e => ?_, fun b o u e => ?_, fun b ps e => ?_⟩, fun b o e => ?_, rfl, q dx nH ne⟩
  · rw [upd_ne (sep n), upd_ne (old e)]
    exact n
  · by_cases c : b = a
    · exact ⟨_, by rw [c]; exact hx'⟩
    · exact ⟨o, k b o c e⟩
  · rw [upd_ne (at_ne ha e exo_tup), upd_ne (ne_of_none e nH)]
    exact e
  · rw [upd_ne (at_ne ha e exo_frz), upd_ne (ne_of_none e nH)]
    exact e
  · exact ⟨#[], by rw [upd_ne (at_ne ha e exo_tbl), upd_ne (ne_of_none e nH), e]; simp⟩
  · by_cases c : b = a
    · subst c
      rw [upd_same] at e
      cases e
      exact exo_ok hx'
    rw [upd_ne c] at e
    by_cases c2 : b = dx
    · subst c2
      rw [upd_same] at e
      cases e
      exact exd_ok hn (relO_put (fs := []) r2 fun _ => True.intro)
    rw [upd_ne c2] at e
    refine (e0.hok b o e).stay (fun c' v' hc z => k c' v' ?_ z) (fun c' hc => ?_) (fun c' xs hc => ?_)
    · rcases hc with hc | hc
      · rw [hc]; exact c
      · exact at_ne ha hc exo_own
    · rw [upd_ne (at_ne ha hc exo_own), upd_ne (ne_of_none hc nH)]
      exact hc
    · rw [upd_ne (at_ne ha hc exo_tup), upd_ne (ne_of_none hc nH)]
      exact hc
end
end Ys
namespace Ys
open PySem PySem.Spec PyProof.Rows L2 PySem.W PySem.Calls
section
variable {prog : Program} {w : World} {A : Around} {E : Value → Shared → Prop} {s : Shared} {K : Frag} {x D : Addr} {ox : Obj} {od : Option Obj}
theorem exc_class {Q : Option Value → Shared → Prop} (C : ExcC K D) (X : K.In s.heap) (I : InstAt s.heap x ox D od) (h : Q (some (.ref D)) { s with toks := s.toks + 1 }) : wpAny (model prog w) A (getAttr? (.ref x) "__class__") Q E s := by
  obtain ⟨hga, hgt, hsub, hdct, ha, hn, htk, hm⟩ := C
  have hc1 : (clsIn K D).isSome = true := by obtain ⟨cd, hc, _⟩ := any_some hdct; rw [hc]; rfl
  have hf : findObj K D od "__class__" = some (.bind (.builtin "getset_descriptor.__get__") (.builtin "object.__class__")) := by
    cases od with
    | none => exact findObj_dataN hc1 ha hn htk
    | some od => exact findObj_data hc1 ha hn htk
  obtain ⟨hp, g, d, t, os⟩ := s
  have M0 := I.type (M := model prog w); have M1 := looks_findIn (M := model prog w) X hga; have M2 := looks_findIn (M := model prog w) X hgt; have M3 := looks_find (M := model prog w) X I hf
  have isB : Looks (model prog w) hp (isInstance (.ref x) (.type "BaseException")) true := M0.andThen (looks_subIn X hsub)
  have n2 : (Value.builtin "BaseException.__getattribute__" == Value.builtin "object.__getattribute__") = false := by decide +kernel
  have n1 : (onTheHeap (Value.ref D) && Value.builtin "BaseException.__getattribute__" == Value.builtin "object.__getattribute__") = false := by rw [n2]; rfl
  unfold getAttr? getAttrBy? getAttrBy; refine wpAny_bind (wpAny_mkText (wpAny_bind (wpAny_attempt (wpAny_holding (wpAny_bind (M0.at (wpAny_bind (M1.at ?_))))))))
  refine (show wpAny _ _ (if (onTheHeap (Value.ref D) && Value.builtin "BaseException.__getattribute__" == Value.builtin "object.__getattribute__") = true then _ else _) _ _ _ from ?_)
  rw [n1, if_neg Bool.false_ne_true]; unfold getAttrByItsOwn hookBefore; refine wpAny_bind ?_
  rw [if_pos (show onTheHeap (Value.ref D) = true from rfl)]; refine M2.at (wpAny_bind (wpAny_attempt (wpAny_holding ?_)))
  unfold callGetattribute; rw [show (false && onTheHeap (Value.builtin "BaseException.__getattribute__")) = false from rfl, if_neg Bool.false_ne_true]
  unfold boundAndCalled; rw [PySem.F.excAttr_ValueError.ga.bind (.ref x)]; refine wpAny_bind (wpAny_pure ?_)
  refine (show wpAny _ _ (call (.builtin "BaseException.__getattribute__") [.ref x, .str "__class__" t]) _ _ _ from wpAny_call (codeAny_call_builtin PySem.F.excAttr_ValueError.ga.plain PySem.F.entry_bexc_ga ?_))
  refine @check_slot (model prog w) _ _ ⟨hp, g, d, t + 1, os⟩ "BaseException.__getattribute__" "BaseException" "__getattribute__" (.ref x) [.str "__class__" t] [] _ (by decide +kernel) (by decide +kernel) isB (PySem.F.args_bexc_ga (.ref x) (.str "__class__" t)) ?_
  unfold Builtin.«object.__getattribute__»; refine wpAny_bind (wpAny_of_eq (a := ((Value.ref x : Value), [Value.str "__class__" t])) (by first | rfl | (simp only [slotArgs]; rfl)) (wpAny_bind (wpAny_pure (wpAny_bind (M0.at (wpAny_bind (M3.at ?_)))))))
  refine (show wpAny _ _ (holding [Value.builtin "object.__class__"] (call (.builtin "getset_descriptor.__get__") [.builtin "object.__class__", .ref x, .ref D]) >>= ret) _ _ _ from wpAny_bind (wpAny_holding (wpAny_call (class_get (s := ⟨hp, g, d, t + 1, os⟩) (ox := ox) (od := od) X I hm (wpAny_pure ?_)))))
  refine (show wpAny _ _ (handedOut (.ref D)) _ _ _ from ?_)
  rw [handedOut_of (v := .ref D) rfl]
  first | exact wpAny_pure (wpAny_pure h) | exact wpAny_pure h | exact wpAny_pure (wpAny_bind (wpAny_pure (wpAny_pure h)))
theorem kitx_exc (C : ExcC K D) : KitX K (.ref x) (.ref D) (fun h => InstAt h x ox D od) :=
  ⟨fun _ _ _ I => I.type, (fun M h X _ A' Q' E' s' k q => by obtain ⟨cdD, hcD, _⟩ := any_some C.hd; unfold clsIn at hcD; split at hcD; (· rename_i ho; unfold isType loadHead; exact wpAny_bind (wpAny_loadPart (k _ _ (X _ _ ho)) (wpAny_pure q))); (· cases hcD)), (fun h tp dd its n sl X htp => by
    obtain ⟨cdD, hcD, _⟩ := any_some C.hd
    refine Bool.eq_false_iff.mpr fun q => ?_
    obtain rfl : D = tp := Value.ref.inj (beq_iff_eq.mp q)
    unfold clsIn at hcD
    split at hcD
    · rename_i ho
      have z := (X _ _ ho).symm.trans htp
      cases z
    · cases hcD), fun X I k => exc_class C X I k⟩
end
section
def rIsX (K : Frag) (D a : Addr) (cls : Value) (d : Option Addr) : List V → Hp → VK → Prop := fun xs H Q => ∃ (c : V) (cv : Value) (b : Bool) (dd : Addr) (fs : List (Str × V)), xs = [.ref a, c] ∧ cls = .ref D ∧ ClsV c cv ∧ kitOne K (.ref D) cv = some b ∧ d = some dd ∧ H dd = some (.xd fs) ∧ Q (.bl b) H
theorem call_isX {X : Cx} {a D : Addr} {cls : Value} {d : Option Addr} {oe : Obj} {pn : List (Addr × Obj)} (C : ExcC X.K D) (hz : Zc cls d oe) (hf : ∃ vs, oe.data = .fields vs) : CallR (X.suite a ((a, oe) :: pn)) (.builtin "isinstance") (rIsX X.K D a cls d) := by
  intro pins s σ H xs us Q I r ⟨c, cv, b, dd, fs, e1, e0, hc, e2, e3, hd, q⟩
  subst e1 e0
  obtain ⟨u1, u2, rfl, r1, r2⟩ := vals2 r
  obtain rfl : u1 = Value.ref a := r1
  obtain rfl := hc.eq r2
  subst e3
  obtain ⟨hget, _⟩ := I.pin (a, oe) (List.mem_append_left _ List.mem_cons_self)
  obtain ⟨mA, hns, _⟩ := (show ObjOk X.prog X.w H s.heap dd (.xd fs) from I.hok dd _ hd)
  obtain ⟨od, ho, _⟩ := lookIn_ns hns
  obtain ⟨vs, hv⟩ := hf
  have J : InstAt s.heap a oe D (some od) := ⟨hget, hz.1, (by unfold notCls; rw [hv]), by rw [hz.2]; exact ho⟩
  exact kia_one (kitx_exc (ox := oe) (od := some od) C) I.kIn J e2 (fun z => nomatch z) fun tk => ⟨.bl b, H, I.kept (t' := tk) fun _ _ z => z, rfl, q⟩
end
end Ys
namespace Ys
open PySem PySem.Spec PyProof.Rows L2
/-! ### raise C(e), C an own class with super().__init__(x), self.fld = x -/
structure ExcS (P : Program) (w : World) (K : PySem.W.Frag) (mg : Str → Option Value) (base : Heap) (C : Addr) (x fld : Str) : Prop where
  T : OexC K C
  ex : ∃ fI fd pn, PySem.W.findIn K (.ref C) "__init__" = some (some (.ref fI)) ∧ PySem.W.typeIn K (.ref fI) = some (.type "function") ∧ FnOk P w K mg base CX0 1 fI fd ["self", pn] (spSup K C fld) ∧ Binds K fd ["self", pn] []
  gC : mg x = some (.ref C)
section
variable {X : Cx} {K : PySem.W.Frag} {P : Program} {w : World} {G G1 H : Hp} {M : List (Addr × HO)} {σ : L2.St} {D : Ends} {te : TE} {C : Addr} {x fld : Str} {W : WX} {y : V} {e : Expr} {p pos pos' : Pos} {q : XK}
def RsW (K : PySem.W.Frag) (C : Addr) (fld : Str) (y : V) (H1 : Hp) (q : XK) : Prop := [y].length ≤ 1000 ∧ ∀ a, H1 a = none → spSup K C fld (.ref a :: ([y] ++ [])) (upd H1 a (exo a C none))
  (fun v H2 => v = .non ∧ ∃ (d : Addr) (fs : List (Str × V)), H2 a = some (exo a C (some d)) ∧ H2 d = some (exd d fs) ∧ H1 d = none ∧ q (.ref C) (some d) (upd (del H2 a) d (.xd fs))) (fun _ _ _ => False)
def sRs (K : PySem.W.Frag) (C : Addr) (fld : Str) (te : TE) (W : WX) : TS := fun _ σ H => te σ H fun y H1 => RsW K C fld y H1 fun cls d H' => W cls d σ H'
theorem ps_rs (S : ExcS X.prog X.w X.K X.mg X.base C x fld) (hc : X.calm = true) (tk : Takes X W) (hr : Room 2 X.A) (hg : Gl X x) (he : PE X e te)
    (hdb : (x == ("__debug__" : Str)) = false := by decide) (hst : starEach [e] X.env = (false, eval e X.env) :: starEach [] X.env := by rfl) (hpl : (backTo pos (starEach [] X.env)).any (·.1) = false := by rfl) :
    PS X (.Raise (some (.Call (.Name x p) [e] [] pos)) none pos') (sRs X.K C fld te W) := by
  obtain ⟨fI, fd, pn, iC, tI, F, hb⟩ := S.ex
  exact ps_raise hc tk (pmk_oex (ta := tCons te tNil) S.T iC tI F hr hb .nil pass0 hg S.gC (pa_cons he pa_nil hst) hdb hst hpl)
theorem z_rs (h : te σ H fun y H1 => RsW K C fld y H1 fun cls d H' => W cls d σ H') : sRs K C fld te W D σ H := h
theorem z_rsI (h : ∀ dx, H dx = none → q (.ref C) (some dx) (upd H dx (.xd [(fld, y)]))) : RsW K C fld y H q := by
  refine ⟨by show 1 ≤ 1000; decide, fun a ha => ⟨a, y, rfl, upd_same, fun dx hdx ne => ⟨rfl, dx, [(fld, y)], upd_same, ?_, ?_, ?_⟩⟩⟩
  · rw [upd_ne ne, upd_same]
  · rw [upd_ne ne] at hdx
    exact hdx
  · rw [upd_ne ne] at hdx
    have e1 : upd (del (upd (upd (upd H a (exo a C none)) dx (exd dx [(fld, y)])) a (exo a C (some dx))) a) dx (.xd [(fld, y)]) = upd H dx (.xd [(fld, y)]) := by
      funext b
      by_cases c : b = dx
      · rw [c, upd_same, upd_same]
      · rw [upd_ne c, upd_ne c]
        by_cases c2 : b = a
        · rw [c2, del_same, ha]
        · rw [del_ne c2, upd_ne c2, upd_ne c, upd_ne c2]
    rw [e1]
    exact h dx hdx
end
end Ys
namespace Ys
open PySem PySem.Spec PyProof.Rows L2
section
variable {X : Cx} {K : PySem.W.Frag} {G G1 H : Hp} {M : List (Addr × HO)} {σ : L2.St} {Q : VK} {te : TE} {t : TA} {d : PyData} {ds : List PyData} {v : V} {xs : List V} {a : Addr} {i : Int}
def rStr1 : List V → Hp → VK → Prop := fun xs H Q => ∃ s, xs = [.str s] ∧ Q (.str s) H
theorem c_str : CallR X (.type "str") rStr1 := SkE.call_str_str
theorem z_str1 {s : Str} (q : Q (.str s) H) : rStr1 [.str s] H Q := ⟨s, rfl, q⟩
theorem z_rep {n : Int} (z : Zp G M H) (h : G a = some (.lst xs)) (h0 : 0 ≤ n) (h1 : n ≤ 1000) (hl : xs.length * n.toNat ≤ 100000) (q : ∀ p G1 H1, Zp G1 M H1 → Same G G1 → G1 p = some (.lst (List.replicate n.toNat xs).flatten) → Q (.ref p) H1) : rRep (.ref a) (.int n) H Q :=
  ⟨a, n, xs, rfl, rfl, z.sub _ _ h, by omega, by omega, Nat.le_trans hl (by decide), fun p hp => q p _ _ (z.new hp _) (Same.new (z.free hp)) upd_same⟩
theorem z_neg (q : Q (.int (-i)) H) : rU (fun i => V.int (-i)) (.int i) H Q := ⟨i, rfl, q⟩
/-! ### literals, as data -/
def LitW (K : PySem.W.Frag) (te : TE) (d : PyData) : Prop := ∀ σ G M H Q, Zp G M H → (∀ v G1 H1, Zp G1 M H1 → Same G G1 → Dt K G1 v d → Q v H1) → te σ H Q
def LitA (K : PySem.W.Frag) (t : TA) (ds : List PyData) : Prop := ∀ σ G M H Q, Zp G M H → (∀ vs G1 H1, Zp G1 M H1 → Same G G1 → Dts K G1 vs ds → Q vs H1) → t σ H Q
theorem lit_c (h : ∀ G, Dt K G v d) : LitW K (tC v) d := fun _ G _ H _ z q => q v G H z (Same.refl G) (h G)
theorem lit_int (i : Int) : LitW K (tC (.int i)) (.int i) := lit_c fun _ => .int i
theorem lit_str (s : Str) : LitW K (tC (.str s)) (.str s) := lit_c fun _ => .str s
theorem lit_bl (b : Bool) : LitW K (tC (.bl b)) (.bool b) := lit_c fun _ => .bl b
theorem lit_non : LitW K (tC .non) .none := lit_c fun _ => .non
theorem lit_nil : LitA K tNil [] := fun _ G _ H _ z q => q [] G H z (Same.refl G) .nil
theorem lit_cons (h1 : LitW K te d) (h2 : LitA K t ds) : LitA K (tCons te t) (d :: ds) := fun σ G M H Q z q =>
  h1 σ G M H _ z fun v G1 H1 z1 s1 d1 => h2 σ G1 M H1 _ z1 fun vs G2 H2 z2 s2 d2 => q (v :: vs) G2 H2 z2 (s1.trans s2) (.cons (d1.up s2) d2)
theorem lit_tup (h : LitA K t ds) (hl : ds.length ≤ 1000) : LitW K (tTup t) (.tuple ds) := fun σ G M H Q z q =>
  h σ G M H _ z fun vs G1 H1 z1 s1 d1 => z_newT z1 (by rw [d1.len (ds := [])]; omega) fun p G2 H2 z2 s2 e2 => q _ G2 H2 z2 (s1.trans s2) (.tup (SqT.of e2) (d1.up s2))
theorem lit_lst (h : LitA K t ds) (hl : ds.length ≤ 1000) : LitW K (tLst t) (.list ds) := fun σ G M H Q z q =>
  h σ G M H _ z fun vs G1 H1 z1 s1 d1 => z_newL z1 (by rw [d1.len (ds := [])]; omega) fun p G2 H2 z2 s2 e2 => q _ G2 H2 z2 (s1.trans s2) (.lst (SqL.of e2) (d1.up s2))
theorem lit_neg (h : LitW K te (.int i)) : LitW K (tUn (rU fun i => V.int (-i)) te) (.int (-i)) := fun σ G M H Q z q =>
  h σ G M H _ z fun v G1 H1 z1 s1 d1 => by cases d1; exact z_neg (q _ G1 H1 z1 s1 (.int _))
theorem lit_pow (i j : Int) (h : CPow i j) : LitW K (tOp rPowG (tC (.int i)) (tC (.int j))) (.int (i ^ j.toNat)) := fun σ G M H Q z q => z_op (z_c (z_c (z_I h (q _ G H z (Same.refl G) (.int _)))))
theorem lit_dict0 : LitW K tDNewK (.dict []) := fun σ G M H Q z q p hp => q _ _ _ (z.new hp _) (Same.new (z.free hp)) (.dct (.inl upd_same) rfl .nil)
theorem lit_dict1 {k : Str} (h : LitW K te d) : LitW K (tDisp [(tC (.str k), te)]) (.dict [(.str k, d)]) := fun σ G M H Q z q =>
  z_disp z fun p H1 z1 => z_pc (z_c (h σ G _ H1 _ z1 fun v G2 H2 z2 s2 d2 => z_pn (z_dispE z2 [(.inr k, v)] rfl (by show 1 ≤ 15; decide) fun H3 z3 => by
    have fr : G2 p = none := (z3.own M.length p _ last_at).2
    exact q _ _ H3 z3.fix (s2.trans (Same.new fr)) (.dct (.inl upd_same) rfl (.cons (d2.up (Same.new fr)) .nil)))))
theorem lit_list (h : LitA K t ds) (hl : ds.length ≤ 1000) (z : Zp G M H) (q : ∀ p xs G1 H1, Zp G1 M H1 → Same G G1 → G1 p = some (.lst xs) → Dts K G1 xs ds → Q (.ref p) H1) : tLst t σ H Q :=
  h σ G M H _ z fun vs G1 H1 z1 s1 d1 => z_newL z1 (by rw [d1.len (ds := [])]; omega) fun p G2 H2 z2 s2 e2 => q p _ G2 H2 z2 (s1.trans s2) e2 (d1.up s2)
theorem Dts.app : ∀ {xs ys : List V} {ds es : List PyData}, Dts K G xs ds → Dts K G ys es → Dts K G (xs ++ ys) (ds ++ es)
  | _, _, _, _, .nil, h => h
  | _, _, _, _, .cons a b, h => .cons a (Dts.app b h)
theorem Dts.mem : ∀ {xs : List V} {ds : List PyData} {v : V}, Dts K G xs ds → v ∈ xs → ∃ d, d ∈ ds ∧ Dt K G v d
  | _, _, _, .nil, h => by cases h
  | _, _, _, .cons a b, h => by
    rcases List.mem_cons.mp h with rfl | h
    · exact ⟨_, List.mem_cons_self .., a⟩
    · obtain ⟨d, h1, h2⟩ := Dts.mem b h
      exact ⟨d, List.mem_cons_of_mem _ h1, h2⟩
end
end Ys
namespace Ys
open PySem PySem.Spec PyProof.Rows L2
/-! ### a class made, which may raise -/
section
variable {X : Cx} {k n m : Nat} {C dx : Addr} {x : Str} {ks : List Str} {gV : List V → List V → List V} {sp : Sp} {W : WX} {t tk : TA} {p pos : Pos} {e : Expr} {es : List Expr} {kws : List Keyword} {G H : Hp} {M : List (Addr × HO)} {σ : L2.St} {Q : VK} {vs zs : List V}
def MkWS (C : Addr) (n m : Nat) (sp : Sp) (gV : List V → List V → List V) (E : XK) (vs zs : List V) (H2 : Hp) (Q : VK) : Prop := vs.length = n ∧ zs.length = m ∧ ∀ x dx, H2 x = none → H2 dx = none → dx ≠ x →
  sp (gV (.ref x :: vs) zs) (upd (upd H2 dx (.own x)) x (.ins C dx [])) (fun v H3 => v = .non ∧ Q (.ref x) H3) E
def tMkS (C : Addr) (n m : Nat) (sp : Sp) (gV : List V → List V → List V) (W : WX) (t tk : TA) : TE := fun σ H Q => t σ H fun vs H1 => tk σ H1 fun zs H2 => MkWS C n m sp gV (WE W σ) vs zs H2 Q
theorem pe_mkX (R : MkS X.prog X.w X.K X.mg X.base (L2.CX X.prog X.w) k C x n ks gV sp) (hr : Room (k + 1) X.A) (hg : Gl X x) (tx : Takes X W) (ha : PA X (e :: es) t) (hkw : PK X kws tk)
    (hall : (backToKw pos (keywordEach kws X.env)).all (·.1.isSome) = true := by rfl) (hks : (backToKw pos (keywordEach kws X.env)).filterMap (·.1) = ks := by rfl) (hdb : (x == ("__debug__" : Str)) = false := by decide)
    (he : starEach (e :: es) X.env = (false, eval e X.env) :: starEach es X.env := by rfl) (hpl : ((backTo pos (starEach (e :: es) X.env)).any (·.1) || (backToKw pos (keywordEach kws X.env)).any (·.1.isNone)) = false := by rfl) :
    PE X (.Call (.Name x p) (e :: es) kws pos) (tMkS C n ks.length sp gV W t tk) := by
  obtain ⟨f, fd, ps, g, mk, F, hm, hb⟩ := R.ex
  refine ⟨fun pins s σ H Q I h => wpAny_Call_Name_kw (ld_glob I hg hm ?_ hdb)⟩
  refine PySem.W.callWith_KW (h₀ := X.base) I.ok.mod.kin mk.kp hall (thn (ha.run pos pins s σ H _ I h) fun us s1 ⟨vs, H1, I1, r, q⟩ => ?_) hpl he
  refine thn (hkw.run pos pins s1 σ H1 _ I1 q) fun ws s2 ⟨zs, H2, I2, rz, l1, l2, q2⟩ => ⟨I2.kIn, ?_⟩
  rw [hks]
  -- the object, its dict, then __init__
  have fx := I2.hok.fresh (Nat.le_succ s2.heap.objs.size); have fd := I2.hok.fresh (Nat.le_refl s2.heap.objs.size)
  have hq := q2 (s2.heap.objs.size + 1) s2.heap.objs.size fx fd (Nat.ne_of_lt (Nat.lt_succ_self _))
  have J := Inv.made (C := C) I2
  have ra : Vals (V.ref (s2.heap.objs.size + 1) :: vs) (Value.ref (s2.heap.objs.size + 1) :: us) := .cons rfl r
  have na : (Value.ref (s2.heap.objs.size + 1) :: us).length = n + 1 := by rw [List.length_cons, ← r.length, l1]
  refine wpAny_call (make_map (f := f) I2.kIn mk.makes mk.init (beq_iff_eq.mp mk.fn) (codeAny_mono (F.run _ X.stack _ _ ⟨Value.ref (s2.heap.objs.size + 1) :: us, ks.zip ws⟩ (g (Value.ref (s2.heap.objs.size + 1) :: us) ws) _ _ (WE W σ) (hr.make C us (ks.zip ws))
    (J.env0.make C us (ks.zip ws)) (hb.to _ _ ws J.kIn na (rz.length.symm.trans l2)) (hb.rel ra rz) hq) fun rr s' hz => ?_))
  match rr, hz with
  | .error er, hz => exact passAt tx σ pins _ _ er s' J hz
  | .ok (.ret u), hz =>
    obtain ⟨v, H', I3, rv, ev, q3⟩ := J.after hz
    subst ev
    exact ⟨rv, ⟨V.ref (s2.heap.objs.size + 1), H', I3, rfl, q3⟩⟩
  | .ok .next, hz => exact hz.elim
  | .ok .brk, hz => exact hz.elim
  | .ok .cont, hz => exact hz.elim
theorem z_mkS (h : t σ H fun vs H1 => tk σ H1 fun zs H2 => MkWS C n m sp gV (WE W σ) vs zs H2 Q) : tMkS C n m sp gV W t tk σ H Q := h
theorem z_mkSI {E : XK} (z : Zp G M H) (l1 : vs.length = n) (l2 : zs.length = m) (q : ∀ x dx H1, Zp (upd G dx (.own x)) (M ++ [(x, .ins C dx [])]) H1 → Same G (upd G dx (.own x)) → sp (gV (.ref x :: vs) zs) H1 (fun v H3 => v = .non ∧ Q (.ref x) H3) E) : MkWS C n m sp gV E vs zs H Q :=
  ⟨l1, l2, fun x dx hx hd ne => q x dx _ ((z.new hd _).add (by rw [upd_ne (Ne.symm ne)]; exact hx) _) (Same.new (z.free hd))⟩
end
end Ys
namespace Ys
open PySem PySem.Spec PyProof.Rows L2 StX
section
variable {X : Cx} {K : PySem.W.Frag} {P : Program} {w : World} {G G1 H : Hp} {M M1 : List (Addr × HO)} {σ : L2.St} {Q : VK} {QB : Bool → Hp → Prop} {QA : List V → Hp → Prop} {D : Ends} {ta te tb tv : TE} {t tk : TA} {A B : Prop} {v x y : V} {i j : Int} {a b p : Addr} {xs ys vs zs : List V} {o : HO} {d : PyData}
/-! ### a list or tuple, spread -/
def StW (K : PySem.W.Frag) (x : V) (H : Hp) (R : List V → Prop) : Prop := ∃ p xs, x = V.ref p ∧ (SqT K H p xs ∨ SqL K H p xs) ∧ R xs
theorem z_star (h : te σ H fun x H1 => StW K x H1 fun xs => t σ H1 fun ys H2 => QA (xs ++ ys) H2) : tStar K te t σ H QA := h
theorem z_stL {R : List V → Prop} (h : SqL K H a xs) (q : R xs) : StW K (.ref a) H R := ⟨a, xs, rfl, .inr h, q⟩
theorem z_stT {R : List V → Prop} (h : SqT K H a xs) (q : R xs) : StW K (.ref a) H R := ⟨a, xs, rfl, .inl h, q⟩
theorem k_star {e : Expr} {pos : Pos} {es : List Expr} (he : PE X e te) (hr : PA X es t) (q : X.K = K := by rfl) (hs : starEach (.Starred e pos :: es) X.env = (true, eval e X.env) :: starEach es X.env := by rfl) : PA X (.Starred e pos :: es) (tStar K te t) := q ▸ pa_star he hr hs
/-! ### dicts of the written part, with text keys -/
structure TabD (K : PySem.W.Frag) (w : World) (a : Addr) (kvs : List (Str × V)) : Prop where
  kd : ∃ es n, KDict K w a es n
  hit : ∀ z v, kvs.lookup z = some v → ∃ u, PySem.W.nsIn K a z = some (some u) ∧ RelV v u
  miss : ∀ z, kvs.lookup z = none → PySem.W.nsIn K a z = some none
def rInKD (K : PySem.W.Frag) (w : World) (neg : Bool) : R2 := fun x y H Q => ∃ (z : Str) (a : Addr) (kvs : List (Str × V)), x = .str z ∧ y = .ref a ∧ TabD K w a kvs ∧ Q (.bl (if neg then !(kvs.lookup z).isSome else (kvs.lookup z).isSome)) H
theorem op_inKD : OpR X (compareOp .In) (rInKD X.K X.w false) := by
  intro pins s σ H x y v u Q I rx ry ⟨z, a, kvs, e1, e2, T, q⟩
  subst e1 e2
  obtain ⟨es, n, D⟩ := T.kd
  cases c : kvs.lookup z with
  | none =>
    rw [c] at q
    exact op_in_kd D pins s σ H _ _ v u Q I rx ry ⟨z, none, rfl, rfl, T.miss z c, q⟩
  | some v0 =>
    rw [c] at q
    obtain ⟨u0, e, _⟩ := T.hit z v0 c
    exact op_in_kd D pins s σ H _ _ v u Q I rx ry ⟨z, some u0, rfl, rfl, e, q⟩
theorem op_notInKD : OpR X (compareOp .NotIn) (rInKD X.K X.w true) := by
  intro pins s σ H x y v u Q I rx ry ⟨z, a, kvs, e1, e2, T, q⟩
  subst e1 e2
  obtain ⟨es, n, D⟩ := T.kd
  cases c : kvs.lookup z with
  | none =>
    rw [c] at q
    exact op_notIn_kd D pins s σ H _ _ v u Q I rx ry ⟨z, none, rfl, rfl, T.miss z c, q⟩
  | some v0 =>
    rw [c] at q
    obtain ⟨u0, e, _⟩ := T.hit z v0 c
    exact op_notIn_kd D pins s σ H _ _ v u Q I rx ry ⟨z, some u0, rfl, rfl, e, q⟩
theorem k_inD (e : X.K = K := by rfl) (e2 : X.w = w := by rfl) : OpR X (compareOp .In) (fun x y H Q => rInG K false x y H Q ∨ rInKD K w false x y H Q) := by
  subst e; subst e2
  exact o_in.or op_inKD
theorem k_notInD (e : X.K = K := by rfl) (e2 : X.w = w := by rfl) : OpR X (compareOp .NotIn) (fun x y H Q => rInG K true x y H Q ∨ rInKD K w true x y H Q) := by
  subst e; subst e2
  exact o_notIn.or op_notInKD
theorem k_ixD (e : X.K = K := by rfl) (e2 : X.w = w := by rfl) : IxR X (rIxD K w) := by
  subst e; subst e2
  exact ix_kdict
theorem z_inKD {z : Str} {kvs : List (Str × V)} (T : TabD K w a kvs) (q : Q (.bl (kvs.lookup z).isSome) H) : rInG K false (.str z) (.ref a) H Q ∨ rInKD K w false (.str z) (.ref a) H Q := .inr ⟨z, a, kvs, rfl, rfl, T, q⟩
theorem z_notInKD {z : Str} {kvs : List (Str × V)} (T : TabD K w a kvs) (q : Q (.bl (!(kvs.lookup z).isSome)) H) : rInG K true (.str z) (.ref a) H Q ∨ rInKD K w true (.str z) (.ref a) H Q := .inr ⟨z, a, kvs, rfl, rfl, T, q⟩
theorem z_ixKD {z : Str} {kvs : List (Str × V)} (T : TabD K w a kvs) (l : kvs.lookup z = some v) (q : Q v H) : rIxD K w (.ref a) (.str z) H Q := by
  obtain ⟨es, n, D⟩ := T.kd
  obtain ⟨u, e, r⟩ := T.hit z v l
  exact ⟨a, z, v, rfl, rfl, ⟨es, n, u, D.at_, D.lit, e, r⟩, q⟩
/-! ### is False -/
theorem k_isB (e : X.K = K := by rfl) : OpR X (compareOp .Is) rIsB := op_isBl
theorem k_notB (e : X.K = K := by rfl) : OpR X (compareOp .IsNot) rNotB := op_notBl
theorem z_isBl {a b : Bool} (q : Q (.bl (decide (a = b))) H) : rIsB (.bl a) (.bl b) H Q := ⟨a, b, rfl, rfl, q⟩
theorem z_notBl {a b : Bool} (q : Q (.bl (!decide (a = b))) H) : rNotB (.bl a) (.bl b) H Q := ⟨a, b, rfl, rfl, q⟩
/-! ### any -/
def rAnyG (K : PySem.W.Frag) : List V → Hp → VK → Prop := fun vs H Q => ∃ (a : Addr) (bs : List Bool), vs = [V.ref a] ∧ SqL K H a (bs.map V.bl) ∧ Q (.bl (bs.any id)) H
theorem kc_any (hc : X.calm = true) (e : X.K = K := by rfl) : CallR X (.builtin "any") (rAnyG K) := by subst e; exact cr_any hc
theorem z_any {bs : List Bool} (h : SqL K H a (bs.map V.bl)) (q : Q (.bl (bs.any id)) H) : rAnyG K [.ref a] H Q := ⟨a, bs, rfl, h, q⟩
/-! ### what may raise, called within what takes it -/
theorem passX0 : Passes (L2.CX X.prog X.w) X E0 := fun _ _ _ _ _ _ _ ⟨_, _, _, _, _, _, _, _, _, _, _, _, z⟩ => z.elim
theorem pe_ownX {k : Nat} {x : Str} {ps : List Str} {sp : Sp} {W : WX} {p pos : Pos} {e : Expr} {es : List Expr} {t : TA} (C : Own X.prog X.w X.K X.mg X.base (L2.CX X.prog X.w) k x ps sp) (hr : Room k X.A) (hg : Gl X x) (tx : Takes X W) (ha : PA X (e :: es) t)
    (hdb : (x == ("__debug__" : Str)) = false := by decide) (he : starEach (e :: es) X.env = (false, eval e X.env) :: starEach es X.env := by rfl) (hpl : (backTo pos (starEach es X.env)).any (·.1) = false := by rfl) :
    PE X (.Call (.Name x p) (e :: es) [] pos) (tCallS sp (WE W) t) := by
  obtain ⟨f, fd, F, hm, hk, hb⟩ := C.ex
  exact ⟨fun pins s σ H Q I h => (pe_callS F hr hg hm hk hb (fun σ => passAt tx σ) ha hdb he hpl).run pins s σ H Q I h⟩
theorem z_callS {sp : Sp} {E : L2.St → XK} (h : t σ H fun vs H1 => sp vs H1 Q (E σ)) : tCallS sp E t σ H Q := h
structure OwnK (P : Program) (w : World) (K : PySem.W.Frag) (mg : Str → Option Value) (base : Heap) (CX : CXT) (k : Nat) (x : Str) (ps ks : List Str) (sp : Sp) : Prop where
  ex : ∃ f fd g, FnOk P w K mg base CX k f fd ps sp ∧ mg x = some (.ref f) ∧ PySem.W.keepIn K (.ref f) = true ∧ KBn K fd ps 0 ks g fun vs zs => vs ++ zs
def tOwnK (n : Nat) (sp : Sp) (E : XK) (tk : TA) : TE := fun σ H Q => tk σ H fun zs H1 => zs.length = n ∧ sp zs H1 Q E
theorem pe_ownK0 {CX : CXT} {k : Nat} {x : Str} {ps ks : List Str} {sp : Sp} {E : XK} {p pos : Pos} {kws : List Keyword} (C : OwnK X.prog X.w X.K X.mg X.base CX k x ps ks sp) (hr : Room k X.A) (hg : Gl X x) (hx : Passes CX X E) (hkw : PK X kws tk)
    (hall : (backToKw pos (keywordEach kws X.env)).all (·.1.isSome) = true := by rfl) (hks : (backToKw pos (keywordEach kws X.env)).filterMap (·.1) = ks := by rfl) (hdb : (x == ("__debug__" : Str)) = false := by decide)
    (hpl : ((backTo pos (starEach [] X.env)).any (·.1) || (backToKw pos (keywordEach kws X.env)).any (·.1.isNone)) = false := by rfl) : PE X (.Call (.Name x p) [] kws pos) (tOwnK ks.length sp E tk) := by
  obtain ⟨f, fd, g, F, hm, hk, hb⟩ := C.ex
  refine ⟨fun pins s σ H Q I h => wpAny_Call_Name_kw (ld_glob I hg hm ?_ hdb)⟩
  refine PySem.W.callWith_KW0 (h₀ := X.base) I.ok.mod.kin hk hall ?_ hpl
  refine thn (hkw.run pos pins s σ H _ I h) fun ws s2 ⟨zs, H2, I2, rz, l2, q2⟩ => ⟨I2.kIn, ?_⟩
  rw [hks]
  refine wpAny_call (codeAny_mono (F.run X.A X.stack s2 H2 ⟨[], ks.zip ws⟩ (g [] ws) ([] ++ zs) Q E hr I2.env0 (hb.to s2 [] ws I2.kIn rfl (rz.length.symm.trans l2)) (hb.rel .nil rz) q2) fun rr s' hq => ?_)
  match rr, hq with
  | .error er, hq => exact hx pins σ H2 s2 er s' I2 hq
  | .ok (.ret u), hq => exact I2.after hq
  | .ok .next, hq => exact hq.elim
  | .ok .brk, hq => exact hq.elim
  | .ok .cont, hq => exact hq.elim
theorem z_ownK {n : Nat} {sp : Sp} {E : XK} (h : tk σ H fun zs H1 => zs.length = n ∧ sp zs H1 Q E) : tOwnK n sp E tk σ H Q := h
end
end Ys
/-! tuple(d): the keys of a dict -/
namespace PySem
open AutoSeq1 (wpAny_loadPart')
open PySem PySem.Spec PyProof.Rows
theorem meets_tuple_new_raw (d : Addr) (o : Obj) (es : Array DictEntry) (ep : Nat) (lo : (d == sysModules) = false) (hx : o.ExactDict) (hd : o.data = .dict es ep) (hsz : es.size ≤ sizeLine) :
    Meets (Builtin.«tuple.__new__» ⟨[.type "tuple", .ref d], []⟩)
      (fun A R s => A.handled = none ∧ s.heap.get? d = some o ∧ ∀ (h' : Heap) (tk : Nat) (acc : Array Value), (∀ b o', s.heap.get? b = some o' → h'.get? b = some o') → ItemsOf (fun i v => ∃ en : DictEntry, es[i]? = some en ∧ v = en.key) acc es.size →
        R (.ok (.ret (.ref h'.objs.size))) { s with heap := h'.push { cls := .type "tuple", data := .seq acc }, toks := tk }) :=
  .of_wp fun prog w A R s h => by
    obtain ⟨hp, g, dr, tk, os⟩ := s; obtain ⟨hh, ht, h⟩ := h
    have hsub := sub_tuple_self
    have hinit := init_tuple_lookup
    have hmh := madeHere_tuple
    have hT : Shared.TypeIs ⟨hp, g, dr, tk, os⟩ (.ref d) "dict" := ⟨o, ht, hx.1⟩
    wp_walk using wpAny_loadPart' ht, wpAny_typeOf hT, PySem.W.kdu_collect (A := A.in1) (L2.kdl_raw lo hx hd) (show A.in1.handled = none from hh) ht hsz
    intro h' tk' acc hk hi
    show wpAny _ _ (Builtin.Tuple.tupleExact acc.toList.toArray >>= fun v => ret v) _ _ _
    unfold Builtin.Tuple.tupleExact
    have e : acc.toList.toArray = acc := by simp
    refine wpAny_bind (wpAny_newObj_type ?_ (by show acc.toList.toArray.size ≤ sizeLine; rw [e, hi.1]; exact hsz))
    refine wpAny_pure ⟨_, rfl, ?_⟩
    rw [e]
    exact h h' tk' acc hk hi
end PySem
namespace PySem
open PySem PySem.Spec PyProof.Rows
section
variable {prog : Program} {w : World} {A : Around} {E : Value → Shared → Prop} {s : Shared}
theorem call_tuple_raw {d : Addr} {o : Obj} {es : Array DictEntry} {ep : Nat} {Q : Value → Shared → Prop} (hh : A.handled = none) (lo : (d == sysModules) = false) (ho : s.heap.get? d = some o) (hx : o.ExactDict) (hd : o.data = .dict es ep) (hsz : es.size ≤ sizeLine)
    (h : ∀ (h' : Heap) (tk : Nat) (acc : Array Value), (∀ b o', s.heap.get? b = some o' → h'.get? b = some o') → ItemsOf (fun i v => ∃ en : DictEntry, es[i]? = some en ∧ v = en.key) acc es.size → Q (.ref h'.objs.size) { s with heap := h'.push { cls := .type "tuple", data := .seq acc }, toks := tk }) :
    wpAny (model prog w) A (call (.type "tuple") [.ref d]) Q E s := by
  exact callType_new F.called_tuple (by decide) (F.typeCall_tuple_1 _) (F.newCall_tuple_1 _) (fun obj => F.args_object_init_2 obj _) F.entry_tuple_new
    (meets_tuple_new_raw d o es ep lo hx hd hsz) ⟨hh, ho, fun h' tk acc hk hi => ⟨⟨_, Heap.get?_push_size _ rfl, rfl⟩, h h' tk acc hk hi⟩⟩
end
end PySem
namespace Ys
open PySem PySem.Spec PyProof.Rows L2
section
variable {X : Cx} {K : PySem.W.Frag} {G H : Hp} {M : List (Addr × HO)} {d : Addr} {kvs : List (Key × V)} {Q : VK}
def rTupK : List V → Hp → VK → Prop := fun xs H Q => ∃ d kvs, xs = [.ref d] ∧ Rd H d (.dK kvs) ∧ ∀ p, H p = none → Q (.ref p) (upd H p (.tup (kvs.map fun q => kV q.1)))
theorem c_tupK (hc : X.calm = true) : CallR X (.type "tuple") rTupK := by
  intro pins s σ H xs us Q I r h
  obtain ⟨d, kvs, rfl, hd, q⟩ := h
  obtain ⟨u, rfl, rx⟩ := r.one
  cases rx
  obtain ⟨z, hs, vs, rv, o, es, ep, ho, hx, hdt, hk, hp, hn⟩ := (show ObjOk X.prog X.w H s.heap d (.dK kvs) from hd.ok I.hok)
  have l1 : es.size = vs.length := by rw [← hp.length]; exact Array.length_toList.symm
  have l2 : kvs.length = vs.length := rv.length
  refine call_tuple_raw (I.ok.hd hc) hs ho hx hdt (by omega) fun h' tk acc kp it => ?_
  have I1 : Inv X pins σ H { s with heap := h', toks := tk } := I.kept (t' := tk) kp
  have ks : Vals (kvs.map fun q => kV q.1) acc.toList := by
    have hl : acc.toList.length = vs.length := by rw [Array.length_toList, it.1]; exact l1
    refine vals_of_at (by rw [List.length_map]; omega) fun j x w h1 h2 => ?_
    obtain ⟨en, hen, hw⟩ := it.2 j w (by rw [← Array.getElem?_toList]; exact h2)
    have hj : j < vs.length := by have := (List.getElem?_eq_some_iff.mp h2).1; omega
    obtain ⟨k, y, hky⟩ : ∃ k y, vs[j]? = some (k, y) := ⟨_, _, List.getElem?_eq_getElem hj⟩
    have e1 : (kvs.map (·.1))[j]? = some k := by
      rw [KV.keys rv, List.getElem?_map, hky] <;> rfl
    have e2 : (kvs.map fun kv => kV kv.1)[j]? = some (kV k) := by
      have e3 : (kvs.map fun kv => kV kv.1) = (kvs.map (·.1)).map kV := by rw [List.map_map] <;> rfl
      rw [e3, List.getElem?_map, e1] <;> rfl
    rw [e2] at h1
    cases h1
    rw [hw]
    exact keyIs_rel (hp.get? (by rw [Array.getElem?_toList]; exact hen) hky).1
  have I2 : Inv X pins σ (upd H h'.objs.size (.tup (kvs.map fun q => kV q.1))) { s with heap := h'.push { cls := .type "tuple", data := .seq acc }, toks := tk } :=
    I1.laid (t' := tk) (fun b o e => Heap.get?_push_of_some _ e) (Nat.le_refl _) (show ObjOk X.prog X.w _ _ _ (.tup _) from ⟨by rw [List.length_map]; exact z, acc.toList, ks, by rw [Array.toArray_toList]; exact IsTup.new _ _⟩)
  exact ⟨.ref h'.objs.size, _, I2, rfl, q _ (I1.hok.fresh (Nat.le_refl _))⟩
def kcTupK (K : PySem.W.Frag) : List V → Hp → VK → Prop := fun xs H Q => rTupG K xs H Q ∨ rTupK xs H Q
theorem kc_tupK (hc : X.calm = true) (e : X.K = K := by rfl) : CallR X (.type "tuple") (kcTupK K) := (kc_tuple (K := K) e).or (c_tupK hc)
theorem z_tupK (z : Zp G M H) (h : FzD G d kvs) (q : ∀ p G1 H1, Zp G1 M H1 → Same G G1 → SqT K G1 p (kvs.map fun q => kV q.1) → Q (.ref p) H1) : kcTupK K [.ref d] H Q :=
  .inr ⟨d, kvs, rfl, h.rd z, fun p hp => q p _ _ (z.new hp _) (Same.new (z.free hp)) (SqT.of upd_same)⟩
end
end Ys
/-! != of dicts of data -/
namespace PySem.W
open Lean Elab Tactic Meta PySem PySem.Calls PyProof.Rows PyProof.V PySem.Spec
section
variable {prog : Program} {w : World} {K : Type} [DecidableEq K] {knd : KeyKind prog w K} {A : Around} {E : Value → Shared → Prop} {s : Shared}
theorem rcPn_dicts {a b : Addr} {ka kb : List (K × Value)} {r : Bool} (ha : (a == sysModules) = false) (hb : (b == sysModules) = false)
    (da : s.heap.DictOf knd a ka) (db : s.heap.DictOf knd b kb) (hu : A.units < cLine) (hits : ka.length = kb.length → KeqHitsP prog w A.in1 s kb ka r) (E Q : Value → Shared → Prop) (h : Q (.bool (!(ka.length == kb.length && r))) s) : wpAny (model prog w) A (richCompare .NotEq (.ref a) (.ref b)) Q E s := by
  refine wpAny_richCompare_same_room (op := .NotEq) da.typeIs db.typeIs PySem.F.slot_dict_ne (wpAny_call_entry PySem.F.slot_dict_ne da.typeIs PySem.F.entry_dict_ne ?_ (PySem.F.args_dict_ne_2 _ _)) hu
  show wpAny _ _ (Builtin.Dict.dictSlotArgs "__ne__" ⟨[.ref a, .ref b], []⟩ >>= _) _ _ s
  refine wpAny_bind ?_
  unfold Builtin.Dict.dictSlotArgs
  refine wpAny_bind (wpAny_notOrdered_dict da.typeIs ?_)
  show wpAny _ _ (pure (Value.ref a, Value.ref b)) _ _ s
  refine wpAny_pure ?_
  refine wpAny_bind (wpAny_isInstance (T := "dict") db.typeIs PySem.F.sub_dict_dict ?_)
  simp only [Bool.not_true, Bool.false_eq_true, if_false]
  refine wpAny_bind (wpAny_pure (wpAny_bind (wpAny_pure ?_)))
  refine wpAny_bind (samePairsP ha hb da db hits ?_)
  refine wpAny_pure ⟨_, rfl, ?_, ?_⟩
  · exact fun x => nomatch x
  · have e : ((ka.length == kb.length && r) == false) = !(ka.length == kb.length && r) := by cases (ka.length == kb.length && r) <;> rfl
    rw [e]
    exact h
end
end PySem.W
namespace Ys
open PySem PySem.Spec PyProof.Rows L2
def DtK (K : PySem.W.Frag) (H : Hp) : List (Key × V) → List (Str × PyData) → Prop := Paired fun p q => p.1 = .inr q.1 ∧ Dt K H p.2 q.2
def lookD : List (Str × PyData) → Str → Option PyData
  | [], _ => none
  | q :: l, k => if q.1 = k then some q.2 else lookD l k
def eqDD (l1 l2 : List (Str × PyData)) : Bool := l1.length == l2.length && l1.all fun q => match lookD l2 q.1 with
  | some d => PyData.eqv q.2 d
  | none => false
theorem DtK.up {K : PySem.W.Frag} {G H : Hp} {kvs l} (h : DtK K G kvs l) (s : ∀ a o, G a = some o → H a = some o) : DtK K H kvs l := L2.Paired.mapP h fun _ _ ⟨e, d⟩ => ⟨e, d.up s⟩
theorem dtk_look {K : PySem.W.Frag} {H : Hp} {k : Str} : ∀ {kvs : List (Key × V)} {l : List (Str × PyData)}, DtK K H kvs l → (lookD l k = none → valV kvs (.inr k) = none) ∧ ∀ d, lookD l k = some d → ∃ v, valV kvs (.inr k) = some v ∧ Dt K H v d
  | _, _, .nil => ⟨fun _ => rfl, fun d h => by cases h⟩
  | p :: r, q :: l, .cons h t => by
    obtain ⟨i1, i2⟩ := dtk_look (k := k) t
    obtain ⟨e, d0⟩ := h
    unfold lookD
    by_cases c : q.1 = k
    · rw [if_pos c]
      refine ⟨fun z => (nomatch z), fun d z => ?_⟩
      cases z
      exact ⟨p.2, valV_pos (by rw [e, c]), d0⟩
    · rw [if_neg c, valV_neg (fun z => c (Sum.inr.inj (e.symm.trans z)))]
      exact ⟨i1, i2⟩
section
variable {X : Cx}
def rNeDK (K : PySem.W.Frag) : R2 := fun x y H Q => ∃ a b ka kb la lb, x = .ref a ∧ y = .ref b ∧ Rd H a (.dK ka) ∧ Rd H b (.dK kb) ∧ DtK K H ka la ∧ DtK K H kb lb ∧ (∀ q ∈ la, SeqAt.shaped q.2 = true) ∧ (∀ q ∈ lb, SeqAt.shaped q.2 = true) ∧ Q (.bl (!eqDD la lb)) H
theorem lookD_mem {k : Str} {d : PyData} : ∀ {l : List (Str × PyData)}, lookD l k = some d → ∃ q ∈ l, q.2 = d
  | [], h => by cases h
  | q :: l, h => by
    unfold lookD at h
    split at h
    · cases h
      exact ⟨q, by simp, rfl⟩
    · obtain ⟨q', h1, h2⟩ := lookD_mem h
      exact ⟨q', List.mem_cons_of_mem _ h1, h2⟩
theorem hitsK {pins : List (Addr × Obj)} {σ : L2.St} {H : Hp} {s : Shared} {A : Around} {kb : List (Key × V)} {vb : List (Key × Value)} {lb : List (Str × PyData)} (I : Inv X pins σ H s) (S : SysIn X.K) (hu : A.units + 64 < cLine) (rb : KV kb vb) (hb : DtK X.K H kb lb) (sb : ∀ q ∈ lb, SeqAt.shaped q.2 = true) :
    ∀ {ka : List (Key × V)} {va : List (Key × Value)} {la : List (Str × PyData)}, KV ka va → DtK X.K H ka la → (∀ q ∈ la, SeqAt.shaped q.2 = true) → PySem.W.KeqHitsP X.prog X.w A s vb va (la.all fun q => match lookD lb q.1 with
      | some d => PyData.eqv q.2 d
      | none => false)
  | _, _, _, .nil, .nil, _ => .nil
  | p :: ka, u :: va, q :: la, .cons ru ra, .cons hq hl, sa => by
    obtain ⟨e, d0⟩ := hq
    obtain ⟨eu, rv⟩ := ru
    have ih := hitsK I S hu rb hb sb ra hl fun x hx => sa x (List.mem_cons_of_mem _ hx)
    obtain ⟨i1, i2⟩ := dtk_look (k := q.1) hb
    have hk := rb.val (.inr q.1)
    obtain ⟨uk, uv⟩ := u
    have eu : uk = .inr q.1 := by rw [← e]; exact eu.symm
    subst eu
    rw [List.all_cons]
    cases c : lookD lb q.1 with
    | none =>
      rw [i1 c] at hk
      have : valueAt vb (.inr q.1) = none := RelO.none_of hk
      simp only [Bool.false_and]
      exact .miss this
    | some d =>
      obtain ⟨v, hv, hd⟩ := i2 d c
      rw [hv] at hk
      obtain ⟨w', hw, rw'⟩ := RelO.some_of hk
      obtain ⟨as1, R1, _⟩ := Dt.reads I S q.2 p.2 uv d0 rv
      obtain ⟨as2, R2, _⟩ := Dt.reads I S d v w' hd rw'
      obtain ⟨q', hq', eq'⟩ := lookD_mem c
      have s1 := sa q (by simp)
      have s2 : SeqAt.shaped d = true := by rw [← eq']; exact sb q' hq'
      refine .hit hw (SeqAt.EqAt.eqP (SeqAt.eqAt_reads _ _ _ _ _ _ _ _ R1 R2 (SeqAt.canLay_of_shaped s1) (SeqAt.canLay_of_shaped s2) (SeqAt.room_of_shaped s1 hu))) ih
theorem op_neDK (S : SysIn X.K) (hu : X.A.units + 128 < cLine) : OpR X (compareOp .NotEq) (rNeDK X.K) := by
  intro pins s σ H x y v u Q I rx ry h
  obtain ⟨a, b, ka, kb, la, lb, rfl, rfl, ha, hb, da, db, sa, sb, q⟩ := h
  cases (show v = Value.ref a from rx)
  cases (show u = Value.ref b from ry)
  obtain ⟨za, hda, va, ra, dda⟩ := dk_rd I.hok ha
  obtain ⟨zb, hdb, vb, rb, ddb⟩ := dk_rd I.hok hb
  refine PySem.W.rcPn_dicts (beq_false_of_ne (sys_ne I S ha)) (beq_false_of_ne (sys_ne I S hb)) dda ddb (by omega) (fun _ => hitsK I S (by show X.A.in1.units + 64 < cLine; have : X.A.in1.units = X.A.units + 1 := rfl; omega) rb db sb ra da sa) _ _ ⟨.bl _, H, I, rfl, ?_⟩
  have l1 : va.length = la.length := by rw [← Paired.length ra, Paired.length da]
  have l2 : vb.length = lb.length := by rw [← Paired.length rb, Paired.length db]
  rw [l1, l2]
  exact q
theorem k_neDK {K : PySem.W.Frag} (S : SysIn K) (hu : X.A.units + 128 < cLine) (e : X.K = K := by rfl) : OpR X (compareOp .NotEq) (rNeDK K) := by
  subst e
  exact op_neDK S hu
end
end Ys
/-! classes with *known, **numbers; classmethods; stars of dicts; methods by keywords; == of dicts of data -/
namespace Ys
open PySem PySem.Spec PyProof.Rows L2
section
variable {X : Cx} {CX : CXT} {K : PySem.W.Frag} {k n i : Nat} {C a d f g p : Addr} {fd : FuncData} {ps ks : List Str} {sp : Sp} {E : XK} {x m : Str} {nm pos apos : Pos} {e o : Expr} {es : List Expr} {kws : List Keyword} {ta te : TE} {t tk : TA} {G H : Hp} {M : List (Addr × HO)} {σ : L2.St} {Q : VK} {QA : List V → Hp → Prop} {kvs : List (Key × V)}
/-! ### made by a positional promise -/
structure MkR (P : Program) (w : World) (K : PySem.W.Frag) (mg : Str → Option Value) (base : Heap) (CX : CXT) (k : Nat) (C : Addr) (sp : Sp) : Prop where
  ex : ∃ f, Mk K C f ∧ FnR P w K mg base CX k f sp
def MkRW (C : Addr) (sp : Sp) (E : XK) (vs : List V) (H1 : Hp) (Q : VK) : Prop := ∀ x dx, H1 x = none → H1 dx = none → dx ≠ x → sp (V.ref x :: vs) (upd (upd H1 dx (.own x)) x (.ins C dx [])) (fun v H2 => v = .non ∧ Q (.ref x) H2) E
theorem pe_mkR (R : MkR X.prog X.w X.K X.mg X.base CX k C sp) (hm : X.mg x = some (.ref C)) (hr : Room (k + 1) X.A) (hg : Gl X x) (hx : Passes CX X E) (ha : PA X (e :: es) t) (hdb : (x == ("__debug__" : Str)) = false := by decide)
    (he : starEach (e :: es) X.env = (false, eval e X.env) :: starEach es X.env := by rfl) (hpl : (backTo pos (starEach es X.env)).any (·.1) = false := by rfl) : PE X (.Call (.Name x nm) (e :: es) [] pos) (StX.tMakeR C sp E t) := by
  obtain ⟨f, M, F⟩ := R.ex
  exact StX.pe_makeR M F hr hg hm hx ha hdb he hpl
theorem z_mkR (h : t σ H fun vs H1 => MkRW C sp E vs H1 Q) : StX.tMakeR C sp E t σ H Q := h
theorem z_mkRI {vs : List V} (z : Zp G M H) (q : ∀ x dx H1, Zp (upd G dx (.own x)) (M ++ [(x, .ins C dx [])]) H1 → Same G (upd G dx (.own x)) → sp (.ref x :: vs) H1 (fun v H3 => v = .non ∧ Q (.ref x) H3) E) : MkRW C sp E vs H Q :=
  fun x dx hx hd ne => q x dx _ ((z.new hd _).add (by rw [upd_ne (Ne.symm ne)]; exact hx) _) (Same.new (z.free hd))
def tMkL (i : Nat) (C : Addr) (sp : Sp) (E : XK) (t : TA) : TE := fun σ H Q => σ[i]? = some (some (.ref C)) ∧ t σ H fun vs H1 => MkRW C sp E vs H1 Q
theorem pe_mkL (R : MkR X.prog X.w X.K X.mg X.base CX k C sp) (hr : Room (k + 1) X.A) (hN : X.N[i]? = some x) (hv : Vis X.env.scope x) (hx : Passes CX X E) (ha : PA X (e :: es) t) (hdb : (x == ("__debug__" : Str)) = false := by decide) (hcd : (x == ("__classdict__" : Str)) = false := by decide)
    (he : starEach (e :: es) X.env = (false, eval e X.env) :: starEach es X.env := by rfl) (hpl : (backTo pos (starEach es X.env)).any (·.1) = false := by rfl) : PE X (.Call (.Name x nm) (e :: es) [] pos) (tMkL i C sp E t) := by
  obtain ⟨f, M, F⟩ := R.ex
  refine ⟨fun pins s σ H Q I h => ?_⟩
  obtain ⟨hs, ht⟩ := h
  refine wpAny_Call_Name_kw (thn ((pe_var (pos := nm) hN hv hdb hcd).run pins s σ H (fun v H1 => v = .ref C ∧ H1 = H) I ⟨.ref C, hs, rfl, rfl⟩) fun u s1 ⟨v, H1, I1, r1, q1⟩ => ?_)
  obtain ⟨rfl, rfl⟩ := q1
  cases r1
  refine PySem.W.callWith_K (h₀ := X.base) I.ok.mod.kin M.kp (thn (ha.run pos pins s1 σ _ _ I1 ht) fun us s2 ⟨vs, H2, I2, r, q⟩ => ⟨I2.kIn, ?_⟩) he hpl
  exact StX.run_makeR M F hr hx I2 r q
theorem z_mkL (hs : σ[i]? = some (some (.ref C))) (h : t σ H fun vs H1 => MkRW C sp E vs H1 Q) : tMkL i C sp E t σ H Q := ⟨hs, h⟩
theorem fnR_of {P : Program} {w : World} {mg : Str → Option Value} {base : Heap} (F : FnOk P w K mg base CX k f fd ps sp) (hb : Binds K fd ps []) : FnR P w K mg base CX k f sp := (F.raw hb .nil).imp fun vs H Q E h => by
  show sp (vs ++ []) H Q E
  rw [List.append_nil]
  exact h
/-! ### a classmethod -/
theorem z_cm (h : ta σ H fun x H1 => x = .ref C ∧ t σ H1 fun vs H2 => sp (.ref C :: vs) H2 Q E) : ClX.tCMeth C sp E ta t σ H Q := h
/-! ### stars of dicts -/
theorem star_dict {pins : List (Addr × Obj)} {s : Shared} {Ev : Value → Shared → Prop} {Qs : List Value → Shared → Prop} (hc : X.calm = true) (I : Inv X pins σ H s) (h : Rd H d (.dK kvs)) (hQ : ∀ us s', Inv X pins σ H s' → Vals (kvs.map fun q => kV q.1) us → Qs us s') : PySem.W.StarOf (model X.prog X.w) X.A Ev (.ref d) Qs s := by
  obtain ⟨z, hs, vs, rv, o, es, ep, ho, hx, hdt, hk, hp, hn⟩ := (show ObjOk X.prog X.w H s.heap d (.dK kvs) from h.ok I.hok)
  have l1 : es.size = vs.length := by rw [← hp.length]; exact Array.length_toList.symm
  have l2 : kvs.length = vs.length := rv.length
  have hT : s.TypeIs (.ref d) "dict" := ⟨o, ho, hx.1⟩
  have zz : wpAny (model X.prog X.w) X.A (collect (.ref d)) Qs Ev s := by
    refine PySem.W.kdu_collect (L2.kdl_raw hs hx hdt) (I.ok.hd hc) ho (by omega) fun h' tk acc kp it => ?_
    have I1 : Inv X pins σ H { s with heap := h', toks := tk } := I.kept (t' := tk) kp
    refine hQ acc.toList _ I1 ?_
    have hl : acc.toList.length = vs.length := by rw [Array.length_toList, it.1]; exact l1
    refine vals_of_at (by rw [List.length_map]; omega) fun j x w h1 h2 => ?_
    obtain ⟨en, hen, hw⟩ := it.2 j w (by rw [← Array.getElem?_toList]; exact h2)
    have hj : j < vs.length := by have := (List.getElem?_eq_some_iff.mp h2).1; omega
    obtain ⟨k, y, hky⟩ : ∃ k y, vs[j]? = some (k, y) := ⟨_, _, List.getElem?_eq_getElem hj⟩
    have e1 : (kvs.map (·.1))[j]? = some k := by
      rw [KV.keys rv, List.getElem?_map, hky] <;> rfl
    have e2 : (kvs.map fun kv => kV kv.1)[j]? = some (kV k) := by
      have e3 : (kvs.map fun kv => kV kv.1) = (kvs.map (·.1)).map kV := by rw [List.map_map] <;> rfl
      rw [e3, List.getElem?_map, e1] <;> rfl
    rw [e2] at h1
    cases h1
    rw [hw]
    exact keyIs_rel (hp.get? (by rw [Array.getElem?_toList]; exact hen) hky).1
  unfold PySem.W.StarOf notIterableAtAll
  exact wpAny_bind (wpAny_specialOf hT PySem.F.slot_dict_iter.lookup (wpAny_pure ⟨rfl, zz⟩))
def tStarD (te : TE) (t : TA) : TA := fun σ H Q => te σ H fun x H1 => ∃ d kvs, x = V.ref d ∧ Rd H1 d (.dK kvs) ∧ t σ H1 fun ys H2 => Q ((kvs.map fun q => kV q.1) ++ ys) H2
theorem pa_starD (hc : X.calm = true) (he : PE X e te) (hr : PA X es t) (hs : starEach (.Starred e nm :: es) X.env = (true, eval e X.env) :: starEach es X.env := by rfl) : PA X (.Starred e nm :: es) (tStarD te t) := by
  refine ⟨fun pos pins s σ H Q I h => ?_⟩
  refine PySem.W.items_star (thn (he.run pins s σ H _ I h) fun v s1 ⟨y, H1, I1, ry, d, kvs, ey, hx, q⟩ => ?_) hs
  subst ey
  obtain rfl : v = Value.ref d := ry
  refine star_dict hc I1 hx fun us s2 I2 rv => ?_
  exact thn (hr.run pos pins s2 σ H1 _ I2 q) fun ws s3 ⟨vs, H3, I3, r3, q3⟩ => ⟨_, H3, I3, rv.append r3, q3⟩
def SdW (x : V) (H1 : Hp) (A : List (Key × V) → Prop) : Prop := ∃ d kvs, x = V.ref d ∧ Rd H1 d (.dK kvs) ∧ A kvs
theorem z_starD (h : te σ H fun x H1 => SdW x H1 fun kvs => t σ H1 fun ys H2 => QA ((kvs.map fun q => kV q.1) ++ ys) H2) : tStarD te t σ H QA := h
theorem z_sdF {A : List (Key × V) → Prop} (z : Zp G M H) (h : FzD G d kvs) (q : A kvs) : SdW (.ref d) H A := ⟨d, kvs, rfl, h.rd z, q⟩
/-! ### methods by keywords alone -/
structure MthK (P : Program) (w : World) (K : PySem.W.Frag) (mg : Str → Option Value) (base : Heap) (CX : CXT) (k : Nat) (C : Addr) (m : Str) (ps ks : List Str) (sp : Sp) : Prop where
  ex : ∃ f fd g, Meth K C m f ∧ FnOk P w K mg base CX k f fd ps sp ∧ KBn K fd ps 1 ks g fun vs zs => vs ++ zs
  cl : Cls K C
def MtKW (C : Addr) (m : Str) (x : V) (H1 : Hp) (A : Prop) : Prop := ∃ a dx fs, x = .ref a ∧ H1 a = some (.ins C dx fs) ∧ fs.lookup m = none ∧ A
def tMtK (C : Addr) (m : Str) (n : Nat) (sp : Sp) (E : XK) (ta : TE) (tk : TA) : TE := fun σ H Q => ta σ H fun x H1 => MtKW C m x H1 (tk σ H1 fun zs H2 => zs.length = n ∧ sp (x :: zs) H2 Q E)
theorem pe_mtK {pl : Sem Bool} (R : MthK X.prog X.w X.K X.mg X.base CX k C m ps ks sp) (hr : Room k X.A) (hx : Passes CX X E) (he : PE X o ta) (hkw : PK X kws tk)
    (hall : (backToKw pos (keywordEach kws X.env)).all (·.1.isSome) = true := by rfl) (hks : (backToKw pos (keywordEach kws X.env)).filterMap (·.1) = ks := by rfl)
    (hpl : ((backTo pos (starEach [] X.env)).any (·.1) || (backToKw pos (keywordEach kws X.env)).any (·.1.isNone)) = false := by rfl)
    (ht : eval (.Call (.Attribute o m apos) [] kws pos) X.env = (do
      let ov ← eval o X.env
      standAt apos.atName
      let (f, first) ← holding [ov] (getMethod ov m pl)
      callWith pos f first (backTo pos (starEach [] X.env)) (backToKw pos (keywordEach kws X.env))) := by rfl) : PE X (.Call (.Attribute o m apos) [] kws pos) (tMtK C m ks.length sp E ta tk) := by
  obtain ⟨f, fd, g, hm, F, hb⟩ := R.ex
  refine ⟨fun pins s σ H Q I h => ?_⟩
  refine PySem.W.methodCall_KW (pl := pl) (thn (he.run pins s σ H _ I h) fun u s1 ⟨x, H1, I1, rx, a, dx, fs, ex, ea, l, q⟩ => ?_) ht
  subst ex
  obtain rfl : u = Value.ref a := rx
  refine getmeth_ok I1 ea R.cl hm l ?_
  refine PySem.W.callWith_KW0 (h₀ := X.base) (first := [.ref a]) I1.ok.mod.kin hm.kp hall ?_ hpl
  refine thn (hkw.run pos pins s1 σ H1 _ I1 q) fun ws s2 ⟨zs, H2, I2, rz, l2, q2⟩ => ⟨I2.kIn, ?_⟩
  rw [hks]
  refine wpAny_call (codeAny_mono (F.run X.A X.stack s2 H2 ⟨[.ref a], ks.zip ws⟩ (g [.ref a] ws) ([.ref a] ++ zs) Q E hr I2.env0 (hb.to s2 [.ref a] ws I2.kIn rfl (rz.length.symm.trans l2)) (hb.rel (vs := [V.ref a]) (us := [Value.ref a]) (.cons rfl .nil) rz) q2) fun rr s' hq => ?_)
  match rr, hq with
  | .error er, hq => exact hx pins σ H2 s2 er s' I2 hq
  | .ok (.ret u), hq => exact I2.after hq
  | .ok .next, hq => exact hq.elim
  | .ok .brk, hq => exact hq.elim
  | .ok .cont, hq => exact hq.elim
theorem z_mtK {n : Nat} (h : ta σ H fun x H1 => MtKW C m x H1 (tk σ H1 fun zs H2 => zs.length = n ∧ sp (x :: zs) H2 Q E)) : tMtK C m n sp E ta tk σ H Q := h
theorem z_mtKI {dx : Addr} {fs : List (Str × V)} {A : Prop} (z : Zp G M H) (h : G a = some (.ins C dx fs)) (l : fs.lookup m = none) (q : A) : MtKW C m (.ref a) H A := ⟨a, dx, fs, rfl, z.sub _ _ h, l, q⟩
/-! ### a tuple != () -/
def rNeT0 (K : PySem.W.Frag) : R2 := fun x y H Q => ∃ a b xs, x = V.ref a ∧ y = V.ref b ∧ SqT K H a xs ∧ SqT K H b [] ∧ Q (.bl (decide (xs ≠ []))) H
theorem op_neT0 (hu : X.A.units + 64 < cLine) : OpR X (compareOp .NotEq) (rNeT0 X.K) := by
  intro pins s σ H x y v u Q I rx ry ⟨a, b, xs, e1, e2, h1, h2, q⟩
  subst e1 e2
  cases rx
  cases ry
  obtain ⟨i1, r1, ⟨o1, ho1, hc1, n1, hd1⟩, _⟩ := I.tuple h1
  obtain ⟨i2, r2, ⟨o2, ho2, hc2, n2, hd2⟩, _⟩ := I.tuple h2
  have l1 := r1.length
  have l2 := r2.length
  have e2 : i2 = [] := List.length_eq_zero_iff.mp l2.symm
  subst e2
  refine PySem.SeqAt.RcNeAt.tuples (e := fun _ => true) ⟨o1, ho1, hc1, n1, hd1⟩ ⟨o2, ho2, hc2, n2, hd2⟩ (by omega) (fun j j1 j2 => absurd j2 (by simp)) X.prog X.w X.xe _ ⟨.bl _, H, I, rfl, ?_⟩
  cases xs with
  | nil =>
    have : i1 = [] := List.length_eq_zero_iff.mp l1.symm
    subst this
    exact q
  | cons x r =>
    cases i1 with
    | nil => simp at l1
    | cons _ _ => exact q
theorem k_neT0 (hu : X.A.units + 64 < cLine) (e : X.K = K := by rfl) : OpR X (compareOp .NotEq) (rNeT0 K) := by
  subst e
  exact op_neT0 hu
theorem z_neT0 {b : Addr} {xs : List V} (z : Zp G M H) (h1 : G a = some (.tup xs)) (h2 : G b = some (.tup [])) (q : Q (.bl (decide (xs ≠ []))) H) : rNeT0 K (.ref a) (.ref b) H Q := ⟨a, b, xs, rfl, rfl, SqT.of (z.sub _ _ h1), SqT.of (z.sub _ _ h2), q⟩
/-! ### == of dicts of data -/
def rEqDK (K : PySem.W.Frag) : R2 := fun x y H Q => ∃ a b ka kb la lb, x = .ref a ∧ y = .ref b ∧ Rd H a (.dK ka) ∧ Rd H b (.dK kb) ∧ DtK K H ka la ∧ DtK K H kb lb ∧ (∀ q ∈ la, SeqAt.shaped q.2 = true) ∧ (∀ q ∈ lb, SeqAt.shaped q.2 = true) ∧ Q (.bl (eqDD la lb)) H
theorem op_eqDK (S : SysIn X.K) (hu : X.A.units + 128 < cLine) : OpR X (compareOp .Eq) (rEqDK X.K) := by
  intro pins s σ H x y v u Q I rx ry h
  obtain ⟨a, b, ka, kb, la, lb, rfl, rfl, ha, hb, da, db, sa, sb, q⟩ := h
  cases (show v = Value.ref a from rx)
  cases (show u = Value.ref b from ry)
  obtain ⟨za, hda, va, ra, dda⟩ := dk_rd I.hok ha
  obtain ⟨zb, hdb, vb, rb, ddb⟩ := dk_rd I.hok hb
  refine PySem.W.rcP_dicts (beq_false_of_ne (sys_ne I S ha)) (beq_false_of_ne (sys_ne I S hb)) dda ddb (by omega) (fun _ => hitsK I S (by show X.A.in1.units + 64 < cLine; have : X.A.in1.units = X.A.units + 1 := rfl; omega) rb db sb ra da sa) _ _ ⟨.bl _, H, I, rfl, ?_⟩
  have l1 : va.length = la.length := by rw [← Paired.length ra, Paired.length da]
  have l2 : vb.length = lb.length := by rw [← Paired.length rb, Paired.length db]
  rw [l1, l2]
  exact q
theorem k_eqDK (S : SysIn K) (hu : X.A.units + 128 < cLine) (e : X.K = K := by rfl) : OpR X (compareOp .Eq) (rEqDK K) := by
  subst e
  exact op_eqDK S hu
/-! ### d.get(x, y) -/
theorem z_dgT {s : Str} {v : V} (z : Zp G M H) (h : FzD G d kvs) (e : valV kvs (.inr s) = some v) (q : Q v H) : DgW (.ref d) (.str s) H Q := z_dgF (k := .inr s) z h e q
def Dg2A (x : V) (H1 : Hp) (A : Addr → Prop) : Prop := ∃ a, x = .ref a ∧ IsD H1 a ∧ A a
def Dg2B (a : Addr) (y z : V) (H3 : Hp) (Q : VK) : Prop := ∃ o, DGet H3 a y o ∧ Q (o.getD z) H3
theorem z_dg2 {td ty tx : TE} (h : td σ H fun x H1 => Dg2A x H1 fun a => ty σ H1 fun y H2 => tx σ H2 fun z H3 => Dg2B a y z H3 Q) : tDGet2 td ty tx σ H Q := h
theorem z_dg2A {A : Addr → Prop} (z : Zp G M H) (h : FzD G d kvs) (q : A d) : Dg2A (.ref d) H A := ⟨d, rfl, .inl ⟨kvs, h.rd z⟩, q⟩
theorem z_dg2B {key : Key} {y : V} (z : Zp G M H) (h : FzD G d kvs) (q : Q ((valV kvs key).getD y) H) : Dg2B d (kV key) y H Q := ⟨_, .inl ⟨kvs, key, h.rd z, rfl, rfl⟩, q⟩
theorem z_dg2S {s : Str} {y : V} (z : Zp G M H) (h : FzD G d kvs) (q : Q ((valV kvs (.inr s)).getD y) H) : Dg2B d (.str s) y H Q := ⟨_, .inl ⟨kvs, .inr s, h.rd z, rfl, rfl⟩, q⟩
/-! ### a comprehension over the pairs of a dict: each a new tuple -/
theorem lc_items {g : TG} {tt : TT} {te : TE} {od : Obj} {ws : List Nat} (I : Nat → Hp → List (Addr × HO) → List V → Prop) (z : Zp G M H) (h0 : I 0 G M []) (fz : ∀ i G' M' acc, I i G' M' acc → G' d = some (.frz od (.dK kvs)))
    (turn : ∀ i k v T G' M' acc Dl G2 H', kvs[i]? = some (k, v) → I i G' M' acc → Zp G2 (M' ++ [(Dl, .lst acc)]) H' → Same G' G2 → G2 T = some (.tup [kV k, v]) → g (.ref T) (wipe σ ws) H' fun σ2 H2 => wipe σ2 ws = wipe σ ws ∧ tt σ2 H2 fun b H3 =>
      Bif b (te σ2 H3 fun y H4 => Laid (I (i + 1)) Dl y H4) (Kept (I (i + 1)) Dl H3))
    (done : ∀ p G M acc G1 H1, I kvs.length G M acc → Same G G1 → Zp G1 M H1 → G1 p = some (.lst acc) → Q (.ref p) H1) : LcW (Iti d od kvs) g tt te ws σ H Q := by
  intro Dl hD
  refine ⟨fun i m H => m = kvs.length - i ∧ i ≤ kvs.length ∧ Kept (I i) Dl H, ⟨kvs.length, by simp, Nat.zero_le _, G, M, [], z.add hD _, h0⟩, ?_⟩
  rintro i m H ⟨rfl, hi, G, M, acc, z, h⟩
  have o := z.sub _ _ (fz i G M acc h)
  by_cases c : i < kvs.length
  · refine .inr ⟨⟨o, c⟩, Kept (I (i + 1)) Dl, fun H' q => ⟨kvs.length - (i + 1), by omega, rfl, c, q⟩, fun x H' y => ?_⟩
    obtain ⟨T, k, v, e, rfl, hT, rfl⟩ := y
    exact turn i k v T G M acc Dl _ _ e h (z.new hT _) (Same.new (z.free hT)) upd_same
  · obtain rfl : i = kvs.length := by omega
    refine .inl ⟨⟨o, Nat.le_refl _⟩, done Dl G M acc _ H h (Same.new ?_) z.fix upd_same⟩
    exact (z.own M.length _ _ last_at).2
end
end Ys
/-! own items, own setters, == of kept dicts -/
namespace Ys
open PySem PySem.Spec PyProof.Rows L2
section
variable {X : Cx} {CX : CXT} {n : Nat} {C f : Addr} {fd : FuncData} {ps : List Str} {sp : Sp} {E : XK} {a b : Expr} {ta tb tv : TE} {pos pos' : Pos} {o value : Expr}
/-! ### x[y], by the class's own -/
def rItI (C : Addr) (sp : Sp) (E : XK) : R2 := fun x y H Q => ∃ a dx fs, x = .ref a ∧ H a = some (.ins C dx fs) ∧ sp [x, y] H Q E
theorem pe_itI (F : FnOk X.prog X.w X.K X.mg X.base CX n f fd ps sp) (ha : PE X a ta) (hb : PE X b tb) (hs : PySem.W.findIn X.K (.ref C) "__getitem__" = some (some (.ref f))) (hf : PySem.W.fnIn X.K f = true) (hfn : PySem.W.isFn X.K (.ref f) = true) (hbd : Binds X.K fd ps []) (hx : Passes CX X E) (hr : Room (n + 1) X.A)
    (hsl : ∀ c i, subscripted b true (.ref c) i = runValue (.builtin "lifetime.subscript" ⟨[.ref c, i], []⟩) := by intro c i; with_unfolding_all rfl) : PE X (.Subscript a b pos) (tOp (rItI C sp E) ta tb) := by
  refine ⟨fun pins s σ H Q I h => ?_⟩
  refine Subscript_ (binT ha hb I h fun v u s2 x y H2 I2 rx ry q => ?_)
  obtain ⟨c, dx, fs, rfl, ea, q⟩ := q
  cases rx
  obtain ⟨mA, J, _⟩ := ins_get I2.hok ea
  obtain ⟨od, J, _⟩ := J.look
  obtain ⟨m, hF⟩ := I2.fr
  refine PySem.W.sub_K hF I2.ok.mod.kin J hs hf hfn ?_ (hsl _ _)
  have hl := F.len _ _ _ _ q
  refine wpAny_call (codeAny_mono (F.run X.A.in1 X.stack s2 H2 ⟨[.ref c, u], []⟩ [.ref c, u] [.ref c, y] _ E hr.in1 I2.env0.in1 (by
    have := hbd s2 [.ref c, u] I2.kIn (by simpa using hl)
    simpa using this) (.cons rfl (.cons ry .nil)) q) fun r s' hq => ?_)
  cases r with
  | error e => exact hx pins σ H2 s2 e s' I2 hq
  | ok fl =>
    cases fl with
    | ret w => exact I2.after hq
    | next => exact False.elim hq
    | brk => exact False.elim hq
    | cont => exact False.elim hq
/-! ### x.f = y, f a property with a setter -/
structure PropSet (K : PySem.W.Frag) (C : Addr) (nm : Str) (g : Addr) : Prop where
  ex : ∃ p a rest, PySem.W.takerIn K C nm = some (some (.ref p)) ∧ PySem.W.typeIn K (.ref p) = some (.type "property") ∧ PySem.W.recIn K p "property" = some (a :: .ref g :: rest)
def sPset (C : Addr) (sp : Sp) (E : XK) (ta tv : TE) : TS := fun D σ H => tv σ H fun y H1 => ta σ H1 fun x H2 => ∃ c dx fs, x = .ref c ∧ H2 c = some (.ins C dx fs) ∧ sp [x, y] H2 (fun _ H3 => D.nx σ H3) E
theorem ps_pset {nm : Str} (F : FnOk X.prog X.w X.K X.mg X.base CX n f fd ps sp) (ha : PE X o ta) (hv : PE X value tv) (c : Cls X.K C) (hp : PropSet X.K C nm f) (hbd : Binds X.K fd ps []) (hx : Passes CX X E) (hr : Room (n + 2) X.A)
    (hs : swapsWith value (some (.Attribute o nm pos')) pos.line X.env = pure false) : PS X (.Assign [.Attribute o nm pos'] value pos) (sPset C sp E ta tv) := by
  refine ⟨fun pins s σ H D I h => ?_⟩
  refine plainObj_wpAny_Assign_Attribute (thn (hv.run pins s σ H _ I h) fun u s1 ⟨y, H1, I1, ry, q⟩ => thn (ha.run pins s1 σ H1 _ I1 q) fun ov s2 ⟨x, H2, I2, rx, k, dx, fs, ex, ea, q2⟩ => ?_) hs
  subst ex
  obtain rfl : ov = Value.ref k := rx
  obtain ⟨mA, J, _⟩ := ins_get I2.hok ea
  obtain ⟨od, J, _⟩ := J.look
  obtain ⟨m, hF⟩ := I2.fr
  obtain ⟨p, a0, rest, h1, h2, h3⟩ := hp.ex
  have I3 := I2.tok (s2.toks + 1)
  refine PySem.W.set_prop hF I2.ok.mod.kin J c.sa c.po h1 h2 h3 ?_
  have hl := F.len _ _ _ _ q2
  refine codeAny_mono (F.run X.A.in1.in1 X.stack _ H2 ⟨[.ref k, u], []⟩ [.ref k, u] [.ref k, y] _ E hr.in1.in1 I3.env0.in1.in1 (by
    have := hbd _ [.ref k, u] I3.kIn (by simpa using hl)
    simpa using this) (.cons rfl (.cons ry .nil)) q2) fun r s' hq => ?_
  cases r with
  | error e => exact hx pins σ H2 _ e s' I3 hq
  | ok fl =>
    cases fl with
    | ret w =>
      obtain ⟨v, H4, I4, _, q4⟩ := I3.after hq
      exact ⟨σ, H4, I4, q4⟩
    | next => exact False.elim hq
    | brk => exact False.elim hq
    | cont => exact False.elim hq
end
end Ys
namespace PySem.W
open Lean Elab Tactic Meta PySem PySem.Calls PyProof.Rows PyProof.V PySem.Spec
section
variable {prog : Program} {w : World} {K : Type} [DecidableEq K] {knd : KeyKind prog w K} {A : Around} {E : Value → Shared → Prop} {s : Shared}
theorem samePairsG {nm : String} {a b : Addr} {ka kb : List (K × Value)} {Q : Bool → Shared → Prop} (I : Shared → Prop) (ha : (a == sysModules) = false) (hb : (b == sysModules) = false)
    (da : s.heap.DictOf knd a ka) (db : s.heap.DictOf knd b kb) (same : ∀ s', I s' → s'.heap.get? a = s.heap.get? a ∧ s'.heap.get? b = s.heap.get? b) (hl : ka.length = kb.length)
    (turn : ∀ (i : Nat) (k : K) (v : Value) s', ka[i]? = some (k, v) → I s' → ∃ y, valueAt kb k = some y ∧ wpAny (model prog w) A (eqBool v y) (fun r s2 => r = true ∧ I s2) E s') (h0 : I s) (h : ∀ s', I s' → Q true s') :
    wpAny (model prog w) A (Builtin.Dict.samePairs nm a b) Q E s := by
  obtain ⟨oa, es, ep, hoa, _, hda, hka, hpa, _⟩ := da
  obtain ⟨ob, es', ep', hob, _, hdb, hkb, hpb, _⟩ := db
  have hla : ka.length = es.size := by rw [← hpa.length]; exact Array.length_toList
  have hlb : kb.length = es'.size := by rw [← hpb.length]; exact Array.length_toList
  have hfind : ∀ k, findBy knd.is es' k = valueAt kb k := fun k => by
    rw [← hpb.find k]
    clear hlb hpb hkb hdb hob same
    obtain ⟨l⟩ := es'
    simp [findBy]
  have hsz : es.size = es'.size := by omega
  unfold Builtin.Dict.samePairs Builtin.Dict.showsAll
  rw [if_neg (show ¬ (a == sysModules) = true by rw [ha]; exact Bool.false_ne_true), if_neg (show ¬ (b == sysModules) = true by rw [hb]; exact Bool.false_ne_true)]
  refine wpAny_bind (wpAny_pure (wpAny_bind (wpAny_pure ?_)))
  refine wpAny_bind (wpAny_dictEntries hoa hda ?_)
  dsimp only
  refine wpAny_bind (wpAny_dictEntries hob hdb ?_)
  rw [if_neg (by rw [hsz]; simp)]
  refine wpAny_bind (wpAny_dictEpoch hoa hda ?_)
  refine wpAny_bind ?_
  rw [Std.Legacy.Range.forIn_eq_forIn_range']
  simp only [Std.Legacy.Range.size, Nat.sub_zero, Nat.add_sub_cancel, Nat.div_one]
  refine wpAny_forIn_list _
    (fun rest q s' => I s' ∧ q = (none, ()) ∧ ∃ i, rest = List.range' i (es.size - i) ∧ i ≤ es.size)
    _ ?_ ?_ _ _ ⟨h0, rfl, 0, by simp, Nat.zero_le _⟩
  · rintro x rest q s' ⟨hI, rfl, i, hr, hi⟩
    obtain ⟨sa, sb⟩ := same s' hI
    have hoa' := sa.trans hoa
    have hob' := sb.trans hob
    have hlt : i < es.size := by
      rcases Nat.lt_or_ge i es.size with h | h
      · exact h
      · rw [Nat.sub_eq_zero_of_le h] at hr; simp at hr
    obtain ⟨rfl, hrest⟩ : x = i ∧ rest = List.range' (i + 1) (es.size - (i + 1)) := by
      have e : es.size - i = (es.size - (i + 1)) + 1 := by omega
      rw [e, List.range'_succ] at hr
      injection hr with h1 h2
      exact ⟨h1, h2⟩
    refine wpAny_bind (wpAny_dictEntries hoa' hda ?_)
    rw [Array.getElem?_eq_getElem hlt]
    have hlt' : x < ka.length := by rw [hla]; exact hlt
    obtain ⟨k, v, hkv⟩ : ∃ k v, ka[x] = (k, v) := ⟨_, _, rfl⟩
    have hkx : ka[x]? = some (k, v) := by rw [List.getElem?_eq_getElem hlt', hkv]
    obtain ⟨hkey, hval⟩ := hpa.get? (i := x) (e := es[x]) (k := k) (v := v) (by rw [Array.getElem?_toList]; exact Array.getElem?_eq_getElem hlt) hkx
    obtain ⟨k', hk', hh⟩ := hka es[x] (Array.getElem_mem hlt)
    have ekk : k' = k := knd.inj _ _ _ hk' hkey
    rw [ekk] at hh
    obtain ⟨y, hy, he⟩ := turn x k v s' hkx hI
    show wpAny _ _ (holding [es[x].key, es[x].val] _ >>= _) _ _ _
    rw [hh]
    refine wpAny_bind (wpAny_holding (wpAny_bind (wpAny_dictFind_of hkey hob' hdb hkb ?_)))
    cases hj : es'.findIdx? fun e => knd.is k e.key with
    | none =>
      have hn : valueAt kb k = none := by rw [← hfind k, findBy_of_findIdx?, hj]
      rw [hn] at hy; exact nomatch hy
    | some j =>
      obtain ⟨hjlt, _, _⟩ := Array.findIdx?_eq_some_iff_getElem.mp hj
      have hv' : valueAt kb k = some es'[j].val := by
        rw [← hfind k, findBy_of_findIdx?, hj]
        simp [Array.getElem?_eq_getElem hjlt]
      refine wpAny_bind (wpAny_dictEntries hob' hdb ?_)
      rw [Array.getElem?_eq_getElem hjlt]
      have ey : es'[j].val = y := Option.some.inj (hv'.symm.trans hy)
      rw [← ey, ← hval] at he
      refine wpAny_holding (wpAny_mono he (fun r s2 z => ?_) fun _ _ z => z)
      obtain ⟨rfl, hI2⟩ := z
      show wpAny _ _ (if (!true) = true then _ else _) _ _ _
      rw [if_neg (by decide)]
      refine wpAny_bind (wpAny_dictEpoch ((same s2 hI2).1.trans hoa) hda ?_)
      rw [if_neg (by simp)]
      exact wpAny_pure ⟨hI2, rfl, x + 1, hrest, hlt⟩
  · rintro q s' ⟨hI, rfl, i, hr, hi⟩
    exact wpAny_pure (h s' hI)
theorem rcG_dicts {a b : Addr} {ka kb : List (K × Value)} {Q : Value → Shared → Prop} (I : Shared → Prop) (ha : (a == sysModules) = false) (hb : (b == sysModules) = false)
    (da : s.heap.DictOf knd a ka) (db : s.heap.DictOf knd b kb) (same : ∀ s', I s' → s'.heap.get? a = s.heap.get? a ∧ s'.heap.get? b = s.heap.get? b) (hl : ka.length = kb.length) (hu : A.units < cLine)
    (turn : ∀ (i : Nat) (k : K) (v : Value) s', ka[i]? = some (k, v) → I s' → ∃ y, valueAt kb k = some y ∧ wpAny (model prog w) A.in1 (eqBool v y) (fun r s2 => r = true ∧ I s2) E s') (h0 : I s) (h : ∀ s', I s' → Q (.bool true) s') : wpAny (model prog w) A (richCompare .Eq (.ref a) (.ref b)) Q E s := by
  refine wpAny_richCompare_same_room (op := .Eq) da.typeIs db.typeIs PySem.F.slot_dict_eq (GQ.call_here PySem.F.slot_dict_eq da.typeIs PySem.F.entry_dict_eq (PySem.F.args_dict_eq_2 _ _) ?_) hu
  show wpAny _ _ (Builtin.Dict.dictSlotArgs "__eq__" ⟨[.ref a, .ref b], []⟩ >>= _) _ _ s
  refine wpAny_bind ?_
  unfold Builtin.Dict.dictSlotArgs
  refine wpAny_bind (wpAny_notOrdered_dict da.typeIs ?_)
  show wpAny _ _ (pure (Value.ref a, Value.ref b)) _ _ s
  refine wpAny_pure ?_
  refine wpAny_bind (wpAny_isInstance (T := "dict") db.typeIs PySem.F.sub_dict_dict ?_)
  simp only [Bool.not_true, Bool.false_eq_true, if_false]
  refine wpAny_bind (wpAny_pure (wpAny_bind (wpAny_pure ?_)))
  refine wpAny_bind (samePairsG I ha hb da db same hl (fun i k v s' e hI => ?_) h0 fun s' hI => ?_)
  · obtain ⟨y, hy, he⟩ := turn i k v s' e hI
    refine ⟨y, hy, wpAny_mono he (fun _ _ z => z) fun _ _ z => ?_⟩
    exact z
  · refine wpAny_pure ⟨?_, ?_⟩
    · exact fun x => nomatch x
    · simpa using h s' hI
end
end PySem.W
namespace Ys
open PySem PySem.Spec PyProof.Rows L2
/-! ### == of kept dicts whose values have an == of their own -/
section
variable {X : Cx} {n m : Nat} {D D' : Eqv} {K : PySem.W.Frag}
def DSame : Eqv := fun x y _ => ∃ a, x = .ref a ∧ y = .ref a
theorem mon_same : Mon DSame := fun _ _ _ _ _ d => d
theorem eqG_same : EqG X 0 DSame := by
  intro A pins s σ H x y u v sb I rx ry d
  obtain ⟨a, rfl, rfl⟩ := d
  cases rx
  cases ry
  exact SeqAt.EqAt.same (A := A) (s := s) (.ref a) X.prog X.w X.xe _ ⟨rfl, H, I, Ext.rfl'⟩
def DData (K : PySem.W.Frag) : Eqv := fun x y H => ∃ d, Dp K H x d ∧ Dp K H y d ∧ SeqAt.shaped d = true ∧ PyData.eqv d d = true
mutual
theorem dp_ext {H H' : Hp} (e : Ext H H') : ∀ (d : PyData) (v : V), Dp K H v d → Dp K H' v d
  | .none, _, h => by cases h; exact .non
  | .bool b, _, h => by cases h; exact .bl b
  | .int i, _, h => by cases h; exact .int i
  | .str x, _, h => by cases h; exact .str x
  | .list ds, _, h => by
    cases h with
    | lst hs ha => exact .lst (hs.ext e) (dpAll_ext e ds _ ha)
  | .tuple ds, _, h => by
    cases h with
    | tup hs ha => exact .tup (hs.ext e) (dpAll_ext e ds _ ha)
  | .dict _, _, h => by cases h
theorem dpAll_ext {H H' : Hp} (e : Ext H H') : ∀ (ds : List PyData) (vs : List V), DpAll K H vs ds → DpAll K H' vs ds
  | [], _, h => by cases h; exact .nil
  | d :: ds, _, h => by
    cases h with
    | cons h1 h2 => exact .cons (dp_ext e d _ h1) (dpAll_ext e ds _ h2)
end
theorem mon_data : Mon (DData K) := fun x y H H' e ⟨d, h1, h2, h3⟩ => ⟨d, dp_ext e d x h1, dp_ext e d y h2, h3⟩
theorem eqG_data : EqG X 0 (DData X.K) := by
  intro A pins s σ H x y u v sb I rx ry ⟨d, h1, h2, h3, h4⟩
  obtain ⟨as, r1⟩ := Dp.reads I d x u h1 rx
  obtain ⟨bs, r2⟩ := Dp.reads I d y v h2 ry
  have hu := sb.room.un
  have := SeqAt.eqAt_reads d d A s u v as bs r1 r2 (SeqAt.canLay_of_shaped h3) (SeqAt.canLay_of_shaped h3) (SeqAt.room_of_shaped h3 (by omega))
  rw [h4] at this
  exact this X.prog X.w X.xe _ ⟨rfl, H, I, Ext.rfl'⟩
def DDict (D : Eqv) : Eqv := fun x y H => ∃ a b oa ob ks ls, x = .ref a ∧ y = .ref b ∧ H a = some (.frz oa (.dK ks)) ∧ H b = some (.frz ob (.dK ls)) ∧ ks.length = ls.length ∧ ∀ (i : Nat) (p : Key × V), ks[i]? = some p → ∃ u, valV ls p.1 = some u ∧ D p.2 u H
theorem mon_dict (hD : Mon D) : Mon (DDict D) := fun x y H H' e d => by
  obtain ⟨a, b, oa, ob, ks, ls, hx, hy, h1, h2, hl, p⟩ := d
  exact ⟨a, b, oa, ob, ks, ls, hx, hy, e _ _ h1, e _ _ h2, hl, fun i q hq => let ⟨u, e1, e2⟩ := p i q hq; ⟨u, e1, hD _ _ _ _ e e2⟩⟩
theorem rcG_dict (hD : Mon D) (h : EqG X n D) : RcG X (n + 1) (DDict D) := by
  intro A pins s σ H x y u v sb I rx ry d
  obtain ⟨a, b, oa, ob, ks, ls, rfl, rfl, ha, hb, hl, hp⟩ := d
  cases rx
  cases ry
  obtain ⟨ga, _, ya, va, ra, da⟩ := (show ObjOk X.prog X.w H s.heap a (.frz oa (.dK ks)) from I.hok a _ ha)
  obtain ⟨gb, _, yb, vb, rb, db⟩ := (show ObjOk X.prog X.w H s.heap b (.frz ob (.dK ls)) from I.hok b _ hb)
  refine PySem.W.rcG_dicts (knd := mixKind X.prog X.w) (fun s' => LoopI X pins σ H s') ya yb da db (fun s' q => ?_) (by rw [← ra.length, ← rb.length]; exact hl) sb.room.units0 (fun i k w s' e q => ?_) ⟨H, I, Ext.rfl'⟩ fun s' q => ⟨rfl, q⟩
  · obtain ⟨H1, I1, e1⟩ := q
    obtain ⟨g1, _⟩ := (show ObjOk X.prog X.w H1 s'.heap a (.frz oa (.dK ks)) from I1.hok a _ (e1 _ _ ha))
    obtain ⟨g2, _⟩ := (show ObjOk X.prog X.w H1 s'.heap b (.frz ob (.dK ls)) from I1.hok b _ (e1 _ _ hb))
    exact ⟨g1.trans ga.symm, g2.trans gb.symm⟩
  · obtain ⟨H1, I1, e1⟩ := q
    have hi : i < ks.length := by
      have := (List.getElem?_eq_some_iff.mp e).1
      rw [ra.length]; exact this
    obtain ⟨p, hpk⟩ : ∃ p, ks[i]? = some p := ⟨_, List.getElem?_eq_getElem hi⟩
    obtain ⟨w', hw, rw'⟩ := paired_get ra hpk
    rw [e] at hw
    obtain rfl : (k, w) = w' := Option.some.inj hw
    obtain ⟨rk, rv⟩ := rw'
    have rk : p.1 = k := rk
    obtain ⟨z, hz, hd⟩ := hp i p hpk
    have rr : RelO (some z) (valueAt vb p.1) := by rw [← hz]; exact rb.val p.1
    obtain ⟨y, hy, ry⟩ := rr.some_of
    refine ⟨y, by rw [← rk]; exact hy, ?_⟩
    refine wpAny_mono (h A.in1 pins s' σ H1 _ _ w y sb.in1 I1 rv ry (hD _ _ _ _ e1 hd)) (fun r s2 q => ?_) fun _ _ z => z
    obtain ⟨hr, H2, I2, e2⟩ := q
    exact ⟨hr, H2, I2, e1.trans e2⟩
theorem eqG_dict (hD : Mon D) (h : EqG X n D) : EqG X (n + 1) (DDict D) := (rcG_dict hD h).eqG fun _ _ _ d => let ⟨a, b, _, _, _, _, hx, hy, _⟩ := d; ⟨a, b, hx, hy⟩
theorem Zp.ext {G H H' : Hp} {M : List (Addr × HO)} (z : Zp G M H) (e : Ext H H') : Zp G M H' := ⟨fun a o h => e _ _ (z.sub a o h), fun i p o h => ⟨e _ _ (z.own i p o h).1, (z.own i p o h).2⟩, z.nd⟩
end
end Ys
/-! len(x), y in x by the class's own -/
namespace Ys
open PySem PySem.Spec PyProof.Rows L2
section
variable {X : Cx} {CX : CXT} {n : Nat} {C f : Addr} {fd : FuncData} {ps : List Str} {sp : Sp} {E : XK}
def rLenI (C : Addr) (sp : Sp) (E : XK) : List V → Hp → VK → Prop := fun xs H Q => ∃ a dx fs, xs = [.ref a] ∧ H a = some (.ins C dx fs) ∧ sp [.ref a] H (fun v H1 => ∃ k : Nat, v = .int k ∧ k ≤ 1000000 ∧ Q (.int k) H1) E
theorem c_lenI (F : FnOk X.prog X.w X.K X.mg X.base CX n f fd ps sp) (hs : PySem.W.findIn X.K (.ref C) "__len__" = some (some (.ref f))) (hfn : PySem.W.isFn X.K (.ref f) = true) (hbd : Binds X.K fd ps []) (hx : Passes CX X E) (hr : Room (n + 1) X.A) : CallR X (.builtin "len") (rLenI C sp E) := by
  intro pins s σ H xs us Q I r h
  obtain ⟨c, dx, fs, rfl, ea, q⟩ := h
  rw [Vals.ref1 r]
  obtain ⟨mA, J, _⟩ := ins_get I.hok ea
  obtain ⟨od, J, _⟩ := J.look
  obtain ⟨m, hF⟩ := I.fr
  refine PySem.W.len_K hF I.ok.mod.kin J hs hfn ?_
  have hl := F.len _ _ _ _ q
  refine wpAny_call (codeAny_mono (F.run X.A.in1 X.stack s H ⟨[.ref c], []⟩ [.ref c] [.ref c] _ E hr.in1 I.env0.in1 (by
    have := hbd s [.ref c] I.kIn (by simpa using hl)
    simpa using this) (.cons rfl .nil) q) fun r s' hq => ?_)
  cases r with
  | error e => exact hx pins σ H s e s' I hq
  | ok fl =>
    cases fl with
    | ret w =>
      obtain ⟨v, H1, I1, rv, k, rfl, hk, q1⟩ := I.after hq
      obtain ⟨t, rfl⟩ := rv
      exact ⟨⟨Int.natCast_nonneg k, by omega⟩, .int k, H1, I1.tok _, ⟨_, rfl⟩, q1⟩
    | next => exact False.elim hq
    | brk => exact False.elim hq
    | cont => exact False.elim hq
def rInI (C : Addr) (sp : Sp) (E : XK) (neg : Bool) : R2 := fun x y H Q => ∃ a dx fs, y = .ref a ∧ H a = some (.ins C dx fs) ∧ sp [.ref a, x] H (fun v H1 => ∃ b : Bool, v = .bl b ∧ Q (.bl (neg ^^ b)) H1) E
theorem op_inI (F : FnOk X.prog X.w X.K X.mg X.base CX n f fd ps sp) (hs : PySem.W.findIn X.K (.ref C) "__contains__" = some (some (.ref f))) (hfn : PySem.W.isFn X.K (.ref f) = true) (hbd : Binds X.K fd ps []) (hx : Passes CX X E) (hr : Room n X.A) : OpR X (compareOp .In) (rInI C sp E false) := by
  intro pins s σ H x y v u Q I rx ry h
  obtain ⟨c, dx, fs, rfl, ea, q⟩ := h
  cases (show u = Value.ref c from ry)
  obtain ⟨mA, J, _⟩ := ins_get I.hok ea
  obtain ⟨od, J, _⟩ := J.look
  obtain ⟨m, hF⟩ := I.fr
  refine PySem.W.in_K hF I.ok.mod.kin J hs hfn ?_
  have hl := F.len _ _ _ _ q
  refine wpAny_call (codeAny_mono (F.run X.A X.stack s H ⟨[.ref c, v], []⟩ [.ref c, v] [.ref c, x] _ E hr I.env0 (by
    have := hbd s [.ref c, v] I.kIn (by simpa using hl)
    simpa using this) (.cons rfl (.cons rx .nil)) q) fun r s' hq => ?_)
  cases r with
  | error e => exact hx pins σ H s e s' I hq
  | ok fl =>
    cases fl with
    | ret w =>
      obtain ⟨v, H1, I1, rv, b, rfl, q1⟩ := I.after hq
      obtain rfl : w = Value.bool b := rv
      refine wpAny_truthy_bool ?_
      rw [Bool.false_xor] at q1
      exact ⟨.bl b, H1, I1, rfl, q1⟩
    | next => exact False.elim hq
    | brk => exact False.elim hq
    | cont => exact False.elim hq
theorem op_notInI (F : FnOk X.prog X.w X.K X.mg X.base CX n f fd ps sp) (hs : PySem.W.findIn X.K (.ref C) "__contains__" = some (some (.ref f))) (hfn : PySem.W.isFn X.K (.ref f) = true) (hbd : Binds X.K fd ps []) (hx : Passes CX X E) (hr : Room n X.A) : OpR X (compareOp .NotIn) (rInI C sp E true) := by
  intro pins s σ H x y v u Q I rx ry h
  obtain ⟨c, dx, fs, rfl, ea, q⟩ := h
  cases (show u = Value.ref c from ry)
  obtain ⟨mA, J, _⟩ := ins_get I.hok ea
  obtain ⟨od, J, _⟩ := J.look
  obtain ⟨m, hF⟩ := I.fr
  refine PySem.W.notIn_K hF I.ok.mod.kin J hs hfn ?_
  have hl := F.len _ _ _ _ q
  refine wpAny_call (codeAny_mono (F.run X.A X.stack s H ⟨[.ref c, v], []⟩ [.ref c, v] [.ref c, x] _ E hr I.env0 (by
    have := hbd s [.ref c, v] I.kIn (by simpa using hl)
    simpa using this) (.cons rfl (.cons rx .nil)) q) fun r s' hq => ?_)
  cases r with
  | error e => exact hx pins σ H s e s' I hq
  | ok fl =>
    cases fl with
    | ret w =>
      obtain ⟨v, H1, I1, rv, b, rfl, q1⟩ := I.after hq
      obtain rfl : w = Value.bool b := rv
      refine wpAny_truthy_bool ?_
      rw [Bool.true_xor] at q1
      exact ⟨.bl (!b), H1, I1, rfl, q1⟩
    | next => exact False.elim hq
    | brk => exact False.elim hq
    | cont => exact False.elim hq
end
end Ys
/-! x + y, x | y by the class's own -/
namespace Ys
open PySem PySem.Spec PyProof.Rows L2
section
variable {X : Cx} {CX : CXT} {n : Nat} {C f : Addr} {fd : FuncData} {ps : List Str} {sp : Sp} {E : XK} {op : Operator}
def rBinI (C : Addr) (sp : Sp) (E : XK) : R2 := fun x y H Q => ∃ a dx fs b dy gs, x = .ref a ∧ H a = some (.ins C dx fs) ∧ y = .ref b ∧ H b = some (.ins C dy gs) ∧ sp [x, y] H (fun v H1 => (∃ c, v = .ref c) ∧ Q v H1) E
theorem op_binI (F : FnOk X.prog X.w X.K X.mg X.base CX n f fd ps sp) (hs : PySem.W.findIn X.K (.ref C) (PySem.dunder op.info.2) = some (some (.ref f))) (hfn : PySem.W.isFn X.K (.ref f) = true) (hc : PySem.W.selfFirst X.K C = true) (hbd : Binds X.K fd ps []) (hx : Passes CX X E) (hr : Room n X.A) : OpR X (binaryOp op) (rBinI C sp E) := by
  intro pins s σ H x y v u Q I rx ry h
  obtain ⟨c, dx, fs, b, dy, gs, rfl, ea, rfl, eb, q⟩ := h
  cases (show v = Value.ref c from rx)
  cases (show u = Value.ref b from ry)
  obtain ⟨mA, J, _⟩ := ins_get I.hok ea
  obtain ⟨od, J, _⟩ := J.look
  obtain ⟨mB, JB, _⟩ := ins_get I.hok eb
  obtain ⟨odB, JB, _⟩ := JB.look
  obtain ⟨m, hF⟩ := I.fr
  refine PySem.W.binop_K hF I.ok.mod.kin J JB.type hc hs hfn ?_
  have hl := F.len _ _ _ _ q
  refine wpAny_call (codeAny_mono (F.run X.A X.stack s H ⟨[.ref c, .ref b], []⟩ [.ref c, .ref b] [.ref c, .ref b] _ E hr I.env0 (by
    have := hbd s [.ref c, .ref b] I.kIn (by simpa using hl)
    simpa using this) (.cons rfl (.cons rfl .nil)) q) fun r s' hq => ?_)
  match r, hq with
  | .error e, hq => exact hx pins σ H s e s' I hq
  | .ok (.ret w), hq =>
    obtain ⟨v, H1, I1, rv, ⟨c1, rfl⟩, q1⟩ := I.after hq
    obtain rfl : w = Value.ref c1 := rv
    exact ⟨.ref c1, H1, I1, rfl, q1⟩
  | .ok .next, hq => exact False.elim hq
  | .ok .brk, hq => exact False.elim hq
  | .ok .cont, hq => exact False.elim hq
end
end Ys
namespace Ys
open PySem PySem.Spec L2 Builtin Builtin.ObjectAttr
/-! ### an own error below any of the errors, made with keywords -/
section
variable {prog : Program} {w : World} {A : Around} {E : Value → Shared → Prop} {R : Result → Shared → Prop} {h : Heap} {g : Array GenState} {d : Drawn} {t : Nat} {os : OsState}
variable {nm q : Str} {C N : Addr} {bs tl : List Value} {hdct : Bool} {sn : List Str} {sub : List Value} {ab : Bool} {col : Option Bool} {dd : Option Addr} {k0 k1 k2 k3 k5 : Option Value} {B newId initId : String} {kw : List (Str × Value)}
theorem newC (F : ExcBaseFacts B newId initId tl) {us : List Value} {Q : Unit → Shared → Prop} (hC : h.get? C = some (excClassObj nm q C N bs tl hdct sn sub ab col dd k0 k1 k2 k3 k5 newId)) (hq : Q () ⟨h, g, d, t, os⟩) :
    wpAny (model prog w) A (checkBuiltinCall newId ⟨.ref C :: us, kw⟩) Q E ⟨h, g, d, t, os⟩ := by
  have sees : (Value.ref C :: tl).contains (.type B) = true := by rw [List.contains_cons, F.hasB, Bool.or_true]
  have nostar := F.noStar
  simp only [checkBuiltinCall, F.newRow, F.newSplit, F.newKind]
  repeat (first | refine wpAny_loadPart_at hC ?_ | (refine wpAny_isSubtype_exc hC ?_; rw [sees]) | refine wpAny_madeBy_exc hC ?_ | refine wpAny_staticBase_exc hC ?_ | simp only [bne_self_eq_false, if_false, Bool.false_eq_true] | wp_step)
  exact hq
theorem newE (F : ExcBaseFacts B newId initId tl) {us : List Value} (hC : h.get? C = some (excClassObj nm q C N bs tl hdct sn sub ab col dd k0 k1 k2 k3 k5 newId)) (hl : us.length ≤ sizeLine)
    (hq : R (.ok (.ret (.ref (h.objs.size + 1)))) ⟨(h.push (PySem.W.kdv_tup us)).push (PySem.HandSPX.excO C h.objs.size), g, d, t, os⟩) : codeAny (model prog w) A (.builtin newId ⟨.ref C :: us, kw⟩) R ⟨h, g, d, t, os⟩ := by
  have nends := F.ends
  have s1 : (Value.ref C :: tl).contains (.type B) = true := by rw [List.contains_cons, F.hasB, Bool.or_true]
  have s2 : (Value.ref C :: tl).contains (.type "AttributeError") = false := by rw [List.contains_cons, F.noAttr]; rfl
  have s3 : (Value.ref C :: tl).contains (.type "NameError") = false := by rw [List.contains_cons, F.noName]; rfl
  refine codeAny_builtinAt F.entry ?_
  unfold Builtin.«BaseException.__new__»
  refine wpAt_bind ?_
  refine (show wpAt _ _ _ (stack >>= _) _ _ _ from wpAt_bind (wpAt_stack fun p below => wpAt_of_wpAny ?_))
  wp_walk
  refine wpAt_of_wpAny ?_
  rw [F.owner]
  repeat (first | with_reducible refine wpAny_madeHere_exc F.canon hC ?_ | with_reducible refine wpAny_loadPart_at hC ?_ | (with_reducible refine wpAny_isSubtype_exc hC ?_; first | rw [s1] | rw [s2] | rw [s3]) | wp_step)
  refine (show R _ _ from ?_)
  rw [Heap.size_push]
  exact hq
theorem metaC {us : List Value} {Q : Unit → Shared → Prop} (hC : h.get? C = some (excClassObj nm q C N bs tl hdct sn sub ab col dd k0 k1 k2 k3 k5 newId)) (hq : Q () ⟨h, g, d, t, os⟩) :
    wpAny (model prog w) A (checkBuiltinCall "type.__call__" ⟨.ref C :: us, kw⟩) Q E ⟨h, g, d, t, os⟩ := by
  have sub3 := tc_sub
  have tyC : (⟨h, g, d, t, os⟩ : Shared).TypeIs (.ref C) "type" := ⟨_, hC, rfl⟩
  simp only [checkBuiltinCall, tc_split, tc_kind]
  repeat (any_goals (first | assumption | with_reducible refine wpAny_loadPart_at hC ?_ | with_reducible refine wpAny_map ?_ | with_reducible refine wpAny_onRaise ?_ | wp_step))
theorem typeE (F : ExcBaseFacts B newId initId tl) {us : List Value} {fI : Addr} {Q : Fin → Shared → Prop} (hC : h.get? C = some (excClassObj nm q C N bs tl hdct sn sub ab col dd k0 k1 k2 k3 k5 newId))
    (hi : W.Looks (model prog w) h (typeLookup (.ref C) "__init__") (some (.ref fI))) (hb : ∀ self, W.Looks (model prog w) h (bindSpecial (.ref fI) self) (.ref fI, [self])) (hl : us.length ≤ sizeLine)
    (hq : codeAny (model prog w) A (.call (.ref fI) ⟨.ref (h.objs.size + 1) :: us, kw⟩) (fun r s' => match r with | .ok (.ret v) => v = .none ∧ Q (.done (.ret (.ref (h.objs.size + 1)))) s' | .ok _ => False | .error e => E e s')
      ⟨(h.push (W.kdv_tup us)).push (PySem.HandSPX.excO C h.objs.size), g, d, t, os⟩) : wpAny (model prog w) A (Builtin.«type.__call__» ⟨.ref C :: us, kw⟩) Q E ⟨h, g, d, t, os⟩ := by
  repeat (first | with_reducible refine wpAny_madeBy_exc hC ?_ | with_reducible refine wpAny_loadPart_at hC ?_ | wp_step)
  refine codeAny_call_builtin_code (Code.quiet_builtin _ F.quiet) (newC F hC ?_)
  refine newE F hC hl ?_
  refine (show wpAny _ _ _ _ _ _ from ?_)
  have up : ∀ b o, h.get? b = some o → ((h.push (W.kdv_tup us)).push (PySem.HandSPX.excO C h.objs.size)).get? b = some o := fun b o e => Heap.get?_push_of_some _ (Heap.get?_push_of_some _ e)
  have hC2 := up _ _ hC
  have own : ((h.push (W.kdv_tup us)).push (PySem.HandSPX.excO C h.objs.size)).get? (h.objs.size + 1) = some (PySem.HandSPX.excO C h.objs.size) := by heap_get
  have inC : (Value.ref C :: tl).contains (.ref C) = true := by simp
  have i2 := hi.keeps up
  have b2 := (hb (.ref (h.objs.size + 1))).keeps up
  unfold isInstance
  repeat (first | with_reducible refine wpAny_loadPart_at own ?_ | (with_reducible refine wpAny_isSubtype_exc hC2 ?_; rw [inC]) | wp_step)
  refine (show wpAny _ _ (typeLookup (.ref C) _) _ _ _ from i2.at (wpAny_holding (wpAny_bind (b2.at (wpAny_bind (wpAny_call (codeAny_mono hq fun r s' z => ?_)))))))
  rcases r with e | (v | _ | _ | _) <;> first | exact z | exact z.elim | skip
  obtain ⟨rfl, z⟩ := z
  first
    | exact wpAny_pure (wpAny_pure z)
    | (wp_walk; exact z)
theorem callE (F : ExcBaseFacts B newId initId tl) {us : List Value} {fI : Addr} (hC : h.get? C = some (excClassObj nm q C N bs tl hdct sn sub ab col dd k0 k1 k2 k3 k5 newId))
    (hi : W.Looks (model prog w) h (typeLookup (.ref C) "__init__") (some (.ref fI))) (hb : ∀ self, W.Looks (model prog w) h (bindSpecial (.ref fI) self) (.ref fI, [self])) (hl : us.length ≤ sizeLine)
    (hq : codeAny (model prog w) (A.under (.builtin "type.__call__" ⟨.ref C :: us, kw⟩)) (.call (.ref fI) ⟨.ref (h.objs.size + 1) :: us, kw⟩) (W.InitBack (h.objs.size + 1) R) ⟨(h.push (W.kdv_tup us)).push (PySem.HandSPX.excO C h.objs.size), g, d, t, os⟩) :
    codeAny (model prog w) A (.call (.ref C) ⟨us, kw⟩) R ⟨h, g, d, t, os⟩ := by
  have l1 := tc_lookup
  have l2 := tc_bind (.ref C)
  have tyC : (⟨h, g, d, t, os⟩ : Shared).TypeIs (.ref C) "type" := ⟨_, hC, rfl⟩
  refine codeAny_of_tree ?_
  refine (show wpAny _ _ (callAny (.ref C) _) _ _ _ from ?_)
  repeat (any_goals (first | assumption | with_reducible refine wpAny_loadPart_at hC ?_ | wp_step))
  refine ⟨rfl, ?_⟩
  refine codeAny_call_builtin_at (Code.quiet_builtin _ (by decide +kernel)) entry_typeCall (metaC hC (typeE F hC hi hb hl ?_))
  refine codeAny_mono hq fun r s' z => ?_
  rcases r with e | (v | _ | _ | _) <;> exact z
end
end Ys
namespace Ys
open PySem PySem.Spec L2 Builtin Builtin.ObjectAttr
/-! ### the errors that own ones stand below -/
structure BaseE (B newId initId : String) (tl : List Value) : Prop where
  base : ExcBaseFacts B newId initId tl
  kxs : PySem.W.KxsFacts B initId
  passes : ∀ self : Value, refuseLoop self "__setattr__" tl = pure ()
  obj : tl.contains (.type "object") = true
theorem bValue : BaseE "ValueError" "ValueError.__new__" "ValueError.__init__" [.type "ValueError", .type "Exception", .type "BaseException", .type "object"] := ⟨F.excBase_ValueError, PySem.W.kxs_ValueError, F.store_ValueError.passes, by decide +kernel⟩
theorem bLookup : BaseE "LookupError" "LookupError.__new__" "LookupError.__init__" [.type "LookupError", .type "Exception", .type "BaseException", .type "object"] := ⟨F.excBase_LookupError, PySem.W.kxs_LookupError, F.store_LookupError.passes, by decide +kernel⟩
theorem bRuntime : BaseE "RuntimeError" "RuntimeError.__new__" "RuntimeError.__init__" [.type "RuntimeError", .type "Exception", .type "BaseException", .type "object"] := ⟨F.excBase_RuntimeError, PySem.W.kxs_RuntimeError, F.store_RuntimeError.passes, by decide +kernel⟩
theorem bOverflow : BaseE "OverflowError" "OverflowError.__new__" "OverflowError.__init__" [.type "OverflowError", .type "ArithmeticError", .type "Exception", .type "BaseException", .type "object"] := ⟨F.excBase_OverflowError, PySem.W.kxs_OverflowError, F.store_OverflowError.passes, by decide +kernel⟩
section
variable {prog : Program} {w : World} {A : Around} {E : Value → Shared → Prop} {R : Result → Shared → Prop} {hp : Heap} {g : Array GenState} {d : Drawn} {t : Nat} {os : OsState}
variable {K : W.Frag} {name : Str} {tk : Tok} {v : Value} {x C : Addr} {fv : Array Value} {cd : ClassData} {B newId initId : String} {tl : List Value}
theorem storeN (T : BaseE B newId initId tl) (X : K.In hp) (hx : hp.get? x = some { cls := .ref C, data := .fields fv }) (hc : W.clsIn K C = some cd) (hm : cd.mro = .ref C :: tl) (hd : cd.hasDict = true) (no : W.findIn K (.ref C) name = some none)
    (hq : ∀ h' tk' dx, (∀ b o, b ≠ x → hp.get? b = some o → h'.get? b = some o) → hp.objs.size ≤ dx → dx ≠ x → h'.get? x = some { cls := .ref C, dict := some dx, data := .fields fv } → h'.Ns1 dx (fun y => if y = name then some v else none) → R (.ok (.ret .none)) ⟨h', g, d, tk', os⟩) :
    codeAny (model prog w) A (.call (.builtin "object.__setattr__") ⟨[.ref x, .str name tk, v], []⟩) R ⟨hp, g, d, t, os⟩ := by
  have J : W.InstAt hp x { cls := .ref C, data := .fields fv } C none := ⟨hx, rfl, rfl, trivial⟩
  have so := F.store_object
  have full : cd.mro.isEmpty = false := by rw [hm]; rfl
  have ob : cd.mro.contains (.type "object") = true := by rw [hm, List.contains_cons, T.obj, Bool.or_true]
  have far : x ≠ hp.objs.size := Nat.ne_of_lt (Heap.lt_size hx)
  have below : W.Looks (model prog w) hp (isInstance (.ref x) (.type "object")) true := J.type.andThen (W.looks_mroIn X (by unfold W.mroIn; rw [hc, Option.bind_some, if_neg (by rw [full]; exact Bool.false_ne_true), ob]))
  refine codeAny_call_builtin so.slot.plain so.entry (@W.check_slot (model prog w) _ _ ⟨hp, g, d, t, os⟩ "object.__setattr__" "object" "__setattr__" (.ref x) [.str name tk, v] [] _ so.kind so.split below (so.args (.ref x) (.str name tk) v) ?_)
  have row : W.Looks (model prog w) hp (mroOf (.ref C)) cd.mro := (W.looks_clsIn X hc).andThen .now
  have none3 : W.Looks (model prog w) hp (storeTaker? none) none := .now
  have lc : W.Looks (model prog w) hp (classData C) cd := W.looks_clsIn X hc
  rw [W.osa_eq, refuse_eq]
  refine wpAny_bind (wpAny_bind (J.type.at (wpAny_bind (row.at ?_))))
  rw [hm, refuseLoop_ref, T.passes]
  refine wpAny_pure (wpAny_bind (J.type.at (wpAny_bind ((W.looks_findIn X no).at (wpAny_bind (none3.at ?_))))))
  refine (show wpAny _ _ (storeInOwnDict (.ref x) (.ref C) (.str name tk) name v false) _ _ _ from ?_)
  obtain ⟨y1, y2, y3, y4, y5, y6, y7, y8, y9, y10, y11⟩ := cd
  dsimp only at hd
  subst hd
  unfold storeInOwnDict ownDictForStores
  repeat (first | with_reducible refine PySem.HandSPX.store_in_new ?_ ?_ | with_reducible refine wpAny_loadPart_at hx ?_ | with_reducible refine lc.at ?_ | wp_step)
  · exact ⟨_, #[], _, (Heap.get?_update_ne _ _ _ _ far.symm).trans (Heap.get?_push_at rfl rfl), rfl, fun e he => absurd he (by simp), fun _ => rfl⟩
  · intro h' tk' hn' hs
    have hx2 : (hp.push { cls := .type "dict", data := .dict #[] }).get? x = some { cls := .ref C, data := .fields fv } := Heap.get?_push_of_some _ hx
    refine hq h' tk' hp.objs.size (fun b o nb ho => ?_) (Nat.le_refl _) far.symm ?_ hn'
    · exact (hs.2 b (Nat.ne_of_lt (Heap.lt_size ho))).trans ((Heap.get?_update_ne _ _ _ _ nb).trans (Heap.get?_push_of_some _ ho))
    · exact (hs.2 x far).trans (Heap.get?_update_self _ hx2 rfl)
theorem storeM {dx : Addr} {m0 : Str → Option Value} {nl : List Str} (T : BaseE B newId initId tl) (X : K.In hp) (hx : hp.get? x = some { cls := .ref C, dict := some dx, data := .fields fv }) (hn : hp.Ns1 dx m0) (hw : Within m0 nl) (hz : nl.length ≤ 1000) (hc : W.clsIn K C = some cd) (hm : cd.mro = .ref C :: tl) (hd : cd.hasDict = true)
    (no : W.findIn K (.ref C) name = some none)
    (hq : ∀ h' tk', (∀ b o, b ≠ dx → hp.get? b = some o → h'.get? b = some o) → h'.Ns1 dx (fun y => if y = name then some v else m0 y) → R (.ok (.ret .none)) ⟨h', g, d, tk', os⟩) :
    codeAny (model prog w) A (.call (.builtin "object.__setattr__") ⟨[.ref x, .str name tk, v], []⟩) R ⟨hp, g, d, t, os⟩ := by
  obtain ⟨od, _, _, hod, _, _⟩ := hn.count hw
  have J : W.InstAt hp x { cls := .ref C, dict := some dx, data := .fields fv } C (some od) := ⟨hx, rfl, rfl, hod⟩
  have so := F.store_object
  have full : cd.mro.isEmpty = false := by rw [hm]; rfl
  have ob : cd.mro.contains (.type "object") = true := by rw [hm, List.contains_cons, T.obj, Bool.or_true]
  have below : W.Looks (model prog w) hp (isInstance (.ref x) (.type "object")) true := J.type.andThen (W.looks_mroIn X (by unfold W.mroIn; rw [hc, Option.bind_some, if_neg (by rw [full]; exact Bool.false_ne_true), ob]))
  refine codeAny_call_builtin so.slot.plain so.entry (@W.check_slot (model prog w) _ _ ⟨hp, g, d, t, os⟩ "object.__setattr__" "object" "__setattr__" (.ref x) [.str name tk, v] [] _ so.kind so.split below (so.args (.ref x) (.str name tk) v) ?_)
  have row : W.Looks (model prog w) hp (mroOf (.ref C)) cd.mro := (W.looks_clsIn X hc).andThen .now
  have none3 : W.Looks (model prog w) hp (storeTaker? none) none := .now
  have lc : W.Looks (model prog w) hp (classData C) cd := W.looks_clsIn X hc
  rw [W.osa_eq, refuse_eq]
  refine wpAny_bind (wpAny_bind (J.type.at (wpAny_bind (row.at ?_))))
  rw [hm, refuseLoop_ref, T.passes]
  refine wpAny_pure (wpAny_bind (J.type.at (wpAny_bind ((W.looks_findIn X no).at (wpAny_bind (none3.at ?_))))))
  refine (show wpAny _ _ (storeInOwnDict (.ref x) (.ref C) (.str name tk) name v false) _ _ _ from ?_)
  obtain ⟨y1, y2, y3, y4, y5, y6, y7, y8, y9, y10, y11⟩ := cd
  dsimp only at hd
  subst hd
  unfold storeInOwnDict ownDictForStores
  repeat (first | with_reducible refine PySem.OEX.store_in_old hn hw hz ?_ | with_reducible refine wpAny_loadPart_at hx ?_ | with_reducible refine lc.at ?_ | wp_step)
  intro h' tk' hn' hs
  exact hq h' tk' (fun b o nb ho => (hs.2 b nb).trans ho) hn'
end
end Ys
namespace Ys
open PySem PySem.Spec PyProof.Rows L2
/-! ### the own __init__ of an error below any of the errors -/
structure OexE (K : PySem.W.Frag) (C : Addr) (newId : String) (tl : List Value) : Prop where
  cls : ∃ nm q N bs sn sub ab col dd k0 k1 k2 k3 k5, K.lookup C = some (excClassObj nm q C N bs tl true sn sub ab col dd k0 k1 k2 k3 k5 newId)
  sa : PySem.W.findIn K (.ref C) "__setattr__" = some (some (.builtin "object.__setattr__"))
  exC : PySem.W.subIn K (.ref C) (.type "BaseException") = some true
  tyC : PySem.W.typeIn K (.ref C) = some (.type "type")
  kC : PySem.W.keepIn K (.ref C) = true
structure SupE (P : Program) (K : PySem.W.Frag) (C fI : Addr) (B initId : String) (flds : List Str) (qual : Str) (params : Arguments) (body : List Stmt) (scope : Scope) (fd : FuncData) : Prop where
  ex : ∃ oc od osl dV kV doc pm an cda ct cc, fd = PySem.W.ksFn "__init__" qual params body scope dV kV doc pm an (.ref cda) ct cc ∧ K.lookup fI = some ⟨oc, od, .func fd, osl⟩ ∧ PySem.W.codeIn K (.ref cda) qual = true ∧
    (∃ ccl cdd vs ccs file tf, K.lookup cda = some ⟨ccl, cdd, .fields vs, ccs⟩ ∧ vs[2]? = some (.str file tf) ∧ ((P.main.file : Str) == file) = true) ∧ ∃ cl cld csl, K.lookup cc = some ⟨cl, cld, .cell (some (.ref C)), csl⟩
  sup : PySem.W.ks_superIn K C C "__init__" = some (some (.builtin initId))
  subV : PySem.W.subIn K (.ref C) (.type B) = some true
  opq : PySem.W.nsIn K cStatics "thirdparty.any" = some none
  gs : PySem.W.nsIn K mainGlobals "super" = some none
  no : ∀ f ∈ flds, PySem.W.findIn K (.ref C) f = some none
  mro : PySem.W.mroIn K C (.ref C) = some true
section
variable {P : Program} {w : World} {K : PySem.W.Frag} {C fI a t0 : Addr} {A : Around} {R : Result → Shared → Prop} {fd : FuncData} {hp : Heap} {g : Array GenState} {d : Drawn} {t : Nat} {os : OsState} {B newId initId : String} {tl : List Value}
theorem call_mwE (T : BaseE B newId initId tl) {mw : Addr} {us : List Value} {nm q : Str} {N : Addr} {bs : List Value} {hd : Bool} {sn : List Str} {sub : List Value} {ab : Bool} {col : Option Bool} {dd : Option Addr} {k0 k1 k2 k3 k5 : Option Value} {Q : Value → Shared → Prop} {E : Value → Shared → Prop}
    (hC : hp.get? C = some (excClassObj nm q C N bs tl hd sn sub ab col dd k0 k1 k2 k3 k5 newId)) (hx : hp.get? a = some (PySem.HandSPX.excO C t0)) (hu : hp.get? mw = some (PySem.W.kxs_mw initId a)) (hz : us.length ≤ sizeLine)
    (hq : ∀ h' t1, (∀ b o, b ≠ a → hp.get? b = some o → h'.get? b = some o) → h'.get? a = some (PySem.HandSPX.excO C t1) → Q .none ⟨h', g, d, t, os⟩) : wpAny (model P w) A (call (.ref mw) us) Q E ⟨hp, g, d, t, os⟩ := by
  refine wpAny_call (codeAny_of_tree ?_)
  show wpAny _ A.in1 (callAny (.ref mw) ⟨us, []⟩) _ _ _; simp only [callAny]
  refine wpAny_bind (wpAny_load hu ?_)
  have q1 : (Value.type "method-wrapper" == Value.type "method" || Value.type "method-wrapper" == Value.type "builtin_function_or_method" || Value.type "method-wrapper" == Value.type "method-wrapper") = true := by decide
  simp only [PySem.W.kxs_mw, q1, if_true]
  refine PySem.W.KFB.if_so (by decide) (wpAny_bind (PySem.W.check_bound_init T.base.toExcCallFacts hC hx rfl ?_))
  refine wpAny_bind (wpAny_pure (wpAny_pure ⟨plainId_quiet T.base.init.plain _, codeAny_builtin T.base.initEntry ?_⟩))
  exact PySem.W.exc_init_tree (cls := .ref C) (t0 := t0) (dv := none) (c2 := .none) (c3 := .none) (b4 := .bool false) hx hz fun h' k e _ => hq h' _ k e
structure SupZ (ps : List Str) (params : Arguments) (scope : Scope) : Prop where
  nc : ∀ y ∈ scope.names, y.2 ≠ .cell
  ns : scope.names.lookup ("super" : Str) = some .globalImplicit
  nk : scope.names.lookup ("__class__" : Str) = some .free
  loc : ∀ y ∈ ps, scope.names.lookup y = some .local
  co : scope.isCoroutine = false
  ge : scope.isGenerator = false
  ki : scope.kind = .function
  hd : ∃ ar, (params.posonlyargs ++ params.args).head? = some ar ∧ ar.arg = "self"
variable {qual : Str} {flds : List Str} {params : Arguments} {scope : Scope} {p0 p1 p2 p4 p5 : Pos} {es : List Expr} {rest : List Stmt} {mg mb : Str → Option Value} {vs : List Value} {ps : List Str}
theorem sup_first (S : SupE P K C fI B initId flds qual params (.Expr (.Call (.Attribute (.Call (.Name "super" p0) [] [] p1) "__init__" p2) es [] p4) p5 :: rest) scope fd) (Z : SupZ ("self" :: ps) params scope) (TB : BaseE B newId initId tl) (T : OexE K C newId tl)
    (X : K.In hp) (hg : hp.Ns mainGlobals mg) (hb : hp.Ns builtinsNs mb) (hbb : ∀ y : Str, y ≠ "__name__" → mb y = bootBuiltins y) (hlim : hp.NoLimit) (hroom : A.depth < recursionLimit)
    (hev : ∀ env : Env, env.scope = scope → ∃ pl : Sem Bool, eval (.Call (.Attribute (.Call (.Name "super" p0) [] [] p1) "__init__" p2) es [] p4) env = (do
      let ov ← attributeBase (.Call (.Name "super" p0) [] [] p1) "__init__" env (eval (.Call (.Name "super" p0) [] [] p1) env)
      standAt p2.atName
      let (f, first) ← holding [ov] (getMethod ov "__init__" pl)
      callWith p4 f first (backTo p4 (starEach es env)) []))
    (hpl : ∀ env : Env, (backTo p4 (starEach es env)).any (·.1) = false) (hne : ∀ env : Env, ∃ x xs, backTo p4 (starEach es env) = (false, x) :: xs)
    (hint : ∀ env : Env, env.scope = scope → interactive env = false) (hsw : ∀ env : Env, env.scope = scope → swapsWith (.Call (.Attribute (.Call (.Name "super" p0) [] [] p1) "__init__" p2) es [] p4) none p5.line env = pure false)
    (htop : (P.main.scope.names.lookup ("super" : Str)).isSome = false) (hlen : vs.length = ps.length) (hl : vs.length ≤ 100) (hns : ("self" : Str) ∉ ps)
    (hargs : ∀ (env : Env) (hh : Heap) (L : Addr) (A : Around) (t : Nat) (Q : List Value → Shared → Prop) (E : Value → Shared → Prop), env.scope = scope → env.locals = L → hh.Ns L (fun y => ((("self" : Str), Value.ref a) :: ps.zip vs).reverse.lookup y) → Q vs ⟨hh, g, d, t, os⟩ →
      wpAny (model P w) A (spliced (backTo p4 (starEach es env))) Q E ⟨hh, g, d, t, os⟩)
    (haK : K.lookup a = none) (hx : hp.get? a = some (PySem.HandSPX.excO C t0)) (args : Args) (hbind : BindsTo ⟨hp, g, d, t, os⟩ fd args ((("self" : Str), Value.ref a) :: ps.zip vs))
    (hrest : ∀ h2 t1 tk (env : Env) (c : Code) (E : Value → Shared → Prop), env.scope = scope → env.locals = hp.objs.size → K.In h2 → (hp.objs.size : Nat) < h2.objs.size → h2.Ns hp.objs.size (fun y => ((("self" : Str), Value.ref a) :: ps.zip vs).reverse.lookup y) → (∀ b o, b ≠ a → hp.get? b = some o → h2.get? b = some o) →
      h2.get? a = some (PySem.HandSPX.excO C t1) → PySem.wpAt (model P w) (A.deeper env) c (execs rest env) (fun f s' => R (.ok (.ret (match f with | .ret v => v | _ => .none))) s') E ⟨h2, g, d, tk, os⟩) :
    codeAny (model P w) A (.call (.ref fI) args) R ⟨hp, g, d, t, os⟩ := by
  obtain ⟨oc, od, osl, dV, kV, doc, pm, an, cda, ct, cc, rfl, lk, hcd, ⟨ccl, cdd, ws, ccs, file, tf, lcd, hvs, hfile⟩, cl, cld, csl, lcc⟩ := S.ex
  obtain ⟨ar, har, hars⟩ := Z.hd
  obtain ⟨nm, q, N, bs, sn, sub, ab, col, dd, k0, k1, k2, k3, k5, hC⟩ := T.cls
  have hcl : PySem.W.clsIn K C = some { name := nm, bases := bs, mro := .ref C :: tl, ns := N, qualname := q, hasDict := true, slotNames := sn, subclasses := sub, abstract := ab, collection := col, hasDel := false } := by unfold PySem.W.clsIn; rw [hC] <;> rfl
  have zin : ∀ y ∈ ps.zip vs, y.1 ∈ ps := fun y hy => (List.of_mem_zip hy).1
  refine ks_codeAny_call_defAt (binds := (("self" : Str), Value.ref a) :: ps.zip vs) hroom (X _ _ lk) rfl hlim (PySem.W.codeRec_of X hcd) rfl hbind Z.nc (fun y hy => ?_) (fun h0 hn0 hk => ?_) Z.co Z.ge Z.ki
  · rcases List.mem_cons.mp hy with rfl | hy
    · exact Z.loc _ (List.mem_cons_self ..)
    · exact Z.loc _ (List.mem_cons_of_mem _ (zin y hy))
  have X0 : K.In h0 := X.keeps hk
  have ns_ : ∀ {L : Addr} {m : Str → Option Value}, hp.Ns L m → h0.Ns L m := fun ⟨o, es, ep, e, d, r⟩ => ⟨o, es, ep, hk _ _ e, d, r⟩
  have hn2 : h0.Ns hp.objs.size (fun y => ((("self" : Str), Value.ref a) :: ps.zip vs).reverse.lookup y) := hn0
  have lself : ((("self" : Str), Value.ref a) :: ps.zip vs).reverse.lookup ("self" : Str) = some (.ref a) := by
    rw [List.reverse_cons, List.lookup_append]
    have : (ps.zip vs).reverse.lookup ("self" : Str) = none := by
      rw [List.lookup_eq_none_iff]
      intro y hy
      have := zin y (List.mem_reverse.mp hy)
      simp only [bne_iff_ne, ne_eq, beq_eq_false_iff_ne]
      intro z
      exact hns (z ▸ this)
    rw [this]
    simp [List.lookup]
  obtain ⟨pl, hev⟩ := hev (callEnv (PySem.W.ksFn "__init__" qual params (.Expr (.Call (.Attribute (.Call (.Name "super" p0) [] [] p1) "__init__" p2) es [] p4) p5 :: rest) scope dV kV doc pm an (.ref cda) ct cc) hp.objs.size fI) rfl
  refine ks_wpAt_execs_cons (ks_wpAt_Expr_any (ks_wpAt_MethodCall (pl := pl) ?_ hev) (hint _ rfl) (hsw _ rfl))
  refine ks_wpAt_super_base Z.ns Z.nk (by decide +kernel) rfl (X0 _ _ lk) rfl har rfl (X0 _ _ lcd) rfl hvs hfile htop ?_
  refine PySem.W.ks_loadName_global Z.ki Z.ns (PySem.Calls.loadGlobal_builtin (ns_ hg) (PySem.W.mg_none_of X hg S.gs) (ns_ hb) ((hbb _ (by decide +kernel)).trans (by first | rfl | kernel_rfl)) ⟨rfl, ?_⟩)
  refine wpAny_loadName_free Z.ki Z.nk rfl ⟨_, X0 _ _ lcc, rfl⟩ ?_
  rw [hars]
  refine wpAny_loadName_local Z.ki (Z.loc _ (List.mem_cons_self ..)) hn2 lself ?_
  refine ks_wpAny_isType_cls (X0 _ _ hC) rfl ⟨rfl, ?_⟩
  have hxa := hk _ _ hx
  refine ks_wpAny_call_super (X0 _ _ hC) rfl hxa rfl (fun c e => by cases e) (PySem.W.looks_mroIn X0 S.mro) (fun h1 e1 k1 => ?_)
  have X1 : K.In h1 := X0.keeps k1
  have I1 : PySem.W.InstAt h1 a (PySem.HandSPX.excO C t0) C none := ⟨k1 _ _ hxa, rfl, rfl, trivial⟩
  have hsup : PySem.W.alongIn K "__init__" ((((Value.ref C :: tl).dropWhile (· != .ref C)).drop 1)) = some (some (.builtin initId)) := by
    have := S.sup
    unfold PySem.W.ks_superIn at this
    rw [hcl] at this
    exact this
  refine PySem.W.kxs_getMethod TB.kxs e1 (PySem.W.looks_opaque X1 S.opq) (l₀ := .ref C :: tl) (fun A Q E s k q => wpAny_bind ((PySem.W.looks_clsIn X1 hcl) A _ E s k (wpAny_pure q))) rfl X1 hsup (I1.type.andThen (PySem.W.looks_subIn X1 S.subV)) (PySem.W.ks_ne X1 I1 hcl) (by decide +kernel) ?_
  refine PySem.W.kxs_callWith (i := initId) (x := a) (u := h1.objs.size) (hpl _) ?_
  have hk1 : ∀ b o, hp.get? b = some o → h1.get? b = some o := fun b o e => k1 _ _ (hk _ _ e)
  have hn3 : h1.Ns hp.objs.size (fun y => ((("self" : Str), Value.ref a) :: ps.zip vs).reverse.lookup y) := let ⟨o, es, ep, e, d, r⟩ := hn2; ⟨o, es, ep, k1 _ _ e, d, r⟩
  have hn4 : (h1.push (PySem.W.kxs_mw initId a)).Ns hp.objs.size (fun y => ((("self" : Str), Value.ref a) :: ps.zip vs).reverse.lookup y) := let ⟨o, es, ep, e, d, r⟩ := hn3; ⟨o, es, ep, Heap.get?_push_of_some _ e, d, r⟩
  obtain ⟨ex, exs, hex⟩ := hne (callEnv (PySem.W.ksFn "__init__" qual params (.Expr (.Call (.Attribute (.Call (.Name "super" p0) [] [] p1) "__init__" p2) es [] p4) p5 :: rest) scope dV kV doc pm an (.ref cda) ct cc) hp.objs.size fI)
  rw [hex]
  refine PySem.Calls.evalArgs_plain ?_
  rw [← hex]
  refine hargs _ _ hp.objs.size _ _ _ _ rfl rfl hn4 ⟨Heap.get?_push_at rfl rfl, ?_⟩
  show wpAny _ _ (call (.ref h1.objs.size) vs) _ _ _
  have kp : ∀ b o, h1.get? b = some o → (h1.push (PySem.W.kxs_mw initId a)).get? b = some o := fun b o e => Heap.get?_push_of_some _ e
  refine call_mwE TB (kp _ _ (X1 _ _ hC)) (kp _ _ (hk1 _ _ hx)) (Heap.get?_push_at rfl rfl) (by rw [sizeLine_eq]; omega) (fun h2 t1 k2 hx2 => ?_)
  have nC : C ≠ a := fun z => by have := X _ _ hC; rw [z, hx] at this; cases this
  have hL : hp.objs.size ≠ a := Nat.ne_of_gt (Heap.lt_size hx)
  have hn5 : h2.Ns hp.objs.size (fun y => ((("self" : Str), Value.ref a) :: ps.zip vs).reverse.lookup y) := by
    obtain ⟨o, es, ep, e, d, r⟩ := hn3
    exact ⟨o, es, ep, k2 _ _ hL (kp _ _ e), d, r⟩
  have k02 : ∀ b o, b ≠ a → hp.get? b = some o → h2.get? b = some o := fun b o nb e => k2 b o nb (kp _ _ (hk1 _ _ e))
  have hsz : hp.objs.size < h2.objs.size := let ⟨o, es, ep, e, d, r⟩ := hn5; Heap.lt_size e
  exact hrest h2 t1 _ _ _ _ rfl rfl (fun b o e => k02 b o (fun z => by rw [z, haK] at e; cases e) (X _ _ e)) hsz hn5 k02 hx2
end
end Ys
namespace Ys
open PySem PySem.Spec PyProof.Rows L2
section
variable {P : Program} {w : World} {K : PySem.W.Frag} {C fI a t0 : Addr} {A : Around} {R : Result → Shared → Prop} {fd : FuncData} {hp : Heap} {g : Array GenState} {d : Drawn} {t : Nat} {os : OsState} {B newId initId : String} {tl : List Value}
variable {qual x fld : Str} {params : Arguments} {scope : Scope} {p0 p1 p2 p3 p4 p5 p6 p7 p8 p9 : Pos} {mg mb : Str → Option Value} {v : Value}
theorem run_supE (S : SupE P K C fI B initId [fld] qual params (supBody x fld p0 p1 p2 p3 p4 p5 p6 p7 p8 p9) scope fd) (Z : SupZ ["self", x] params scope) (nd : (x == ("__debug__" : Str)) = false) (ne : ("self" : Str) ≠ x) (TB : BaseE B newId initId tl) (T : OexE K C newId tl)
    (X : K.In hp) (hg : hp.Ns mainGlobals mg) (hb : hp.Ns builtinsNs mb) (hbb : ∀ y : Str, y ≠ "__name__" → mb y = bootBuiltins y) (hlim : hp.NoLimit) (hroom : A.depth < recursionLimit)
    (hev : ∀ env : Env, env.scope = scope → ∃ pl : Sem Bool, eval (.Call (.Attribute (.Call (.Name "super" p0) [] [] p1) "__init__" p2) [.Name x p3] [] p4) env = (do
      let ov ← attributeBase (.Call (.Name "super" p0) [] [] p1) "__init__" env (eval (.Call (.Name "super" p0) [] [] p1) env)
      standAt p2.atName
      let (f, first) ← holding [ov] (getMethod ov "__init__" pl)
      callWith p4 f first (backTo p4 (starEach [.Name x p3] env)) []))
    (hint : ∀ env : Env, env.scope = scope → interactive env = false) (hsw1 : ∀ env : Env, env.scope = scope → swapsWith (.Call (.Attribute (.Call (.Name "super" p0) [] [] p1) "__init__" p2) [.Name x p3] [] p4) none p5.line env = pure false)
    (hsw2 : ∀ env : Env, env.scope = scope → swapsWith (.Name x p8) (some (.Attribute (.Name "self" p6) fld p7)) p9.line env = pure false)
    (htop : (P.main.scope.names.lookup ("super" : Str)).isSome = false)
    (haK : K.lookup a = none) (hx : hp.get? a = some (PySem.HandSPX.excO C t0)) (args : Args) (hbind : BindsTo ⟨hp, g, d, t, os⟩ fd args [("self", .ref a), (x, v)])
    (hR : ∀ h' tk dx t1, (∀ b o, b ≠ a → hp.get? b = some o → h'.get? b = some o) → hp.objs.size ≤ dx → dx ≠ a → h'.get? a = some ({ cls := .ref C, dict := some dx, data := .fields #[.ref t1, .none, .none, .none, .bool false, .none] } : Obj) →
      h'.Ns1 dx (fun y => if y = fld then some v else none) → R (.ok (.ret .none)) ⟨h', g, d, tk, os⟩) :
    codeAny (model P w) A (.call (.ref fI) args) R ⟨hp, g, d, t, os⟩ := by
  have lself : ((("self" : Str), Value.ref a) :: [x].zip [v]).reverse.lookup ("self" : Str) = some (.ref a) := by
    show List.lookup ("self" : Str) [(x, v), (("self" : Str), Value.ref a)] = _
    rw [List.lookup_cons, show (("self" : Str) == x) = false from by simpa using ne]
    simp [List.lookup]
  have lx : ((("self" : Str), Value.ref a) :: [x].zip [v]).reverse.lookup x = some v := by
    show List.lookup x [(x, v), (("self" : Str), Value.ref a)] = _
    rw [List.lookup_cons]
    simp
  have nx : scope.names.lookup x = some .local := Z.loc x (by simp)
  obtain ⟨nm, q, N, bs, sn, sub, ab, col, dd, k0, k1, k2, k3, k5, hC⟩ := T.cls
  have hcl : PySem.W.clsIn K C = some { name := nm, bases := bs, mro := .ref C :: tl, ns := N, qualname := q, hasDict := true, slotNames := sn, subclasses := sub, abstract := ab, collection := col, hasDel := false } := by unfold PySem.W.clsIn; rw [hC] <;> rfl
  refine sup_first (ps := [x]) (vs := [v]) S Z TB T X hg hb hbb hlim hroom hev (fun env => rfl) (fun env => ⟨_, _, rfl⟩) hint hsw1 htop rfl (by show 1 ≤ 100; decide) (by simpa using ne) (fun env hh L A t Q E hs hf hn hq => ?_) haK hx args hbind (fun h2 t1 tk env c E hs hf X2 hsz hn k02 hx2 => ?_)
  · subst hs
    subst hf
    refine PySem.Calls.spliced_cons ?_
    show wpAny _ _ (eval (.Name x p3) _) _ _ _
    exact PySem.ESX.ldL hn lx (wpAny_pure hq) Z.ki nx nd
  · subst hs
    have hL : hp.objs.size ≠ a := Nat.ne_of_gt (Heap.lt_size hx)
    rw [← hf] at hn
    refine ks_wpAt_execs_cons (ks_wpAt_Assign_Attr (wpAt_of_wpAny (PySem.ESX.ldL hn lx (PySem.ESX.ldL hn lself ?_ Z.ki (Z.loc _ (List.mem_cons_self ..)) (by decide)) Z.ki nx nd)) (hsw2 _ rfl))
    refine PySem.W.set_plain X2 (ox := PySem.HandSPX.excO C t1) (od := none) ⟨hx2, rfl, rfl, trivial⟩ T.sa ?_
    refine storeN TB X2 hx2 hcl rfl rfl (S.no _ (List.mem_cons_self ..)) (fun h3 tk3 dx k3 hd3 ne3 hx3 hn5 => ?_)
    refine wpAt_of_wpAny (wpAny_pure ?_)
    exact hR h3 tk3 dx t1 (fun b o nb e => k3 b o nb (k02 b o nb e)) (Nat.le_trans (Nat.le_of_lt hsz) hd3) ne3 hx3 hn5
theorem ok_supE {base : Heap} {CX : CXT} (S : SupE P K C fI B initId [fld] qual params (supBody x fld p0 p1 p2 p3 p4 p5 p6 p7 p8 p9) scope fd) (Z : SupZ ["self", x] params scope) (nd : (x == ("__debug__" : Str)) = false) (ne : ("self" : Str) ≠ x) (TB : BaseE B newId initId tl) (T : OexE K C newId tl)
    (hev : ∀ env : Env, env.scope = scope → ∃ pl : Sem Bool, eval (.Call (.Attribute (.Call (.Name "super" p0) [] [] p1) "__init__" p2) [.Name x p3] [] p4) env = (do
      let ov ← attributeBase (.Call (.Name "super" p0) [] [] p1) "__init__" env (eval (.Call (.Name "super" p0) [] [] p1) env)
      standAt p2.atName
      let (f, first) ← holding [ov] (getMethod ov "__init__" pl)
      callWith p4 f first (backTo p4 (starEach [.Name x p3] env)) []))
    (hint : ∀ env : Env, env.scope = scope → interactive env = false) (hsw1 : ∀ env : Env, env.scope = scope → swapsWith (.Call (.Attribute (.Call (.Name "super" p0) [] [] p1) "__init__" p2) [.Name x p3] [] p4) none p5.line env = pure false)
    (hsw2 : ∀ env : Env, env.scope = scope → swapsWith (.Name x p8) (some (.Attribute (.Name "self" p6) fld p7)) p9.line env = pure false)
    (htop : (P.main.scope.names.lookup ("super" : Str)).isSome = false) : FnOk P w K mg base CX 1 fI fd ["self", x] (spSup K C fld) := by
  refine ⟨fun vs H Q E h => ?_, fun A outer s H args us vs Q E hr e0 hbd r hsp => ?_⟩
  · obtain ⟨a, y, rfl, _⟩ := h
    rfl
  obtain ⟨a, y, rfl, ha, q⟩ := hsp
  obtain ⟨u1, u2, rfl, r1, r2⟩ := vals2 r
  obtain rfl : u1 = Value.ref a := r1
  obtain ⟨t0, hx⟩ := exo_at e0.hok ha
  have KX : K.In s.heap := e0.mod.kin.keeps fun b o e => (e0.bs b o e).1
  have haK : K.lookup a = none := by
    cases z : K.lookup a with
    | none => rfl
    | some o =>
      have := (e0.bs _ _ (e0.mod.kin _ _ z)).2
      rw [ha] at this
      cases this
  obtain ⟨mb, hmb, hbb⟩ := e0.mod.blt
  have ns_ : ∀ {L : Addr} {m : Str → Option Value}, base.Ns L m → s.heap.Ns L m := fun ⟨o, es, ep, e, d, r⟩ => ⟨o, es, ep, (e0.bs _ _ e).1, d, r⟩
  have lim : s.heap.NoLimit := e0.mod.nolimit.keeps fun b o e => (e0.bs b o e).1
  obtain ⟨hp, g, d, t, os⟩ := s
  refine run_supE S Z nd ne TB T KX (ns_ e0.mod.glob) (ns_ hmb) hbb lim hr.depth hev hint hsw1 hsw2 htop haK hx args hbd (fun h' tk dx t1 k hd ne hx' hn => ?_)
  have nH : H dx = none := e0.hok.fresh hd
  have old : ∀ {b : Addr} {o : Obj}, hp.get? b = some o → b ≠ dx := fun e z => absurd (Heap.lt_size (z ▸ e)) (Nat.not_lt.mpr hd)
  have sep : ∀ {b : Addr}, H b = none → b ≠ a := fun n z => by rw [z, ha] at n; cases n
  refine ⟨.non, upd (upd H dx (exd dx [(fld, y)])) a (exo a C (some dx)), rfl, e0.bare, ⟨fun b o e n _ _ => k b o (sep n) e, fun b o e n _ _ => ⟨o.slots, k b o (sep n) e⟩, fun b o e n _ => ?_, fun b o e _ => ?_, fun b xs e => ?_, fun b o u e => ?_, fun b ps e => ?_⟩, fun b o e => ?_, rfl, q dx nH ne⟩
  · rw [upd_ne (sep n), upd_ne (old e)]
    exact n
  · by_cases c : b = a
    · exact ⟨_, by rw [c]; exact hx'⟩
    · exact ⟨o, k b o c e⟩
  · rw [upd_ne (at_ne ha e exo_tup), upd_ne (ne_of_none e nH)]
    exact e
  · rw [upd_ne (at_ne ha e exo_frz), upd_ne (ne_of_none e nH)]
    exact e
  · exact ⟨#[], by rw [upd_ne (at_ne ha e exo_tbl), upd_ne (ne_of_none e nH), e]; simp⟩
  · by_cases c : b = a
    · subst c
      rw [upd_same] at e
      cases e
      exact exo_ok hx'
    rw [upd_ne c] at e
    by_cases c2 : b = dx
    · subst c2
      rw [upd_same] at e
      cases e
      exact exd_ok hn (relO_put (fs := []) r2 fun _ => True.intro)
    rw [upd_ne c2] at e
    refine (e0.hok b o e).stay (fun c' v' hc z => k c' v' ?_ z) (fun c' hc => ?_) (fun c' xs hc => ?_)
    · rcases hc with hc | hc
      · rw [hc]; exact c
      · exact at_ne ha hc exo_own
    · rw [upd_ne (at_ne ha hc exo_own), upd_ne (ne_of_none hc nH)]
      exact hc
    · rw [upd_ne (at_ne ha hc exo_tup), upd_ne (ne_of_none hc nH)]
      exact hc
end
end Ys
/-! raise C(e), C an own class below any of the errors -/
namespace Ys
open PySem PySem.Spec PyProof.Rows L2
structure ExcG (P : Program) (w : World) (K : PySem.W.Frag) (mg : Str → Option Value) (base : Heap) (C : Addr) (x fld : Str) : Prop where
  T : ∃ B newId initId tl, BaseE B newId initId tl ∧ OexE K C newId tl
  ex : ∃ fI fd pn, PySem.W.findIn K (.ref C) "__init__" = some (some (.ref fI)) ∧ PySem.W.typeIn K (.ref fI) = some (.type "function") ∧ FnOk P w K mg base CX0 1 fI fd ["self", pn] (spSup K C fld) ∧ Binds K fd ["self", pn] []
  gC : mg x = some (.ref C)
section
variable {X : Cx} {ta : TA} {e : Expr} {es : List Expr} {p pos pos' : Pos} {C : Addr} {te : TE} {W : WX} {fld : Str}
theorem pmk_any {CX : CXT} {x : Str} {fI : Addr} {k : Nat} {fd : FuncData} {ps : List Str} {sp : Sp} {ds : List Value} {dvs : List V} {B newId initId : String} {tl : List Value} (TB : BaseE B newId initId tl) (T : OexE X.K C newId tl) (iC : PySem.W.findIn X.K (.ref C) "__init__" = some (some (.ref fI))) (tI : PySem.W.typeIn X.K (.ref fI) = some (.type "function"))
    (F1 : FnOk X.prog X.w X.K X.mg X.base CX k fI fd ps sp) (hr : Room (k + 1) X.A) (hb : Binds X.K fd ps ds) (hd : Vals dvs ds) (hx : Passes CX X (fun _ _ _ => False)) (hg : Gl X x) (hm : X.mg x = some (.ref C)) (ha : PA X (e :: es) ta)
    (hdb : (x == ("__debug__" : Str)) = false := by decide) (he : starEach (e :: es) X.env = (false, eval e X.env) :: starEach es X.env := by rfl) (hpl : (backTo pos (starEach es X.env)).any (·.1) = false := by rfl) :
    PMk X (.Call (.Name x p) (e :: es) [] pos) (tMkO C sp dvs ta) := by
  intro pins s σ H Q I h
  obtain ⟨nm, q, N, bs, sn, sub, ab, col, dd, k0, k1, k2, k3, k5, hC⟩ := T.cls
  refine wpAny_Call_Name_kw (ld_glob I hg hm ?_ hdb)
  refine PySem.W.callWith_K (h₀ := X.base) I.ok.mod.kin T.kC (thn (ha.run pos pins s σ H _ I h) fun us s1 ⟨vs, H1, I1, r1, hz, q1⟩ => ⟨I1.kIn, ?_⟩) he hpl
  obtain ⟨hp, g, dr, tk, os⟩ := s1
  have hsz : hp.objs.size ≤ hp.objs.size + 1 := Nat.le_succ _
  have hq := q1 (hp.objs.size + 1) (I1.hok.fresh hsz)
  have kk : ∀ b o, hp.get? b = some o → ((hp.push (PySem.W.kdv_tup us)).push (PySem.HandSPX.excO C hp.objs.size)).get? b = some o := fun b o e => Heap.get?_push_of_some _ (Heap.get?_push_of_some _ e)
  have I2 : Inv X pins σ (upd H1 (hp.objs.size + 1) (exo (hp.objs.size + 1) C none)) ⟨(hp.push (PySem.W.kdv_tup us)).push (PySem.HandSPX.excO C hp.objs.size), g, dr, tk, os⟩ :=
    I1.laid (t' := tk) (a := hp.objs.size + 1) (o := exo (hp.objs.size + 1) C none) (h' := (hp.push (PySem.W.kdv_tup us)).push (PySem.HandSPX.excO C hp.objs.size)) kk hsz (exo_ok (by heap_get))
  have r2 : Vals (V.ref (hp.objs.size + 1) :: (vs ++ dvs)) (Value.ref (hp.objs.size + 1) :: (us ++ ds)) := .cons rfl (r1.append hd)
  have hl : (Value.ref (hp.objs.size + 1) :: us ++ ds).length = ps.length := by
    have e := r2.length
    rw [F1.len _ _ _ _ hq] at e
    exact e.symm
  have hus : us.length ≤ sizeLine := by
    rw [← Paired.length r1, sizeLine_eq]
    omega
  refine wpAny_call (callE TB.base (I1.kIn _ _ hC) (PySem.W.looks_findIn I1.kIn iC) (fun self => PySem.W.bind_fn I1.kIn self tI) hus
    (codeAny_mono (F1.run _ X.stack _ _ ⟨Value.ref (hp.objs.size + 1) :: us, []⟩ (Value.ref (hp.objs.size + 1) :: (us ++ ds)) _ _ (fun _ _ _ => False) (hr.make C us []) (I2.env0.make C us []) (hb _ (Value.ref (hp.objs.size + 1) :: us) I2.kIn hl) r2 hq) fun r s' hq' => ?_))
  match r, hq' with
  | .error er, hq' => exact hx pins σ _ _ er s' I2 hq'
  | .ok (.ret u), hq' =>
    obtain ⟨v, H2, os2, bare2, un2, hok2, rv, ev, d, fs, ea, ed, hd1, q2⟩ := hq'
    subst ev
    obtain ⟨h2, g2, d2, t2, os'⟩ := s'
    exact ⟨rv, mk_end (raises_own T.exC T.tyC) I1 hsz kk un2 hok2 os2 bare2 ea ed hd1 q2⟩
  | .ok .next, hq' => exact hq'.elim
  | .ok .brk, hq' => exact hq'.elim
  | .ok .cont, hq' => exact hq'.elim
theorem ps_rsG {x : Str} (S : ExcG X.prog X.w X.K X.mg X.base C x fld) (hc : X.calm = true) (tk : Takes X W) (hr : Room 2 X.A) (hg : Gl X x) (he : PE X e te)
    (hdb : (x == ("__debug__" : Str)) = false := by decide) (hst : starEach [e] X.env = (false, eval e X.env) :: starEach [] X.env := by rfl) (hpl : (backTo pos (starEach [] X.env)).any (·.1) = false := by rfl) :
    PS X (.Raise (some (.Call (.Name x p) [e] [] pos)) none pos') (sRs X.K C fld te W) := by
  obtain ⟨B, newId, initId, tl, TB, T⟩ := S.T
  obtain ⟨fI, fd, pn, iC, tI, F, hb⟩ := S.ex
  exact ps_raise hc tk (pmk_any (ta := tCons te tNil) TB T iC tI F hr hb .nil pass0 hg S.gC (pa_cons he pa_nil hst) hdb hst hpl)
end
end Ys
namespace Ys
open PySem PySem.Spec PyProof.Rows L2
/-! ### x in a tuple of data -/
def rInT (K : PySem.W.Frag) : R2 := fun x y H Q => ∃ d ds, Dt K H x d ∧ Dt K H y (.tuple ds) ∧ SeqAt.shaped d = true ∧ PyData.canLayAll0 ds = true ∧ Q (.bl (ds.any fun z => PyData.eqv z d)) H
theorem op_inT {X : Cx} (S : SysIn X.K) (hu : X.A.units + 128 < cLine) : OpR X (compareOp .In) (rInT X.K) := fun pins s σ H x y v u Q I rx ry h => by
  obtain ⟨d, ds, hd, he, sd, se, q⟩ := h
  obtain ⟨as, r1, _⟩ := Dt.reads I S d x v hd rx
  obtain ⟨bs, r2, _⟩ := Dt.reads I S _ y u he ry
  have h1 := SeqAt.depth_of_shaped sd
  have h2 : min (PyData.depthAll ds) d.depth ≤ d.depth := Nat.min_le_right _ _
  exact SeqAt.in_tuple_reads r2 r1 se (SeqAt.canLay_of_shaped sd) (by omega) ⟨V.bl _, H, I, rfl, q⟩
theorem k_inT {X : Cx} {K : PySem.W.Frag} (S : SysIn K) (hu : X.A.units + 128 < cLine) (e : X.K = K := by rfl) : OpR X (compareOp .In) (rInT K) := by
  subst e
  exact op_inT S hu
theorem room128 {k : Nat} {A : Around} (r : Room k A) : A.units + 128 < cLine := by have := r.un; omega
end Ys
namespace Ys
open PySem PySem.Spec PyProof.Rows L2
/-! ### an own error made as a value -/
structure MkE (P : Program) (w : World) (K : PySem.W.Frag) (mg : Str → Option Value) (base : Heap) (CX : CXT) (k : Nat) (C : Addr) (x : Str) (n : Nat) (ks : List Str) (gV : List V → List V → List V) (sp : Sp) : Prop where
  ex : ∃ f fd ps g, PySem.W.findIn K (.ref C) "__init__" = some (some (.ref f)) ∧ PySem.W.typeIn K (.ref f) = some (.type "function") ∧ FnOk P w K mg base CX k f fd ps sp ∧ mg x = some (.ref C) ∧ KBn K fd ps (n + 1) ks g gV
  cl : ∃ B newId initId tl, BaseE B newId initId tl ∧ OexE K C newId tl
section
variable {X : Cx} {CX : CXT} {k n m : Nat} {C : Addr} {x : Str} {ks : List Str} {gV : List V → List V → List V} {sp : Sp} {E : XK} {t tk : TA} {p pos : Pos} {e : Expr} {es : List Expr} {kws : List Keyword} {G H : Hp} {M : List (Addr × HO)} {σ : L2.St} {Q : VK} {vs zs : List V}
def MkEW (C : Addr) (n m : Nat) (sp : Sp) (gV : List V → List V → List V) (E : XK) (vs zs : List V) (H2 : Hp) (Q : VK) : Prop := vs.length = n ∧ zs.length = m ∧ n ≤ 1000 ∧ ∀ a, H2 a = none → sp (gV (.ref a :: vs) zs) (upd H2 a (exo a C none)) (fun v H3 => v = .non ∧ Q (.ref a) H3) E
def tMkE (C : Addr) (n m : Nat) (sp : Sp) (gV : List V → List V → List V) (E : XK) (t tk : TA) : TE := fun σ H Q => t σ H fun vs H1 => tk σ H1 fun zs H2 => MkEW C n m sp gV E vs zs H2 Q
theorem made_end {pins : List (Addr × Obj)} {s2 : Shared} {us ws : List Value} {Rr : Result → Shared → Prop} (R : MkE X.prog X.w X.K X.mg X.base CX k C x n ks gV sp) (hr : Room (k + 1) X.A) (hx : Passes CX X E) (I2 : Inv X pins σ H s2) (r : Vals vs us) (rz : Vals zs ws) (q2 : MkEW C n ks.length sp gV E vs zs H Q)
    (hok : ∀ u v H' s', Inv X pins σ H' s' → RelV v u → Q v H' → Rr (.ok (.ret u)) s') (her : ∀ e s', X.xe e s' → Rr (.error e) s') : codeAny (model X.prog X.w) X.A (.call (.ref C) ⟨us, ks.zip ws⟩) Rr s2 := by
  obtain ⟨f, fd, ps, g, iC, tI, F, hm, hb⟩ := R.ex
  obtain ⟨B, newId, initId, tl, TB, T⟩ := R.cl
  obtain ⟨nm, q, N, bs, sn, sub, ab, col, dd, k0, k1, k2, k3, k5, hC⟩ := T.cls
  obtain ⟨l1, l2, ln, q2⟩ := q2
  obtain ⟨hp, gn, dr, tk, os⟩ := s2
  have hsz : hp.objs.size ≤ hp.objs.size + 1 := Nat.le_succ _
  have hn : H (hp.objs.size + 1) = none := I2.hok.fresh hsz
  have hq := q2 (hp.objs.size + 1) hn
  have kk : ∀ b o, hp.get? b = some o → ((hp.push (PySem.W.kdv_tup us)).push (PySem.HandSPX.excO C hp.objs.size)).get? b = some o := fun b o e => Heap.get?_push_of_some _ (Heap.get?_push_of_some _ e)
  have hget : ((hp.push (PySem.W.kdv_tup us)).push (PySem.HandSPX.excO C hp.objs.size)).get? (hp.objs.size + 1) = some (PySem.HandSPX.excO C hp.objs.size) := by heap_get
  have J : Inv X pins σ (upd H (hp.objs.size + 1) (exo (hp.objs.size + 1) C none)) ⟨(hp.push (PySem.W.kdv_tup us)).push (PySem.HandSPX.excO C hp.objs.size), gn, dr, tk, os⟩ :=
    I2.laid (t' := tk) (a := hp.objs.size + 1) (o := exo (hp.objs.size + 1) C none) (h' := (hp.push (PySem.W.kdv_tup us)).push (PySem.HandSPX.excO C hp.objs.size)) kk hsz (exo_ok hget)
  have ra : Vals (V.ref (hp.objs.size + 1) :: vs) (Value.ref (hp.objs.size + 1) :: us) := .cons rfl r
  have na : (Value.ref (hp.objs.size + 1) :: us).length = n + 1 := by rw [List.length_cons, ← r.length, l1]
  have hus : us.length ≤ sizeLine := by
    rw [← r.length, l1, sizeLine_eq]
    omega
  refine callE TB.base (I2.kIn _ _ hC) (PySem.W.looks_findIn I2.kIn iC) (fun self => PySem.W.bind_fn I2.kIn self tI) hus
    (codeAny_mono (F.run _ X.stack _ _ ⟨Value.ref (hp.objs.size + 1) :: us, ks.zip ws⟩ (g (Value.ref (hp.objs.size + 1) :: us) ws) _ _ E (hr.make C us (ks.zip ws)) (J.env0.make C us (ks.zip ws))
      (hb.to _ _ ws J.kIn na (rz.length.symm.trans l2)) (hb.rel ra rz) hq) fun rr s' hz => ?_)
  match rr, hz with
  | .error er, hz => exact her er s' (hx pins σ _ _ er s' J hz)
  | .ok (.ret u), hz =>
    obtain ⟨v, H', I3, rv, ev, q3⟩ := J.after hz
    subst ev
    exact ⟨rv, hok _ (V.ref (hp.objs.size + 1)) H' s' I3 rfl q3⟩
  | .ok .next, hz => exact hz.elim
  | .ok .brk, hz => exact hz.elim
  | .ok .cont, hz => exact hz.elim
theorem pe_mkE (R : MkE X.prog X.w X.K X.mg X.base CX k C x n ks gV sp) (hr : Room (k + 1) X.A) (hg : Gl X x) (hx : Passes CX X E) (ha : PA X (e :: es) t) (hkw : PK X kws tk)
    (hall : (backToKw pos (keywordEach kws X.env)).all (·.1.isSome) = true := by rfl) (hks : (backToKw pos (keywordEach kws X.env)).filterMap (·.1) = ks := by rfl) (hdb : (x == ("__debug__" : Str)) = false := by decide)
    (he : starEach (e :: es) X.env = (false, eval e X.env) :: starEach es X.env := by rfl) (hpl : ((backTo pos (starEach (e :: es) X.env)).any (·.1) || (backToKw pos (keywordEach kws X.env)).any (·.1.isNone)) = false := by rfl) :
    PE X (.Call (.Name x p) (e :: es) kws pos) (tMkE C n ks.length sp gV E t tk) := by
  have R0 := R
  obtain ⟨f, fd, ps, g, iC, tI, F, hm, hb⟩ := R.ex
  obtain ⟨B, newId, initId, tl, TB, T⟩ := R.cl
  refine ⟨fun pins s σ H Q I h => wpAny_Call_Name_kw (ld_glob I hg hm ?_ hdb)⟩
  refine PySem.W.callWith_KW (h₀ := X.base) I.ok.mod.kin T.kC hall (thn (ha.run pos pins s σ H _ I h) fun us s1 ⟨vs, H1, I1, r, q⟩ => ?_) hpl he
  refine thn (hkw.run pos pins s1 σ H1 _ I1 q) fun ws s2 ⟨zs, H2, I2, rz, l1, l2, q2⟩ => ⟨I2.kIn, ?_⟩
  rw [hks]
  exact wpAny_call (made_end R0 hr hx I2 r rz ⟨l1, l2, q2⟩ (fun u v H' s' I3 rv q3 => ⟨v, H', I3, rv, q3⟩) fun er s' z => z)
theorem pe_mkE0 (R : MkE X.prog X.w X.K X.mg X.base CX k C x 0 ks gV sp) (hr : Room (k + 1) X.A) (hg : Gl X x) (hx : Passes CX X E) (hkw : PK X kws tk)
    (hall : (backToKw pos (keywordEach kws X.env)).all (·.1.isSome) = true := by rfl) (hks : (backToKw pos (keywordEach kws X.env)).filterMap (·.1) = ks := by rfl) (hdb : (x == ("__debug__" : Str)) = false := by decide)
    (hpl : ((backTo pos (starEach [] X.env)).any (·.1) || (backToKw pos (keywordEach kws X.env)).any (·.1.isNone)) = false := by rfl) : PE X (.Call (.Name x p) [] kws pos) (tMkE C 0 ks.length sp gV E tNil tk) := by
  have R0 := R
  obtain ⟨f, fd, ps, g, iC, tI, F, hm, hb⟩ := R.ex
  obtain ⟨B, newId, initId, tl, TB, T⟩ := R.cl
  refine ⟨fun pins s σ H Q I h => wpAny_Call_Name_kw (ld_glob I hg hm ?_ hdb)⟩
  refine PySem.W.callWith_KW0 (h₀ := X.base) I.ok.mod.kin T.kC hall ?_ hpl
  refine thn (hkw.run pos pins s σ H _ I h) fun ws s2 ⟨zs, H2, I2, rz, l1, l2, q2⟩ => ⟨I2.kIn, ?_⟩
  rw [hks]
  exact wpAny_call (made_end (us := []) (vs := []) R0 hr hx I2 .nil rz ⟨l1, l2, q2⟩ (fun u v H' s' I3 rv q3 => ⟨v, H', I3, rv, q3⟩) fun er s' z => z)
theorem z_mkE (h : t σ H fun vs H1 => tk σ H1 fun zs H2 => MkEW C n m sp gV E vs zs H2 Q) : tMkE C n m sp gV E t tk σ H Q := h
theorem z_mkEI (z : Zp G M H) (l1 : vs.length = n) (l2 : zs.length = m) (ln : n ≤ 1000) (q : ∀ a, H a = none → sp (gV (.ref a :: vs) zs) (upd H a (exo a C none)) (fun v H3 => v = .non ∧ Q (.ref a) H3) E) : MkEW C n m sp gV E vs zs H Q := ⟨l1, l2, ln, q⟩
theorem z_mkE1 {fld : Str} {K : PySem.W.Frag} {y : V} (z : Zp G M H) (hg : gV (.ref (0 : Addr) :: vs) zs = [.ref (0 : Addr), y]) (hgv : ∀ a : Addr, gV (.ref a :: vs) zs = [.ref a, y]) (l1 : vs.length = n) (l2 : zs.length = m) (ln : n ≤ 1000)
    (q : ∀ a dx G1 H1, Zp G1 M H1 → Same G G1 → G1 a = some (exo a C (some dx)) → G1 dx = some (exd dx [(fld, y)]) → Q (.ref a) H1) : MkEW C n m (spSup K C fld) gV E vs zs H Q := by
  refine ⟨l1, l2, ln, fun a ha => ?_⟩
  refine ⟨a, y, hgv a, upd_same, fun dx hdx ne => ⟨rfl, ?_⟩⟩
  have hdx0 : H dx = none := by rw [upd_ne ne] at hdx; exact hdx
  have e1 : upd (upd (upd H a (exo a C none)) dx (exd dx [(fld, y)])) a (exo a C (some dx)) = upd (upd H dx (exd dx [(fld, y)])) a (exo a C (some dx)) := by
    funext b
    by_cases c : b = a
    · rw [c, upd_same, upd_same]
    · rw [upd_ne c, upd_ne c]
      by_cases c2 : b = dx
      · rw [c2, upd_same, upd_same]
      · rw [upd_ne c2, upd_ne c2, upd_ne c]
  rw [e1]
  have ha2 : upd H dx (exd dx [(fld, y)]) a = none := by rw [upd_ne (Ne.symm ne)]; exact ha
  have z1 := z.new hdx0 (exd dx [(fld, y)])
  have z2 := z1.new ha2 (exo a C (some dx))
  refine q a dx _ _ z2 ((Same.new (z.free hdx0)).trans (Same.new (z1.free ha2))) upd_same ?_
  rw [upd_ne ne, upd_same]
end
end Ys
namespace Ys
open PySem PySem.Spec PyProof.Rows L2
/-! ### what is asked of an error that is held as a value -/
def ErrAt (H : Hp) (a C : Addr) (fs : List (Str × V)) : Prop := ∃ dd, H a = some (exo a C (some dd)) ∧ H dd = some (exd dd fs)
theorem ErrAt.up {H H1 : Hp} {a C : Addr} {fs : List (Str × V)} (s : Same H H1) (h : ErrAt H a C fs) : ErrAt H1 a C fs := let ⟨dd, h1, h2⟩ := h; ⟨dd, s _ _ h1, s _ _ h2⟩
def rIsV (K : PySem.W.Frag) : List V → Hp → VK → Prop := fun xs H Q => ∃ (a C : Addr) (c : V) (cv : Value) (b : Bool), xs = [.ref a, c] ∧ ClsV c cv ∧ ExcC K C ∧ PySem.W.kitOne K (.ref C) cv = some b ∧ ((∃ fs, ErrAt H a C fs) ∨ H a = some (exo a C none)) ∧ Q (.bl b) H
section
variable {X : Cx} {K : PySem.W.Frag} {G H : Hp} {M : List (Addr × HO)} {σ : L2.St} {Q : VK}
theorem call_isV : CallR X (.builtin "isinstance") (rIsV X.K) := by
  intro pins s σ H xs us Q I r ⟨a, C, c, cv, b, e1, hc, T, e2, he, q⟩
  subst e1
  obtain ⟨u1, u2, rfl, r1, r2⟩ := vals2 r
  obtain rfl : u1 = Value.ref a := r1
  obtain rfl := hc.eq r2
  rcases he with ⟨fs, dd, h1, h2⟩ | h1
  · obtain ⟨t1, ho⟩ := exo_at I.hok h1
    obtain ⟨mA, hns, _⟩ := exd_at I.hok h2
    obtain ⟨od, hod, _⟩ := lookIn_ns hns
    have J : PySem.W.InstAt s.heap a { cls := .ref C, dict := some dd, data := .fields #[.ref t1, .none, .none, .none, .bool false, .none] } C (some od) := ⟨ho, rfl, rfl, hod⟩
    exact PySem.W.kia_one (kitx_exc T) I.kIn J e2 (fun z => nomatch z) fun tk => ⟨.bl b, H, I.kept (t' := tk) fun _ _ z => z, rfl, q⟩
  · obtain ⟨t1, ho⟩ := exo_at I.hok h1
    have J : PySem.W.InstAt s.heap a { cls := .ref C, dict := none, data := .fields #[.ref t1, .none, .none, .none, .bool false, .none] } C none := ⟨ho, rfl, rfl, trivial⟩
    exact PySem.W.kia_one (kitx_exc T) I.kIn J e2 (fun z => nomatch z) fun tk => ⟨.bl b, H, I.kept (t' := tk) fun _ _ z => z, rfl, q⟩
theorem k_isV (e : X.K = K := by rfl) : CallR X (.builtin "isinstance") (fun xs H Q => rIsiG K xs H Q ∨ rIsV K xs H Q) := e ▸ CallR.or c_isi call_isV
theorem z_isV {a C : Addr} {c : V} {cv : Value} {b : Bool} {fs : List (Str × V)} (z : Zp G M H) (hc : ClsV c cv) (T : ExcC K C) (e : PySem.W.kitOne K (.ref C) cv = some b) (h : ErrAt G a C fs) (q : Q (.bl b) H) : rIsiG K [.ref a, c] H Q ∨ rIsV K [.ref a, c] H Q :=
  .inr ⟨a, C, c, cv, b, rfl, hc, T, e, .inl ⟨fs, let ⟨dd, h1, h2⟩ := h; ⟨dd, z.sub _ _ h1, z.sub _ _ h2⟩⟩, q⟩
def EfW (K : PySem.W.Frag) (f : Str) (x : V) (H1 : Hp) (Q : VK) : Prop := ∃ (a C : Addr) (fs : List (Str × V)) (v : V), x = .ref a ∧ XfC K C ∧ PySem.W.findIn K (.ref C) f = some none ∧ ErrAt H1 a C fs ∧ fs.lookup f = some v ∧ Q v H1
def tEf (K : PySem.W.Frag) (f : Str) (te : TE) : TE := fun σ H Q => te σ H fun x H1 => EfW K f x H1 Q
theorem pe_ef {e : Expr} {te : TE} {pos : Pos} {f : Str} (he : PE X e te) (hb : attributeBase e f X.env (eval e X.env) = eval e X.env) (hK : X.K = K := by rfl) : PE X (.Attribute e f pos) (tEf K f te) := by
  subst hK
  refine ⟨fun pins s σ H Q I h => ?_⟩
  refine attr_of hb (thn (he.run pins s σ H _ I h) fun u s1 hh => ?_)
  obtain ⟨x, H1, I1, rx, a, C, fs, v, ex, T, no, ⟨dd, h1, h2⟩, l, q⟩ := hh
  subst ex
  obtain rfl : u = Value.ref a := rx
  obtain ⟨t1, ho⟩ := exo_at I1.hok h1
  obtain ⟨mA, hns, hr⟩ := exd_at I1.hok h2
  obtain ⟨od, hod, hl⟩ := lookIn_ns hns
  obtain ⟨u, hu, ru⟩ := RelO.some_of (v := v) (o := mA f) (by rw [← l]; exact hr f)
  have J : PySem.W.InstAt s1.heap a { cls := .ref C, dict := some dd, data := .fields #[.ref t1, .none, .none, .none, .bool false, .none] } C (some od) := ⟨ho, rfl, rfl, hod⟩
  exact HandSPX.exc_get I1.kIn J T.ga T.gg T.exC (PySem.W.findObj_own T.hdC no rfl (by rw [hl, hu])) (handed_of ru) ⟨v, H1, I1.tok _, ru, q⟩
theorem z_ef {te : TE} {f : Str} (h : te σ H fun x H1 => EfW K f x H1 Q) : tEf K f te σ H Q := h
theorem z_efI {a C : Addr} {fs : List (Str × V)} {v : V} {f : Str} (z : Zp G M H) (T : XfC K C) (no : PySem.W.findIn K (.ref C) f = some none) (h : ErrAt G a C fs) (l : fs.lookup f = some v) (q : Q v H) : EfW K f (.ref a) H Q :=
  ⟨a, C, fs, v, rfl, T, no, let ⟨dd, h1, h2⟩ := h; ⟨dd, z.sub _ _ h1, z.sub _ _ h2⟩, l, q⟩
end
end Ys
namespace Ys
open PySem PySem.Spec PyProof.Rows L2
/-! ### a def that asks repr, called by one that may -/
structure OwnG (P : Program) (w : World) (K : PySem.W.Frag) (mg : Str → Option Value) (base : Heap) (CX : CXT) (k : Nat) (x : Str) (ps : List Str) (sp : Sp) : Prop where
  ex : ∃ f fd, FnG P w K mg base CX k f fd ps sp ∧ mg x = some (.ref f) ∧ PySem.W.keepIn K (.ref f) = true ∧ Binds K fd ps []
theorem pe_ownG {X : Cx} {CX : CXT} {k : Nat} {x : Str} {ps : List Str} {sp : Sp} {E : XK} {p pos : Pos} {e : Expr} {es : List Expr} {t : TA} (C : OwnG X.prog X.w X.K X.mg X.base CX k x ps sp) (hgu : X.A.guards = some []) (hr : Room k X.A) (hg : Gl X x) (hx : Passes CX X E) (ha : PA X (e :: es) t)
    (hdb : (x == ("__debug__" : Str)) = false := by decide) (he : starEach (e :: es) X.env = (false, eval e X.env) :: starEach es X.env := by rfl) (hpl : (backTo pos (starEach es X.env)).any (·.1) = false := by rfl) :
    PE X (.Call (.Name x p) (e :: es) [] pos) (tCall sp [] E t) := by
  obtain ⟨f, fd, F, hm, hk, hb⟩ := C.ex
  refine ⟨fun pins s σ H Q I h => wpAny_Call_Name_kw (ld_glob I hg hm ?_ hdb)⟩
  refine PySem.W.callWith_K (h₀ := X.base) I.ok.mod.kin hk (thn (ha.run pos pins s σ H _ I h) fun us s1 ⟨vs, H1, I1, r, q⟩ => ⟨I1.kIn, ?_⟩) he hpl
  have r2 : Vals (vs ++ []) (us ++ []) := r.append .nil
  have hl : (us ++ []).length = ps.length := by rw [← r2.length]; exact F.len _ _ _ _ q
  refine wpAny_call (codeAny_mono (F.run X.A X.stack s1 H1 ⟨us, []⟩ (us ++ []) (vs ++ []) Q E hgu hr I1.env0 (hb s1 us I1.kIn hl) r2 q) fun rr s' hq => ?_)
  match rr, hq with
  | .error er, hq => exact hx pins σ H1 s1 er s' I1 hq
  | .ok (.ret u), hq => exact I1.after hq
  | .ok .next, hq => exact hq.elim
  | .ok .brk, hq => exact hq.elim
  | .ok .cont, hq => exact hq.elim
/-! ### an own error without an own __init__, made of nothing -/
def tNew0 (C : Addr) : TE := fun _ H Q => ∀ a, H a = none → Q (.ref a) (upd H a (exo a C none))
theorem pe_exc0 {X : Cx} {C : Addr} {bmB : List Value} {B newId initId : String} {x : Str} {p pos : Pos} (F : ExcBaseFacts B newId initId bmB) (q : PySem.W.excIn X.K C bmB newId = true) (gC : X.mg x = some (.ref C)) (kC : PySem.W.keepIn X.K (.ref C) = true) (hg : Gl X x)
    (hdb : (x == ("__debug__" : Str)) = false := by decide) : PE X (.Call (.Name x p) [] [] pos) (tNew0 C) := by
  refine ⟨fun pins s σ H Q I h => wpAny_Call_Name_kw (ld_glob I hg gC ?_ hdb)⟩
  refine PySem.W.callWith_K0 I.kIn kC ?_
  obtain ⟨bm, N, nm, qn, bs, hdct, sn, sub, ab, col, dd, k0, k1, k2, k3, k5, mN, hC, hN, hni, T⟩ := exc_obj I.kIn q
  refine wpAny_call_exc_subT F T hC hN hni (fun h' a hm => ?_) (by show 0 ≤ sizeLine; exact Nat.zero_le _)
  have hn : H a = none := I.hok.gone hm.new
  obtain ⟨t, ht, _, _⟩ := hm.there
  exact ⟨.ref a, upd H a (exo a C none), I.laidN hm.keeps hm.new hn (exo_ok ht), rfl, h a hn⟩
theorem z_new0 {C : Addr} {G H : Hp} {M : List (Addr × HO)} {σ : L2.St} {Q : VK} (z : Zp G M H) (q : ∀ a G1 H1, Zp G1 M H1 → Same G G1 → G1 a = some (exo a C none) → Q (.ref a) H1) : tNew0 C σ H Q :=
  fun a ha => q a _ _ (z.new ha _) (Same.new (z.free ha)) upd_same
end Ys
namespace Ys
open PySem PySem.Spec PyProof.Rows L2
/-! ### the Hook, with methods that say super() -/
theorem obC_eq {n : Nat} {fb : List (PySem.W.Frag → Bool)} {fn fc : List DefY} (s : PySem.W.SharedT) : obC n fb fn fc s = (hookC n fb fn fc).obs s.abs := by
  have e : HandSHeadRun.getT s = s.abs.heap.get? := funext (HandSHeadRun.getT_eq s)
  unfold obC
  rw [e]
  rfl
section
variable {fb : List (PySem.W.Frag → Bool)} {fn fc : List DefY} {K : PySem.W.Frag}
theorem SaysC.both (c : SaysC fb fn fc K) : SaysZ fb fn K ∧ (fc.map fun d => fnC K (d.ad K)) = fc.map DefY.val := by
  have h2 : (fn.map fun d => fnY K (d.ad K)) ++ (fc.map fun d => fnC K (d.ad K)) = fn.map DefY.val ++ fc.map DefY.val := congrArg Prod.snd c
  obtain ⟨h3, h4⟩ := List.append_inj h2 (by rw [List.length_map, List.length_map])
  have h1 : ((fb.all fun f => f K) && fn.all fun d => d.ok K) = true := congrArg Prod.fst c
  exact ⟨Prod.ext h1 h3, h4⟩
theorem SaysC.sup (c : SaysC fb fn fc K) (i : Nat) {d : DefY} (h : fc[i]? = some d := by rfl) : fnC K (d.ad K) = d.val := by
  have := congrArg (fun l : List He.FnW => l[i]?) c.both.2
  simp only [List.getElem?_map, h, Option.map_some] at this
  exact Option.some.inj this
end
/-! ### an own error's class -/
theorem oexB_ok {K : PySem.W.Frag} {C : Addr} (h : oexB K C = true) : ∃ nm q N bs bm sn sub ab col dd k0 k1 k2 k3 k5, K.lookup C = some (excClassObj nm q C N bs bm true sn sub ab col dd k0 k1 k2 k3 k5 "ValueError.__new__") ∧ PySem.HandSPX.refsVE bm = true := by
  unfold oexB at h
  split at h
  · rename_i t dd c sl look
    split at h
    · rename_i D bm k0 k1 k2 k3 m k5 hm hl
      obtain ⟨j, i⟩ := Bool.and_eq_true_iff.mp h
      obtain ⟨j1, j⟩ := Bool.and_eq_true_iff.mp j
      obtain ⟨j2, j3⟩ := Bool.and_eq_true_iff.mp j
      obtain ⟨i1, i⟩ := Bool.and_eq_true_iff.mp i
      obtain ⟨i2, i3⟩ := Bool.and_eq_true_iff.mp i
      have e1 := of_decide_eq_true j1
      have e2 := of_decide_eq_true j2
      have e3 := of_decide_eq_true j3
      obtain ⟨y1, y2, y3, y4, y5, y6, y7, y8, y9, y10, y11⟩ := c
      dsimp only at hm i2 i3
      have z3 : y11 = false := by cases y11 <;> simp_all
      have es : sl = #[k0, k1, k2, k3, some (.builtin m), k5] := Array.toList_inj.mp (by rw [hl])
      subst e1 e2 e3 hm es i2 z3
      exact ⟨y1, y5, y4, y2, bm, y7, y8, y9, y10, dd, k0, k1, k2, k3, k5, look, i1⟩
    · cases h
  · cases h
theorem oexA_ok {x : Str} {K : PySem.W.Frag} (h : oexA x K = true) : OexC K (He.ga K x) := by
  obtain ⟨h1, h⟩ := Bool.and_eq_true_iff.mp h
  obtain ⟨h2, h⟩ := Bool.and_eq_true_iff.mp h
  obtain ⟨h3, h⟩ := Bool.and_eq_true_iff.mp h
  obtain ⟨h4, h5⟩ := Bool.and_eq_true_iff.mp h
  exact { cls := oexB_ok h1, sa := of_decide_eq_true h2, exC := of_decide_eq_true h3, tyC := of_decide_eq_true h4, kC := h5 }
structure ExcA (K : PySem.W.Frag) (C : Addr) (fld : Str) : Prop where
  xf : XfC K C
  xc : ExcC K C
  no : PySem.W.findIn K (.ref C) fld = some none
  ex : PySem.W.exmOne K (.ref C) (.ref C) = some true
  kt : PySem.W.kitOne K (.ref C) (.type "ValueError") = some true
theorem excA_ok {x fld : Str} {K : PySem.W.Frag} (h : excA x fld K = true) : ExcA K (He.ga K x) fld := by
  obtain ⟨h1, h⟩ := Bool.and_eq_true_iff.mp h
  obtain ⟨h2, h⟩ := Bool.and_eq_true_iff.mp h
  obtain ⟨h3, h⟩ := Bool.and_eq_true_iff.mp h
  obtain ⟨h4, h⟩ := Bool.and_eq_true_iff.mp h
  obtain ⟨h5, h⟩ := Bool.and_eq_true_iff.mp h
  obtain ⟨h6, h⟩ := Bool.and_eq_true_iff.mp h
  obtain ⟨h7, h8⟩ := Bool.and_eq_true_iff.mp h
  have X := xfB_ok h1
  exact ⟨X, ⟨X.ga, X.gg, X.exC, X.hdC, of_decide_eq_true h2, of_decide_eq_true h3, of_decide_eq_true h4, of_decide_eq_true h5⟩, of_decide_eq_true h6, of_decide_eq_true h7, of_decide_eq_true h8⟩
/-! ### its __init__ -/
theorem fileB_ok {K : PySem.W.Frag} {cd : Value} {file : Str} (h : fileB K cd file = true) : ∃ a, cd = .ref a ∧ ∃ ccl cdd vs ccs z tf, K.lookup a = some ⟨ccl, cdd, .fields vs, ccs⟩ ∧ vs[2]? = some (.str z tf) ∧ (file == z) = true := by
  unfold fileB at h
  split at h
  · rename_i a
    split at h
    · rename_i c1 c2 vs c3 lk
      split at h
      · rename_i z tf hv
        exact ⟨a, rfl, c1, c2, vs, c3, z, tf, lk, hv, h⟩
      · cases h
    · cases h
  · cases h
theorem cloB_ok {K : PySem.W.Frag} {clo : List (Str × Addr)} {C : Addr} (h : cloB K clo C = true) : ∃ c, clo = [(("__class__" : Str), c)] ∧ ∃ cl cld csl, K.lookup c = some ⟨cl, cld, .cell (some (.ref C)), csl⟩ := by
  unfold cloB at h
  split at h
  · rename_i n c
    obtain ⟨h1, h2⟩ := Bool.and_eq_true_iff.mp h
    split at h2
    · rename_i c1 c2 D c3 lk
      have e1 := of_decide_eq_true h1
      have e2 := of_decide_eq_true h2
      subst e1 e2
      exact ⟨c, rfl, _, _, _, lk⟩
    · cases h2
  · cases h
theorem supA_ok {P : Program} {x fld : Str} {K : PySem.W.Frag} {d : DefY} (hf : d.ad K = cA x "__init__" K) (hn : d.name = "__init__") (e : fnC K (d.ad K) = d.val) (h : supA x d.qual fld P.main.file K = true) :
    ∃ fd, SupF P K (gA x K) (cA x "__init__" K) fld d.qual d.params d.body d.scope fd ∧ (∃ kV doc pm an cdv ct cc, fd = PySem.W.ksFn "__init__" d.qual d.params d.body d.scope .none kV doc pm an cdv ct cc) ∧
      PySem.W.findIn K (.ref (gA x K)) "__init__" = some (some (.ref (cA x "__init__" K))) ∧ PySem.W.typeIn K (.ref (cA x "__init__" K)) = some (.type "function") := by
  obtain ⟨h0, h⟩ := Bool.and_eq_true_iff.mp h
  obtain ⟨h1, h⟩ := Bool.and_eq_true_iff.mp h
  obtain ⟨h2, h⟩ := Bool.and_eq_true_iff.mp h
  obtain ⟨h3, h⟩ := Bool.and_eq_true_iff.mp h
  obtain ⟨h4, h⟩ := Bool.and_eq_true_iff.mp h
  obtain ⟨h5, h⟩ := Bool.and_eq_true_iff.mp h
  obtain ⟨h6, h⟩ := Bool.and_eq_true_iff.mp h
  obtain ⟨h7, h8⟩ := Bool.and_eq_true_iff.mp h
  rw [hf] at e
  split at h0
  · rename_i oc od g osl lk
    obtain ⟨j1, j⟩ := Bool.and_eq_true_iff.mp h0
    obtain ⟨j2, j⟩ := Bool.and_eq_true_iff.mp j
    obtain ⟨j3, j4⟩ := Bool.and_eq_true_iff.mp j
    obtain ⟨a, ha, jf⟩ := fileB_ok j2
    obtain ⟨c, hc, jc⟩ := cloB_ok j3
    have j4 := of_decide_eq_true j4
    unfold fnC at e
    rw [lk] at e
    obtain ⟨g1, g2, g3, g4, g5, g6, g7, g8, g9, g10, g11, g12, g13, g14, g15⟩ := g
    obtain ⟨i1, i2, i3, i4, i5, i6, i7⟩ : g1 = d.name ∧ g2 = d.qual ∧ g3 = d.params ∧ g4 = .stmts d.body ∧ g5 = d.scope ∧ g6 = mainGlobals ∧ g15 = builtinsNs := by
      have e' : (some (g1, g2, g3, g4, g5, g6, [], g15) : He.FnW) = some (d.name, d.qual, d.params, .stmts d.body, d.scope, mainGlobals, [], builtinsNs) := e
      simpa only [Option.some.injEq, Prod.mk.injEq, true_and] using e'
    have hc : g7 = [(("__class__" : Str), c)] := hc
    have ha : g13 = .ref a := ha
    have j4 : g8 = .none := j4
    rw [hn] at i1
    subst i1 i2 i3 i4 i5 i6 i7 hc ha j4
    exact ⟨_, ⟨⟨oc, od, osl, .none, g9, g10, g11, g12, a, g14, c, rfl, lk, j1, jf, jc⟩, of_decide_eq_true h1, of_decide_eq_true h2, of_decide_eq_true h3, of_decide_eq_true h4, of_decide_eq_true h5, of_decide_eq_true h6⟩, ⟨_, _, _, _, _, _, _, rfl⟩, of_decide_eq_true h7, of_decide_eq_true h8⟩
  · cases h0
end Ys
/-! an own operator that may raise, within what takes it; max of two ints -/
namespace Ys
open PySem PySem.Spec PyProof.Rows L2
section
variable {X : Cx} {n : Nat} {C f : Addr} {fd : FuncData} {ps : List Str} {sp : Sp} {W : WX} {op : Operator} {ta tb : TE} {a b : Expr} {pos : Pos} {σ : L2.St} {H : Hp} {Q : VK}
def tBinX (C : Addr) (sp : Sp) (W : WX) (ta tb : TE) : TE := fun σ H Q => ta σ H fun x H1 => tb σ H1 fun y H2 => rBinI C sp (WE W σ) x y H2 Q
theorem z_binX (h : ta σ H fun x H1 => tb σ H1 fun y H2 => rBinI C sp (WE W σ) x y H2 Q) : tBinX C sp W ta tb σ H Q := h
theorem pe_binX (F : FnOk X.prog X.w X.K X.mg X.base (L2.CX X.prog X.w) n f fd ps sp) (hs : PySem.W.findIn X.K (.ref C) (PySem.dunder op.info.2) = some (some (.ref f))) (hfn : PySem.W.isFn X.K (.ref f) = true) (hc : PySem.W.selfFirst X.K C = true) (hbd : Binds X.K fd ps []) (tk : Takes X W) (hr : Room n X.A)
    (ha : PE X a ta) (hb : PE X b tb) : PE X (.BinOp a op b pos) (tBinX C sp W ta tb) := by
  refine ⟨fun pins s σ H Q I h => ?_⟩
  refine wpAny_BinOp (binT ha hb I h fun v u s2 x y H2 I2 rx ry q => ?_)
  obtain ⟨c, dx, fs, b, dy, gs, rfl, ea, rfl, eb, q⟩ := q
  cases (show v = Value.ref c from rx)
  cases (show u = Value.ref b from ry)
  obtain ⟨mA, J, _⟩ := ins_get I2.hok ea
  obtain ⟨od, J, _⟩ := J.look
  obtain ⟨mB, JB, _⟩ := ins_get I2.hok eb
  obtain ⟨odB, JB, _⟩ := JB.look
  obtain ⟨m, hF⟩ := I2.fr
  refine PySem.W.binop_K hF I2.ok.mod.kin J JB.type hc hs hfn ?_
  have hl := F.len _ _ _ _ q
  refine wpAny_call (codeAny_mono (F.run X.A X.stack s2 H2 ⟨[.ref c, .ref b], []⟩ [.ref c, .ref b] [.ref c, .ref b] _ (WE W σ) hr I2.env0 (by
    have := hbd s2 [.ref c, .ref b] I2.kIn (by simpa using hl)
    simpa using this) (.cons rfl (.cons rfl .nil)) q) fun r s' hq => ?_)
  match r, hq with
  | .error e, hq => exact passAt tk σ pins H2 s2 e s' I2 hq
  | .ok (.ret w), hq =>
    obtain ⟨v, H1, I1, rv, ⟨c1, rfl⟩, q1⟩ := I2.after hq
    obtain rfl : w = Value.ref c1 := rv
    exact ⟨.ref c1, H1, I1, rfl, q1⟩
  | .ok .next, hq => exact False.elim hq
  | .ok .brk, hq => exact False.elim hq
  | .ok .cont, hq => exact False.elim hq
def rMax2 : List V → Hp → VK → Prop := fun xs H Q => ∃ i j, xs = [.int i, .int j] ∧ Q (.int (if j > i then j else i)) H
theorem c_max2 (hc : X.calm = true) : CallR X (.builtin "max") rMax2 := call_max2 hc
theorem z_max2 {i j : Int} (q : Q (.int (if j > i then j else i)) H) : rMax2 [.int i, .int j] H Q := ⟨i, j, rfl, q⟩
end
end Ys
namespace Ys
open PySem PySem.Spec PyProof.Rows L2
/-! ### a list grown by what a tuple holds -/
theorem grow_tup (l b : Addr) (xs ys : Array Value) (n m : Nat) (dd : Option Addr) (sl : Array (Option Value)) (h0 : ¬(!xs.isEmpty && Builtin.List.listTooLong (xs.size + ys.size)) = true) (h1 : xs.size ≤ sizeLine) (h2 : xs.size + ys.size ≤ sizeLine + 1) :
    Meets (Builtin.«list.extend» ⟨[.ref l, .ref b], []⟩) fun _ R s => s.heap.get? l = some { cls := .type "list", dict := none, data := .seq xs n, slots := #[] } ∧ s.heap.get? b = some { cls := .type "tuple", dict := dd, data := .seq ys m, slots := sl } ∧
      R (.ok (.ret Value.none)) { s with heap := s.heap.update l (Obj.mapSeq fun x => x ++ ys), toks := s.toks } := by
  refine .of_wp fun prog w A R s h => ?_
  obtain ⟨hp, g, d, tk, os⟩ := s
  obtain ⟨q1, q2, q3⟩ := h
  have g1 := F.sub_tuple_tuple
  have g2 := F.sub_list_list
  have g3 := F.sub_tuple_list
  have g4 := F.sub_list_tuple
  have zz : (xs ++ ys).size ≤ sizeLine + 1 := by
    rw [Array.size_append]
    exact h2
  wp_walk using (wpAny_updateSeq q1 rfl (hz := h1) (_hz' := zz)), PySem.AutoSeq1.wpAny_loadPart' q1, PySem.AutoSeq1.wpAny_loadPart' q2
  exact ⟨_, rfl, q3⟩
def rExtT (K : PySem.W.Frag) : V → List V → Hp → VK → Prop := fun x vs H Q => ∃ l b xs zs, x = .ref l ∧ vs = [.ref b] ∧ H l = some (.lst xs) ∧ SqT K H b zs ∧ xs.length + zs.length ≤ 100000 ∧ Q .non (upd H l (.lst (xs ++ zs)))
section
variable {X : Cx} {K : PySem.W.Frag} {P : Program} {w : World} {G G1 H : Hp} {M M1 : List (Addr × HO)} {σ : L2.St} {Q : VK} {QB : Bool → Hp → Prop} {QA : List V → Hp → Prop} {D : Ends} {ta te tb tv : TE} {tt : TT} {t tk : TA} {A B : Prop} {v x y : V} {i j : Int} {a b p : Addr} {xs ys vs zs : List V} {o : HO} {d : PyData}
theorem mt_extT : MtM X "list.extend" (rExtT X.K) := by
  intro pins s σ H x vs v us Q I rx rv h
  obtain ⟨l, b, xs, zs, e1, e2, hH, hB, hz, q⟩ := h
  subst e1 e2
  cases rx
  obtain ⟨u, rfl, ru⟩ := rv.one
  cases ru
  obtain ⟨z, its, n, r, hl, e⟩ := I.lstM hH
  obtain ⟨its2, r2, ⟨ob, e3, e4, m, e5⟩, hl2⟩ := I.tuple hB
  obtain ⟨oc, od, dt, sl⟩ := ob
  simp only at e4 e5
  subst e4 e5
  have e6 : xs.length + zs.length ≤ sizeLine := Nat.le_trans hz (by decide)
  have hsz : its.toArray.size + its2.toArray.size ≤ sizeLine := by rw [List.size_toArray, List.size_toArray, ← r.length, ← r2.length]; exact e6
  refine call_meets F.slot_list_extend ⟨_, e, rfl⟩ F.entry_list_extend (F.args_list_extend_2 _ _) (grow_tup l b its.toArray its2.toArray n m od sl (extend_door hsz) (by omega) (by omega)) ⟨e, e3, ?_⟩
  refine ⟨.non, _, I.lset (its' := its ++ its2) hH e (by simp) (r.append r2) ?_, rfl, q⟩
  rw [List.length_append]
  exact e6
theorem MtM.or {m : String} {r1 r2 : V → List V → Hp → VK → Prop} (h1 : MtM X m r1) (h2 : MtM X m r2) : MtM X m (fun x vs H Q => r1 x vs H Q ∨ r2 x vs H Q) := by
  intro pins s σ H x vs v us Q I rx rv h
  rcases h with h | h
  · exact h1 pins s σ H x vs v us Q I rx rv h
  · exact h2 pins s σ H x vs v us Q I rx rv h
theorem mt_ext2 (e : X.K = K := by rfl) : MtM X "list.extend" (fun x vs H Q => rExtend x vs H Q ∨ rExtT K x vs H Q) := by subst e; exact MtM.or mt_extend mt_extT
theorem z_extL (z : Zp G M H) (k : Nat) (e : M[k]? = some (a, .lst xs)) (h : H b = some (.lst ys)) (hl : xs.length + ys.length ≤ 100000) (q : ∀ H1, Zp G (M.set k (a, .lst (xs ++ ys))) H1 → Q .non H1) : rExtend (.ref a) [.ref b] H Q ∨ rExtT K (.ref a) [.ref b] H Q :=
  .inl ⟨a, b, xs, ys, rfl, rfl, z.at_ k e, h, Nat.le_trans hl (by decide), q _ (z.put k e _)⟩
theorem z_extT (z : Zp G M H) (k : Nat) (e : M[k]? = some (a, .lst xs)) (h : SqT K H b ys) (hl : xs.length + ys.length ≤ 100000) (q : ∀ H1, Zp G (M.set k (a, .lst (xs ++ ys))) H1 → Q .non H1) : rExtend (.ref a) [.ref b] H Q ∨ rExtT K (.ref a) [.ref b] H Q :=
  .inr ⟨a, b, xs, ys, rfl, rfl, z.at_ k e, h, hl, q _ (z.put k e _)⟩
theorem z_pop (z : Zp G M H) (k : Nat) (e : M[k]? = some (a, .lst (xs ++ [y]))) (q : ∀ H1, Zp G (M.set k (a, .lst xs)) H1 → Q y H1) : rPop (.ref a) [] H Q :=
  ⟨a, xs ++ [y], y, rfl, rfl, z.at_ k e, by simp, by rw [List.dropLast_concat]; exact q _ (z.put k e _)⟩
theorem z_reverse (z : Zp G M H) (k : Nat) (e : M[k]? = some (a, .lst xs)) (q : ∀ H1, Zp G (M.set k (a, .lst xs.reverse)) H1 → Q .non H1) : rReverse (.ref a) [] H Q :=
  ⟨a, xs, rfl, rfl, z.at_ k e, q _ (z.put k e _)⟩
theorem z_ixH (h : SqL K H a xs) (e : atI xs i = some v) (q : Q v H) : rIx K (.ref a) (.int i) H Q := .inl ⟨a, xs, i, v, rfl, rfl, h, e, q⟩
theorem z_ixTH (h : SqT K H a xs) (e : atI xs i = some v) (q : Q v H) : rIx K (.ref a) (.int i) H Q := .inr (.inl ⟨a, xs, i, v, rfl, rfl, h, e, q⟩)
theorem z_tupH (h : SqL K H a xs) (z : Zp G M H) (q : ∀ p G1 H1, Zp G1 M H1 → Same G G1 → SqT K G1 p xs → Q (.ref p) H1) : rTupG K [.ref a] H Q :=
  ⟨a, xs, rfl, .inl ⟨h, fun p hp => q p _ _ (z.new hp _) (Same.new (z.free hp)) (SqT.of upd_same)⟩⟩
/-! ### fewer that may change -/
theorem Zp.less (z : Zp G M H) (h : M1.Sublist M) : Zp G M1 H where
  sub := z.sub
  own := fun i q u e => by
    obtain ⟨j, hj⟩ := List.getElem?_of_mem (h.subset (List.mem_of_getElem? e))
    exact z.own j q u hj
  nd := z.nd.sublist (h.map _)
/-! ### a comprehension whose list may change -/
theorem lc_srcO {J : It} {g : TG} {ws : List Nat} {OK : Hp → Prop} (S : Src J xs OK) (I : Nat → Hp → List (Addr × HO) → List V → Prop) (z : Zp G M H) (h0 : I 0 G M []) (ok : ∀ i G M M1 acc H, I i G M acc → Zp G (M ++ M1) H → OK H)
    (turn : ∀ i x G M acc Dl H, xs[i]? = some x → I i G M acc → Zp G (M ++ [(Dl, .lst acc)]) H → g x (wipe σ ws) H fun σ2 H2 => wipe σ2 ws = wipe σ ws ∧ tt σ2 H2 fun b H3 =>
      Bif b (te σ2 H3 fun y H4 => Laid (I (i + 1)) Dl y H4) (Kept (I (i + 1)) Dl H3))
    (done : ∀ p G M acc H1, I xs.length G M acc → Zp G (M ++ [(p, .lst acc)]) H1 → Q (.ref p) H1) : LcW J g tt te ws σ H Q := by
  intro Dl hD
  refine ⟨fun i m H => m = xs.length - i ∧ i ≤ xs.length ∧ Kept (I i) Dl H, ⟨xs.length, by simp, Nat.zero_le _, G, M, [], z.add hD _, h0⟩, ?_⟩
  rintro i m H ⟨rfl, hi, G, M, acc, z, h⟩
  have o := ok i G M _ acc H h z
  by_cases c : i < xs.length
  · refine .inr ⟨S.go i H o c, Kept (I (i + 1)) Dl, fun H' q => ⟨xs.length - (i + 1), by omega, rfl, c, q⟩, fun x H' y => ?_⟩
    obtain ⟨e0, e⟩ := S.yld i H x H' o c y
    subst e0
    exact turn i x G M acc Dl H' e h z
  · have e0 : i = xs.length := by omega
    subst e0
    exact .inl ⟨S.stop _ H o (Nat.le_refl _), done Dl G M acc _ h z⟩
/-! ### x.f += an int -/
def FaW (K : PySem.W.Frag) (tv : TE) (rd : V → V → Hp → VK → Prop) (f : Str) (D : Ends) (σ : L2.St) (x : V) (H1 : Hp) : Prop := ∃ a C dx fs v, x = .ref a ∧ H1 a = some (.ins C dx fs) ∧ Cls K C ∧ NoAttr K C f ∧ fs.lookup f = some v ∧
  tv σ H1 fun y H2 => rd v y H2 fun z H3 => ∃ dx' fs', H3 a = some (.ins C dx' fs') ∧ fs'.length < 1000 ∧ D.nx σ (upd H3 a (.ins C dx' (putF f z fs')))
theorem z_fa {rd : V → V → Hp → VK → Prop} {f : Str} (h : ta σ H fun x H1 => FaW K tv rd f D σ x H1) : sFldAug K ta tv rd f D σ H := h
theorem z_faI {C dx : Addr} {fs : List (Str × V)} {f : Str} (z : Zp G M H) (k : Nat) (e : M[k]? = some (a, .ins C dx fs)) (c : Cls K C) (n : NoAttr K C f) (l : fs.lookup f = some (.int i)) (hl : fs.length < 1000) (q : ∀ H1, Zp G (M.set k (a, .ins C dx (putF f (.int (i + j)) fs))) H1 → D.nx σ H1) : FaW K (tC (.int j)) L2.rAdd f D σ (.ref a) H :=
  ⟨a, C, dx, fs, .int i, rfl, z.at_ k e, c, n, l, ⟨i, j, rfl, rfl, dx, fs, z.at_ k e, hl, q _ (z.put k e _)⟩⟩
/-! ### a field of what may change -/
theorem z_flO {C dx : Addr} {fs : List (Str × V)} {f : Str} (z : Zp G M H) (k : Nat) (e : M[k]? = some (a, .ins C dx fs)) (c : Cls K C) (n : NoAttr K C f) (l : fs.lookup f = some v) (q : Q v H) : FlW K f (.ref a) H Q := ⟨a, C, dx, fs, v, rfl, z.at_ k e, c, n, l, q⟩
/-! ### methods of what may change; they may raise -/
theorem z_mtO {C dx : Addr} {fs : List (Str × V)} {f : Str} (z : Zp G M H) (k : Nat) (e : M[k]? = some (a, .ins C dx fs)) (l : fs.lookup f = none) (q : A) : MtW C f (.ref a) H A := ⟨a, dx, fs, rfl, z.at_ k e, l, q⟩
def tMethS (C : Addr) (m : Str) (sp : Sp) (W : WX) (ta : TE) (t : TA) : TE := fun σ H Q => ta σ H fun x H1 => MtW C m x H1 (t σ H1 fun vs H2 => sp (x :: vs) H2 Q (WE W σ))
theorem z_mtS {C : Addr} {m : Str} {sp : Sp} {W : WX} (h : ta σ H fun x H1 => MtW C m x H1 (t σ H1 fun vs H2 => sp (x :: vs) H2 Q (WE W σ))) : tMethS C m sp W ta t σ H Q := h
theorem pe_mtX0 {k : Nat} {C : Addr} {m : Str} {ps : List Str} {sp : Sp} {W : WX} {e : Expr} {pos apos : Pos} {pl : Sem Bool} (R : Mth X.prog X.w X.K X.mg X.base (L2.CX X.prog X.w) k C m ps [] sp) (hr : Room k X.A) (tx : Takes X W) (he : PE X e ta)
    (ht : eval (.Call (.Attribute e m apos) [] [] pos) X.env = (do
      let ov ← eval e X.env
      standAt apos.atName
      let (f, first) ← holding [ov] (getMethod ov m pl)
      callWith pos f first (backTo pos (starEach [] X.env)) (backToKw pos (keywordEach [] X.env))) := by rfl) : PE X (.Call (.Attribute e m apos) [] [] pos) (tMethS C m sp W ta tNil) := by
  obtain ⟨f, fd, ds, hm, F, hb, hv⟩ := R.ex
  cases hv
  refine ⟨fun pins s σ H Q I h => ?_⟩
  refine PySem.W.methodCall_KW (pl := pl) (thn (he.run pins s σ H _ I h) fun u s1 ⟨x, H1, I1, rx, a, dx, fs, ex, ea, l, q⟩ => ?_) ht
  subst ex
  obtain rfl : u = Value.ref a := rx
  refine getmeth_ok I1 ea R.cl hm l ?_
  exact PySem.W.callWith_K0 (first := [.ref a]) I1.kIn hm.kp (run_fnS (σ := σ) (E := WE W) (us := [.ref a]) (vs := [.ref a]) F hr hb (passAt tx σ) I1 (.cons rfl .nil) q)
theorem pe_mtX {k : Nat} {C : Addr} {m : Str} {ps : List Str} {sp : Sp} {W : WX} {e e1 : Expr} {es : List Expr} {pos apos : Pos} {pl : Sem Bool} (R : Mth X.prog X.w X.K X.mg X.base (L2.CX X.prog X.w) k C m ps [] sp) (hr : Room k X.A) (tx : Takes X W) (he : PE X e ta) (ha : PA X (e1 :: es) t)
    (hst : starEach (e1 :: es) X.env = (false, eval e1 X.env) :: starEach es X.env := by rfl) (hpl : (backTo pos (starEach es X.env)).any (·.1) = false := by rfl)
    (ht : eval (.Call (.Attribute e m apos) (e1 :: es) [] pos) X.env = (do
      let ov ← eval e X.env
      standAt apos.atName
      let (f, first) ← holding [ov] (getMethod ov m pl)
      callWith pos f first (backTo pos (starEach (e1 :: es) X.env)) (backToKw pos (keywordEach [] X.env))) := by rfl) : PE X (.Call (.Attribute e m apos) (e1 :: es) [] pos) (tMethS C m sp W ta t) := by
  obtain ⟨f, fd, ds, hm, F, hb, hv⟩ := R.ex
  cases hv
  refine ⟨fun pins s σ H Q I h => ?_⟩
  refine PySem.W.methodCall_KW (pl := pl) (thn (he.run pins s σ H _ I h) fun u s1 ⟨x, H1, I1, rx, a, dx, fs, ex, ea, l, q⟩ => ?_) ht
  subst ex
  obtain rfl : u = Value.ref a := rx
  refine getmeth_ok I1 ea R.cl hm l ?_
  exact PySem.W.callWith_K (h₀ := X.base) (first := [.ref a]) I1.ok.mod.kin hm.kp (thn (ha.run pos pins s1 σ H1 _ I1 q) fun us s2 ⟨vs, H2, I2, r, q2⟩ => ⟨I2.kIn, run_fnS (σ := σ) (E := WE W) (us := .ref a :: us) (vs := .ref a :: vs) F hr hb (passAt tx σ) I2 (.cons rfl r) q2⟩) hst hpl
end
end Ys
/-! facts of the written part: setters, own items -/
namespace Ys
open PySem PySem.Spec PyProof.Rows L2
theorem fPset_ok {x m : Str} {K : PySem.W.Frag} (h : fPset x m K = true) : PropSet K (He.ga K x) m (sA x m K) := by
  obtain ⟨h1, h⟩ := Bool.and_eq_true_iff.mp h
  obtain ⟨h2, h4⟩ := Bool.and_eq_true_iff.mp h
  refine ⟨cA x m K, ?_⟩
  cases q : PySem.W.recIn K (cA x m K) "property" with
  | none => rw [q] at h4; cases h4
  | some l =>
    rw [q] at h4
    cases l with
    | nil => cases h4
    | cons v r =>
      cases r with
      | nil => cases h4
      | cons u r =>
        cases u with
        | ref g => exact ⟨v, r, of_decide_eq_true h1, of_decide_eq_true h2, by rw [of_decide_eq_true h4]⟩
        | _ => cases h4
end Ys
namespace Ys
open PySem PySem.Spec PyProof.Rows L2
/-! ### the Hook, with tables -/
theorem obCT_eq {n : Nat} {fb : List (PySem.W.Frag → Bool)} {fn fc : List DefY} {ts : List He.Tab} (s : PySem.W.SharedT) : obCT n fb fn fc ts s = (hookCT n fb fn fc ts).obs s.abs := by
  have e : HandSHeadRun.getT s = s.abs.heap.get? := funext (HandSHeadRun.getT_eq s)
  unfold obCT
  rw [e]
  rfl
section
variable {fb : List (PySem.W.Frag → Bool)} {fn fc : List DefY} {ts : List He.Tab} {w : World} {K : PySem.W.Frag}
theorem SaysCT.c (c : SaysCT fb fn fc ts w K) : SaysC fb fn fc K := congrArg (fun z : AlCT => z.1) c
theorem SaysCT.tab (c : SaysCT fb fn fc ts w K) (i : Nat) {t : He.Tab} (h : ts[i]? = some t := by rfl) : He.dicW K (t.1 K) = some (He.keysIn w.params t.2) := by
  have e : ts.map (fun t => He.dicW K (t.1 K)) = ts.map fun t => some (He.keysIn w.params t.2) := congrArg (fun z : AlCT => z.2) c
  have e2 : (ts.map fun t => He.dicW K (t.1 K))[i]? = (ts.map fun t => some (He.keysIn w.params t.2))[i]? := by rw [e]
  rw [List.getElem?_map, List.getElem?_map, h] at e2
  exact Option.some.inj e2
end
theorem lookup_mem {z : Str} {v : V} : ∀ {kvs : List (Str × V)}, kvs.lookup z = some v → (z, v) ∈ kvs
  | (k, x) :: r, h => by
    rw [List.lookup_cons] at h
    split at h
    · rename_i e
      have e := eq_of_beq e
      subst e
      rw [Option.some.inj h]
      exact List.mem_cons_self ..
    · exact List.mem_cons_of_mem _ (lookup_mem h)
theorem lookup_no {z : Str} : ∀ {kvs : List (Str × V)}, kvs.lookup z = none → z ∉ kvs.map (·.1)
  | [], _ => by simp
  | (k, x) :: r, h => by
    rw [List.lookup_cons] at h
    split at h
    · cases h
    · rename_i e
      have := lookup_no h
      simp only [List.map_cons, List.mem_cons, not_or]
      refine ⟨fun e2 => ?_, this⟩
      rw [e2, beq_self_eq_true] at e
      cases e
theorem keysLit_mem {P : Params} : ∀ {l : List DictEntry} {ks : List Str}, l.map He.keyOf = He.keysIn P ks → ∀ e ∈ l, ∃ x t, e.key = .str x t ∧ x ∈ ks
  | [], _, _, _, h => by cases h
  | e :: r, [], h, _, _ => by cases h
  | e :: r, k :: ks, h, e', he => by
    have h1 : He.keyOf e :: r.map He.keyOf = some (k, PyData.keyHash P k) :: He.keysIn P ks := h
    injection h1 with h2 h3
    rcases List.mem_cons.mp he with rfl | he
    · unfold He.keyOf at h2
      split at h2
      · rename_i x t q
        have h4 := Option.some.inj h2
        obtain ⟨h5, h6⟩ := Prod.mk.inj h4
        exact ⟨x, t, q, by rw [h5]; exact List.mem_cons_self ..⟩
      · cases h2
    · obtain ⟨x, t, q, m⟩ := keysLit_mem h3 e' he
      exact ⟨x, t, q, List.mem_cons_of_mem _ m⟩
theorem dicW_at {K : PySem.W.Frag} {w : World} {a : Addr} {ks : List Str} (h : He.dicW K a = some (He.keysIn w.params ks)) : ∃ es n, KDict K w a es n ∧ es.toList.map He.keyOf = He.keysIn w.params ks := by
  obtain ⟨es, n, D⟩ := He.dicW_ok h
  refine ⟨es, n, D, ?_⟩
  unfold He.dicW at h
  rw [D.at_] at h
  dsimp only at h
  split at h
  · exact Option.some.inj h
  · cases h
theorem tabD_of {K : PySem.W.Frag} {w : World} {a : PySem.W.Frag → Addr} {kvs : List (Str × V)} (h : He.dicW K (a K) = some (He.keysIn w.params (kvs.map (·.1)))) (hv : valsV kvs a K = true) : TabD K w (a K) kvs := by
  obtain ⟨es, n, D, hk⟩ := dicW_at h
  refine ⟨⟨es, n, D⟩, fun z v l => ?_, fun z l => ?_⟩
  · have h2 := List.all_eq_true.mp hv _ (lookup_mem l)
    cases e : PySem.W.nsIn K (a K) z with
    | none =>
      simp only [e] at h2
      cases h2
    | some r =>
      simp only [e] at h2
      cases r with
      | none => cases h2
      | some u => exact ⟨u, rfl, He.relB_ok h2⟩
  · have hn := lookup_no l
    unfold PySem.W.nsIn
    rw [D.at_]
    have f0 : es.toList.find? (·.key.isStr z) = none := by
      refine List.find?_eq_none.mpr fun e he c => ?_
      obtain ⟨x, t, q, m⟩ := keysLit_mem hk e he
      rw [q] at c
      have e2 : x = z := eq_of_beq (show (x == z) = true from c)
      exact hn (e2 ▸ m)
    have f1 : es.toList.any (·.refKey) = false := by
      refine Bool.eq_false_iff.mpr fun c => ?_
      obtain ⟨e, he, c⟩ := List.any_eq_true.mp c
      obtain ⟨x, t, q, m⟩ := keysLit_mem hk e he
      unfold DictEntry.refKey at c
      rw [q] at c
      cases c
    simp only [f0, f1]
    rfl
end Ys
/-! the Hook with tables, over all objects up to an address (the growing list of Hz costs too much memory for a top with many defs) -/
namespace Ys
open PySem PySem.Spec PyProof.Rows L2
theorem obRT_eq {n : Nat} {fb : List (PySem.W.Frag → Bool)} {fn fc : List DefY} {ts : List He.Tab} (s : PySem.W.SharedT) : obRT n fb fn fc ts s = (hookRT n fb fn fc ts).obs s.abs := by
  have e : HandSHeadRun.getT s = s.abs.heap.get? := funext (HandSHeadRun.getT_eq s)
  unfold obRT
  rw [e]
  rfl
end Ys
/-! facts of the written part: classmethods of plain classes -/
namespace Ys
open PySem PySem.Spec PyProof.Rows L2
theorem cread0 {K : PySem.W.Frag} {C : Addr} (h0 : PySem.W.readsIn K C (.type "type") = true) : ClX.CRead K C (.type "type") := by
  refine ⟨h0, ?_⟩
  have h := h0
  unfold PySem.W.readsIn at h
  obtain ⟨h, _⟩ := He.ba h
  obtain ⟨h, _⟩ := He.ba h
  obtain ⟨h, h3⟩ := He.ba h
  obtain ⟨_, h2⟩ := He.ba h
  unfold PySem.W.specialIn
  rw [beq_iff_eq.mp h2, Option.bind_some]
  exact beq_iff_eq.mp h3
theorem fKm_ok {x m : Str} {K : PySem.W.Frag} (h : fKm x m K = true) : ClX.CRead K (gA x K) (.type "type") ∧ ClX.CMet K (gA x K) (.type "type") m (He.ma K (gA x K) m) (kmA x m K) := by
  obtain ⟨h1, h⟩ := He.ba h
  obtain ⟨h2, h3⟩ := He.ba h
  exact ⟨cread0 h1, He5.cmet_of h2 h3⟩
end Ys
namespace Ys
open PySem PySem.Spec PyProof.Rows L2
/-! ### an own error's class below any base -/
theorem oexEB_ok {K : PySem.W.Frag} {C : Addr} {newId : String} {tl : List Value} (h : oexEB K C newId tl = true) : ∃ nm q N bs sn sub ab col dd k0 k1 k2 k3 k5, K.lookup C = some (excClassObj nm q C N bs tl true sn sub ab col dd k0 k1 k2 k3 k5 newId) := by
  unfold oexEB at h
  split at h
  · rename_i t dd c sl look
    split at h
    · rename_i D bm k0 k1 k2 k3 m k5 hm hl
      obtain ⟨j, i⟩ := Bool.and_eq_true_iff.mp h
      obtain ⟨j1, j⟩ := Bool.and_eq_true_iff.mp j
      obtain ⟨j2, j3⟩ := Bool.and_eq_true_iff.mp j
      obtain ⟨i1, i⟩ := Bool.and_eq_true_iff.mp i
      obtain ⟨i2, i3⟩ := Bool.and_eq_true_iff.mp i
      have e1 := of_decide_eq_true j1
      have e2 := of_decide_eq_true j2
      have e3 := of_decide_eq_true j3
      have e4 : bm = tl := eq_of_beq i1
      obtain ⟨y1, y2, y3, y4, y5, y6, y7, y8, y9, y10, y11⟩ := c
      dsimp only at hm i2 i3
      have z3 : y11 = false := by cases y11 <;> simp_all
      have es : sl = #[k0, k1, k2, k3, some (.builtin m), k5] := Array.toList_inj.mp (by rw [hl])
      subst e1 e2 e3 e4 hm es i2 z3
      exact ⟨y1, y5, y4, y2, y7, y8, y9, y10, dd, k0, k1, k2, k3, k5, look⟩
    · cases h
  · cases h
theorem oexEA_ok {x : Str} {newId : String} {tl : List Value} {K : PySem.W.Frag} (h : oexEA x newId tl K = true) : OexE K (gA x K) newId tl := by
  obtain ⟨h1, h⟩ := Bool.and_eq_true_iff.mp h
  obtain ⟨h2, h⟩ := Bool.and_eq_true_iff.mp h
  obtain ⟨h3, h⟩ := Bool.and_eq_true_iff.mp h
  obtain ⟨h4, h5⟩ := Bool.and_eq_true_iff.mp h
  exact ⟨oexEB_ok h1, of_decide_eq_true h2, of_decide_eq_true h3, of_decide_eq_true h4, h5⟩
theorem excX_ok {x : Str} {K : PySem.W.Frag} (h : excX x K = true) : XfC K (gA x K) ∧ ExcC K (gA x K) := by
  obtain ⟨h1, h⟩ := Bool.and_eq_true_iff.mp h
  obtain ⟨h2, h⟩ := Bool.and_eq_true_iff.mp h
  obtain ⟨h3, h⟩ := Bool.and_eq_true_iff.mp h
  obtain ⟨h4, h5⟩ := Bool.and_eq_true_iff.mp h
  have X := xfB_ok h1
  exact ⟨X, X.ga, X.gg, X.exC, X.hdC, of_decide_eq_true h2, of_decide_eq_true h3, of_decide_eq_true h4, of_decide_eq_true h5⟩
theorem supEA_ok {P : Program} {x : Str} {flds : List Str} {B initId : String} {K : PySem.W.Frag} {d : DefY} (hf : d.ad K = cA x "__init__" K) (hn : d.name = "__init__") (e : fnC K (d.ad K) = d.val) (h : supEA x d.qual flds B initId P.main.file K = true) :
    ∃ fd, SupE P K (gA x K) (cA x "__init__" K) B initId flds d.qual d.params d.body d.scope fd ∧ (∃ kV doc pm an cdv ct cc, fd = PySem.W.ksFn "__init__" d.qual d.params d.body d.scope .none kV doc pm an cdv ct cc) ∧
      PySem.W.findIn K (.ref (gA x K)) "__init__" = some (some (.ref (cA x "__init__" K))) ∧ PySem.W.typeIn K (.ref (cA x "__init__" K)) = some (.type "function") := by
  obtain ⟨h0, h⟩ := Bool.and_eq_true_iff.mp h
  obtain ⟨h1, h⟩ := Bool.and_eq_true_iff.mp h
  obtain ⟨h2, h⟩ := Bool.and_eq_true_iff.mp h
  obtain ⟨h3, h⟩ := Bool.and_eq_true_iff.mp h
  obtain ⟨h4, h⟩ := Bool.and_eq_true_iff.mp h
  obtain ⟨h5, h⟩ := Bool.and_eq_true_iff.mp h
  obtain ⟨h6, h⟩ := Bool.and_eq_true_iff.mp h
  obtain ⟨h7, h8⟩ := Bool.and_eq_true_iff.mp h
  rw [hf] at e
  split at h0
  · rename_i oc od g osl lk
    obtain ⟨j1, j⟩ := Bool.and_eq_true_iff.mp h0
    obtain ⟨j2, j⟩ := Bool.and_eq_true_iff.mp j
    obtain ⟨j3, j4⟩ := Bool.and_eq_true_iff.mp j
    obtain ⟨a, ha, jf⟩ := fileB_ok j2
    obtain ⟨c, hc, jc⟩ := cloB_ok j3
    have j4 := of_decide_eq_true j4
    unfold fnC at e
    rw [lk] at e
    obtain ⟨g1, g2, g3, g4, g5, g6, g7, g8, g9, g10, g11, g12, g13, g14, g15⟩ := g
    obtain ⟨i1, i2, i3, i4, i5, i6, i7⟩ : g1 = d.name ∧ g2 = d.qual ∧ g3 = d.params ∧ g4 = .stmts d.body ∧ g5 = d.scope ∧ g6 = mainGlobals ∧ g15 = builtinsNs := by
      have e' : (some (g1, g2, g3, g4, g5, g6, [], g15) : He.FnW) = some (d.name, d.qual, d.params, .stmts d.body, d.scope, mainGlobals, [], builtinsNs) := e
      simpa only [Option.some.injEq, Prod.mk.injEq, true_and] using e'
    have hc : g7 = [(("__class__" : Str), c)] := hc
    have ha : g13 = .ref a := ha
    have j4 : g8 = .none := j4
    rw [hn] at i1
    subst i1 i2 i3 i4 i5 i6 i7 hc ha j4
    exact ⟨_, ⟨⟨oc, od, osl, .none, g9, g10, g11, g12, a, g14, c, rfl, lk, j1, jf, jc⟩, of_decide_eq_true h1, of_decide_eq_true h2, of_decide_eq_true h3, of_decide_eq_true h4, fun f hf => of_decide_eq_true (List.all_eq_true.mp h5 f hf), of_decide_eq_true h6⟩, ⟨_, _, _, _, _, _, _, rfl⟩, of_decide_eq_true h7, of_decide_eq_true h8⟩
  · cases h0
end Ys
namespace LW
open PySem PySem.Spec PyProof.Rows L2 Ys
/-! ### names -/
structure Nm (K : PySem.W.Frag) (mg : Str → Option Value) : Prop where
  sys : SysIn K
  b_len : mg "len" = none
  b_int : mg "int" = none
  b_list : mg "list" = none
  b_tuple : mg "tuple" = none
  b_set : mg "set" = none
  b_dict : mg "dict" = none
  b_str : mg "str" = none
  b_bool : mg "bool" = none
  b_sorted : mg "sorted" = none
  b_min : mg "min" = none
  b_max : mg "max" = none
  b_sum : mg "sum" = none
  b_all : mg "all" = none
  b_any : mg "any" = none
  b_repr : mg "repr" = none
  b_range : mg "range" = none
  b_isinstance : mg "isinstance" = none
  g_LETTERS : GC mg "LETTERS" (.str "abcdefghijklmnopqrstuvwxyz")
  g_LONGEST_WORD : GC mg "LONGEST_WORD" (.int 8)
  g_MOST_PERSONS : GC mg "MOST_PERSONS" (.int 1000000000000000000000000000000)
abbrev FnP (K : PySem.W.Frag) (x : Str) (st : Stmt) (f : Addr) (fd : FuncData) : Prop := FunD K x x (defArgs st) (defBody st) (defScope st) [] [] f fd
/-! ### the defs -/
abbrev N_wall : List Str := ["k"]
theorem sc_wall : FnScope N_wall ["k"] (defScope s_wall) := ⟨rfl, rfl, rfl, by decide +kernel, rfl, by decide +kernel, by decide +kernel⟩
abbrev N_is_word : List Str := ["value", "letter"]
theorem sc_is_word : FnScope N_is_word ["value"] (defScope s_is_word) := ⟨rfl, rfl, rfl, by decide +kernel, rfl, by decide +kernel, by decide +kernel⟩
abbrev N_is_integer : List Str := ["value"]
theorem sc_is_integer : FnScope N_is_integer ["value"] (defScope s_is_integer) := ⟨rfl, rfl, rfl, by decide +kernel, rfl, by decide +kernel, by decide +kernel⟩
abbrev N_is_within : List Str := ["value", "least", "most"]
theorem sc_is_within : FnScope N_is_within ["value", "least", "most"] (defScope s_is_within) := ⟨rfl, rfl, rfl, by decide +kernel, rfl, by decide +kernel, by decide +kernel⟩
abbrev N_ascending : List Str := ["words"]
theorem sc_ascending : FnScope N_ascending ["words"] (defScope s_ascending) := ⟨rfl, rfl, rfl, by decide +kernel, rfl, by decide +kernel, by decide +kernel⟩
abbrev N_valid_numbers : List Str := ["numbers", "name"]
theorem sc_valid_numbers : FnScope N_valid_numbers ["numbers"] (defScope s_valid_numbers) := ⟨rfl, rfl, rfl, by decide +kernel, rfl, by decide +kernel, by decide +kernel⟩
abbrev N_Staff_init : List Str := ["self", "known", "numbers"]
theorem sc_Staff_init : FnScope N_Staff_init ["self", "known", "numbers"] (defScope s_Staff_init) := ⟨rfl, rfl, rfl, by decide +kernel, rfl, by decide +kernel, by decide +kernel⟩
abbrev N_Staff_of : List Str := ["cls", "numbers", "name"]
theorem sc_Staff_of : FnScope N_Staff_of ["cls", "numbers"] (defScope s_Staff_of) := ⟨rfl, rfl, rfl, by decide +kernel, rfl, by decide +kernel, by decide +kernel⟩
abbrev N_Staff_kinds : List Str := ["self"]
theorem sc_Staff_kinds : FnScope N_Staff_kinds ["self"] (defScope s_Staff_kinds) := ⟨rfl, rfl, rfl, by decide +kernel, rfl, by decide +kernel, by decide +kernel⟩
abbrev N_Staff_total : List Str := ["self"]
theorem sc_Staff_total : FnScope N_Staff_total ["self"] (defScope s_Staff_total) := ⟨rfl, rfl, rfl, by decide +kernel, rfl, by decide +kernel, by decide +kernel⟩
abbrev N_Staff_numbers : List Str := ["self"]
theorem sc_Staff_numbers : FnScope N_Staff_numbers ["self"] (defScope s_Staff_numbers) := ⟨rfl, rfl, rfl, by decide +kernel, rfl, by decide +kernel, by decide +kernel⟩
abbrev N_Staff_persons_of : List Str := ["self", "kind"]
theorem sc_Staff_persons_of : FnScope N_Staff_persons_of ["self", "kind"] (defScope s_Staff_persons_of) := ⟨rfl, rfl, rfl, by decide +kernel, rfl, by decide +kernel, by decide +kernel⟩
abbrev N_Staff_fits_in : List Str := ["self", "other", "kind"]
theorem sc_Staff_fits_in : FnScope N_Staff_fits_in ["self", "other"] (defScope s_Staff_fits_in) := ⟨rfl, rfl, rfl, by decide +kernel, rfl, by decide +kernel, by decide +kernel⟩
abbrev N_Staff_within : List Str := ["self", "limits", "kind", "limit"]
theorem sc_Staff_within : FnScope N_Staff_within ["self", "limits"] (defScope s_Staff_within) := ⟨rfl, rfl, rfl, by decide +kernel, rfl, by decide +kernel, by decide +kernel⟩
abbrev N_Staff_iter : List Str := ["self"]
theorem sc_Staff_iter : FnScope N_Staff_iter ["self"] (defScope s_Staff_iter) := ⟨rfl, rfl, rfl, by decide +kernel, rfl, by decide +kernel, by decide +kernel⟩
abbrev N_Staff_getitem : List Str := ["self", "kind"]
theorem sc_Staff_getitem : FnScope N_Staff_getitem ["self", "kind"] (defScope s_Staff_getitem) := ⟨rfl, rfl, rfl, by decide +kernel, rfl, by decide +kernel, by decide +kernel⟩
abbrev N_Staff_eq : List Str := ["self", "other"]
theorem sc_Staff_eq : FnScope N_Staff_eq ["self", "other"] (defScope s_Staff_eq) := ⟨rfl, rfl, rfl, by decide +kernel, rfl, by decide +kernel, by decide +kernel⟩
abbrev N_Staff_add : List Str := ["self", "other", "names", "name"]
theorem sc_Staff_add : FnScope N_Staff_add ["self", "other"] (defScope s_Staff_add) := ⟨rfl, rfl, rfl, by decide +kernel, rfl, by decide +kernel, by decide +kernel⟩
abbrev N_Staff_sub : List Str := ["self", "other", "name"]
theorem sc_Staff_sub : FnScope N_Staff_sub ["self", "other"] (defScope s_Staff_sub) := ⟨rfl, rfl, rfl, by decide +kernel, rfl, by decide +kernel, by decide +kernel⟩
abbrev N_Staff_or : List Str := ["self", "other", "names", "name"]
theorem sc_Staff_or : FnScope N_Staff_or ["self", "other"] (defScope s_Staff_or) := ⟨rfl, rfl, rfl, by decide +kernel, rfl, by decide +kernel, by decide +kernel⟩
abbrev N_Staff_and : List Str := ["self", "other", "name"]
theorem sc_Staff_and : FnScope N_Staff_and ["self", "other"] (defScope s_Staff_and) := ⟨rfl, rfl, rfl, by decide +kernel, rfl, by decide +kernel, by decide +kernel⟩
abbrev N_greater : List Str := ["one", "other"]
theorem sc_greater : FnScope N_greater ["one", "other"] (defScope s_greater) := ⟨rfl, rfl, rfl, by decide +kernel, rfl, by decide +kernel, by decide +kernel⟩
abbrev N_smaller : List Str := ["one", "other"]
theorem sc_smaller : FnScope N_smaller ["one", "other"] (defScope s_smaller) := ⟨rfl, rfl, rfl, by decide +kernel, rfl, by decide +kernel, by decide +kernel⟩
abbrev N_staff_with : List Str := ["numbers"]
theorem sc_staff_with : FnScope N_staff_with ["numbers"] (defScope s_staff_with) := ⟨rfl, rfl, rfl, by decide +kernel, rfl, by decide +kernel, by decide +kernel⟩
abbrev N_law_pen : List Str := ["_law_script"]
theorem sc_law_pen : FnScope N_law_pen ["_law_script"] (defScope s_law_pen) := ⟨rfl, rfl, rfl, by decide +kernel, rfl, by decide +kernel, by decide +kernel⟩
abbrev N_law_draw : List Str := ["_law_pen_here", "_law_size", "_law_spot", "_law_cell", "_law_mixed", "_law_digit"]
theorem sc_law_draw : FnScope N_law_draw ["_law_pen_here", "_law_size"] (defScope s_law_draw) := ⟨rfl, rfl, rfl, by decide +kernel, rfl, by decide +kernel, by decide +kernel⟩
abbrev N_law_pick : List Str := ["_law_pen_here", "_law_items"]
theorem sc_law_pick : FnScope N_law_pick ["_law_pen_here", "_law_items"] (defScope s_law_pick) := ⟨rfl, rfl, rfl, by decide +kernel, rfl, by decide +kernel, by decide +kernel⟩
abbrev N_law_words : List Str := ["_law_pen_here", "_law_count", "_law_letters", "_law_stem", "_law_found", "_law_k", "_law_at", "_law_front", "_law_step", "_law_tail", "_law_word"]
theorem sc_law_words : FnScope N_law_words ["_law_pen_here", "_law_count"] (defScope s_law_words) := ⟨rfl, rfl, rfl, by decide +kernel, rfl, by decide +kernel, by decide +kernel⟩
abbrev N_law_staff : List Str := ["_law_pen_here", "_law_words_here", "_law_word"]
theorem sc_law_staff : FnScope N_law_staff ["_law_pen_here", "_law_words_here"] (defScope s_law_staff) := ⟨rfl, rfl, rfl, by decide +kernel, rfl, by decide +kernel, by decide +kernel⟩
abbrev N_law_less : List Str := ["_law_one", "_law_second", "e"]
theorem sc_law_less : FnScope N_law_less ["_law_one", "_law_second"] (defScope s_law_less) := ⟨rfl, rfl, rfl, by decide +kernel, rfl, by decide +kernel, by decide +kernel⟩
abbrev N_law_plain : List Str := ["_law_numbers", "_law_word"]
theorem sc_law_plain : FnScope N_law_plain ["_law_numbers"] (defScope s_law_plain) := ⟨rfl, rfl, rfl, by decide +kernel, rfl, by decide +kernel, by decide +kernel⟩
abbrev N_law_within : List Str := ["_law_mine", "_law_caps", "_law_word"]
theorem sc_law_within : FnScope N_law_within ["_law_mine", "_law_caps"] (defScope s_law_within) := ⟨rfl, rfl, rfl, by decide +kernel, rfl, by decide +kernel, by decide +kernel⟩
abbrev N_law : List Str := ["_law_script", "_law_pen_here", "_law_lap", "_law_words_here", "_law_pairs", "_law_told", "_law_due", "_law_few", "_law_left", "_law_caps", "_law_mine", "_law_yours", "_law_one", "_law_second", "_law_word", "_law_a", "_law_b"]
theorem sc_law : FnScope N_law ["_law_script"] (defScope s_law) := ⟨rfl, rfl, rfl, by decide +kernel, rfl, by decide +kernel, by decide +kernel⟩
/-! ### the pen -/
def penO (L : Addr) (spot rest : Int) : HO := .dK [(.inr ("cells" : Str), .ref L), (.inr ("spot" : Str), .int spot), (.inr ("rest" : Str), .int rest)]
def Pen (K : PySem.W.Frag) (G : Hp) (b : Nat) (o : HO) : Prop := ∃ (L : Addr) (spot rest : Int) (cells : List Int), o = penO L spot rest ∧ SqL K G L (cells.map V.int) ∧ cells.length ≤ 63 ∧ 0 ≤ spot ∧ spot ≤ b ∧ 0 ≤ rest
theorem Pen.up {K : PySem.W.Frag} {G G1 : Hp} {b : Nat} {o : HO} (s : Same G G1) (p : Pen K G b o) : Pen K G1 b o := by
  obtain ⟨L, sp, r, cs, e, h, x⟩ := p
  exact ⟨L, sp, r, cs, e, upL s h, x⟩
theorem Pen.mono {K : PySem.W.Frag} {G : Hp} {b c : Nat} {o : HO} (h : b ≤ c) (p : Pen K G b o) : Pen K G c o := by
  obtain ⟨L, sp, r, cs, e, h1, h2, h3, h4, h5⟩ := p
  exact ⟨L, sp, r, cs, e, h1, h2, h3, by omega, h5⟩
theorem k_cr : ¬ (Sum.inr ("cells" : Str) : Key) = Sum.inr ("rest" : Str) := by decide +kernel
theorem k_sr : ¬ (Sum.inr ("spot" : Str) : Key) = Sum.inr ("rest" : Str) := by decide +kernel
theorem k_cs : ¬ (Sum.inr ("cells" : Str) : Key) = Sum.inr ("spot" : Str) := by decide +kernel
theorem k_sc : ¬ (Sum.inr ("spot" : Str) : Key) = Sum.inr ("cells" : Str) := by decide +kernel
theorem k_rs : ¬ (Sum.inr ("rest" : Str) : Key) = Sum.inr ("spot" : Str) := by decide +kernel
theorem k_rc : ¬ (Sum.inr ("rest" : Str) : Key) = Sum.inr ("cells" : Str) := by decide +kernel
section
variable {L : Addr} {spot rest x : Int} {H : Hp} {P : Addr} {Q : VK} {G : Hp} {M : List (Addr × HO)} {R : Hp → Prop}
abbrev pk (L : Addr) (spot rest : Int) : List (Key × V) := [(.inr ("cells" : Str), .ref L), (.inr ("spot" : Str), .int spot), (.inr ("rest" : Str), .int rest)]
theorem v_cells : valV (pk L spot rest) (.inr ("cells" : Str)) = some (.ref L) := valV_pos rfl
theorem v_spot : valV (pk L spot rest) (.inr ("spot" : Str)) = some (.int spot) := by rw [valV_neg k_cs]; exact valV_pos rfl
theorem v_rest : valV (pk L spot rest) (.inr ("rest" : Str)) = some (.int rest) := by rw [valV_neg k_cr, valV_neg k_sr]; exact valV_pos rfl
theorem p_spot : putK (pk L spot rest) (.inr ("spot" : Str)) (.int x) = pk L x rest := by
  have e1 : ¬ Str.ofString "cells" = Str.ofString "spot" := by decide +kernel
  have e2 : ¬ Str.ofString "rest" = Str.ofString "spot" := by decide +kernel
  simp [putK, e1, e2]
theorem p_rest : putK (pk L spot rest) (.inr ("rest" : Str)) (.int x) = pk L spot x := by
  have e1 : ¬ Str.ofString "cells" = Str.ofString "rest" := by decide +kernel
  have e2 : ¬ Str.ofString "spot" = Str.ofString "rest" := by decide +kernel
  simp [putK, e1, e2]
def DgW (x y : V) (H : Hp) (Q : VK) : Prop := ∃ a v, x = V.ref a ∧ DGet H a y (some v) ∧ Q v H
def DpW (x y v : V) (H : Hp) (R : Hp → Prop) : Prop := ∃ a H4, x = V.ref a ∧ DPut H a y v H4 ∧ R H4
theorem z_dg {ta tb : TE} {σ : L2.St} (h : ta σ H fun x H1 => tb σ H1 fun y H2 => DgW x y H2 Q) : tDGet ta tb σ H Q := h
theorem g_cells (z : Zp G ((P, penO L spot rest) :: M) H) (q : Q (.ref L) H) : DgW (.ref P) (.str ("cells" : Str)) H Q :=
  ⟨P, _, rfl, by have := DGet.k (k := .inr ("cells" : Str)) (z.at_ 0 rfl); rw [v_cells] at this; exact this, q⟩
theorem g_spot (z : Zp G ((P, penO L spot rest) :: M) H) (q : Q (.int spot) H) : DgW (.ref P) (.str ("spot" : Str)) H Q :=
  ⟨P, _, rfl, by have := DGet.k (k := .inr ("spot" : Str)) (z.at_ 0 rfl); rw [v_spot] at this; exact this, q⟩
theorem g_rest (z : Zp G ((P, penO L spot rest) :: M) H) (q : Q (.int rest) H) : DgW (.ref P) (.str ("rest" : Str)) H Q :=
  ⟨P, _, rfl, by have := DGet.k (k := .inr ("rest" : Str)) (z.at_ 0 rfl); rw [v_rest] at this; exact this, q⟩
theorem s_spot (z : Zp G ((P, penO L spot rest) :: M) H) (q : ∀ H1, Zp G ((P, penO L x rest) :: M) H1 → R H1) : DpW (.ref P) (.str ("spot" : Str)) (.int x) H R :=
  ⟨P, _, rfl, DPut.k (k := .inr ("spot" : Str)) (z.at_ 0 rfl) (by show 3 < sizeLine; decide), by rw [p_spot]; exact q _ (z.put 0 rfl _)⟩
theorem s_rest (z : Zp G ((P, penO L spot rest) :: M) H) (q : ∀ H1, Zp G ((P, penO L spot x) :: M) H1 → R H1) : DpW (.ref P) (.str ("rest" : Str)) (.int x) H R :=
  ⟨P, _, rfl, DPut.k (k := .inr ("rest" : Str)) (z.at_ 0 rfl) (by show 3 < sizeLine; decide), by rw [p_rest]; exact q _ (z.put 0 rfl _)⟩
theorem m_penput {D : Ends} {td ty tv : TE} {σ : L2.St} (h : tv σ H fun v H1 => td σ H1 fun x H2 => ty σ H2 fun y H3 => DpW x y v H3 (D.nx σ)) : sDPut td ty tv D σ H := h
end
end LW
open PySem PySem.Spec PyProof.Rows L2 Ys LW
local macro_rules | `(tactic| walk_at "z") => `(tactic| first
  | with_reducible refine z_seq ?_
  | with_reducible refine z_asg ?_
  | with_reducible refine z_name ?_
  | ((with_reducible apply z_var); (focus rfl))
  | with_reducible refine z_c ?_
  | with_reducible refine z_op ?_
  | with_reducible refine z_cons ?_
  | with_reducible refine z_nil ?_
  | with_reducible refine z_cb ?_
  | with_reducible refine z_call ?_
  | with_reducible refine z_ifS ?_
  | with_reducible refine z_ret ?_
  | with_reducible refine z_test ?_
  | with_reducible refine z_isB ?_
  | with_reducible refine z_tup ?_
  | with_reducible refine z_lst ?_
  | with_reducible refine z_I0 ?_
  | with_reducible refine z_addI ?_
  | with_reducible refine z_int ?_
  | with_reducible refine z_bT ?_
  | with_reducible refine z_bF ?_
  | with_reducible refine z_bN ?_
  | with_reducible refine z_and ?_
  | with_reducible refine z_or ?_
  | with_reducible refine z_not ?_
  | with_reducible refine z_if ?_
  | with_reducible refine z_andV ?_
  | with_reducible refine z_orV ?_
  | with_reducible refine z_notV ?_
  | with_reducible refine z_sl ?_
  | with_reducible refine z_np ?_
  | with_reducible refine z_part ?_
  | with_reducible refine z_isP ?_
  | with_reducible refine z_drop ?_
  | with_reducible refine z_next ?_
  | with_reducible refine z_retN ?_
  | with_reducible refine z_tB ?_
  | with_reducible refine z_bm ?_
  | with_reducible refine z_bm0 ?_
  | with_reducible refine z_m1 ?_
  | with_reducible refine z_isS ?_
  | with_reducible refine z_for ?_
  | with_reducible refine z_lc ?_
  | with_reducible refine z_yes ?_
  | with_reducible refine z_iL ?_
  | with_reducible refine z_iT ?_
  | with_reducible refine z_iS ?_
  | with_reducible refine z_iR ?_
  | with_reducible refine z_gcons ?_
  | with_reducible refine z_gnil ?_
  | with_reducible refine z_pr ?_
  | with_reducible refine z_pr2 ?_
  | with_reducible refine z_un ?_
  | with_reducible refine z_prop ?_
  | with_reducible refine z_mt ?_
  | with_reducible refine z_mk ?_
  | with_reducible refine z_fl ?_
  | with_reducible refine z_fs ?_
  | with_reducible refine z_chain ?_
  | with_reducible refine z_rs ?_
  | with_reducible refine z_mkS ?_
  | with_reducible refine z_gsub ?_
  | with_reducible refine z_iR2 ?_
  | with_reducible refine z_pc ?_
  | with_reducible refine z_pn ?_
  | with_reducible refine z_dg ?_
  | with_reducible refine z_star ?_
  | with_reducible refine z_callS ?_
  | with_reducible refine z_ownK ?_
  | with_reducible refine z_mtS ?_
  | with_reducible refine z_fa ?_
  | with_reducible refine z_frz ?_
  | with_reducible refine z_iK ?_
  | with_reducible refine z_iV ?_
  | with_reducible refine z_iI ?_
  | with_reducible refine z_din ?_
  | with_reducible refine z_dnin ?_
  | with_reducible refine z_dc ?_
  | with_reducible refine z_lc2 ?_
  | with_reducible refine z_mkR ?_
  | with_reducible refine z_cm ?_
  | with_reducible refine z_starD ?_
  | with_reducible refine z_mtK ?_
  | with_reducible refine z_dg2 ?_
  | with_reducible refine z_binX ?_
  | with_reducible refine m_penput ?_
  | with_reducible refine g_rest (by assumption) ?_
  | with_reducible refine g_spot (by assumption) ?_
  | with_reducible refine g_cells (by assumption) ?_
  | with_reducible refine s_spot (by assumption) ?_
  | with_reducible refine s_rest (by assumption) ?_)
local macro_rules | `(tactic| walk_at "y") => `(tactic| first
  | with_reducible refine z_asg ?_
  | with_reducible refine z_name ?_
  | ((with_reducible apply z_var); (focus rfl))
  | with_reducible refine z_c ?_
  | with_reducible refine z_op ?_
  | with_reducible refine z_cons ?_
  | with_reducible refine z_nil ?_
  | with_reducible refine z_cb ?_
  | with_reducible refine z_call ?_
  | with_reducible refine z_ifS ?_
  | with_reducible refine z_ret ?_
  | with_reducible refine z_test ?_
  | with_reducible refine z_isB ?_
  | with_reducible refine z_tup ?_
  | with_reducible refine z_lst ?_
  | with_reducible refine z_I0 ?_
  | with_reducible refine z_addI ?_
  | with_reducible refine z_int ?_
  | with_reducible refine z_bT ?_
  | with_reducible refine z_bF ?_
  | with_reducible refine z_bN ?_
  | with_reducible refine z_and ?_
  | with_reducible refine z_or ?_
  | with_reducible refine z_not ?_
  | with_reducible refine z_if ?_
  | with_reducible refine z_andV ?_
  | with_reducible refine z_orV ?_
  | with_reducible refine z_notV ?_
  | with_reducible refine z_sl ?_
  | with_reducible refine z_np ?_
  | with_reducible refine z_part ?_
  | with_reducible refine z_isP ?_
  | with_reducible refine z_drop ?_
  | with_reducible refine z_next ?_
  | with_reducible refine z_retN ?_
  | with_reducible refine z_tB ?_
  | with_reducible refine z_bm ?_
  | with_reducible refine z_bm0 ?_
  | with_reducible refine z_m1 ?_
  | with_reducible refine z_isS ?_
  | with_reducible refine z_for ?_
  | with_reducible refine z_lc ?_
  | with_reducible refine z_yes ?_
  | with_reducible refine z_iL ?_
  | with_reducible refine z_iT ?_
  | with_reducible refine z_iS ?_
  | with_reducible refine z_iR ?_
  | with_reducible refine z_gcons ?_
  | with_reducible refine z_gnil ?_
  | with_reducible refine z_pr ?_
  | with_reducible refine z_pr2 ?_
  | with_reducible refine z_un ?_
  | with_reducible refine z_prop ?_
  | with_reducible refine z_mt ?_
  | with_reducible refine z_mk ?_
  | with_reducible refine z_fl ?_
  | with_reducible refine z_fs ?_
  | with_reducible refine z_chain ?_
  | with_reducible refine z_rs ?_
  | with_reducible refine z_mkS ?_
  | with_reducible refine z_gsub ?_
  | with_reducible refine z_iR2 ?_
  | with_reducible refine z_pc ?_
  | with_reducible refine z_pn ?_
  | with_reducible refine z_dg ?_
  | with_reducible refine z_star ?_
  | with_reducible refine z_callS ?_
  | with_reducible refine z_ownK ?_
  | with_reducible refine z_mtS ?_
  | with_reducible refine z_fa ?_
  | with_reducible refine z_frz ?_
  | with_reducible refine z_iK ?_
  | with_reducible refine z_iV ?_
  | with_reducible refine z_iI ?_
  | with_reducible refine z_din ?_
  | with_reducible refine z_dnin ?_
  | with_reducible refine z_dc ?_
  | with_reducible refine z_lc2 ?_
  | with_reducible refine z_mkR ?_
  | with_reducible refine z_cm ?_
  | with_reducible refine z_starD ?_
  | with_reducible refine z_mtK ?_
  | with_reducible refine z_dg2 ?_
  | with_reducible refine z_binX ?_
  | with_reducible refine m_penput ?_
  | with_reducible refine g_rest (by assumption) ?_
  | with_reducible refine g_spot (by assumption) ?_
  | with_reducible refine g_cells (by assumption) ?_
  | with_reducible refine s_spot (by assumption) ?_
  | with_reducible refine s_rest (by assumption) ?_)
namespace LW
open PySem PySem.Spec PyProof.Rows L2 Ys

theorem can_ints : ∀ cells : List Int, PyData.canLayAll0 (cells.map PyData.int) = true
  | [] => rfl
  | c :: cs => by
    show (PyData.canLay0 (.int c) && PyData.canLayAll0 (cs.map PyData.int)) = true
    rw [can_ints cs]
    rfl
theorem dep_ints : ∀ cells : List Int, PyData.depthAll (cells.map PyData.int) ≤ 1
  | [] => by decide
  | c :: cs => by
    show max (PyData.depth (.int c)) (PyData.depthAll (cs.map PyData.int)) ≤ 1
    have := dep_ints cs
    have e : PyData.depth (.int c) = 0 := rfl
    omega
theorem sh_ints (cells : List Int) : SeqAt.shaped (.list (cells.map PyData.int)) = true := by
  unfold SeqAt.shaped
  have e : PyData.canLay0 (.list (cells.map PyData.int)) = true := can_ints cells
  have d : PyData.depth (.list (cells.map PyData.int)) = PyData.depthAll (cells.map PyData.int) + 1 := rfl
  rw [e, d]
  have := dep_ints cells
  simp
  omega
theorem cells_eq (cells : List Int) : PyData.eqv (.list (cells.map PyData.int)) (.list []) = decide (cells = []) := by
  cases cells with
  | nil => rfl
  | cons c cs => rfl
section
variable {P : Program} {w : World} {K : PySem.W.Frag} {mg : Str → Option Value} {base : Heap} {f : Addr} {fd : FuncData}
def spDraw (K : PySem.W.Frag) : Sp := fun vs H Q _ => ∃ p o G M b n, vs = [.ref p, .int n] ∧ Zp G ((p, o) :: M) H ∧ Pen K G b o ∧ b ≤ 1000000000000 ∧ 0 < n ∧ n ≤ 1000000000 ∧
  ∀ r G1 H1 o1, Zp G1 ((p, o1) :: M) H1 → Same G G1 → Pen K G1 (b + 1) o1 → 0 ≤ r → r < n → Q (.int r) H1
theorem ok_draw (T : Nm K mg) (F : FnP K "_law_draw" s_law_draw f fd) : FnOk P w K mg base CX0 1 f fd ["_law_pen_here", "_law_size"] (spDraw K) := by
  have nd : N_law_draw.Nodup := sc_law_draw.nd
  refine F.ok sc_law_draw (fun vs H Q E h => ?_) (fun cdv A outer s H vs Q E hr h => ?_)
  · obtain ⟨p, o, G, M, b, n, rfl, _⟩ := h
    rfl
  have hu := hr.units
  refine ⟨_, PSs.nox   (pss_cons (ps_if (pt_cmpR o_ge (pe_dget (hu_of hr) (pv 0) pe_str (fun _ _ => rfl)) (pv 1) (nomark _)) (pss_cons (ps_asg (pe_op o_mod (pe_callTy c_int (by rfl) T.b_int boot_int (pa_cons (pe_dget (hu_of hr) (pv 0) pe_str (fun _ _ => rfl)) pa_nil)) (pv 1)) (pg_name (i := 5) nd rfl (by first | exact .inl rfl | exact .inr rfl)))
    (pss_cons (ps_dput (hu_of hr) (pv 0) pe_str (pe_op o_div (pe_dget (hu_of hr) (pv 0) pe_str (fun _ _ => rfl)) (pv 1)) rfl)
    (pss_one (ps_ret (pv 5))))) pss_nil)
    (pss_cons (ps_asg (pe_dget (hu_of hr) (pv 0) pe_str (fun _ _ => rfl)) (pg_name (i := 2) nd rfl (by first | exact .inl rfl | exact .inr rfl)))
    (pss_cons (ps_dput (hu_of hr) (pv 0) pe_str (pe_op op_addG (pv 2) pe_int) rfl)
    (pss_cons (ps_asg (pe_op op_addG (pe_op o_mul pe_int (pv 2)) pe_int) (pg_name (i := 3) nd rfl (by first | exact .inl rfl | exact .inr rfl)))
    (pss_cons (ps_if (pt_cmpR (op_neG hu) (pe_dget (hu_of hr) (pv 0) pe_str (fun _ _ => rfl)) (pe_lst pa_nil) (nomark _)) (pss_one (ps_asg (pe_ix ix_seq (pe_dget (hu_of hr) (pv 0) pe_str (fun _ _ => rfl)) (pe_op o_mod (pe_callTy c_int (by rfl) T.b_int boot_int (pa_cons (pv 2) pa_nil)) (pe_callB c_len (by rfl) T.b_len PySem.boot_len (pa_cons (pe_dget (hu_of hr) (pv 0) pe_str (fun _ _ => rfl)) pa_nil))) (fun _ _ => rfl)) (pg_name (i := 3) nd rfl (by first | exact .inl rfl | exact .inr rfl)))) pss_nil)
    (pss_cons (ps_if (PW.pt (pw_and (pt_cmpR o_lt (pv 2) (pe_callB c_len (by rfl) T.b_len PySem.boot_len (pa_cons (pe_dget (hu_of hr) (pv 0) pe_str (fun _ _ => rfl)) pa_nil)) (nomark _)) (pw_and1 (pt_cmpR o_ge (pv 3) (pe_op o_pow pe_int pe_int) (nomark _))))) (pss_cons (ps_dput (hu_of hr) (pv 0) pe_str (pe_op o_div (pe_op o_sub (pv 3) (pe_op o_pow pe_int pe_int)) (pv 1)) rfl)
    (pss_one (ps_ret (pe_op o_mod (pe_callTy c_int (by rfl) T.b_int boot_int (pa_cons (pe_op o_sub (pv 3) (pe_op o_pow pe_int pe_int)) pa_nil)) (pv 1))))) pss_nil)
    (pss_cons (ps_asg (pe_op o_mul (pe_op o_mod (pe_callTy c_int (by rfl) T.b_int boot_int (pa_cons (pv 3) pa_nil)) pe_int) pe_int) (pg_name (i := 4) nd rfl (by first | exact .inl rfl | exact .inr rfl)))
    (pss_cons (ps_asg (pe_op o_mod (pe_callTy c_int (by rfl) T.b_int boot_int (pa_cons (pe_op op_addG (pe_op op_addG (pe_op op_addG (pv 4) (pe_op o_mul (pe_op o_mul pe_int (pv 2)) (pv 2))) (pe_op o_mul pe_int (pv 2))) pe_int) pa_nil)) pe_int) (pg_name (i := 4) nd rfl (by first | exact .inl rfl | exact .inr rfl)))
    (pss_cons (ps_asg (pe_op o_mod (pe_callTy c_int (by rfl) T.b_int boot_int (pa_cons (pe_op o_mul (pv 4) (pe_op op_addG (pv 4) pe_int)) pa_nil)) pe_int) (pg_name (i := 4) nd rfl (by first | exact .inl rfl | exact .inr rfl)))
    (pss_one (ps_ret (pe_op o_mod (pe_callTy c_int (by rfl) T.b_int boot_int (pa_cons (pe_op o_div (pe_op o_mod (pe_callTy c_int (by rfl) T.b_int boot_int (pa_cons (pe_op op_addG (pe_op o_mul (pv 4) (pv 4)) (pe_op o_mul pe_int (pv 4))) pa_nil)) pe_int) pe_int) pa_nil)) (pv 1))))))))))))), ?_⟩
  obtain ⟨p, o, G, M, b, n, rfl, z, ⟨L, spot, rest, cells, rfl, hL, hc, h0, hb, hr0⟩, hb2, n0, n1, q⟩ := h
  repeat (walk_at "z")
  refine z_bd (fun hrn => ?_) (fun hrn => ?_)
  · repeat (walk_at "z")
    refine z_I n0 ?_
    repeat (walk_at "z")
    refine z_I (dw n0 n1) ?_
    repeat (walk_at "z")
    intro H1 z1
    repeat (walk_at "z")
    refine q _ G H1 _ z1 (Same.refl G) ⟨L, spot, rest / n, cells, rfl, hL, hc, h0, by omega, Int.ediv_nonneg hr0 (by omega)⟩ (Int.emod_nonneg _ (by omega)) (Int.emod_lt_of_pos _ n0)
  · repeat (walk_at "z")
    intro H1 z1
    repeat (walk_at "z")
    refine z_I (mw (by omega) (by omega) (by omega) (by omega)) ?_
    repeat (walk_at "y")
    with_reducible refine z_cut (fun σ H => ∃ cell G3, Zp G3 ((p, penO L (spot + 1) rest) :: M) H ∧ Same G G3 ∧ σ = [some (.ref p), some (.int n), some (.int spot), some (.int cell), none, none]) (fun nx hnx => ?_) (fun σ H2 h2 => ?_)
    · repeat (walk_at "z")
      refine z_newL z1 (by decide) fun p2 G2 H2 z2 s2 e2 => ?_
      have hL2 := upL s2 hL
      refine z_neD (d := .list (cells.map PyData.int)) (e := .list []) z2 (.lst hL2 (dts_int cells)) (.lst (SqL.of e2) .nil) (sh_ints _) rfl ?_
      repeat (walk_at "z")
      rw [cells_eq]
      refine z_bd (fun c => ?_) (fun c => ?_)
      · refine z_next (hnx _ _ ⟨_, _, z2, s2, rfl⟩)
      · have c0 : 0 < cells.length := by cases cells with | nil => exact absurd rfl c | cons _ _ => exact Nat.succ_pos _
        repeat (walk_at "z")
        refine z_lenL z2 hL2 ?_
        rw [List.length_map]
        refine z_I (by omega) ?_
        have hm := Int.emod_lt_of_pos spot (show (0 : Int) < cells.length by omega)
        have hm0 := Int.emod_nonneg spot (show (cells.length : Int) ≠ 0 by omega)
        obtain ⟨k, hk⟩ := Int.eq_ofNat_of_zero_le hm0
        refine z_ixL z2 hL2 (v := .int (cells.getD k 0)) ?_ ?_
        · rw [hk]
          refine atI_nat ?_
          have : k < cells.length := by omega
          simp [List.getD, this]
        repeat (walk_at "z")
        exact hnx _ _ ⟨_, _, z2, s2, rfl⟩
    obtain ⟨cell, G3, z3, s3, rfl⟩ := h2
    have hL3 := upL s3 hL
    have e18 : (10 : Int) ^ (18 : Int).toNat = 1000000000000000000 := by decide +kernel
    with_reducible refine z_cut (fun σ H => H = H2 ∧ σ = [some (.ref p), some (.int n), some (.int spot), some (.int cell), none, none]) (fun nx hnx => ?_) (fun σ H3 h3 => ?_)
    · repeat (walk_at "z")
      refine z_lenL z3 hL3 ?_
      repeat (walk_at "z")
      refine z_b2 (fun c1 => ?_) (fun c1 => ?_)
      · repeat (walk_at "z")
        refine z_I ⟨by decide, by decide, by decide⟩ ?_
        repeat (walk_at "z")
        rw [e18]
        refine z_bd (fun c2 => ?_) (fun c2 => ?_)
        · repeat (walk_at "z")
          refine z_I ⟨by decide, by decide, by decide⟩ ?_
          repeat (walk_at "z")
          rw [e18]
          refine z_I (dw n0 n1) ?_
          repeat (walk_at "z")
          intro H4 z4
          repeat (walk_at "z")
          refine z_I ⟨by decide, by decide, by decide⟩ ?_
          repeat (walk_at "z")
          refine z_I n0 ?_
          exact q _ G3 H4 _ z4 s3 ⟨L, spot + 1, _, cells, rfl, hL3, hc, by omega, by omega, Int.ediv_nonneg (by omega) (by omega)⟩ (Int.emod_nonneg _ (by omega)) (Int.emod_lt_of_pos _ n0)
        · exact hnx _ _ ⟨rfl, rfl⟩
      · repeat (walk_at "z")
        exact hnx _ _ ⟨rfl, rfl⟩
    obtain ⟨rfl, rfl⟩ := h3
    repeat (walk_at "z")
    refine z_I (by decide) ?_
    repeat (walk_at "z")
    refine z_I (mw (by omega) (by omega) (by omega) (by omega)) ?_
    repeat (walk_at "z")
    have h1 := Int.emod_nonneg cell (show (2147483353 : Int) ≠ 0 by decide)
    have h2 := Int.emod_lt_of_pos cell (show (0 : Int) < 2147483353 by decide)
    refine z_I (mw (by omega) (by omega) (by omega) (by omega)) ?_
    repeat (walk_at "z")
    refine z_I (wide_mul (a := 64) (b := 64) (by omega) (by omega) (by decide) (by decide) (by decide)) ?_
    repeat (walk_at "z")
    refine z_I (mw (by omega) (by omega) (by omega) (by omega)) ?_
    repeat (walk_at "z")
    refine z_I (by decide) ?_
    repeat (walk_at "z")
    generalize hm1 : (cell % 2147483353 * 40127 + 52433 * spot * spot + 101 * spot + 31) % 2147483399 = m1
    have a1 : 0 ≤ m1 := by rw [← hm1]; exact Int.emod_nonneg _ (by decide)
    have a2 : m1 < 2147483399 := by rw [← hm1]; exact Int.emod_lt_of_pos _ (by decide)
    refine z_I (mw (by omega) (by omega) (by omega) (by omega)) ?_
    repeat (walk_at "z")
    refine z_I (by decide) ?_
    repeat (walk_at "z")
    generalize hm2 : m1 * (m1 + 70009) % 2147483423 = m2
    have b1 : 0 ≤ m2 := by rw [← hm2]; exact Int.emod_nonneg _ (by decide)
    have b2 : m2 < 2147483423 := by rw [← hm2]; exact Int.emod_lt_of_pos _ (by decide)
    refine z_I (mw (by omega) (by omega) (by omega) (by omega)) ?_
    repeat (walk_at "z")
    refine z_I (mw (by omega) (by omega) (by omega) (by omega)) ?_
    repeat (walk_at "z")
    refine z_I (by decide) ?_
    repeat (walk_at "z")
    refine z_I (dw (by decide) (by decide)) ?_
    repeat (walk_at "z")
    refine z_I n0 ?_
    exact q _ G3 _ _ z3 s3 ⟨L, spot + 1, _, cells, rfl, hL3, hc, by omega, by omega, hr0⟩ (Int.emod_nonneg _ (by omega)) (Int.emod_lt_of_pos _ n0)
end
end LW
namespace LW
open PySem PySem.Spec PyProof.Rows L2 Ys

section
variable {P : Program} {w : World} {K : PySem.W.Frag} {mg : Str → Option Value} {base : Heap} {f : Addr} {fd : FuncData}
def spPen (K : PySem.W.Frag) : Sp := fun vs H Q _ => ∃ (a : Addr) (G : Hp) (ns : List Int), vs = [.ref a] ∧ Zp G [] H ∧ SqL K G a (ns.map V.int) ∧
  ∀ p G1 H1 o1, Zp G1 [(p, o1)] H1 → Same G G1 → Pen K G1 0 o1 → Q (.ref p) H1
theorem ok_pen (T : Nm K mg) (F : FnP K "_law_pen" s_law_pen f fd) : FnOk P w K mg base CX0 1 f fd ["_law_script"] (spPen K) := by
  have nd : N_law_pen.Nodup := sc_law_pen.nd
  refine F.ok sc_law_pen (fun vs H Q E h => ?_) (fun cdv A outer s H vs Q E hr h => ?_)
  · obtain ⟨a, G, ns, rfl, _⟩ := h
    rfl
  have hu := hr.units
  refine ⟨_, PSs.nox   (pss_one (ps_ret (pe_disp (pps_cons pe_str (pe_callTy (kc_list (K := K)) (by rfl) T.b_list boot_list (pa_cons (pe_slice (k_sl (K := K)) (pv 0) po_none (po_some pe_int)) pa_nil)) (pps_cons pe_str pe_int (pps_cons pe_str pe_int pps_nil))) (by rfl) (by rfl) (fun z => by cases z) (by decide)))), ?_⟩
  obtain ⟨a, G, ns, rfl, z, hS, q⟩ := h
  repeat (walk_at "z")
  refine z_disp z fun p H1 z1 => ?_
  repeat (walk_at "z")
  refine z_slL z1 hS fun a2 G2 H2 z2 s2 e2 => ?_
  rw [cut_map] at e2
  repeat (walk_at "z")
  refine z_listG z2 (.inl (SqL.of e2)) fun a3 G3 H3 z3 s3 e3 => ?_
  repeat (walk_at "z")
  refine z_dispE (M := []) z3 [(.inr ("cells" : Str), .ref a3), (.inr ("spot" : Str), .int 0), (.inr ("rest" : Str), .int 0)] rfl (by show 3 ≤ 15; decide) fun H4 z4 => ?_
  refine q p G3 H4 _ z4 (s2.trans s3) ⟨a3, 0, 0, _, ?_, SqL.of e3, ?_, by decide, by decide, by decide⟩
  · have e1 : ¬ Str.ofString "cells" = Str.ofString "rest" := by decide +kernel
    have e2 : ¬ Str.ofString "spot" = Str.ofString "rest" := by decide +kernel
    have e3 : ¬ Str.ofString "cells" = Str.ofString "spot" := by decide +kernel
    simp [mergeK, putK, e1, e2, e3, penO]
  · rw [List.length_take]
    have : HT.sIx ns.length ns.length (some 63) = min 63 ns.length := HT.sIx_nat ns.length ns.length 63
    rw [this]
    omega
def spPick (K : PySem.W.Frag) : Sp := fun vs H Q _ => ∃ p o G M b x, vs = [.ref p, x] ∧ Zp G ((p, o) :: M) H ∧ Pen K G b o ∧ b ≤ 1000000000000 ∧
  ((∃ a xs, x = .ref a ∧ (SqL K G a xs ∨ SqT K G a xs) ∧ xs ≠ [] ∧ xs.length ≤ 100000 ∧ ∀ v G1 H1 o1, v ∈ xs → Zp G1 ((p, o1) :: M) H1 → Same G G1 → Pen K G1 (b + 1) o1 → Q v H1) ∨
   (∃ s : Str, x = .str s ∧ 0 < s.length ∧ s.length ≤ 100000 ∧ ∀ ch G1 H1 o1, ch ∈ s.cps.toList → Zp G1 ((p, o1) :: M) H1 → Same G G1 → Pen K G1 (b + 1) o1 → Q (.str ⟨#[ch]⟩) H1))
theorem ok_pick (T : Nm K mg) (C_law_draw : Own P w K mg base CX0 1 "_law_draw" ["_law_pen_here", "_law_size"] (spDraw K)) (F : FnP K "_law_pick" s_law_pick f fd) : FnOk P w K mg base CX0 2 f fd ["_law_pen_here", "_law_items"] (spPick K) := by
  have nd : N_law_pick.Nodup := sc_law_pick.nd
  refine F.ok sc_law_pick (fun vs H Q E h => ?_) (fun cdv A outer s H vs Q E hr h => ?_)
  · obtain ⟨p, o, G, M, b, x, rfl, _⟩ := h
    rfl
  have hu := hr.units
  refine ⟨_, PSs.nox   (pss_one (ps_ret (pe_ix (k_ix (K := K)) (pv 1) (pe_own C_law_draw (hr.mono (by omega)) (by rfl) pass0 (pa_cons (pv 0) (pa_cons (pe_callB (kc_len (K := K) (P := P) (w := w)) (by rfl) T.b_len PySem.boot_len (pa_cons (pv 1) pa_nil)) pa_nil))) (fun _ _ => rfl)))), ?_⟩
  obtain ⟨p, o, G, M, b, x, rfl, z, hp, hb, h⟩ := h
  repeat (walk_at "z")
  rcases h with ⟨a, xs, rfl, hS, h0, h1, q⟩ | ⟨t, rfl, h0, h1, q⟩
  · have h00 : 0 < xs.length := by cases xs with | nil => exact absurd rfl h0 | cons _ _ => exact Nat.succ_pos _
    rcases hS with hS | hS
    · refine z_lenL z hS ?_
      repeat (walk_at "z")
      refine ⟨p, o, G, M, b, _, rfl, z, hp, hb, by omega, by omega, fun r G1 H1 o1 z1 s1 hp1 r0 r1 => ?_⟩
      obtain ⟨v, hv, e⟩ := at_in r0 r1
      exact z_ixL z1 (upL s1 hS) e (q v G1 H1 o1 hv z1 s1 hp1)
    · refine z_lenT z hS ?_
      repeat (walk_at "z")
      refine ⟨p, o, G, M, b, _, rfl, z, hp, hb, by omega, by omega, fun r G1 H1 o1 z1 s1 hp1 r0 r1 => ?_⟩
      obtain ⟨v, hv, e⟩ := at_in r0 r1
      exact z_ixT z1 (upT s1 hS) e (q v G1 H1 o1 hv z1 s1 hp1)
  · refine z_lenS h1 ?_
    repeat (walk_at "z")
    refine ⟨p, o, G, M, b, _, rfl, z, hp, hb, by omega, by omega, fun r G1 H1 o1 z1 s1 hp1 r0 r1 => ?_⟩
    obtain ⟨v, hv, e⟩ := at_in (xs := t.cps.toList) r0 (by rw [Array.length_toList]; exact r1)
    exact z_ixS h1 e (q v G1 H1 o1 hv z1 s1 hp1)
end
end LW
namespace LW
open PySem PySem.Spec PyProof.Rows L2 Ys

/-! ### drawn words are different ones -/
def Cop (st : Int) : Prop := ∀ a b m : Int, st * (a - b) = 26 * m → a - b < 20 → b - a < 20 → a = b
theorem toList_app (x y : Str) : (x ++ y).cps.toList = x.cps.toList ++ y.cps.toList := by
  show (x.cps ++ y.cps).toList = _
  simp
theorem mid_at {x y : Str} {c n : Nat} (h : x.length = n) : (x ++ ⟨#[c]⟩ ++ y).cps.toList[n]? = some c := by
  rw [toList_app, toList_app]
  have hx : x.cps.toList.length = n := by rw [← h]; simp [Str.length]
  rw [List.append_assoc, List.getElem?_append_right (by omega), hx, Nat.sub_self]
  rfl
theorem app_at {x y : Str} {c n : Nat} (h : x.cps.toList[n]? = some c) : (x ++ y).cps.toList[n]? = some c := by
  rw [toList_app, List.getElem?_append_left (List.getElem?_eq_some_iff.mp h).1]
  exact h
theorem snoc_at {fs : List Str} {word : Str} {ch n : Nat} {fr st : Int} (hat : ∀ (i : Nat) (t : Str), fs[i]? = some t → ∃ ch, t.cps.toList[n]? = some ch ∧ atI ("abcdefghijklmnopqrstuvwxyz" : Str).cps.toList ((fr + st * i) % 26) = some ch) (h1 : word.cps.toList[n]? = some ch) (h2 : atI ("abcdefghijklmnopqrstuvwxyz" : Str).cps.toList ((fr + st * (fs.length : Int)) % 26) = some ch) :
    ∀ (i : Nat) (t : Str), (fs ++ [word])[i]? = some t → ∃ ch, t.cps.toList[n]? = some ch ∧ atI ("abcdefghijklmnopqrstuvwxyz" : Str).cps.toList ((fr + st * i) % 26) = some ch := fun i t h => by
  by_cases c : i < fs.length
  · rw [List.getElem?_append_left c] at h
    exact hat i t h
  · rw [List.getElem?_append_right (by omega)] at h
    have hi : i = fs.length := by
      have := (List.getElem?_eq_some_iff.mp h).1
      simp at this
      omega
    subst hi
    rw [Nat.sub_self] at h
    obtain rfl : word = t := by simpa using h
    exact ⟨ch, h1, h2⟩
theorem abc_inj : ∀ i < 26, ∀ j < 26, ("abcdefghijklmnopqrstuvwxyz" : Str).cps.toList[i]? = ("abcdefghijklmnopqrstuvwxyz" : Str).cps.toList[j]? → i = j := by decide +kernel
theorem words_nd {fs : List Str} {n : Nat} {fr st : Int} (hl : fs.length ≤ 20) (f0 : 0 ≤ fr) (hc : Cop st) (hat : ∀ (i : Nat) (t : Str), fs[i]? = some t → ∃ ch, t.cps.toList[n]? = some ch ∧ atI ("abcdefghijklmnopqrstuvwxyz" : Str).cps.toList ((fr + st * i) % 26) = some ch) : fs.Nodup := by
  show List.Pairwise (· ≠ ·) fs
  refine List.pairwise_iff_getElem.mpr fun i j hi hj hij e => ?_
  have h1 : fs[i]? = some fs[i] := List.getElem?_eq_getElem hi
  obtain ⟨c1, g1, a1⟩ := hat i _ h1
  obtain ⟨c2, g2, a2⟩ := hat j fs[i] (by rw [List.getElem?_eq_getElem hj, e])
  rw [g1] at g2
  cases g2
  have m1 := Int.emod_nonneg (fr + st * i) (show (26 : Int) ≠ 0 by decide)
  have m2 := Int.emod_nonneg (fr + st * j) (show (26 : Int) ≠ 0 by decide)
  have l1 := Int.emod_lt_of_pos (fr + st * i) (show (0 : Int) < 26 by decide)
  have l2 := Int.emod_lt_of_pos (fr + st * j) (show (0 : Int) < 26 by decide)
  have key : ∀ {x : Int}, 0 ≤ x → x < 26 → atI ("abcdefghijklmnopqrstuvwxyz" : Str).cps.toList x = ("abcdefghijklmnopqrstuvwxyz" : Str).cps.toList[x.toNat]? := fun {x} h0 h1 => by
    have : ixN ("abcdefghijklmnopqrstuvwxyz" : Str).cps.toList.length x = some x.toNat := by
      unfold ixN
      rw [if_pos h0, if_pos (by rw [show ("abcdefghijklmnopqrstuvwxyz" : Str).cps.toList.length = 26 by decide +kernel]; omega)]
    unfold atI
    rw [this]
    rfl
  rw [key m1 l1] at a1
  rw [key m2 l2] at a2
  have := abc_inj _ (by omega) _ (by omega) (a1.trans a2.symm)
  have he : (fr + st * (i : Int)) % 26 = (fr + st * (j : Int)) % 26 := by omega
  have d1 := Int.emod_add_mul_ediv (fr + st * (i : Int)) 26
  have d2 := Int.emod_add_mul_ediv (fr + st * (j : Int)) 26
  have hm : st * ((i : Int) - (j : Int)) = 26 * ((fr + st * (i : Int)) / 26 - (fr + st * (j : Int)) / 26) := by
    rw [Int.mul_sub]
    omega
  have := hc _ _ _ hm (by omega) (by omega)
  omega
section
variable {P : Program} {w : World} {K : PySem.W.Frag} {mg : Str → Option Value} {base : Heap} {f : Addr} {fd : FuncData}
abbrev OwnD (P : Program) (w : World) (K : PySem.W.Frag) (mg : Str → Option Value) (base : Heap) : Prop := Own P w K mg base CX0 1 "_law_draw" ["_law_pen_here", "_law_size"] (spDraw K)
abbrev OwnP (P : Program) (w : World) (K : PySem.W.Frag) (mg : Str → Option Value) (base : Heap) : Prop := Own P w K mg base CX0 2 "_law_pick" ["_law_pen_here", "_law_items"] (spPick K)
def spWords (K : PySem.W.Frag) : Sp := fun vs H Q _ => ∃ p o G M b, ∃ n : Nat, vs = [.ref p, .int n] ∧ Zp G ((p, o) :: M) H ∧ Pen K G b o ∧ b ≤ 100000000000 ∧ n ≤ 20 ∧
  ∀ l G1 H1 o1, ∀ ss : List Str, Zp G1 ((p, o1) :: M) H1 → Same G G1 → Pen K G1 (b + 10) o1 → G1 l = some (.lst (ss.map V.str)) → ss.length = n → (∀ s ∈ ss, Wd s) → ss.Nodup → Q (.ref l) H1
theorem ok_words (T : Nm K mg) (C_law_draw : OwnD P w K mg base) (C_law_pick : OwnP P w K mg base) (F : FnP K "_law_words" s_law_words f fd) : FnOk P w K mg base CX0 3 f fd ["_law_pen_here", "_law_count"] (spWords K) := by
  have nd : N_law_words.Nodup := sc_law_words.nd
  refine F.ok sc_law_words (fun vs H Q E h => ?_) (fun cdv A outer s H vs Q E hr h => ?_)
  · obtain ⟨p, o, G, M, b, n, rfl, _⟩ := h
    rfl
  have hu := hr.units
  refine ⟨_, PSs.nox   (pss_cons (ps_asg pe_str (pg_name (i := 2) nd rfl (by first | exact .inl rfl | exact .inr rfl)))
    (pss_cons (ps_asg (pe_joinG pe_str (pe_lc (own := [("_law_k", 5)]) (tt := tYes) rfl nd (pi_range1 (by rfl) (T.b_range) (pa_cons (pe_own C_law_draw (hr.mono (by omega)) (by rfl) pass0 (pa_cons (pv 0) (pa_cons pe_int pa_nil))) pa_nil)) (blkOk_by (N := N_law_words) (sc := defScope s_law_words) (by decide +kernel)) (fun _ _ _ _ _ => (pg_name (i := 5) nd rfl (by first | exact .inl rfl | exact .inr rfl))) (fun _ _ _ _ _ => pts_nil) (fun _ _ _ _ _ => (pe_own C_law_pick (hr.mono (by omega)) (by rfl) pass0 (pa_cons (pv 0) (pa_cons (pv 2) pa_nil)))))) (pg_name (i := 3) nd rfl (by first | exact .inl rfl | exact .inr rfl)))
    (pss_cons (ps_par (i := 6) (j := 7) (by rfl) nd rfl rfl (by decide) rfl rfl (pa_cons (pe_own C_law_draw (hr.mono (by omega)) (by rfl) pass0 (pa_cons (pv 0) (pa_cons (pe_op (k_add (K := K)) (pe_callB (kc_len (K := K) (P := P) (w := w)) (by rfl) T.b_len PySem.boot_len (pa_cons (pv 3) pa_nil)) pe_int) pa_nil))) (pa_cons (pe_own C_law_draw (hr.mono (by omega)) (by rfl) pass0 (pa_cons (pv 0) (pa_cons pe_int pa_nil))) pa_nil)) (by rfl))
    (pss_cons (ps_par (i := 8) (j := 9) (by rfl) nd rfl rfl (by decide) rfl rfl (pa_cons (pe_own C_law_pick (hr.mono (by omega)) (by rfl) pass0 (pa_cons (pv 0) (pa_cons (pe_lst (pa_cons pe_int (pa_cons pe_int (pa_cons pe_int (pa_cons pe_int (pa_cons pe_int (pa_cons pe_int (pa_cons pe_int (pa_cons pe_int pa_nil))))))))) pa_nil))) (pa_cons (pe_own C_law_pick (hr.mono (by omega)) (by rfl) pass0 (pa_cons (pv 0) (pa_cons (pe_lst (pa_cons pe_str (pa_cons pe_str (pa_cons pe_str (pa_cons pe_str pa_nil))))) pa_nil))) pa_nil)) (by rfl))
    (pss_cons (ps_asg (pe_lst pa_nil) (pg_name (i := 4) nd rfl (by first | exact .inl rfl | exact .inr rfl)))
    (pss_cons (ps_for PassesOwn.never rfl (pi_range1 (by rfl) (T.b_range) (pa_cons (pv 1) pa_nil)) (pg_name (i := 5) nd rfl (by first | exact .inl rfl | exact .inr rfl)) (pss_cons (ps_asg (pe_op (k_add (K := K)) (pe_op (k_add (K := K)) (pe_slice (k_sl (K := K)) (pv 3) po_none (po_some (pv 6))) (pe_ix (k_ix (K := K)) (pv 2) (pe_op o_mod (pe_callTy c_int (by rfl) T.b_int boot_int (pa_cons (pe_op (k_add (K := K)) (pv 7) (pe_op o_mul (pv 8) (pv 5))) pa_nil)) pe_int) (fun _ _ => rfl))) (pe_slice (k_sl (K := K)) (pv 3) (po_some (pv 6)) po_none)) (pg_name (i := 10) nd rfl (by first | exact .inl rfl | exact .inr rfl)))
    (pss_one (ps_expr (pe_bm PySem.F.plainAttrs_list PySem.F.slot_list_append PySem.F.type_list_append mt_append (pv 4) (pa_cons (pe_ifExp (pt_cmpR (k_eq (K := K) hu) (pe_op o_mod (pe_callTy c_int (by rfl) T.b_int boot_int (pa_cons (pv 5) pa_nil)) pe_int) pe_int (nomark _)) (pe_op (k_add (K := K)) (pv 10) (pv 9)) (pv 10)) pa_nil))))))
    (pss_one (ps_ret (pv 4))))))))), ?_⟩
  obtain ⟨p, o, G, M, b, n, rfl, z, hp, hb, hn, q⟩ := h
  repeat (walk_at "z")
  refine ⟨p, o, G, M, b, _, rfl, z, hp, by omega, by decide, by decide, fun c1 G1 H1 o1 z1 s1 hp1 c0 c6 => ?_⟩
  repeat (walk_at "z")
  refine z_itR (by omega) (by omega) ?_
  refine lc_src src_R (fun i G' M' acc => ∃ o', ∃ ss : List Str, M' = (p, o') :: M ∧ Same G G' ∧ Pen K G' (b + 1 + i) o' ∧ acc = ss.map V.str ∧ ss.length = i ∧ ∀ t ∈ ss, Lt t ∧ t.length = 1) z1 ⟨o1, [], rfl, s1, hp1, rfl, rfl, by simp⟩ (fun _ _ _ _ _ _ _ _ => trivial) ?_ ?_
  · rintro i x G2 M2 acc Dl H2 hx ⟨o2, ss, rfl, s2, hp2, rfl, rfl, hss⟩ z2
    have hi : ss.length < 6 := by
      have := (List.getElem?_eq_some_iff.mp hx).1
      rw [rngV_len] at this
      omega
    repeat (walk_at "z")
    refine ⟨by rfl, ?_⟩
    repeat (walk_at "z")
    refine ⟨p, o2, G2, _, _, _, rfl, z2, hp2, by omega, .inr ⟨_, rfl, by rw [abc_len]; decide, by rw [abc_len]; decide, fun ch G3 H3 o3 hch z3 s3 hp3 => ?_⟩⟩
    refine z_laid (M := (p, o3) :: M) z3 (by rw [List.length_map]; omega) ⟨o3, ss ++ [⟨#[ch]⟩], rfl, s2.trans s3, hp3, by simp, by simp, fun t ht => ?_⟩
    rcases List.mem_append.mp ht with ht | ht
    · exact hss t ht
    · obtain rfl : t = ⟨#[ch]⟩ := by simpa using ht
      exact ⟨Lt.one (abc_mem hch), rfl⟩
  · rintro p2 G2 M2 acc G3 H3 ⟨o2, ss, rfl, s2, hp2, rfl, hlen, hss⟩ s3 z3 e3
    rw [rngV_len] at hlen hp2
    have hl6 : ss.length ≤ 5 := by omega
    have hsum : (Txt.join "" ss).length = ss.length := PySem.W.KT.join_ones ss fun t ht => (hss t ht).2
    have hsm : ∀ l : List Str, (∀ t ∈ l, t.length = 1) → (l.map (·.length)).sum = l.length := by
      intro l
      induction l with
      | nil => intro _; rfl
      | cons a r ih =>
        intro h
        rw [List.map_cons, List.sum_cons, ih fun t ht => h t (List.mem_cons_of_mem _ ht), h a (List.mem_cons_self ..), List.length_cons]
        omega
    refine z_join z3 (SqL.of e3) ?_ ?_
    · rw [hsm ss fun t ht => (hss t ht).2]
      have : ("" : Str).length = 0 := by decide
      rw [this]
      omega
    have hstem : Lt (Txt.join "" ss) := Lt.join fun t ht => (hss t ht).1
    generalize Txt.join "" ss = stem at hstem hsum ⊢
    have hp2 := hp2.mono (c := b + 6) (by omega)
    rw [← hsum] at hlen hl6
    repeat (walk_at "z")
    refine z_lenS (by omega) ?_
    repeat (walk_at "z")
    refine ⟨p, o2, G3, _, _, _, rfl, z3, hp2.up s3, by omega, by omega, by omega, fun at_ G4 H4 o4 z4 s4 hp4 a0 a1 => ?_⟩
    repeat (walk_at "z")
    refine ⟨p, o4, G4, _, _, _, rfl, z4, hp4, by omega, by omega, by omega, fun fr G5 H5 o5 z5 s5 hp5 f0 f1 => ?_⟩
    repeat (walk_at "z")
    refine z_newL z5 (by simp) fun q6 G6 H6 z6 s6 e6 => ?_
    repeat (walk_at "z")
    refine ⟨p, o5, G6, _, _, _, rfl, z6, hp5.up s6, by omega, .inl ⟨q6, _, rfl, .inl (SqL.of e6), by simp, by simp, fun v G7 H7 o7 hv z7 s7 hp7 => ?_⟩⟩
    obtain ⟨st, rfl, st0, st1, stc⟩ : ∃ i, v = V.int i ∧ 0 < i ∧ i < 20 ∧ Cop i := by
      simp at hv
      rcases hv with rfl | rfl | rfl | rfl | rfl | rfl | rfl | rfl <;> exact ⟨_, rfl, by decide, by decide, fun a b m e h1 h2 => by omega⟩
    repeat (walk_at "z")
    refine z_newL z7 (by simp) fun q8 G8 H8 z8 s8 e8 => ?_
    repeat (walk_at "z")
    refine ⟨p, o7, G8, _, _, _, rfl, z8, hp7.up s8, by omega, .inl ⟨q8, _, rfl, .inl (SqL.of e8), by simp, by simp, fun v G9 H9 o9 hv z9 s9 hp9 => ?_⟩⟩
    obtain ⟨tail, rfl, tl0, tl1⟩ : ∃ t : Str, v = V.str t ∧ t.length ≤ 2 ∧ Lt t := by
      have k0 : ("" : Str).length ≤ 2 ∧ ∀ c ∈ ("" : Str).cps.toList, 97 ≤ c ∧ c ≤ 122 := by decide +kernel
      have k1 : ("w" : Str).length ≤ 2 ∧ ∀ c ∈ ("w" : Str).cps.toList, 97 ≤ c ∧ c ≤ 122 := by decide +kernel
      have k2 : ("ww" : Str).length ≤ 2 ∧ ∀ c ∈ ("ww" : Str).cps.toList, 97 ≤ c ∧ c ≤ 122 := by decide +kernel
      rcases List.mem_cons.mp hv with rfl | hv
      · exact ⟨_, rfl, k0⟩
      rcases List.mem_cons.mp hv with rfl | hv
      · exact ⟨_, rfl, k0⟩
      rcases List.mem_cons.mp hv with rfl | hv
      · exact ⟨_, rfl, k1⟩
      rcases List.mem_cons.mp hv with rfl | hv
      · exact ⟨_, rfl, k2⟩
      · cases hv
    have hpz := hp9.mono (c := b + 10) (by omega)
    have sz : Same G G9 := (s2.trans s3).trans ((s4.trans s5).trans ((s6.trans s7).trans (s8.trans s9)))
    clear hp9 hp7 hp5 hp4 hp2 hp1 hp z8 z7 z6 z5 z4 z3 z1 z e3 e6 e8 s9 s8 s7 s6 s5 s4 s3 s2 s1
    repeat (walk_at "z")
    refine z_ownP z9 (by simp) fun fa H10 z10 => ?_
    repeat (walk_at "z")
    refine z_itR (by omega) (by omega) ?_
    refine for_src src_R (fun i σ G' M' => ∃ fs : List Str, ∃ k5 k10 : Option V, M' = (p, o9) :: (fa, .lst (fs.map V.str)) :: M ∧ G' = G9 ∧ fs.length = i ∧ (∀ t ∈ fs, Wd t) ∧ (∀ (i : Nat) (t : Str), fs[i]? = some t → ∃ ch, t.cps.toList[at_.toNat]? = some ch ∧ atI ("abcdefghijklmnopqrstuvwxyz" : Str).cps.toList ((fr + st * i) % 26) = some ch) ∧
      σ = [some (.ref p), some (.int n), some (.str ("abcdefghijklmnopqrstuvwxyz" : Str)), some (.str stem), some (.ref fa), k5, some (.int at_), some (.int fr), some (.int st), some (.str tail), k10])
      z10 ⟨[], _, _, rfl, rfl, rfl, by simp, (fun i t h => by simp at h), rfl⟩ (fun _ _ _ _ _ _ _ => trivial) ?_ ?_
    · rintro i x σ G' M' H' hx ⟨fs, k5, k10, rfl, rfl, rfl, hfs, hat, rfl⟩ z'
      obtain ⟨hi, rfl⟩ := rng_at hx
      generalize hk : (0 : Int) + (fs.length : Int) = k
      repeat (walk_at "z")
      refine z_slS (by omega) ?_
      repeat (walk_at "z")
      refine z_I (mw (by omega) (by omega) (by omega) (by omega)) ?_
      repeat (walk_at "z")
      refine z_I (by decide) ?_
      repeat (walk_at "z")
      obtain ⟨ch, hch, ech⟩ := at_in (xs := ("abcdefghijklmnopqrstuvwxyz" : Str).cps.toList) (i := (fr + st * k) % 26) (Int.emod_nonneg _ (by decide)) (by rw [Array.length_toList]; exact Int.emod_lt_of_pos _ (by decide))
      refine z_ixS (by rw [abc_len]; decide) ech ?_
      have l1 : (cutS stem none (some at_)).length ≤ stem.length := by rw [cutS_len]; have := HT.sIx_le stem.length stem.length (Nat.le_refl _) (some at_); omega
      have hch1 := Lt.one (abc_mem hch)
      have hc1 : (⟨#[ch]⟩ : Str).length = 1 := rfl
      refine z_addS (by omega) ?_
      repeat (walk_at "z")
      refine z_slS (by omega) ?_
      have e1 : (cutS stem none (some at_)).length = at_.toNat := by
        rw [cutS_len]
        show (if at_ < 0 then (at_ + (stem.length : Int)).toNat else min at_.toNat stem.length) - 0 = at_.toNat
        rw [if_neg (by omega)]
        omega
      have e2 : (cutS stem (some at_) none).length = stem.length - at_.toNat := by
        rw [cutS_len]
        show stem.length - (if at_ < 0 then (at_ + (stem.length : Int)).toNat else min at_.toNat stem.length) = stem.length - at_.toNat
        rw [if_neg (by omega)]
        omega
      have e3 : (cutS stem none (some at_) ++ ⟨#[ch]⟩).length = at_.toNat + 1 := by rw [len_app, e1]; rfl
      refine z_addS (by omega) ?_
      have e4 : (cutS stem none (some at_) ++ ⟨#[ch]⟩ ++ cutS stem (some at_) none).length = stem.length + 1 := by rw [len_app, e3, e2]; omega
      have e5 : Lt (cutS stem none (some at_) ++ ⟨#[ch]⟩ ++ cutS stem (some at_) none) := ((hstem.cut _ _).app hch1).app (hstem.cut _ _)
      have e6 : (cutS stem none (some at_) ++ ⟨#[ch]⟩ ++ cutS stem (some at_) none).cps.toList[at_.toNat]? = some ch := mid_at e1
      have ech' : atI ("abcdefghijklmnopqrstuvwxyz" : Str).cps.toList ((fr + st * (fs.length : Int)) % 26) = some ch := by rw [← ech, ← hk, Int.zero_add]
      generalize cutS stem none (some at_) ++ ⟨#[ch]⟩ ++ cutS stem (some at_) none = word at e4 e5 e6
      repeat (walk_at "z")
      refine z_tyO z' 1 rfl ?_
      repeat (walk_at "z")
      refine z_I (by decide) ?_
      repeat (walk_at "z")
      refine z_eqS rfl ?_
      repeat (walk_at "z")
      refine z_b2 (fun _ => ?_) (fun _ => ?_)
      · repeat (walk_at "z")
        refine z_addS (by omega) ?_
        repeat (walk_at "z")
        refine z_append z' 1 rfl (by rw [List.length_map]; omega) fun H'' z'' => ?_
        repeat (walk_at "z")
        refine ⟨_, _, z'', fs ++ [word ++ tail], _, _, by simp, rfl, by simp, fun t ht => ?_, ?hat, rfl⟩
        case hat => exact snoc_at hat (by rw [app_at e6]) ech'
        rcases List.mem_append.mp ht with ht | ht
        · exact hfs t ht
        · obtain rfl : t = word ++ tail := by simpa using ht
          exact ⟨by rw [len_app]; omega, by rw [len_app]; omega, e5.app tl1⟩
      · repeat (walk_at "z")
        refine z_append z' 1 rfl (by rw [List.length_map]; omega) fun H'' z'' => ?_
        repeat (walk_at "z")
        refine ⟨_, _, z'', fs ++ [word], _, _, by simp, rfl, by simp, fun t ht => ?_, ?hat, rfl⟩
        case hat => exact snoc_at hat e6 ech'
        rcases List.mem_append.mp ht with ht | ht
        · exact hfs t ht
        · obtain rfl : t = word := by simpa using ht
          exact ⟨by omega, by omega, e5⟩
    · rintro σ G' M' H' ⟨fs, k5, k10, rfl, rfl, hfl, hfs, hat, rfl⟩ z'
      rw [rngV_len] at hfl
      repeat (walk_at "z")
      obtain ⟨z'', n''⟩ := z'.fix2
      exact q fa _ _ o9 fs z'' (sz.trans (Same.new n'')) (hpz.up (Same.new n'')) upd_same (by omega) hfs (words_nd (by omega) f0 stc hat)
end
end LW
namespace LW
open PySem PySem.Spec PyProof.Rows L2 Ys

section
variable {P : Program} {w : World} {K : PySem.W.Frag} {mg : Str → Option Value} {base : Heap} {f : Addr} {fd : FuncData}
def spShuf (K : PySem.W.Frag) : Sp := fun vs H Q _ => ∃ p o G M b a, ∃ xs : List V, vs = [.ref p, .ref a] ∧ Zp G ((p, o) :: M) H ∧ Pen K G b o ∧ b + xs.length ≤ 1000000000000 ∧ (SqL K G a xs ∨ SqT K G a xs) ∧ (∀ v ∈ xs, El K G v) ∧ xs.length ≤ 1000 ∧
  ∀ l ys G1 H1 o1, Zp G1 ((p, o1) :: (l, .lst ys) :: M) H1 → Same G G1 → Pen K G1 (b + xs.length) o1 → ys.Perm xs → Q (.ref l) H1
end
end LW
namespace LW
open PySem PySem.Spec PyProof.Rows L2 Ys
end LW
namespace LW
open PySem PySem.Spec PyProof.Rows L2 Ys

/-! ### what the words' functions tell -/
def abcL : List Nat := (("abcdefghijklmnopqrstuvwxyz" : Str)).cps.toList
def wordS (s : Str) : Bool := decide (1 ≤ s.length) && (decide (s.length ≤ 8) && s.cps.toList.all fun c => decide (c ∈ abcL))
def isStrD : PyData → Bool
  | .str _ => true
  | _ => false
def wordD : PyData → Bool
  | .str s => wordS s
  | _ => false
def intD : PyData → Bool
  | .int _ => true
  | _ => false
def listD : PyData → Bool
  | .list _ => true
  | .tuple _ => true
  | _ => false
def itemsD : PyData → List PyData
  | .list ds => ds
  | .tuple ds => ds
  | _ => []
theorem wordD_ns {d : PyData} (h : isStrD d = false) : wordD d = false := by cases d <;> first | rfl | cases h
theorem kit_str (d : PyData) : kitB (tyD d) "str" = some (isStrD d) := by cases d <;> (simp only [tyD, isStrD]; decide +kernel)
theorem all_map_bl {α : Type} (f : α → Bool) (l : List α) : (l.map f).all id = l.all f := by rw [List.all_map]; rfl
def ShortD (d : PyData) : Prop := ∀ s, d = .str s → s.length ≤ 100000
section
variable {P : Program} {w : World} {K : PySem.W.Frag} {mg : Str → Option Value} {base : Heap} {f : Addr} {fd : FuncData}
def spWord (K : PySem.W.Frag) : Sp := fun vs H Q _ => ∃ G M v d, vs = [v] ∧ Zp G M H ∧ Dt K G v d ∧ ShortD d ∧ ∀ G1 H1, Zp G1 M H1 → Same G G1 → Q (.bl (wordD d)) H1
theorem ok_is_word (T : Nm K mg) (F : FnP K "is_word" s_is_word f fd) : FnOk P w K mg base CX0 1 f fd ["value"] (spWord K) := by
  have nd : N_is_word.Nodup := sc_is_word.nd
  refine F.ok sc_is_word (fun vs H Q E h => ?_) (fun cdv A outer s H vs Q E hr h => ?_)
  · obtain ⟨G, M, v, d, rfl, _⟩ := h
    rfl
  have hu := hr.units
  refine ⟨_, PSs.nox   (pss_cons (ps_if (PW.pt (pw_or (pt_not (pt_val (pe_callB (kc_isi (K := K)) (by rfl) T.b_isinstance boot_isinstance (pa_cons (pv 0) (pa_cons (pe_bltn (v := .ty "str") (by rfl) T.b_str boot_str rfl) pa_nil))))) (pw_or1 (pt_not (pt_chain o_le o_le pe_int (pe_callB (kc_len (K := K) (P := P) (w := w)) (by rfl) T.b_len PySem.boot_len (pa_cons (pv 0) pa_nil)) (pe_gC T.g_LONGEST_WORD (by rfl))))))) (pss_one (ps_ret pe_bl)) pss_nil)
    (pss_one (ps_ret (pe_callB (kc_all (K := K) rfl) (by rfl) T.b_all boot_all (pa_cons (pe_lc (own := [("letter", 1)]) (tt := tYes) rfl nd (k_any (K := K) (pv 0)) (blkOk_by (N := N_is_word) (sc := defScope s_is_word) (by decide +kernel)) (fun _ _ _ _ _ => (pg_name (i := 1) nd rfl (by first | exact .inl rfl | exact .inr rfl))) (fun _ _ _ _ _ => pts_nil) (fun _ _ _ _ _ => (pe_cmpR (k_in (K := K)) (pv 1) (pe_gC T.g_LETTERS (by rfl)) (by rfl)))) pa_nil))))), ?_⟩
  obtain ⟨G, M, v, d, rfl, z, hd, hs, q⟩ := h
  repeat (walk_at "z")
  refine z_isi (.ty "str") (hd.up z.sub).ty (kit_ty (kit_str d)) ?_
  cases hi : isStrD d with
  | false =>
    repeat (walk_at "z")
    have := q G H z (Same.refl G)
    rw [wordD_ns hi] at this
    exact this
  | true =>
    cases hd with
    | str t =>
      have hl := hs t rfl
      repeat (walk_at "z")
      refine z_lenS hl ?_
      repeat (walk_at "z")
      by_cases c1 : 1 ≤ t.length
      · rw [decide_eq_true (show (1 : Int) ≤ (t.length : Int) by omega)]
        repeat (walk_at "z")
        by_cases c2 : t.length ≤ 8
        · rw [decide_eq_true (show (t.length : Int) ≤ 8 by omega)]
          repeat (walk_at "z")
          refine z_anyS ?_
          repeat (walk_at "z")
          refine z_itS ?_
          refine lc_src src_S (fun i G' M' acc => M' = M ∧ G' = G ∧ acc = ((t.cps.toList.take i).map fun c => V.bl (decide (c ∈ abcL)))) z ⟨rfl, rfl, rfl⟩ (fun _ _ _ _ _ _ _ _ => trivial) ?_ ?_
          · rintro i x G2 M2 acc Dl H2 hx ⟨rfl, rfl, rfl⟩ z2
            obtain ⟨c, hc, rfl⟩ : ∃ c, t.cps.toList[i]? = some c ∧ x = V.str ⟨#[c]⟩ := by
              unfold chrV at hx
              rw [List.getElem?_map] at hx
              cases e : t.cps.toList[i]? with
              | none => rw [e] at hx; cases hx
              | some c => rw [e] at hx; exact ⟨c, rfl, (Option.some.inj hx).symm⟩
            repeat (walk_at "z")
            refine ⟨by rfl, ?_⟩
            repeat (walk_at "z")
            refine z_inS ?_
            refine z_laid z2 (by rw [List.length_map, List.length_take, Array.length_toList]; show min _ t.length ≤ _; omega) ⟨rfl, rfl, ?_⟩
            rw [List.take_add_one, hc]
            simp [abcL]
          · rintro p2 G2 M2 acc G3 H3 ⟨rfl, rfl, rfl⟩ s3 z3 e3
            rw [chrV_len, show t.length = t.cps.toList.length from (Array.length_toList).symm, List.take_length] at e3
            repeat (walk_at "z")
            refine z_all (bs := t.cps.toList.map fun c => decide (c ∈ abcL)) z3 (SqL.of (by rw [List.map_map]; exact e3)) ?_
            have := q G3 H3 z3 s3
            rw [all_map_bl]
            have e : wordD (.str t) = t.cps.toList.all fun c => decide (c ∈ abcL) := by
              show (decide _ && (decide _ && _)) = _
              rw [decide_eq_true c1, decide_eq_true c2]
              rfl
            rw [e] at this
            exact this
        · rw [decide_eq_false (show ¬ (t.length : Int) ≤ 8 by omega)]
          repeat (walk_at "z")
          have := q G H z (Same.refl G)
          have e : wordD (.str t) = false := by
            show (decide _ && (decide _ && _)) = _
            rw [decide_eq_false c2, Bool.false_and, Bool.and_false]
          rw [e] at this
          exact this
      · rw [decide_eq_false (show ¬ (1 : Int) ≤ (t.length : Int) by omega)]
        repeat (walk_at "z")
        have := q G H z (Same.refl G)
        have e : wordD (.str t) = false := by
          show (decide _ && (decide _ && _)) = _
          rw [decide_eq_false c1, Bool.false_and]
        rw [e] at this
        exact this
    | _ => cases hi
def spAsc (K : PySem.W.Frag) : Sp := fun vs H Q _ => ∃ G M a, ∃ ss : List Str, vs = [.ref a] ∧ Zp G M H ∧ SqL K H a (ss.map V.str) ∧ ss.length < 64 ∧
  ∀ p G1 H1, Zp G1 M H1 → Same G G1 → SqT K G1 p ((asc ss).map V.str) → Q (.ref p) H1
theorem ok_asc (T : Nm K mg) (F : FnP K "ascending" s_ascending f fd) : FnOk P w K mg base CX0 1 f fd ["words"] (spAsc K) := by
  have nd : N_ascending.Nodup := sc_ascending.nd
  refine F.ok sc_ascending (fun vs H Q E h => ?_) (fun cdv A outer s H vs Q E hr h => ?_)
  · obtain ⟨G, M, a, ss, rfl, _⟩ := h
    rfl
  have hu := hr.units
  refine ⟨_, PSs.nox   (pss_one (ps_ret (pe_callTy (kc_tuple (K := K)) (by rfl) T.b_tuple boot_tuple (pa_cons (pe_callB (kc_sorted (K := K) (P := P) (w := w) rfl) (by rfl) T.b_sorted boot_sorted (pa_cons (pe_callTy (kc_set (K := K) (P := P) (w := w) rfl) (by rfl) T.b_set boot_set (pa_cons (pv 0) pa_nil)) pa_nil)) pa_nil)))), ?_⟩
  obtain ⟨G, M, a, ss, rfl, z, hS, hs, q⟩ := h
  repeat (walk_at "z")
  refine z_setH z (.inl hS) (by omega) fun p l G2 H2 z2 s2 e2 m2 nd2 l2 => ?_
  repeat (walk_at "z")
  refine z_sortX z2 e2 m2 nd2 (by omega) fun p3 G3 H3 z3 s3 e3 => ?_
  repeat (walk_at "z")
  exact z_tupL z3 (SqL.of e3) fun p4 G4 H4 z4 s4 h4 => q p4 G4 H4 z4 ((s2.trans s3).trans s4) h4
end
end LW
namespace LW
open PySem PySem.Spec PyProof.Rows L2 Ys

def boolD : PyData → Bool
  | .bool _ => true
  | _ => false
theorem kit_int (d : PyData) : kitB (tyD d) "int" = some (intD d || boolD d) := by cases d <;> (simp only [tyD, intD, boolD]; decide +kernel)
theorem kit_bool (d : PyData) : kitB (tyD d) "bool" = some (boolD d) := by cases d <;> (simp only [tyD, boolD]; decide +kernel)
def isLD : PyData → Bool
  | .list _ => true
  | _ => false
def isTDV : PyData → Bool
  | .tuple _ => true
  | _ => false
theorem kit_list {K : PySem.W.Frag} (d : PyData) : PySem.W.kitAny K (.type (tyD d)) [.type "list", .type "tuple"] = some (listD d) := by
  have k1 : kitB (tyD d) "list" = some (isLD d) := by cases d <;> (simp only [tyD, isLD]; decide +kernel)
  have k2 : kitB (tyD d) "tuple" = some (isTDV d) := by cases d <;> (simp only [tyD, isTDV]; decide +kernel)
  refine kitAny_cons (kit_ty k1) (fun h => kitAny_cons (kit_ty k2) (fun h2 => ?_) fun h2 => ?_) fun h => ?_
  · rw [kitAny_nil]
    cases d <;> first | rfl | (cases h2; done) | (cases h; done)
  · cases d <;> first | rfl | cases h2
  · cases d <;> first | rfl | cases h
def withinD (a b : Int) : PyData → Bool
  | .int i => decide (a ≤ i) && decide (i ≤ b)
  | _ => false
def moreD (m : Option Int) (ds : List PyData) : Bool := match m with
  | none => true
  | some m => decide ((ds.length : Int) ≤ m)
def wordsD (m : Option Int) (d : PyData) : Bool := listD d && (moreD m (itemsD d) && (itemsD d).all wordD)
def strOf : PyData → Str
  | .str s => s
  | _ => ""
def diffD (m : Option Int) (d : PyData) : Bool := wordsD m d && decide ((dd ((itemsD d).map strOf)).length = (itemsD d).length)
def mV : Option Int → V
  | none => .non
  | some i => .int i
section
variable {P : Program} {w : World} {K : PySem.W.Frag} {mg : Str → Option Value} {base : Heap} {f : Addr} {fd : FuncData}
def spInt (K : PySem.W.Frag) : Sp := fun vs H Q _ => ∃ G M v d, vs = [v] ∧ Zp G M H ∧ Dt K G v d ∧ Q (.bl (intD d)) H
theorem ok_is_integer (T : Nm K mg) (F : FnP K "is_integer" s_is_integer f fd) : FnOk P w K mg base CX0 1 f fd ["value"] (spInt K) := by
  have nd : N_is_integer.Nodup := sc_is_integer.nd
  refine F.ok sc_is_integer (fun vs H Q E h => ?_) (fun cdv A outer s H vs Q E hr h => ?_)
  · obtain ⟨G, M, v, d, rfl, _⟩ := h
    rfl
  have hu := hr.units
  refine ⟨_, PSs.nox   (pss_one (ps_ret (pe_and (pe_callB (kc_isi (K := K)) (by rfl) T.b_isinstance boot_isinstance (pa_cons (pv 0) (pa_cons (pe_bltn (v := .ty "int") (by rfl) T.b_int boot_int rfl) pa_nil))) (pe_one (pe_not (pe_callB (kc_isi (K := K)) (by rfl) T.b_isinstance boot_isinstance (pa_cons (pv 0) (pa_cons (pe_bltn (v := .ty "bool") (by rfl) T.b_bool boot_bool rfl) pa_nil)))))))), ?_⟩
  obtain ⟨G, M, v, d, rfl, z, hd, q⟩ := h
  repeat (walk_at "z")
  refine z_isi (.ty "int") (hd.up z.sub).ty (kit_ty (kit_int d)) ?_
  repeat (walk_at "z")
  have e : intD d = ((intD d || boolD d) && !boolD d) := by cases d <;> rfl
  cases h1 : (intD d || boolD d) with
  | false =>
    repeat (walk_at "z")
    rw [e, h1] at q
    exact q
  | true =>
    repeat (walk_at "z")
    refine z_isi (.ty "bool") (hd.up z.sub).ty (kit_ty (kit_bool d)) ?_
    repeat (walk_at "z")
    rw [e, h1, Bool.true_and] at q
    exact q
def spWithin (K : PySem.W.Frag) : Sp := fun vs H Q _ => ∃ G M v d a b, vs = [v, .int a, .int b] ∧ Zp G M H ∧ Dt K G v d ∧ Q (.bl (withinD a b d)) H
theorem ok_is_within (T : Nm K mg) (C_is_integer : Own P w K mg base CX0 1 "is_integer" ["value"] (spInt K)) (F : FnP K "is_within" s_is_within f fd) : FnOk P w K mg base CX0 2 f fd ["value", "least", "most"] (spWithin K) := by
  have nd : N_is_within.Nodup := sc_is_within.nd
  refine F.ok sc_is_within (fun vs H Q E h => ?_) (fun cdv A outer s H vs Q E hr h => ?_)
  · obtain ⟨G, M, v, d, a, b, rfl, _⟩ := h
    rfl
  have hu := hr.units
  refine ⟨_, PSs.nox   (pss_one (ps_ret (pe_and (pe_own C_is_integer (hr.mono (by omega)) (by rfl) pass0 (pa_cons (pv 0) pa_nil)) (pe_one (pe_chain o_le o_le (pv 1) (pv 0) (pv 2)))))), ?_⟩
  obtain ⟨G, M, v, d, a, b, rfl, z, hd, q⟩ := h
  repeat (walk_at "z")
  refine ⟨G, M, v, d, rfl, z, hd, ?_⟩
  repeat (walk_at "z")
  cases hi : intD d with
  | false =>
    repeat (walk_at "z")
    have e : withinD a b d = false := by cases d <;> first | rfl | cases hi
    rw [e] at q
    exact q
  | true =>
    cases hd with
    | int i =>
      repeat (walk_at "z")
      refine z_b2 (fun c => ?_) (fun c => ?_)
      · repeat (walk_at "z")
        have e : withinD a b (.int i) = decide (i ≤ b) := by
          show (decide (a ≤ i) && _) = _
          rw [c]
          rfl
        rw [e] at q
        exact q
      · have e : withinD a b (.int i) = false := by
          show (decide (a ≤ i) && _) = _
          rw [c]
          rfl
        rw [e] at q
        exact q
    | _ => cases hi
def spIsList (K : PySem.W.Frag) : Sp := fun vs H Q _ => ∃ G M v d, vs = [v] ∧ Zp G M H ∧ Ar K G M v d ∧ ∀ G1 H1, Zp G1 M H1 → Same G G1 → Q (.bl (listD d)) H1
abbrev OwnWV (P : Program) (w : World) (K : PySem.W.Frag) (mg : Str → Option Value) (base : Heap) : Prop := Own P w K mg base CX0 1 "is_word" ["value"] (spWord K)
abbrev OwnL (P : Program) (w : World) (K : PySem.W.Frag) (mg : Str → Option Value) (base : Heap) : Prop := Own P w K mg base CX0 1 "is_list" ["value"] (spIsList K)
def FineD (d : PyData) : Prop := (itemsD d).length ≤ 500 ∧ ∀ e ∈ itemsD d, ShortD e
def spAreWords (K : PySem.W.Frag) : Sp := fun vs H Q _ => ∃ G M v d m, vs = [v, mV m] ∧ Zp G M H ∧ Ar K G M v d ∧ FineD d ∧ ∀ G1 H1, Zp G1 M H1 → Same G G1 → Q (.bl (wordsD m d)) H1
theorem words_lc {G : Hp} {M : List (Addr × HO)} {H : Hp} {J : It} {xs : List V} {ds : List PyData} {OK : Hp → Prop} {σ : L2.St} {Q : VK} {v mv : V} (S : Src J xs OK) (hd : Dts K G xs ds) (z : Zp G M H) (hf : ds.length ≤ 500) (hs : ∀ e ∈ ds, ShortD e)
    (ok : ∀ G' M1 H', Same G G' → Zp G' (M ++ M1) H' → OK H') (q : ∀ p G1 H1, Zp G1 M H1 → Same G G1 → G1 p = some (.lst ((ds.map wordD).map V.bl)) → Q (.ref p) H1) (hσ : σ = [some v, some mv, none]) :
    LcW J (gName 2) tYes (tCall (spWord K) [] E0 (tCons (tVar 2) tNil)) [2] σ H Q := by
  subst hσ
  have hl := hd.len (ds := ds)
  refine lc_src S (fun i G' M' acc => M' = M ∧ Same G G' ∧ acc = ((ds.take i).map wordD).map V.bl) z ⟨rfl, Same.refl G, rfl⟩ ?_ ?_ ?_
  · rintro i G' M' M1 acc H' ⟨rfl, s1, _⟩ z'
    exact ok G' M1 H' s1 z'
  · rintro i x G2 M2 acc Dl H2 hx ⟨rfl, s2, rfl⟩ z2
    obtain ⟨d, h1, h2⟩ := hd.at_ hx
    repeat (walk_at "z")
    refine ⟨by rfl, ?_⟩
    repeat (walk_at "z")
    refine ⟨G2, _, x, d, rfl, z2, h2.up s2, hs d (List.mem_of_getElem? h1), fun G3 H3 z3 s3 => ?_⟩
    refine z_laid z3 (by rw [List.length_map, List.length_map, List.length_take]; omega) ⟨rfl, s2.trans s3, ?_⟩
    rw [List.take_add_one, h1]
    simp
  · rintro p2 G2 M2 acc G3 H3 ⟨rfl, s2, rfl⟩ s3 z3 e3
    rw [hl, List.take_length] at e3
    exact q p2 G3 H3 z3 (s2.trans s3) e3
end
end LW
namespace LW
open PySem PySem.Spec PyProof.Rows L2 Ys

/-! ### numbers by name -/
def lookN : List (Str × Int) → Str → Int
  | [], _ => 0
  | q :: r, s => if q.1 = s then q.2 else lookN r s
def nK (ns : List (Str × Int)) : List (Key × V) := ns.map fun q => (.inr q.1, .int q.2)
theorem nK_keys (ns : List (Str × Int)) : (nK ns).map (·.1) = (ns.map (·.1)).map .inr := by
  unfold nK
  rw [List.map_map, List.map_map]
  rfl
theorem nK_len (ns : List (Str × Int)) : (nK ns).length = ns.length := by unfold nK; rw [List.length_map]
theorem lookN_out : ∀ {ns : List (Str × Int)} {s : Str}, s ∉ ns.map (·.1) → lookN ns s = 0
  | [], _, _ => rfl
  | q :: r, s, h => by
    rw [List.map_cons, List.mem_cons, not_or] at h
    unfold lookN
    rw [if_neg (fun e => h.1 e.symm)]
    exact lookN_out h.2
theorem valV_nK : ∀ (ns : List (Str × Int)) (s : Str), s ∈ ns.map (·.1) → valV (nK ns) (.inr s) = some (.int (lookN ns s))
  | [], _, h => by cases h
  | q :: r, s, h => by
    show valV ((.inr q.1, .int q.2) :: nK r) (.inr s) = some (.int (if q.1 = s then q.2 else lookN r s))
    by_cases c : q.1 = s
    · rw [if_pos c]
      exact valV_pos (by rw [c])
    · rw [if_neg c, valV_neg (fun e => c (Sum.inr.inj e))]
      rw [List.map_cons, List.mem_cons] at h
      exact valV_nK r s (h.elim (fun e => absurd e.symm c) id)
theorem valV_nKno {ns : List (Str × Int)} {s : Str} (h : s ∉ ns.map (·.1)) : valV (nK ns) (.inr s) = none := valV_out (by
  rw [nK_keys]
  intro hm
  obtain ⟨y, hy, e⟩ := List.mem_map.mp hm
  obtain rfl : y = s := Sum.inr.inj e
  exact h hy)
theorem getD_nK (ns : List (Str × Int)) (s : Str) : (valV (nK ns) (.inr s)).getD (.int 0) = .int (lookN ns s) := by
  by_cases c : s ∈ ns.map (·.1)
  · rw [valV_nK ns s c]; rfl
  · rw [valV_nKno c, lookN_out c]; rfl
theorem lookN_in : ∀ {ns : List (Str × Int)} {s : Str}, s ∈ ns.map (·.1) → (s, lookN ns s) ∈ ns
  | [], _, h => by cases h
  | q :: r, s, h => by
    unfold lookN
    by_cases c : q.1 = s
    · rw [if_pos c, ← c]; exact List.mem_cons_self
    · rw [if_neg c]
      rw [List.map_cons, List.mem_cons] at h
      exact List.mem_cons_of_mem _ (lookN_in (h.elim (fun e => absurd e.symm c) id))
theorem lookN_of : ∀ {ns : List (Str × Int)} {q : Str × Int}, (ns.map (·.1)).Nodup → q ∈ ns → lookN ns q.1 = q.2
  | [], _, _, h => by cases h
  | p :: r, q, nd, h => by
    obtain ⟨n1, n2⟩ := List.nodup_cons.mp nd
    unfold lookN
    rcases List.mem_cons.mp h with rfl | h
    · rw [if_pos rfl]
    · rw [if_neg (fun e => n1 (by show p.1 ∈ _; rw [e]; exact List.mem_map.mpr ⟨q, h, rfl⟩))]
      exact lookN_of n2 h
theorem lookN_fun (f : Str → Int) (s : Str) : ∀ l : List Str, lookN (l.map fun x => (x, f x)) s = if s ∈ l then f s else 0
  | [] => rfl
  | x :: r => by
    rw [List.map_cons]
    unfold lookN
    by_cases c : x = s
    · rw [if_pos c, if_pos (by rw [c]; exact List.mem_cons_self), c]
    · rw [if_neg c, lookN_fun f s r]
      by_cases d : s ∈ r
      · rw [if_pos d, if_pos (List.mem_cons_of_mem _ d)]
      · rw [if_neg d, if_neg (fun h => (List.mem_cons.mp h).elim (fun e => c e.symm) d)]
def posK (ns : List (Str × Int)) : List Str := (asc (ns.map (·.1))).filter fun s => decide (0 < lookN ns s)
def posL (ns : List (Str × Int)) : List (Str × Int) := (posK ns).map fun s => (s, lookN ns s)
theorem posK_mem {ns : List (Str × Int)} {s : Str} : s ∈ posK ns ↔ 0 < lookN ns s := by
  unfold posK
  rw [List.mem_filter, asc_mem, decide_eq_true_eq]
  refine ⟨fun h => h.2, fun h => ⟨?_, h⟩⟩
  by_cases c : s ∈ ns.map (·.1)
  · exact c
  · rw [lookN_out c] at h
    exact absurd h (by decide)
theorem posK_nodup (ns : List (Str × Int)) : (posK ns).Nodup := (asc_nodup _).filter _
theorem posK_pw (ns : List (Str × Int)) : (posK ns).Pairwise (fun a b => leS a b = true) := (asc_pw _).filter _
theorem posL_keys (ns : List (Str × Int)) : (posL ns).map (·.1) = posK ns := by
  unfold posL
  rw [List.map_map]
  show (posK ns).map (fun s => s) = posK ns
  rw [List.map_id']
theorem ascOf {ys xs : List Str} (h : ys.Pairwise (fun a b => leS a b = true)) (nd : ys.Nodup) (m : ∀ x, x ∈ ys ↔ x ∈ xs) : ys = asc xs :=
  perm_one ((List.perm_ext_iff_of_nodup nd (asc_nodup xs)).mpr fun x => by rw [m x, asc_mem]) h (asc_pw xs)
theorem posL_ext {a c : List (Str × Int)} (h : ∀ s, lookN a s = lookN c s) : posL a = posL c := by
  have e : posK a = posK c := by
    have e1 : posK a = asc (posK c) := ascOf (posK_pw a) (posK_nodup a) fun x => by rw [posK_mem, posK_mem, h]
    have e2 : posK c = asc (posK c) := ascOf (posK_pw c) (posK_nodup c) fun x => Iff.rfl
    rw [e1, ← e2]
  unfold posL
  rw [e]
  exact List.map_congr_left fun s _ => by rw [h]
theorem lookN_posL {ns : List (Str × Int)} (h : ∀ s, 0 ≤ lookN ns s) (s : Str) : lookN (posL ns) s = lookN ns s := by
  unfold posL
  rw [lookN_fun]
  by_cases c : s ∈ posK ns
  · rw [if_pos c]
  · rw [if_neg c]
    have := h s
    have n : ¬ 0 < lookN ns s := fun z => c (posK_mem.mpr z)
    omega
theorem posL_idem {ns : List (Str × Int)} (h : ∀ s, 0 ≤ lookN ns s) : posL (posL ns) = posL ns := posL_ext (lookN_posL h)
structure NsOk (ns : List (Str × Int)) : Prop where
  nd : (ns.map (·.1)).Nodup
  wd : ∀ q ∈ ns, wordS q.1 = true
  lo : ∀ q ∈ ns, 0 ≤ q.2 ∧ q.2 ≤ 1000000000000000000000000000000
  ln : ns.length ≤ 60
theorem NsOk.pos {ns : List (Str × Int)} (h : NsOk ns) (s : Str) : 0 ≤ lookN ns s := by
  by_cases c : s ∈ ns.map (·.1)
  · exact (h.lo _ (lookN_in c)).1
  · rw [lookN_out c]; decide
theorem NsOk.top {ns : List (Str × Int)} (h : NsOk ns) (s : Str) : lookN ns s ≤ 1000000000000000000000000000000 := by
  by_cases c : s ∈ ns.map (·.1)
  · exact (h.lo _ (lookN_in c)).2
  · rw [lookN_out c]; decide
theorem asc_lenS (l : List Str) : (asc l).length ≤ l.length := by
  have h1 : (asc l).length = (dd l).length := (List.mergeSort_perm _ _).length_eq
  have h2 : ∀ l : List Str, (dd l).length ≤ l.length := by
    intro l
    induction l with
    | nil => exact Nat.le_refl _
    | cons x r ih =>
      show (if x ∈ r then dd r else x :: dd r).length ≤ _
      split
      · exact Nat.le_succ_of_le ih
      · exact Nat.succ_le_succ ih
  rw [h1]
  exact h2 l
theorem NsOk.posL {ns : List (Str × Int)} (h : NsOk ns) : NsOk (posL ns) := by
  have hl : (LW.posL ns).length ≤ ns.length := by
    unfold LW.posL posK
    rw [List.length_map]
    refine Nat.le_trans (List.length_filter_le _ _) (Nat.le_trans (asc_lenS _) ?_)
    rw [List.length_map]
    exact Nat.le_refl _
  have hm : ∀ q ∈ LW.posL ns, q.1 ∈ ns.map (·.1) ∧ q.2 = lookN ns q.1 := fun q hq => by
    obtain ⟨s, hs, rfl⟩ := List.mem_map.mp hq
    exact ⟨asc_mem.mp (List.mem_filter.mp hs).1, rfl⟩
  refine ⟨by rw [posL_keys]; exact posK_nodup ns, fun q hq => ?_, fun q hq => ?_, Nat.le_trans hl h.ln⟩
  · obtain ⟨q', h1, h2⟩ := List.mem_map.mp (hm q hq).1
    rw [← h2]
    exact h.wd q' h1
  · rw [(hm q hq).2]
    exact ⟨h.pos _, h.top _⟩
theorem z_dgU {G H : Hp} {M : List (Addr × HO)} {d : Addr} {kvs : List (Key × V)} {k : Str} {v : V} {Q : VK} (z : Zp G M H) (h : FzD G d kvs) (e : valV kvs (.inr k) = some v) (q : Q v H) : DgW (.ref d) (.str k) H Q := ⟨d, v, rfl, .inl ⟨kvs, .inr k, h.rd z, rfl, e.symm⟩, q⟩
theorem shortS {s : Str} (h : wordS s = true) : ShortD (.str s) := by
  rintro s' e
  cases e
  unfold wordS at h
  simp only [Bool.and_eq_true, decide_eq_true_eq] at h
  omega
section
variable {P : Program} {w : World} {K : PySem.W.Frag} {mg : Str → Option Value} {base : Heap} {f : Addr} {fd : FuncData} {C : Addr}
def spAscF (K : PySem.W.Frag) : Sp := fun vs H Q _ => ∃ G M d kvs, ∃ ks : List Str, vs = [.ref d] ∧ Zp G M H ∧ FzD G d kvs ∧ kvs.map (·.1) = ks.map .inr ∧ ks.length < 64 ∧
  ∀ p G1 H1, Zp G1 M H1 → Same G G1 → SqT K G1 p ((asc ks).map V.str) → Q (.ref p) H1
theorem ok_ascF (T : Nm K mg) (F : FnP K "ascending" s_ascending f fd) : FnOk P w K mg base CX0 1 f fd ["words"] (spAscF K) := by
  have nd : N_ascending.Nodup := sc_ascending.nd
  refine F.ok sc_ascending (fun vs H Q E h => ?_) (fun cdv A outer s H vs Q E hr h => ?_)
  · obtain ⟨G, M, d, kvs, ks, rfl, _⟩ := h
    rfl
  have hu := hr.units
  refine ⟨_, PSs.nox   (pss_one (ps_ret (pe_callTy (kc_tuple (K := K)) (by rfl) T.b_tuple boot_tuple (pa_cons (pe_callB (kc_sorted (K := K) (P := P) (w := w) rfl) (by rfl) T.b_sorted boot_sorted (pa_cons (pe_callTy (kc_setD (P := P) (w := w) rfl) (by rfl) T.b_set boot_set (pa_cons (pv 0) pa_nil)) pa_nil)) pa_nil)))), ?_⟩
  obtain ⟨G, M, d, kvs, ks, rfl, z, hd, hk, hs, q⟩ := h
  repeat (walk_at "z")
  refine z_setD z hd hk (by omega) fun p l G2 H2 z2 s2 e2 m2 nd2 l2 => ?_
  repeat (walk_at "z")
  refine z_sortX z2 e2 m2 nd2 (by omega) fun p3 G3 H3 z3 s3 e3 => ?_
  repeat (walk_at "z")
  exact z_tupL z3 (SqL.of e3) fun p4 G4 H4 z4 s4 h4 => q p4 G4 H4 z4 ((s2.trans s3).trans s4) h4
def spValid (K : PySem.W.Frag) : Sp := fun vs H Q _ => ∃ G M d ns, vs = [.ref d] ∧ Zp G M H ∧ FzD G d (nK ns) ∧ NsOk ns ∧ ∀ p G1 H1, Zp G1 M H1 → Same G G1 → FzD G1 p (nK (posL ns)) → Q (.ref p) H1
theorem ok_valid (T : Nm K mg) (C_ascF : Own P w K mg base CX0 1 "ascending" ["words"] (spAscF K)) (C_is_word : Own P w K mg base CX0 1 "is_word" ["value"] (spWord K)) (C_is_within : Own P w K mg base CX0 2 "is_within" ["value", "least", "most"] (spWithin K)) (F : FnP K "valid_numbers" s_valid_numbers f fd) :
    FnOk P w K mg base CX0 3 f fd ["numbers"] (spValid K) := by
  have nd : N_valid_numbers.Nodup := sc_valid_numbers.nd
  refine F.ok sc_valid_numbers (fun vs H Q E h => ?_) (fun cdv A outer s H vs Q E hr h => ?_)
  · obtain ⟨G, M, d, ns, rfl, _⟩ := h
    rfl
  have hu := hr.units
  refine ⟨_, PSs.nox   (pss_cons (ps_for PassesOwn.never rfl (k_any (K := K) (pe_own C_ascF (hr.mono (by omega)) (by rfl) pass0 (pa_cons (pv 0) pa_nil))) (pg_name (i := 1) nd rfl (by first | exact .inl rfl | exact .inr rfl)) (pss_one (ps_if (pt_not (pt_val (pe_own C_is_word (hr.mono (by omega)) (by rfl) pass0 (pa_cons (pv 1) pa_nil)))) (pss_one ps_never) pss_nil)))
    (pss_cons (ps_for PassesOwn.never rfl (k_any (K := K) (pe_own C_ascF (hr.mono (by omega)) (by rfl) pass0 (pa_cons (pv 0) pa_nil))) (pg_name (i := 1) nd rfl (by first | exact .inl rfl | exact .inr rfl)) (pss_one (ps_if (pt_not (pt_val (pe_own C_is_within (hr.mono (by omega)) (by rfl) pass0 (pa_cons (pe_dget (hu_of hr) (pv 0) (pv 1) (fun _ _ => rfl)) (pa_cons pe_int (pa_cons (pe_gC T.g_MOST_PERSONS (by rfl)) pa_nil)))))) (pss_one ps_never) pss_nil)))
    (pss_one (ps_ret (pe_frz (pe_dc (own := [("name", 1)]) rfl nd (k_any (K := K) (pe_own C_ascF (hr.mono (by omega)) (by rfl) pass0 (pa_cons (pv 0) pa_nil))) (blkOk_by (N := N_valid_numbers) (sc := defScope s_valid_numbers) (by decide +kernel)) (fun _ _ _ _ _ => (pg_name (i := 1) nd rfl (by first | exact .inl rfl | exact .inr rfl))) (fun _ _ _ _ _ => pts_one (pt_cmpR o_gt (pe_dget (hu_of hr) (pv 0) (pv 1) (fun _ _ => rfl)) pe_int (nomark _))) (fun _ _ _ _ _ => (pv 1)) (fun _ _ _ _ _ => (pe_dget (hu_of hr) (pv 0) (pv 1) (fun _ _ => rfl))))))))), ?_⟩
  obtain ⟨G, M, d, ns, rfl, z, hd, ok, q⟩ := h
  have hln := ok.ln
  have hkl : (ns.map (·.1)).length < 64 := by rw [List.length_map]; omega
  have key : ∀ {j : Nat} {y : V}, ((asc (ns.map (·.1))).map V.str)[j]? = some y → ∃ s, (asc (ns.map (·.1)))[j]? = some s ∧ y = .str s ∧ s ∈ ns.map (·.1) := fun {j y} hy => by
    rw [List.getElem?_map] at hy
    obtain ⟨s, hs, rfl⟩ := Option.map_eq_some_iff.mp hy
    exact ⟨s, hs, rfl, asc_mem.mp (List.mem_of_getElem? hs)⟩
  repeat (walk_at "z")
  refine z_anyT ?_
  repeat (walk_at "z")
  refine ⟨G, M, d, _, _, rfl, z, hd, nK_keys ns, hkl, fun p1 G1 H1 z1 s1 e1 => ?_⟩
  refine z_itT z1 e1 ?_
  refine for_src src_T (fun i σ G' M' => ∃ k1, M' = M ∧ Same G1 G' ∧ σ = [some (.ref d), k1]) z1 ⟨_, rfl, Same.refl _, rfl⟩ (fun i σ G' M' H' ⟨_, _, s', _⟩ z' => z'.seqT (upT s' e1)) ?_ ?_
  · rintro j y σ G' M' H' hy ⟨k1, rfl, s', rfl⟩ z'
    obtain ⟨s, hs, rfl, hm⟩ := key hy
    have hw := ok.wd _ (lookN_in hm)
    repeat (walk_at "z")
    refine ⟨G', _, .str s, .str s, rfl, z', .str s, shortS hw, fun G2 H2 z2 s2 => ?_⟩
    rw [show wordD (.str s) = true from hw]
    repeat (walk_at "z")
    exact ⟨G2, _, z2, _, rfl, s'.trans s2, rfl⟩
  rintro σ G2 M2 H2 ⟨k1, rfl, s2, rfl⟩ z2
  have s12 := s1.trans s2
  repeat (walk_at "z")
  refine z_anyT ?_
  repeat (walk_at "z")
  refine ⟨G2, _, d, _, _, rfl, z2, hd.up s12, nK_keys ns, hkl, fun p3 G3 H3 z3 s3 e3 => ?_⟩
  refine z_itT z3 e3 ?_
  refine for_src src_T (fun i σ G' M' => ∃ k1, M' = M2 ∧ Same G3 G' ∧ σ = [some (.ref d), k1]) z3 ⟨_, rfl, Same.refl _, rfl⟩ (fun i σ G' M' H' ⟨_, _, s', _⟩ z' => z'.seqT (upT s' e3)) ?_ ?_
  · rintro j y σ G' M' H' hy ⟨k1, rfl, s', rfl⟩ z'
    obtain ⟨s, hs, rfl, hm⟩ := key hy
    have hn := ok.lo _ (lookN_in hm)
    repeat (walk_at "z")
    refine z_dgU z' ((hd.up (s12.trans s3)).up s') (valV_nK ns s hm) ?_
    repeat (walk_at "z")
    refine ⟨G', _, _, .int (lookN ns s), _, _, rfl, z', .int _, ?_⟩
    rw [show withinD 0 1000000000000000000000000000000 (.int (lookN ns s)) = true by simp [withinD, hn.1, hn.2]]
    repeat (walk_at "z")
    exact ⟨G', _, z', _, rfl, s', rfl⟩
  rintro σ G4 M4 H4 ⟨k1, rfl, s4, rfl⟩ z4
  have s14 := (s12.trans s3).trans s4
  repeat (walk_at "z")
  refine z_anyT ?_
  repeat (walk_at "z")
  refine ⟨G4, _, d, _, _, rfl, z4, hd.up s14, nK_keys ns, hkl, fun p5 G5 H5 z5 s5 e5 => ?_⟩
  refine z_itT z5 e5 ?_
  refine dc_src src_T (fun i G' M' acc => M' = M4 ∧ Same G5 G' ∧ acc = nK ((((asc (ns.map (·.1))).take i).filter fun s => decide (0 < lookN ns s)).map fun s => (s, lookN ns s))) z5 ⟨rfl, Same.refl _, rfl⟩ (fun i G' M' M1 acc H' ⟨_, s', _⟩ z' => z'.seqT (upT s' e5)) ?_ ?_
  · rintro j y G' M' acc Dl H' hy ⟨rfl, s', rfl⟩ z'
    obtain ⟨s, hs, rfl, hm⟩ := key hy
    have hj := (List.getElem?_eq_some_iff.mp hs).1
    have hal := asc_lenS (ns.map (·.1))
    rw [List.length_map] at hal
    have hdd := (hd.up (s14.trans s5)).up s'
    repeat (walk_at "z")
    refine ⟨by rfl, ?_⟩
    repeat (walk_at "z")
    refine z_dgU z' hdd (valV_nK ns s hm) ?_
    repeat (walk_at "z")
    refine z_bd (fun hp => ?_) (fun hp => ?_)
    · repeat (walk_at "z")
      refine z_dgU z' hdd (valV_nK ns s hm) ?_
      refine z_laidD (k := .inr s) z' ?_ ⟨rfl, s', ?_⟩
      · rw [nK_len, List.length_map]
        refine Nat.le_trans (List.length_filter_le _ _) ?_
        rw [List.length_take]
        omega
      · have nin : s ∉ (asc (ns.map (·.1))).take j := fun hm => by
          obtain ⟨i, hi⟩ := List.mem_iff_getElem?.mp hm
          have hij : i < j := by
            have := (List.getElem?_eq_some_iff.mp hi).1
            rw [List.length_take] at this
            omega
          rw [List.getElem?_take_of_lt hij] at hi
          have := (List.getElem?_inj (by exact (List.getElem?_eq_some_iff.mp hi).1) (asc_nodup _)).mp (hi.trans hs.symm)
          omega
        rw [putK_new _ (valV_nKno (fun hm2 => by
          obtain ⟨q', hq', e'⟩ := List.mem_map.mp hm2
          obtain ⟨s'', hs'', rfl⟩ := List.mem_map.mp hq'
          have e'' : s'' = s := e'
          subst e''
          exact nin (List.mem_filter.mp hs'').1)), List.take_add_one, hs, List.filter_append]
        unfold nK
        simp [hp]
    · refine z_leftD z' ⟨rfl, s', ?_⟩
      rw [List.take_add_one, hs, List.filter_append]
      simp [hp]
  · rintro p6 G6 M6 acc H6 ⟨rfl, s6, rfl⟩ z6
    rw [List.length_map, List.take_length] at z6
    refine z_frzL z6 fun G7 H7 z7 s7 f7 => ?_
    exact q p6 G7 H7 z7 (((s14.trans s5).trans s6).trans s7) f7
end
end LW
namespace LW
open PySem PySem.Spec PyProof.Rows L2 Ys

theorem one_line {v : V} : [v].length ≤ sizeLine := (by decide : 1 ≤ sizeLine)
theorem kit_dictS : kitB "dict" "dict" = some true := by decide +kernel
/-! ### staffs -/
structure StC (K : PySem.W.Frag) (C : Addr) : Prop where
  cl : Cls K C
  no : NoAttr K C "own_numbers"
  ha : PySem.W.findIn K (.ref C) "__class__" = some (some (.builtin "object.__class__"))
  hn : PySem.W.specialIn K (.builtin "object.__class__") "__get__" = some (some (.builtin "getset_descriptor.__get__"))
  ht : PySem.W.takesIn K (.builtin "object.__class__") = some true
  hm : PySem.W.mroIn K C (.type "object") = some true
  own : ((PySem.W.clsIn K C).isSome && PySem.W.typeIn K (.ref C) == some (.type "type")) = true
theorem StC.ty {K : PySem.W.Frag} {C : Addr} (h : StC K C) {H : Hp} {a dx : Addr} {fs : List (Str × V)} (e : H a = some (.ins C dx fs)) : TyX K H (.ref a) (.ref C) := .base (.ins e h.cl h.ha h.hn h.ht h.hm)
def StI (G : Hp) (C x : Addr) (ns : List (Str × Int)) : Prop := ∃ dx d, G x = some (.ins C dx [("own_numbers", .ref d)]) ∧ FzD G d (nK ns)
theorem StI.up {G G1 : Hp} {C x : Addr} {ns} (h : StI G C x ns) (s : Same G G1) : StI G1 C x ns := let ⟨dx, d, e, f⟩ := h; ⟨dx, d, s _ _ e, f.up s⟩
section
variable {P : Program} {w : World} {K : PySem.W.Frag} {mg : Str → Option Value} {base : Heap} {f : Addr} {fd : FuncData} {C : Addr}
def spSt0 (K : PySem.W.Frag) (C : Addr) : Sp := fun vs H Q _ => ∃ G M x dx d ns p q, vs = [.ref x, .ref p, .ref q] ∧ Zp G (M ++ [(x, .ins C dx [])]) H ∧ G p = some (.tup [.ref d]) ∧ FzD G d (nK ns) ∧ NsOk ns ∧
  ∀ n G1 H1, Zp G1 (M ++ [(x, .ins C dx [("own_numbers", .ref n)])]) H1 → Same G G1 → FzD G1 n (nK (posL ns)) → Q .non H1
def spSt (K : PySem.W.Frag) (C : Addr) : Sp := fun vs H Q _ => ∃ G M x dx d ns, vs = [.ref x, .ref d] ∧ Zp G (M ++ [(x, .ins C dx [])]) H ∧ FzD G d (nK ns) ∧ NsOk ns ∧
  ∀ n G1 H1, Zp G1 (M ++ [(x, .ins C dx [("own_numbers", .ref n)])]) H1 → Same G G1 → FzD G1 n (nK (posL ns)) → Q .non H1
theorem ok_sinit (T : Nm K mg) (SC : StC K C) (C_valid_numbers : Own P w K mg base CX0 3 "valid_numbers" ["numbers"] (spValid K)) (F : FunD K "__init__" "Staff.__init__" (defArgs s_Staff_init) (defBody s_Staff_init) (defScope s_Staff_init) [] [] f fd) : FnR P w K mg base CX0 4 f (spSt K C) := by
  have nd : N_Staff_init.Nodup := sc_Staff_init.nd
  obtain ⟨oc, od, dV, kV, doc, pm, an, cdv, ct, osl, rfl, lk, hcd, hD, hK⟩ := F.ex
  have eD : dV = .none := by
    rcases hD with ⟨_, rfl⟩ | ⟨e, _⟩
    · rfl
    · exact absurd rfl e
  subst eD
  refine FnR.imp (StX.fn_starkw (k := 3) (ps := ["self"]) (pv := "known") (pd := "numbers") (sp := spSt0 K C) lk hcd sc_Staff_init StX.cxUp_none (fun us rest hl => ?_) (fun A outer s H vs Q E hr h => ?_)) fun vs H Q E h => ?_
  · match us, rest, hl with
    | [u], [], _ => rfl
    | [u], r :: rs, _ => rfl
  · have hu := hr.units
    refine ⟨_, PSs.nox   (pss_one (ps_fld (pv 0) (pe_own C_valid_numbers (hr.mono (by omega)) (by rfl) pass0 (pa_cons (pe_ifExp (pt_cmpR (k_neT0 (K := K) hu) (pv 1) (pe_tup pa_nil) (nomark _)) (pe_ix (k_ix (K := K)) (pv 1) pe_int (fun _ _ => rfl)) (pv 2)) pa_nil)) rfl)), ?_⟩
    obtain ⟨G, M, x, dx, d, ns, p, q0, rfl, z, hp, hd, ok, q⟩ := h
    repeat (walk_at "z")
    refine z_newT z (by simp) fun p1 G1 H1 z1 s1 e1 => ?_
    refine z_neT0 z1 (s1 _ _ hp) e1 ?_
    rw [decide_eq_true (by simp)]
    repeat (walk_at "z")
    refine z_ixT z1 (SqT.of (s1 _ _ hp)) (by rfl) ?_
    repeat (walk_at "z")
    refine ⟨G1, _, d, ns, rfl, z1, hd.up s1, ok, fun n G2 H2 z2 s2 f2 => ?_⟩
    repeat (walk_at "z")
    refine z_fsL z2 SC.cl SC.no (by simp) fun H3 z3 => ?_
    exact q n G2 H3 z3 (s1.trans s2) f2
  · obtain ⟨G, M, x, dx, d, ns, rfl, z, hd, ok, q⟩ := h
    refine ⟨[.ref x], [.ref d], rfl, rfl, one_line, fun p q0 hp hq ne => ?_⟩
    have z1 := z.new hp (.tup [.ref d])
    have n1 := z.free hp
    have hq' : upd H p (HO.tup [V.ref d]) q0 = none := by rw [upd_ne ne]; exact hq
    have z2 := z1.new hq' (.dK [])
    have n2 := z1.free hq'
    have s := (Same.new (o := .tup [V.ref d]) n1).trans (Same.new (o := .dK []) n2)
    exact ⟨_, M, x, dx, d, ns, p, q0, rfl, z2, (Same.new n2) _ _ upd_same, hd.up s, ok, fun n G1 H1 z3 s3 f3 => q n G1 H1 z3 (s.trans s3) f3⟩
def spOf (K : PySem.W.Frag) (C : Addr) : Sp := fun vs H Q _ => ∃ G M d ns, vs = [.ref C, .ref d] ∧ Zp G M H ∧ FzD G d (nK ns) ∧ NsOk ns ∧ ∀ x G1 H1, Zp G1 M H1 → Same G G1 → StI G1 C x (posL ns) → Q (.ref x) H1
theorem ok_sof (T : Nm K mg) (MS : MkR P w K mg base CX0 4 C (spSt K C)) (F : FunD K "of" "Staff.of" (defArgs s_Staff_of) (defBody s_Staff_of) (defScope s_Staff_of) [] [] f fd) : FnOk P w K mg base CX0 6 f fd ["cls", "numbers"] (spOf K C) := by
  have nd : N_Staff_of.Nodup := sc_Staff_of.nd
  refine F.ok sc_Staff_of (fun vs H Q E h => ?_) (fun cdv A outer s H vs Q E hr h => ?_)
  · obtain ⟨G, M, d, ns, rfl, _⟩ := h
    rfl
  have hu := hr.units
  refine ⟨_, PSs.nox   (pss_cons (ps_if (PW.pt (pw_or (pt_not (pt_val (pe_callB (kc_isi (K := K)) (by rfl) T.b_isinstance boot_isinstance (pa_cons (pv 1) (pa_cons (pe_bltn (v := .ty "dict") (by rfl) T.b_dict boot_dict rfl) pa_nil))))) (pw_or1 (pt_not (pt_val (pe_callB (kc_all (K := K) rfl) (by rfl) T.b_all boot_all (pa_cons (pe_lc (own := [("name", 2)]) (tt := tYes) rfl nd (pi_keys (pv 1)) (blkOk_by (N := N_Staff_of) (sc := defScope s_Staff_of) (by decide +kernel)) (fun _ _ _ _ _ => (pg_name (i := 2) nd rfl (by first | exact .inl rfl | exact .inr rfl))) (fun _ _ _ _ _ => pts_nil) (fun _ _ _ _ _ => (pe_callB (kc_isi (K := K)) (by rfl) T.b_isinstance boot_isinstance (pa_cons (pv 2) (pa_cons (pe_bltn (v := .ty "str") (by rfl) T.b_str boot_str rfl) pa_nil))))) pa_nil))))))) (pss_one ps_never) pss_nil)
    (pss_one (ps_ret (pe_mkL (i := 0) MS (hr.mono (by omega)) rfl (by first | exact .inl rfl | exact .inr rfl) pass0 (pa_cons (pv 1) pa_nil))))), ?_⟩
  obtain ⟨G, M, d, ns, rfl, z, hd, ok, q⟩ := h
  obtain ⟨od, eod⟩ := id hd
  have hln := ok.ln
  repeat (walk_at "z")
  refine z_isi (.ty "dict") (.fDict (z.sub _ _ eod)) (kit_ty kit_dictS) ?_
  repeat (walk_at "z")
  refine z_itK z eod ?_
  refine lc_src src_K (fun i G' M' acc => M' = M ∧ Same G G' ∧ acc = (List.replicate i true).map V.bl) z ⟨rfl, Same.refl _, rfl⟩ (fun i G' M' M1 acc H' ⟨_, s', _⟩ z' => z'.sub _ _ (s' _ _ eod)) ?_ ?_
  · rintro j y G' M' acc Dl H' hy ⟨rfl, s', rfl⟩ z'
    have hj := (List.getElem?_eq_some_iff.mp hy).1
    rw [List.length_map, nK_len] at hj
    obtain ⟨s, rfl⟩ : ∃ s, y = .str s := by
      unfold nK at hy
      rw [List.getElem?_map, List.getElem?_map] at hy
      obtain ⟨p, hp, rfl⟩ := Option.map_eq_some_iff.mp hy
      obtain ⟨p', hp', rfl⟩ := Option.map_eq_some_iff.mp hp
      exact ⟨_, rfl⟩
    repeat (walk_at "z")
    refine ⟨by rfl, ?_⟩
    repeat (walk_at "z")
    refine z_isi (.ty "str") (Dt.ty (d := .str s) (.str s)) (kit_ty (kit_str (.str s))) ?_
    refine z_laid (M := M') z' (by rw [List.length_map, List.length_replicate]; omega) ⟨rfl, s', ?_⟩
    rw [List.replicate_succ', List.map_append]
    rfl
  rintro p1 G1 M1 acc G2 H2 ⟨rfl, s1, rfl⟩ s2 z2 e2
  have s12 := s1.trans s2
  repeat (walk_at "z")
  refine z_all z2 (SqL.of e2) ?_
  rw [show (List.replicate (List.map (fun p => kV p.1) (nK ns)).length true).all id = true by simp]
  repeat (walk_at "z")
  refine z_mkL rfl ?_
  repeat (walk_at "z")
  refine z_mkRI z2 fun x dx H9 z9 s9 => ?_
  refine ⟨_, _, x, dx, _, _, rfl, z9, (hd.up s12).up s9, ok, fun n G10 H10 z10 s10 f10 => ⟨rfl, ?_⟩⟩
  have sN := Same.new (o := HO.ins C dx [("own_numbers", .ref n)]) (z10.own _ _ _ last_at).2
  exact q x _ _ z10.fix (s12.trans (s9.trans (s10.trans sN))) ⟨dx, n, upd_same, f10.up sN⟩
def persD (ns : List (Str × Int)) : PyData → Int
  | .str s => lookN ns s
  | _ => 0
def spPers (K : PySem.W.Frag) (C : Addr) : Sp := fun vs H Q _ => ∃ G M x ns v d, vs = [.ref x, v] ∧ Zp G M H ∧ StI G C x ns ∧ Dt K G v d ∧ Q (.int (persD ns d)) H
theorem ok_spersons_of (T : Nm K mg) (SC : StC K C) (F : FunD K "persons_of" "Staff.persons_of" (defArgs s_Staff_persons_of) (defBody s_Staff_persons_of) (defScope s_Staff_persons_of) [] [] f fd) : FnOk P w K mg base CX0 1 f fd ["self", "kind"] (spPers K C) := by
  have nd : N_Staff_persons_of.Nodup := sc_Staff_persons_of.nd
  refine F.ok sc_Staff_persons_of (fun vs H Q E h => ?_) (fun cdv A outer s H vs Q E hr h => ?_)
  · obtain ⟨G, M, x, ns, v, d, rfl, _⟩ := h
    rfl
  have hu := hr.units
  refine ⟨_, PSs.nox   (pss_one (ps_ret (pe_ifExp (pt_val (pe_callB (kc_isi (K := K)) (by rfl) T.b_isinstance boot_isinstance (pa_cons (pv 1) (pa_cons (pe_bltn (v := .ty "str") (by rfl) T.b_str boot_str rfl) pa_nil)))) (pe_dget2 (hu_of hr) (k_fld (K := K) (pv 0) rfl) (pv 1) pe_int ⟨by rfl, by rfl, by rfl, by rfl⟩) pe_int))), ?_⟩
  obtain ⟨G, M, x, ns, v, d, rfl, z, ⟨dx, dn, e, f⟩, hd, q⟩ := h
  repeat (walk_at "z")
  refine z_isi (.ty "str") (hd.up z.sub).ty (kit_ty (kit_str d)) ?_
  cases hi : isStrD d with
  | false =>
    repeat (walk_at "z")
    have e0 : persD ns d = 0 := by cases d <;> first | rfl | cases hi
    rw [e0] at q
    exact q
  | true =>
    cases hd with
    | str t =>
      repeat (walk_at "z")
      refine z_flI z e SC.cl SC.no (by rfl) ?_
      refine z_dg2A z f ?_
      repeat (walk_at "z")
      refine z_dg2S z f ?_
      rw [getD_nK]
      exact q
    | _ => cases hi
def spNums (K : PySem.W.Frag) (C : Addr) : Sp := fun vs H Q _ => ∃ G M x ns, vs = [.ref x] ∧ Zp G M H ∧ StI G C x ns ∧ ∀ p H1, Zp G (M ++ [(p, .dK (nK ns))]) H1 → Q (.ref p) H1
theorem ok_snumbers (T : Nm K mg) (SC : StC K C) (F : FunD K "numbers" "Staff.numbers" (defArgs s_Staff_numbers) (defBody s_Staff_numbers) (defScope s_Staff_numbers) [] [] f fd) : FnOk P w K mg base CX0 1 f fd ["self"] (spNums K C) := by
  have nd : N_Staff_numbers.Nodup := sc_Staff_numbers.nd
  refine F.ok sc_Staff_numbers (fun vs H Q E h => ?_) (fun cdv A outer s H vs Q E hr h => ?_)
  · obtain ⟨G, M, x, ns, rfl, _⟩ := h
    rfl
  have hu := hr.units
  refine ⟨_, PSs.nox   (pss_one (ps_ret (pe_callTy c_dictD (by rfl) T.b_dict boot_dict (pa_cons (k_fld (K := K) (pv 0) rfl) pa_nil)))), ?_⟩
  obtain ⟨G, M, x, ns, rfl, z, ⟨dx, dn, e, f⟩, q⟩ := h
  repeat (walk_at "z")
  refine z_flI z e SC.cl SC.no (by rfl) ?_
  repeat (walk_at "z")
  exact z_dictD z f q
def spFits (K : PySem.W.Frag) (C : Addr) : Sp := fun vs H Q _ => ∃ G M x y a b, vs = [.ref x, .ref y] ∧ Zp G M H ∧ StI G C x a ∧ StI G C y b ∧ NsOk a ∧ ∀ G1 H1, Zp G1 M H1 → Same G G1 → Q (.bl (a.all fun q => decide (q.2 ≤ lookN b q.1))) H1
theorem ok_sfits_in (T : Nm K mg) (SC : StC K C) (M_persons_of : Mth P w K mg base CX0 1 C "persons_of" ["self", "kind"] [] (spPers K C)) (F : FunD K "fits_in" "Staff.fits_in" (defArgs s_Staff_fits_in) (defBody s_Staff_fits_in) (defScope s_Staff_fits_in) [] [] f fd) : FnOk P w K mg base CX0 2 f fd ["self", "other"] (spFits K C) := by
  have nd : N_Staff_fits_in.Nodup := sc_Staff_fits_in.nd
  refine F.ok sc_Staff_fits_in (fun vs H Q E h => ?_) (fun cdv A outer s H vs Q E hr h => ?_)
  · obtain ⟨G, M, x, y, a, b, rfl, _⟩ := h
    rfl
  have hu := hr.units
  refine ⟨_, PSs.nox   (pss_one (ps_ret (pe_callB (kc_all (K := K) rfl) (by rfl) T.b_all boot_all (pa_cons (pe_lc (own := [("kind", 2)]) (tt := tYes) rfl nd (pi_keys (k_fld (K := K) (pv 0) rfl)) (blkOk_by (N := N_Staff_fits_in) (sc := defScope s_Staff_fits_in) (by decide +kernel)) (fun _ _ _ _ _ => (pg_name (i := 2) nd rfl (by first | exact .inl rfl | exact .inr rfl))) (fun _ _ _ _ _ => pts_nil) (fun _ _ _ _ _ => (pe_cmpR o_le (pe_dget (hu_of hr) (k_fld (K := K) (pv 0) rfl) (pv 2) (fun _ _ => rfl)) (pe_mt M_persons_of (hr.mono (by omega)) pass0 (pv 1) (pa_cons (pv 2) pa_nil)) (nomark _)))) pa_nil)))), ?_⟩
  obtain ⟨G, M, x, y, a, b, rfl, z, ⟨dx, dn, e, f⟩, hy, ok, q⟩ := h
  obtain ⟨od, eod⟩ := id f
  have hln := ok.ln
  repeat (walk_at "z")
  refine z_flI z e SC.cl SC.no (by rfl) ?_
  refine z_itK z eod ?_
  refine lc_src src_K (fun i G' M' acc => M' = M ∧ Same G G' ∧ acc = ((a.take i).map fun q => decide (q.2 ≤ lookN b q.1)).map V.bl) z ⟨rfl, Same.refl _, rfl⟩ (fun i G' M' M1 acc H' ⟨_, s', _⟩ z' => z'.sub _ _ (s' _ _ eod)) ?_ ?_
  · rintro j y' G' M' acc Dl H' hy' ⟨rfl, s', rfl⟩ z'
    have hj := (List.getElem?_eq_some_iff.mp hy').1
    rw [List.length_map, nK_len] at hj
    obtain ⟨qj, hqj, rfl⟩ : ∃ q, a[j]? = some q ∧ y' = .str q.1 := by
      unfold nK at hy'
      rw [List.getElem?_map, List.getElem?_map] at hy'
      obtain ⟨p, hp, rfl⟩ := Option.map_eq_some_iff.mp hy'
      obtain ⟨p', hp', rfl⟩ := Option.map_eq_some_iff.mp hp
      exact ⟨p', hp', rfl⟩
    have hmj : qj.1 ∈ a.map (·.1) := List.mem_map.mpr ⟨qj, List.mem_of_getElem? hqj, rfl⟩
    repeat (walk_at "z")
    refine ⟨by rfl, ?_⟩
    repeat (walk_at "z")
    refine z_flI z' (s' _ _ e) SC.cl SC.no (by rfl) ?_
    repeat (walk_at "z")
    refine z_dgU z' (f.up s') (valV_nK a _ hmj) ?_
    repeat (walk_at "z")
    obtain ⟨dy, dm, ey, fy⟩ := id (hy.up s')
    refine z_mtI z' ey (by rfl) ?_
    repeat (walk_at "z")
    refine ⟨G', _, y, b, .str qj.1, .str qj.1, rfl, z', hy.up s', .str _, ?_⟩
    repeat (walk_at "z")
    refine z_laid (M := M') z' (by rw [List.length_map, List.length_map, List.length_take]; omega) ⟨rfl, s', ?_⟩
    rw [List.take_add_one, hqj, lookN_of ok.nd (List.mem_of_getElem? hqj), List.map_append, List.map_append]
    rfl
  rintro p1 G1 M1 acc G2 H2 ⟨rfl, s1, rfl⟩ s2 z2 e2
  repeat (walk_at "z")
  refine z_all z2 (SqL.of e2) ?_
  rw [List.length_map, nK_len, List.take_length, List.all_map]
  exact q G2 H2 z2 (s1.trans s2)
def limV : Option Int → V
  | none => .non
  | some i => .int i
def limK (l : List (Str × Option Int)) : List (Key × V) := l.map fun q => (.inr q.1, limV q.2)
def limB (ns : List (Str × Int)) (q : Str × Option Int) : Bool := match q.2 with
  | none => true
  | some i => decide (lookN ns q.1 ≤ i)
def spWithinS (K : PySem.W.Frag) (C : Addr) : Sp := fun vs H Q _ => ∃ G M x d a l, vs = [.ref x, .ref d] ∧ Zp G M H ∧ StI G C x a ∧ FzD G d (limK l) ∧ l.length ≤ 60 ∧ ∀ G1 H1, Zp G1 M H1 → Same G G1 → Q (.bl (l.all (limB a))) H1
theorem ok_swithin (T : Nm K mg) (SC : StC K C) (M_persons_of : Mth P w K mg base CX0 1 C "persons_of" ["self", "kind"] [] (spPers K C)) (F : FunD K "within" "Staff.within" (defArgs s_Staff_within) (defBody s_Staff_within) (defScope s_Staff_within) [] [] f fd) : FnOk P w K mg base CX0 2 f fd ["self", "limits"] (spWithinS K C) := by
  have nd : N_Staff_within.Nodup := sc_Staff_within.nd
  refine F.ok sc_Staff_within (fun vs H Q E h => ?_) (fun cdv A outer s H vs Q E hr h => ?_)
  · obtain ⟨G, M, x, d, a, l, rfl, _⟩ := h
    rfl
  have hu := hr.units
  refine ⟨_, PSs.nox   (pss_one (ps_ret (pe_callB (kc_all (K := K) rfl) (by rfl) T.b_all boot_all (pa_cons (pe_lc (own := [("kind", 2), ("limit", 3)]) (tt := tYes) rfl nd (pi_items (pv 1)) (blkOk_by (N := N_Staff_within) (sc := defScope s_Staff_within) (by decide +kernel)) (fun _ _ _ _ _ => (kg_tup (K := K) (n := 2) rfl (pgs_cons (pg_name (i := 2) nd rfl (by first | exact .inl rfl | exact .inr rfl)) (pgs_cons (pg_name (i := 3) nd rfl (by first | exact .inl rfl | exact .inr rfl)) pgs_nil)))) (fun _ _ _ _ _ => pts_nil) (fun _ _ _ _ _ => (pe_or (pe_cmpR o_isN (pv 3) pe_non (nomark _)) (pe_one (pe_cmpR o_le (pe_mt M_persons_of (hr.mono (by omega)) pass0 (pv 0) (pa_cons (pv 2) pa_nil)) (pv 3) (nomark _)))))) pa_nil)))), ?_⟩
  obtain ⟨G, M, x, d, a, l, rfl, z, hx, f, hl, q⟩ := h
  obtain ⟨od, eod⟩ := id f
  repeat (walk_at "z")
  refine z_itI z eod ?_
  refine lc_items (fun i G' M' acc => M' = M ∧ Same G G' ∧ acc = ((l.take i).map (limB a)).map V.bl) z ⟨rfl, Same.refl _, rfl⟩ (fun i G' M' acc ⟨_, s', _⟩ => s' _ _ eod) ?_ ?_
  · rintro j k v T G' M' acc Dl G2 H' hkv ⟨rfl, s', rfl⟩ z' s2 hT
    have hj := (List.getElem?_eq_some_iff.mp hkv).1
    unfold limK at hkv hj
    rw [List.length_map] at hj
    rw [List.getElem?_map] at hkv
    obtain ⟨⟨s, lim⟩, hq, e0⟩ := Option.map_eq_some_iff.mp hkv
    obtain ⟨rfl, rfl⟩ : Sum.inr s = k ∧ limV lim = v := by simpa using e0
    have s02 := s'.trans s2
    obtain ⟨dx, dn, ex, fx⟩ := id (hx.up s02)
    have fin : ∀ (bb : Bool), limB a (s, lim) = bb → Laid (fun G'' M'' acc' => M'' = M' ∧ Same G G'' ∧ acc' = ((l.take (j + 1)).map (limB a)).map V.bl) Dl (.bl bb) H' := fun bb hb => by
      refine z_laid (M := M') z' (by rw [List.length_map, List.length_map, List.length_take]; omega) ⟨rfl, s02, ?_⟩
      rw [List.take_add_one, hq, List.map_append, List.map_append, ← hb]
      rfl
    repeat (walk_at "z")
    refine z_gtup z' (SqT.of hT) rfl ?_
    repeat (walk_at "z")
    refine ⟨by rfl, ?_⟩
    cases lim with
    | none =>
      dsimp only [limV]
      repeat (walk_at "z")
      refine z_iN ?_
      rw [decide_eq_true rfl]
      repeat (walk_at "z")
      exact fin true rfl
    | some i =>
      dsimp only [limV]
      repeat (walk_at "z")
      refine z_iN ?_
      rw [decide_eq_false (fun e => nomatch e)]
      repeat (walk_at "z")
      refine z_mtI z' ex (by rfl) ?_
      repeat (walk_at "z")
      refine ⟨G2, _, x, a, .str s, .str s, rfl, z', hx.up s02, .str _, ?_⟩
      repeat (walk_at "z")
      exact fin _ rfl
  rintro p1 G1 M1 acc G2 H2 ⟨rfl, s1, rfl⟩ s2 z2 e2
  repeat (walk_at "z")
  refine z_all z2 (SqL.of e2) ?_
  rw [show (limK l).length = l.length by unfold limK; rw [List.length_map], List.take_length, List.all_map]
  exact q G2 H2 z2 (s1.trans s2)
end
end LW
namespace LW
open PySem PySem.Spec PyProof.Rows L2 Ys

/-! ### plain -/
def dN (ns : List (Str × Int)) : List (Str × PyData) := ns.map fun q => (q.1, .int q.2)
theorem dtk_nK {K : PySem.W.Frag} {H : Hp} : ∀ ns : List (Str × Int), DtK K H (nK ns) (dN ns)
  | [] => .nil
  | q :: r => .cons ⟨rfl, .int _⟩ (dtk_nK r)
theorem shaped_dN (ns : List (Str × Int)) : ∀ q ∈ dN ns, SeqAt.shaped q.2 = true := fun q hq => by
  obtain ⟨p, _, rfl⟩ := List.mem_map.mp hq
  rfl
def putN (ac : List (Str × Int)) (s : Str) (v : Int) : List (Str × Int) := if s ∈ ac.map (·.1) then ac.map (fun r => if r.1 = s then (s, v) else r) else ac ++ [(s, v)]
theorem putK_nK {ac : List (Str × Int)} {s : Str} {v : Int} : putK (nK ac) (.inr s) (.int v) = nK (putN ac s v) := by
  unfold putN
  by_cases c : s ∈ ac.map (·.1)
  · rw [if_pos c]
    unfold putK
    rw [valV_any, valV_nK ac s c, if_pos (show (some (V.int (lookN ac s))).isSome = true from rfl)]
    unfold nK
    rw [List.map_map, List.map_map]
    refine List.map_congr_left fun r hr => ?_
    show (if (Sum.inr r.1 : Key) = .inr s then _ else _) = _
    by_cases d : r.1 = s
    · rw [if_pos (by rw [d])]
      show _ = (fun q : Str × Int => ((.inr q.1 : Key), V.int q.2)) (if r.1 = s then (s, v) else r)
      rw [if_pos d]
      show ((.inr r.1 : Key), V.int v) = (.inr s, V.int v)
      rw [d]
    · rw [if_neg (fun e => d (Sum.inr.inj e))]
      show _ = (fun q : Str × Int => ((.inr q.1 : Key), V.int q.2)) (if r.1 = s then (s, v) else r)
      rw [if_neg d]
  · rw [if_neg c, putK_new _ (valV_nKno c)]
    unfold nK
    rw [List.map_append]
    rfl
theorem putN_keys {ac : List (Str × Int)} {s : Str} {v : Int} : (putN ac s v).map (·.1) = if s ∈ ac.map (·.1) then ac.map (·.1) else ac.map (·.1) ++ [s] := by
  unfold putN
  split
  · rw [List.map_map]
    refine List.map_congr_left fun r _ => ?_
    show (if r.1 = s then (s, v) else r).1 = r.1
    split
    · rename_i c; exact c.symm
    · rfl
  · rw [List.map_append]; rfl
theorem lookN_app : ∀ (ac : List (Str × Int)) (q : Str × Int) (t : Str), lookN (ac ++ [q]) t = if t ∈ ac.map (·.1) then lookN ac t else if q.1 = t then q.2 else 0
  | [], q, t => by
    rw [if_neg (by simp)]
    rfl
  | p :: r, q, t => by
    show (if p.1 = t then p.2 else lookN (r ++ [q]) t) = if t ∈ p.1 :: r.map (·.1) then (if p.1 = t then p.2 else lookN r t) else _
    by_cases c : p.1 = t
    · rw [if_pos c, if_pos c, if_pos (by rw [c]; exact List.mem_cons_self)]
    · rw [if_neg c, if_neg c, lookN_app r q t]
      by_cases d : t ∈ r.map (·.1)
      · rw [if_pos d, if_pos (List.mem_cons_of_mem _ d)]
      · rw [if_neg d, if_neg (fun h => (List.mem_cons.mp h).elim (fun e => c e.symm) d)]
theorem lookN_set (s : Str) (v : Int) (t : Str) : ∀ ac : List (Str × Int), lookN (ac.map fun r => if r.1 = s then (s, v) else r) t = if t = s ∧ s ∈ ac.map (·.1) then v else lookN ac t
  | [] => by
    rw [if_neg (by simp)]
    rfl
  | p :: r => by
    have ih := lookN_set s v t r
    rw [List.map_cons]
    by_cases c : p.1 = s
    · rw [if_pos c]
      show (if s = t then v else lookN (r.map _) t) = if t = s ∧ s ∈ p.1 :: r.map (·.1) then v else (if p.1 = t then p.2 else lookN r t)
      by_cases d : s = t
      · rw [if_pos d, if_pos ⟨d.symm, by rw [c]; exact List.mem_cons_self⟩]
      · rw [if_neg d, if_neg (fun h => d h.1.symm), if_neg (fun e => d (c.symm.trans e)), ih, if_neg (fun h => d h.1.symm)]
    · rw [if_neg c]
      show (if p.1 = t then p.2 else lookN (r.map _) t) = if t = s ∧ s ∈ p.1 :: r.map (·.1) then v else (if p.1 = t then p.2 else lookN r t)
      by_cases d : p.1 = t
      · rw [if_pos d, if_neg (fun h => c (d.trans h.1)), if_pos d]
      · rw [if_neg d, if_neg d, ih]
        by_cases h : t = s ∧ s ∈ r.map (·.1)
        · rw [if_pos h, if_pos ⟨h.1, List.mem_cons_of_mem _ h.2⟩]
        · rw [if_neg h, if_neg (fun h' => h ⟨h'.1, (List.mem_cons.mp h'.2).elim (fun e => absurd e.symm c) id⟩)]
theorem lookN_put {ac : List (Str × Int)} {s t : Str} {v : Int} : lookN (putN ac s v) t = if t = s then v else lookN ac t := by
  unfold putN
  by_cases c : s ∈ ac.map (·.1)
  · rw [if_pos c, lookN_set]
    by_cases d : t = s
    · rw [if_pos ⟨d, c⟩, if_pos d]
    · rw [if_neg (fun h => d h.1), if_neg d]
  · rw [if_neg c, lookN_app]
    by_cases d : t = s
    · rw [if_pos d, if_neg (by rw [d]; exact c), if_pos d.symm]
    · rw [if_neg d]
      by_cases h : t ∈ ac.map (·.1)
      · rw [if_pos h]
      · rw [if_neg h, if_neg (fun e => d e.symm), lookN_out h]
def opF (f : Str → Int) (l : List Str) : List (Str × Int) := l.foldl (fun ac s => putN ac s (f s)) []
theorem opF_snoc (f : Str → Int) (l : List Str) (s : Str) : opF f (l ++ [s]) = putN (opF f l) s (f s) := by
  unfold opF
  rw [List.foldl_append]
  rfl
theorem snoc_ind {α : Type} {p : List α → Prop} (h0 : p []) (h1 : ∀ l x, p l → p (l ++ [x])) (l : List α) : p l := by
  rw [← List.reverse_reverse l]
  generalize l.reverse = m
  induction m with
  | nil => exact h0
  | cons x r ih =>
    rw [List.reverse_cons]
    exact h1 _ _ ih
theorem opF_mem (f : Str → Int) (l : List Str) (t : Str) : t ∈ (opF f l).map (·.1) ↔ t ∈ l := by
  refine snoc_ind (p := fun l => t ∈ (opF f l).map (·.1) ↔ t ∈ l) (by simp [opF]) (fun l s ih => ?_) l
  rw [opF_snoc, putN_keys, List.mem_append, List.mem_singleton]
  split
  · rename_i c
    rw [ih]
    refine ⟨.inl, fun h => h.elim id fun e => ?_⟩
    rw [e]
    rw [e] at ih
    exact ih.mp c
  · rw [List.mem_append, List.mem_singleton, ih]
theorem opF_nodup (f : Str → Int) (l : List Str) : ((opF f l).map (·.1)).Nodup := by
  refine snoc_ind (p := fun l => ((opF f l).map (·.1)).Nodup) (by simp [opF]) (fun l s ih => ?_) l
  rw [opF_snoc, putN_keys]
  split
  · exact ih
  · rename_i c
    rw [List.nodup_append]
    refine ⟨ih, by simp, fun a ha b hb e => ?_⟩
    rw [List.mem_singleton.mp hb] at e
    exact c (e ▸ ha)
theorem opF_look (f : Str → Int) (l : List Str) (t : Str) : lookN (opF f l) t = if t ∈ l then f t else 0 := by
  refine snoc_ind (p := fun l => lookN (opF f l) t = if t ∈ l then f t else 0) (by simp [opF, lookN]) (fun l s ih => ?_) l
  rw [opF_snoc, lookN_put, ih]
  by_cases d : t = s
  · rw [if_pos d, if_pos (by rw [d]; simp), d]
  · rw [if_neg d]
    by_cases h : t ∈ l
    · rw [if_pos h, if_pos (List.mem_append_left _ h)]
    · rw [if_neg h, if_neg (fun h' => (List.mem_append.mp h').elim h fun e => d (List.mem_singleton.mp e))]
theorem opF_len (f : Str → Int) (l : List Str) : (opF f l).length ≤ l.length := by
  refine snoc_ind (p := fun l => (opF f l).length ≤ l.length) (by simp [opF]) (fun l s ih => ?_) l
  rw [opF_snoc, List.length_append]
  unfold putN
  split
  · rw [List.length_map]; omega
  · rw [List.length_append]; simp; omega
theorem take_snocS {α : Type} {l : List α} {j : Nat} {s : α} (h : l[j]? = some s) : l.take (j + 1) = l.take j ++ [s] := by
  rw [List.take_add_one, h]
  rfl
theorem nsok_opF {f : Str → Int} {l : List Str} (h1 : ∀ s ∈ l, wordS s = true) (h2 : ∀ s ∈ l, 0 ≤ f s ∧ f s ≤ 1000000000000000000000000000000) (h3 : l.length ≤ 60) : NsOk (opF f l) := by
  refine ⟨opF_nodup f l, fun q hq => ?_, fun q hq => ?_, Nat.le_trans (opF_len f l) h3⟩
  · exact h1 _ ((opF_mem f l q.1).mp (List.mem_map.mpr ⟨q, hq, rfl⟩))
  · have hm := (opF_mem f l q.1).mp (List.mem_map.mpr ⟨q, hq, rfl⟩)
    rw [← lookN_of (opF_nodup f l) hq, opF_look, if_pos hm]
    exact h2 _ hm
theorem keysV (ns : List (Str × Int)) : (nK ns).map (fun q => kV q.1) = (ns.map (·.1)).map V.str := by
  unfold nK
  rw [List.map_map, List.map_map]
  rfl
theorem keyW {ns : List (Str × Int)} (ok : NsOk ns) {s : Str} (h : s ∈ ns.map (·.1)) : wordS s = true := by
  obtain ⟨q, hq, rfl⟩ := List.mem_map.mp h
  exact ok.wd q hq
section
variable {P : Program} {w : World} {K : PySem.W.Frag} {mg : Str → Option Value} {base : Heap} {f : Addr} {fd : FuncData} {C : Addr}
def spSEq (K : PySem.W.Frag) (C : Addr) : Sp := fun vs H Q _ => ∃ G M x y a b, vs = [.ref x, .ref y] ∧ Zp G M H ∧ StI G C x a ∧ StI G C y b ∧ Q (.bl (eqDD (dN a) (dN b))) H
theorem ok_seq (T : Nm K mg) (SC : StC K C) (gS : mg "Staff" = some (.ref C)) (F : FunD K "__eq__" "Staff.__eq__" (defArgs s_Staff_eq) (defBody s_Staff_eq) (defScope s_Staff_eq) [] [] f fd) : FnOk P w K mg base CX0 2 f fd ["self", "other"] (spSEq K C) := by
  have nd : N_Staff_eq.Nodup := sc_Staff_eq.nd
  refine F.ok sc_Staff_eq (fun vs H Q E h => ?_) (fun cdv A outer s H vs Q E hr h => ?_)
  · obtain ⟨G, M, x, y, a, b, rfl, _⟩ := h
    rfl
  have hu := hr.units
  refine ⟨_, PSs.nox (pss_one (ps_ret (pe_and (pe_callB (kc_isi (K := K)) (by rfl) T.b_isinstance boot_isinstance (pa_cons (pv 1) (pa_cons (pe_glob (v := .ref C) (by rfl) gS rfl) pa_nil))) (pe_one (pe_cmpR (k_eqDK (K := K) T.sys (room128 hr)) (k_fld (K := K) (pv 0) rfl) (k_fld (K := K) (pv 1) rfl) (nomark _)))))), ?_⟩
  obtain ⟨G, M, x, y, a, b, rfl, z, ⟨dx, dn, e, f⟩, ⟨dy, dm, e', f'⟩, q⟩ := h
  repeat (walk_at "z")
  refine z_isi (.own C) (SC.ty (z.sub _ _ e')) (if_pos (by simp)) ?_
  repeat (walk_at "z")
  refine z_flI z e SC.cl SC.no (by rfl) ?_
  repeat (walk_at "z")
  refine z_flI z e' SC.cl SC.no (by rfl) ?_
  refine ⟨dn, dm, _, _, _, _, rfl, rfl, f.rd z, f'.rd z, dtk_nK _, dtk_nK _, shaped_dN _, shaped_dN _, ?_⟩
  exact q
def spWithS (K : PySem.W.Frag) (C : Addr) : Sp := fun vs H Q _ => ∃ G M d ns, vs = [.ref d] ∧ Zp G M H ∧ FzD G d (nK ns) ∧ NsOk ns ∧ ∀ x G1 H1, Zp G1 M H1 → Same G G1 → StI G1 C x (posL ns) → Q (.ref x) H1
theorem ok_sstaff_with (T : Nm K mg) (MS : MkR P w K mg base CX0 4 C (spSt K C)) (gS : mg "Staff" = some (.ref C)) (F : FnP K "staff_with" s_staff_with f fd) : FnOk P w K mg base CX0 6 f fd ["numbers"] (spWithS K C) := by
  have nd : N_staff_with.Nodup := sc_staff_with.nd
  refine F.ok sc_staff_with (fun vs H Q E h => ?_) (fun cdv A outer s H vs Q E hr h => ?_)
  · obtain ⟨G, M, d, ns, rfl, _⟩ := h
    rfl
  have hu := hr.units
  refine ⟨_, PSs.nox (pss_one (ps_ret (pe_mkR MS gS (hr.mono (by omega)) (by rfl) pass0 (pa_cons (pv 0) pa_nil)))), ?_⟩
  obtain ⟨G, M, d, ns, rfl, z, hd, ok, q⟩ := h
  repeat (walk_at "z")
  refine z_mkRI z fun x dx H9 z9 s9 => ?_
  refine ⟨_, _, x, dx, _, _, rfl, z9, hd.up s9, ok, fun n G10 H10 z10 s10 f10 => ⟨rfl, ?_⟩⟩
  have sN := Same.new (o := HO.ins C dx [("own_numbers", .ref n)]) (z10.own _ _ _ last_at).2
  exact q x _ _ z10.fix (s9.trans (s10.trans sN)) ⟨dx, n, upd_same, f10.up sN⟩
def spGgreater : Sp := fun vs H Q _ => ∃ i j : Int, vs = [.int i, .int j] ∧ Q (.int (if i > j then i else j)) H
theorem ok_sgreater (T : Nm K mg) (F : FnP K "greater" s_greater f fd) : FnOk P w K mg base CX0 1 f fd ["one", "other"] spGgreater := by
  have nd : N_greater.Nodup := sc_greater.nd
  refine F.ok sc_greater (fun vs H Q E h => ?_) (fun cdv A outer s H vs Q E hr h => ?_)
  · obtain ⟨i, j, rfl, _⟩ := h
    rfl
  have hu := hr.units
  refine ⟨_, PSs.nox   (pss_one (ps_ret (pe_ifExp (pt_cmpR o_gt (pv 0) (pv 1) (nomark _)) (pv 0) (pv 1)))), ?_⟩
  obtain ⟨i, j, rfl, q⟩ := h
  repeat (walk_at "z")
  refine z_bd (fun c => ?_) (fun c => ?_)
  · rw [if_pos c] at q
    repeat (walk_at "z")
    exact q
  · rw [if_neg c] at q
    repeat (walk_at "z")
    exact q
def spGsmaller : Sp := fun vs H Q _ => ∃ i j : Int, vs = [.int i, .int j] ∧ Q (.int (if i < j then i else j)) H
theorem ok_ssmaller (T : Nm K mg) (F : FnP K "smaller" s_smaller f fd) : FnOk P w K mg base CX0 1 f fd ["one", "other"] spGsmaller := by
  have nd : N_smaller.Nodup := sc_smaller.nd
  refine F.ok sc_smaller (fun vs H Q E h => ?_) (fun cdv A outer s H vs Q E hr h => ?_)
  · obtain ⟨i, j, rfl, _⟩ := h
    rfl
  have hu := hr.units
  refine ⟨_, PSs.nox   (pss_one (ps_ret (pe_ifExp (pt_cmpR o_lt (pv 0) (pv 1) (nomark _)) (pv 0) (pv 1)))), ?_⟩
  obtain ⟨i, j, rfl, q⟩ := h
  repeat (walk_at "z")
  refine z_bd (fun c => ?_) (fun c => ?_)
  · rw [if_pos c] at q
    repeat (walk_at "z")
    exact q
  · rw [if_neg c] at q
    repeat (walk_at "z")
    exact q
def spSAdd (K : PySem.W.Frag) (C : Addr) : Sp := fun vs H Q _ => ∃ G M x y a b, vs = [.ref x, .ref y] ∧ Zp G M H ∧ StI G C x a ∧ StI G C y b ∧ NsOk a ∧ NsOk b ∧ a.length + b.length ≤ 60 ∧ (∀ s, lookN a s + lookN b s ≤ 1000000000000000000000000000000) ∧ ∀ u G1 H1, Zp G1 M H1 → Same G G1 → StI G1 C u (posL (opF (fun s => lookN a s + lookN b s) (a.map (·.1) ++ b.map (·.1)))) → Q (.ref u) H1
theorem ok_sadd (T : Nm K mg) (SC : StC K C) (M_persons_of : Mth P w K mg base CX0 1 C "persons_of" ["self", "kind"] [] (spPers K C)) (C_staff_with : Own P w K mg base CX0 6 "staff_with" ["numbers"] (spWithS K C)) (F : FunD K "__add__" "Staff.__add__" (defArgs s_Staff_add) (defBody s_Staff_add) (defScope s_Staff_add) [] [] f fd) : FnOk P w K mg base CX0 7 f fd ["self", "other"] (spSAdd K C) := by
  have nd : N_Staff_add.Nodup := sc_Staff_add.nd
  refine F.ok sc_Staff_add (fun vs H Q E h => ?_) (fun cdv A outer s H vs Q E hr h => ?_)
  · obtain ⟨G, M, x, y, a, b, rfl, _⟩ := h
    rfl
  have hu := hr.units
  refine ⟨_, PSs.nox   (pss_cons (ps_asg (pe_lst (pa_starD rfl (k_fld (K := K) (pv 0) rfl) (pa_starD rfl (k_fld (K := K) (pv 1) rfl) pa_nil))) (pg_name (i := 2) nd rfl (by first | exact .inl rfl | exact .inr rfl)))
    (pss_one (ps_ret (pe_own C_staff_with (hr.mono (by omega)) (by rfl) pass0 (pa_cons (pe_frz (pe_dc (own := [("name", 3)]) (tt := tYes) rfl nd (k_any (K := K) (pv 2)) (blkOk_by (N := N_Staff_add) (sc := defScope s_Staff_add) (by decide +kernel)) (fun _ _ _ _ _ => (pg_name (i := 3) nd rfl (by first | exact .inl rfl | exact .inr rfl))) (fun _ _ _ _ _ => pts_nil) (fun _ _ _ _ _ => (pv 3)) (fun _ _ _ _ _ => (pe_op (k_add (K := K)) (pe_mt M_persons_of (hr.mono (by omega)) pass0 (pv 0) (pa_cons (pv 3) pa_nil)) (pe_mt M_persons_of (hr.mono (by omega)) pass0 (pv 1) (pa_cons (pv 3) pa_nil)))))) pa_nil))))), ?_⟩
  obtain ⟨G, M, x, y, a, b, rfl, z, hx, hy, oa, ob, hl, qB, q⟩ := h
  obtain ⟨dx0, dn0, e0, f0⟩ := id hx
  obtain ⟨dy0, dm0, e0', f0'⟩ := id hy
  repeat (walk_at "z")
  refine z_flI z e0 SC.cl SC.no (by rfl) ?_
  refine z_sdF z f0 ?_
  repeat (walk_at "z")
  refine z_flI z e0' SC.cl SC.no (by rfl) ?_
  refine z_sdF z f0' ?_
  repeat (walk_at "z")
  rw [keysV a, keysV b, List.append_nil, ← List.map_append]
  refine z_newL z (by rw [List.length_map, List.length_append, List.length_map, List.length_map]; omega) fun p1 G1 H1 z1 s1 e1 => ?_
  repeat (walk_at "z")
  refine z_anyL ?_
  repeat (walk_at "z")
  refine z_itL z1 (SqL.of e1) ?_
  have hNl : (a.map (·.1) ++ b.map (·.1)).length ≤ 60 := by
    rw [List.length_append, List.length_map, List.length_map]; omega
  have hNw : ∀ s ∈ (a.map (·.1) ++ b.map (·.1)), wordS s = true := fun s hs => (List.mem_append.mp hs).elim (keyW oa) (keyW ob)
  generalize hN : (a.map (·.1) ++ b.map (·.1)) = N at hNl hNw q ⊢
  refine dc_src src_L (fun i G' M' acc => M' = M ∧ Same G1 G' ∧ acc = nK (opF (fun s => lookN a s + lookN b s) (N.take i))) z1 ⟨rfl, Same.refl _, rfl⟩ (fun i G' M' M1 acc H' ⟨_, s', _⟩ z' => z'.seqL (upL s' (SqL.of e1))) ?_ ?_
  · rintro j y' G' M' acc Dl H' hy' ⟨rfl, s', rfl⟩ z'
    obtain ⟨s, hs, rfl⟩ : ∃ s, N[j]? = some s ∧ y' = .str s := by
      rw [← hN]
      rw [List.getElem?_map] at hy'
      obtain ⟨s, h1, h2⟩ := Option.map_eq_some_iff.mp hy'
      exact ⟨s, h1, h2.symm⟩
    have hj := (List.getElem?_eq_some_iff.mp hs).1
    have hln := opF_len (fun s => lookN a s + lookN b s) (N.take j)
    rw [List.length_take] at hln
    repeat (walk_at "z")
    refine ⟨by rfl, ?_⟩
    repeat (walk_at "z")
    obtain ⟨dx, dn, ex, fx⟩ := id (hx.up (s1.trans s'))
    obtain ⟨dy, dm, ey, fy⟩ := id (hy.up (s1.trans s'))
    refine z_mtI z' ex (by rfl) ?_
    repeat (walk_at "z")
    refine ⟨G', _, x, a, .str s, .str s, rfl, z', hx.up (s1.trans s'), .str _, ?_⟩
    repeat (walk_at "z")
    refine z_mtI z' ey (by rfl) ?_
    repeat (walk_at "z")
    refine ⟨G', _, y, b, .str s, .str s, rfl, z', hy.up (s1.trans s'), .str _, ?_⟩
    repeat (walk_at "z")
    refine z_laidD (k := .inr s) z' (by rw [nK_len]; omega) ⟨rfl, s', ?_⟩
    rw [putK_nK, take_snocS hs, opF_snoc]
    rfl
  rintro p5 G5 M5 acc5 H5 ⟨rfl, s5, rfl⟩ z5
  rw [show List.length _ = N.length from by rw [← hN]; simp [nK], List.take_length] at z5
  refine z_frzL z5 fun G6 H6 z6 s6 f6 => ?_
  repeat (walk_at "z")
  refine ⟨G6, _, p5, _, rfl, z6, f6, nsok_opF hNw (fun s hs => ?_) hNl, fun u G7 H7 z7 s7 h7 => ?_⟩
  · have a1 := oa.pos s
    have a2 := oa.top s
    have b1 := ob.pos s
    have b2 := ob.top s
    have := qB s
    omega
  · exact q u G7 H7 z7 (s1.trans (s5.trans (s6.trans s7))) h7
def spSOr (K : PySem.W.Frag) (C : Addr) : Sp := fun vs H Q _ => ∃ G M x y a b, vs = [.ref x, .ref y] ∧ Zp G M H ∧ StI G C x a ∧ StI G C y b ∧ NsOk a ∧ NsOk b ∧ a.length + b.length ≤ 60 ∧ ∀ u G1 H1, Zp G1 M H1 → Same G G1 → StI G1 C u (posL (opF (fun s => if lookN a s > lookN b s then lookN a s else lookN b s) (a.map (·.1) ++ b.map (·.1)))) → Q (.ref u) H1
theorem ok_sor (T : Nm K mg) (SC : StC K C) (M_persons_of : Mth P w K mg base CX0 1 C "persons_of" ["self", "kind"] [] (spPers K C)) (C_staff_with : Own P w K mg base CX0 6 "staff_with" ["numbers"] (spWithS K C)) (C_greater : Own P w K mg base CX0 1 "greater" ["one", "other"] spGgreater) (F : FunD K "__or__" "Staff.__or__" (defArgs s_Staff_or) (defBody s_Staff_or) (defScope s_Staff_or) [] [] f fd) : FnOk P w K mg base CX0 7 f fd ["self", "other"] (spSOr K C) := by
  have nd : N_Staff_or.Nodup := sc_Staff_or.nd
  refine F.ok sc_Staff_or (fun vs H Q E h => ?_) (fun cdv A outer s H vs Q E hr h => ?_)
  · obtain ⟨G, M, x, y, a, b, rfl, _⟩ := h
    rfl
  have hu := hr.units
  refine ⟨_, PSs.nox   (pss_cons (ps_asg (pe_lst (pa_starD rfl (k_fld (K := K) (pv 0) rfl) (pa_starD rfl (k_fld (K := K) (pv 1) rfl) pa_nil))) (pg_name (i := 2) nd rfl (by first | exact .inl rfl | exact .inr rfl)))
    (pss_one (ps_ret (pe_own C_staff_with (hr.mono (by omega)) (by rfl) pass0 (pa_cons (pe_frz (pe_dc (own := [("name", 3)]) (tt := tYes) rfl nd (k_any (K := K) (pv 2)) (blkOk_by (N := N_Staff_or) (sc := defScope s_Staff_or) (by decide +kernel)) (fun _ _ _ _ _ => (pg_name (i := 3) nd rfl (by first | exact .inl rfl | exact .inr rfl))) (fun _ _ _ _ _ => pts_nil) (fun _ _ _ _ _ => (pv 3)) (fun _ _ _ _ _ => (pe_own C_greater (hr.mono (by omega)) (by rfl) pass0 (pa_cons (pe_mt M_persons_of (hr.mono (by omega)) pass0 (pv 0) (pa_cons (pv 3) pa_nil)) (pa_cons (pe_mt M_persons_of (hr.mono (by omega)) pass0 (pv 1) (pa_cons (pv 3) pa_nil)) pa_nil)))))) pa_nil))))), ?_⟩
  obtain ⟨G, M, x, y, a, b, rfl, z, hx, hy, oa, ob, hl, q⟩ := h
  obtain ⟨dx0, dn0, e0, f0⟩ := id hx
  obtain ⟨dy0, dm0, e0', f0'⟩ := id hy
  repeat (walk_at "z")
  refine z_flI z e0 SC.cl SC.no (by rfl) ?_
  refine z_sdF z f0 ?_
  repeat (walk_at "z")
  refine z_flI z e0' SC.cl SC.no (by rfl) ?_
  refine z_sdF z f0' ?_
  repeat (walk_at "z")
  rw [keysV a, keysV b, List.append_nil, ← List.map_append]
  refine z_newL z (by rw [List.length_map, List.length_append, List.length_map, List.length_map]; omega) fun p1 G1 H1 z1 s1 e1 => ?_
  repeat (walk_at "z")
  refine z_anyL ?_
  repeat (walk_at "z")
  refine z_itL z1 (SqL.of e1) ?_
  have hNl : (a.map (·.1) ++ b.map (·.1)).length ≤ 60 := by
    rw [List.length_append, List.length_map, List.length_map]; omega
  have hNw : ∀ s ∈ (a.map (·.1) ++ b.map (·.1)), wordS s = true := fun s hs => (List.mem_append.mp hs).elim (keyW oa) (keyW ob)
  generalize hN : (a.map (·.1) ++ b.map (·.1)) = N at hNl hNw q ⊢
  refine dc_src src_L (fun i G' M' acc => M' = M ∧ Same G1 G' ∧ acc = nK (opF (fun s => if lookN a s > lookN b s then lookN a s else lookN b s) (N.take i))) z1 ⟨rfl, Same.refl _, rfl⟩ (fun i G' M' M1 acc H' ⟨_, s', _⟩ z' => z'.seqL (upL s' (SqL.of e1))) ?_ ?_
  · rintro j y' G' M' acc Dl H' hy' ⟨rfl, s', rfl⟩ z'
    obtain ⟨s, hs, rfl⟩ : ∃ s, N[j]? = some s ∧ y' = .str s := by
      rw [← hN]
      rw [List.getElem?_map] at hy'
      obtain ⟨s, h1, h2⟩ := Option.map_eq_some_iff.mp hy'
      exact ⟨s, h1, h2.symm⟩
    have hj := (List.getElem?_eq_some_iff.mp hs).1
    have hln := opF_len (fun s => if lookN a s > lookN b s then lookN a s else lookN b s) (N.take j)
    rw [List.length_take] at hln
    repeat (walk_at "z")
    refine ⟨by rfl, ?_⟩
    repeat (walk_at "z")
    obtain ⟨dx, dn, ex, fx⟩ := id (hx.up (s1.trans s'))
    obtain ⟨dy, dm, ey, fy⟩ := id (hy.up (s1.trans s'))
    refine z_mtI z' ex (by rfl) ?_
    repeat (walk_at "z")
    refine ⟨G', _, x, a, .str s, .str s, rfl, z', hx.up (s1.trans s'), .str _, ?_⟩
    repeat (walk_at "z")
    refine z_mtI z' ey (by rfl) ?_
    repeat (walk_at "z")
    refine ⟨G', _, y, b, .str s, .str s, rfl, z', hy.up (s1.trans s'), .str _, ?_⟩
    repeat (walk_at "z")
    refine ⟨_, _, rfl, ?_⟩
    refine z_laidD (k := .inr s) z' (by rw [nK_len]; omega) ⟨rfl, s', ?_⟩
    rw [putK_nK, take_snocS hs, opF_snoc]
    rfl
  rintro p5 G5 M5 acc5 H5 ⟨rfl, s5, rfl⟩ z5
  rw [show List.length _ = N.length from by rw [← hN]; simp [nK], List.take_length] at z5
  refine z_frzL z5 fun G6 H6 z6 s6 f6 => ?_
  repeat (walk_at "z")
  refine ⟨G6, _, p5, _, rfl, z6, f6, nsok_opF hNw (fun s hs => ?_) hNl, fun u G7 H7 z7 s7 h7 => ?_⟩
  · have a1 := oa.pos s
    have a2 := oa.top s
    have b1 := ob.pos s
    have b2 := ob.top s
    split <;> omega
  · exact q u G7 H7 z7 (s1.trans (s5.trans (s6.trans s7))) h7
def spSAnd (K : PySem.W.Frag) (C : Addr) : Sp := fun vs H Q _ => ∃ G M x y a b, vs = [.ref x, .ref y] ∧ Zp G M H ∧ StI G C x a ∧ StI G C y b ∧ NsOk a ∧ NsOk b ∧ a.length + b.length ≤ 60 ∧ ∀ u G1 H1, Zp G1 M H1 → Same G G1 → StI G1 C u (posL (opF (fun s => if lookN a s < lookN b s then lookN a s else lookN b s) (a.map (·.1)))) → Q (.ref u) H1
theorem ok_sand (T : Nm K mg) (SC : StC K C) (M_persons_of : Mth P w K mg base CX0 1 C "persons_of" ["self", "kind"] [] (spPers K C)) (C_staff_with : Own P w K mg base CX0 6 "staff_with" ["numbers"] (spWithS K C)) (C_smaller : Own P w K mg base CX0 1 "smaller" ["one", "other"] spGsmaller) (F : FunD K "__and__" "Staff.__and__" (defArgs s_Staff_and) (defBody s_Staff_and) (defScope s_Staff_and) [] [] f fd) : FnOk P w K mg base CX0 7 f fd ["self", "other"] (spSAnd K C) := by
  have nd : N_Staff_and.Nodup := sc_Staff_and.nd
  refine F.ok sc_Staff_and (fun vs H Q E h => ?_) (fun cdv A outer s H vs Q E hr h => ?_)
  · obtain ⟨G, M, x, y, a, b, rfl, _⟩ := h
    rfl
  have hu := hr.units
  refine ⟨_, PSs.nox   (pss_one (ps_ret (pe_own C_staff_with (hr.mono (by omega)) (by rfl) pass0 (pa_cons (pe_frz (pe_dc (own := [("name", 2)]) (tt := tYes) rfl nd (pi_keys (k_fld (K := K) (pv 0) rfl)) (blkOk_by (N := N_Staff_and) (sc := defScope s_Staff_and) (by decide +kernel)) (fun _ _ _ _ _ => (pg_name (i := 2) nd rfl (by first | exact .inl rfl | exact .inr rfl))) (fun _ _ _ _ _ => pts_nil) (fun _ _ _ _ _ => (pv 2)) (fun _ _ _ _ _ => (pe_own C_smaller (hr.mono (by omega)) (by rfl) pass0 (pa_cons (pe_mt M_persons_of (hr.mono (by omega)) pass0 (pv 0) (pa_cons (pv 2) pa_nil)) (pa_cons (pe_mt M_persons_of (hr.mono (by omega)) pass0 (pv 1) (pa_cons (pv 2) pa_nil)) pa_nil)))))) pa_nil)))), ?_⟩
  obtain ⟨G, M, x, y, a, b, rfl, z, hx, hy, oa, ob, hl, q⟩ := h
  obtain ⟨dx0, dn0, e0, f0⟩ := id hx
  obtain ⟨dy0, dm0, e0', f0'⟩ := id hy
  repeat (walk_at "z")
  refine z_flI z e0 SC.cl SC.no (by rfl) ?_
  obtain ⟨od, eod⟩ := id f0
  have z1 := z
  have s1 := Same.refl G
  refine z_itK z eod ?_
  have hNl : (a.map (·.1)).length ≤ 60 := by
    rw [List.length_map]; omega
  have hNw : ∀ s ∈ (a.map (·.1)), wordS s = true := fun s hs => keyW oa hs
  generalize hN : (a.map (·.1)) = N at hNl hNw q ⊢
  refine dc_src src_K (fun i G' M' acc => M' = M ∧ Same G G' ∧ acc = nK (opF (fun s => if lookN a s < lookN b s then lookN a s else lookN b s) (N.take i))) z1 ⟨rfl, Same.refl _, rfl⟩ (fun i G' M' M1 acc H' ⟨_, s', _⟩ z' => z'.sub _ _ (s' _ _ eod)) ?_ ?_
  · rintro j y' G' M' acc Dl H' hy' ⟨rfl, s', rfl⟩ z'
    obtain ⟨s, hs, rfl⟩ : ∃ s, N[j]? = some s ∧ y' = .str s := by
      rw [← hN]
      unfold nK at hy'
      rw [List.getElem?_map, List.getElem?_map] at hy'
      obtain ⟨p, hp, rfl⟩ := Option.map_eq_some_iff.mp hy'
      obtain ⟨p', hp', rfl⟩ := Option.map_eq_some_iff.mp hp
      exact ⟨p'.1, by rw [List.getElem?_map, hp']; rfl, rfl⟩
    have hj := (List.getElem?_eq_some_iff.mp hs).1
    have hln := opF_len (fun s => if lookN a s < lookN b s then lookN a s else lookN b s) (N.take j)
    rw [List.length_take] at hln
    repeat (walk_at "z")
    refine ⟨by rfl, ?_⟩
    repeat (walk_at "z")
    obtain ⟨dx, dn, ex, fx⟩ := id (hx.up (s1.trans s'))
    obtain ⟨dy, dm, ey, fy⟩ := id (hy.up (s1.trans s'))
    refine z_mtI z' ex (by rfl) ?_
    repeat (walk_at "z")
    refine ⟨G', _, x, a, .str s, .str s, rfl, z', hx.up (s1.trans s'), .str _, ?_⟩
    repeat (walk_at "z")
    refine z_mtI z' ey (by rfl) ?_
    repeat (walk_at "z")
    refine ⟨G', _, y, b, .str s, .str s, rfl, z', hy.up (s1.trans s'), .str _, ?_⟩
    repeat (walk_at "z")
    refine ⟨_, _, rfl, ?_⟩
    refine z_laidD (k := .inr s) z' (by rw [nK_len]; omega) ⟨rfl, s', ?_⟩
    rw [putK_nK, take_snocS hs, opF_snoc]
    rfl
  rintro p5 G5 M5 acc5 H5 ⟨rfl, s5, rfl⟩ z5
  rw [show List.length _ = N.length from by rw [← hN]; simp [nK], List.take_length] at z5
  refine z_frzL z5 fun G6 H6 z6 s6 f6 => ?_
  repeat (walk_at "z")
  refine ⟨G6, _, p5, _, rfl, z6, f6, nsok_opF hNw (fun s hs => ?_) hNl, fun u G7 H7 z7 s7 h7 => ?_⟩
  · have a1 := oa.pos s
    have a2 := oa.top s
    have b1 := ob.pos s
    have b2 := ob.top s
    split <;> omega
  · exact q u G7 H7 z7 (s1.trans (s5.trans (s6.trans s7))) h7
theorem few_at {a : List (Str × Int)} {q : Str × Int} : ∀ {b : List (Str × Int)} {j : Nat}, b[j]? = some q → (∀ x ∈ b.take j, ¬ lookN a x.1 < x.2) → lookN a q.1 < q.2 → (b.find? fun q => decide (lookN a q.1 < q.2)).map (·.1) = some q.1
  | [], _, h, _, _ => by simp at h
  | x :: l, 0, h, _, hc => by
    obtain rfl : x = q := by simpa using h
    rw [List.find?_cons, decide_eq_true hc]
    rfl
  | x :: l, i + 1, h, ha, hc => by
    have h0 := ha x (by simp)
    rw [List.find?_cons, decide_eq_false h0]
    exact few_at (b := l) (j := i) (by simpa using h) (fun y hy => ha y (by rw [List.take_succ_cons]; exact List.mem_cons_of_mem _ hy)) hc
theorem few_no {a b : List (Str × Int)} (h : ∀ x ∈ b, ¬ lookN a x.1 < x.2) : (b.find? fun q => decide (lookN a q.1 < q.2)).map (·.1) = none := by
  rw [List.find?_eq_none.mpr fun x hx => by rw [decide_eq_false (h x hx)]; simp]
  rfl
def few (a b : List (Str × Int)) : Option Str := (b.find? fun q => decide (lookN a q.1 < q.2)).map (·.1)
def spSSub (K : PySem.W.Frag) (C CT : Addr) : Sp := fun vs H Q E => ∃ G M x y a b, vs = [.ref x, .ref y] ∧ Zp G M H ∧ StI G C x a ∧ StI G C y b ∧ NsOk a ∧ NsOk b ∧ a.length + b.length ≤ 60 ∧ (∀ nm, few a b = some nm → ∀ dx G1 H1, Zp G1 M H1 → Same G G1 → G1 dx = some (.xd [("kind", .str nm)]) → E (.ref CT) (some dx) H1) ∧
  (few a b = none → ∀ u G1 H1, Zp G1 M H1 → Same G G1 → StI G1 C u (posL (opF (fun s => lookN a s - lookN b s) (a.map (·.1)))) → Q (.ref u) H1)
theorem ok_ssub (T : Nm K mg) {CT : Addr} (SC : StC K C) (M_persons_of : Mth P w K mg base CX0 1 C "persons_of" ["self", "kind"] [] (spPers K C)) (C_staff_with : Own P w K mg base CX0 6 "staff_with" ["numbers"] (spWithS K C)) (S_TooFew : ExcG P w K mg base CT "TooFew" "kind") (F : FunD K "__sub__" "Staff.__sub__" (defArgs s_Staff_sub) (defBody s_Staff_sub) (defScope s_Staff_sub) [] [] f fd) : FnOk P w K mg base (L2.CX P w) 7 f fd ["self", "other"] (spSSub K C CT) := by
  have nd : N_Staff_sub.Nodup := sc_Staff_sub.nd
  refine F.ok sc_Staff_sub (fun vs H Q E h => ?_) (fun cdv A outer s H vs Q E hr h => ?_)
  · obtain ⟨G, M, x, y, a, b, rfl, _⟩ := h
    rfl
  have hu := hr.units
  refine ⟨_,   (pss_cons (ps_for (passes_of rfl) rfl (pi_keys (k_fld (K := K) (pv 1) rfl)) (pg_name (i := 2) nd rfl (by first | exact .inl rfl | exact .inr rfl)) (pss_one (ps_if (pt_cmpR o_lt (pe_mt M_persons_of (hr.mono (by omega)) pass0 (pv 0) (pa_cons (pv 2) pa_nil)) (pe_mt M_persons_of (hr.mono (by omega)) pass0 (pv 1) (pa_cons (pv 2) pa_nil)) (nomark _)) (pss_one (ps_rsG S_TooFew rfl (takes_of rfl rfl rfl rfl) (hr.mono (by omega)) (by rfl) (pv 2))) pss_nil)))
    (pss_one (ps_ret (pe_own C_staff_with (hr.mono (by omega)) (by rfl) pass0 (pa_cons (pe_frz (pe_dc (own := [("name", 2)]) (tt := tYes) rfl nd (pi_keys (k_fld (K := K) (pv 0) rfl)) (blkOk_by (N := N_Staff_sub) (sc := defScope s_Staff_sub) (by decide +kernel)) (fun _ _ _ _ _ => (pg_name (i := 2) nd rfl (by first | exact .inl rfl | exact .inr rfl))) (fun _ _ _ _ _ => pts_nil) (fun _ _ _ _ _ => (pv 2)) (fun _ _ _ _ _ => (pe_op o_sub (pe_mt M_persons_of (hr.mono (by omega)) pass0 (pv 0) (pa_cons (pv 2) pa_nil)) (pe_mt M_persons_of (hr.mono (by omega)) pass0 (pv 1) (pa_cons (pv 2) pa_nil)))))) pa_nil))))), ?_⟩
  obtain ⟨G, M, x, y, a, b, rfl, z, hx, hy, oa, ob, hl, qE, q⟩ := h
  obtain ⟨dx0, dn0, e0, f0⟩ := id hx
  obtain ⟨dy0, dm0, e0', f0'⟩ := id hy
  obtain ⟨od', eod'⟩ := id f0'
  repeat (walk_at "z")
  refine z_flI z e0' SC.cl SC.no (by rfl) ?_
  refine z_itK z eod' ?_
  refine for_src src_K (fun i σ G' M' => ∃ k2, M' = M ∧ Same G G' ∧ (∀ q ∈ b.take i, ¬ lookN a q.1 < q.2) ∧ σ = [some (.ref x), some (.ref y), k2]) z ⟨_, rfl, Same.refl _, (fun q hq => by simp at hq), rfl⟩ (fun i σ G' M' H' ⟨_, _, s', _⟩ z' => z'.sub _ _ (s' _ _ eod')) ?_ ?_
  · rintro j y' σ G' M' H' hy' ⟨k2, rfl, s', hno, rfl⟩ z'
    obtain ⟨qj, hqj, rfl⟩ : ∃ q, b[j]? = some q ∧ y' = .str q.1 := by
      unfold nK at hy'
      rw [List.getElem?_map, List.getElem?_map] at hy'
      obtain ⟨p, hp, rfl⟩ := Option.map_eq_some_iff.mp hy'
      obtain ⟨p', hp', rfl⟩ := Option.map_eq_some_iff.mp hp
      exact ⟨p', hp', rfl⟩
    obtain ⟨dx, dn, ex, fx⟩ := id (hx.up s')
    obtain ⟨dy, dm, ey, fy⟩ := id (hy.up s')
    repeat (walk_at "z")
    refine z_mtI z' ex (by rfl) ?_
    repeat (walk_at "z")
    refine ⟨G', _, x, a, .str qj.1, .str qj.1, rfl, z', hx.up s', .str _, ?_⟩
    repeat (walk_at "z")
    refine z_mtI z' ey (by rfl) ?_
    repeat (walk_at "z")
    refine ⟨G', _, y, b, .str qj.1, .str qj.1, rfl, z', hy.up s', .str _, ?_⟩
    have elb : persD b (.str qj.1) = qj.2 := lookN_of ob.nd (List.mem_of_getElem? hqj)
    rw [elb]
    repeat (walk_at "z")
    refine z_bd (fun c => ?_) (fun c => ?_)
    · repeat (walk_at "z")
      exact z_rsI fun dd hdd => qE qj.1 (few_at hqj hno c) dd _ _ (z'.new hdd _) (s'.trans (Same.new (z'.free hdd))) upd_same
    · repeat (walk_at "z")
      refine ⟨G', _, z', _, rfl, s', fun q hq => ?_, rfl⟩
      rw [take_snocS hqj] at hq
      rcases List.mem_append.mp hq with hq | hq
      · exact hno q hq
      · rw [List.mem_singleton.mp hq]
        exact c
  rintro σ G1 M1 H1 ⟨k2, rfl, s1, hno, rfl⟩ z1
  rw [List.length_map, nK_len, List.take_length] at hno
  have q := q (few_no hno)
  have hge : ∀ s, lookN b s ≤ lookN a s := fun s => by
    by_cases c : s ∈ b.map (·.1)
    · have := hno _ (lookN_in c)
      simp only at this
      omega
    · rw [lookN_out c]
      exact oa.pos s
  repeat (walk_at "z")
  refine z_flI z1 (s1 _ _ e0) SC.cl SC.no (by rfl) ?_
  obtain ⟨od, eod⟩ := id (f0.up s1)
  refine z_itK z1 eod ?_
  have hNl : (a.map (·.1)).length ≤ 60 := by
    rw [List.length_map]; omega
  have hNw : ∀ s ∈ (a.map (·.1)), wordS s = true := fun s hs => keyW oa hs
  generalize hN : (a.map (·.1)) = N at hNl hNw q ⊢
  refine dc_src src_K (fun i G' M' acc => M' = M1 ∧ Same G1 G' ∧ acc = nK (opF (fun s => lookN a s - lookN b s) (N.take i))) z1 ⟨rfl, Same.refl _, rfl⟩ (fun i G' M' M1 acc H' ⟨_, s', _⟩ z' => z'.sub _ _ (s' _ _ eod)) ?_ ?_
  · rintro j y' G' M' acc Dl H' hy' ⟨rfl, s', rfl⟩ z'
    obtain ⟨s, hs, rfl⟩ : ∃ s, N[j]? = some s ∧ y' = .str s := by
      rw [← hN]
      unfold nK at hy'
      rw [List.getElem?_map, List.getElem?_map] at hy'
      obtain ⟨p, hp, rfl⟩ := Option.map_eq_some_iff.mp hy'
      obtain ⟨p', hp', rfl⟩ := Option.map_eq_some_iff.mp hp
      exact ⟨p'.1, by rw [List.getElem?_map, hp']; rfl, rfl⟩
    have hj := (List.getElem?_eq_some_iff.mp hs).1
    have hln := opF_len (fun s => lookN a s - lookN b s) (N.take j)
    rw [List.length_take] at hln
    repeat (walk_at "z")
    refine ⟨by rfl, ?_⟩
    repeat (walk_at "z")
    obtain ⟨dx, dn, ex, fx⟩ := id (hx.up (s1.trans s'))
    obtain ⟨dy, dm, ey, fy⟩ := id (hy.up (s1.trans s'))
    refine z_mtI z' ex (by rfl) ?_
    repeat (walk_at "z")
    refine ⟨G', _, x, a, .str s, .str s, rfl, z', hx.up (s1.trans s'), .str _, ?_⟩
    repeat (walk_at "z")
    refine z_mtI z' ey (by rfl) ?_
    repeat (walk_at "z")
    refine ⟨G', _, y, b, .str s, .str s, rfl, z', hy.up (s1.trans s'), .str _, ?_⟩
    repeat (walk_at "z")
    refine z_laidD (k := .inr s) z' (by rw [nK_len]; omega) ⟨rfl, s', ?_⟩
    rw [putK_nK, take_snocS hs, opF_snoc]
    rfl
  rintro p5 G5 M5 acc5 H5 ⟨rfl, s5, rfl⟩ z5
  rw [show List.length _ = N.length from by rw [← hN]; simp [nK], List.take_length] at z5
  refine z_frzL z5 fun G6 H6 z6 s6 f6 => ?_
  repeat (walk_at "z")
  refine ⟨G6, _, p5, _, rfl, z6, f6, nsok_opF hNw (fun s hs => ?_) hNl, fun u G7 H7 z7 s7 h7 => ?_⟩
  · have a1 := oa.pos s
    have a2 := oa.top s
    have b1 := ob.pos s
    have b2 := ob.top s
    have := hge s
    omega
  · exact q u G7 H7 z7 (s1.trans (s5.trans (s6.trans s7))) h7

end
end LW
namespace LW
open PySem PySem.Spec PyProof.Rows L2 Ys

/-! ### dicts from pairs -/
theorem psnoc {α β : Type} {R : α → β → Prop} : ∀ {xs : List α} {ys : List β} {x : α} {y : β}, R x y → Paired R xs ys → Paired R (xs ++ [x]) (ys ++ [y])
  | _, _, _, _, h, .nil => .cons h .nil
  | _, _, _, _, h, .cons a r => .cons a (psnoc h r)
def Prk (K : PySem.W.Frag) (G : Hp) (ps : List Addr) (kvs : List (Key × V)) : Prop := Paired (fun p (kv : Key × V) => SqT K G p [kV kv.1, kv.2]) ps kvs
theorem Prk.up {K : PySem.W.Frag} {G G1 : Hp} {ps kvs} (h : Prk K G ps kvs) (s : Same G G1) : Prk K G1 ps kvs := L2.Paired.mapP h fun _ _ h => upT s h
theorem Prk.len {K : PySem.W.Frag} {G : Hp} {ps kvs} (h : Prk K G ps kvs) : ps.length = kvs.length := Paired.length h
theorem mergeNd : ∀ {more acc : List (Key × V)}, ((acc ++ more).map (·.1)).Nodup → mergeK acc more = acc ++ more
  | [], acc, _ => by show acc = acc ++ []; rw [List.append_nil]
  | (k, v) :: r, acc, h => by
    have hk : k ∉ acc.map (·.1) := by
      intro hm
      rw [List.map_append, List.nodup_append] at h
      exact h.2.2 k hm k (by simp) rfl
    show mergeK (putK acc k v) r = _
    rw [putK_new _ (valV_out hk), mergeNd (more := r) (acc := acc ++ [(k, v)]) (by rw [List.append_assoc]; exact h), List.append_assoc]
    rfl
theorem merge_nK {ns : List (Str × Int)} (h : (ns.map (·.1)).Nodup) : mergeK [] (nK ns) = nK ns := by
  rw [mergeNd (more := nK ns) (acc := []) (by rw [List.nil_append, nK_keys]; exact h.map _ fun a b n e => n (Sum.inr.inj e)), List.nil_append]
structure DrN (ws : List Str) (ns : List (Str × Int)) : Prop where
  sb : (ns.map (·.1)).Sublist ws
  lo : ∀ q ∈ ns, 0 ≤ q.2 ∧ q.2 ≤ 250000000000000000000000000000
theorem DrN.ok {ws : List Str} {ns : List (Str × Int)} (h : DrN ws ns) (nd : ws.Nodup) (hw : ∀ s ∈ ws, wordS s = true) (hl : ws.length ≤ 20) : NsOk ns := by
  have := h.sb.length_le
  rw [List.length_map] at this
  exact ⟨nd.sublist h.sb, fun q hq => hw _ (h.sb.subset (List.mem_map.mpr ⟨q, hq, rfl⟩)), fun q hq => ⟨(h.lo q hq).1, Int.le_trans (h.lo q hq).2 (by decide)⟩, by omega⟩
section
variable {P : Program} {w : World} {K : PySem.W.Frag} {mg : Str → Option Value} {base : Heap} {f : Addr} {fd : FuncData} {C CT : Addr}
def spStaff (K : PySem.W.Frag) : Sp := fun vs H Q _ => ∃ p o G M b l, ∃ ws : List Str, vs = [.ref p, .ref l] ∧ Zp G ((p, o) :: M) H ∧ Pen K G b o ∧ b ≤ 100000000000 ∧ G l = some (.lst (ws.map V.str)) ∧ ws.length ≤ 20 ∧ ws.Nodup ∧
  ∀ d ns G1 H1 o1, Zp G1 ((p, o1) :: M) H1 → Same G G1 → Pen K G1 (b + 100) o1 → FzD G1 d (nK ns) → DrN ws ns → Q (.ref d) H1
theorem ok_staff (T : Nm K mg) (C_law_draw : OwnD P w K mg base) (C_law_pick : OwnP P w K mg base) (F : FnP K "_law_staff" s_law_staff f fd) : FnOk P w K mg base CX0 3 f fd ["_law_pen_here", "_law_words_here"] (spStaff K) := by
  have nd : N_law_staff.Nodup := sc_law_staff.nd
  refine F.ok sc_law_staff (fun vs H Q E h => ?_) (fun cdv A outer s H vs Q E hr h => ?_)
  · obtain ⟨p, o, G, M, b, l, ws, rfl, _⟩ := h
    rfl
  have hu := hr.units
  refine ⟨_, PSs.nox   (pss_one (ps_ret (pe_frz (pe_callTy (c_dictP (K := K) rfl) (by rfl) T.b_dict boot_dict (pa_cons (pe_lc (own := [("_law_word", 2)]) rfl nd (k_any (K := K) (pv 1)) (blkOk_by (N := N_law_staff) (sc := defScope s_law_staff) (by decide +kernel)) (fun _ _ _ _ _ => (pg_name (i := 2) nd rfl (by first | exact .inl rfl | exact .inr rfl))) (fun _ _ _ _ _ => pts_one (pt_cmpR o_gt (pe_own C_law_draw (hr.mono (by omega)) (by rfl) pass0 (pa_cons (pv 0) (pa_cons pe_int pa_nil))) pe_int (nomark _))) (fun _ _ _ _ _ => (pe_tup (pa_cons (pv 2) (pa_cons (pe_own C_law_pick (hr.mono (by omega)) (by rfl) pass0 (pa_cons (pv 0) (pa_cons (pe_lst (pa_cons pe_int (pa_cons pe_int (pa_cons pe_int (pa_cons pe_int (pa_cons pe_int (pa_cons (pe_op o_div (pe_op o_pow pe_int pe_int) pe_int) pa_nil))))))) pa_nil))) pa_nil))))) pa_nil))))), ?_⟩
  obtain ⟨p, o, G, M, b, l, ws, rfl, z, hp, hb, hl, hl20, hnd, q⟩ := h
  repeat (walk_at "z")
  refine z_anyL ?_
  repeat (walk_at "z")
  refine z_itL z (SqL.of hl) ?_
  refine lc_src src_L (fun i G' M' acc => ∃ o' ps ns, M' = (p, o') :: M ∧ Same G G' ∧ Pen K G' (b + 2 * i) o' ∧ acc = ps.map V.ref ∧ Prk K G' ps (nK ns) ∧ DrN (ws.take i) ns) z ⟨o, [], [], rfl, Same.refl _, hp, rfl, .nil, ⟨List.Sublist.refl _, fun q hq => by cases hq⟩⟩ (fun i G' M' M1 acc H' ⟨_, _, _, _, s', _⟩ z' => z'.seqL (upL s' (SqL.of hl))) ?_ ?_
  · rintro j y G' M' acc Dl H' hy ⟨o', ps, ns, rfl, s', hp', rfl, hps, dn⟩ z'
    rw [List.getElem?_map] at hy
    obtain ⟨s, hs, rfl⟩ := Option.map_eq_some_iff.mp hy
    have hj := (List.getElem?_eq_some_iff.mp hs).1
    have hpl := hps.len
    rw [nK_len] at hpl
    have hdl := dn.sb.length_le
    rw [List.length_map, List.length_take] at hdl
    repeat (walk_at "z")
    refine ⟨by rfl, ?_⟩
    repeat (walk_at "z")
    refine ⟨p, o', G', _, _, _, rfl, z', hp', by omega, by decide, by decide, fun c G1 H1 o1 z1 s1 hp1 c0 c3 => ?_⟩
    repeat (walk_at "z")
    refine z_bd (fun cp => ?_) (fun cp => ?_)
    · repeat (walk_at "z")
      refine z_I (by unfold CPow; decide) ?_
      repeat (walk_at "z")
      refine z_I (dw (by decide) (by decide)) ?_
      repeat (walk_at "z")
      refine z_newL z1 (by simp) fun q6 G6 H6 z6 s6 e6 => ?_
      repeat (walk_at "z")
      refine ⟨p, o1, G6, _, _, _, rfl, z6, hp1.up s6, by omega, .inl ⟨q6, _, rfl, .inl (SqL.of e6), by simp, by simp, fun v G7 H7 o7 hv z7 s7 hp7 => ?_⟩⟩
      obtain ⟨i, rfl, i0, i1⟩ : ∃ i, v = V.int i ∧ 0 ≤ i ∧ i ≤ 250000000000000000000000000000 := by
        simp only [List.mem_cons, List.not_mem_nil, or_false] at hv
        rcases hv with rfl | rfl | rfl | rfl | rfl | rfl <;> exact ⟨_, rfl, by decide, by decide⟩
      repeat (walk_at "z")
      refine z_newT z7 (by simp) fun q8 G8 H8 z8 s8 e8 => ?_
      have s18 := s1.trans (s6.trans (s7.trans s8))
      refine z_laid (M := (p, o7) :: M) z8 (by rw [List.length_map]; omega) ⟨o7, ps ++ [q8], ns ++ [(s, i)], rfl, s'.trans s18, (hp7.up s8).mono (by omega), by rw [List.map_append]; rfl, ?_, ?_⟩
      · unfold nK
        rw [List.map_append]
        exact psnoc (SqT.of e8) (hps.up s18)
      · refine ⟨?_, fun q hq => ?_⟩
        · rw [List.map_append, take_snocS hs]
          exact dn.sb.append (List.Sublist.refl _)
        · rcases List.mem_append.mp hq with hq | hq
          · exact dn.lo q hq
          · rw [List.mem_singleton.mp hq]
            exact ⟨i0, i1⟩
    · refine z_left (M := (p, o1) :: M) z1 ⟨o1, ps, ns, rfl, s'.trans s1, hp1.mono (by omega), rfl, hps.up s1, ?_, dn.lo⟩
      rw [take_snocS hs]
      exact dn.sb.trans (List.sublist_append_left _ _)
  rintro p2 G2 M2 acc G3 H3 ⟨o2, ps, ns, rfl, s2, hp2, rfl, hps, dn⟩ s3 z3 e3
  rw [List.length_map, List.take_length] at dn
  rw [List.length_map] at hp2
  repeat (walk_at "z")
  refine z_dictP z3 (SqL.of e3) (hps.up s3) fun d4 H4 z4 => ?_
  rw [merge_nK (hnd.sublist dn.sb)] at z4
  exact z_frzL (M := (p, o2) :: M) z4 fun G5 H5 z5 s5 f5 => q d4 ns G5 H5 o2 z5 (s2.trans (s3.trans s5)) ((hp2.up (s3.trans s5)).mono (by omega)) f5 dn
def spPlain (K : PySem.W.Frag) : Sp := fun vs H Q _ => ∃ G M d ns, vs = [.ref d] ∧ Zp G M H ∧ FzD G d (nK ns) ∧ ns.length ≤ 60 ∧ ∀ p G1 H1, Zp G1 M H1 → Same G G1 → FzD G1 p (nK (posL ns)) → Q (.ref p) H1
theorem ok_plain (T : Nm K mg) (F : FnP K "_law_plain" s_law_plain f fd) : FnOk P w K mg base CX0 1 f fd ["_law_numbers"] (spPlain K) := by
  have nd : N_law_plain.Nodup := sc_law_plain.nd
  refine F.ok sc_law_plain (fun vs H Q E h => ?_) (fun cdv A outer s H vs Q E hr h => ?_)
  · obtain ⟨G, M, d, ns, rfl, _⟩ := h
    rfl
  have hu := hr.units
  refine ⟨_, PSs.nox   (pss_one (ps_ret (pe_frz (pe_callTy (c_dictP (K := K) rfl) (by rfl) T.b_dict boot_dict (pa_cons (pe_lc (own := [("_law_word", 1)]) rfl nd (k_any (K := K) (pe_callB (kc_sorted (K := K) (P := P) (w := w) rfl) (by rfl) T.b_sorted boot_sorted (pa_cons (pe_callTy (kc_setD (P := P) (w := w) rfl) (by rfl) T.b_set boot_set (pa_cons (pv 0) pa_nil)) pa_nil))) (blkOk_by (N := N_law_plain) (sc := defScope s_law_plain) (by decide +kernel)) (fun _ _ _ _ _ => (pg_name (i := 1) nd rfl (by first | exact .inl rfl | exact .inr rfl))) (fun _ _ _ _ _ => pts_one (pt_cmpR o_gt (pe_dget (hu_of hr) (pv 0) (pv 1) (fun _ _ => rfl)) pe_int (nomark _))) (fun _ _ _ _ _ => (pe_tup (pa_cons (pv 1) (pa_cons (pe_dget (hu_of hr) (pv 0) (pv 1) (fun _ _ => rfl)) pa_nil))))) pa_nil))))), ?_⟩
  obtain ⟨G, M, d, ns, rfl, z, hd, hl, q⟩ := h
  have hal := asc_lenS (ns.map (·.1))
  rw [List.length_map] at hal
  repeat (walk_at "z")
  refine z_anyL ?_
  repeat (walk_at "z")
  refine z_setD z hd (nK_keys ns) (by rw [List.length_map]; omega) fun p l G2 H2 z2 s2 e2 m2 nd2 l2 => ?_
  rw [List.length_map] at l2
  repeat (walk_at "z")
  refine z_sortX z2 e2 m2 nd2 (by omega) fun p3 G3 H3 z3 s3 e3 => ?_
  refine z_itL z3 (SqL.of e3) ?_
  refine lc_src src_L (fun i G' M' acc => ∃ ps, M' = M ∧ Same G3 G' ∧ acc = ps.map V.ref ∧ Prk K G' ps (nK ((((asc (ns.map (·.1))).take i).filter fun s => decide (0 < lookN ns s)).map fun s => (s, lookN ns s)))) z3 ⟨[], rfl, Same.refl _, rfl, .nil⟩ (fun i G' M' M1 acc H' ⟨_, _, s', _⟩ z' => z'.seqL (upL s' (SqL.of e3))) ?_ ?_
  · rintro j y G' M' acc Dl H' hy ⟨ps, rfl, s', rfl, hps⟩ z'
    rw [List.getElem?_map] at hy
    obtain ⟨s, hs, rfl⟩ := Option.map_eq_some_iff.mp hy
    have hm : s ∈ ns.map (·.1) := asc_mem.mp (List.mem_of_getElem? hs)
    have hj := (List.getElem?_eq_some_iff.mp hs).1
    have hpl := hps.len
    rw [nK_len, List.length_map] at hpl
    have hfl := List.length_filter_le (fun s => decide (0 < lookN ns s)) ((asc (ns.map (·.1))).take j)
    rw [List.length_take] at hfl
    have hdd := (hd.up (s2.trans s3)).up s'
    repeat (walk_at "z")
    refine ⟨by rfl, ?_⟩
    repeat (walk_at "z")
    refine z_dgU z' hdd (valV_nK ns s hm) ?_
    repeat (walk_at "z")
    refine z_bd (fun hp => ?_) (fun hp => ?_)
    · repeat (walk_at "z")
      refine z_dgU z' hdd (valV_nK ns s hm) ?_
      repeat (walk_at "z")
      refine z_newT z' (by simp) fun q8 G8 H8 z8 s8 e8 => ?_
      refine z_laid (M := M') z8 (by rw [List.length_map]; omega) ⟨ps ++ [q8], rfl, s'.trans s8, by rw [List.map_append]; rfl, ?_⟩
      rw [take_snocS hs, List.filter_append]
      unfold nK
      simp only [List.filter_cons, hp, decide_true, if_true, List.filter_nil, List.map_append, List.map_cons, List.map_nil]
      exact psnoc (SqT.of e8) (hps.up s8)
    · refine z_left z' ⟨ps, rfl, s', rfl, ?_⟩
      rw [take_snocS hs, List.filter_append]
      simp only [List.filter_cons, hp, decide_false, Bool.false_eq_true, if_false, List.filter_nil, List.append_nil]
      exact hps
  rintro p4 G4 M4 acc G5 H5 ⟨ps, rfl, s4, rfl, hps⟩ s5 z5 e5
  rw [List.length_map, List.take_length] at hps
  repeat (walk_at "z")
  refine z_dictP z5 (SqL.of e5) (hps.up s5) fun d6 H6 z6 => ?_
  rw [merge_nK (by rw [show ((((asc (ns.map (·.1))).filter fun s => decide (0 < lookN ns s)).map fun s => (s, lookN ns s)).map (·.1)) = posK ns from posL_keys ns]; exact posK_nodup ns)] at z6
  exact z_frzL z6 fun G7 H7 z7 s7 f7 => q d6 G7 H7 z7 ((s2.trans s3).trans (s4.trans (s5.trans s7))) f7
def spLWithin (K : PySem.W.Frag) : Sp := fun vs H Q _ => ∃ G M d e ns, ∃ l : List (Str × Option Int), vs = [.ref d, .ref e] ∧ Zp G M H ∧ FzD G d (nK ns) ∧ FzD G e (limK l) ∧ (l.map (·.1)).Nodup ∧ l.length ≤ 60 ∧ ∀ G1 H1, Zp G1 M H1 → Same G G1 → Q (.bl (l.all (limB ns))) H1
theorem limK_keys (l : List (Str × Option Int)) : (limK l).map (·.1) = (l.map (·.1)).map .inr := by
  unfold limK
  rw [List.map_map, List.map_map]
  rfl
theorem limK_nd {l : List (Str × Option Int)} (h : (l.map (·.1)).Nodup) : ((limK l).map (·.1)).Nodup := by
  rw [limK_keys]
  exact h.map _ fun a b n e => n (Sum.inr.inj e)
theorem ok_lwithin (T : Nm K mg) (F : FnP K "_law_within" s_law_within f fd) : FnOk P w K mg base CX0 1 f fd ["_law_mine", "_law_caps"] (spLWithin K) := by
  have nd : N_law_within.Nodup := sc_law_within.nd
  refine F.ok sc_law_within (fun vs H Q E h => ?_) (fun cdv A outer s H vs Q E hr h => ?_)
  · obtain ⟨G, M, d, e, ns, l, rfl, _⟩ := h
    rfl
  have hu := hr.units
  refine ⟨_, PSs.nox   (pss_one (ps_ret (pe_cmpR (k_eq (K := K) hu) (pe_lc (own := [("_law_word", 2)]) rfl nd (pi_keys (pv 1)) (blkOk_by (N := N_law_within) (sc := defScope s_law_within) (by decide +kernel)) (fun _ _ _ _ _ => (pg_name (i := 2) nd rfl (by first | exact .inl rfl | exact .inr rfl))) (fun _ _ _ _ _ => pts_one (PW.pt (pw_and (pt_cmpR o_notN (pe_dget (hu_of hr) (pv 1) (pv 2) (fun _ _ => rfl)) pe_non (nomark _)) (pw_and1 (pt_cmpR o_gt (pe_dget2 (hu_of hr) (pv 0) (pv 2) pe_int ⟨by rfl, by rfl, by rfl, by rfl⟩) (pe_dget (hu_of hr) (pv 1) (pv 2) (fun _ _ => rfl)) (nomark _)))))) (fun _ _ _ _ _ => (pv 2))) (pe_lst pa_nil) (nomark _)))), ?_⟩
  obtain ⟨G, M, d, e, ns, l, rfl, z, hd, he, hnd, hl, q⟩ := h
  obtain ⟨oe, eoe⟩ := id he
  repeat (walk_at "z")
  refine z_itK z eoe ?_
  refine lc_src src_K (fun i G' M' acc => M' = M ∧ Same G G' ∧ acc = ((l.take i).filter (fun q => !limB ns q)).map fun q => V.str q.1) z ⟨rfl, Same.refl _, rfl⟩ (fun i G' M' M1 acc H' ⟨_, s', _⟩ z' => z'.sub _ _ (s' _ _ eoe)) ?_ ?_
  · rintro j y G' M' acc Dl H' hy ⟨rfl, s', rfl⟩ z'
    have hj := (List.getElem?_eq_some_iff.mp hy).1
    rw [List.length_map] at hj
    have hkl : (limK l).length = l.length := by unfold limK; rw [List.length_map]
    rw [hkl] at hj
    obtain ⟨⟨s, lim⟩, hq⟩ : ∃ q, l[j]? = some q := ⟨_, List.getElem?_eq_getElem hj⟩
    have hkv : (limK l)[j]? = some (.inr s, limV lim) := by
      unfold limK
      rw [List.getElem?_map, hq]
      rfl
    rw [List.getElem?_map, hkv] at hy
    obtain rfl : V.str s = y := Option.some.inj hy
    have hval : valV (limK l) (.inr s) = some (limV lim) := valV_ix (limK_nd hnd) hkv
    have hfl := List.length_filter_le (fun q => !limB ns q) (l.take j)
    rw [List.length_take] at hfl
    have fin : ∀ (bb : Bool), limB ns (s, lim) = bb → Bif (!bb) (Laid (fun G'' M'' acc' => M'' = M' ∧ Same G G'' ∧ acc' = ((l.take (j + 1)).filter (fun q => !limB ns q)).map fun q => V.str q.1) Dl (.str s) H') (Kept (fun G'' M'' acc' => M'' = M' ∧ Same G G'' ∧ acc' = ((l.take (j + 1)).filter (fun q => !limB ns q)).map fun q => V.str q.1) Dl H') := fun bb hb => by
      cases bb with
      | true =>
        refine z_left z' ⟨rfl, s', ?_⟩
        rw [take_snocS hq, List.filter_append]
        simp [hb]
      | false =>
        refine z_laid (M := M') z' (by rw [List.length_map]; omega) ⟨rfl, s', ?_⟩
        rw [take_snocS hq, List.filter_append]
        simp [hb]
    repeat (walk_at "z")
    refine ⟨by rfl, ?_⟩
    repeat (walk_at "z")
    refine z_dgU z' (he.up s') hval ?_
    repeat (walk_at "z")
    cases lim with
    | none =>
      dsimp only [limV]
      refine z_nN ?_
      rw [decide_eq_true rfl]
      repeat (walk_at "z")
      exact fin true rfl
    | some i =>
      dsimp only [limV]
      refine z_nN ?_
      rw [decide_eq_false (fun e => nomatch e)]
      repeat (walk_at "z")
      refine z_dg2A z' (hd.up s') ?_
      repeat (walk_at "z")
      refine z_dg2S z' (hd.up s') ?_
      rw [getD_nK]
      repeat (walk_at "z")
      refine z_dgU z' (he.up s') hval ?_
      dsimp only [limV]
      repeat (walk_at "z")
      by_cases c : lookN ns s ≤ i
      · rw [decide_eq_false (by omega)]
        exact fin true (by show decide _ = true; rw [decide_eq_true c])
      · rw [decide_eq_true (by omega)]
        have h := fin false (by show decide _ = false; rw [decide_eq_false c])
        repeat (walk_at "z")
        exact h
  rintro p1 G1 M1 acc G2 H2 ⟨rfl, s1, rfl⟩ s2 z2 e2
  rw [List.length_map, show (limK l).length = l.length by unfold limK; rw [List.length_map], List.take_length] at e2
  repeat (walk_at "z")
  refine z_newL z2 (by simp) fun p3 G3 H3 z3 s3 e3 => ?_
  refine z_eqNil (z3.seqL (upL s3 (SqL.of e2))) (z3.sub _ _ e3) ?_
  have e : decide (((l.filter (fun q => !limB ns q)).map fun q => V.str q.1) = []) = l.all (limB ns) := by
    rw [Bool.eq_iff_iff, decide_eq_true_eq, List.map_eq_nil_iff, List.filter_eq_nil_iff, List.all_eq_true]
    exact forall_congr' fun q => forall_congr' fun _ => by simp
  rw [e]
  exact q G3 H3 z3 (s1.trans (s2.trans s3))
def nD (ns : List (Str × Int)) : PyData := .dict (ns.map fun q => (.str q.1, .int q.2))
def lessD (a b : List (Str × Int)) : PyData := match few a b with
  | some nm => .tuple [.str nm, .bool true]
  | none => nD (posL (opF (fun s => lookN a s - lookN b s) (a.map (·.1))))
end
end LW
namespace LW
open PySem PySem.Spec PyProof.Rows L2 Ys
theorem rc_one {q c : Nat} (hq : q = 34 ∨ q = 39) (h1 : 97 ≤ c) (h2 : c ≤ 122) : (Builtin.Str.reprChar q c).length = 1 := by
  have h : (List.range 26).all (fun k => decide ((Builtin.Str.reprChar 34 (97 + k)).length = 1) && decide ((Builtin.Str.reprChar 39 (97 + k)).length = 1)) = true := by decide +kernel
  have := List.all_eq_true.mp h (c - 97) (List.mem_range.mpr (by omega))
  have e : 97 + (c - 97) = c := by omega
  rw [e] at this
  obtain ⟨a, b⟩ := Bool.and_eq_true_iff.mp this
  rcases hq with rfl | rfl
  · exact of_decide_eq_true a
  · exact of_decide_eq_true b
theorem fold_one {q : Nat} (hq : q = 34 ∨ q = 39) : ∀ (l : List Nat) (n : Nat), (∀ c ∈ l, 97 ≤ c ∧ c ≤ 122) → l.foldl (fun n c => n + (Builtin.Str.reprChar q c).length) n = n + l.length
  | [], n, _ => rfl
  | c :: r, n, h => by
    have hc := h c (List.mem_cons_self ..)
    rw [List.foldl_cons, rc_one hq hc.1 hc.2, fold_one hq r _ fun d hd => h d (List.mem_cons_of_mem _ hd), List.length_cons]
    omega
theorem rt_len {s : Str} (h : Lt s) : (reprText s).length = s.length + 2 := by
  have hq : reprQuote s = 34 ∨ reprQuote s = 39 := by
    unfold reprQuote
    split
    · exact .inl rfl
    · exact .inr rfl
  rw [← reprLen_eq, ← Array.foldl_toList, fold_one hq _ _ h]
  have e : s.cps.toList.length = s.length := by simp [Str.length]
  omega
theorem joinP : ∀ ts : List Str, (Str.join ", " ts).length ≤ piled ts
  | [] => Nat.zero_le _
  | t :: ts => by
    have := join_length_add (t :: ts) (by simp)
    omega
theorem tup_len (ts : List Str) : (tupleText ts).length ≤ piled ts + 3 := by
  have h1 := joinP ts
  unfold tupleText
  have e1 : ((",)" : String) : Str).length = 2 := rfl
  have e2 : ((")" : String) : Str).length = 1 := rfl
  have e3 : ((if (ts.length == 1) = true then ",)" else ")" : String) : Str).length ≤ 2 := by
    split
    · exact Nat.le_of_eq e1
    · rw [e2]; decide
  rw [PySem.Str.length_append, PySem.Str.length_append]
  have e4 : (("(" : Str)).length = 1 := rfl
  rw [e4]
  omega
theorem tf_len : ∀ (ts : List Str) (k : Nat) (acc : Str), (textFrom k acc ts).length ≤ acc.length + piled ts
  | [], k, acc => by show acc.length ≤ _; exact Nat.le_add_right _ _
  | t :: r, k, acc => by
    have ih := tf_len r (k + 1) (acc ++ (if k > 0 then ", " else "" : String) ++ t)
    have e : (acc ++ (if k > 0 then ", " else "" : String) ++ t).length ≤ acc.length + 2 + t.length := by
      rw [PySem.Str.length_append, PySem.Str.length_append]
      have : ((if k > 0 then ", " else "" : String) : Str).length ≤ 2 := by split <;> decide
      omega
    show (textFrom (k + 1) _ r).length ≤ _
    rw [piled_cons]
    omega
theorem lst_len (ts : List Str) : (listText ts).length ≤ piled ts + 2 := by
  have h := tf_len ts 0 "["
  have e1 : (("[" : String) : Str).length = 1 := rfl
  have e2 : (("]" : String) : Str).length = 1 := rfl
  unfold listText
  rw [PySem.Str.length_append, e2]
  rw [e1] at h
  omega
theorem sAll_map : ∀ ds : List PyData, PyData.shownAll ds = ds.map PyData.shown
  | [] => rfl
  | d :: ds => congrArg (PyData.shown d :: ·) (sAll_map ds)
theorem sAll_ok : ∀ {ds : List PyData}, (∀ d ∈ ds, d.showable = true) → PyData.showableAll ds = true
  | [], _ => rfl
  | d :: ds, h => by
    show (d.showable && PyData.showableAll ds) = true
    rw [h d (List.mem_cons_self ..), sAll_ok fun e he => h e (List.mem_cons_of_mem _ he)]
    rfl
structure Shw (d : PyData) (n : Nat) : Prop where
  ok : d.showable = true
  le : d.shown.length ≤ n
theorem Shw.mono {n m : Nat} {d : PyData} (h : Shw d n) (hn : n ≤ m) : Shw d m := ⟨h.ok, Nat.le_trans h.le hn⟩
theorem shw_wd {s : Str} (h : Wd s) : Shw (.str s) 10 := ⟨rfl, by
  show (reprText s).length ≤ 10
  rw [rt_len h.2.2]
  have := h.2.1
  omega⟩
theorem piled_le {n : Nat} : ∀ {ts : List Str}, (∀ t ∈ ts, t.length ≤ n) → piled ts ≤ (n + 2) * ts.length
  | [], _ => Nat.zero_le _
  | t :: ts, h => by
    have h1 := h t (List.mem_cons_self ..)
    have h2 := piled_le (ts := ts) fun u hu => h u (List.mem_cons_of_mem _ hu)
    rw [piled_cons, List.length_cons, Nat.mul_add, Nat.mul_one]
    omega
theorem shw_tup {n : Nat} {ds : List PyData} (h : ∀ d ∈ ds, Shw d n) : Shw (.tuple ds) ((n + 2) * ds.length + 3) := by
  refine ⟨sAll_ok fun d hd => (h d hd).ok, ?_⟩
  show (tupleText (PyData.shownAll ds)).length ≤ _
  have h1 := tup_len (PyData.shownAll ds)
  have h2 := piled_le (n := n) (ts := PyData.shownAll ds) fun t ht => by
    rw [sAll_map] at ht
    obtain ⟨d, hd, rfl⟩ := List.mem_map.mp ht
    exact (h d hd).le
  rw [sAll_map, List.length_map] at h2
  rw [sAll_map] at h1 ⊢
  omega
theorem shw_lst {n : Nat} {ds : List PyData} (h : ∀ d ∈ ds, Shw d n) : Shw (.list ds) ((n + 2) * ds.length + 2) := by
  refine ⟨sAll_ok fun d hd => (h d hd).ok, ?_⟩
  show (listText (PyData.shownAll ds)).length ≤ _
  have h1 := lst_len (PyData.shownAll ds)
  have h2 := piled_le (n := n) (ts := PyData.shownAll ds) fun t ht => by
    rw [sAll_map] at ht
    obtain ⟨d, hd, rfl⟩ := List.mem_map.mp ht
    exact (h d hd).le
  rw [sAll_map, List.length_map] at h2
  rw [sAll_map] at h1 ⊢
  omega
theorem word_wd {s : Str} (h : wordS s = true) : Wd s := by
  obtain ⟨h1, h2⟩ := Bool.and_eq_true_iff.mp h
  obtain ⟨h3, h4⟩ := Bool.and_eq_true_iff.mp h2
  refine ⟨of_decide_eq_true h1, of_decide_eq_true h3, fun c hc => ?_⟩
  have hm := of_decide_eq_true (List.all_eq_true.mp h4 c hc)
  have e : abcL = (List.range 26).map (· + 97) := by decide +kernel
  rw [e] at hm
  obtain ⟨k, hk, rfl⟩ := List.mem_map.mp hm
  have := List.mem_range.mp hk
  omega
theorem shw_word {s : Str} (h : wordS s = true) : Shw (.str s) 10 := shw_wd (word_wd h)
theorem dict_len (ts : List Str) : (dictText ts).length ≤ piled ts + 2 := by
  have h1 := joinP ts
  unfold dictText
  rw [PySem.Str.length_append, PySem.Str.length_append]
  have e1 : (("{" : Str)).length = 1 := rfl
  have e2 : (("}" : Str)).length = 1 := rfl
  rw [e1, e2]
  omega

theorem shw_big {i : Int} (h0 : 0 ≤ i) (h1 : i ≤ 1000000000000000000000000000000) : Shw (.int i) 40 := by
  have hn : i.natAbs < 10 ^ 31 := by omega
  refine ⟨?_, ?_⟩
  · show decide (i.natAbs.log2 < 1920) = true
    rw [decide_eq_true_eq]
    by_cases c : i.natAbs = 0
    · rw [c]; decide
    · exact (Nat.log2_lt c).mpr (Nat.lt_of_lt_of_le hn (Nat.le_trans (show 10 ^ 31 ≤ 2 ^ 104 by decide) (Nat.pow_le_pow_right (by decide) (by decide))))
  · have e := int_text_length_le10 (k := 31) (by decide) hn
    show (Str.ofString (toString i)).length ≤ 40
    rw [PySem.ofString_length]
    omega
theorem shw_bl (b : Bool) : Shw (.bool b) 10 := by cases b <;> exact ⟨rfl, by decide⟩
theorem nDkv_ok : ∀ {ns : List (Str × Int)}, (∀ q ∈ ns, 0 ≤ q.2 ∧ q.2 ≤ 1000000000000000000000000000000) → PyData.showableKv (ns.map fun q => (PyData.str q.1, PyData.int q.2)) = true
  | [], _ => rfl
  | q :: r, h => by
    obtain ⟨h1, h2⟩ := h q (by simp)
    rw [List.map_cons, PyData.showableKv, (shw_big h1 h2).ok, nDkv_ok (ns := r) fun x hx => h x (List.mem_cons_of_mem _ hx)]
    rfl
theorem nDkv_piled : ∀ {ns : List (Str × Int)}, (∀ q ∈ ns, wordS q.1 = true) → (∀ q ∈ ns, 0 ≤ q.2 ∧ q.2 ≤ 1000000000000000000000000000000) → piled (PyData.shownKv (ns.map fun q => (PyData.str q.1, PyData.int q.2))) ≤ 60 * ns.length
  | [], _, _ => Nat.zero_le _
  | q :: r, hw, h => by
    obtain ⟨h1, h2⟩ := h q (by simp)
    have ih := nDkv_piled (ns := r) (fun x hx => hw x (List.mem_cons_of_mem _ hx)) fun x hx => h x (List.mem_cons_of_mem _ hx)
    have a1 := (shw_word (hw q (by simp))).le
    have a2 := (shw_big h1 h2).le
    rw [List.map_cons, PyData.shownKv, piled_cons, List.length_cons, PySem.Str.length_append, PySem.Str.length_append]
    have e : ((": " : Str)).length = 2 := rfl
    rw [e]
    omega
theorem shw_nD {ns : List (Str × Int)} (h : NsOk ns) : Shw (nD ns) 3700 := by
  refine ⟨nDkv_ok h.lo, ?_⟩
  have h1 := dict_len (PyData.shownKv (ns.map fun q => (PyData.str q.1, PyData.int q.2)))
  have h2 := nDkv_piled h.wd h.lo
  have h3 := h.ln
  show (dictText _).length ≤ _
  omega
theorem dep_nD (ns : List (Str × Int)) : (nD ns).depth ≤ 1 := by
  have : ∀ ns : List (Str × Int), PyData.depthKv (ns.map fun q => (PyData.str q.1, PyData.int q.2)) ≤ 0 := by
    intro ns
    induction ns with
    | nil => exact Nat.le_refl _
    | cons q r ih =>
      rw [List.map_cons, PyData.depthKv]
      exact Nat.max_le.mpr ⟨Nat.le_refl _, ih⟩
  show PyData.depthKv _ + 1 ≤ 1
  have := this ns
  omega
theorem dep_lst {n : Nat} {ds : List PyData} (h : ∀ d ∈ ds, d.depth ≤ n) : (PyData.list ds).depth ≤ n + 1 := by
  have : PyData.depthAll ds ≤ n := by
    induction ds with
    | nil => exact Nat.zero_le _
    | cons d r ih =>
      rw [PyData.depthAll]
      exact Nat.max_le.mpr ⟨h d (by simp), ih fun e he => h e (List.mem_cons_of_mem _ he)⟩
  show PyData.depthAll ds + 1 ≤ _
  omega
theorem dt_nD {K : PySem.W.Frag} {H : Hp} {a : Addr} {ns : List (Str × Int)} (h : Rd H a (.dK (nK ns))) : Dt K H (.ref a) (nD ns) := by
  refine .dct h ?_ ?_
  · unfold nK
    rw [List.map_map, List.map_map]
    rfl
  · unfold nK
    rw [List.map_map, List.map_map]
    clear h
    induction ns with
    | nil => exact .nil
    | cons q r ih => exact .cons (.int _) ih
end LW
namespace LW
open PySem PySem.Spec PyProof.Rows L2 Ys
/-! ### plain -/
theorem wd_word {s : Str} (h : Wd s) : wordS s = true := by
  obtain ⟨h1, h2, h3⟩ := h
  unfold wordS
  rw [decide_eq_true h1, decide_eq_true h2, Bool.true_and, Bool.true_and, List.all_eq_true]
  intro c hc
  rw [decide_eq_true_eq]
  have e : abcL = (List.range 26).map (· + 97) := by decide +kernel
  rw [e, List.mem_map]
  have := h3 c hc
  exact ⟨c - 97, List.mem_range.mpr (by omega), by omega⟩
def Trs (K : PySem.W.Frag) (G : Hp) (mn yn : List (Str × Int)) (ps : List Addr) (ws : List Str) : Prop := Paired (fun p s => SqT K G p [.str s, .int (lookN mn s), .int (lookN yn s)]) ps ws
theorem Trs.up {K : PySem.W.Frag} {G G1 : Hp} {mn yn ps ws} (h : Trs K G mn yn ps ws) (s : Same G G1) : Trs K G1 mn yn ps ws := L2.Paired.mapP h fun _ _ h => upT s h
section
variable {P : Program} {w : World} {K : PySem.W.Frag} {G H : Hp} {M : List (Addr × HO)} {σ : L2.St} {Q : VK} {C x y u : Addr} {a b ns : List (Str × Int)} {E : XK}
theorem z_nums (z : Zp G M H) (h : StI G C u ns) (q : ∀ p G1 H1, Zp G1 M H1 → Same G G1 → G1 p = some (.dK (nK ns)) → Q (.ref p) H1) : Ys.MtW C "numbers" (.ref u) H (tNil σ H fun vs H2 => spNums K C (.ref u :: (vs ++ [])) H2 Q E) := by
  obtain ⟨du, dw, eu, fu⟩ := id h
  refine z_mtI z eu (by rfl) ⟨G, M, u, ns, rfl, z, h, fun p H2 z2 => ?_⟩
  exact q p _ H2 z2.fix (Same.new (z2.own M.length _ _ last_at).2) upd_same
theorem z_opS {sp : Sp} (z : Zp G M H) (ha : StI G C x a) (hb : StI G C y b) (q : sp [.ref x, .ref y] H (fun v H1 => (∃ c, v = .ref c) ∧ Q v H1) E) : rBinI C sp E (.ref x) (.ref y) H Q := by
  obtain ⟨da, dw, ea, fa⟩ := ha
  obtain ⟨db, dv, eb, fb⟩ := hb
  exact ⟨x, da, _, y, db, _, rfl, z.sub _ _ ea, rfl, z.sub _ _ eb, q⟩
theorem z_addS (z : Zp G M H) (ha : StI G C x a) (hb : StI G C y b) (oa : NsOk a) (ob : NsOk b) (hl : a.length + b.length ≤ 60) (hB : ∀ s, lookN a s + lookN b s ≤ 1000000000000000000000000000000)
    (q : ∀ u G1 H1, Zp G1 M H1 → Same G G1 → StI G1 C u (posL (opF (fun s => lookN a s + lookN b s) (a.map (·.1) ++ b.map (·.1)))) → Q (.ref u) H1) : rBinI C (spSAdd K C) E (.ref x) (.ref y) H Q :=
  z_opS z ha hb ⟨G, M, x, y, a, b, rfl, z, ha, hb, oa, ob, hl, hB, fun u G1 H1 z1 s1 h1 => ⟨⟨u, rfl⟩, q u G1 H1 z1 s1 h1⟩⟩
theorem z_orS (z : Zp G M H) (ha : StI G C x a) (hb : StI G C y b) (oa : NsOk a) (ob : NsOk b) (hl : a.length + b.length ≤ 60)
    (q : ∀ u G1 H1, Zp G1 M H1 → Same G G1 → StI G1 C u (posL (opF (fun s => if lookN a s > lookN b s then lookN a s else lookN b s) (a.map (·.1) ++ b.map (·.1)))) → Q (.ref u) H1) : rBinI C (spSOr K C) E (.ref x) (.ref y) H Q :=
  z_opS z ha hb ⟨G, M, x, y, a, b, rfl, z, ha, hb, oa, ob, hl, fun u G1 H1 z1 s1 h1 => ⟨⟨u, rfl⟩, q u G1 H1 z1 s1 h1⟩⟩
theorem z_andS (z : Zp G M H) (ha : StI G C x a) (hb : StI G C y b) (oa : NsOk a) (ob : NsOk b) (hl : a.length + b.length ≤ 60)
    (q : ∀ u G1 H1, Zp G1 M H1 → Same G G1 → StI G1 C u (posL (opF (fun s => if lookN a s < lookN b s then lookN a s else lookN b s) (a.map (·.1)))) → Q (.ref u) H1) : rBinI C (spSAnd K C) E (.ref x) (.ref y) H Q :=
  z_opS z ha hb ⟨G, M, x, y, a, b, rfl, z, ha, hb, oa, ob, hl, fun u G1 H1 z1 s1 h1 => ⟨⟨u, rfl⟩, q u G1 H1 z1 s1 h1⟩⟩
theorem z_subS {CT : Addr} (z : Zp G M H) (ha : StI G C x a) (hb : StI G C y b) (oa : NsOk a) (ob : NsOk b) (hl : a.length + b.length ≤ 60) (hf : few a b = none)
    (q : ∀ u G1 H1, Zp G1 M H1 → Same G G1 → StI G1 C u (posL (opF (fun s => lookN a s - lookN b s) (a.map (·.1)))) → Q (.ref u) H1) : rBinI C (spSSub K C CT) E (.ref x) (.ref y) H Q :=
  z_opS z ha hb ⟨G, M, x, y, a, b, rfl, z, ha, hb, oa, ob, hl, fun nm h => (by rw [hf] at h; cases h), fun _ u G1 H1 z1 s1 h1 => ⟨⟨u, rfl⟩, q u G1 H1 z1 s1 h1⟩⟩
theorem z_neqS (SC : StC K C) (z : Zp G M H) (ha : StI G C x a) (hb : StI G C y b) (q : Q (.bl (!eqDD (dN a) (dN b))) H) : rNeI K C (spSEq K C) E (.ref x) (.ref y) H Q := by
  obtain ⟨da, dw, ea, fa⟩ := id ha
  obtain ⟨db, dv, eb, fb⟩ := id hb
  exact z_neI z ea (SC.ty (z.sub _ _ eb)) (by simp [PySem.W.notFirst]) ⟨G, M, x, y, a, b, rfl, z, ha, hb, _, rfl, q⟩
theorem lc_pairs {g : TG} {tt : TT} {te : TE} {vs : List Nat} {mn yn : List (Str × Int)} {ps : List Addr} {ws : List Str} {l : Addr} (R : Hp → V → Str → Prop) (Pf : Str → Bool) (hR : ∀ G G1 v s, Same G G1 → R G v s → R G1 v s) (z : Zp G M H) (hl : G l = some (.lst (ps.map V.ref))) (hps : Trs K G mn yn ps ws) (h20 : ws.length ≤ 1000)
    (turn : ∀ s pa G' H' Dl acc (LD : V → Hp → Prop) (KP : Hp → Prop), s ∈ ws → Zp G' (M ++ [(Dl, .lst acc)]) H' → Same G G' → SqT K G' pa [.str s, .int (lookN mn s), .int (lookN yn s)] →
      (∀ y G4 H4, Zp G4 (M ++ [(Dl, .lst acc)]) H4 → Same G' G4 → R G4 y s → Pf s = true → LD y H4) → (Pf s = false → KP H') →
      g (.ref pa) (wipe σ vs) H' fun σ2 H2 => wipe σ2 vs = wipe σ vs ∧ tt σ2 H2 fun b H3 => Bif b (te σ2 H3 LD) (KP H3))
    (done : ∀ p items G1 H1, Paired (R G1) items (ws.filter Pf) → G1 p = some (.lst items) → Zp G1 M H1 → Same G G1 → Q (.ref p) H1) : LcW (Itl K l) g tt te vs σ H Q := by
  refine lc_src src_L (fun i G' M' acc => M' = M ∧ Same G G' ∧ Paired (R G') acc ((ws.take i).filter Pf)) z ⟨rfl, Same.refl _, .nil⟩ (fun i G' M' M1 acc H' ⟨_, s', _⟩ z' => z'.seqL (upL s' (SqL.of hl))) ?_ ?_
  · rintro j y' G' M' acc Dl H' hy' ⟨rfl, s', hps'⟩ z'
    rw [List.getElem?_map] at hy'
    obtain ⟨pa, hpa, rfl⟩ := Option.map_eq_some_iff.mp hy'
    have hj := (List.getElem?_eq_some_iff.mp hpa).1
    have hpl := Paired.length hps
    obtain ⟨s, hs⟩ : ∃ s, ws[j]? = some s := ⟨_, List.getElem?_eq_getElem (by omega)⟩
    have hrel : SqT K G pa [.str s, .int (lookN mn s), .int (lookN yn s)] := by
      have : ∀ {ps : List Addr} {ws : List Str} {j : Nat} {pa : Addr} {s : Str}, Trs K G mn yn ps ws → ps[j]? = some pa → ws[j]? = some s → SqT K G pa [.str s, .int (lookN mn s), .int (lookN yn s)] := by
        intro ps ws j pa s h
        induction h generalizing j with
        | nil => intro h _; simp at h
        | cons a r ih =>
          cases j with
          | zero =>
            intro h1 h2
            obtain rfl := (by simpa using h1)
            obtain rfl := (by simpa using h2)
            exact a
          | succ j => intro h1 h2; exact ih (by simpa using h1) (by simpa using h2)
      exact this hps hpa hs
    have hal := Paired.length hps'
    have hfl := List.length_filter_le Pf (ws.take j)
    rw [List.length_take] at hfl
    refine turn s pa G' H' Dl acc _ _ (List.mem_of_getElem? hs) z' s' (upT s' hrel) (fun y G4 H4 z4 s4 r4 p4 => ?_) (fun p4 => ?_)
    · refine z_laid (M := M') z4 (by omega) ⟨rfl, s'.trans s4, ?_⟩
      rw [take_snocS hs, List.filter_append]
      simp only [List.filter_cons, p4, if_true, List.filter_nil]
      exact psnoc r4 (L2.Paired.mapP hps' fun _ _ h => hR _ _ _ _ s4 h)
    · refine z_left z' ⟨rfl, s', ?_⟩
      rw [take_snocS hs, List.filter_append]
      simp only [List.filter_cons, p4, Bool.false_eq_true, if_false, List.filter_nil, List.append_nil]
      exact hps'
  · rintro p1 G1 M1 acc G2 H2 ⟨rfl, s1, hps1⟩ s2 z2 e2
    rw [List.length_map, Paired.length hps, List.take_length] at hps1
    exact done p1 acc G2 H2 (L2.Paired.mapP hps1 fun _ _ h => hR _ _ _ _ s2 h) e2 z2 (s1.trans s2)
end

structure Bun (K : PySem.W.Frag) (C : Addr) (G : Hp) (wl pr dm dy x1 x2 : Addr) (ws : List Str) (mn yn : List (Str × Int)) (ps : List Addr) (n : Nat) (o : HO) : Prop where
  wl : G wl = some (.lst (ws.map V.str))
  pr : G pr = some (.lst (ps.map V.ref))
  dm : FzD G dm (nK mn)
  dy : FzD G dy (nK yn)
  x1 : StI G C x1 (posL mn)
  x2 : StI G C x2 (posL yn)
  ps : Trs K G mn yn ps ws
  pen : Pen K G n o
theorem Bun.up {K : PySem.W.Frag} {C : Addr} {G G1 : Hp} {wl pr dm dy x1 x2 ws mn yn ps n o} (h : Bun K C G wl pr dm dy x1 x2 ws mn yn ps n o) (s : Same G G1) : Bun K C G1 wl pr dm dy x1 x2 ws mn yn ps n o :=
  ⟨s _ _ h.wl, s _ _ h.pr, h.dm.up s, h.dy.up s, h.x1.up s, h.x2.up s, h.ps.up s, h.pen.up s⟩
theorem DrN.out {ws : List Str} {ns : List (Str × Int)} (h : DrN ws ns) {s : Str} (hs : s ∉ ws) : lookN ns s = 0 := lookN_out fun hm => hs (h.sb.subset hm)
theorem DrN.top {ws : List Str} {ns : List (Str × Int)} (h : DrN ws ns) (s : Str) : 0 ≤ lookN ns s ∧ lookN ns s ≤ 250000000000000000000000000000 := by
  by_cases c : s ∈ ns.map (·.1)
  · exact h.lo _ (lookN_in c)
  · rw [lookN_out c]; decide
theorem DrN.pos_len {ws : List Str} {ns : List (Str × Int)} (h : DrN ws ns) : (posL ns).length ≤ ws.length := by
  have h1 := h.sb.length_le
  unfold posL posK
  rw [List.length_map]
  refine Nat.le_trans (List.length_filter_le _ _) (Nat.le_trans (asc_lenS _) h1)
theorem posL_pairs {names ws : List Str} {f f' : Str → Int} (h : ∀ s, f s = f' s) (h1 : ∀ s, s ∉ names → f s = 0) (h2 : ∀ s, s ∉ ws → f s = 0) : posL (opF f names) = posL (ws.map fun s => (s, f' s)) := posL_ext fun s => by
  rw [opF_look, lookN_fun, ← h]
  by_cases c : s ∈ names
  · rw [if_pos c]
    by_cases d : s ∈ ws
    · rw [if_pos d]
    · rw [if_neg d, h2 s d]
  · rw [if_neg c]
    by_cases d : s ∈ ws
    · rw [if_pos d, h1 s c]
    · rw [if_neg d]
theorem few_is {A : List (Str × Int)} {mn yn : List (Str × Int)} {ws : List Str} (hA : ∀ s, lookN A s = lookN mn s) (h0 : ∀ s, 0 ≤ lookN mn s) (hw : ∀ s, s ∉ ws → lookN yn s = 0) (nd : ws.Nodup) :
    few A (posL yn) = (asc (ws.filter fun s => decide (lookN mn s < lookN yn s))).head? := by
  have e : (posK yn).filter (fun s => decide (lookN mn s < lookN yn s)) = asc (ws.filter fun s => decide (lookN mn s < lookN yn s)) := by
    refine ascOf ((posK_pw yn).filter _) ((posK_nodup yn).filter _) fun s => ?_
    rw [List.mem_filter, List.mem_filter, posK_mem]
    refine ⟨fun h => ⟨?_, h.2⟩, fun h => ⟨?_, h.2⟩⟩
    · by_cases c : s ∈ ws
      · exact c
      · rw [hw s c] at h
        exact absurd h.1 (by decide)
    · have := h0 s
      have := of_decide_eq_true h.2
      omega
  rw [← e, List.head?_filter]
  unfold few posL
  rw [List.find?_map, Option.map_map]
  have : ((fun q : Str × Int => decide (lookN A q.1 < q.2)) ∘ fun s => (s, lookN yn s)) = fun s => decide (lookN mn s < lookN yn s) := by
    funext s
    show decide (lookN A s < lookN yn s) = _
    rw [hA]
  rw [this]
  show ((posK yn).find? _).map (fun s => s) = _
  rw [Option.map_id']
theorem prk_of {K : PySem.W.Frag} {G : Hp} {f : Str → Int} : ∀ {items : List V} {ws : List Str}, Paired (fun y s => ∃ q, y = V.ref q ∧ SqT K G q [.str s, .int (f s)]) items ws → ∃ ps, items = ps.map V.ref ∧ Prk K G ps (nK (ws.map fun s => (s, f s)))
  | _, _, .nil => ⟨[], rfl, .nil⟩
  | _, _, .cons h t => by
    obtain ⟨q, rfl, hq⟩ := h
    obtain ⟨ps, rfl, hp⟩ := prk_of t
    exact ⟨q :: ps, rfl, .cons hq hp⟩
theorem filter_true {α : Type} (l : List α) : l.filter (fun _ => true) = l := by simp
theorem keys_fun (f : Str → Int) (ws : List Str) : (ws.map fun s => (s, f s)).map (·.1) = ws := by
  rw [List.map_map]
  show ws.map (fun s => s) = ws
  rw [List.map_id']
theorem lookD_of : ∀ {l : List (Str × PyData)} {q : Str × PyData}, (l.map (·.1)).Nodup → q ∈ l → lookD l q.1 = some q.2
  | [], _, _, h => by cases h
  | p :: r, q, nd, h => by
    obtain ⟨n1, n2⟩ := List.nodup_cons.mp nd
    unfold lookD
    rcases List.mem_cons.mp h with rfl | h
    · rw [if_pos rfl]
    · rw [if_neg (fun e => n1 (by show p.1 ∈ _; rw [e]; exact List.mem_map.mpr ⟨q, h, rfl⟩))]
      exact lookD_of n2 h
theorem eqDD_self {ns : List (Str × Int)} (nd : (ns.map (·.1)).Nodup) : eqDD (dN ns) (dN ns) = true := by
  have nd' : ((dN ns).map (·.1)).Nodup := by
    unfold dN
    rw [List.map_map]
    exact nd
  unfold eqDD
  rw [Bool.and_eq_true]
  refine ⟨by simp, List.all_eq_true.mpr fun q hq => ?_⟩
  rw [lookD_of nd' hq]
  exact SeqAt.eqv_refl _ (SeqAt.canLay_of_shaped (shaped_dN ns q hq))
def sumW (mn yn : List (Str × Int)) (ws : List Str) : List (Str × Int) := ws.map fun s => (s, lookN mn s + lookN yn s)
theorem sumW_look {mn yn : List (Str × Int)} {ws : List Str} (d1 : DrN ws mn) (d2 : DrN ws yn) (s : Str) : lookN (sumW mn yn ws) s = lookN mn s + lookN yn s := by
  unfold sumW
  rw [lookN_fun]
  by_cases c : s ∈ ws
  · rw [if_pos c]
  · rw [if_neg c, d1.out c, d2.out c]; rfl
theorem sumW_ok {mn yn : List (Str × Int)} {ws : List Str} (d1 : DrN ws mn) (d2 : DrN ws yn) (nd : ws.Nodup) (hw : ∀ s ∈ ws, wordS s = true) (hl : ws.length ≤ 20) : NsOk (sumW mn yn ws) := by
  unfold sumW
  refine ⟨by rw [keys_fun]; exact nd, fun q hq => ?_, fun q hq => ?_, by rw [List.length_map]; omega⟩
  · obtain ⟨s, hs, rfl⟩ := List.mem_map.mp hq
    exact hw s hs
  · obtain ⟨s, hs, rfl⟩ := List.mem_map.mp hq
    have a := d1.top s
    have b := d2.top s
    show 0 ≤ _ + _ ∧ _ + _ ≤ _
    omega
theorem sumW_len {mn yn : List (Str × Int)} {ws : List Str} : (posL (sumW mn yn ws)).length ≤ ws.length := by
  unfold posL posK
  rw [List.length_map]
  refine Nat.le_trans (List.length_filter_le _ _) (Nat.le_trans (asc_lenS _) ?_)
  rw [List.length_map]
  unfold sumW
  rw [List.length_map]
  exact Nat.le_refl _
theorem fits_one {mn yn : List (Str × Int)} {ws : List Str} (h0 : ∀ s, 0 ≤ lookN mn s) (h1 : ∀ s, 0 ≤ lookN yn s) (hw : ∀ s, s ∉ ws → lookN mn s = 0) :
    ((posL mn).all fun q => decide (q.2 ≤ lookN (posL yn) q.1)) = decide ((ws.filter fun s => decide (lookN mn s > lookN yn s)).map V.str = []) := by
  rw [Bool.eq_iff_iff, decide_eq_true_eq, List.map_eq_nil_iff, List.filter_eq_nil_iff, List.all_eq_true]
  unfold posL
  refine ⟨fun h s hs c => ?_, fun h q hq => ?_⟩
  · have c := of_decide_eq_true c
    have := h1 s
    have := of_decide_eq_true (h (s, lookN mn s) (List.mem_map.mpr ⟨s, posK_mem.mpr (by omega), rfl⟩))
    rw [show (s, lookN mn s).1 = s from rfl, show lookN ((posK yn).map fun s => (s, lookN yn s)) s = lookN yn s from lookN_posL h1 s] at this
    have : lookN mn s ≤ lookN yn s := this
    omega
  · obtain ⟨s, hs, rfl⟩ := List.mem_map.mp hq
    have hp := posK_mem.mp hs
    rw [decide_eq_true_eq]
    show lookN mn s ≤ lookN ((posK yn).map fun s => (s, lookN yn s)) s
    rw [show lookN ((posK yn).map fun s => (s, lookN yn s)) s = lookN yn s from lookN_posL h1 s]
    by_cases c : s ∈ ws
    · have := h s c
      simp only [decide_eq_true_eq] at this
      omega
    · rw [hw s c]
      exact h1 s
theorem fits_two {mn yn : List (Str × Int)} {ws : List Str} (h0 : ∀ s, 0 ≤ lookN mn s) (h1 : ∀ s, 0 ≤ lookN yn s) (hw : ∀ s, s ∉ ws → lookN yn s = 0) :
    ((posL yn).all fun q => decide (q.2 ≤ lookN (posL mn) q.1)) = decide ((asc (ws.filter fun s => decide (lookN mn s < lookN yn s))).map V.str = []) := by
  rw [fits_one h1 h0 hw]
  have : (ws.filter fun s => decide (lookN yn s > lookN mn s)) = ws.filter fun s => decide (lookN mn s < lookN yn s) := rfl
  rw [this]
  generalize (ws.filter fun s => decide (lookN mn s < lookN yn s)) = F
  congr 1
  rw [List.map_eq_nil_iff, List.map_eq_nil_iff, eq_iff_iff]
  refine ⟨fun h => by rw [h]; simp [asc, dd], fun h => ?_⟩
  cases F with
  | nil => rfl
  | cons x r =>
    have : x ∈ asc (x :: r) := asc_mem.mpr List.mem_cons_self
    rw [h] at this
    cases this
theorem fits_sum {mn yn : List (Str × Int)} {ws : List Str} (d1 : DrN ws mn) (d2 : DrN ws yn) : ((posL mn).all fun q => decide (q.2 ≤ lookN (posL (sumW mn yn ws)) q.1)) = true := by
  rw [List.all_eq_true]
  intro q hq
  unfold posL at hq
  obtain ⟨s, hs, rfl⟩ := List.mem_map.mp hq
  rw [decide_eq_true_eq]
  show lookN mn s ≤ lookN (posL (sumW mn yn ws)) s
  rw [lookN_posL (fun s => by rw [sumW_look d1 d2]; have := (d1.top s).1; have := (d2.top s).1; omega), sumW_look d1 d2]
  have := (d2.top s).1
  omega
theorem few_sum {mn yn : List (Str × Int)} {ws : List Str} (d1 : DrN ws mn) (d2 : DrN ws yn) : few (posL (sumW mn yn ws)) (posL yn) = none := by
  unfold few
  refine few_no fun q hq => ?_
  unfold posL at hq
  obtain ⟨s, hs, rfl⟩ := List.mem_map.mp hq
  show ¬ lookN (posL (sumW mn yn ws)) s < lookN yn s
  rw [lookN_posL (fun s => by rw [sumW_look d1 d2]; have := (d1.top s).1; have := (d2.top s).1; omega), sumW_look d1 d2]
  have := (d1.top s).1
  omega
theorem back_sum {mn yn : List (Str × Int)} {ws : List Str} (d1 : DrN ws mn) (d2 : DrN ws yn) : posL (opF (fun s => lookN (posL (sumW mn yn ws)) s - lookN (posL yn) s) ((posL (sumW mn yn ws)).map (·.1))) = posL mn := posL_ext fun s => by
  have p1 : ∀ s, 0 ≤ lookN (sumW mn yn ws) s := fun s => by rw [sumW_look d1 d2]; have := (d1.top s).1; have := (d2.top s).1; omega
  rw [opF_look]
  by_cases c : s ∈ (posL (sumW mn yn ws)).map (·.1)
  · rw [if_pos c, lookN_posL p1, lookN_posL (fun s => (d2.top s).1), sumW_look d1 d2]
    omega
  · rw [if_neg c]
    have h := lookN_out c
    rw [lookN_posL p1, sumW_look d1 d2] at h
    have := (d1.top s).1
    have := (d2.top s).1
    omega
theorem lim_pos {mn : List (Str × Int)} (h0 : ∀ s, 0 ≤ lookN mn s) (l : List (Str × Option Int)) : l.all (limB (posL mn)) = l.all (limB mn) := by
  congr 1
  funext q
  unfold limB
  cases q.2 with
  | none => rfl
  | some i => show decide (lookN (posL mn) q.1 ≤ i) = decide (lookN mn q.1 ≤ i); rw [lookN_posL h0]
theorem z_sortL {P : Program} {w : World} {K : PySem.W.Frag} {G H : Hp} {M : List (Addr × HO)} {a : Addr} {l : List Str} {Q : VK} (z : Zp G M H) (h : SqL K G a (l.map V.str)) (nd : l.Nodup) (hl : l.length < 64) (q : ∀ p G1 H1, Zp G1 M H1 → Same G G1 → G1 p = some (.lst ((asc l).map V.str)) → Q (.ref p) H1) : rSortG K P w [.ref a] H Q := .inr ⟨a, l, rfl, z.seqL h, hl, fun ys p pm so hp => by
  rw [asc_is pm so nd fun x => Iff.rfl]
  exact q p _ _ (z.new hp _) (Same.new (z.free hp)) upd_same⟩
theorem strs_of : ∀ {items : List V} {ws : List Str}, Paired (fun y s => y = V.str s) items ws → items = ws.map V.str
  | _, _, .nil => rfl
  | _, _, .cons h t => by rw [List.map_cons, h, strs_of t]
theorem shw_less {a b : List (Str × Int)} (h : ∀ nm, few a b = some nm → wordS nm = true) (h2 : few a b = none → NsOk (posL (opF (fun s => lookN a s - lookN b s) (a.map (·.1))))) : Shw (lessD a b) 3700 ∧ (lessD a b).depth ≤ 2 := by
  unfold lessD
  cases hf : few a b with
  | some nm =>
    refine ⟨(shw_tup (n := 10) (ds := [.str nm, .bool true]) fun d hd => ?_).mono (by simp), by simp [PyData.depth, PyData.depthAll]⟩
    rcases List.mem_cons.mp hd with rfl | hd
    · exact shw_word (h nm hf)
    · rw [List.mem_singleton.mp hd]; exact shw_bl true
  | none => exact ⟨shw_nD (h2 hf), Nat.le_trans (dep_nD _) (by decide)⟩
theorem wipe3 (σ : L2.St) (a b c : Option V) (i j k : Nat) : wipe ((((wipe σ [i, j, k]).set i a).set j b).set k c) [i, j, k] = wipe σ [i, j, k] := by
  apply List.ext_getElem?
  intro n
  simp only [wipe, List.getElem?_set, List.length_set]
  by_cases h3 : i = n
  · simp [h3]
  · by_cases h2 : j = n
    · simp [h2, h3]
    · by_cases h1 : k = n
      · simp [h1, h2, h3]
      · simp [h1, h2, h3]
theorem nsok_ws {f : Str → Int} {ws : List Str} (nd : ws.Nodup) (hw : ∀ s ∈ ws, wordS s = true) (hl : ws.length ≤ 20) (h : ∀ s ∈ ws, 0 ≤ f s ∧ f s ≤ 1000000000000000000000000000000) : NsOk (posL (ws.map fun s => (s, f s))) := by
  refine NsOk.posL ⟨by rw [keys_fun]; exact nd, fun q hq => ?_, fun q hq => ?_, by rw [List.length_map]; omega⟩
  · obtain ⟨s, hs, rfl⟩ := List.mem_map.mp hq
    exact hw s hs
  · obtain ⟨s, hs, rfl⟩ := List.mem_map.mp hq
    exact h s hs
section
variable {mn yn : List (Str × Int)} {ws : List Str}
theorem eq_add (d1 : DrN ws mn) (d2 : DrN ws yn) : posL (opF (fun s => lookN (posL mn) s + lookN (posL yn) s) ((posL mn).map (·.1) ++ (posL yn).map (·.1))) = posL (ws.map fun s => (s, lookN mn s + lookN yn s)) :=
  posL_pairs (fun s => by rw [lookN_posL fun s => (d1.top s).1, lookN_posL fun s => (d2.top s).1]) (fun s hs => by
    rw [List.mem_append, not_or] at hs
    rw [lookN_out hs.1, lookN_out hs.2]; rfl) fun s hs => by
    rw [lookN_posL fun s => (d1.top s).1, lookN_posL fun s => (d2.top s).1, d1.out hs, d2.out hs]; rfl
theorem eq_add' (d1 : DrN ws mn) (d2 : DrN ws yn) : posL (opF (fun s => lookN (posL yn) s + lookN (posL mn) s) ((posL yn).map (·.1) ++ (posL mn).map (·.1))) = posL (ws.map fun s => (s, lookN mn s + lookN yn s)) :=
  posL_pairs (fun s => by rw [lookN_posL fun s => (d1.top s).1, lookN_posL fun s => (d2.top s).1]; omega) (fun s hs => by
    rw [List.mem_append, not_or] at hs
    rw [lookN_out hs.1, lookN_out hs.2]; rfl) fun s hs => by
    rw [lookN_posL fun s => (d1.top s).1, lookN_posL fun s => (d2.top s).1, d1.out hs, d2.out hs]; rfl
theorem eq_or (d1 : DrN ws mn) (d2 : DrN ws yn) : posL (opF (fun s => if lookN (posL mn) s > lookN (posL yn) s then lookN (posL mn) s else lookN (posL yn) s) ((posL mn).map (·.1) ++ (posL yn).map (·.1))) = posL (ws.map fun s => (s, if lookN yn s > lookN mn s then lookN yn s else lookN mn s)) :=
  posL_pairs (fun s => by rw [lookN_posL fun s => (d1.top s).1, lookN_posL fun s => (d2.top s).1]; split <;> split <;> omega) (fun s hs => by
    rw [List.mem_append, not_or] at hs
    rw [lookN_out hs.1, lookN_out hs.2]; rfl) fun s hs => by
    rw [lookN_posL fun s => (d1.top s).1, lookN_posL fun s => (d2.top s).1, d1.out hs, d2.out hs]; rfl
theorem eq_and (d1 : DrN ws mn) (d2 : DrN ws yn) : posL (opF (fun s => if lookN (posL mn) s < lookN (posL yn) s then lookN (posL mn) s else lookN (posL yn) s) ((posL mn).map (·.1))) = posL (ws.map fun s => (s, if lookN yn s < lookN mn s then lookN yn s else lookN mn s)) :=
  posL_pairs (fun s => by rw [lookN_posL fun s => (d1.top s).1, lookN_posL fun s => (d2.top s).1]; split <;> split <;> omega) (fun s hs => by
    have := (d2.top s).1
    rw [lookN_out hs, lookN_posL fun s => (d2.top s).1]
    split <;> omega) fun s hs => by
    rw [lookN_posL fun s => (d1.top s).1, lookN_posL fun s => (d2.top s).1, d1.out hs, d2.out hs]; rfl
theorem no_few (d1 : DrN ws mn) (d2 : DrN ws yn) (h : asc (ws.filter fun s => decide (lookN mn s < lookN yn s)) = []) (s : Str) : lookN yn s ≤ lookN mn s := by
  by_cases c : s ∈ ws
  · by_cases d : lookN mn s < lookN yn s
    · have : s ∈ asc (ws.filter fun s => decide (lookN mn s < lookN yn s)) := asc_mem.mpr (List.mem_filter.mpr ⟨c, decide_eq_true d⟩)
      rw [h] at this
      cases this
    · omega
  · rw [d2.out c]
    exact (d1.top s).1
theorem eq_sub (d1 : DrN ws mn) (d2 : DrN ws yn) (h : ∀ s, lookN yn s ≤ lookN mn s) : posL (opF (fun s => lookN (posL mn) s - lookN (posL yn) s) ((posL mn).map (·.1))) = posL (ws.map fun s => (s, lookN mn s - lookN yn s)) :=
  posL_pairs (fun s => by rw [lookN_posL fun s => (d1.top s).1, lookN_posL fun s => (d2.top s).1]) (fun s hs => by
    have h2 := (d2.top s).1
    have h3 := h s
    have h4 := lookN_out hs
    rw [lookN_posL fun s => (d1.top s).1] at h4
    rw [lookN_posL fun s => (d1.top s).1, lookN_posL fun s => (d2.top s).1]
    omega) fun s hs => by
    rw [lookN_posL fun s => (d1.top s).1, lookN_posL fun s => (d2.top s).1, d1.out hs, d2.out hs]; rfl
theorem few_law (d1 : DrN ws mn) (d2 : DrN ws yn) (nd : ws.Nodup) : few (posL mn) (posL yn) = (asc (ws.filter fun s => decide (lookN mn s < lookN yn s))).head? :=
  few_is (lookN_posL fun s => (d1.top s).1) (fun s => (d1.top s).1) (fun s hs => d2.out hs) nd
def toldD (mn yn : List (Str × Int)) : PyData := .list [nD (posL (opF (fun s => lookN (posL mn) s + lookN (posL yn) s) ((posL mn).map (·.1) ++ (posL yn).map (·.1)))), nD (posL (opF (fun s => if lookN (posL mn) s > lookN (posL yn) s then lookN (posL mn) s else lookN (posL yn) s) ((posL mn).map (·.1) ++ (posL yn).map (·.1)))),
  nD (posL (opF (fun s => if lookN (posL mn) s < lookN (posL yn) s then lookN (posL mn) s else lookN (posL yn) s) ((posL mn).map (·.1)))), lessD (posL mn) (posL yn)]
theorem less_ok (d1 : DrN ws mn) (d2 : DrN ws yn) (nd : ws.Nodup) (hw : ∀ s ∈ ws, wordS s = true) (hl : ws.length ≤ 20) : Shw (lessD (posL mn) (posL yn)) 3700 ∧ (lessD (posL mn) (posL yn)).depth ≤ 2 := by
  refine shw_less (fun nm h => ?_) fun h => ?_
  · rw [few_law d1 d2 nd] at h
    have : nm ∈ asc (ws.filter fun s => decide (lookN mn s < lookN yn s)) := List.mem_of_mem_head? h
    exact hw nm (List.mem_filter.mp (asc_mem.mp this)).1
  · rw [few_law d1 d2 nd] at h
    have h := no_few d1 d2 (List.head?_eq_none_iff.mp h)
    rw [eq_sub d1 d2 h]
    refine nsok_ws nd hw hl fun s _ => ?_
    have := h s
    have := (d1.top s).2
    have := (d2.top s).1
    omega
theorem told_ok (d1 : DrN ws mn) (d2 : DrN ws yn) (nd : ws.Nodup) (hw : ∀ s ∈ ws, wordS s = true) (hl : ws.length ≤ 20) : Shw (toldD mn yn) 20000 ∧ (toldD mn yn).depth ≤ 3 := by
  have hb : ∀ s, 0 ≤ lookN mn s ∧ lookN mn s ≤ 250000000000000000000000000000 ∧ 0 ≤ lookN yn s ∧ lookN yn s ≤ 250000000000000000000000000000 := fun s => ⟨(d1.top s).1, (d1.top s).2, d2.top s⟩
  have ls := less_ok d1 d2 nd hw hl
  have s1 := shw_nD (nsok_ws (f := fun s => lookN mn s + lookN yn s) nd hw hl fun s _ => by have := hb s; omega)
  have s2 := shw_nD (nsok_ws (f := fun s => if lookN yn s > lookN mn s then lookN yn s else lookN mn s) nd hw hl fun s _ => by have := hb s; split <;> omega)
  have s3 := shw_nD (nsok_ws (f := fun s => if lookN yn s < lookN mn s then lookN yn s else lookN mn s) nd hw hl fun s _ => by have := hb s; split <;> omega)
  unfold toldD
  rw [eq_add d1 d2, eq_or d1 d2, eq_and d1 d2]
  refine ⟨(shw_lst (n := 3700) fun d hd => ?_).mono (by simp), dep_lst (n := 2) fun d hd => ?_⟩
  · simp only [List.mem_cons, List.not_mem_nil, or_false] at hd
    rcases hd with rfl | rfl | rfl | rfl
    · exact s1
    · exact s2
    · exact s3
    · exact ls.1
  · simp only [List.mem_cons, List.not_mem_nil, or_false] at hd
    rcases hd with rfl | rfl | rfl | rfl
    · exact Nat.le_trans (dep_nD _) (by decide)
    · exact Nat.le_trans (dep_nD _) (by decide)
    · exact Nat.le_trans (dep_nD _) (by decide)
    · exact ls.2
end

theorem z_reprH {K : PySem.W.Frag} {H : Hp} {v : V} {d : PyData} {Q : VK} (h : Dt K H v d) (s : Shw d 16000000) (s2 : d.depth ≤ 60) (q : Q (.str d.shown) H) : Ys.rRepr K [v] H Q := ⟨v, d, rfl, h, s.ok, s2, Nat.le_trans s.le (by decide), q⟩
theorem z_ifJ {tt : TT} {ta tb : TE} {σ : L2.St} {H : Hp} {Q : VK} (I : V → Hp → Prop) (h1 : ∀ Q1 : VK, (∀ x H1, I x H1 → Q1 x H1) → tIf tt ta tb σ H Q1) (h2 : ∀ x H1, I x H1 → Q x H1) : tIf tt ta tb σ H Q := h1 Q h2
theorem shw_2b (a b : Bool) : Shw (.list [.bool a, .bool b]) 16000000 ∧ (PyData.list [.bool a, .bool b]).depth ≤ 60 := by
  cases a <;> cases b <;> exact ⟨⟨rfl, by decide +kernel⟩, by decide +kernel⟩
theorem Bun.chg {K : PySem.W.Frag} {C : Addr} {G : Hp} {wl pr dm dy x1 x2 ws mn yn ps n o n1 o1} (h : Bun K C G wl pr dm dy x1 x2 ws mn yn ps n o) (hp : Pen K G n1 o1) : Bun K C G wl pr dm dy x1 x2 ws mn yn ps n1 o1 := ⟨h.wl, h.pr, h.dm, h.dy, h.x1, h.x2, h.ps, hp⟩
theorem merge_limK {l : List (Str × Option Int)} (h : (l.map (·.1)).Nodup) : mergeK [] (limK l) = limK l := by
  rw [mergeNd (more := limK l) (acc := []) (by rw [List.nil_append]; exact limK_nd h), List.nil_append]
theorem shw_2n {a b : List (Str × Int)} (ha : NsOk a) (hb : NsOk b) : Shw (.list [nD a, nD b]) 16000000 ∧ (PyData.list [nD a, nD b]).depth ≤ 60 := by
  refine ⟨(shw_lst (n := 3700) fun d hd => ?_).mono (by simp), Nat.le_trans (dep_lst (n := 1) fun d hd => ?_) (by decide)⟩
  · simp only [List.mem_cons, List.not_mem_nil, or_false] at hd
    rcases hd with rfl | rfl
    · exact shw_nD ha
    · exact shw_nD hb
  · simp only [List.mem_cons, List.not_mem_nil, or_false] at hd
    rcases hd with rfl | rfl <;> exact dep_nD _
theorem z_fits {K : PySem.W.Frag} {C x y : Addr} {a b : List (Str × Int)} {G H : Hp} {M : List (Addr × HO)} {Q : VK} {E : XK} (z : Zp G M H) (ha : StI G C x a) (hb : StI G C y b) (oa : NsOk a) (q : ∀ G1 H1, Zp G1 M H1 → Same G G1 → Q (.bl (a.all fun q => decide (q.2 ≤ lookN b q.1))) H1) : spFits K C [.ref x, .ref y] H Q E := ⟨G, M, x, y, a, b, rfl, z, ha, hb, oa, q⟩
end LW
namespace LW
open PySem PySem.Spec PyProof.Rows L2 Ys

section
variable {P : Program} {w : World} {K : PySem.W.Frag} {mg : Str → Option Value} {base : Heap} {f : Addr} {fd : FuncData} {C CT : Addr}
structure OpS (P : Program) (w : World) (K : PySem.W.Frag) (mg : Str → Option Value) (base : Heap) (CX : CXT) (C : Addr) (m : Str) (sp : Sp) : Prop where
  ex : ∃ f fd, FnOk P w K mg base CX 7 f fd ["self", "other"] sp ∧ PySem.W.findIn K (.ref C) m = some (some (.ref f)) ∧ PySem.W.isFn K (.ref f) = true ∧ Binds K fd ["self", "other"] []
structure EqS (P : Program) (w : World) (K : PySem.W.Frag) (mg : Str → Option Value) (base : Heap) (C : Addr) (sp : Sp) : Prop where
  ex : ∃ f fd, FnOk P w K mg base CX0 2 f fd ["self", "other"] sp ∧ PySem.W.findIn K (.ref C) "__eq__" = some (some (.ref f)) ∧ PySem.W.isFn K (.ref f) = true ∧ Binds K fd ["self", "other"] []
  ne : PySem.W.findIn K (.ref C) "__ne__" = some (some (.builtin "object.__ne__"))
  hm : PySem.W.mroIn K C (.type "object") = some true
def spLess (K : PySem.W.Frag) (C : Addr) : Sp := fun vs H Q _ => ∃ G M x y a b, vs = [.ref x, .ref y] ∧ Zp G M H ∧ StI G C x a ∧ StI G C y b ∧ NsOk a ∧ NsOk b ∧ a.length + b.length ≤ 60 ∧ ∀ v G1 H1, Zp G1 M H1 → Same G G1 → Dt K G1 v (lessD a b) → Q v H1
theorem ok_less (T : Nm K mg) (hOE : mg "OverflowError" = none) (S_TooFew : ExcG P w K mg base CT "TooFew" "kind") (XC : ExcC K CT) (XF : XfC K CT) (hno : PySem.W.findIn K (.ref CT) "kind" = some none) (hex : PySem.W.exmOne K (.ref CT) (.ref CT) = some true) (hkt : PySem.W.kitOne K (.ref CT) (.type "OverflowError") = some true)
    (M_numbers : Mth P w K mg base CX0 1 C "numbers" ["self"] [] (spNums K C)) (O : OpS P w K mg base (L2.CX P w) C "__sub__" (spSSub K C CT)) (h3 : PySem.W.selfFirst K C = true) (F : FnP K "_law_less" s_law_less f fd) : FnOk P w K mg base CX0 9 f fd ["_law_one", "_law_second"] (spLess K C) := by
  have nd : N_law_less.Nodup := sc_law_less.nd
  obtain ⟨f_sub, fd_sub, F_sub, h1, h2, h4⟩ := O.ex
  refine F.ok sc_law_less (fun vs H Q E h => ?_) (fun cdv A outer s H vs Q E hr h => ?_)
  · obtain ⟨G, M, x, y, a, b, rfl, _⟩ := h
    rfl
  have hu := hr.units
  refine ⟨_, PSs.nox (pss_one (ps_try_as (x := "TooFew") (n := "e") (c := .ref CT) (i := 2) (Wout := fun _ _ _ _ => False) rfl rfl nd rfl rfl ⟨by rfl, by decide, .inl S_TooFew.gC⟩ takes0
    (fun W pn xe tW pW => pss_one (ps_ret (pe_mt0 M_numbers (hr.mono (by omega)) pass0 (pe_binX F_sub h1 h2 h3 h4 tW (hr.mono (by omega)) (pv 0) (pv 1)))))
    (fun a oe cls d pn hz hf => pss_one (ps_ret (pe_tup (pa_cons (pe_xf XF hno hz hf (pv 2)) (pa_cons (pe_callB (call_isX XC hz hf) (by rfl) T.b_isinstance boot_isinstance (pa_cons (pv 2) (pa_cons (pe_bltn (v := .ty "OverflowError") (by rfl) hOE PyProof.Rows.Boot.«OverflowError» rfl) pa_nil))) pa_nil))))))), ?_⟩
  obtain ⟨G, M, x, y, a, b, rfl, z, hx, hy, oa, ob, hl, q⟩ := h
  obtain ⟨dx, dn, ex, fx⟩ := id hx
  obtain ⟨dy, dm, ey, fy⟩ := id hy
  repeat (walk_at "z")
  refine ⟨x, dx, _, y, dy, _, rfl, z.sub _ _ ex, rfl, z.sub _ _ ey, G, M, x, y, a, b, rfl, z, hx, hy, oa, ob, hl, fun nm hf dd G1 H1 z1 s1 hd => ?_, fun hf u G1 H1 z1 s1 hu => ⟨⟨u, rfl⟩, ?_⟩⟩
  · refine ⟨true, hex, fun _ e he => ?_, fun z => by cases z⟩
    repeat (walk_at "z")
    refine ⟨_, rfl, rfl, rfl, dd, _, _, rfl, z1.sub _ _ hd, rfl, ?_⟩
    repeat (walk_at "z")
    refine ⟨.ty "OverflowError", .type "OverflowError", true, dd, _, rfl, rfl, .ty _, hkt, rfl, z1.sub _ _ hd, ?_⟩
    repeat (walk_at "z")
    refine z_newT z1 (by simp) fun p G2 H2 z2 s2 e2 => q _ G2 H2 z2 (s1.trans s2) ?_
    unfold lessD
    rw [hf]
    exact .tup (SqT.of e2) (.cons (.str _) (.cons (.bl _) .nil))
  · obtain ⟨du, dw, eu, fu⟩ := id hu
    refine z_mtI z1 eu (by rfl) ?_
    repeat (walk_at "z")
    refine ⟨G1, M, u, _, rfl, z1, hu, fun p H2 z2 => ?_⟩
    have n2 := (z2.own M.length _ _ last_at).2
    refine q _ _ H2 z2.fix (s1.trans (Same.new n2)) ?_
    unfold lessD
    rw [hf]
    exact dt_nD (.inl upd_same)
structure LawC (P : Program) (w : World) (K : PySem.W.Frag) (mg : Str → Option Value) (base : Heap) (C CT : Addr) : Prop where
  pen : Own P w K mg base CX0 1 "_law_pen" ["_law_script"] (spPen K)
  draw : OwnD P w K mg base
  pick : OwnP P w K mg base
  words : Own P w K mg base CX0 3 "_law_words" ["_law_pen_here", "_law_count"] (spWords K)
  staff : Own P w K mg base CX0 3 "_law_staff" ["_law_pen_here", "_law_words_here"] (spStaff K)
  plain : Own P w K mg base CX0 1 "_law_plain" ["_law_numbers"] (spPlain K)
  lw : Own P w K mg base CX0 1 "_law_within" ["_law_mine", "_law_caps"] (spLWithin K)
  less : Own P w K mg base CX0 9 "_law_less" ["_law_one", "_law_second"] (spLess K C)
  gS : mg "Staff" = some (.ref C)
  sc : StC K C
  cr : ∃ mc, ClX.CRead K C mc ∧ ∃ pO gO, ClX.CMet K C mc "of" pO gO ∧ FnR P w K mg base CX0 6 gO (spOf K C)
  nums : Mth P w K mg base CX0 1 C "numbers" ["self"] [] (spNums K C)
  fits : Mth P w K mg base CX0 2 C "fits_in" ["self", "other"] [] (spFits K C)
  fitsK : MthK P w K mg base CX0 2 C "fits_in" ["self", "other"] ["other"] (spFits K C)
  withK : MthK P w K mg base CX0 2 C "within" ["self", "limits"] ["limits"] (spWithinS K C)
  add : OpS P w K mg base CX0 C "__add__" (spSAdd K C)
  or : OpS P w K mg base CX0 C "__or__" (spSOr K C)
  and : OpS P w K mg base CX0 C "__and__" (spSAnd K C)
  sub : OpS P w K mg base (L2.CX P w) C "__sub__" (spSSub K C CT)
  sf : PySem.W.selfFirst K C = true
  eq : EqS P w K mg base C (spSEq K C)
def spLaw (K : PySem.W.Frag) : Sp := fun vs H Q _ => ∃ a, ∃ ns : List Int, vs = [.ref a] ∧ SqL K H a (ns.map V.int) ∧ ns.length ≤ 63 ∧ ∀ H1, Q (.bl true) H1
theorem ok_law (T : Nm K mg) (L : LawC P w K mg base C CT) (F : FnP K "law" s_law f fd) : FnG P w K mg base CX0 12 f fd ["_law_script"] (spLaw K) := by
  have C_law_pen := L.pen
  have C_law_draw := L.draw
  have C_law_pick := L.pick
  have C_law_words := L.words
  have C_law_staff := L.staff
  have C_law_plain := L.plain
  have C_law_within := L.lw
  have C_law_less := L.less
  have M_numbers := L.nums
  have M_fits_in := L.fits
  have MK_fits_in := L.fitsK
  have MK_within := L.withK
  obtain ⟨mc, CR, pO, gO, CM, OF⟩ := L.cr
  obtain ⟨f_add, fd_add, F_add, a1, a2, a3⟩ := L.add.ex
  obtain ⟨f_or, fd_or, F_or, o1, o2, o3⟩ := L.or.ex
  obtain ⟨f_and, fd_and, F_and, n1, n2, n3⟩ := L.and.ex
  obtain ⟨f_sub, fd_sub, F_sub, s1, s2, s3⟩ := L.sub.ex
  obtain ⟨f_eq, fd_eq, F_eq, e1, e2, e3⟩ := L.eq.ex
  have nd : N_law.Nodup := sc_law.nd
  refine okG F sc_law (fun vs H Q E h => ?_) (fun cdv A outer s H vs Q E hg hr h => ?_)
  · obtain ⟨a, ns, rfl, _⟩ := h
    rfl
  have hu := hr.units
  refine ⟨_, PSs.nox (  (pss_cons (ps_asg (pe_own C_law_pen (hr.mono (by omega)) (by rfl) pass0 (pa_cons (pv 0) pa_nil)) (pg_name (i := 1) nd rfl (by first | exact .inl rfl | exact .inr rfl)))
    (pss_cons (ps_for PassesOwn.never rfl (pi_range1 (by rfl) (T.b_range) (pa_cons (pe_op (k_add (K := K)) pe_int (pe_callB (c_min2 rfl) (by rfl) T.b_min boot_min (pa_cons pe_int (pa_cons (pe_callB (kc_len (K := K) (P := P) (w := w)) (by rfl) T.b_len PySem.boot_len (pa_cons (pv 0) pa_nil)) pa_nil)))) pa_nil)) (pg_name (i := 2) nd rfl (by first | exact .inl rfl | exact .inr rfl)) (pss_cons (ps_asg (pe_own C_law_words (hr.mono (by omega)) (by rfl) pass0 (pa_cons (pv 1) (pa_cons pe_int pa_nil))) (pg_name (i := 3) nd rfl (by first | exact .inl rfl | exact .inr rfl)))
    (pss_cons (ps_asg (pe_tup (pa_cons (pe_own C_law_staff (hr.mono (by omega)) (by rfl) pass0 (pa_cons (pv 1) (pa_cons (pv 3) pa_nil))) (pa_cons (pe_own C_law_staff (hr.mono (by omega)) (by rfl) pass0 (pa_cons (pv 1) (pa_cons (pv 3) pa_nil))) pa_nil))) (kg_tup (K := K) (n := 2) rfl (pgs_cons (pg_name (i := 10) nd rfl (by first | exact .inl rfl | exact .inr rfl)) (pgs_cons (pg_name (i := 11) nd rfl (by first | exact .inl rfl | exact .inr rfl)) pgs_nil))))
    (pss_cons (ps_par (i := 12) (j := 13) (by rfl) nd rfl rfl (by decide) rfl rfl (pa_cons (ClX.pe_cmeth (pe_glob (v := .ref C) (by rfl) L.gS rfl) CR CM OF (hr.mono (by omega)) pass0 (pa_cons (pv 10) pa_nil)) (pa_cons (ClX.pe_cmeth (pe_glob (v := .ref C) (by rfl) L.gS rfl) CR CM OF (hr.mono (by omega)) pass0 (pa_cons (pv 11) pa_nil)) pa_nil)) (by rfl))
    (pss_cons (ps_setLc (i := 4) (own := [("_law_word", 14)]) (tt := tYes) rfl nd rfl rfl (sw_true rfl rfl rfl (by decide +kernel)) (k_any (K := K) (pv 3)) (blkOk_by (N := N_law) (sc := defScope s_law) (by decide +kernel)) (fun _ _ _ _ _ => (pg_name (i := 14) nd rfl (by first | exact .inl rfl | exact .inr rfl))) (fun _ _ _ _ _ => pts_nil) (fun _ _ _ _ _ => (pe_tup (pa_cons (pv 14) (pa_cons (pe_dget2 (hu_of hr) (pv 10) (pv 14) pe_int ⟨by rfl, by rfl, by rfl, by rfl⟩) (pa_cons (pe_dget2 (hu_of hr) (pv 11) (pv 14) pe_int ⟨by rfl, by rfl, by rfl, by rfl⟩) pa_nil))))))
    (pss_cons (ps_asg (pe_lst (pa_cons (pe_mt0 M_numbers (hr.mono (by omega)) pass0 (pe_op (op_binI F_add a1 a2 L.sf a3 (E := E0) pass0 (hr.mono (by omega))) (pv 12) (pv 13))) (pa_cons (pe_mt0 M_numbers (hr.mono (by omega)) pass0 (pe_op (op_binI F_or o1 o2 L.sf o3 (E := E0) pass0 (hr.mono (by omega))) (pv 12) (pv 13))) (pa_cons (pe_mt0 M_numbers (hr.mono (by omega)) pass0 (pe_op (op_binI F_and n1 n2 L.sf n3 (E := E0) pass0 (hr.mono (by omega))) (pv 12) (pv 13))) (pa_cons (pe_own C_law_less (hr.mono (by omega)) (by rfl) pass0 (pa_cons (pv 12) (pa_cons (pv 13) pa_nil))) pa_nil))))) (pg_name (i := 5) nd rfl (by first | exact .inl rfl | exact .inr rfl)))
    (pss_cons (ps_asg (pe_lst (pa_cons (pe_own C_law_plain (hr.mono (by omega)) (by rfl) pass0 (pa_cons (pe_frz (pe_callTy (c_dictP (K := K) rfl) (by rfl) T.b_dict boot_dict (pa_cons (pe_lc (own := [("_law_word", 14), ("_law_a", 15), ("_law_b", 16)]) (tt := tYes) rfl nd (k_any (K := K) (pv 4)) (blkOk_by (N := N_law) (sc := defScope s_law) (by decide +kernel)) (fun _ _ _ _ _ => (kg_tup (K := K) (n := 3) rfl (pgs_cons (pg_name (i := 14) nd rfl (by first | exact .inl rfl | exact .inr rfl)) (pgs_cons (pg_name (i := 15) nd rfl (by first | exact .inl rfl | exact .inr rfl)) (pgs_cons (pg_name (i := 16) nd rfl (by first | exact .inl rfl | exact .inr rfl)) pgs_nil))))) (fun _ _ _ _ _ => pts_nil) (fun _ _ _ _ _ => (pe_tup (pa_cons (pv 14) (pa_cons (pe_op (k_add (K := K)) (pv 15) (pv 16)) pa_nil))))) pa_nil))) pa_nil)) pa_nil)) (pg_name (i := 6) nd rfl (by first | exact .inl rfl | exact .inr rfl)))
    (pss_cons (ps_expr (pe_bm PySem.F.plainAttrs_list PySem.F.slot_list_append PySem.F.type_list_append mt_append (pv 6) (pa_cons (pe_own C_law_plain (hr.mono (by omega)) (by rfl) pass0 (pa_cons (pe_frz (pe_callTy (c_dictP (K := K) rfl) (by rfl) T.b_dict boot_dict (pa_cons (pe_lc (own := [("_law_word", 14), ("_law_a", 15), ("_law_b", 16)]) (tt := tYes) rfl nd (k_any (K := K) (pv 4)) (blkOk_by (N := N_law) (sc := defScope s_law) (by decide +kernel)) (fun _ _ _ _ _ => (kg_tup (K := K) (n := 3) rfl (pgs_cons (pg_name (i := 14) nd rfl (by first | exact .inl rfl | exact .inr rfl)) (pgs_cons (pg_name (i := 15) nd rfl (by first | exact .inl rfl | exact .inr rfl)) (pgs_cons (pg_name (i := 16) nd rfl (by first | exact .inl rfl | exact .inr rfl)) pgs_nil))))) (fun _ _ _ _ _ => pts_nil) (fun _ _ _ _ _ => (pe_tup (pa_cons (pv 14) (pa_cons (pe_callB (c_max2 rfl) (by rfl) T.b_max boot_max (pa_cons (pe_callTy c_int (by rfl) T.b_int boot_int (pa_cons (pv 15) pa_nil)) (pa_cons (pe_callTy c_int (by rfl) T.b_int boot_int (pa_cons (pv 16) pa_nil)) pa_nil))) pa_nil))))) pa_nil))) pa_nil)) pa_nil)))
    (pss_cons (ps_expr (pe_bm PySem.F.plainAttrs_list PySem.F.slot_list_append PySem.F.type_list_append mt_append (pv 6) (pa_cons (pe_own C_law_plain (hr.mono (by omega)) (by rfl) pass0 (pa_cons (pe_frz (pe_callTy (c_dictP (K := K) rfl) (by rfl) T.b_dict boot_dict (pa_cons (pe_lc (own := [("_law_word", 14), ("_law_a", 15), ("_law_b", 16)]) (tt := tYes) rfl nd (k_any (K := K) (pv 4)) (blkOk_by (N := N_law) (sc := defScope s_law) (by decide +kernel)) (fun _ _ _ _ _ => (kg_tup (K := K) (n := 3) rfl (pgs_cons (pg_name (i := 14) nd rfl (by first | exact .inl rfl | exact .inr rfl)) (pgs_cons (pg_name (i := 15) nd rfl (by first | exact .inl rfl | exact .inr rfl)) (pgs_cons (pg_name (i := 16) nd rfl (by first | exact .inl rfl | exact .inr rfl)) pgs_nil))))) (fun _ _ _ _ _ => pts_nil) (fun _ _ _ _ _ => (pe_tup (pa_cons (pv 14) (pa_cons (pe_callB (c_min2 rfl) (by rfl) T.b_min boot_min (pa_cons (pe_callTy c_int (by rfl) T.b_int boot_int (pa_cons (pv 15) pa_nil)) (pa_cons (pe_callTy c_int (by rfl) T.b_int boot_int (pa_cons (pv 16) pa_nil)) pa_nil))) pa_nil))))) pa_nil))) pa_nil)) pa_nil)))
    (pss_cons (ps_asg (pe_callB (kc_sorted (K := K) (P := P) (w := w) rfl) (by rfl) T.b_sorted boot_sorted (pa_cons (pe_lc (own := [("_law_word", 14), ("_law_a", 15), ("_law_b", 16)]) rfl nd (k_any (K := K) (pv 4)) (blkOk_by (N := N_law) (sc := defScope s_law) (by decide +kernel)) (fun _ _ _ _ _ => (kg_tup (K := K) (n := 3) rfl (pgs_cons (pg_name (i := 14) nd rfl (by first | exact .inl rfl | exact .inr rfl)) (pgs_cons (pg_name (i := 15) nd rfl (by first | exact .inl rfl | exact .inr rfl)) (pgs_cons (pg_name (i := 16) nd rfl (by first | exact .inl rfl | exact .inr rfl)) pgs_nil))))) (fun _ _ _ _ _ => pts_one (pt_cmpR o_lt (pv 15) (pv 16) (nomark _))) (fun _ _ _ _ _ => (pv 14))) pa_nil)) (pg_name (i := 7) nd rfl (by first | exact .inl rfl | exact .inr rfl)))
    (pss_cons (ps_asg (pe_own C_law_plain (hr.mono (by omega)) (by rfl) pass0 (pa_cons (pe_frz (pe_callTy (c_dictP (K := K) rfl) (by rfl) T.b_dict boot_dict (pa_cons (pe_lc (own := [("_law_word", 14), ("_law_a", 15), ("_law_b", 16)]) (tt := tYes) rfl nd (k_any (K := K) (pv 4)) (blkOk_by (N := N_law) (sc := defScope s_law) (by decide +kernel)) (fun _ _ _ _ _ => (kg_tup (K := K) (n := 3) rfl (pgs_cons (pg_name (i := 14) nd rfl (by first | exact .inl rfl | exact .inr rfl)) (pgs_cons (pg_name (i := 15) nd rfl (by first | exact .inl rfl | exact .inr rfl)) (pgs_cons (pg_name (i := 16) nd rfl (by first | exact .inl rfl | exact .inr rfl)) pgs_nil))))) (fun _ _ _ _ _ => pts_nil) (fun _ _ _ _ _ => (pe_tup (pa_cons (pv 14) (pa_cons (pe_op o_sub (pv 15) (pv 16)) pa_nil))))) pa_nil))) pa_nil)) (pg_name (i := 8) nd rfl (by first | exact .inl rfl | exact .inr rfl)))
    (pss_cons (ps_expr (pe_bm PySem.F.plainAttrs_list PySem.F.slot_list_append PySem.F.type_list_append mt_append (pv 6) (pa_cons (pe_ifExp (pt_cmpR (k_ne (K := K) hu) (pv 7) (pe_lst pa_nil) (nomark _)) (pe_tup (pa_cons (pe_ix (k_ix (K := K)) (pv 7) pe_int (fun _ _ => rfl)) (pa_cons pe_bl pa_nil))) (pv 8)) pa_nil)))
    (pss_cons (ps_if (pt_cmpR (k_ne (K := K) hu) (pe_callB (kc_repr (K := K) hg T.sys hu) (by rfl) T.b_repr boot_repr (pa_cons (pv 5) pa_nil)) (pe_callB (kc_repr (K := K) hg T.sys hu) (by rfl) T.b_repr boot_repr (pa_cons (pv 6) pa_nil)) (nomark _)) (pss_one (ps_ret pe_bl)) pss_nil)
    (pss_cons (ps_if (pt_cmpR (k_ne (K := K) hu) (pe_callB (kc_repr (K := K) hg T.sys hu) (by rfl) T.b_repr boot_repr (pa_cons (pe_lst (pa_cons (pe_mt M_fits_in (hr.mono (by omega)) pass0 (pv 12) (pa_cons (pv 13) pa_nil)) (pa_cons (pe_mtK MK_fits_in (hr.mono (by omega)) pass0 (pv 13) (pk_cons (pv 12) pk_nil)) pa_nil))) pa_nil)) (pe_callB (kc_repr (K := K) hg T.sys hu) (by rfl) T.b_repr boot_repr (pa_cons (pe_lst (pa_cons (pe_cmpR (k_eq (K := K) hu) (pe_lc (own := [("_law_word", 14), ("_law_a", 15), ("_law_b", 16)]) rfl nd (k_any (K := K) (pv 4)) (blkOk_by (N := N_law) (sc := defScope s_law) (by decide +kernel)) (fun _ _ _ _ _ => (kg_tup (K := K) (n := 3) rfl (pgs_cons (pg_name (i := 14) nd rfl (by first | exact .inl rfl | exact .inr rfl)) (pgs_cons (pg_name (i := 15) nd rfl (by first | exact .inl rfl | exact .inr rfl)) (pgs_cons (pg_name (i := 16) nd rfl (by first | exact .inl rfl | exact .inr rfl)) pgs_nil))))) (fun _ _ _ _ _ => pts_one (pt_cmpR o_gt (pv 15) (pv 16) (nomark _))) (fun _ _ _ _ _ => (pv 14))) (pe_lst pa_nil) (nomark _)) (pa_cons (pe_cmpR (k_eq (K := K) hu) (pv 7) (pe_lst pa_nil) (nomark _)) pa_nil))) pa_nil)) (nomark _)) (pss_one (ps_ret pe_bl)) pss_nil)
    (pss_cons (ps_asg (pe_frz (pe_callTy (c_dictP (K := K) rfl) (by rfl) T.b_dict boot_dict (pa_cons (pe_lc (own := [("_law_word", 14)]) rfl nd (k_any (K := K) (pv 3)) (blkOk_by (N := N_law) (sc := defScope s_law) (by decide +kernel)) (fun _ _ _ _ _ => (pg_name (i := 14) nd rfl (by first | exact .inl rfl | exact .inr rfl))) (fun _ _ _ _ _ => pts_one (pt_cmpR o_gt (pe_own C_law_draw (hr.mono (by omega)) (by rfl) pass0 (pa_cons (pv 1) (pa_cons pe_int pa_nil))) pe_int (nomark _))) (fun _ _ _ _ _ => (pe_tup (pa_cons (pv 14) (pa_cons (pe_own C_law_pick (hr.mono (by omega)) (by rfl) pass0 (pa_cons (pv 1) (pa_cons (pe_lst (pa_cons pe_non (pa_cons pe_int (pa_cons pe_int (pa_cons pe_int (pa_cons pe_int pa_nil)))))) pa_nil))) pa_nil))))) pa_nil))) (pg_name (i := 9) nd rfl (by first | exact .inl rfl | exact .inr rfl)))
    (pss_cons (ps_if (pt_cmpR (k_ne (K := K) hu) (pe_callB (kc_repr (K := K) hg T.sys hu) (by rfl) T.b_repr boot_repr (pa_cons (pe_mtK MK_within (hr.mono (by omega)) pass0 (pv 12) (pk_cons (pv 9) pk_nil)) pa_nil)) (pe_callB (kc_repr (K := K) hg T.sys hu) (by rfl) T.b_repr boot_repr (pa_cons (pe_own C_law_within (hr.mono (by omega)) (by rfl) pass0 (pa_cons (pv 10) (pa_cons (pv 9) pa_nil))) pa_nil)) (nomark _)) (pss_one (ps_ret pe_bl)) pss_nil)
    (pss_cons (ps_if (PW.pt (pw_or (pt_cmpR (op_neI F_eq e1 L.eq.ne L.eq.hm e2 e3 (E := E0) pass0 (hr.mono (by omega))) (pe_op (op_binI F_sub s1 s2 L.sf s3 passX0 (hr.mono (by omega))) (pe_op (op_binI F_add a1 a2 L.sf a3 (E := E0) pass0 (hr.mono (by omega))) (pv 12) (pv 13)) (pv 13)) (pv 12) (nomark _)) (pw_or (pt_cmpR (op_neI F_eq e1 L.eq.ne L.eq.hm e2 e3 (E := E0) pass0 (hr.mono (by omega))) (pe_op (op_binI F_add a1 a2 L.sf a3 (E := E0) pass0 (hr.mono (by omega))) (pv 12) (pv 13)) (pe_op (op_binI F_add a1 a2 L.sf a3 (E := E0) pass0 (hr.mono (by omega))) (pv 13) (pv 12)) (nomark _)) (pw_or1 (pt_not (pt_val (pe_mt M_fits_in (hr.mono (by omega)) pass0 (pv 12) (pa_cons (pe_op (op_binI F_add a1 a2 L.sf a3 (E := E0) pass0 (hr.mono (by omega))) (pv 12) (pv 13)) pa_nil)))))))) (pss_one (ps_ret pe_bl)) pss_nil)
    (pss_one (ps_if (pt_cmpR (k_ne (K := K) hu) (pe_callB (kc_repr (K := K) hg T.sys hu) (by rfl) T.b_repr boot_repr (pa_cons (pe_lst (pa_cons (pe_mt0 M_numbers (hr.mono (by omega)) pass0 (pv 12)) (pa_cons (pe_mt0 M_numbers (hr.mono (by omega)) pass0 (pv 13)) pa_nil))) pa_nil)) (pe_callB (kc_repr (K := K) hg T.sys hu) (by rfl) T.b_repr boot_repr (pa_cons (pe_lst (pa_cons (pe_own C_law_plain (hr.mono (by omega)) (by rfl) pass0 (pa_cons (pv 10) pa_nil)) (pa_cons (pe_own C_law_plain (hr.mono (by omega)) (by rfl) pass0 (pa_cons (pv 11) pa_nil)) pa_nil))) pa_nil)) (nomark _)) (pss_one (ps_ret pe_bl)) pss_nil)))))))))))))))))))
    (pss_one (ps_ret pe_bl))))), ?_⟩
  clear a1 a2 a3 o1 o2 o3 n1 n2 n3 s1 s2 s3 e1 e2 e3
  obtain ⟨a, ns, rfl, hS, hn, q⟩ := h
  have z : Zp H [] H := ⟨fun _ _ h => h, fun i p o e => by simp at e, List.nodup_nil⟩
  repeat (walk_at "z")
  refine ⟨a, H, ns, rfl, z, hS, fun p G1 H1 o1 z1 s1 hp1 => ?_⟩
  repeat (walk_at "z")
  refine z_lenH (.inl (z1.seqL (upL s1 hS))) ?_
  rw [List.length_map]
  repeat (walk_at "z")
  refine z_min2 ?_
  generalize hn8 : (if (ns.length : Int) < 8 then (ns.length : Int) else 8) = n8
  have n80 : 0 ≤ n8 ∧ n8 ≤ 8 := by rw [← hn8]; split <;> omega
  repeat (walk_at "z")
  refine z_itR (by omega) (by omega) ?_
  refine for_src src_R (fun i σ G' M' => ∃ o' k2 k3 k4 k5 k6 k7 k8 k9 k10 k11 k12 k13, M' = [(p, o')] ∧ Pen K G' (2000 * i) o' ∧ σ = [some (.ref a), some (.ref p), k2, k3, k4, k5, k6, k7, k8, k9, k10, k11, k12, k13, none, none, none])
    z1 ⟨o1, _, _, _, _, _, _, _, _, _, _, _, _, rfl, hp1, rfl⟩ (fun _ _ _ _ _ _ _ => trivial) ?_ ?_
  · rintro i x σ G0 M0 H0 hx ⟨o0, k2, k3, k4, k5, k6, k7, k8, k9, k10, k11, k12, k13, rfl, hp0, rfl⟩ z0
    obtain ⟨hi, rfl⟩ := rng_at hx
    have hb : 2000 * i ≤ 100000 := by omega
    have hbi : 2000 * (i + 1) = 2000 * i + 2000 := by omega
    rw [hbi]
    generalize hbb : 2000 * i = bb at hp0 hb
    generalize hlap : V.int (0 + (i : Int)) = lap
    repeat (walk_at "z")
    refine ⟨p, o0, G0, [], bb, 4, rfl, z0, hp0, by omega, by decide, fun wl G1 H1 o1 ws z1 s1 hp1 e1 l1 tw wnd => ?_⟩
    have hwS : ∀ s ∈ ws, wordS s = true := fun s hs => wd_word (tw s hs)
    repeat (walk_at "z")
    refine ⟨p, o1, G1, [], _, wl, ws, rfl, z1, hp1, by omega, e1, by omega, wnd, fun dm mn G2 H2 o2 z2 s2 hp2 f2 dn2 => ?_⟩
    repeat (walk_at "z")
    refine ⟨p, o2, G2, [], _, wl, ws, rfl, z2, hp2, by omega, s2 _ _ e1, by omega, wnd, fun dy yn G3 H3 o3 z3 s3 hp3 f3 dn3 => ?_⟩
    repeat (walk_at "z")
    refine z_newT z3 (by simp) fun tp G4 H4 z4 s4 e4 => ?_
    refine z_gtup z4 (SqT.of e4) rfl ?_
    repeat (walk_at "z")
    have okm := dn2.ok wnd hwS (by omega)
    have oky := dn3.ok wnd hwS (by omega)
    refine ⟨rfl, ?_⟩
    repeat (walk_at "z")
    refine ⟨G4, _, dm, mn, rfl, z4, f2.up (s3.trans s4), okm, fun x1 G5 H5 z5 s5 h5 => ?_⟩
    repeat (walk_at "z")
    refine ⟨rfl, ?_⟩
    repeat (walk_at "z")
    refine ⟨G5, _, dy, yn, rfl, z5, f3.up (s4.trans s5), oky, fun x2 G6 H6 z6 s6 h6 => ?_⟩
    repeat (walk_at "z")
    have s16 := s2.trans (s3.trans (s4.trans (s5.trans s6)))
    have ew := s16 _ _ e1
    have fm := f2.up (s3.trans (s4.trans (s5.trans s6)))
    have fy := f3.up (s4.trans (s5.trans s6))
    have h5 := h5.up s6
    have hp6 := hp3.up (s4.trans (s5.trans s6))
    clear e4 z0 z1 z2 z3 z4 z5 hp1 hp2 hp3
    refine z_anyL ?_
    repeat (walk_at "z")
    refine z_itL z6 (SqL.of ew) ?_
    refine lc_src src_L (fun i G' M' acc => ∃ ps, M' = [(p, o3)] ∧ Same G6 G' ∧ acc = ps.map V.ref ∧ Trs K G' mn yn ps (ws.take i)) z6 ⟨[], rfl, Same.refl _, rfl, .nil⟩ (fun i G' M' M1 acc H' ⟨_, _, s', _⟩ z' => z'.seqL (upL s' (SqL.of ew))) ?_ ?_
    · rintro j y' G' M' acc Dl H' hy' ⟨ps, rfl, s', rfl, hps⟩ z'
      rw [List.getElem?_map] at hy'
      obtain ⟨s, hs, rfl⟩ := Option.map_eq_some_iff.mp hy'
      have hpl := Paired.length hps
      rw [List.length_take] at hpl
      repeat (walk_at "z")
      refine ⟨by rfl, ?_⟩
      repeat (walk_at "z")
      refine z_dg2A z' (fm.up s') ?_
      repeat (walk_at "z")
      refine z_dg2S z' (fm.up s') ?_
      rw [getD_nK]
      repeat (walk_at "z")
      refine z_dg2A z' (fy.up s') ?_
      repeat (walk_at "z")
      refine z_dg2S z' (fy.up s') ?_
      rw [getD_nK]
      repeat (walk_at "z")
      refine z_newT z' (by simp) fun q8 G8 H8 z8 s8 e8 => ?_
      refine z_laid (M := [(p, o3)]) z8 (by rw [List.length_map]; omega) ⟨ps ++ [q8], rfl, s'.trans s8, by rw [List.map_append]; rfl, ?_⟩
      rw [take_snocS hs]
      exact psnoc (SqT.of e8) (hps.up s8)
    rintro pr G7 M7 acc G8 H8 ⟨ps, rfl, s7, rfl, hps⟩ s8 z8 epr
    rw [List.length_map, List.take_length] at hps
    have hps := hps.up s8
    have s68 := s7.trans s8
    repeat (walk_at "z")
    have B8 : Bun K C G8 wl pr dm dy x1 x2 ws mn yn ps (bb + 210) o3 := ⟨s68 _ _ ew, epr, fm.up s68, fy.up s68, h5.up s68, h6.up s68, hps, (hp6.up s68).mono (by omega)⟩
    clear ew fm fy h5 h6 hps hp6 epr s16
    have okA := okm.posL
    have okB := oky.posL
    have la : ∀ s, lookN (posL mn) s = lookN mn s := lookN_posL okm.pos
    have lb : ∀ s, lookN (posL yn) s = lookN yn s := lookN_posL oky.pos
    have hlA : (posL mn).length ≤ 20 := by
      have := dn2.pos_len
      omega
    have hlB : (posL yn).length ≤ 20 := by
      have := dn3.pos_len
      omega
    have hS8 : ∀ s, lookN (posL mn) s + lookN (posL yn) s ≤ 1000000000000000000000000000000 := fun s => by
      rw [la, lb]
      have := (dn2.top s).2
      have := (dn3.top s).2
      omega
    refine z_addS z8 B8.x1 B8.x2 okA okB (by omega) hS8 fun u9 G9 H9 z9 s9 h9 => ?_
    refine z_nums z9 h9 fun r10 G10 H10 z10 s10 e10 => ?_
    have B10 := B8.up (s9.trans s10)
    repeat (walk_at "z")
    refine z_orS z10 B10.x1 B10.x2 okA okB (by omega) fun u11 G11 H11 z11 s11 h11 => ?_
    refine z_nums z11 h11 fun r12 G12 H12 z12 s12 e12 => ?_
    have B12 := B10.up (s11.trans s12)
    have e10 := (s11.trans s12) _ _ e10
    repeat (walk_at "z")
    refine z_andS z12 B12.x1 B12.x2 okA okB (by omega) fun u13 G13 H13 z13 s13 h13 => ?_
    refine z_nums z13 h13 fun r14 G14 H14 z14 s14 e14 => ?_
    have B14 := B12.up (s13.trans s14)
    have e10 := (s13.trans s14) _ _ e10
    have e12 := (s13.trans s14) _ _ e12
    repeat (walk_at "z")
    refine ⟨G14, _, x1, x2, posL mn, posL yn, rfl, z14, B14.x1, B14.x2, okA, okB, by omega, fun v15 G15 H15 z15 s15 d15 => ?_⟩
    repeat (walk_at "z")
    refine z_newL z15 (by simp) fun tl16 G16 H16 z16 s16 e16 => ?_
    have B16 := B14.up (s15.trans s16)
    have dT : Dt K G16 (.ref tl16) (.list [nD (posL (opF (fun s => lookN (posL mn) s + lookN (posL yn) s) ((posL mn).map (·.1) ++ (posL yn).map (·.1)))), nD (posL (opF (fun s => if lookN (posL mn) s > lookN (posL yn) s then lookN (posL mn) s else lookN (posL yn) s) ((posL mn).map (·.1) ++ (posL yn).map (·.1)))),
        nD (posL (opF (fun s => if lookN (posL mn) s < lookN (posL yn) s then lookN (posL mn) s else lookN (posL yn) s) ((posL mn).map (·.1)))), lessD (posL mn) (posL yn)]) :=
      .lst (SqL.of e16) (.cons (dt_nD (.inl ((s15.trans s16) _ _ e10))) (.cons (dt_nD (.inl ((s15.trans s16) _ _ e12))) (.cons (dt_nD (.inl ((s15.trans s16) _ _ e14))) (.cons (d15.up s16) .nil))))
    clear z8 z9 z10 z11 z12 z13 z14 z15 B8 B10 B12 B14 h9 h11 h13 e10 e12 e14 e16 d15
    repeat (walk_at "z")
    refine z_anyL ?_
    repeat (walk_at "z")
    refine z_itL z16 (SqL.of B16.pr) ?_
    refine lc_pairs (fun G y s => ∃ q, y = V.ref q ∧ SqT K G q [.str s, .int (lookN mn s + lookN yn s)]) (fun _ => true) (fun G G1 v s hs ⟨q, e, h⟩ => ⟨q, e, upT hs h⟩) z16 B16.pr B16.ps (by omega) (fun s pa G' H' Dl acc LD KP hsw z' s' hT hLD hKP => ?_) fun cp16 it16 G17 H17 hI16 ec16 z17 s17 => ?_
    · repeat (walk_at "z")
      refine z_gtup z' hT rfl ?_
      repeat (walk_at "z")
      refine ⟨wipe3 _ _ _ _ _ _ _, ?_⟩
      repeat (walk_at "z")
      refine z_newT z' (by simp) fun q8 G8 H8 z8 s8 e8 => ?_
      exact hLD _ G8 H8 z8 s8 ⟨q8, rfl, SqT.of e8⟩ rfl
    rw [filter_true] at hI16
    obtain ⟨cs16, rfl, hC16⟩ := prk_of hI16
    repeat (walk_at "z")
    refine z_dictP z17 (SqL.of ec16) hC16 fun cd16 Hd16 zd16 => ?_
    rw [merge_nK (by rw [keys_fun]; exact wnd)] at zd16
    refine z_frzL zd16 fun G18 H18 z18 s18 f18 => ?_
    repeat (walk_at "z")
    refine ⟨G18, _, cd16, _, rfl, z18, f18, by rw [List.length_map]; omega, fun pl16 G19 H19 z19 s19 fp16 => ?_⟩
    have B19 := B16.up (s17.trans (s18.trans s19))
    repeat (walk_at "z")
    refine z_ownP z19 (by simp) fun du H20 z20 => ?_
    have B20 := B19
    have z20 : Zp G19 [(p, o3), (du, .lst [.ref pl16])] H20 := z20
    repeat (walk_at "z")
    refine z_tyO z20 1 rfl ?_
    repeat (walk_at "z")
    refine z_anyL ?_
    repeat (walk_at "z")
    refine z_itL z20 (SqL.of B20.pr) ?_
    refine lc_pairs (fun G y s => ∃ q, y = V.ref q ∧ SqT K G q [.str s, .int (if lookN yn s > lookN mn s then lookN yn s else lookN mn s)]) (fun _ => true) (fun G G1 v s hs ⟨q, e, h⟩ => ⟨q, e, upT hs h⟩) z20 B20.pr B20.ps (by omega) (fun s pa G' H' Dl acc LD KP hsw z' s' hT hLD hKP => ?_) fun cp20 it20 G21 H21 hI20 ec20 z21 s21 => ?_
    · repeat (walk_at "z")
      refine z_gtup z' hT rfl ?_
      repeat (walk_at "z")
      refine ⟨wipe3 _ _ _ _ _ _ _, ?_⟩
      repeat (walk_at "z")
      refine z_max2 ?_
      repeat (walk_at "z")
      refine z_newT z' (by simp) fun q8 G8 H8 z8 s8 e8 => ?_
      exact hLD _ G8 H8 z8 s8 ⟨q8, rfl, SqT.of e8⟩ rfl
    rw [filter_true] at hI20
    obtain ⟨cs20, rfl, hC20⟩ := prk_of hI20
    repeat (walk_at "z")
    refine z_dictP z21 (SqL.of ec20) hC20 fun cd20 Hd20 zd20 => ?_
    rw [merge_nK (by rw [keys_fun]; exact wnd)] at zd20
    refine z_frzL zd20 fun G22 H22 z22 s22 f22 => ?_
    repeat (walk_at "z")
    refine ⟨G22, _, cd20, _, rfl, z22, f22, by rw [List.length_map]; omega, fun pl20 G23 H23 z23 s23 fp20 => ?_⟩
    have S20 := s21.trans (s22.trans s23)
    have B23 := B20.up S20
    clear hI20 hC20 zd20 f22 ec20
    repeat (walk_at "z")
    refine z_append z23 1 rfl (by simp) fun H24 z24 => ?_
    have z24 : Zp G23 [(p, o3), (du, .lst [.ref pl16, .ref pl20])] H24 := z24
    have B24 := B23
    repeat (walk_at "z")
    refine z_tyO z24 1 rfl ?_
    repeat (walk_at "z")
    refine z_anyL ?_
    repeat (walk_at "z")
    refine z_itL z24 (SqL.of B24.pr) ?_
    refine lc_pairs (fun G y s => ∃ q, y = V.ref q ∧ SqT K G q [.str s, .int (if lookN yn s < lookN mn s then lookN yn s else lookN mn s)]) (fun _ => true) (fun G G1 v s hs ⟨q, e, h⟩ => ⟨q, e, upT hs h⟩) z24 B24.pr B24.ps (by omega) (fun s pa G' H' Dl acc LD KP hsw z' s' hT hLD hKP => ?_) fun cp24 it24 G25 H25 hI24 ec24 z25 s25 => ?_
    · repeat (walk_at "z")
      refine z_gtup z' hT rfl ?_
      repeat (walk_at "z")
      refine ⟨wipe3 _ _ _ _ _ _ _, ?_⟩
      repeat (walk_at "z")
      refine z_min2 ?_
      repeat (walk_at "z")
      refine z_newT z' (by simp) fun q8 G8 H8 z8 s8 e8 => ?_
      exact hLD _ G8 H8 z8 s8 ⟨q8, rfl, SqT.of e8⟩ rfl
    rw [filter_true] at hI24
    obtain ⟨cs24, rfl, hC24⟩ := prk_of hI24
    repeat (walk_at "z")
    refine z_dictP z25 (SqL.of ec24) hC24 fun cd24 Hd24 zd24 => ?_
    rw [merge_nK (by rw [keys_fun]; exact wnd)] at zd24
    refine z_frzL zd24 fun G26 H26 z26 s26 f26 => ?_
    repeat (walk_at "z")
    refine ⟨G26, _, cd24, _, rfl, z26, f26, by rw [List.length_map]; omega, fun pl24 G27 H27 z27 s27 fp24 => ?_⟩
    have S24 := s25.trans (s26.trans s27)
    have B27 := B24.up S24
    clear hI24 hC24 zd24 f26 ec24
    repeat (walk_at "z")
    refine z_append z27 1 rfl (by simp) fun H28 z28 => ?_
    have z28 : Zp G27 [(p, o3), (du, .lst [.ref pl16, .ref pl20, .ref pl24])] H28 := z28
    have B28 := B27
    have dT : Dt K G27 (.ref tl16) (toldD mn yn) := Dt.up (s17.trans (s18.trans (s19.trans (S20.trans S24)))) dT
    have fp16 := fp16.up (S20.trans S24)
    have fp20 := fp20.up S24
    clear B16 B19 B20 B23 B24 B27 z16 z17 z18 z19 z21 z22 z23 z25 z26 z27 s16 s17 s18 s19 S20 S24 s21 s22 s23 s25 s26 s27 z20 z24
    repeat (walk_at "z")
    refine z_anyL ?_
    repeat (walk_at "z")
    refine z_itL z28 (SqL.of B28.pr) ?_
    refine lc_pairs (fun G y s => y = V.str s) (fun s => decide (lookN mn s < lookN yn s)) (fun G G1 v s hs h => h) z28 B28.pr B28.ps (by omega) (fun s pa G' H' Dl acc LD KP hsw z' s' hT hLD hKP => ?_) fun cp28 it28 G29 H29 hI28 ec28 z29 s29 => ?_
    · repeat (walk_at "z")
      refine z_gtup z' hT rfl ?_
      repeat (walk_at "z")
      refine ⟨wipe3 _ _ _ _ _ _ _, ?_⟩
      repeat (walk_at "z")
      refine z_bd (fun c => ?_) (fun c => ?_)
      · repeat (walk_at "z")
        exact hLD _ G' H' z' (Same.refl _) rfl (decide_eq_true c)
      · exact hKP (decide_eq_false c)
    obtain rfl := strs_of hI28
    have B29 := B28.up s29
    have hFl := List.length_filter_le (fun s => decide (lookN mn s < lookN yn s)) ws
    repeat (walk_at "z")
    refine z_sortL z29 (SqL.of ec28) (wnd.sublist List.filter_sublist) (by omega) fun fw G30 H30 z30 s30 e30 => ?_
    have B30 := B29.up s30
    have S30 := s29.trans s30
    have dT := dT.up S30
    have fp16 := fp16.up S30
    have fp20 := fp20.up S30
    have fp24 := fp24.up S30
    clear B28 B29 ec28 z28 z29 s29 s30 S30 hI28
    generalize hF : asc (ws.filter fun s => decide (lookN mn s < lookN yn s)) = F at e30
    repeat (walk_at "z")
    refine z_anyL ?_
    repeat (walk_at "z")
    refine z_itL z30 (SqL.of B30.pr) ?_
    refine lc_pairs (fun G y s => ∃ q, y = V.ref q ∧ SqT K G q [.str s, .int (lookN mn s - lookN yn s)]) (fun _ => true) (fun G G1 v s hs ⟨q, e, h⟩ => ⟨q, e, upT hs h⟩) z30 B30.pr B30.ps (by omega) (fun s pa G' H' Dl acc LD KP hsw z' s' hT hLD hKP => ?_) fun cp30 it30 G31 H31 hI30 ec30 z31 s31 => ?_
    · repeat (walk_at "z")
      refine z_gtup z' hT rfl ?_
      repeat (walk_at "z")
      refine ⟨wipe3 _ _ _ _ _ _ _, ?_⟩
      repeat (walk_at "z")
      refine z_newT z' (by simp) fun q8 G8 H8 z8 s8 e8 => ?_
      exact hLD _ G8 H8 z8 s8 ⟨q8, rfl, SqT.of e8⟩ rfl
    rw [filter_true] at hI30
    obtain ⟨cs30, rfl, hC30⟩ := prk_of hI30
    repeat (walk_at "z")
    refine z_dictP z31 (SqL.of ec30) hC30 fun cd30 Hd30 zd30 => ?_
    rw [merge_nK (by rw [keys_fun]; exact wnd)] at zd30
    refine z_frzL zd30 fun G32 H32 z32 s32 f32 => ?_
    repeat (walk_at "z")
    refine ⟨G32, _, cd30, _, rfl, z32, f32, by rw [List.length_map]; omega, fun pl30 G33 H33 z33 s33 fp30 => ?_⟩
    have S33 := s31.trans (s32.trans s33)
    have B33 := B30.up S33
    have dT := dT.up S33
    have fp16 := fp16.up S33
    have fp20 := fp20.up S33
    have fp24 := fp24.up S33
    have e30 := S33 _ _ e30
    clear hI30 hC30 zd30 f32 ec30 z30 z31 z32 s31 s32 s33 S33 B30
    have flaw := few_law dn2 dn3 wnd
    rw [hF] at flaw
    repeat (walk_at "z")
    refine z_tyO z33 1 rfl ?_
    with_reducible refine z_cons ?_
    refine z_ifJ (fun x H1 => ∃ G1, Zp G1 [(p, o3), (du, .lst [.ref pl16, .ref pl20, .ref pl24])] H1 ∧ Same G33 G1 ∧ Dt K G1 x (lessD (posL mn) (posL yn))) (fun Q1 hQ1 => ?_) ?_
    · repeat (walk_at "z")
      refine z_newL z33 (by simp) fun q1 G34 H34 z34 s34 e34 => ?_
      repeat (walk_at "z")
      refine z_neNil (z34.seqL (SqL.of (s34 _ _ e30))) (z34.sub _ _ e34) ?_
      refine ⟨_, rfl, ?_⟩
      refine z_bd (fun c => ?_) (fun c => ?_)
      · obtain ⟨nm, rest, hF1⟩ : ∃ nm rest, F = nm :: rest := by
          cases F with
          | nil => exact absurd rfl c
          | cons x r => exact ⟨x, r, rfl⟩
        repeat (walk_at "z")
        refine z_ixL (v := .str nm) z34 (SqL.of (s34 _ _ e30)) (atI_nat (j := 0) (by rw [hF1]; rfl)) ?_
        repeat (walk_at "z")
        refine z_newT z34 (by simp) fun q2 G35 H35 z35 s35 e35 => ?_
        refine hQ1 _ _ ⟨G35, z35, s34.trans s35, ?_⟩
        unfold lessD
        rw [flaw, hF1]
        exact .tup (SqT.of e35) (.cons (.str _) (.cons (.bl _) .nil))
      · have hF1 : F = [] := by
          cases F with
          | nil => rfl
          | cons x r => exact absurd (fun h => by cases h) c
        repeat (walk_at "z")
        refine hQ1 _ _ ⟨G34, z34, s34, ?_⟩
        unfold lessD
        rw [flaw, hF1]
        show Dt K G34 _ (nD _)
        rw [eq_sub dn2 dn3 (no_few dn2 dn3 (hF.trans hF1))]
        obtain ⟨od, eo⟩ := fp30.up s34
        exact dt_nD (.inr ⟨od, eo⟩)
    rintro xl H34 ⟨G34, z34, s34, d34⟩
    repeat (walk_at "z")
    refine z_append z34 1 rfl (by simp) fun H35 z35 => ?_
    have z35 : Zp G34 [(p, o3), (du, .lst [.ref pl16, .ref pl20, .ref pl24, xl])] H35 := z35
    have B35 := B33.up s34
    have tok := told_ok dn2 dn3 wnd hwS (by omega)
    have dT := z35.dt (dT.up s34)
    have dU : Dt K H35 (.ref du) (toldD mn yn) := by
      unfold toldD
      rw [eq_add dn2 dn3, eq_or dn2 dn3, eq_and dn2 dn3]
      exact .lst (SqL.of (z35.at_ 1 rfl)) (.cons (dt_nD ((fp16.up s34).rd z35)) (.cons (dt_nD ((fp20.up s34).rd z35)) (.cons (dt_nD ((fp24.up s34).rd z35)) (.cons (z35.dt d34) .nil))))
    repeat (walk_at "z")
    refine z_reprH dT (tok.1.mono (by decide)) (Nat.le_trans tok.2 (by decide)) ?_
    repeat (walk_at "z")
    refine z_reprH dU (tok.1.mono (by decide)) (Nat.le_trans tok.2 (by decide)) ?_
    repeat (walk_at "z")
    refine z_neS rfl ?_
    rw [decide_eq_true rfl]
    have e30 := s34 _ _ e30
    clear dT dU fp16 fp20 fp24 fp30 d34 B33 s34 z33 z34
    repeat (walk_at "z")
    obtain ⟨du1, dw1, eu1, fu1⟩ := id B35.x1
    obtain ⟨du2, dw2, eu2, fu2⟩ := id B35.x2
    refine z_mtI z35 eu1 (by rfl) ?_
    repeat (walk_at "z")
    refine z_fits z35 B35.x1 B35.x2 okA fun G36 H36 z36 s36 => ?_
    repeat (walk_at "z")
    refine z_mtKI z36 (s36 _ _ eu2) (by rfl) ?_
    repeat (walk_at "z")
    refine ⟨rfl, z_fits z36 (B35.x2.up s36) (B35.x1.up s36) okB fun G37 H37 z37 s37 => ?_⟩
    rw [fits_one (fun s => (dn2.top s).1) (fun s => (dn3.top s).1) fun s hs => dn2.out hs, fits_two (ws := ws) (fun s => (dn2.top s).1) (fun s => (dn3.top s).1) fun s hs => dn3.out hs, hF]
    repeat (walk_at "z")
    refine z_newL z37 (by simp) fun q38 G38 H38 z38 s38 e38 => ?_
    have S38 := s36.trans (s37.trans s38)
    have B38 := B35.up S38
    have e30 := S38 _ _ e30
    clear B35 z35 z36 z37 s36 s37 s38 eu1 fu1 eu2 fu2
    repeat (walk_at "z")
    refine z_reprH (z38.dt (.lst (SqL.of e38) (.cons (.bl _) (.cons (.bl _) .nil)))) (shw_2b _ _).1 (shw_2b _ _).2 ?_
    repeat (walk_at "z")
    refine z_anyL ?_
    repeat (walk_at "z")
    refine z_itL z38 (SqL.of B38.pr) ?_
    refine lc_pairs (fun G y s => y = V.str s) (fun s => decide (lookN mn s > lookN yn s)) (fun G G1 v s hs h => h) z38 B38.pr B38.ps (by omega) (fun s pa G' H' Dl acc LD KP hsw z' s' hT hLD hKP => ?_) fun cp39 it39 G39 H39 hI39 ec39 z39 s39 => ?_
    · repeat (walk_at "z")
      refine z_gtup z' hT rfl ?_
      repeat (walk_at "z")
      refine ⟨wipe3 _ _ _ _ _ _ _, ?_⟩
      repeat (walk_at "z")
      refine z_bd (fun c => ?_) (fun c => ?_)
      · repeat (walk_at "z")
        exact hLD _ G' H' z' (Same.refl _) rfl (decide_eq_true c)
      · exact hKP (decide_eq_false c)
    obtain rfl := strs_of hI39
    repeat (walk_at "z")
    refine z_newL z39 (by simp) fun q40 G40 H40 z40 s40 e40 => ?_
    repeat (walk_at "z")
    refine z_eqNil (z40.seqL (SqL.of (s40 _ _ ec39))) (z40.sub _ _ e40) ?_
    repeat (walk_at "z")
    refine z_newL z40 (by simp) fun q41 G41 H41 z41 s41 e41 => ?_
    repeat (walk_at "z")
    refine z_eqNil (z41.seqL (SqL.of ((s39.trans (s40.trans s41)) _ _ e30))) (z41.sub _ _ e41) ?_
    repeat (walk_at "z")
    refine z_newL z41 (by simp) fun q42 G42 H42 z42 s42 e42 => ?_
    have S42 := s39.trans (s40.trans (s41.trans s42))
    have B42 := B38.up S42
    repeat (walk_at "z")
    refine z_reprH (z42.dt (.lst (SqL.of e42) (.cons (.bl _) (.cons (.bl _) .nil)))) (shw_2b _ _).1 (shw_2b _ _).2 ?_
    repeat (walk_at "z")
    refine z_neS rfl ?_
    rw [decide_eq_true rfl]
    clear B38 z38 z39 z40 z41 s39 s40 s41 s42 S42 e42 e38 ec39 hI39 e30
    have z42 : Zp G42 [(p, o3)] H42 := z42.less (.cons_cons _ (List.nil_sublist _))
    repeat (walk_at "z")
    refine z_anyL ?_
    repeat (walk_at "z")
    refine z_itL z42 (SqL.of B42.wl) ?_
    refine lc_src src_L (fun i G' M' acc => ∃ o' ps, ∃ ls : List (Str × Option Int), M' = [(p, o')] ∧ Same G42 G' ∧ Pen K G' (bb + 210 + 2 * i) o' ∧ acc = ps.map V.ref ∧ Prk K G' ps (limK ls) ∧ (ls.map (·.1)).Sublist (ws.take i)) z42 ⟨o3, [], [], rfl, Same.refl _, B42.pen, rfl, .nil, List.Sublist.refl _⟩ (fun i G' M' M1 acc H' ⟨_, _, _, _, s', _⟩ z' => z'.seqL (upL s' (SqL.of B42.wl))) ?_ ?_
    · rintro j y G' M' acc Dl H' hy ⟨o', ps', ls, rfl, s', hp', rfl, hps', sbl⟩ z'
      rw [List.getElem?_map] at hy
      obtain ⟨s, hs, rfl⟩ := Option.map_eq_some_iff.mp hy
      have hj := (List.getElem?_eq_some_iff.mp hs).1
      have hpl := hps'.len
      have hdl := sbl.length_le
      rw [List.length_map, List.length_take] at hdl
      have hll : (limK ls).length = ls.length := by unfold limK; rw [List.length_map]
      repeat (walk_at "z")
      refine ⟨by rfl, ?_⟩
      repeat (walk_at "z")
      refine ⟨p, o', G', _, _, _, rfl, z', hp', by omega, by decide, by decide, fun c G1 H1 o1 z1 s1 hp1 c0 c3 => ?_⟩
      repeat (walk_at "z")
      refine z_bd (fun cp => ?_) (fun cp => ?_)
      · repeat (walk_at "z")
        refine z_newL z1 (by simp) fun q6 G6 H6 z6 s6 e6 => ?_
        repeat (walk_at "z")
        refine ⟨p, o1, G6, _, _, _, rfl, z6, hp1.up s6, by omega, .inl ⟨q6, _, rfl, .inl (SqL.of e6), by simp, by simp, fun v G7 H7 o7 hv z7 s7 hp7 => ?_⟩⟩
        obtain ⟨lm, rfl⟩ : ∃ lm : Option Int, v = limV lm := by
          simp only [List.mem_cons, List.not_mem_nil, or_false] at hv
          rcases hv with rfl | rfl | rfl | rfl | rfl
          · exact ⟨none, rfl⟩
          all_goals exact ⟨some _, rfl⟩
        repeat (walk_at "z")
        refine z_newT z7 (by simp) fun q8 G8 H8 z8 s8 e8 => ?_
        have s18 := s1.trans (s6.trans (s7.trans s8))
        refine z_laid (M := [(p, o7)]) z8 (by rw [List.length_map]; omega) ⟨o7, ps' ++ [q8], ls ++ [(s, lm)], rfl, s'.trans s18, (hp7.up s8).mono (by omega), by rw [List.map_append]; rfl, ?_, ?_⟩
        · unfold limK
          rw [List.map_append]
          exact psnoc (SqT.of e8) (hps'.up s18)
        · rw [List.map_append, take_snocS hs]
          exact sbl.append (List.Sublist.refl _)
      · refine z_left (M := [(p, o1)]) z1 ⟨o1, ps', ls, rfl, s'.trans s1, hp1.mono (by omega), rfl, hps'.up s1, ?_⟩
        rw [take_snocS hs]
        exact sbl.trans (List.sublist_append_left _ _)
    rintro p2 G43 M2 acc G44 H44 ⟨o4, ps4, ls, rfl, s43, hp4, rfl, hps4, sbl⟩ s44 z44 e44
    rw [List.length_map, List.take_length] at sbl
    rw [List.length_map] at hp4
    have lsl := sbl.length_le
    rw [List.length_map] at lsl
    repeat (walk_at "z")
    refine z_dictP z44 (SqL.of e44) (hps4.up s44) fun d45 H45 z45 => ?_
    rw [merge_limK (wnd.sublist sbl)] at z45
    refine z_frzL (M := [(p, o4)]) z45 fun G46 H46 z46 s46 f46 => ?_
    have B46 := (B42.up (s43.trans (s44.trans s46))).chg ((hp4.up (s44.trans s46)).mono (show bb + 210 + 2 * ws.length ≤ bb + 230 by omega))
    clear B42 z42 z44 s43 s44 s46 hp4 hps4 e44 z45
    repeat (walk_at "z")
    obtain ⟨du1, dw1, eu1, fu1⟩ := id B46.x1
    refine z_mtKI z46 eu1 (by rfl) ?_
    repeat (walk_at "z")
    refine ⟨rfl, G46, _, x1, d45, posL mn, ls, rfl, z46, B46.x1, f46, by omega, fun G47 H47 z47 s47 => ?_⟩
    rw [lim_pos (fun s => (dn2.top s).1)]
    have B47 := B46.up s47
    repeat (walk_at "z")
    refine z_reprH (d := .bool _) (.bl _) ((shw_bl _).mono (by decide)) (Nat.zero_le 60) ?_
    repeat (walk_at "z")
    refine ⟨G47, _, dm, d45, mn, ls, rfl, z47, B47.dm, f46.up s47, wnd.sublist sbl, by omega, fun G48 H48 z48 s48 => ?_⟩
    have B48 := B47.up s48
    repeat (walk_at "z")
    refine z_reprH (d := .bool _) (.bl _) ((shw_bl _).mono (by decide)) (Nat.zero_le 60) ?_
    repeat (walk_at "z")
    refine z_neS rfl ?_
    rw [decide_eq_true rfl]
    clear B46 B47 z46 z47 f46 s47 s48 eu1 fu1
    repeat (walk_at "z")
    have oS : NsOk (posL (sumW mn yn ws)) := (sumW_ok dn2 dn3 wnd hwS (by omega)).posL
    have lS : (posL (sumW mn yn ws)).length ≤ 20 := Nat.le_trans sumW_len (by omega)
    refine z_addS z48 B48.x1 B48.x2 okA okB (by omega) hS8 fun u50 G50 H50 z50 s50 h50 => ?_
    rw [eq_add dn2 dn3] at h50
    have h50 : StI G50 C u50 (posL (sumW mn yn ws)) := h50
    have B50 := B48.up s50
    repeat (walk_at "z")
    refine z_subS z50 h50 B50.x2 oS okB (by omega) (few_sum dn2 dn3) fun u51 G51 H51 z51 s51 h51 => ?_
    rw [back_sum dn2 dn3] at h51
    have B51 := B50.up s51
    repeat (walk_at "z")
    refine z_neqS L.sc z51 h51 B51.x1 ?_
    rw [eqDD_self okA.nd]
    clear B48 B50 z48 z50 h50 h51 s50 s51
    repeat (walk_at "z")
    refine z_addS z51 B51.x1 B51.x2 okA okB (by omega) hS8 fun u52 G52 H52 z52 s52 h52 => ?_
    rw [eq_add dn2 dn3] at h52
    have B52 := B51.up s52
    repeat (walk_at "z")
    refine z_addS z52 B52.x2 B52.x1 okB okA (by omega) (fun s => by rw [Int.add_comm]; exact hS8 s) fun u53 G53 H53 z53 s53 h53 => ?_
    rw [eq_add' dn2 dn3] at h53
    have B53 := B52.up s53
    repeat (walk_at "z")
    refine z_neqS L.sc z53 (h52.up s53) h53 ?_
    have oS' : NsOk (posL (ws.map fun s => (s, lookN mn s + lookN yn s))) := oS
    rw [eqDD_self oS'.nd]
    clear B51 B52 z51 z52 h52 h53 s52
    repeat (walk_at "z")
    obtain ⟨du1, dw1, eu1, fu1⟩ := id B53.x1
    refine z_mtI z53 eu1 (by rfl) ?_
    repeat (walk_at "z")
    refine z_addS z53 B53.x1 B53.x2 okA okB (by omega) hS8 fun u54 G54 H54 z54 s54 h54 => ?_
    rw [eq_add dn2 dn3] at h54
    have h54 : StI G54 C u54 (posL (sumW mn yn ws)) := h54
    have B54 := B53.up s54
    repeat (walk_at "z")
    refine z_fits z54 B54.x1 h54 okA fun G55 H55 z55 s55 => ?_
    rw [fits_sum dn2 dn3]
    have B55 := B54.up s55
    clear B53 B54 z53 z54 h54 s53 s54 s55 eu1 fu1
    repeat (walk_at "z")
    refine z_nums z55 B55.x1 fun r56 G56 H56 z56 s56 e56 => ?_
    have B56 := B55.up s56
    repeat (walk_at "z")
    refine z_nums z56 B56.x2 fun r57 G57 H57 z57 s57 e57 => ?_
    have B57 := B56.up s57
    repeat (walk_at "z")
    refine z_newL z57 (by simp) fun q58 G58 H58 z58 s58 e58 => ?_
    have B58 := B57.up s58
    repeat (walk_at "z")
    have dN58 : Dt K G58 (.ref q58) (.list [nD (posL mn), nD (posL yn)]) := .lst (SqL.of e58) (.cons (dt_nD (.inl ((s57.trans s58) _ _ e56))) (.cons (dt_nD (.inl (s58 _ _ e57))) .nil))
    refine z_reprH (z58.dt dN58) (shw_2n okA okB).1 (shw_2n okA okB).2 ?_
    clear B55 B56 B57 z55 z56 z57 s56 s57 s58 e56 e57 e58 dN58
    repeat (walk_at "z")
    refine ⟨G58, _, dm, mn, rfl, z58, B58.dm, okm.ln, fun pl59 G59 H59 z59 s59 fp59 => ?_⟩
    have B59 := B58.up s59
    repeat (walk_at "z")
    refine ⟨G59, _, dy, yn, rfl, z59, B59.dy, oky.ln, fun pl60 G60 H60 z60 s60 fp60 => ?_⟩
    have B60 := B59.up s60
    repeat (walk_at "z")
    refine z_newL z60 (by simp) fun q61 G61 H61 z61 s61 e61 => ?_
    have B61 := B60.up s61
    repeat (walk_at "z")
    have dN61 : Dt K H61 (.ref q61) (.list [nD (posL mn), nD (posL yn)]) := .lst (z61.seqL (SqL.of e61)) (.cons (dt_nD ((fp59.up (s60.trans s61)).rd z61)) (.cons (dt_nD ((fp60.up s61).rd z61)) .nil))
    refine z_reprH dN61 (shw_2n okA okB).1 (shw_2n okA okB).2 ?_
    repeat (walk_at "z")
    refine z_neS rfl ?_
    rw [decide_eq_true rfl]
    repeat (walk_at "z")
    exact ⟨G61, _, z61, _, _, _, _, _, _, _, _, _, _, _, _, _, rfl, B61.pen.mono (by omega), rfl⟩
  · rintro σ G3 M3 H3 ⟨o3, k2, k3, k4, k5, k6, k7, k8, k9, k10, k11, k12, k13, rfl, hp3, rfl⟩ z3
    repeat (walk_at "z")
    exact q _

end
end LW
namespace LW
open PySem PySem.Spec PyProof.Rows L2 Ys

section
variable {K : PySem.W.Frag} {f : Addr} {fd : FuncData}
theorem kbindsN {x qual : Str} {params : Arguments} {body : List Stmt} {scope : Scope} {ps : List Str} (F : FunD K x qual params body scope [] [] f fd) (n : Nat) (ks : List Str)
    (h : ∀ (kV doc pm : Value) (an : Option Addr) (cdv ct : Value) (us ws : List Value), us.length = n → ws.length = ks.length → bindArgs (PySem.W.fnOf x qual params body scope .none kV doc pm an cdv ct) ⟨us, ks.zip ws⟩ = pure (ps.zip (us ++ ws))) : KBn K fd ps n ks (fun us ws => us ++ ws) fun vs zs => vs ++ zs := by
  obtain ⟨oc, od, dV, kV, doc, pm, an, cdv, ct, osl, rfl, lk, hcd, hD, hK⟩ := F.ex
  rcases hD with ⟨_, rfl⟩ | ⟨e, _⟩
  · exact ⟨fun s us ws _ l1 l2 => .of_eq (h kV doc pm an cdv ct us ws l1 l2), fun r1 r2 => r1.append r2⟩
  · exact absurd rfl e
end
theorem okSup0 {w : World} {K : PySem.W.Frag} {mg : Str → Option Value} {base : Heap} {C fI : Addr} {fd : FuncData} (S : SupE PR K C fI "OverflowError" "OverflowError.__init__" ["kind"] "TooFew.__init__" (defArgs s_x0) (defBody s_x0) (defScope s_x0) fd) (T : OexE K C "OverflowError.__new__" [.type "OverflowError", .type "ArithmeticError", .type "Exception", .type "BaseException", .type "object"]) : FnOk PR w K mg base CX0 1 fI fd ["self", "kind"] (spSup K C "kind") :=
  ok_supE (x := "kind") S ⟨by decide +kernel, by rfl, by rfl, by decide +kernel, by rfl, rfl, rfl, ⟨_, rfl, rfl⟩⟩ (by decide +kernel) (by decide +kernel) bOverflow T (fun env h => by cases env; subst h; exact ⟨_, rfl⟩) (fun env h => by cases env; subst h; rfl) (fun env h => by cases env; subst h; rfl) (fun env h => by cases env; subst h; rfl) (by decide +kernel)
theorem facts {w : World} {K : PySem.W.Frag} {h : Heap} {mg : Str → Option Value} {f : Addr} (X : K.In h) (G : h.Ns mainGlobals mg) (hfa : mg ("law" : Str) = some (.ref f)) (ct0 : SaysCT fb fn fc ts w K) :
    ∃ fd : FuncData, (∀ (s : Shared) (v : Value), BindsTo s fd ⟨[v], []⟩ [("_law_script", v)]) ∧ ∀ base : Heap, K.In base → base.Ns mainGlobals mg → FnG PR w K mg base CX0 12 f fd ["_law_script"] (spLaw K) := by
  have cc0 := ct0.c
  have c := cc0.both.1
  obtain ⟨fd_is_word, F_is_word⟩ : ∃ fd, FnP K "is_word" s_is_word (gA "is_word" K) fd := c.def_ 0
  obtain ⟨fd_is_integer, F_is_integer⟩ : ∃ fd, FnP K "is_integer" s_is_integer (gA "is_integer" K) fd := c.def_ 1
  obtain ⟨fd_is_within, F_is_within⟩ : ∃ fd, FnP K "is_within" s_is_within (gA "is_within" K) fd := c.def_ 2
  obtain ⟨fd_ascending, F_ascending⟩ : ∃ fd, FnP K "ascending" s_ascending (gA "ascending" K) fd := c.def_ 3
  obtain ⟨fd_valid_numbers, F_valid_numbers⟩ : ∃ fd, FnP K "valid_numbers" s_valid_numbers (gA "valid_numbers" K) fd := c.def_ 4
  obtain ⟨fd_greater, F_greater⟩ : ∃ fd, FnP K "greater" s_greater (gA "greater" K) fd := c.def_ 5
  obtain ⟨fd_smaller, F_smaller⟩ : ∃ fd, FnP K "smaller" s_smaller (gA "smaller" K) fd := c.def_ 6
  obtain ⟨fd_staff_with, F_staff_with⟩ : ∃ fd, FnP K "staff_with" s_staff_with (gA "staff_with" K) fd := c.def_ 7
  obtain ⟨fd_law_pen, F_law_pen⟩ : ∃ fd, FnP K "_law_pen" s_law_pen (gA "_law_pen" K) fd := c.def_ 8
  obtain ⟨fd_law_draw, F_law_draw⟩ : ∃ fd, FnP K "_law_draw" s_law_draw (gA "_law_draw" K) fd := c.def_ 9
  obtain ⟨fd_law_pick, F_law_pick⟩ : ∃ fd, FnP K "_law_pick" s_law_pick (gA "_law_pick" K) fd := c.def_ 10
  obtain ⟨fd_law_words, F_law_words⟩ : ∃ fd, FnP K "_law_words" s_law_words (gA "_law_words" K) fd := c.def_ 11
  obtain ⟨fd_law_staff, F_law_staff⟩ : ∃ fd, FnP K "_law_staff" s_law_staff (gA "_law_staff" K) fd := c.def_ 12
  obtain ⟨fd_law_less, F_law_less⟩ : ∃ fd, FnP K "_law_less" s_law_less (gA "_law_less" K) fd := c.def_ 13
  obtain ⟨fd_law_plain, F_law_plain⟩ : ∃ fd, FnP K "_law_plain" s_law_plain (gA "_law_plain" K) fd := c.def_ 14
  obtain ⟨fd_law_within, F_law_within⟩ : ∃ fd, FnP K "_law_within" s_law_within (gA "_law_within" K) fd := c.def_ 15
  obtain ⟨fd_law, F_law⟩ : ∃ fd, FnP K "law" s_law (gA "law" K) fd := c.def_ 16
  obtain ⟨fd_m_numbers, F_m_numbers⟩ : ∃ fd, FunD K "numbers" "Staff.numbers" (defArgs s_Staff_numbers) (defBody s_Staff_numbers) (defScope s_Staff_numbers) [] [] (cA "Staff" "numbers" K) fd := c.def_ 17
  obtain ⟨fd_m_persons_of, F_m_persons_of⟩ : ∃ fd, FunD K "persons_of" "Staff.persons_of" (defArgs s_Staff_persons_of) (defBody s_Staff_persons_of) (defScope s_Staff_persons_of) [] [] (cA "Staff" "persons_of" K) fd := c.def_ 18
  obtain ⟨fd_m_fits_in, F_m_fits_in⟩ : ∃ fd, FunD K "fits_in" "Staff.fits_in" (defArgs s_Staff_fits_in) (defBody s_Staff_fits_in) (defScope s_Staff_fits_in) [] [] (cA "Staff" "fits_in" K) fd := c.def_ 19
  obtain ⟨fd_m_within, F_m_within⟩ : ∃ fd, FunD K "within" "Staff.within" (defArgs s_Staff_within) (defBody s_Staff_within) (defScope s_Staff_within) [] [] (cA "Staff" "within" K) fd := c.def_ 20
  obtain ⟨fd_m___add__, F_m___add__⟩ : ∃ fd, FunD K "__add__" "Staff.__add__" (defArgs s_Staff_add) (defBody s_Staff_add) (defScope s_Staff_add) [] [] (cA "Staff" "__add__" K) fd := c.def_ 21
  obtain ⟨fd_m___sub__, F_m___sub__⟩ : ∃ fd, FunD K "__sub__" "Staff.__sub__" (defArgs s_Staff_sub) (defBody s_Staff_sub) (defScope s_Staff_sub) [] [] (cA "Staff" "__sub__" K) fd := c.def_ 22
  obtain ⟨fd_m___or__, F_m___or__⟩ : ∃ fd, FunD K "__or__" "Staff.__or__" (defArgs s_Staff_or) (defBody s_Staff_or) (defScope s_Staff_or) [] [] (cA "Staff" "__or__" K) fd := c.def_ 23
  obtain ⟨fd_m___and__, F_m___and__⟩ : ∃ fd, FunD K "__and__" "Staff.__and__" (defArgs s_Staff_and) (defBody s_Staff_and) (defScope s_Staff_and) [] [] (cA "Staff" "__and__" K) fd := c.def_ 24
  obtain ⟨fd_m___eq__, F_m___eq__⟩ : ∃ fd, FunD K "__eq__" "Staff.__eq__" (defArgs s_Staff_eq) (defBody s_Staff_eq) (defScope s_Staff_eq) [] [] (cA "Staff" "__eq__" K) fd := c.def_ 25
  obtain ⟨fd_m___init__, F_m___init__⟩ : ∃ fd, FunD K "__init__" "Staff.__init__" (defArgs s_Staff_init) (defBody s_Staff_init) (defScope s_Staff_init) [] [] (cA "Staff" "__init__" K) fd := c.def_ 26
  obtain ⟨fd_m_of, F_m_of⟩ : ∃ fd, FunD K "of" "Staff.of" (defArgs s_Staff_of) (defBody s_Staff_of) (defScope s_Staff_of) [] [] (kmA "Staff" "of" K) fd := c.def_ 27
  have T : Nm K mg := ⟨sysB_ok (c.at_ 0), He.free_ok X G (c.at_ 20), He.free_ok X G (c.at_ 21), He.free_ok X G (c.at_ 22), He.free_ok X G (c.at_ 23), He.free_ok X G (c.at_ 24), He.free_ok X G (c.at_ 25), He.free_ok X G (c.at_ 26), He.free_ok X G (c.at_ 27), He.free_ok X G (c.at_ 28), He.free_ok X G (c.at_ 29), He.free_ok X G (c.at_ 30), He.free_ok X G (c.at_ 31), He.free_ok X G (c.at_ 32), He.free_ok X G (c.at_ 33), He.free_ok X G (c.at_ 34), He.free_ok X G (c.at_ 35), He.free_ok X G (c.at_ 36), let ⟨t, e⟩ := He.str_ok X G (c.at_ 38); ⟨_, e, t, rfl⟩, let ⟨t, e⟩ := He.int_ok X G (c.at_ 39); ⟨_, e, t, rfl⟩, let ⟨t, e⟩ := He.int_ok X G (c.at_ 40); ⟨_, e, t, rfl⟩⟩
  have e := hfa.symm.trans (He.glo_ok X G (c.at_ 17))
  cases e
  have SC : StC K (gA "Staff" K) := by
    obtain ⟨h1, h2⟩ := Bool.and_eq_true_iff.mp (c.at_ 44)
    obtain ⟨h3, h4⟩ := Bool.and_eq_true_iff.mp h2
    obtain ⟨h5, h6⟩ := Bool.and_eq_true_iff.mp h4
    obtain ⟨h7, h8⟩ := Bool.and_eq_true_iff.mp h6
    exact ⟨He.cls_ok (c.at_ 41), He.noat_ok (c.at_ 42), of_decide_eq_true h1, of_decide_eq_true h3, of_decide_eq_true h5, of_decide_eq_true h7, h8⟩
  have b := FunD.bindsA (ps := ["_law_script"]) F_law fun _ _ _ _ _ _ us hl => match us, hl with | [_], _ => rfl
  refine ⟨fd_law, fun s v => b s [v] rfl, fun base _ _ => ?_⟩
  have L : LawC PR w K mg base (gA "Staff" K) (gA "TooFew" K) := by
    have S_TooFew : ExcG PR w K mg base (gA "TooFew" K) "TooFew" "kind" := by
      obtain ⟨fd_x, S_x, ⟨kV, doc, pm, an, cdv, ct, cc, e_x⟩, iC, tI⟩ := supEA_ok (P := PR) (x := "TooFew") (flds := ["kind"]) (B := "OverflowError") (initId := "OverflowError.__init__") (d := dSup0) rfl rfl (cc0.sup 0) (c.at_ 59)
      have O_x := oexEA_ok (c.at_ 58)
      exact ⟨⟨_, _, _, _, bOverflow, O_x⟩, ⟨_, fd_x, "kind", iC, tI, okSup0 S_x O_x, by
        rw [e_x]
        exact .all fun us hl => match us, hl with | [_, _], _ => rfl⟩, He.glo_ok X G (c.at_ 19)⟩
    have XX := excX_ok (c.at_ 57)
    have gS := He.glo_ok X G (c.at_ 18)
    have C_is_word : Own PR w K mg base CX0 1 "is_word" ["value"] (spWord K) := ⟨⟨_, _, ok_is_word T F_is_word, He.glo_ok X G (c.at_ 1), F_is_word.kp, F_is_word.bindsN fun _ _ _ _ _ _ us hl => match us, hl with | [_], _ => rfl⟩⟩
    have C_is_integer : Own PR w K mg base CX0 1 "is_integer" ["value"] (spInt K) := ⟨⟨_, _, ok_is_integer T F_is_integer, He.glo_ok X G (c.at_ 2), F_is_integer.kp, F_is_integer.bindsN fun _ _ _ _ _ _ us hl => match us, hl with | [_], _ => rfl⟩⟩
    have C_is_within : Own PR w K mg base CX0 2 "is_within" ["value", "least", "most"] (spWithin K) := ⟨⟨_, _, ok_is_within T C_is_integer F_is_within, He.glo_ok X G (c.at_ 3), F_is_within.kp, F_is_within.bindsN fun _ _ _ _ _ _ us hl => match us, hl with | [_, _, _], _ => rfl⟩⟩
    have C_ascF : Own PR w K mg base CX0 1 "ascending" ["words"] (spAscF K) := ⟨⟨_, _, ok_ascF T F_ascending, He.glo_ok X G (c.at_ 4), F_ascending.kp, F_ascending.bindsN fun _ _ _ _ _ _ us hl => match us, hl with | [_], _ => rfl⟩⟩
    have C_valid_numbers : Own PR w K mg base CX0 3 "valid_numbers" ["numbers"] (spValid K) := ⟨⟨_, _, ok_valid T C_ascF C_is_word C_is_within F_valid_numbers, He.glo_ok X G (c.at_ 5), F_valid_numbers.kp, F_valid_numbers.bindsN fun _ _ _ _ _ _ us hl => match us, hl with | [_], _ => rfl⟩⟩
    have MS : MkR PR w K mg base CX0 4 (gA "Staff" K) (spSt K (gA "Staff" K)) := ⟨⟨_, He.mkr_ok (c.at_ 43), ok_sinit T SC C_valid_numbers F_m___init__⟩⟩
    have CR := fKm_ok (c.at_ 47)
    have OF : FnR PR w K mg base CX0 6 (kmA "Staff" "of" K) (spOf K (gA "Staff" K)) := fnR_of (ok_sof T MS F_m_of) (F_m_of.bindsN fun _ _ _ _ _ _ us hl => match us, hl with | [_, _], _ => rfl)
    have M_persons_of : Mth PR w K mg base CX0 1 (gA "Staff" K) "persons_of" ["self", "kind"] [] (spPers K (gA "Staff" K)) := ⟨⟨_, _, [], He.meth_ok (c.at_ 49), ok_spersons_of T SC F_m_persons_of, F_m_persons_of.bindsN fun _ _ _ _ _ _ us hl => match us, hl with | [_, _], _ => rfl, .nil⟩, SC.cl⟩
    have M_numbers : Mth PR w K mg base CX0 1 (gA "Staff" K) "numbers" ["self"] [] (spNums K (gA "Staff" K)) := ⟨⟨_, _, [], He.meth_ok (c.at_ 48), ok_snumbers T SC F_m_numbers, F_m_numbers.bindsN fun _ _ _ _ _ _ us hl => match us, hl with | [_], _ => rfl, .nil⟩, SC.cl⟩
    have M_fits_in : Mth PR w K mg base CX0 2 (gA "Staff" K) "fits_in" ["self", "other"] [] (spFits K (gA "Staff" K)) := ⟨⟨_, _, [], He.meth_ok (c.at_ 50), ok_sfits_in T SC M_persons_of F_m_fits_in, F_m_fits_in.bindsN fun _ _ _ _ _ _ us hl => match us, hl with | [_, _], _ => rfl, .nil⟩, SC.cl⟩
    have MK_fits_in : MthK PR w K mg base CX0 2 (gA "Staff" K) "fits_in" ["self", "other"] ["other"] (spFits K (gA "Staff" K)) := ⟨⟨_, _, _, He.meth_ok (c.at_ 50), ok_sfits_in T SC M_persons_of F_m_fits_in, kbindsN F_m_fits_in 1 ["other"] fun _ _ _ _ _ _ us ws l1 l2 => match us, ws, l1, l2 with | [_], [_], _, _ => rfl⟩, SC.cl⟩
    have MK_within : MthK PR w K mg base CX0 2 (gA "Staff" K) "within" ["self", "limits"] ["limits"] (spWithinS K (gA "Staff" K)) := ⟨⟨_, _, _, He.meth_ok (c.at_ 51), ok_swithin T SC M_persons_of F_m_within, kbindsN F_m_within 1 ["limits"] fun _ _ _ _ _ _ us ws l1 l2 => match us, ws, l1, l2 with | [_], [_], _, _ => rfl⟩, SC.cl⟩
    have C_staff_with : Own PR w K mg base CX0 6 "staff_with" ["numbers"] (spWithS K (gA "Staff" K)) := ⟨⟨_, _, ok_sstaff_with T MS gS F_staff_with, He.glo_ok X G (c.at_ 8), F_staff_with.kp, F_staff_with.bindsN fun _ _ _ _ _ _ us hl => match us, hl with | [_], _ => rfl⟩⟩
    have C_greater : Own PR w K mg base CX0 1 "greater" ["one", "other"] spGgreater := ⟨⟨_, _, ok_sgreater T F_greater, He.glo_ok X G (c.at_ 6), F_greater.kp, F_greater.bindsN fun _ _ _ _ _ _ us hl => match us, hl with | [_, _], _ => rfl⟩⟩
    have C_smaller : Own PR w K mg base CX0 1 "smaller" ["one", "other"] spGsmaller := ⟨⟨_, _, ok_ssmaller T F_smaller, He.glo_ok X G (c.at_ 7), F_smaller.kp, F_smaller.bindsN fun _ _ _ _ _ _ us hl => match us, hl with | [_, _], _ => rfl⟩⟩
    have me_add := He.meth_ok (c.at_ 52)
    have O_add : OpS PR w K mg base CX0 (gA "Staff" K) "__add__" (spSAdd K (gA "Staff" K)) := ⟨⟨_, _, ok_sadd T SC M_persons_of C_staff_with F_m___add__, me_add.at_, me_add.fn, F_m___add__.bindsN fun _ _ _ _ _ _ us hl => match us, hl with | [_, _], _ => rfl⟩⟩
    have me_or := He.meth_ok (c.at_ 54)
    have O_or : OpS PR w K mg base CX0 (gA "Staff" K) "__or__" (spSOr K (gA "Staff" K)) := ⟨⟨_, _, ok_sor T SC M_persons_of C_staff_with C_greater F_m___or__, me_or.at_, me_or.fn, F_m___or__.bindsN fun _ _ _ _ _ _ us hl => match us, hl with | [_, _], _ => rfl⟩⟩
    have me_and := He.meth_ok (c.at_ 55)
    have O_and : OpS PR w K mg base CX0 (gA "Staff" K) "__and__" (spSAnd K (gA "Staff" K)) := ⟨⟨_, _, ok_sand T SC M_persons_of C_staff_with C_smaller F_m___and__, me_and.at_, me_and.fn, F_m___and__.bindsN fun _ _ _ _ _ _ us hl => match us, hl with | [_, _], _ => rfl⟩⟩
    have me_sub := He.meth_ok (c.at_ 53)
    have O_sub : OpS PR w K mg base (L2.CX PR w) (gA "Staff" K) "__sub__" (spSSub K (gA "Staff" K) (gA "TooFew" K)) := ⟨⟨_, _, ok_ssub T SC M_persons_of C_staff_with S_TooFew F_m___sub__, me_sub.at_, me_sub.fn, F_m___sub__.bindsN fun _ _ _ _ _ _ us hl => match us, hl with | [_, _], _ => rfl⟩⟩
    have me_eq := He.meth_ok (c.at_ 56)
    have EQ : EqS PR w K mg base (gA "Staff" K) (spSEq K (gA "Staff" K)) := ⟨⟨_, _, ok_seq T SC gS F_m___eq__, me_eq.at_, me_eq.fn, F_m___eq__.bindsN fun _ _ _ _ _ _ us hl => match us, hl with | [_, _], _ => rfl⟩, of_decide_eq_true (c.at_ 45), SC.hm⟩
    have C_law_pen : Own PR w K mg base CX0 1 "_law_pen" ["_law_script"] (spPen K) := ⟨⟨_, _, ok_pen T F_law_pen, He.glo_ok X G (c.at_ 9), F_law_pen.kp, F_law_pen.bindsN fun _ _ _ _ _ _ us hl => match us, hl with | [_], _ => rfl⟩⟩
    have C_law_draw : Own PR w K mg base CX0 1 "_law_draw" ["_law_pen_here", "_law_size"] (spDraw K) := ⟨⟨_, _, ok_draw T F_law_draw, He.glo_ok X G (c.at_ 10), F_law_draw.kp, F_law_draw.bindsN fun _ _ _ _ _ _ us hl => match us, hl with | [_, _], _ => rfl⟩⟩
    have C_law_pick : Own PR w K mg base CX0 2 "_law_pick" ["_law_pen_here", "_law_items"] (spPick K) := ⟨⟨_, _, ok_pick T C_law_draw F_law_pick, He.glo_ok X G (c.at_ 11), F_law_pick.kp, F_law_pick.bindsN fun _ _ _ _ _ _ us hl => match us, hl with | [_, _], _ => rfl⟩⟩
    have C_law_words : Own PR w K mg base CX0 3 "_law_words" ["_law_pen_here", "_law_count"] (spWords K) := ⟨⟨_, _, ok_words T C_law_draw C_law_pick F_law_words, He.glo_ok X G (c.at_ 12), F_law_words.kp, F_law_words.bindsN fun _ _ _ _ _ _ us hl => match us, hl with | [_, _], _ => rfl⟩⟩
    have C_law_staff : Own PR w K mg base CX0 3 "_law_staff" ["_law_pen_here", "_law_words_here"] (spStaff K) := ⟨⟨_, _, ok_staff T C_law_draw C_law_pick F_law_staff, He.glo_ok X G (c.at_ 13), F_law_staff.kp, F_law_staff.bindsN fun _ _ _ _ _ _ us hl => match us, hl with | [_, _], _ => rfl⟩⟩
    have C_law_plain : Own PR w K mg base CX0 1 "_law_plain" ["_law_numbers"] (spPlain K) := ⟨⟨_, _, ok_plain T F_law_plain, He.glo_ok X G (c.at_ 15), F_law_plain.kp, F_law_plain.bindsN fun _ _ _ _ _ _ us hl => match us, hl with | [_], _ => rfl⟩⟩
    have C_law_within : Own PR w K mg base CX0 1 "_law_within" ["_law_mine", "_law_caps"] (spLWithin K) := ⟨⟨_, _, ok_lwithin T F_law_within, He.glo_ok X G (c.at_ 16), F_law_within.kp, F_law_within.bindsN fun _ _ _ _ _ _ us hl => match us, hl with | [_, _], _ => rfl⟩⟩
    have C_law_less : Own PR w K mg base CX0 9 "_law_less" ["_law_one", "_law_second"] (spLess K (gA "Staff" K)) := ⟨⟨_, _, ok_less T (He.free_ok X G (c.at_ 37)) S_TooFew XX.2 XX.1 (of_decide_eq_true (c.at_ 60)) (of_decide_eq_true (c.at_ 62)) (of_decide_eq_true (c.at_ 61)) M_numbers O_sub (c.at_ 46) F_law_less, He.glo_ok X G (c.at_ 14), F_law_less.kp, F_law_less.bindsN fun _ _ _ _ _ _ us hl => match us, hl with | [_, _], _ => rfl⟩⟩
    exact ⟨C_law_pen, C_law_draw, C_law_pick, C_law_words, C_law_staff, C_law_plain, C_law_within, C_law_less, gS, SC, ⟨_, CR.1, _, _, CR.2, OF⟩, M_numbers, M_fits_in, MK_fits_in, MK_within, O_add, O_or, O_and, O_sub, c.at_ 46, EQ⟩
  exact ok_law T L F_law
end LW
open PySem PySem.W PySem.Calls PyProof.Rows
theorem PySem.Challenge.cw_fewhands_k02_whole_staffs_as_numbers_holds : PySem.Challenge.rw_fewhands_k02_whole_staffs_as_numbers.Holds := by
  w_on; o_law
  refine HandSHeadRun.head_any (r := OpenLaw.row PySem.Challenge.rw_fewhands_k02_whole_staffs_as_numbers) (q := view (OpenLaw.row PySem.Challenge.rw_fewhands_k02_whole_staffs_as_numbers).prog [27]) (H := LW.hk) (ob := Ys.obRT 3000 LW.fb LW.fn LW.fc LW.ts) (M := 14000) (loose := LW.loose) (d := HandSHeadRun.topDef (OpenLaw.row PySem.Challenge.rw_fewhands_k02_whole_staffs_as_numbers).prog 27) (kwd := []) Ys.obRT_eq
    (by kernel_rfl) (fun s => by kernel_rfl) LW.run (by kernel_rfl) (by kernel_rfl) (by kernel_rfl) (by rfl) (by first | assumption | decide +kernel) (by decide +kernel) ⟨rfl, rfl, rfl, rfl, rfl, by decide +kernel⟩ ?hw ?hc
  case hw => w_witness2
  case hc =>
    refine Ys.walk_ofG (l := PySem.Challenge.rw_fewhands_k02_whole_staffs_as_numbers) (n := 63) (k := 12) (x := "_law_script") (CX := fun _ => L2.CX0) rfl (by decide) (by kernel_rfl) ⟨rfl, by decide, by decide⟩ ?F (fun _ _ _ _ _ z => z)
    intro w mg fa h Y G hmg0
    obtain ⟨K, KX, c⟩ := Y
    have hmg : mg ("law" : PySem.Str) = some (.ref fa) := by
      have e : (HandSHeadRun.topDef (OpenLaw.row PySem.Challenge.rw_fewhands_k02_whole_staffs_as_numbers).prog 27).name = ("law" : PySem.Str) := by kernel_rfl
      rw [← e]
      exact hmg0
    obtain ⟨fd, hb, hF⟩ := LW.facts (w := w) KX G hmg c
    exact ⟨K, fd, LW.spLaw K, KX, hb, fun H a ns hl _ hS => ⟨a, ns, rfl, hS, hl, fun _ => rfl⟩, hF⟩
