import PyProof.Rows.All
import Wide.All
import OpenK.AllK
import Wide.FinOn
import HandS.ForMost
import HandS.SetTxt0
import HandS.Set
import HandS.SetFor
import HandS.Strs
import HandS.More
import PyProof.ReprRoads
import PyProof.CallFns
import KE.KStateDown
import HandS.Defaults
import HandS.Head0
import HandS.Head1
import HandS.Head2
import HandS.HeadEnd
import HandS.HeadHook1
import HandS.HeadHook2
import HandS.Conv
import HandS.TupAny
import HandS.Wide
import HandS.Flow
import HandS.NoneIn
import HandS.IsInst
import HandS.Text
import HandS.Property
import HandS.OwnEq
import HandS.MakeKwOnly
import HandS.MakeKw
import KE.KExcSuper
import KE.RegKSuper
import HandS.Exc
import HandS.ExcInit
import HandS.ExcField
import HandS.ExcIs
import HandS.ExcSuper
import KE.KIsAll
import KE.KTryMore
import HandS.WordsExc
import HandS.RaiseMore
import HandS.ExcOwn
import KE.KExcPX
import HandS.ExcValue
import HandS.Star
import HandS.Style
import HandS.AnyAll
import HandS.HeadHook3
import PyProof.AutoSeq1
import PyProof.Rows.ExtendIn
import HandS.TupSets
import HandS.Dict
import HandS.DictComp
import HandS.Iter
import HandS.WordsDict
import HandS.DictEq
import HandS.DeepEq
import KE.KDictSum
import PyProof.TupleOfSeq
import PyProof.P3In
import PySem.Challenge.RW_fewhands_k07_books_made
import HandS.Deep
import HandS.Finally
import HandS.CallSlots
set_option Elab.async false
set_option linter.all false
set_option maxRecDepth 100000
set_option maxHeartbeats 4000000
namespace Ys
open PySem PySem.Spec PyProof.Rows L2
def sysB (K : PySem.W.Frag) : Bool := match K.lookup sysModules with
  | some o => o.cls == .type "dict"
  | none => false
structure DefY where
  ad : PySem.W.Frag → Addr
  name : Str
  qual : Str
  params : Arguments
  body : List Stmt
  scope : Scope
  dfl : List He.Dv := []
  kwd : List (Str × He.Dv) := []
def fnY (K : PySem.W.Frag) (a : Addr) : He.FnW := (K.lookup a).bind fun o => match o.data with
  | .func fd => some (fd.name, fd.qualname, fd.params, fd.body, fd.scope, fd.globals, fd.closure, fd.builtins)
  | _ => none
def DefY.val (d : DefY) : He.FnW := some (d.name, d.qual, d.params, .stmts d.body, d.scope, mainGlobals, [], builtinsNs)
def DefY.dvs (K : PySem.W.Frag) (d : DefY) : List V := d.dfl.map (He.Dv.v K)
def DefY.kws (K : PySem.W.Frag) (d : DefY) : List (Str × V) := d.kwd.map fun q => (q.1, q.2.v K)
def DefY.ok (K : PySem.W.Frag) (d : DefY) : Bool := PySem.W.keepIn K (.ref (d.ad K)) && ((K.lookup (d.ad K)).elim false fun o => match o.data with
  | .func fd => PySem.W.codeIn K fd.code d.qual && (He.dflB K fd.defaults (d.dvs K) && He.kwdB K fd.kwdefaults (d.kws K))
  | _ => false)
def obsZ (fb : List (PySem.W.Frag → Bool)) (fn : List DefY) (K : PySem.W.Frag) : He.AlD := ((fb.all fun f => f K) && fn.all fun d => d.ok K, fn.map fun d => fnY K (d.ad K))
def valZ (fn : List DefY) : He.AlD := (true, fn.map DefY.val)
def SaysZ (fb : List (PySem.W.Frag → Bool)) (fn : List DefY) (K : PySem.W.Frag) : Prop := obsZ fb fn K = valZ fn
def frZ (n : Nat) (g : Addr → Option Obj) : PySem.W.Frag := He.frG g (sysModules :: He.asD g n)
def hookZ (n : Nat) (fb : List (PySem.W.Frag → Bool)) (fn : List DefY) : PySem.W.Hook where
  α := He.AlD
  obs := fun s => obsZ fb fn (frZ n s.heap.get?)
  val := fun _ => valZ fn
  says := fun _ h => ∃ K : PySem.W.Frag, K.In h ∧ SaysZ fb fn K
  of := fun _ _ e => ⟨_, He.frG_in, e⟩
  keeps := fun _ _ _ ⟨K, hK, c⟩ k => ⟨K, PySem.W.Frag.In.keeps hK k, c⟩
def obZ (n : Nat) (fb : List (PySem.W.Frag → Bool)) (fn : List DefY) (s : PySem.W.SharedT) : He.AlD := obsZ fb fn (frZ n (HandSHeadRun.getT s))
def gA (x : Str) (K : PySem.W.Frag) : Addr := He.ga K x
def cA (x m : Str) (K : PySem.W.Frag) : Addr := He.ma K (He.ga K x) m
def pA (x m : Str) (K : PySem.W.Frag) : Addr := match PySem.W.recIn K (cA x m K) "property" with
  | some (.ref g :: _) => g
  | _ => 0
def kA (x f m : Str) (K : PySem.W.Frag) : Addr := match K.lookup (cA x f K) with
  | some ⟨_, _, .func fd, _⟩ => (match fd.kwdefaults with
    | .ref D => (match PySem.W.nsIn K D m with
      | some (some (.ref a)) => a
      | _ => 0)
    | _ => 0)
  | _ => 0
def fProp (x m : Str) (K : PySem.W.Frag) : Bool := decide (PySem.W.findIn K (.ref (He.ga K x)) m = some (some (.ref (cA x m K)))) && (decide (PySem.W.specialIn K (.ref (cA x m K)) "__get__" = some (some (.builtin "property.__get__"))) &&
  (decide (PySem.W.takesIn K (.ref (cA x m K)) = some true) && (match PySem.W.recIn K (cA x m K) "property" with
    | some (.ref g :: _) => decide (g = pA x m K)
    | _ => false)))
def fTy (x : Str) (K : PySem.W.Frag) : Bool := decide (PySem.W.findIn K (.ref (He.ga K x)) "__class__" = some (some (.builtin "object.__class__"))) && (decide (PySem.W.specialIn K (.builtin "object.__class__") "__get__" = some (some (.builtin "getset_descriptor.__get__"))) &&
  (decide (PySem.W.takesIn K (.builtin "object.__class__") = some true) && (decide (PySem.W.mroIn K (He.ga K x) (.type "object") = some true) && ((PySem.W.clsIn K (He.ga K x)).isSome && PySem.W.typeIn K (.ref (He.ga K x)) == some (.type "type")))))
def fNe (x : Str) (K : PySem.W.Frag) : Bool := decide (PySem.W.findIn K (.ref (He.ga K x)) "__ne__" = some (some (.builtin "object.__ne__")))
def fNil (a : PySem.W.Frag → Addr) (K : PySem.W.Frag) : Bool := match K.lookup (a K) with
  | some ⟨.type c, _, .seq its _, _⟩ => decide (c = "tuple") && decide (its.size = 0)
  | _ => false
def fnC (K : PySem.W.Frag) (a : Addr) : He.FnW := (K.lookup a).bind fun o => match o.data with
  | .func g => some (g.name, g.qualname, g.params, g.body, g.scope, g.globals, [], g.builtins)
  | _ => none
def obsC (fb : List (PySem.W.Frag → Bool)) (fn fc : List DefY) (K : PySem.W.Frag) : He.AlD := ((fb.all fun f => f K) && fn.all fun d => d.ok K, (fn.map fun d => fnY K (d.ad K)) ++ fc.map fun d => fnC K (d.ad K))
def valC (fn fc : List DefY) : He.AlD := (true, fn.map DefY.val ++ fc.map DefY.val)
def SaysC (fb : List (PySem.W.Frag → Bool)) (fn fc : List DefY) (K : PySem.W.Frag) : Prop := obsC fb fn fc K = valC fn fc
def frC (n : Nat) (g : Addr → Option Obj) : PySem.W.Frag := He.frG g (cStatics :: sysModules :: He.asD g n)
def hookC (n : Nat) (fb : List (PySem.W.Frag → Bool)) (fn fc : List DefY) : PySem.W.Hook where
  α := He.AlD
  val := fun _ => valC fn fc
  obs := fun t => obsC fb fn fc (frC n t.heap.get?)
  says := fun _ h => ∃ K : PySem.W.Frag, K.In h ∧ SaysC fb fn fc K
  keeps := fun _ _ _ ⟨K, i, c⟩ k => ⟨K, i.keeps k, c⟩
  of := fun _ _ e => ⟨_, He.frG_in, e⟩
def obC (n : Nat) (fb : List (PySem.W.Frag → Bool)) (fn fc : List DefY) (s : PySem.W.SharedT) : He.AlD := obsC fb fn fc (frC n (HandSHeadRun.getT s))
def oexB (K : PySem.W.Frag) (C : Addr) : Bool := match K.lookup C with
  | some ⟨.type t, _, .cls c, sl⟩ => (match c.mro, sl.toList with
    | .ref D :: bm, [_, _, _, _, some (.builtin m), _] => (decide (t = "type") && (decide (D = C) && decide (m = "ValueError.__new__"))) && (PySem.HandSPX.refsVE bm && (c.hasDict && !c.hasDel))
    | _, _ => false)
  | _ => false
def oexA (x : Str) (K : PySem.W.Frag) : Bool := oexB K (He.ga K x) && (decide (PySem.W.findIn K (.ref (He.ga K x)) "__setattr__" = some (some (.builtin "object.__setattr__"))) && (decide (PySem.W.subIn K (.ref (He.ga K x)) (.type "BaseException") = some true) &&
  (decide (PySem.W.typeIn K (.ref (He.ga K x)) = some (.type "type")) && PySem.W.keepIn K (.ref (He.ga K x)))))
def excA (x fld : Str) (K : PySem.W.Frag) : Bool := xfB K (He.ga K x) && (decide (PySem.W.findIn K (.ref (He.ga K x)) "__class__" = some (some (.builtin "object.__class__"))) && (decide (PySem.W.specialIn K (.builtin "object.__class__") "__get__" = some (some (.builtin "getset_descriptor.__get__"))) &&
  (decide (PySem.W.takesIn K (.builtin "object.__class__") = some true) && (decide (PySem.W.mroIn K (He.ga K x) (.type "object") = some true) && (decide (PySem.W.findIn K (.ref (He.ga K x)) fld = some none) &&
  (decide (PySem.W.exmOne K (.ref (He.ga K x)) (.ref (He.ga K x)) = some true) && decide (PySem.W.kitOne K (.ref (He.ga K x)) (.type "ValueError") = some true)))))))
def fileB (K : PySem.W.Frag) (cd : Value) (file : Str) : Bool := match cd with
  | .ref a => (match K.lookup a with
    | some ⟨_, _, .fields vs, _⟩ => (match (vs[2]? : Option Value) with
      | some (.str z _) => file == z
      | _ => false)
    | _ => false)
  | _ => false
def cloB (K : PySem.W.Frag) (clo : List (Str × Addr)) (C : Addr) : Bool := match clo with
  | [(n, c)] => decide (n = "__class__") && (match K.lookup c with
    | some ⟨_, _, .cell (some (.ref D)), _⟩ => decide (D = C)
    | _ => false)
  | _ => false
def supA (x qual fld file : Str) (K : PySem.W.Frag) : Bool := (match K.lookup (cA x "__init__" K) with
    | some ⟨_, _, .func g, _⟩ => PySem.W.codeIn K g.code qual && (fileB K g.code file && (cloB K g.closure (gA x K) && decide (g.defaults = .none)))
    | _ => false) &&
  (decide (PySem.W.ks_superIn K (gA x K) (gA x K) "__init__" = some (some (.builtin "ValueError.__init__"))) && (decide (PySem.W.subIn K (.ref (gA x K)) (.type "ValueError") = some true) && (decide (PySem.W.nsIn K cStatics "thirdparty.any" = some none) &&
  (decide (PySem.W.nsIn K mainGlobals "super" = some none) && (decide (PySem.W.findIn K (.ref (gA x K)) fld = some none) && (decide (PySem.W.mroIn K (gA x K) (.ref (gA x K)) = some true) &&
  (decide (PySem.W.findIn K (.ref (gA x K)) "__init__" = some (some (.ref (cA x "__init__" K)))) && decide (PySem.W.typeIn K (.ref (cA x "__init__" K)) = some (.type "function")))))))))
abbrev AlCT : Type := He.AlD × List (Option (List (Option (Str × Int))))
def obsCT (fb : List (PySem.W.Frag → Bool)) (fn fc : List DefY) (ts : List He.Tab) (K : PySem.W.Frag) : AlCT := (obsC fb fn fc K, ts.map fun t => He.dicW K (t.1 K))
def valCT (fn fc : List DefY) (ts : List He.Tab) (w : World) : AlCT := (valC fn fc, ts.map fun t => some (He.keysIn w.params t.2))
def SaysCT (fb : List (PySem.W.Frag → Bool)) (fn fc : List DefY) (ts : List He.Tab) (w : World) (K : PySem.W.Frag) : Prop := obsCT fb fn fc ts K = valCT fn fc ts w
def hookCT (n : Nat) (fb : List (PySem.W.Frag → Bool)) (fn fc : List DefY) (ts : List He.Tab) : PySem.W.Hook where
  α := AlCT
  val := fun w => valCT fn fc ts w
  obs := fun t => obsCT fb fn fc ts (frC n t.heap.get?)
  says := fun w h => ∃ K : PySem.W.Frag, K.In h ∧ SaysCT fb fn fc ts w K
  keeps := fun _ _ _ ⟨K, i, c⟩ k => ⟨K, i.keeps k, c⟩
  of := fun _ _ e => ⟨_, He.frG_in, e⟩
def obCT (n : Nat) (fb : List (PySem.W.Frag → Bool)) (fn fc : List DefY) (ts : List He.Tab) (s : PySem.W.SharedT) : AlCT := obsCT fb fn fc ts (frC n (HandSHeadRun.getT s))
def valsV (kvs : List (Str × V)) (a : PySem.W.Frag → Addr) (K : PySem.W.Frag) : Bool := kvs.all fun q => match PySem.W.nsIn K (a K) q.1 with
  | some (some u) => He.relB q.2 u
  | _ => false
def frR (n : Nat) (g : Addr → Option Obj) : PySem.W.Frag := He.frG g (List.range n)
def hookRT (n : Nat) (fb : List (PySem.W.Frag → Bool)) (fn fc : List DefY) (ts : List He.Tab) : PySem.W.Hook where
  α := AlCT
  val := fun w => valCT fn fc ts w
  obs := fun t => obsCT fb fn fc ts (frR n t.heap.get?)
  says := fun w h => ∃ K : PySem.W.Frag, K.In h ∧ SaysCT fb fn fc ts w K
  keeps := fun _ _ _ ⟨K, i, c⟩ k => ⟨K, i.keeps k, c⟩
  of := fun _ _ e => ⟨_, He.frG_in, e⟩
def obRT (n : Nat) (fb : List (PySem.W.Frag → Bool)) (fn fc : List DefY) (ts : List He.Tab) (s : PySem.W.SharedT) : AlCT := obsCT fb fn fc ts (frR n (HandSHeadRun.getT s))
def oexEB (K : PySem.W.Frag) (C : Addr) (newId : String) (tl : List Value) : Bool := match K.lookup C with
  | some ⟨.type t, _, .cls c, sl⟩ => (match c.mro, sl.toList with
    | .ref D :: bm, [_, _, _, _, some (.builtin m), _] => (decide (t = "type") && (decide (D = C) && decide (m = newId))) && (bm == tl && (c.hasDict && !c.hasDel))
    | _, _ => false)
  | _ => false
def oexEA (x : Str) (newId : String) (tl : List Value) (K : PySem.W.Frag) : Bool := oexEB K (gA x K) newId tl && (decide (PySem.W.findIn K (.ref (gA x K)) "__setattr__" = some (some (.builtin "object.__setattr__"))) && (decide (PySem.W.subIn K (.ref (gA x K)) (.type "BaseException") = some true) &&
  (decide (PySem.W.typeIn K (.ref (gA x K)) = some (.type "type")) && PySem.W.keepIn K (.ref (gA x K)))))
def excX (x : Str) (K : PySem.W.Frag) : Bool := xfB K (gA x K) && (decide (PySem.W.findIn K (.ref (gA x K)) "__class__" = some (some (.builtin "object.__class__"))) && (decide (PySem.W.specialIn K (.builtin "object.__class__") "__get__" = some (some (.builtin "getset_descriptor.__get__"))) &&
  (decide (PySem.W.takesIn K (.builtin "object.__class__") = some true) && decide (PySem.W.mroIn K (gA x K) (.type "object") = some true))))
def supEA (x qual : Str) (flds : List Str) (B initId : String) (file : Str) (K : PySem.W.Frag) : Bool := (match K.lookup (cA x "__init__" K) with
    | some ⟨_, _, .func g, _⟩ => PySem.W.codeIn K g.code qual && (fileB K g.code file && (cloB K g.closure (gA x K) && decide (g.defaults = .none)))
    | _ => false) &&
  (decide (PySem.W.ks_superIn K (gA x K) (gA x K) "__init__" = some (some (.builtin initId))) && (decide (PySem.W.subIn K (.ref (gA x K)) (.type B) = some true) && (decide (PySem.W.nsIn K cStatics "thirdparty.any" = some none) &&
  (decide (PySem.W.nsIn K mainGlobals "super" = some none) && ((flds.all fun f => decide (PySem.W.findIn K (.ref (gA x K)) f = some none)) && (decide (PySem.W.mroIn K (gA x K) (.ref (gA x K)) = some true) &&
  (decide (PySem.W.findIn K (.ref (gA x K)) "__init__" = some (some (.ref (cA x "__init__" K)))) && decide (PySem.W.typeIn K (.ref (cA x "__init__" K)) = some (.type "function")))))))))
def sA (x m : Str) (K : PySem.W.Frag) : Addr := match PySem.W.recIn K (cA x m K) "property" with
  | some (_ :: .ref g :: _) => g
  | _ => 0
def fPset (x m : Str) (K : PySem.W.Frag) : Bool := decide (PySem.W.takerIn K (He.ga K x) m = some (some (.ref (cA x m K)))) && (decide (PySem.W.typeIn K (.ref (cA x m K)) = some (.type "property")) &&
  (match PySem.W.recIn K (cA x m K) "property" with
    | some (_ :: .ref g :: _) => decide (g = sA x m K)
    | _ => false))
def fFn (x m : Str) (K : PySem.W.Frag) : Bool := PySem.W.fnIn K (cA x m K)
end Ys
namespace LW
open PySem PySem.Spec PyProof.Rows L2 Ys
abbrev P0 : Program := PySem.Challenge.pw_fewhands_k07_books_made
def top (i : Nat) : Stmt := P0.main.body.getD i (.Pass ⟨0, 0, 0, 0⟩)
def inner : Stmt → Nat → Stmt
  | .ClassDef _ _ _ body _ _ _ _ _ _ _, j => (body.filter fun y => match y with | .FunctionDef .. => true | _ => false).getD j (.Pass ⟨0, 0, 0, 0⟩)
  | s, _ => s
abbrev s_wall : Stmt := top 0
abbrev s_is_word : Stmt := top 22
abbrev s_is_integer : Stmt := top 23
abbrev s_is_within : Stmt := top 24
abbrev s_is_list : Stmt := top 25
abbrev s_are_words : Stmt := top 26
abbrev s_are_different_words : Stmt := top 27
abbrev s_ascending : Stmt := top 28
abbrev s_is_formed : Stmt := top 33
abbrev s_wrong_part : Stmt := top 34
abbrev s_sequence : Stmt := top 35
abbrev s_alongside : Stmt := top 36
abbrev s_normal_form : Stmt := top 37
abbrev s_normal : Stmt := top 38
abbrev s_name_list : Stmt := top 39
abbrev s_names_in : Stmt := top 40
abbrev s_plan_text : Stmt := top 41
abbrev s_PlanReader_init : Stmt := (inner (top 42) 0)
abbrev s_PlanReader_sign : Stmt := (inner (top 42) 1)
abbrev s_PlanReader_mark : Stmt := (inner (top 42) 2)
abbrev s_PlanReader_word : Stmt := (inner (top 42) 3)
abbrev s_PlanReader_begin : Stmt := (inner (top 42) 4)
abbrev s_PlanReader_close : Stmt := (inner (top 42) 5)
abbrev s_PlanReader_go_on : Stmt := (inner (top 42) 6)
abbrev s_PlanReader_whole : Stmt := (inner (top 42) 7)
abbrev s_read_plan : Stmt := top 43
abbrev s_Task_init : Stmt := (inner (top 45) 0)
abbrev s_Task_role : Stmt := (inner (top 45) 1)
abbrev s_Task_many : Stmt := (inner (top 45) 2)
abbrev s_Task_other : Stmt := (inner (top 45) 3)
abbrev s_Task_same : Stmt := (inner (top 45) 4)
abbrev s_Task_takes : Stmt := (inner (top 45) 5)
abbrev s_Task_forgets : Stmt := (inner (top 45) 6)
abbrev s_Task_likeness : Stmt := (inner (top 45) 7)
abbrev s_Task_eq : Stmt := (inner (top 45) 8)
abbrev s_remembered_in : Stmt := top 46
abbrev s_width_of : Stmt := top 47
abbrev s_need_tasks : Stmt := top 48
abbrev s_task_line : Stmt := top 49
abbrev s_is_ascending : Stmt := top 53
abbrev s_sections : Stmt := top 54
abbrev s_task_in : Stmt := top 55
abbrev s_kind_in : Stmt := top 56
abbrev s_count_in : Stmt := top 57
abbrev s_depth_in : Stmt := top 58
abbrev s_plan_in : Stmt := top 59
abbrev s_is_bounded : Stmt := top 60
abbrev s_is_next : Stmt := top 61
abbrev s_parts_of_book : Stmt := top 62
abbrev s_are_kinds : Stmt := top 64
abbrev s_are_tasks : Stmt := top 65
abbrev s_count_names : Stmt := top 66
abbrev s_levels_of : Stmt := top 67
abbrev s_plan_for : Stmt := top 68
abbrev s_in_order : Stmt := top 69
abbrev s_Book_init : Stmt := (inner (top 70) 0)
abbrev s_Book_read : Stmt := (inner (top 70) 1)
abbrev s_Book_kinds : Stmt := (inner (top 70) 2)
abbrev s_Book_names : Stmt := (inner (top 70) 3)
abbrev s_Book_remembered : Stmt := (inner (top 70) 4)
abbrev s_Book_width : Stmt := (inner (top 70) 5)
abbrev s_Book_plan : Stmt := (inner (top 70) 6)
abbrev s_Book_plan_set : Stmt := (inner (top 70) 7)
abbrev s_Book_set_plan : Stmt := (inner (top 70) 8)
abbrev s_Book_take : Stmt := (inner (top 70) 9)
abbrev s_Book_copied : Stmt := (inner (top 70) 10)
abbrev s_Book_text : Stmt := (inner (top 70) 11)
abbrev s_Book_changed : Stmt := (inner (top 70) 12)
abbrev s_Book_iter : Stmt := (inner (top 70) 13)
abbrev s_Book_len : Stmt := (inner (top 70) 14)
abbrev s_Book_contains : Stmt := (inner (top 70) 15)
abbrev s_Book_getitem : Stmt := (inner (top 70) 16)
abbrev s_Book_setitem : Stmt := (inner (top 70) 17)
abbrev s_Book_ior : Stmt := (inner (top 70) 18)
abbrev s_Book_add : Stmt := (inner (top 70) 19)
abbrev s_Book_or : Stmt := (inner (top 70) 20)
abbrev s_Book_eq : Stmt := (inner (top 70) 21)
abbrev s_joined : Stmt := top 71
abbrev s_law_pen : Stmt := top 73
abbrev s_law_draw : Stmt := top 74
abbrev s_law_pick : Stmt := top 75
abbrev s_law_shuffled : Stmt := top 76
abbrev s_law_words : Stmt := top 77
abbrev s_law_any_value : Stmt := top 78
abbrev s_law_task : Stmt := top 79
abbrev s_law_made_task : Stmt := top 80
abbrev s_law_shown : Stmt := top 81
abbrev s_law_remembered : Stmt := top 82
abbrev s_law_width : Stmt := top 83
abbrev s_law_plan : Stmt := top 84
abbrev s_law_normal : Stmt := top 85
abbrev s_law_count : Stmt := top 86
abbrev s_law_book : Stmt := top 87
abbrev s_law_item : Stmt := top 88
abbrev s_law : Stmt := top 89
def leastL : List (Str × V) := [("then", .int 0), ("either", .int 1), ("any", .int 1), ("again", .int 1), ("beside", .int 2)]
def mostL : List (Str × V) := [("then", .non), ("either", .non), ("any", .non), ("again", .int 1), ("beside", .int 2)]
abbrev PR : Program := (PySem.Challenge.rw_fewhands_k07_books_made).prog
abbrev s_x0 : Stmt := inner (top 5) 0
def dSup0 : DefY := ⟨cA "InvalidPlan" "__init__", "__init__", "InvalidPlan.__init__", defArgs s_x0, defBody s_x0, defScope s_x0, [], []⟩
abbrev s_x1 : Stmt := inner (top 9) 0
def dSup1 : DefY := ⟨cA "UnknownTask" "__init__", "__init__", "UnknownTask.__init__", defArgs s_x1, defBody s_x1, defScope s_x1, [], []⟩
def fb : List (PySem.W.Frag → Bool) := [sysB, fun K => He.Fa.ok K (.glo "is_word"), fun K => He.Fa.ok K (.glo "is_integer"), fun K => He.Fa.ok K (.glo "is_within"), fun K => He.Fa.ok K (.glo "is_list"), fun K => He.Fa.ok K (.glo "are_words"), fun K => He.Fa.ok K (.glo "are_different_words"), fun K => He.Fa.ok K (.glo "ascending"), fun K => He.Fa.ok K (.glo "is_formed"), fun K => He.Fa.ok K (.glo "wrong_part"), fun K => He.Fa.ok K (.glo "sequence"), fun K => He.Fa.ok K (.glo "alongside"), fun K => He.Fa.ok K (.glo "normal_form"), fun K => He.Fa.ok K (.glo "normal"), fun K => He.Fa.ok K (.glo "name_list"), fun K => He.Fa.ok K (.glo "names_in"), fun K => He.Fa.ok K (.glo "remembered_in"), fun K => He.Fa.ok K (.glo "width_of"), fun K => He.Fa.ok K (.glo "need_tasks"), fun K => He.Fa.ok K (.glo "are_kinds"), fun K => He.Fa.ok K (.glo "are_tasks"), fun K => He.Fa.ok K (.glo "count_names"), fun K => He.Fa.ok K (.glo "levels_of"), fun K => He.Fa.ok K (.glo "plan_for"), fun K => He.Fa.ok K (.glo "in_order"), fun K => He.Fa.ok K (.glo "_law_pen"), fun K => He.Fa.ok K (.glo "_law_draw"), fun K => He.Fa.ok K (.glo "_law_pick"), fun K => He.Fa.ok K (.glo "_law_shuffled"), fun K => He.Fa.ok K (.glo "_law_words"), fun K => He.Fa.ok K (.glo "_law_any_value"), fun K => He.Fa.ok K (.glo "_law_task"), fun K => He.Fa.ok K (.glo "_law_made_task"), fun K => He.Fa.ok K (.glo "_law_shown"), fun K => He.Fa.ok K (.glo "_law_remembered"), fun K => He.Fa.ok K (.glo "_law_width"), fun K => He.Fa.ok K (.glo "_law_plan"), fun K => He.Fa.ok K (.glo "_law_normal"), fun K => He.Fa.ok K (.glo "_law_count"), fun K => He.Fa.ok K (.glo "_law_book"), fun K => He.Fa.ok K (.glo "_law_item"), fun K => He.Fa.ok K (.glo "law"), fun K => He.Fa.ok K (.glo "InvalidPlan"), fun K => He.Fa.ok K (.glo "UnknownTask"), fun K => He.Fa.ok K (.glo "DONE"), fun K => He.Fa.ok K (.glo "LEAST"), fun K => He.Fa.ok K (.glo "MOST"), fun K => He.Fa.ok K (.glo "Task"), fun K => He.Fa.ok K (.glo "Book"), fun K => He.Fa.ok K (.free "len"), fun K => He.Fa.ok K (.free "int"), fun K => He.Fa.ok K (.free "list"), fun K => He.Fa.ok K (.free "tuple"), fun K => He.Fa.ok K (.free "set"), fun K => He.Fa.ok K (.free "dict"), fun K => He.Fa.ok K (.free "str"), fun K => He.Fa.ok K (.free "bool"), fun K => He.Fa.ok K (.free "sorted"), fun K => He.Fa.ok K (.free "min"), fun K => He.Fa.ok K (.free "max"), fun K => He.Fa.ok K (.free "sum"), fun K => He.Fa.ok K (.free "all"), fun K => He.Fa.ok K (.free "any"), fun K => He.Fa.ok K (.free "repr"), fun K => He.Fa.ok K (.free "range"), fun K => He.Fa.ok K (.free "isinstance"), fun K => He.Fa.ok K (.free "LookupError"), fun K => He.Fa.ok K (.str "LETTERS" "abcdefghijklmnopqrstuvwxyz"), fun K => He.Fa.ok K (.int "LONGEST_WORD" 8), fun K => He.Fa.ok K (.int "KINDS" 3), fun K => He.Fa.ok K (.int "ROLES" 4), fun K => He.Fa.ok K (.int "TASKS" 8), fun K => He.Fa.ok K (.int "REMEMBERED" 3), fun K => He.Fa.ok K (.int "WIDTH" 5), fun K => He.Fa.ok K (.int "MANY" 3), fun K => He.Fa.ok K (.int "NAMES" 16), fun K => He.Fa.ok K (.int "LEVELS" 5), fun K => He.tupB K "DONE" [.str "then"], valsV leastL (gA "LEAST"), valsV mostL (gA "MOST"), fun K => He.Fa.ok K (.cls "Task"), fun K => He.Fa.ok K (.cls "Book"), fun K => He.Fa.ok K (.noat "Task" "own_role"), fun K => He.Fa.ok K (.noat "Task" "own_many"), fun K => He.Fa.ok K (.noat "Task" "own_other"), fun K => He.Fa.ok K (.noat "Task" "own_same"), fun K => He.Fa.ok K (.noat "Task" "own_takes"), fun K => He.Fa.ok K (.noat "Task" "own_forgets"), fun K => He.Fa.ok K (.noat "Book" "own_plan"), fun K => He.Fa.ok K (.noat "Book" "own_kinds"), fun K => He.Fa.ok K (.noat "Book" "own_tasks"), fun K => He.Fa.ok K (.mkr "Task"), fun K => He.Fa.ok K (.mkr "Book"), fProp "Task" "role", fProp "Task" "many", fProp "Task" "other", fProp "Task" "same", fProp "Task" "takes", fProp "Task" "forgets", fTy "Task", fNil (kA "Task" "__init__" "other"), fNil (kA "Task" "__init__" "same"), fNil (kA "Task" "__init__" "takes"), fNil (kA "Task" "__init__" "forgets"), excA "InvalidPlan" "value", oexA "InvalidPlan", supA "InvalidPlan" "InvalidPlan.__init__" "value" PR.main.file, excX "UnknownTask", oexEA "UnknownTask" "LookupError.__new__" [.type "LookupError", .type "Exception", .type "BaseException", .type "object"], supEA "UnknownTask" "UnknownTask.__init__" ["value"] "LookupError" "LookupError.__init__" PR.main.file, fun K => decide (PySem.W.findIn K (.ref (gA "UnknownTask" K)) "value" = some none), fun K => decide (PySem.W.kitOne K (.ref (gA "UnknownTask" K)) (.type "LookupError") = some true), fun K => decide (PySem.W.exmOne K (.ref (gA "UnknownTask" K)) (.ref (gA "UnknownTask" K)) = some true), fTy "Book", fNe "Task", fNe "Book", fun K => He.Fa.ok K (.meth "Task" "likeness"), fun K => He.Fa.ok K (.meth "Task" "__eq__"), fun K => He.Fa.ok K (.meth "Book" "__eq__"), fun K => He.Fa.ok K (.meth "Book" "__getitem__"), fFn "Book" "__getitem__", fun K => He.Fa.ok K (.meth "Book" "copied"), fun K => He.Fa.ok K (.meth "Book" "__len__"), fun K => He.Fa.ok K (.meth "Book" "__contains__"), fProp "Book" "plan", fProp "Book" "kinds", fProp "Book" "names", fProp "Book" "remembered", fProp "Book" "width"]
def fn : List DefY := [⟨gA "is_word", "is_word", "is_word", defArgs s_is_word, defBody s_is_word, defScope s_is_word, [], []⟩, ⟨gA "is_integer", "is_integer", "is_integer", defArgs s_is_integer, defBody s_is_integer, defScope s_is_integer, [], []⟩, ⟨gA "is_within", "is_within", "is_within", defArgs s_is_within, defBody s_is_within, defScope s_is_within, [], []⟩, ⟨gA "is_list", "is_list", "is_list", defArgs s_is_list, defBody s_is_list, defScope s_is_list, [], []⟩, ⟨gA "are_words", "are_words", "are_words", defArgs s_are_words, defBody s_are_words, defScope s_are_words, [.non], []⟩, ⟨gA "are_different_words", "are_different_words", "are_different_words", defArgs s_are_different_words, defBody s_are_different_words, defScope s_are_different_words, [.non], []⟩, ⟨gA "ascending", "ascending", "ascending", defArgs s_ascending, defBody s_ascending, defScope s_ascending, [], []⟩, ⟨gA "is_formed", "is_formed", "is_formed", defArgs s_is_formed, defBody s_is_formed, defScope s_is_formed, [], []⟩, ⟨gA "wrong_part", "wrong_part", "wrong_part", defArgs s_wrong_part, defBody s_wrong_part, defScope s_wrong_part, [], []⟩, ⟨gA "sequence", "sequence", "sequence", defArgs s_sequence, defBody s_sequence, defScope s_sequence, [], []⟩, ⟨gA "alongside", "alongside", "alongside", defArgs s_alongside, defBody s_alongside, defScope s_alongside, [], []⟩, ⟨gA "normal_form", "normal_form", "normal_form", defArgs s_normal_form, defBody s_normal_form, defScope s_normal_form, [], []⟩, ⟨gA "normal", "normal", "normal", defArgs s_normal, defBody s_normal, defScope s_normal, [], []⟩, ⟨gA "name_list", "name_list", "name_list", defArgs s_name_list, defBody s_name_list, defScope s_name_list, [], []⟩, ⟨gA "names_in", "names_in", "names_in", defArgs s_names_in, defBody s_names_in, defScope s_names_in, [], []⟩, ⟨gA "remembered_in", "remembered_in", "remembered_in", defArgs s_remembered_in, defBody s_remembered_in, defScope s_remembered_in, [], []⟩, ⟨gA "width_of", "width_of", "width_of", defArgs s_width_of, defBody s_width_of, defScope s_width_of, [], []⟩, ⟨gA "need_tasks", "need_tasks", "need_tasks", defArgs s_need_tasks, defBody s_need_tasks, defScope s_need_tasks, [], []⟩, ⟨gA "are_kinds", "are_kinds", "are_kinds", defArgs s_are_kinds, defBody s_are_kinds, defScope s_are_kinds, [], []⟩, ⟨gA "are_tasks", "are_tasks", "are_tasks", defArgs s_are_tasks, defBody s_are_tasks, defScope s_are_tasks, [], []⟩, ⟨gA "count_names", "count_names", "count_names", defArgs s_count_names, defBody s_count_names, defScope s_count_names, [], []⟩, ⟨gA "levels_of", "levels_of", "levels_of", defArgs s_levels_of, defBody s_levels_of, defScope s_levels_of, [], []⟩, ⟨gA "plan_for", "plan_for", "plan_for", defArgs s_plan_for, defBody s_plan_for, defScope s_plan_for, [], []⟩, ⟨gA "in_order", "in_order", "in_order", defArgs s_in_order, defBody s_in_order, defScope s_in_order, [], []⟩, ⟨gA "_law_pen", "_law_pen", "_law_pen", defArgs s_law_pen, defBody s_law_pen, defScope s_law_pen, [], []⟩, ⟨gA "_law_draw", "_law_draw", "_law_draw", defArgs s_law_draw, defBody s_law_draw, defScope s_law_draw, [], []⟩, ⟨gA "_law_pick", "_law_pick", "_law_pick", defArgs s_law_pick, defBody s_law_pick, defScope s_law_pick, [], []⟩, ⟨gA "_law_shuffled", "_law_shuffled", "_law_shuffled", defArgs s_law_shuffled, defBody s_law_shuffled, defScope s_law_shuffled, [], []⟩, ⟨gA "_law_words", "_law_words", "_law_words", defArgs s_law_words, defBody s_law_words, defScope s_law_words, [], []⟩, ⟨gA "_law_any_value", "_law_any_value", "_law_any_value", defArgs s_law_any_value, defBody s_law_any_value, defScope s_law_any_value, [], []⟩, ⟨gA "_law_task", "_law_task", "_law_task", defArgs s_law_task, defBody s_law_task, defScope s_law_task, [], []⟩, ⟨gA "_law_made_task", "_law_made_task", "_law_made_task", defArgs s_law_made_task, defBody s_law_made_task, defScope s_law_made_task, [], []⟩, ⟨gA "_law_shown", "_law_shown", "_law_shown", defArgs s_law_shown, defBody s_law_shown, defScope s_law_shown, [], []⟩, ⟨gA "_law_remembered", "_law_remembered", "_law_remembered", defArgs s_law_remembered, defBody s_law_remembered, defScope s_law_remembered, [], []⟩, ⟨gA "_law_width", "_law_width", "_law_width", defArgs s_law_width, defBody s_law_width, defScope s_law_width, [], []⟩, ⟨gA "_law_plan", "_law_plan", "_law_plan", defArgs s_law_plan, defBody s_law_plan, defScope s_law_plan, [], []⟩, ⟨gA "_law_normal", "_law_normal", "_law_normal", defArgs s_law_normal, defBody s_law_normal, defScope s_law_normal, [], []⟩, ⟨gA "_law_count", "_law_count", "_law_count", defArgs s_law_count, defBody s_law_count, defScope s_law_count, [], []⟩, ⟨gA "_law_book", "_law_book", "_law_book", defArgs s_law_book, defBody s_law_book, defScope s_law_book, [], []⟩, ⟨gA "_law_item", "_law_item", "_law_item", defArgs s_law_item, defBody s_law_item, defScope s_law_item, [], []⟩, ⟨gA "law", "law", "law", defArgs s_law, defBody s_law, defScope s_law, [], []⟩, ⟨cA "Task" "__init__", "__init__", "Task.__init__", defArgs s_Task_init, defBody s_Task_init, defScope s_Task_init, [.non], [("many", .int 1), ("other", .adr (kA "Task" "__init__" "other")), ("same", .adr (kA "Task" "__init__" "same")), ("takes", .adr (kA "Task" "__init__" "takes")), ("forgets", .adr (kA "Task" "__init__" "forgets"))]⟩, ⟨pA "Task" "role", "role", "Task.role", defArgs s_Task_role, defBody s_Task_role, defScope s_Task_role, [], []⟩, ⟨pA "Task" "many", "many", "Task.many", defArgs s_Task_many, defBody s_Task_many, defScope s_Task_many, [], []⟩, ⟨pA "Task" "other", "other", "Task.other", defArgs s_Task_other, defBody s_Task_other, defScope s_Task_other, [], []⟩, ⟨pA "Task" "same", "same", "Task.same", defArgs s_Task_same, defBody s_Task_same, defScope s_Task_same, [], []⟩, ⟨pA "Task" "takes", "takes", "Task.takes", defArgs s_Task_takes, defBody s_Task_takes, defScope s_Task_takes, [], []⟩, ⟨pA "Task" "forgets", "forgets", "Task.forgets", defArgs s_Task_forgets, defBody s_Task_forgets, defScope s_Task_forgets, [], []⟩, ⟨cA "Book" "__init__", "__init__", "Book.__init__", defArgs s_Book_init, defBody s_Book_init, defScope s_Book_init, [], []⟩, ⟨cA "Task" "likeness", "likeness", "Task.likeness", defArgs s_Task_likeness, defBody s_Task_likeness, defScope s_Task_likeness, [], []⟩, ⟨cA "Task" "__eq__", "__eq__", "Task.__eq__", defArgs s_Task_eq, defBody s_Task_eq, defScope s_Task_eq, [], []⟩, ⟨cA "Book" "__eq__", "__eq__", "Book.__eq__", defArgs s_Book_eq, defBody s_Book_eq, defScope s_Book_eq, [], []⟩, ⟨cA "Book" "__getitem__", "__getitem__", "Book.__getitem__", defArgs s_Book_getitem, defBody s_Book_getitem, defScope s_Book_getitem, [], []⟩, ⟨cA "Book" "copied", "copied", "Book.copied", defArgs s_Book_copied, defBody s_Book_copied, defScope s_Book_copied, [], []⟩, ⟨cA "Book" "__len__", "__len__", "Book.__len__", defArgs s_Book_len, defBody s_Book_len, defScope s_Book_len, [], []⟩, ⟨cA "Book" "__contains__", "__contains__", "Book.__contains__", defArgs s_Book_contains, defBody s_Book_contains, defScope s_Book_contains, [], []⟩, ⟨pA "Book" "plan", "plan", "Book.plan", defArgs s_Book_plan, defBody s_Book_plan, defScope s_Book_plan, [], []⟩, ⟨pA "Book" "kinds", "kinds", "Book.kinds", defArgs s_Book_kinds, defBody s_Book_kinds, defScope s_Book_kinds, [], []⟩, ⟨pA "Book" "names", "names", "Book.names", defArgs s_Book_names, defBody s_Book_names, defScope s_Book_names, [], []⟩, ⟨pA "Book" "remembered", "remembered", "Book.remembered", defArgs s_Book_remembered, defBody s_Book_remembered, defScope s_Book_remembered, [], []⟩, ⟨pA "Book" "width", "width", "Book.width", defArgs s_Book_width, defBody s_Book_width, defScope s_Book_width, [], []⟩]
def fc : List DefY := [dSup0, dSup1]
def ts : List He.Tab := [(gA "LEAST", leastL.map (·.1)), (gA "MOST", mostL.map (·.1))]
abbrev R : PySem.W.OpenRow := PySem.W.OpenLaw.row PySem.Challenge.rw_fewhands_k07_books_made
abbrev hk : PySem.W.Hook := hookRT 3000 fb fn fc ts
def loose : List Str := (["_wall", "InvalidTask", "InvalidKinds", "InvalidTasks", "InvalidPlan", "InvalidText", "Clash", "NotSameKinds", "UnknownTask", "TooMany", "KINDS", "ROLES", "TASKS", "REMEMBERED", "WIDTH", "MANY", "NAMES", "LEVELS", "LETTERS", "LONGEST_WORD", "is_word", "is_integer", "is_within", "is_list", "are_words", "are_different_words", "ascending", "DONE", "LEAST", "MOST"] : List Str) ++ (["is_formed", "wrong_part", "sequence", "alongside", "normal_form", "normal", "name_list", "names_in", "plan_text", "PlanReader", "read_plan", "Task", "remembered_in", "width_of", "need_tasks", "task_line", "TITLES", "NUMBERS", "is_ascending", "sections", "task_in", "kind_in", "count_in", "depth_in", "plan_in", "is_bounded", "is_next", "parts_of_book", "are_kinds", "are_tasks"] : List Str) ++ (["count_names", "levels_of", "plan_for", "in_order", "Book", "joined", "_law_pen", "_law_draw", "_law_pick", "_law_shuffled", "_law_words", "_law_any_value", "_law_task", "_law_made_task", "_law_shown", "_law_remembered", "_law_width", "_law_plan", "_law_normal", "_law_count", "_law_book", "_law_item"] : List Str)
theorem runF (w : World) : HandSHeadRun.RunEq R (PySem.W.view R.prog [89]) hk (obRT 3000 fb fn fc ts) 14000 loose (w.withFollow "special-get-raises" false) := by
  intro os
  kernel_rfl
theorem runT (w : World) : HandSHeadRun.RunEq R (PySem.W.view R.prog [89]) hk (obRT 3000 fb fn fc ts) 14000 loose (w.withFollow "special-get-raises" true) := by
  intro os
  kernel_rfl
theorem run (w : World) : HandSHeadRun.RunEq R (PySem.W.view R.prog [89]) hk (obRT 3000 fb fn fc ts) 14000 loose w := PySem.W.byRow2 "special-get-raises" runF runT w
end LW
/-! sets of texts: made of a list or a tuple, counted, sorted -/
namespace Ys
open PySem PySem.Spec PyProof.Rows L2

def TxSet (P : Program) (w : World) (h : Heap) (a : Addr) (l : List Str) : Prop :=
  ∃ D : Froz.SD, h.get? a = some (Froz.sObj "set" D) ∧ Froz.TxOk P w D l ∧ l.Nodup ∧ Ris D.2.2.place.toList ∧ (w.params.followText "set-order" = true ∨ D.2.2.led = true)

section
variable {P : Program} {w : World} {A : Around} {E : Value → Shared → Prop} {s : Shared}

theorem TxSet.same {h h' : Heap} {a : Addr} {l : List Str} (R : TxSet P w h a l) (k : ∀ o, h.get? a = some o → h'.get? a = some o) : TxSet P w h' a l :=
  let ⟨D, e, r⟩ := R
  ⟨D, k _ e, r⟩

theorem tail_tab (ep : Nat) (es : Array (Int × Value)) (t : SetTable) (b : Bool) (r : Ris t.place.toList) : Ris (Froz.tailTx ep es t b).2.2.place.toList ∧ (Froz.tailTx ep es t b).2.2.led = t.led := by
  unfold Froz.tailTx
  by_cases c : (!b && t.tooFull) = true
  · rw [if_pos c]
    exact ⟨relayAll_ris _ _ _, relayAll_led _ _ _⟩
  · rw [if_neg c]
    exact ⟨r, rfl⟩
theorem add_tab (hs : Int) (v : Value) (D : Froz.SD) (r : Ris D.2.2.place.toList) : Ris (Froz.addTx hs v D).2.2.place.toList ∧ (Froz.addTx hs v D).2.2.led = D.2.2.led := by
  have r1 := layNew_ris D.2.2 D.1 hs v r
  have l1 := layNew_led D.2.2 D.1 hs v
  unfold Froz.addTx
  have core : ∀ t : SetTable, Ris t.place.toList → t.led = D.2.2.led → ∀ ep es b, Ris (Froz.tailTx ep es t b).2.2.place.toList ∧ (Froz.tailTx ep es t b).2.2.led = D.2.2.led := fun t h1 h2 ep es b =>
    ⟨(tail_tab ep es t b h1).1, (tail_tab ep es t b h1).2.trans h2⟩
  refine core _ ?_ ?_ _ _ _
  · split
    · exact r1
    · exact r1
  · split
    · exact l1
    · exact l1

theorem add_there {a : Addr} {D : Froz.SD} {l : List Str} {k : Str} {u : Tok} {Q : Bool → Shared → Prop} (ho : s.heap.get? a = some (Froz.sObj "set" D)) (F : Froz.TxOk P w D l) (hk : k ∈ l) (hb : l.length < scanBound)
    (h : Q false s) : wpAny (model P w) A (setAddHashed a (.str k u) (hashStr w k)) Q E s := by
  obtain ⟨es, ep, t⟩ := D
  have e1 : (Froz.sObj "set" (es, ep, t)).data = .set es ep t := rfl
  have e2 : t.fits es.size = true := F.fit
  have e3 : ElemsOf (PySem.strKind P w) es.toList := F.el
  have e4 : es.size < scanBound := by
    have z : es.size = l.length := F.sz
    rw [z]
    exact hb
  have e5 : (PySem.strKind P w).is k (.str k u) = true := Froz.is_str k u
  unfold setAddHashed setAddHashedIn
  refine wpAny_holding (wpAny_bind (wpAny_setState_of ho e1 e2 ?_))
  dsimp only
  rw [byScan_of rfl e4 e3]
  simp only [↓reduceIte]
  unfold setAddByScan
  refine wpAny_bind (wpAny_bind (wpAny_rule (wpAny_bind (wpAny_setScan_of (knd := PySem.strKind P w) (k := k) e5 ho e1 e2 e3 ?_))))
  cases q : List.findIdx? (fun e => (PySem.strKind P w).is k e.2) es.toList with
  | some j =>
    dsimp only
    exact wpAny_pure (wpAny_pure h)
  | none =>
    obtain ⟨e, he, z⟩ := (F.mem k).mp hk
    have y := List.findIdx?_eq_none_iff.mp q e he
    rw [z] at y
    cases y
theorem add_txt {a : Addr} {l : List Str} {k : Str} {u : Tok} {Q : Bool → Shared → Prop} (R : TxSet P w s.heap a l) (hb : l.length + 1 < scanBound)
    (h : ∀ (b : Bool) (h' : Heap) (l' : List Str), Heap.SameBut a s.heap h' → TxSet P w h' a l' → (∀ x, x ∈ l' ↔ x ∈ l ∨ x = k) → l'.length ≤ l.length + 1 → Q b { s with heap := h' }) :
    wpAny (model P w) A (setAddHashed a (.str k u) (hashStr w k)) Q E s := by
  obtain ⟨D, ho, F, nd, r, ld⟩ := R
  by_cases hk : k ∈ l
  · refine add_there ho F hk (by omega) ?_
    refine h false s.heap l (Heap.SameBut.refl a s.heap) ⟨D, ho, F, nd, r, ld⟩ (fun x => ⟨.inl, fun z => z.elim id fun e => e ▸ hk⟩) (Nat.le_succ _)
  · refine Froz.add_x ho F hk hb ?_
    have ex : (s.heap.update a (fun _ => Froz.sObj "set" (Froz.addTx (hashStr w k) (.str k u) D))).get? a = some (Froz.sObj "set" (Froz.addTx (hashStr w k) (.str k u) D)) := Froz.get_upd _ ho rfl
    obtain ⟨t1, t2⟩ := add_tab (hashStr w k) (.str k u) D r
    refine h true _ (k :: l) (Heap.SameBut.update s.heap a _) ⟨_, ex, Froz.add_ok u F, List.nodup_cons.mpr ⟨hk, nd⟩, t1, ?_⟩ (fun x => ?_) (Nat.le_refl _)
    · rw [t2]
      exact ld
    · rw [List.mem_cons]
      exact Or.comm

theorem fill_txt {I : Addr} {fp wr : List Addr} {G : Array GenState → Array GenState → Prop} {n : Nat} {Pv : Nat → Value → Prop} {St : Nat → Shared → Prop} {R : Result → Shared → Prop}
    (W : WalksS P w A.in1 I fp wr G n Pv St) (S : Addr) (hS : S ∉ fp) (xs : List Str) (hn : xs.length = n) (hfew : n + 1 < scanBound) (hval : ∀ i v, Pv i v → ∃ t, v = .str (xs.getD i Str.empty) t) :
    ∀ (k i : Nat) (s : Shared), n - i = k → i ≤ n → St i s → (∃ l, TxSet P w s.heap S l ∧ (∀ x, x ∈ l ↔ x ∈ xs.take i) ∧ l.length ≤ i) →
      (∀ s' l, Moved (S :: wr) G s s' → TxSet P w s'.heap S l → (∀ x, x ∈ l ↔ x ∈ xs) → l.length ≤ n → R (.ok (.ret .none)) s') →
      codeAny (model P w) A (.builtin "set.update.loop" ⟨[.ref S, .ref I], []⟩) R s := by
  have nw : S ∉ wr := fun z => hS (W.sub _ z)
  have sub : ∀ b ∈ wr, b ∈ S :: wr := fun b hb => List.mem_cons_of_mem _ hb
  intro k
  induction k with
  | zero =>
    intro i s hk hi st ⟨l, T, m, len⟩ hR
    obtain rfl : i = n := by omega
    refine codeAny_builtin PyProof.Rows.F.entry_set_update_loop ?_
    rw [Around.under_plainId PyProof.Rows.F.plain_set_update_loop _]
    refine wpAny_bind (W.done s _ _ st fun s' mv => ?_)
    refine wpAny_pure (hR s' l (mv.mono sub) (T.same fun o e => mv.heap S o nw e) (fun x => ?_) len)
    rw [m x, ← hn, List.take_length]
  | succ k ih =>
    intro i s hk hi st ⟨l, T, m, len⟩ hR
    have hlt : i < n := by omega
    refine codeAny_builtin PyProof.Rows.F.entry_set_update_loop ?_
    rw [Around.under_plainId PyProof.Rows.F.plain_set_update_loop _]
    refine wpAny_bind (W.item i s _ _ hlt st fun v s' hv st' mv => ?_)
    obtain ⟨t, rfl⟩ := hval i v hv
    have T' : TxSet P w s'.heap S l := T.same fun o e => mv.heap S o nw e
    refine wpAny_bind (wpAny_holding ?_)
    unfold setAdd
    refine wpAny_holding (wpAny_bind ((PySem.strKind P w).pyHash (k := xs.getD i Str.empty) (strKind_is _ _ _ _) ?_))
    refine add_txt (s := { s' with toks := s'.toks + 1 }) T' (by omega) fun b h' l' hsb T2 m2 len2 => ?_
    have hg : xs[i]? = some (xs.getD i Str.empty) := by
      have : i < xs.length := by omega
      rw [List.getD_eq_getElem?_getD, List.getElem?_eq_getElem this]
      rfl
    refine wpAny_pure ⟨plainId_quiet PyProof.Rows.F.plain_set_update_loop _, ih (i + 1) _ (by omega) hlt (W.frame _ s' _ _ st' (Nat.le_succ _) fun b hb o e => ?_) ⟨l', T2, fun x => ?_, by omega⟩ fun s'' l2 mv'' T'' m'' len'' => ?_⟩
    · rw [hsb.2 b (fun z : b = S => hS (by rw [← z]; exact hb))]
      exact e
    · rw [m2 x, m x, List.take_succ, hg, List.mem_append]
      simp
    · refine hR s'' l2 (Moved.trans W.gtrans ((mv.mono sub).then_heap (Nat.le_succ _) fun b o hb e => ?_) mv'') T'' m'' len''
      rw [hsb.2 b (fun z : b = S => hb (by rw [z]; exact List.mem_cons_self))]
      exact e
end
end Ys
namespace Ys
open PySem PySem.Spec PyProof.Rows L2
section
variable {P : Program} {w : World} {A : Around} {E : Value → Shared → Prop} {s : Shared}
abbrev bare (w : World) : Obj := { cls := .type "set", dict := none, data := .set #[] 0 (.fresh 0 0 (!w.params.followText "set-order")) }
theorem none_from {h : Heap} {b : Addr} (z : h.objs.size ≤ b) : h.get? b = none := by
  cases q : h.get? b with
  | none => rfl
  | some o => exact absurd (Nat.lt_of_lt_of_le (Heap.lt_size q) z) (Nat.lt_irrefl _)
theorem bare_txt {h : Heap} {a : Addr} (e : h.get? a = some (bare w)) : TxSet P w h a [] := by
  refine ⟨(#[], 0, .fresh 0 0 (!w.params.followText "set-order")), e, Froz.TxOk.nil rfl, List.nodup_nil, List.Pairwise.nil, ?_⟩
  show _ ∨ (!w.params.followText "set-order") = true
  cases w.params.followText "set-order"
  · exact .inr rfl
  · exact .inl rfl
structure TxSrc (P : Program) (w : World) (T : String) (l : Addr) (xs : List Str) (h : Heap) : Prop where
  type : ∀ s' : Shared, (∀ b o, h.get? b = some o → s'.heap.get? b = some o) → s'.TypeIs (.ref l) T
  set : isSubtype (.type T) (.type "set") = pure false
  froz : isSubtype (.type T) (.type "frozenset") = pure false
  nd : (Value.type T == Value.type "dict") = false
  lt : l < h.objs.size
  iter : ∀ (A : Around) (s' : Shared) (E : Value → Shared → Prop) (Q : Value → Shared → Prop), (∀ b o, h.get? b = some o → s'.heap.get? b = some o) →
    (∀ it : Obj, (∀ A' : Around, A'.handled = none → l ≠ s'.heap.objs.size → ∃ (Pv : Nat → Value → Prop) (St : Nat → Heap → Prop),
        Walks P w A' s'.heap.objs.size [s'.heap.objs.size, l] [s'.heap.objs.size] xs.length Pv St ∧ (∀ i v, Pv i v → ∃ t, v = .str (xs.getD i Str.empty) t) ∧ St 0 (s'.heap.push it)) →
      Q (.ref s'.heap.objs.size) { s' with heap := s'.heap.push it }) →
    wpAny (model P w) A (pyIter (.ref l)) Q E s'
theorem src_list {l : Addr} {items : Array Value} {xs : List Str} {h : Heap} (hl : h.IsList l items) (hi : StrsAre items.toList xs) : TxSrc P w "list" l xs h where
  type := fun s' k => by
    obtain ⟨o, e, c, _⟩ := hl
    exact ⟨o, k _ _ e, c⟩
  set := F.sub_list_set
  froz := F.sub_list_frozenset
  nd := by decide
  lt := by
    obtain ⟨o, e, _⟩ := hl
    exact Heap.lt_size e
  iter := fun A s' E Q k hQ => by
    have hl' : s'.heap.IsList l items := by
      obtain ⟨o, e, r⟩ := hl
      exact ⟨o, k _ _ e, r⟩
    refine wpAny_pyIter_list hl' (hQ _ fun A' hA ne => ⟨fun i v => items[i]? = some v, fun i z => z.IsListIter s'.heap.objs.size l i ∧ z.IsList l items, ?_, fun i v hv => SS.strs_at hi i v (by rw [Array.getElem?_toList]; exact hv), ⟨⟨_, Heap.get?_push_size _ rfl, rfl, rfl⟩, hl'.push _⟩⟩)
    have e : xs.length = items.size := by rw [← StrsAre.len_eq hi, Array.length_toList]
    rw [e]
    exact Walks.list hA _ l ne items
theorem src_tuple {l : Addr} {items : Array Value} {xs : List Str} {h : Heap} (hl : h.IsTuple l items) (hi : StrsAre items.toList xs) : TxSrc P w "tuple" l xs h where
  type := fun s' k => by
    obtain ⟨o, e, c, _⟩ := hl
    exact ⟨o, k _ _ e, c⟩
  set := F.sub_tuple_set
  froz := F.sub_tuple_frozenset
  nd := by decide
  lt := by
    obtain ⟨o, e, _⟩ := hl
    exact Heap.lt_size e
  iter := fun A s' E Q k hQ => by
    have hl' : s'.heap.IsTuple l items := by
      obtain ⟨o, e, r⟩ := hl
      exact ⟨o, k _ _ e, r⟩
    refine wpAny_pyIter_tuple hl' (hQ _ fun A' hA ne => ⟨fun i v => items[i]? = some v, fun i z => z.IsTupleIter s'.heap.objs.size l i ∧ z.IsTuple l items, ?_, fun i v hv => SS.strs_at hi i v (by rw [Array.getElem?_toList]; exact hv), ⟨⟨_, Heap.get?_push_size _ rfl, rfl, rfl⟩, hl'.push _⟩⟩)
    have e : xs.length = items.size := by rw [← StrsAre.len_eq hi, Array.length_toList]
    rw [e]
    exact Walks.tuple hA _ l ne items

theorem make_txt {T : String} {l : Addr} {xs : List Str} {Q : Value → Shared → Prop} (hh : A.handled = none) (S : TxSrc P w T l xs s.heap) (few : xs.length + 1 < scanBound)
    (h : ∀ (h' : Heap) (tk : Nat) (l' : List Str), TxSet P w h' s.heap.objs.size l' → (∀ x, x ∈ l' ↔ x ∈ xs) → l'.length ≤ xs.length → (∀ b o, s.heap.get? b = some o → h'.get? b = some o) →
      Q (.ref s.heap.objs.size) { s with heap := h', toks := tk }) : wpAny (model P w) A (call (.type "set") [.ref l]) Q E s := by
  have a1 := F.called_set.made
  have a2 := F.called_set.sub
  have a3 := F.called_set.notType
  have a4 := F.called_set.canCreate
  have a5 := F.typeCall_set_1 (.ref l)
  obtain ⟨c, tl, a6⟩ := F.called_set.mro
  refine wpAny_call (codeAny_of_tree ?_)
  show wpAny _ _ (callAny (.type "set") _) _ _ _
  refine wpAny_pure ⟨Code.quiet_builtin _ (by decide +kernel), codeAny_builtin F.entry_type_call ?_⟩
  rw [Around.under_plain (weight_type_call_type "set" [.ref l] []) rfl]
  repeat (any_goals (first | assumption | wp_step))
  refine codeAny_mono (L2.code_set_led1 (.ref l) (E := E) (Q₁ := fun v z => v = .ref s.heap.objs.size ∧ z = { s with heap := s.heap.push (bare w) }) ⟨rfl, rfl⟩) fun r s1 hr => ?_
  cases r with
  | error e => exact hr
  | ok fl =>
    cases fl with
    | next => exact hr.elim
    | brk => exact hr.elim
    | cont => exact hr.elim
    | ret v =>
      obtain ⟨rfl, rfl⟩ := hr
      have b0 : (s.heap.push (bare w)).get? s.heap.objs.size = some (bare w) := Heap.get?_push_size _ rfl
      have b1 : Shared.TypeIs { s with heap := s.heap.push (bare w) } (.ref s.heap.objs.size) "set" := ⟨_, b0, rfl⟩
      have b2 := F.called_set.init.lookup
      have b3 := F.called_set.init.bind (.ref s.heap.objs.size)
      repeat (any_goals (first | assumption | wp_step))
      refine codeAny_mono (codeAny_call_builtin (R := wants (fun r z => r = .none ∧ ∃ h' tk l', z = { s with heap := h', toks := tk } ∧ TxSet P w h' s.heap.objs.size l' ∧ (∀ x, x ∈ l' ↔ x ∈ xs) ∧ l'.length ≤ xs.length ∧
          (∀ b o, s.heap.get? b = some o → h'.get? b = some o)) E) F.called_set.init.plain F.entry_set_init (check_set_init_1 b1 ?_)) fun r2 s2 hr2 => ?_
      · have k1 : ∀ b o, s.heap.get? b = some o → (s.heap.push (bare w)).get? b = some o := fun b o e => Heap.get?_push_of_some _ e
        have c1 : Shared.TypeIs { s with heap := s.heap.push (bare w) } (.ref l) T := S.type _ k1
        have c2 := S.set
        have c3 := S.froz
        have c4 := S.nd
        unfold Builtin.«set.__init__» noKeywords Builtin.Frozenset.updateFrom
        generalize hPI : pyIter = PI
        wp_walk
        subst hPI
        have hsz : (s.heap.push (bare w)).objs.size = s.heap.objs.size + 1 := Heap.size_push ..
        have lt := S.lt
        refine S.iter _ _ _ _ k1 fun it hit => ?_
        refine wpAny_bind (wpAny_runValue ?_)
        obtain ⟨Pv, St, W, hv, st⟩ := hit A.in1.in1.in1 (by simp [hh]) (by show l ≠ (s.heap.push (bare w)).objs.size; rw [hsz]; exact Nat.ne_of_lt (Nat.lt_succ_of_lt lt))
        have ns : s.heap.objs.size ∉ [(s.heap.push (bare w)).objs.size, l] := by
          rw [hsz]
          simp only [List.mem_cons, List.not_mem_nil, or_false, not_or]
          exact ⟨Nat.ne_of_lt (Nat.lt_succ_self _), Nat.ne_of_gt lt⟩
        refine fill_txt W.toS s.heap.objs.size ns xs rfl few hv (xs.length - 0) 0 _ (by omega) (Nat.zero_le _) st ⟨[], ?_, (fun x => by simp), Nat.zero_le _⟩ fun s' l' mv T' m len => ?_
        · exact bare_txt (Heap.get?_push_of_some _ b0)
        · obtain ⟨h', g', d', tk', os'⟩ := s'
          obtain rfl : g' = s.gens := mv.gens
          obtain rfl : d' = s.drawn := mv.drawn
          obtain rfl : os' = s.os := mv.os
          refine wpAny_pure (wpAny_pure ⟨rfl, h', tk', l', rfl, T', m, len, fun b o e => ?_⟩)
          have hb : b < s.heap.objs.size := Heap.lt_size e
          refine mv.heap b o ?_ (Heap.get?_push_of_some _ (Heap.get?_push_of_some _ e))
          simp only [List.mem_cons, List.not_mem_nil, or_false, not_or]
          refine ⟨Nat.ne_of_lt hb, ?_⟩
          show b ≠ (s.heap.push (bare w)).objs.size
          rw [hsz]
          exact Nat.ne_of_lt (Nat.lt_succ_of_lt hb)
      · cases r2 with
        | error e => exact hr2
        | ok f2 =>
          cases f2 with
          | next => exact hr2.elim
          | brk => exact hr2.elim
          | cont => exact hr2.elim
          | ret r =>
            obtain ⟨rfl, h', tk, l', rfl, T', m, len, k⟩ := hr2
            repeat (any_goals (first | assumption | wp_step))
            exact h _ _ _ T' m len k
end
end Ys
namespace Ys
open PySem PySem.Spec PyProof.Rows L2
section
variable {P : Program} {w : World} {A : Around} {E : Value → Shared → Prop} {s : Shared}
theorem txt_vals {es : List (Int × Value)} (h : ElemsOf (PySem.strKind P w) es) : ∀ e ∈ es, ∃ (x : Str) (t : Tok), e.2 = .str x t := fun e he => by
  obtain ⟨⟨k, hk, _⟩, _⟩ := h e he
  obtain ⟨t, q⟩ := Value.isStrOf_shape (x := k) (v := e.2) hk
  exact ⟨k, t, q⟩
def txtOf : Value → Str
  | .str x _ => x
  | _ => Str.empty
theorem strsAre_txt : ∀ {us : List Value}, (∀ u ∈ us, ∃ (x : Str) (t : Tok), u = .str x t) → StrsAre us (us.map txtOf)
  | [], _ => .nil
  | u :: us, h => by
    obtain ⟨x, t, rfl⟩ := h u List.mem_cons_self
    exact .cons x t (strsAre_txt fun v hv => h v (List.mem_cons_of_mem _ hv))
theorem perm_len : ∀ (l m : List Str), l.Nodup → (∀ x ∈ l, x ∈ m) → m.length ≤ l.length → m.Perm l
  | [], m, _, _, h => by
    have e : m = [] := List.length_eq_zero_iff.mp (Nat.le_zero.mp h)
    rw [e]
  | x :: l, m, nd, h, hl => by
    obtain ⟨n1, n2⟩ := List.nodup_cons.mp nd
    have hx : x ∈ m := h x List.mem_cons_self
    have p := List.perm_cons_erase hx
    have e : m.length = (m.erase x).length + 1 := by rw [p.length_eq, List.length_cons]
    refine p.trans (.cons x (perm_len l (m.erase x) n2 (fun y hy => ?_) (by rw [List.length_cons] at hl; omega)))
    have ne : y ≠ x := fun z => n1 (z ▸ hy)
    exact (List.mem_erase_of_ne ne).mpr (h y (List.mem_cons_of_mem _ hy))
theorem sort_txt {a : Addr} {l : List Str} {Q : Value → Shared → Prop} (hh : A.handled = none) (T : TxSet P w s.heap a l) (few : l.length < 64)
    (hQ : ∀ s' p (out : List Value) (c : Nat) (ys : List Str), (∀ b o, s.heap.get? b = some o → s'.heap.get? b = some o) → s'.gens = s.gens → s'.os = s.os → s.heap.objs.size ≤ p →
      s'.heap.get? p = some { cls := .type "list", data := .seq out.toArray c } → StrsAre out ys → ys.Perm l → sortedS ys = true → Q (.ref p) s') :
    wpAny (model P w) A (call (.builtin "sorted") [.ref a]) Q E s := by
  obtain ⟨⟨es, ep, t⟩, ho, F, nd, r, ld⟩ := T
  have fit : t.fits es.size = true := F.fit
  have sz : es.size = l.length := F.sz
  have el : ElemsOf (PySem.strKind P w) es.toList := F.el
  have vals := txt_vals el
  refine Calls.call_function_entry kind_sorted plain_sorted entry_sorted (args_sorted1 _) ?_
  unfold Builtin.«sorted»
  refine wpAny_bind (m := checkCount "sorted" 1 1 _) (wpAny_pure ?_)
  refine wpAny_bind (collect_set (A := A.in1) hh ⟨_, ho, rfl, rfl⟩ fit (by rw [sz]; unfold scanBound; omega) r ld fun s1 vs k1 hz g1 o1 pm => ?_)
  have hv : ∀ v ∈ vs, ∃ (x : Str) (t : Tok), v = .str x t := fun v hv => by
    obtain ⟨e, he, q⟩ := List.mem_map.mp (pm.mem_iff.mp hv)
    obtain ⟨x, t, z⟩ := vals e he
    exact ⟨x, t, by rw [← q, z]⟩
  have hS := strsAre_txt hv
  have hlen : vs.length = l.length := by rw [pm.length_eq, List.length_map, Array.length_toList, sz]
  -- the texts of the set's entries are l, in some order
  have pl : (vs.map txtOf).Perm l := by
    have p1 : (vs.map txtOf).Perm ((es.toList.map (·.2)).map txtOf) := pm.map txtOf
    have mem : ∀ x, x ∈ (es.toList.map (·.2)).map txtOf ↔ x ∈ l := fun x => by
      rw [F.mem x, List.map_map, List.mem_map]
      constructor
      · rintro ⟨e, he, q⟩
        obtain ⟨y, t, z⟩ := vals e he
        refine ⟨e, he, ?_⟩
        have : y = x := by
          have q' : txtOf e.2 = x := q
          rw [z] at q'
          exact q'
        rw [z, this]
        exact Froz.is_str x t
      · rintro ⟨e, he, q⟩
        obtain ⟨t, z⟩ := Value.isStrOf_shape (x := x) (v := e.2) q
        exact ⟨e, he, by show txtOf e.2 = x; rw [z]; rfl⟩
    have len : ((es.toList.map (·.2)).map txtOf).length = l.length := by rw [List.length_map, List.length_map, Array.length_toList, sz]
    refine p1.trans ?_
    exact perm_len l _ nd (fun x hx => (mem x).mpr hx) (Nat.le_of_eq len)
  refine wpAny_bind (wpAny_newList ?_ (by rw [hlen, sizeLine_eq]; omega))
  have hoL : (s1.heap.push (seqObj "list" vs.toArray 0)).get? s1.heap.objs.size = some (seqObj "list" vs.toArray 0) := Heap.get?_push_size _ rfl
  show wpAny _ _ _ _ _ { s1 with heap := s1.heap.push (seqObj "list" vs.toArray 0) }
  refine wpAny_bind (wpAny_holding (wpAny_call_entry slot_list_sort ⟨_, hoL, rfl⟩ entry_list_sort
    (list_sort_treeK strKind_oneLt (s := { s1 with heap := s1.heap.push (seqObj "list" vs.toArray 0) }) hoL hS.keysOf (fun v1 v2 rest e => keyKind_strs (by rw [← e]; exact hS)) (by rw [hlen]; exact few) fun st' hp hs => ⟨_, rfl, ?_⟩)
    (args_list_sort _)))
  obtain ⟨ys, b1, b2, b3⟩ := sorted_out_str hS hp hs
  obtain ⟨c, hc⟩ := sortedHeap_at (vs := vs) (out := (arrOf st').map (·.2)) hoL
  refine wpAny_pure ⟨_, rfl, hQ _ s1.heap.objs.size ((arrOf st').map (·.2)).toList c ys (fun b u e => ?_) g1 o1 hz (by rw [Array.toArray_toList]; exact hc) b1 (b2.trans pl) b3⟩
  have q := k1 b u e
  have hlt := Heap.lt_size q
  show (sortedHeap (s1.heap.push (seqObj "list" vs.toArray 0)) s1.heap.objs.size vs ((arrOf st').map (·.2))).get? b = some u
  rw [sortedHeap_old (Nat.ne_of_lt hlt) (by rw [size_push']; exact Nat.lt_succ_of_lt hlt)]
  exact Heap.get?_push_of_some _ q
end

/-! ### over the abstract heap -/
def TxO (P : Program) (w : World) (a : Addr) (l : List Str) : HO := .ext fun h => TxSet P w h a l
section
variable {X : Cx}
theorem txO_ok {P : Program} {w : World} {H : Hp} {h : Heap} {a : Addr} {l : List Str} (T : TxSet P w h a l) : ObjOk P w H h a (TxO P w a l) := by
  have ⟨D, e, _⟩ := T
  exact ⟨T, ⟨_, e⟩, fun h1 h2 p k => TxSet.same p k⟩
def rSetTx (K : PySem.W.Frag) (P : Program) (w : World) : List V → Hp → VK → Prop := fun vs H Q => ∃ (p : Addr) (xs : List Str), vs = [V.ref p] ∧ (SqL K H p (xs.map V.str) ∨ SqT K H p (xs.map V.str)) ∧ xs.length < 1000 ∧
  ∀ a l, (∀ x, x ∈ l ↔ x ∈ xs) → l.Nodup → l.length ≤ xs.length → H a = none → Q (.ref a) (upd H a (TxO P w a l))
theorem cr_setTx (hc : X.calm = true) : CallR X (.type "set") (rSetTx X.K X.prog X.w) := by
  intro pins s σ H vs us Q I r h
  obtain ⟨p, xs, rfl, hq, few, q⟩ := h
  rw [Vals.ref1 r]
  have fin : ∀ T, TxSrc X.prog X.w T p xs s.heap → wpAny (model X.prog X.w) X.A (call (.type "set") [.ref p]) (EP X pins σ Q) X.xe s := fun T S => by
    refine make_txt (I.ok.hd hc) S (by unfold scanBound; omega) fun h' tk l' T' m len k => ?_
    have nd : l'.Nodup := let ⟨_, _, _, nd, _⟩ := T'; nd
    exact ⟨.ref s.heap.objs.size, upd H s.heap.objs.size (TxO X.prog X.w s.heap.objs.size l'), I.laid (t' := tk) k (Nat.le_refl _) (txO_ok T'), rfl, q _ l' m nd len (I.hok.fresh (Nat.le_refl _))⟩
  rcases hq with hq | hq
  · obtain ⟨its, rv, pl, hz⟩ := I.list hq
    exact fin "list" (src_list pl.isList (by simpa using rv.strs))
  · obtain ⟨its, rv, pl, hz⟩ := I.tuple hq
    exact fin "tuple" (src_tuple pl (by simpa using rv.strs))
def rSortTx (P : Program) (w : World) : List V → Hp → VK → Prop := fun vs H Q => ∃ (a : Addr) (l : List Str), vs = [V.ref a] ∧ H a = some (TxO P w a l) ∧ l.length < 64 ∧
  ∀ (ys : List Str) (p : Addr), ys.Perm l → sortedS ys = true → H p = none → Q (.ref p) (upd H p (.lst (ys.map V.str)))
theorem cr_sortTx (hc : X.calm = true) : CallR X (.builtin "sorted") (rSortTx X.prog X.w) := by
  intro pins s σ H vs us Q I r h
  obtain ⟨a, l, rfl, ha, few, q⟩ := h
  rw [Vals.ref1 r]
  have T : TxSet X.prog X.w s.heap a l := (I.hok a _ ha).1
  refine sort_txt (I.ok.hd hc) T few fun s' p out c ys k g o hp hg hS pm so => ?_
  have hn : H p = none := I.hok.fresh hp
  have hlen : (ys.map V.str).length ≤ sizeLine := by rw [List.length_map, pm.length_eq, sizeLine_eq]; omega
  obtain ⟨h', g', d', tk', os'⟩ := s'
  obtain rfl : os' = s.os := o
  refine ⟨.ref p, upd H p (.lst (ys.map V.str)), I.call (h' := h') (g' := g') (d' := d') (t' := tk') (ch := []) (Un.laid k hp hn) (I.hok.laid k hp ⟨hlen, out, c, vals_of_strs hS, hg⟩) ?_ (fun _ z => nomatch z), rfl, q ys p pm so hn⟩
  obtain rfl : g' = s.gens := g
  exact I.bare
def rLenTx (P : Program) (w : World) : List V → Hp → VK → Prop := fun vs H Q => ∃ (a : Addr) (l : List Str), vs = [V.ref a] ∧ H a = some (TxO P w a l) ∧ l.length < 1000 ∧ Q (.int l.length) H
theorem cr_lenTx : CallR X (.builtin "len") (rLenTx X.prog X.w) := by
  intro pins s σ H vs us Q I r h
  obtain ⟨a, l, rfl, ha, few, q⟩ := h
  rw [Vals.ref1 r]
  have T : TxSet X.prog X.w s.heap a l := (I.hok a _ ha).1
  obtain ⟨⟨es, ep, t⟩, ho, F, nd, rs, ld⟩ := T
  have sz : es.size = l.length := F.sz
  refine call_len_set ho ⟨rfl, rfl, rfl⟩ rfl F.fit (by rw [sz]; omega) ⟨.int l.length, H, I.tok _, ⟨_, by rw [sz]⟩, q⟩
end

end Ys
namespace Ys
open PySem PySem.Spec PyProof.Rows L2
/-! ### data, dicts too -/
def kD : Key → PyData
  | .inl i => .int i
  | .inr x => .str x
mutual
inductive Dt (K : PySem.W.Frag) (H : Hp) : V → PyData → Prop
  | non : Dt K H .non .none
  | bl (b : Bool) : Dt K H (.bl b) (.bool b)
  | int (i : Int) : Dt K H (.int i) (.int i)
  | str (x : Str) : Dt K H (.str x) (.str x)
  | lst {a : Addr} {xs : List V} {ds : List PyData} : SqL K H a xs → Dts K H xs ds → Dt K H (.ref a) (.list ds)
  | tup {a : Addr} {xs : List V} {ds : List PyData} : SqT K H a xs → Dts K H xs ds → Dt K H (.ref a) (.tuple ds)
  | dct {a : Addr} {kvs : List (Key × V)} {ds : List (PyData × PyData)} : Rd H a (.dK kvs) → ds.map (·.1) = kvs.map (fun p => kD p.1) → Dts K H (kvs.map (·.2)) (ds.map (·.2)) → Dt K H (.ref a) (.dict ds)
inductive Dts (K : PySem.W.Frag) (H : Hp) : List V → List PyData → Prop
  | nil : Dts K H [] []
  | cons {v : V} {vs : List V} {d : PyData} {ds : List PyData} : Dt K H v d → Dts K H vs ds → Dts K H (v :: vs) (d :: ds)
end
section
variable {X : Cx} {pins : List (Addr × Obj)} {σ : L2.St} {H : Hp} {s : Shared}
def SysIn (K : PySem.W.Frag) : Prop := ∃ o, K.lookup sysModules = some o ∧ o.cls = .type "dict"
theorem sys_ne (I : Inv X pins σ H s) (S : SysIn X.K) {a : Addr} {u : HO} (h : Rd H a u) : a ≠ sysModules := by
  rintro rfl
  obtain ⟨o, e, _⟩ := S
  have n := (I.bs _ _ (I.mod.kin _ _ e)).2
  rcases h with h | ⟨_, h⟩
  · rw [n] at h; cases h
  · rw [n] at h; cases h
theorem sys_neL (I : Inv X pins σ H s) (S : SysIn X.K) {a : Addr} {xs : List V} (h : SqL X.K H a xs) : a ≠ sysModules := by
  rcases h with h | ⟨o, its, n, hk, hc, _⟩
  · exact sys_ne I S h
  · rintro rfl
    obtain ⟨o', e, c⟩ := S
    rw [hk] at e
    cases e
    rw [hc] at c
    exact absurd c (by decide)
theorem kD_reads {h : Heap} {k : Key} {v : Value} (e : keyIs k v = true) : Reads h v (kD k) [] := by
  rcases keyIs_shape e with ⟨i, t, rfl, rfl⟩ | ⟨x, t, rfl, rfl⟩
  · exact .int i t
  · exact .str x t
theorem keys_reads {h : Heap} : ∀ {es : List DictEntry} {kvs : List (Key × Value)} {ks : List PyData}, Pairs (mixKind X.prog X.w) es kvs → ks = kvs.map (fun p => kD p.1) → ReadsAll h (es.map (·.key)) ks []
  | _, _, _, .nil, e => by subst e; exact .nil
  | _, _, _, .cons a b r, e => by
    subst e
    exact .cons (kD_reads a) (keys_reads r rfl)
theorem pairs_vals : ∀ {es : List DictEntry} {kvs : List (Key × Value)}, Pairs (mixKind X.prog X.w) es kvs → es.map (·.val) = kvs.map (·.2)
  | _, _, .nil => rfl
  | _, _, .cons a b r => by rw [List.map_cons, List.map_cons, b, pairs_vals r]
theorem kv_vals : ∀ {kvs : List (Key × V)} {vs : List (Key × Value)}, KV kvs vs → Vals (kvs.map (·.2)) (vs.map (·.2))
  | _, _, .nil => .nil
  | _, _, .cons r t => .cons r.2 (kv_vals t)
theorem kv_keys : ∀ {kvs : List (Key × V)} {vs : List (Key × Value)}, KV kvs vs → kvs.map (fun p => kD p.1) = vs.map (fun p => kD p.1)
  | _, _, .nil => rfl
  | _, _, .cons r t => by rw [List.map_cons, List.map_cons, r.1, kv_keys t]
theorem size_snd : ∀ ds : List (PyData × PyData), sizeOf (ds.map (·.2)) ≤ sizeOf ds
  | [] => Nat.le_refl _
  | (k, v) :: ds => by
    have ih := size_snd ds
    simp only [List.map_cons, List.cons.sizeOf_spec, Prod.mk.sizeOf_spec]
    omega
mutual
theorem Dt.reads (I : Inv X pins σ H s) (S : SysIn X.K) : ∀ (d : PyData) (v : V) (u : Value), Dt X.K H v d → RelV v u → ∃ as, Reads s.heap u d as ∧ sysModules ∉ as
  | .none, _, _, h, r => by
    cases h
    cases r
    exact ⟨_, .none, by simp⟩
  | .bool b, _, _, h, r => by
    cases h
    cases r
    exact ⟨_, .bool b, by simp⟩
  | .int i, _, _, h, r => by
    cases h
    obtain ⟨t, rfl⟩ := r
    exact ⟨_, .int i t, by simp⟩
  | .str x, _, _, h, r => by
    cases h
    obtain ⟨t, rfl⟩ := r
    exact ⟨_, .str x t, by simp⟩
  | .list ds, _, _, h, r => by
    cases h with
    | lst hs ha =>
      cases r
      have ne := sys_neL I S hs
      obtain ⟨its, rv, ⟨o, n, ho, hc, _, hd⟩, _⟩ := I.list hs
      obtain ⟨as, hr, na⟩ := Dts.reads I S ds _ its ha rv
      exact ⟨_, .list ho hc hd hr, fun z => (List.mem_cons.mp z).elim (fun e => ne e.symm) na⟩
  | .tuple ds, _, _, h, r => by
    cases h with
    | tup hs ha =>
      cases r
      obtain ⟨its, rv, ⟨o, ho, hc, n, hd⟩, _⟩ := I.tuple hs
      obtain ⟨as, hr, na⟩ := Dts.reads I S ds _ its ha rv
      exact ⟨_, .tuple ho hc hd hr, na⟩
  | .dict ds, _, _, h, r => by
    cases h with
    | dct hs hk ha =>
      cases r
      have ne := sys_ne I S hs
      obtain ⟨_, _, vs, rel, o, es, ep, ho, hx, hd, _, hp, _⟩ := dk_rd I.hok hs
      obtain ⟨as, hr, na⟩ := Dts.reads I S (ds.map (·.2)) _ (vs.map (·.2)) ha (kv_vals rel)
      refine ⟨_, .dict ho hx.1 hd (keys_reads hp (hk.trans (kv_keys rel))) (by rw [pairs_vals hp]; exact hr), fun z => ?_⟩
      exact (List.mem_append.mp z).elim (fun e => ne (List.mem_singleton.mp e).symm) na
termination_by d => sizeOf d
decreasing_by
  · simp only [PyData.list.sizeOf_spec]; omega
  · simp only [PyData.tuple.sizeOf_spec]; omega
  · have := size_snd ds
    simp only [PyData.dict.sizeOf_spec]; omega
theorem Dts.reads (I : Inv X pins σ H s) (S : SysIn X.K) : ∀ (ds : List PyData) (vs : List V) (us : List Value), Dts X.K H vs ds → Vals vs us → ∃ as, ReadsAll s.heap us ds as ∧ sysModules ∉ as
  | [], _, _, h, r => by
    cases h
    cases r
    exact ⟨_, .nil, by simp⟩
  | d :: ds, _, _, h, r => by
    cases h with
    | cons h1 h2 =>
      cases r with
      | cons r1 r2 =>
        obtain ⟨as, q1, n1⟩ := Dt.reads I S d _ _ h1 r1
        obtain ⟨bs, q2, n2⟩ := Dts.reads I S ds _ _ h2 r2
        exact ⟨_, .cons q1 q2, fun z => (List.mem_append.mp z).elim n1 n2⟩
termination_by ds => sizeOf ds
decreasing_by
  · simp only [List.cons.sizeOf_spec]; omega
  · simp only [List.cons.sizeOf_spec]; omega
end
/-! data without dicts -/
mutual
theorem Dt.dp {K : PySem.W.Frag} : ∀ (d : PyData) (v : V), d.canLay0 = true → Dt K H v d → Dp K H v d
  | .none, _, _, h => by cases h; exact .non
  | .bool b, _, _, h => by cases h; exact .bl b
  | .int i, _, _, h => by cases h; exact .int i
  | .str x, _, _, h => by cases h; exact .str x
  | .list ds, _, c, h => by
    cases h with
    | lst hs ha => exact .lst hs (Dts.dp ds _ (by simpa only [PyData.canLay0] using c) ha)
  | .tuple ds, _, c, h => by
    cases h with
    | tup hs ha => exact .tup hs (Dts.dp ds _ (by simpa only [PyData.canLay0] using c) ha)
  | .dict _, _, c, _ => by simp [PyData.canLay0] at c
theorem Dts.dp {K : PySem.W.Frag} : ∀ (ds : List PyData) (vs : List V), PyData.canLayAll0 ds = true → Dts K H vs ds → DpAll K H vs ds
  | [], _, _, h => by cases h; exact .nil
  | d :: ds, _, c, h => by
    cases h with
    | cons h1 h2 =>
      have c' : (d.canLay0 && PyData.canLayAll0 ds) = true := by simpa only [PyData.canLayAll0] using c
      obtain ⟨c1, c2⟩ := Bool.and_eq_true_iff.mp c'
      exact .cons (Dt.dp d _ c1 h1) (Dts.dp ds _ c2 h2)
end
end

/-! ### repr -/
section
variable {X : Cx}
def rRepr (K : PySem.W.Frag) : List V → Hp → VK → Prop := fun vs H Q => ∃ (x : V) (d : PyData), vs = [x] ∧ Dt K H x d ∧ d.showable = true ∧ d.depth ≤ 60 ∧ d.shown.length ≤ sizeLine ∧ Q (.str d.shown) H
theorem cr_repr (hg : X.A.guards = some []) (S : SysIn X.K) (hu : X.A.units + 64 < cLine) : CallR X (.builtin "repr") (rRepr X.K) := by
  intro pins s σ H vs us Q I r h
  obtain ⟨x, d, rfl, hd, sh, dp, sz, q⟩ := h
  obtain ⟨u, rfl, rx⟩ := vals1 r
  obtain ⟨as, hr, na⟩ := Dt.reads I S d x u hd rx
  cases x with
  | non =>
    cases rx; cases hd
    simp only [PyData.shown] at q
    exact PySem.P.repr_of_none ⟨.str _, H, I.tok _, ⟨_, rfl⟩, q⟩
  | bl b =>
    cases rx; cases hd
    simp only [PyData.shown] at q
    exact PySem.P.repr_of_bool ⟨.str _, H, I.tok _, ⟨_, rfl⟩, q⟩
  | int i =>
    obtain ⟨t, rfl⟩ := rx; cases hd
    simp only [PyData.shown] at q
    have hz : i.natAbs.log2 < 1920 := by simpa [PyData.showable] using sh
    exact PySem.P.repr_of_int hz ⟨.str _, H, I.tok _, ⟨_, rfl⟩, q⟩
  | str z =>
    obtain ⟨t, rfl⟩ := rx; cases hd
    simp only [PyData.shown] at q sz
    exact PySem.P.repr_of_str ⟨.str _, H, I.tok _, ⟨_, rfl⟩, q⟩ sz
  | byt _ => cases hd
  | flt _ => cases hd
  | ty _ => cases hd
  | ref a =>
    cases rx
    refine repr_of_reads' hr sh (fun _ => na) hg (by omega) (fun _ _ e => e) (fun h' u tk k => ?_) sz
    exact ⟨.str _, H, I.kept (t' := tk) k, ⟨_, rfl⟩, q⟩
end

/-! ### a def that is told that nothing is being shown -/
structure FnG (P : Program) (w : World) (K : PySem.W.Frag) (mg : Str → Option Value) (base : Heap) (CX : CXT) (k : Nat) (f : Addr) (fd : FuncData) (ps : List Str) (sp : Sp) : Prop where
  len : ∀ vs H Q E, sp vs H Q E → vs.length = ps.length
  run : ∀ (A : Around) (outer : List Env) (s : Shared) (H : Hp) (args : Args) (us : List Value) (vs : List V) (Q : VK) (E : XK), A.guards = some [] → Room k A → Env0 P w K mg base A outer s H → BindsTo s fd args (ps.zip us) → Vals vs us → sp vs H Q E →
    codeAny (model P w) A (.call (.ref f) args) (CR CX outer P w H s Q E) s
theorem FnOk.g {P : Program} {w : World} {K : PySem.W.Frag} {mg : Str → Option Value} {base : Heap} {CX : CXT} {k : Nat} {f : Addr} {fd : FuncData} {ps : List Str} {sp : Sp} (F : FnOk P w K mg base CX k f fd ps sp) : FnG P w K mg base CX k f fd ps sp :=
  ⟨F.len, fun A outer s H args us vs Q E _ => F.run A outer s H args us vs Q E⟩
end Ys
namespace Ys
open PySem PySem.Spec PyProof.Rows L2
section
variable {P : Program} {w : World} {K : PySem.W.Frag} {mg : Str → Option Value} {base : Heap} {x qual : Str} {params : Arguments} {body : List Stmt} {scope : Scope} {dvs : List V} {kws : List (Str × V)} {f : Addr} {fd : FuncData}
theorem okG {CX : CXT} {N ps : List Str} {k : Nat} {sp : Sp} (F : FunD K x qual params body scope dvs kws f fd) (S : FnScope N ps scope) (len : ∀ vs H Q E, sp vs H Q E → vs.length = ps.length)
    (hb : ∀ (cdv : Value) (A : Around) (outer : List Env) (s : Shared) (H : Hp) (vs : List V) (Q : VK) (E : XK), A.guards = some [] → Room k (A.deeper (envOfC qual scope s.heap.objs.size f cdv)) → sp vs H Q E →
      ∃ t, PSs (cxOf CX P w K mg base N qual scope f cdv A outer s H E) body t ∧ t { nx := fun _ H' => Q .non H', rt := Q } (start N vs) H) : FnG P w K mg base CX (k + 1) f fd ps sp := by
  obtain ⟨oc, od, dV, kV, doc, pm, an, cdv, ct, osl, rfl, lk, hcd, _, _⟩ := F.ex
  refine ⟨len, fun A outer s H args us vs Q E hg hr e0 hbd r hsp => ?_⟩
  have KX : K.In s.heap := e0.mod.kin.keeps fun b o e => (e0.bs b o e).1
  have lim : s.heap.NoLimit := e0.mod.nolimit.keeps fun b o e => (e0.bs b o e).1
  refine codeAny_call_function hr.depth (KX _ _ lk) rfl S.co S.gen rfl (PySem.W.codeRec_of KX hcd) (hbd _ _ _ _ (wpAny_newFunctionEnv_cells S.kind (fun y hy => ?_) fun env he s1 z => ?_))
  · rcases S.par y.1 (List.of_mem_zip (show (y.1, y.2) ∈ ps.zip us from hy)).1 with q | q
    · exact .inl q
    · exact .inr ⟨q, PySem.W.cellsFrom_some _ _ _ (.inl q)⟩
  · subst he
    refine ⟨lim.keeps z.toInCall.keep, codeAny_func ?_⟩
    obtain ⟨t, ht, hq⟩ := hb cdv A outer s H vs Q E hg (hr.deeper _) hsp
    have I : Inv (cxOf CX P w K mg base N qual scope f cdv A outer s H E) [] (start N vs) H s1 := inv_start S hr.hd e0 (len _ _ _ _ hsp) r z
    refine wpAny_mono (ht.run [] s1 (start N vs) H _ I hq) (fun fl s' hs => ?_) fun e s' hs => hs
    cases fl with
    | ret u => exact let ⟨v, σ', H', J, rv, q⟩ := hs; ⟨v, H', J.os, J.bare, J.base, J.hok, rv, q⟩
    | next => exact let ⟨σ', H', J, q⟩ := hs; ⟨.non, H', J.os, J.bare, J.base, J.hok, rfl, q⟩
    | brk => exact let ⟨_, _, _, q⟩ := hs; q.elim
    | cont => exact let ⟨_, _, _, q⟩ := hs; q.elim
end

theorem law_callG {P : Program} {w : World} {K : PySem.W.Frag} {mg mb : Str → Option Value} {CX : CXT} {k : Nat} {fa a : Addr} {fd : FuncData} {x : Str} {sp : Sp} {s1 : Shared} {vs : List Value} {ns : List Int}
    (KX : K.In s1.heap) (hns : s1.heap.Ns mainGlobals mg) (hb : s1.heap.Ns builtinsNs mb) (hbb : ∀ x : Str, x ≠ "__name__" → mb x = bootBuiltins x) (hlim : s1.heap.NoLimit) (hg : s1.gens = #[])
    (ha : s1.heap.get? a = some { cls := .type "list", data := .seq vs.toArray }) (hi : IntsAre vs ns) (hl : ns.length ≤ sizeLine) (hr : Room k callerA)
    (F : ∀ base : Heap, K.In base → base.Ns mainGlobals mg → FnG P w K mg base CX k fa fd [x] sp) (hbind : ∀ (s : Shared) (u : Value), BindsTo s fd ⟨[u], []⟩ [(x, u)])
    (hsp : ∀ H : Hp, Only H → SqL K H a (ns.map V.int) → sp [.ref a] H (fun v _ => v = .bl true) fun _ _ _ => False) (hCX : ∀ H e s', CX [] H s1 (fun _ _ _ => False) e s' → False) :
    codeAny (model P w) callerA (.call (.ref fa) ⟨[.ref a], []⟩) (fun r s' => r = .ok (.ret (.bool true)) ∧ OldK s1.heap s'.heap ∧ s'.os = s1.os ∧ AllBare s'.gens) s1 := by
  have rv := vals_ints hi
  have len := hi.length
  -- what is tracked: the script, where the written part does not hold it
  obtain ⟨H, hO, hS, hok, hA, hK⟩ : ∃ H : Hp, Only H ∧ SqL K H a (ns.map V.int) ∧ HOk P w H s1.heap ∧ (∀ b u, H b = some u → b = a) ∧ (∀ u, H a = some u → K.lookup a = none) := by
    cases hk : K.lookup a with
    | some o =>
      have e := KX a o hk
      rw [ha] at e
      cases e
      exact ⟨fun _ => none, fun _ => .inl rfl, .inr ⟨_, vs.toArray, _, hk, rfl, rfl, rfl, by rw [List.size_toArray, len]; exact hl, by simpa using rv⟩, (fun b u (z : (none : Option HO) = some u) => by cases z), (fun b u (z : (none : Option HO) = some u) => by cases z), (fun u (z : (none : Option HO) = some u) => by cases z)⟩
    | none =>
      have at_ : ∀ b u, (if b = a then some (HO.frz { cls := .type "list", data := .seq vs.toArray } (.lst (ns.map V.int))) else none) = some u → b = a ∧ u = .frz { cls := .type "list", data := .seq vs.toArray } (.lst (ns.map V.int)) := fun b u z => by
        by_cases c : b = a
        · rw [if_pos c] at z
          exact ⟨c, (Option.some.inj z).symm⟩
        · rw [if_neg c] at z
          cases z
      refine ⟨fun b => if b = a then some (.frz { cls := .type "list", data := .seq vs.toArray } (.lst (ns.map V.int))) else none, fun b => ?_, .inl (.inr ⟨_, if_pos rfl⟩), fun b u z => ?_, fun b u z => (at_ b u z).1, fun _ _ => rfl⟩
      · by_cases c : b = a
        · exact .inr ⟨_, _, if_pos c⟩
        · exact .inl (if_neg c)
      · obtain ⟨rfl, rfl⟩ := at_ b u z
        exact ⟨ha, by rw [List.length_map]; exact hl, vs, _, rv, ha⟩
  have free : ∀ {b : Addr} {o : Obj} {es : Array DictEntry} {ep : Nat}, s1.heap.get? b = some o → o.data = .dict es ep → H b = none := fun {b o es ep} e d => by
    cases q : H b with
    | none => rfl
    | some u =>
      obtain rfl := hA b u q
      rw [ha] at e
      cases e
      exact nomatch (show Data.seq vs.toArray _ = Data.dict es ep from d)
  have ns_ : ∀ {b : Addr} {m : Str → Option Value}, s1.heap.Ns b m → (hidT s1.heap H).Ns b m := fun {b m} ⟨o, es, ep, e, d, r⟩ => ⟨o, es, ep, hidT_get e (free e d), d, r⟩
  have kb : K.In (hidT s1.heap H) := fun b o e => hidT_get (KX b o e) (by
    cases q : H b with
    | none => rfl
    | some u =>
      obtain rfl := hA b u q
      rw [hK u q] at e
      cases e)
  have md : Mod K mg (hidT s1.heap H) := ⟨kb, ns_ hns, ⟨mb, ns_ hb, hbb⟩, let ⟨mc, h1, h2⟩ := hlim; ⟨mc, ns_ h1, h2⟩⟩
  have e0 : Env0 P w K mg (hidT s1.heap H) callerA [] s1 H := ⟨rfl, md, fun b o e => of_hidT e, Nat.le_of_eq (hidT_size _ _), trivial, fun b hb => absurd (show b ∈ ([] : List Addr) from hb) (by simp), hok, .of_eq hg⟩
  refine codeAny_mono ((F _ kb (ns_ hns)).run callerA [] s1 H ⟨[.ref a], []⟩ [.ref a] [.ref a] _ _ rfl hr e0 (hbind s1 (.ref a)) (.cons rfl .nil) (hsp H hO hS)) fun r s' h => ?_
  cases r with
  | error e => exact (hCX H e s' h).elim
  | ok fl =>
    cases fl with
    | next => exact False.elim h
    | brk => exact False.elim h
    | cont => exact False.elim h
    | ret u =>
      obtain ⟨v, H', os, bare, un, hok', r', q⟩ := h
      obtain rfl : v = .bl true := q
      obtain rfl : u = Value.bool true := r'
      refine ⟨rfl, OldK.of_keep fun b o e => ?_, os, bare⟩
      cases q : H b with
      | none => exact un.keep b o e q (fun z => absurd (show b ∈ ([] : List Addr) from z) (by simp)) (by simp)
      | some u =>
        rcases hO b with z | ⟨ob, xs, z⟩
        · rw [q] at z; cases z
        · obtain ⟨e1, _⟩ := hok b _ z
          obtain ⟨e2, _⟩ := hok' b _ (un.frzs b ob _ z)
          rw [e] at e1
          cases e1
          exact e2

theorem walk_ofG {l : PySem.W.OpenLaw} {n k : Nat} {q : Program} {loose : List Str} {XP : (Str → Option Value) → Heap → Prop} {YP : World → Heap → Prop} {d : DefRec} {CX : World → CXT} {x : Str}
    (hn : l.most = some n) (hn2 : n ≤ sizeLine) (hdf : d.params.defaults = []) (hr : Room k callerA)
    (F : ∀ (w : World) (mg : Str → Option Value) (fa : Addr) (h : Heap), YP w h → h.Ns mainGlobals mg → mg d.name = some (.ref fa) →
      ∃ (K : PySem.W.Frag) (fd : FuncData) (sp : Sp), K.In h ∧ (∀ (s : Shared) (u : Value), BindsTo s fd ⟨[u], []⟩ [(x, u)]) ∧
        (∀ (H : Hp) (a : Addr) (ns : List Int), ns.length ≤ n → Only H → SqL K H a (ns.map V.int) → sp [.ref a] H (fun v _ => v = .bl true) fun _ _ _ => False) ∧
        ∀ base : Heap, K.In base → base.Ns mainGlobals mg → FnG l.prog w K mg base (CX w) k fa fd [x] sp)
    (hCX : ∀ (w : World) (H : Hp) (s : Shared) (e : Value) (s' : Shared), CX w [] H s (fun _ _ _ => False) e s' → False) :
    PySem.W.WalkO q loose XP YP l.row.toRowW d [] (fun f vs => PySem.call f vs) := by
  refine Att.attach_call hn hdf fun w s0 s1 mg mb fa o pm cd doc a vs ns G Y ho hd hcd hmg hobj hints hlen hg => ?_
  obtain ⟨K, fd, sp, KX, hb, hsp, hF⟩ := F w mg fa _ Y G.T.g hmg
  exact law_callG KX G.T.g G.T.b G.T.builtins G.T.nolimit hg hobj hints (Nat.le_trans hlen hn2) hr hF hb (fun H hO hS => hsp H a ns hlen hO hS) fun H e s' => hCX w H s1 e s'

/-! ### the Hook: any look at the written part, which holds the table of modules too -/
def obsY (fb : PySem.W.Frag → Bool) (fn : List He.DefD) (K : PySem.W.Frag) : He.AlD := (fb K && fn.all fun d => d.ok K, fn.map fun d => He.fnW K d.at_)
def SaysY (fb : PySem.W.Frag → Bool) (fn : List He.DefD) (K : PySem.W.Frag) : Prop := obsY fb fn K = He.valD fn
def frY (n : Nat) (g : Addr → Option Obj) : PySem.W.Frag := He.frG g (sysModules :: He.asD g n)
def hookY (n : Nat) (fb : PySem.W.Frag → Bool) (fn : List He.DefD) : PySem.W.Hook where
  α := He.AlD
  obs := fun s => obsY fb fn (frY n s.heap.get?)
  val := fun _ => He.valD fn
  says := fun _ h => ∃ K : PySem.W.Frag, K.In h ∧ SaysY fb fn K
  of := fun _ _ e => ⟨_, He.frG_in, e⟩
  keeps := fun _ _ _ ⟨K, hK, c⟩ k => ⟨K, PySem.W.Frag.In.keeps hK k, c⟩
def obY (n : Nat) (fb : PySem.W.Frag → Bool) (fn : List He.DefD) (s : PySem.W.SharedT) : He.AlD := obsY fb fn (frY n (HandSHeadRun.getT s))
theorem obY_eq {n : Nat} {fb : PySem.W.Frag → Bool} {fn : List He.DefD} (s : PySem.W.SharedT) : obY n fb fn s = (hookY n fb fn).obs s.abs := by
  have e : HandSHeadRun.getT s = s.abs.heap.get? := funext (HandSHeadRun.getT_eq s)
  unfold obY
  rw [e]
  rfl
section
variable {fb : PySem.W.Frag → Bool} {fn : List He.DefD} {K : PySem.W.Frag}
theorem SaysY.look (c : SaysY fb fn K) : fb K = true := (He.ba (show (fb K && fn.all fun d => d.ok K) = true from congrArg (fun z : He.AlD => z.1) c)).1
theorem SaysY.def_ (c : SaysY fb fn K) (i : Nat) {d : He.DefD} (h : fn[i]? = some d := by rfl) : ∃ fd, FunD K d.name d.qual d.params d.body d.scope (d.dvs K) (d.kws K) (He.fAd K d.at_) fd := by
  have c2 := (He.ba (show (fb K && fn.all fun d => d.ok K) = true from congrArg (fun z : He.AlD => z.1) c)).2
  have e : (fn.map fun d => He.fnW K d.at_)[i]? = (fn.map He.DefD.val)[i]? := by rw [show fn.map (fun d => He.fnW K d.at_) = fn.map He.DefD.val from congrArg (fun z : He.AlD => z.2) c]
  rw [List.getElem?_map, List.getElem?_map, h] at e
  exact He.DefD.funD (Option.some.inj e) (List.all_eq_true.mp c2 d (List.mem_of_getElem? h))
theorem sysB_ok (h : sysB K = true) : SysIn K := by
  unfold sysB at h
  cases q : K.lookup sysModules with
  | none => rw [q] at h; cases h
  | some o =>
    rw [q] at h
    exact ⟨o, q, eq_of_beq h⟩
end
end Ys
namespace Ys
open PySem PySem.Spec PyProof.Rows L2
/-! ### the state: G is known and stays, M may change -/
structure Zp (G : Hp) (M : List (Addr × HO)) (H : Hp) : Prop where
  sub : ∀ a o, G a = some o → H a = some o
  own : ∀ (i : Nat) p o, M[i]? = some (p, o) → H p = some o ∧ G p = none
  nd : (M.map (·.1)).Nodup
section
variable {G G0 G1 H H1 : Hp} {M M1 : List (Addr × HO)} {p a : Addr} {o o1 : HO} {K : PySem.W.Frag} {v : V} {d : PyData} {xs vs : List V} {ds : List PyData}
theorem Zp.free (z : Zp G M H) (h : H p = none) : G p = none := by
  cases q : G p with
  | none => rfl
  | some o => rw [z.sub p o q] at h; cases h
theorem Zp.ne (z : Zp G M H) (h : H p = none) {i : Nat} {q : Addr} (e : M[i]? = some (q, o)) : q ≠ p := by
  rintro rfl
  rw [(z.own i q o e).1] at h
  cases h
theorem Same.new (h : G p = none) : Same G (upd G p o) := fun b u e => by
  rw [upd_ne (ne_of_none e h)]
  exact e
theorem Zp.new (z : Zp G M H) (h : H p = none) (o : HO) : Zp (upd G p o) M (upd H p o) where
  sub := fun a u e => by
    by_cases c : a = p
    · subst c
      rw [upd_same] at e ⊢
      exact e
    · rw [upd_ne c] at e ⊢
      exact z.sub a u e
  own := fun i q u e => by
    have ne := z.ne h e
    rw [upd_ne ne, upd_ne ne]
    exact z.own i q u e
  nd := z.nd
theorem Zp.add (z : Zp G M H) (h : H p = none) (o : HO) : Zp G (M ++ [(p, o)]) (upd H p o) where
  sub := fun a u e => by
    rw [upd_ne (ne_of_none (z.sub a u e) h)]
    exact z.sub a u e
  own := fun i q u e => by
    by_cases c : i < M.length
    · rw [List.getElem?_append_left c] at e
      rw [upd_ne (z.ne h e)]
      exact z.own i q u e
    · rw [List.getElem?_append_right (by omega)] at e
      have e0 : i - M.length = 0 := by
        cases n : i - M.length with
        | zero => rfl
        | succ k => rw [n] at e; simp at e
      rw [e0] at e
      obtain ⟨rfl, rfl⟩ : p = q ∧ o = u := by simpa using e
      exact ⟨upd_same, z.free h⟩
  nd := by
    rw [List.map_append, List.nodup_append]
    refine ⟨z.nd, by simp, fun x hx y hy => ?_⟩
    obtain ⟨⟨q, u⟩, hq, rfl⟩ := List.mem_map.mp hx
    obtain rfl : y = p := by simpa using hy
    obtain ⟨i, hi⟩ := List.getElem?_of_mem hq
    exact z.ne h hi
theorem Zp.at_ (z : Zp G M H) (i : Nat) (e : M[i]? = some (p, o)) : H p = some o := (z.own i p o e).1
theorem Zp.put (z : Zp G M H) (i : Nat) (e : M[i]? = some (p, o)) (o1 : HO) : Zp G (M.set i (p, o1)) (upd H p o1) where
  sub := fun a u q => by
    have n := (z.own i p o e).2
    rw [upd_ne (ne_of_none q n)]
    exact z.sub a u q
  own := fun j q u ej => by
    by_cases c : j = i
    · subst c
      rw [List.getElem?_set_self (List.getElem?_eq_some_iff.mp e).1] at ej
      obtain ⟨rfl, rfl⟩ : p = q ∧ o1 = u := by simpa using ej
      exact ⟨upd_same, (z.own j p o e).2⟩
    · rw [List.getElem?_set_ne (fun h => c h.symm)] at ej
      have ne : q ≠ p := by
        rintro rfl
        have hi := (List.getElem?_eq_some_iff.mp e).1
        have hj := (List.getElem?_eq_some_iff.mp ej).1
        have e1 : (M.map (·.1))[i]? = some q := by rw [List.getElem?_map, e]; rfl
        have e2 : (M.map (·.1))[j]? = some q := by rw [List.getElem?_map, ej]; rfl
        exact c ((List.getElem?_inj (by simpa using hj) z.nd).mp (e2.trans e1.symm))
      rw [upd_ne ne]
      exact z.own j q u ej
  nd := by
    have e1 : ((M.set i (p, o1)).map (·.1)) = M.map (·.1) := by
      rw [List.map_set]
      apply List.ext_getElem?
      intro j
      by_cases c : j = i
      · subst c
        have hi := (List.getElem?_eq_some_iff.mp e).1
        rw [List.getElem?_set_self (by simpa using hi), List.getElem?_map, e]
        rfl
      · rw [List.getElem?_set_ne (fun h => c h.symm)]
    rw [e1]
    exact z.nd
theorem Zp.fix (z : Zp G (M ++ [(p, o)]) H) : Zp (upd G p o) M H := by
  have e : (M ++ [(p, o)])[M.length]? = some (p, o) := by simp
  obtain ⟨h1, h2⟩ := z.own _ p o e
  have nd := z.nd
  rw [List.map_append, List.nodup_append] at nd
  refine ⟨fun a u q => ?_, fun i q u ei => ?_, nd.1⟩
  · by_cases c : a = p
    · subst c
      rw [upd_same] at q
      rw [h1]
      exact q
    · rw [upd_ne c] at q
      exact z.sub a u q
  · have hi := (List.getElem?_eq_some_iff.mp ei).1
    have ne : q ≠ p := by
      have := nd.2.2 q (List.mem_map.mpr ⟨(q, u), List.mem_of_getElem? ei, rfl⟩) p (by simp)
      exact this
    rw [upd_ne ne]
    exact z.own i q u (by rw [List.getElem?_append_left hi]; exact ei)
theorem Zp.cut (z : Zp G (M ++ M1) H) : Zp G M H where
  sub := z.sub
  own := fun i q u e => z.own i q u (by rw [List.getElem?_append_left (List.getElem?_eq_some_iff.mp e).1]; exact e)
  nd := by
    have nd := z.nd
    rw [List.map_append, List.nodup_append] at nd
    exact nd.1
theorem Zp.seqL (z : Zp G M H) (h : SqL K G a xs) : SqL K H a xs := by
  rcases h with (h | ⟨o, h⟩) | h
  · exact .inl (.inl (z.sub _ _ h))
  · exact .inl (.inr ⟨o, z.sub _ _ h⟩)
  · exact .inr h
theorem Zp.seqT (z : Zp G M H) (h : SqT K G a xs) : SqT K H a xs := by
  rcases h with (h | ⟨o, h⟩) | h
  · exact .inl (.inl (z.sub _ _ h))
  · exact .inl (.inr ⟨o, z.sub _ _ h⟩)
  · exact .inr h
theorem upL (s : Same G G1) (h : SqL K G a xs) : SqL K G1 a xs := s.seq h
theorem upT (s : Same G G1) (h : SqT K G a xs) : SqT K G1 a xs := by
  rcases h with (h | ⟨o, h⟩) | h
  · exact .inl (.inl (s _ _ h))
  · exact .inl (.inr ⟨o, s _ _ h⟩)
  · exact .inr h
theorem upR (s : Same G G1) (h : Rd G a o) : Rd G1 a o := by
  rcases h with h | ⟨o, h⟩
  · exact .inl (s _ _ h)
  · exact .inr ⟨o, s _ _ h⟩
end
mutual
theorem Dt.up {K : PySem.W.Frag} {G G1 : Hp} (s : Same G G1) : ∀ {v : V} {d : PyData}, Dt K G v d → Dt K G1 v d
  | _, _, .non => .non
  | _, _, .bl b => .bl b
  | _, _, .int i => .int i
  | _, _, .str x => .str x
  | _, _, .lst h a => .lst (upL s h) (Dts.up s a)
  | _, _, .tup h a => .tup (upT s h) (Dts.up s a)
  | _, _, .dct h k a => .dct (upR s h) k (Dts.up s a)
theorem Dts.up {K : PySem.W.Frag} {G G1 : Hp} (s : Same G G1) : ∀ {v : List V} {d : List PyData}, Dts K G v d → Dts K G1 v d
  | _, _, .nil => .nil
  | _, _, .cons h a => .cons (Dt.up s h) (Dts.up s a)
end
theorem Zp.dt {K : PySem.W.Frag} {G H : Hp} {M : List (Addr × HO)} {v : V} {d : PyData} (z : Zp G M H) (h : Dt K G v d) : Dt K H v d := h.up z.sub
end Ys
namespace Ys
open PySem PySem.Spec PyProof.Rows L2
/-! ### operators over any values -/
section
variable {X : Cx}
def rCatL (K : PySem.W.Frag) : R2 := fun x y H Q => ∃ l b xs zs, x = .ref l ∧ y = .ref b ∧ H l = some (.lst xs) ∧ H b = some (.lst zs) ∧ xs.length + zs.length ≤ sizeLine ∧ ∀ p, H p = none → Q (.ref p) (upd H p (.lst (xs ++ zs)))
def rStr2 : R2 := fun x y H Q => ∃ i j, x = .str i ∧ y = .str j ∧ i.length + j.length ≤ sizeLine ∧ Q (.str (i ++ j)) H
def rAddG (K : PySem.W.Frag) : R2 := fun x y H Q => rI0 (fun i j => .int (i + j)) x y H Q ∨ rStr2 x y H Q ∨ rCat x y H Q ∨ rCatA K x y H Q
theorem op_addG : OpR X (binaryOp .Add) (rAddG X.K) := op_add.or ((show OpR X (binaryOp .Add) rStr2 from op_add_str).or (op_cat.or op_catA))
def rEqLen (K : PySem.W.Frag) (r : Bool) : R2 := fun x y H Q => ∃ a b xs ys, x = V.ref a ∧ y = V.ref b ∧ SqL K H a xs ∧ SqL K H b ys ∧ xs.length ≠ ys.length ∧ Q (.bl r) H
theorem isl {X : Cx} {pins : List (Addr × Obj)} {σ : L2.St} {H : Hp} {s : Shared} {a : Addr} {xs : List V} (I : Inv X pins σ H s) (h : SqL X.K H a xs) : ∃ its : List Value, its.length = xs.length ∧ s.heap.IsList a its.toArray := by
  obtain ⟨its, rv, ⟨o, n, ho, hc, hx, hd⟩, _⟩ := I.list h
  exact ⟨its, rv.length.symm, o, ho, hc, n, hd⟩
theorem op_eqLen (hu : X.A.units + 64 < cLine) : OpR X (compareOp .Eq) (rEqLen X.K false) := by
  intro pins s σ H x y v u Q I rx ry ⟨a, b, xs, ys, e1, e2, h1, h2, hne, q⟩
  subst e1 e2
  cases rx
  cases ry
  obtain ⟨i1, l1, j1⟩ := isl I h1
  obtain ⟨i2, l2, j2⟩ := isl I h2
  exact PySem.SeqAt.RcAt.lists_lengths j1 j2 (by rw [List.size_toArray, List.size_toArray, l1, l2]; exact bne_iff_ne.mpr hne) (by omega) X.prog X.w X.xe _ ⟨.bl false, H, I, rfl, q⟩
theorem op_neLen (hu : X.A.units + 64 < cLine) : OpR X (compareOp .NotEq) (rEqLen X.K true) := by
  intro pins s σ H x y v u Q I rx ry ⟨a, b, xs, ys, e1, e2, h1, h2, hne, q⟩
  subst e1 e2
  cases rx
  cases ry
  obtain ⟨i1, l1, j1⟩ := isl I h1
  obtain ⟨i2, l2, j2⟩ := isl I h2
  exact PySem.SeqAt.RcNeAt.lists_lengths j1 j2 (by rw [List.size_toArray, List.size_toArray, l1, l2]; exact bne_iff_ne.mpr hne) (by omega) X.prog X.w X.xe _ ⟨.bl true, H, I, rfl, q⟩
def rEqG (K : PySem.W.Frag) : R2 := fun x y H Q => rEq x y H Q ∨ rEqD K x y H Q ∨ rEqLen K false x y H Q
def rNeG (K : PySem.W.Frag) : R2 := fun x y H Q => rNe x y H Q ∨ rNeD K x y H Q ∨ rEqLen K true x y H Q
theorem op_eqG (hu : X.A.units + 64 < cLine) : OpR X (compareOp .Eq) (rEqG X.K) := op_eq.or ((op_eqD hu).or (op_eqLen hu))
theorem op_neG (hu : X.A.units + 64 < cLine) : OpR X (compareOp .NotEq) (rNeG X.K) := op_ne.or ((op_neD hu).or (op_neLen hu))
def rSlG (K : PySem.W.Frag) : V → Option Int → Option Int → Hp → VK → Prop := fun x lo hi H Q => rSlL K x lo hi H Q ∨ rSlA K x lo hi H Q ∨ rSlS x lo hi H Q
theorem sl_any : SlR X (rSlG X.K) := sl_list.or (sl_tupA.or sl_str)
abbrev rMulG : R2 := rI CMulW fun i j => .int (i * j)
abbrev rDivG : R2 := rI CDivW fun i j => .int (i / j)
abbrev rModG : R2 := rI (fun _ j => 0 < j) fun i j => .int (i % j)
abbrev rPowG : R2 := rI CPow fun i j => .int (i ^ j.toNat)
abbrev rSubG : R2 := rI0 fun i j => .int (i - j)
abbrev rLtG : R2 := rI0 fun i j => .bl (decide (i < j))
abbrev rLeG : R2 := rI0 fun i j => .bl (decide (i ≤ j))
abbrev rGtG : R2 := rI0 fun i j => .bl (decide (j < i))
abbrev rGeG : R2 := rI0 fun i j => .bl (decide (j ≤ i))
theorem o_sub : OpR X (binaryOp .Sub) rSubG := op_sub
theorem o_mul : OpR X (binaryOp .Mult) rMulG := op_mulW
theorem o_div : OpR X (binaryOp .FloorDiv) rDivG := op_fdivW
theorem o_mod : OpR X (binaryOp .Mod) rModG := op_mod
theorem o_pow : OpR X (binaryOp .Pow) rPowG := op_pow
theorem o_lt : OpR X (compareOp .Lt) rLtG := op_lt
theorem o_le : OpR X (compareOp .LtE) rLeG := op_le
theorem o_gt : OpR X (compareOp .Gt) rGtG := op_gt
theorem o_ge : OpR X (compareOp .GtE) rGeG := op_ge
abbrev rIsNon : R2 := fun x y H Q => y = .non ∧ Q (.bl (decide (x = .non))) H
abbrev rNotNon : R2 := fun x y H Q => y = .non ∧ Q (.bl (!decide (x = .non))) H
theorem o_isN : OpR X (compareOp .Is) rIsNon := op_isN
theorem o_notN : OpR X (compareOp .IsNot) rNotNon := op_notN
def rInG (K : PySem.W.Frag) (neg : Bool) : R2 := fun x y H Q => (∃ c z, x = V.str ⟨#[c]⟩ ∧ y = V.str z ∧ Q (.bl (if neg then !decide (c ∈ z.cps.toList) else decide (c ∈ z.cps.toList))) H) ∨ rIn K neg x y H Q
theorem o_in : OpR X (compareOp .In) (rInG X.K false) := by
  refine OpR.or ?_ op_in_seq
  intro pins s σ H x y v u Q I rx ry ⟨c, z, e1, e2, q⟩
  exact op_in_sign pins s σ H x y v u Q I rx ry ⟨c, z, e1, e2, by simpa using q⟩
theorem o_notIn : OpR X (compareOp .NotIn) (rInG X.K true) := by
  refine OpR.or ?_ op_notIn_seq
  intro pins s σ H x y v u Q I rx ry ⟨c, z, e1, e2, q⟩
  exact op_notIn_sign pins s σ H x y v u Q I rx ry ⟨c, z, e1, e2, by simpa using q⟩
def rIntG : List V → Hp → VK → Prop := fun xs H Q => (∃ i, xs = [.int i] ∧ Q (.int i) H) ∨ ∃ k, xs = [.bl k] ∧ Q (.int (if k then 1 else 0)) H
theorem c_int : CallR X (.type "int") rIntG := call_int1
def rLenG (K : PySem.W.Frag) (P : Program) (w : World) : List V → Hp → VK → Prop := fun xs H Q => (∃ x n, xs = [x] ∧ LenV K x H n ∧ Q (.int n) H) ∨ rLenTx P w xs H Q
theorem c_len : CallR X (.builtin "len") (rLenG X.K X.prog X.w) := CallR.or call_len cr_lenTx
def rListG (K : PySem.W.Frag) : List V → Hp → VK → Prop := fun xs H Q => ∃ p ys, xs = [V.ref p] ∧ (SqL K H p ys ∨ SqT K H p ys) ∧ ∀ l, H l = none → Q (.ref l) (upd H l (.lst ys))
theorem c_list : CallR X (.type "list") (rListG X.K) := call_list_of
def rTupG (K : PySem.W.Frag) : List V → Hp → VK → Prop := fun xs H Q => ∃ p ys, xs = [V.ref p] ∧ ((SqL K H p ys ∧ ∀ l, H l = none → Q (.ref l) (upd H l (.tup ys))) ∨ (SqT K H p ys ∧ Q (.ref p) H))
theorem c_tuple : CallR X (.type "tuple") (rTupG X.K) := call_tuple_of
def rMin2 : List V → Hp → VK → Prop := fun xs H Q => ∃ i j, xs = [V.int i, V.int j] ∧ Q (.int (if j < i then j else i)) H
theorem c_min2 (hc : X.calm = true) : CallR X (.builtin "min") rMin2 := call_min2 hc
def rAllG (K : PySem.W.Frag) : List V → Hp → VK → Prop := fun vs H Q => ∃ (a : Addr) (bs : List Bool), vs = [V.ref a] ∧ SqL K H a (bs.map V.bl) ∧ Q (.bl (bs.all id)) H
theorem c_all (hc : X.calm = true) : CallR X (.builtin "all") (rAllG X.K) := cr_all hc
def rSortG (K : PySem.W.Frag) (P : Program) (w : World) : List V → Hp → VK → Prop := fun vs H Q => rSortTx P w vs H Q ∨ rSortedS K vs H Q
theorem c_sorted (hc : X.calm = true) : CallR X (.builtin "sorted") (rSortG X.K X.prog X.w) := CallR.or (cr_sortTx hc) cr_sortedS
end

/-! ### the steps of a reading -/
def Bif (c : Bool) (A B : Prop) : Prop := if c = true then A else B
def IsB (x : V) (H : Hp) (Q : Bool → Hp → Prop) : Prop := ∃ k, x = .bl k ∧ Q k H
def IsP (x : V) (H : Hp) (Q : Option Int → Hp → Prop) : Prop := ∃ i, x = .int i ∧ Q (some i) H
def NewT (xs : List V) (H : Hp) (Q : VK) : Prop := xs.length ≤ sizeLine ∧ ∀ p, H p = none → Q (.ref p) (upd H p (.tup xs))
def NewL (xs : List V) (H : Hp) (Q : VK) : Prop := xs.length ≤ sizeLine ∧ ∀ p, H p = none → Q (.ref p) (upd H p (.lst xs))
section
variable {K : PySem.W.Frag} {G H : Hp} {M : List (Addr × HO)} {σ : L2.St} {Q : VK} {QB : Bool → Hp → Prop} {QO : Option Int → Hp → Prop} {QA : List V → Hp → Prop} {D : Ends} {ta tb te : TE} {tt uu : TT} {tr t : TA} {t1 t2 : TS} {r : R2} {A B : Prop} {c : Bool} {v x y : V} {i j : Int} {k : Nat} {p a b : Addr} {xs ys vs : List V} {sp : Sp} {E : XK} {g : TG}
theorem z_var (h : σ[k]? = some (some v)) (q : Q v H) : tVar k σ H Q := ⟨v, h, q⟩
theorem z_c (q : Q v H) : tC v σ H Q := q
theorem z_op (h : ta σ H fun x H1 => tb σ H1 fun y H2 => r x y H2 Q) : tOp r ta tb σ H Q := h
theorem z_un {r : V → Hp → VK → Prop} (h : ta σ H fun x H1 => r x H1 Q) : tUn r ta σ H Q := h
theorem z_test (h : te σ H fun x H1 => IsB x H1 QB) : tTest te σ H QB := h
theorem z_tB (h : te σ H fun x H1 => IsB x H1 QB) : tB te σ H QB := h
theorem z_isB (q : QB c H) : IsB (.bl c) H QB := ⟨c, rfl, q⟩
theorem z_bT (h : A) : Bif true A B := by unfold Bif; rw [if_pos rfl]; exact h
theorem z_bF (h : B) : Bif false A B := by unfold Bif; rw [if_neg Bool.false_ne_true]; exact h
theorem z_b2 (h1 : c = true → A) (h2 : c = false → B) : Bif c A B := by
  cases c with
  | true => exact z_bT (h1 rfl)
  | false => exact z_bF (h2 rfl)
theorem z_bN (h : Bif c B A) : Bif (!c) A B := by cases c with | true => exact h | false => exact h
theorem z_bD {p : Prop} [Decidable p] (h1 : p → A) (h2 : ¬ p → B) : Bif (decide p) A B := z_b2 (fun h => h1 (of_decide_eq_true h)) fun h => h2 (of_decide_eq_false h)
theorem z_and (h : tt σ H fun c H1 => Bif c (uu σ H1 QB) (QB false H1)) : tAnd tt uu σ H QB := h
theorem z_or (h : tt σ H fun c H1 => Bif c (QB true H1) (uu σ H1 QB)) : tOr tt uu σ H QB := h
theorem z_not (h : tt σ H fun c H1 => QB (!c) H1) : tNot tt σ H QB := h
theorem z_andV (h : ta σ H fun x H1 => IsB x H1 fun c H1 => Bif c (tb σ H1 Q) (Q (.bl false) H1)) : tAndV ta tb σ H Q := h
theorem z_orV (h : ta σ H fun x H1 => IsB x H1 fun c H1 => Bif c (Q (.bl true) H1) (tb σ H1 Q)) : tOrV ta tb σ H Q := h
theorem z_notV (h : ta σ H fun x H1 => IsB x H1 fun c H1 => Q (.bl (!c)) H1) : tNotV ta σ H Q := h
theorem z_if (h : tt σ H fun c H1 => Bif c (ta σ H1 Q) (tb σ H1 Q)) : tIf tt ta tb σ H Q := h
theorem z_nil (q : QA [] H) : tNil σ H QA := q
theorem z_cons (h : ta σ H fun x H1 => tr σ H1 fun xs H2 => QA (x :: xs) H2) : tCons ta tr σ H QA := h
theorem z_tup (h : t σ H fun xs H1 => NewT xs H1 Q) : tTup t σ H Q := h
theorem z_lst (h : t σ H fun xs H1 => NewL xs H1 Q) : tLst t σ H Q := h
theorem z_cb {r : List V → Hp → VK → Prop} (h : t σ H fun vs H1 => r vs H1 Q) : tCB r t σ H Q := h
theorem z_call {dvs : List V} (h : t σ H fun vs H1 => sp (vs ++ dvs) H1 Q E) : tCall sp dvs E t σ H Q := h
theorem z_sl {r : V → Option Int → Option Int → Hp → VK → Prop} {tl th : TO} (h : te σ H fun x H1 => tl σ H1 fun l H2 => th σ H2 fun u H3 => r x l u H3 Q) : tSl r te tl th σ H Q := h
theorem z_np (q : QO none H) : tNoPart σ H QO := q
theorem z_part (h : te σ H fun x H1 => IsP x H1 QO) : tPart te σ H QO := h
theorem z_isP (q : QO (some i) H) : IsP (.int i) H QO := ⟨i, rfl, q⟩
theorem z_seq (h : t1 ⟨t2 D, D.rt, D.bk, D.ct⟩ σ H) : tSeq t1 t2 D σ H := h
theorem z_asg (h : te σ H fun x H1 => g x σ H1 D.nx) : tAsg te g D σ H := h
theorem z_name {R : L2.St → Hp → Prop} (q : R (σ.set k (some v)) H) : gName k v σ H R := q
theorem z_ifS (h : tt σ H fun b H1 => Bif b (t1 D σ H1) (t2 D σ H1)) : tIfS tt t1 t2 D σ H := h
theorem z_ret (h : te σ H D.rt) : tRet te D σ H := h
theorem z_retN (q : D.rt .non H) : tRetN D σ H := q
theorem z_drop (h : te σ H fun _ H1 => D.nx σ H1) : tDrop te D σ H := h
theorem z_next (q : D.nx σ H) : tNext D σ H := q
theorem z_par {k l : Nat} {w : V} (h : t σ H fun vs H1 => ∃ v w, vs = [v, w] ∧ D.nx ((σ.set k (some v)).set l (some w)) H1) : tPar k l t D σ H := h
theorem z_dget (h : ta σ H fun x H1 => tb σ H1 fun y H2 => ∃ a v, x = .ref a ∧ DGet H2 a y (some v) ∧ Q v H2) : tDGet ta tb σ H Q := h

/-! new objects -/
theorem z_newT (z : Zp G M H) (hl : xs.length ≤ 100000) (q : ∀ p G1 H1, Zp G1 M H1 → Same G G1 → G1 p = some (.tup xs) → Q (.ref p) H1) : NewT xs H Q :=
  ⟨Nat.le_trans hl (by decide), fun p hp => q p _ _ (z.new hp _) (Same.new (z.free hp)) upd_same⟩
theorem z_newL (z : Zp G M H) (hl : xs.length ≤ 100000) (q : ∀ p G1 H1, Zp G1 M H1 → Same G G1 → G1 p = some (.lst xs) → Q (.ref p) H1) : NewL xs H Q :=
  ⟨Nat.le_trans hl (by decide), fun p hp => q p _ _ (z.new hp _) (Same.new (z.free hp)) upd_same⟩
theorem z_ownL (z : Zp G M H) (hl : xs.length ≤ 100000) (q : ∀ p H1, Zp G (M ++ [(p, .lst xs)]) H1 → Q (.ref p) H1) : NewL xs H Q :=
  ⟨Nat.le_trans hl (by decide), fun p hp => q p _ (z.add hp _)⟩

/-! operators -/
theorem z_addI (q : Q (.int (i + j)) H) : rAddG K (.int i) (.int j) H Q := .inl ⟨i, j, rfl, rfl, q⟩
theorem z_addS {x y : Str} (hl : x.length + y.length ≤ 100000) (q : Q (.str (x ++ y)) H) : rAddG K (.str x) (.str y) H Q := .inr (.inl ⟨x, y, rfl, rfl, Nat.le_trans hl (by decide), q⟩)
theorem z_addL (z : Zp G M H) (h1 : G a = some (.lst xs)) (h2 : G b = some (.lst ys)) (hl : xs.length + ys.length ≤ 100000) (q : ∀ p G1 H1, Zp G1 M H1 → Same G G1 → G1 p = some (.lst (xs ++ ys)) → Q (.ref p) H1) : rAddG K (.ref a) (.ref b) H Q :=
  .inr (.inr (.inl ⟨a, b, xs, ys, rfl, rfl, z.sub _ _ h1, z.sub _ _ h2, Nat.le_trans hl (by decide), fun p hp => q p _ _ (z.new hp _) (Same.new (z.free hp)) upd_same⟩))
theorem z_addT (z : Zp G M H) (h1 : SqT K G a xs) (h2 : SqT K G b ys) (hl : xs.length + ys.length ≤ 100000) (q : ∀ p G1 H1, Zp G1 M H1 → Same G G1 → SqT K G1 p (xs ++ ys) → Q (.ref p) H1) : rAddG K (.ref a) (.ref b) H Q := by
  refine .inr (.inr (.inr ⟨a, b, xs, ys, rfl, rfl, z.seqT h1, z.seqT h2, Nat.le_trans hl (by decide), fun e => ?_, fun _ e => ?_, fun _ _ p hp => ?_⟩))
  · subst e
    exact q b G H z (Same.refl G) h2
  · subst e
    exact q a G H z (Same.refl G) (by rw [List.append_nil]; exact h1)
  · exact q p _ _ (z.new hp _) (Same.new (z.free hp)) (SqT.of upd_same)
theorem z_I0 {f : Int → Int → V} (q : Q (f i j) H) : rI0 f (.int i) (.int j) H Q := ⟨i, j, rfl, rfl, q⟩
theorem z_I {C : Int → Int → Prop} {f : Int → Int → V} (h : C i j) (q : Q (f i j) H) : rI C f (.int i) (.int j) H Q := ⟨i, j, rfl, rfl, h, q⟩
theorem z_eqS (h : scal x y = true) (q : Q (.bl (decide (x = y))) H) : rEqG K x y H Q := .inl ⟨h, q⟩
theorem z_neS (h : scal x y = true) (q : Q (.bl (!decide (x = y))) H) : rNeG K x y H Q := .inl ⟨h, q⟩
theorem z_eqD {d e : PyData} (z : Zp G M H) (h1 : Dt K G x d) (h2 : Dt K G y e) (c1 : SeqAt.shaped d = true) (c2 : SeqAt.shaped e = true) (q : Q (.bl (PyData.eqv d e)) H) : rEqG K x y H Q :=
  .inr (.inl ⟨d, e, Dt.dp d x (SeqAt.canLay_of_shaped c1) (z.dt h1), Dt.dp e y (SeqAt.canLay_of_shaped c2) (z.dt h2), c1, c2, q⟩)
theorem z_neD {d e : PyData} (z : Zp G M H) (h1 : Dt K G x d) (h2 : Dt K G y e) (c1 : SeqAt.shaped d = true) (c2 : SeqAt.shaped e = true) (q : Q (.bl (!PyData.eqv d e)) H) : rNeG K x y H Q :=
  .inr (.inl ⟨d, e, Dt.dp d x (SeqAt.canLay_of_shaped c1) (z.dt h1), Dt.dp e y (SeqAt.canLay_of_shaped c2) (z.dt h2), c1, c2, q⟩)
theorem z_ixL (z : Zp G M H) (h : SqL K G a xs) (e : atI xs i = some v) (q : Q v H) : rIx K (.ref a) (.int i) H Q := .inl ⟨a, xs, i, v, rfl, rfl, z.seqL h, e, q⟩
theorem z_ixT (z : Zp G M H) (h : SqT K G a xs) (e : atI xs i = some v) (q : Q v H) : rIx K (.ref a) (.int i) H Q := .inr (.inl ⟨a, xs, i, v, rfl, rfl, z.seqT h, e, q⟩)
theorem z_ixS {s : Str} {ch : Nat} (hl : s.length ≤ 100000) (e : atI s.cps.toList i = some ch) (q : Q (.str ⟨#[ch]⟩) H) : rIx K (.str s) (.int i) H Q := .inr (.inr ⟨s, i, ch, rfl, rfl, Nat.le_trans hl (by decide), e, q⟩)
theorem z_slL {lo hi : Option Int} (z : Zp G M H) (h : SqL K G a xs) (q : ∀ p G1 H1, Zp G1 M H1 → Same G G1 → G1 p = some (.lst (cutV xs lo hi)) → Q (.ref p) H1) : rSlG K (.ref a) lo hi H Q :=
  .inl ⟨a, xs, rfl, z.seqL h, fun p hp => q p _ _ (z.new hp _) (Same.new (z.free hp)) upd_same⟩
theorem sIx_all {lo hi : Option Int} (h : HT.sIx xs.length 0 lo = 0 ∧ HT.sIx xs.length xs.length hi = xs.length) : cutV xs lo hi = xs := by
  unfold cutV
  rw [h.1, h.2]
  simp
theorem z_slT {lo hi : Option Int} (z : Zp G M H) (h : SqT K G a xs) (q : ∀ p G1 H1, Zp G1 M H1 → Same G G1 → SqT K G1 p (cutV xs lo hi) → Q (.ref p) H1) : rSlG K (.ref a) lo hi H Q :=
  .inr (.inl ⟨a, xs, rfl, z.seqT h, fun e => q a G H z (Same.refl G) (by rw [sIx_all e]; exact h), fun _ p hp => q p _ _ (z.new hp _) (Same.new (z.free hp)) (SqT.of upd_same)⟩)
theorem z_slS {s : Str} {lo hi : Option Int} (hl : s.length ≤ 100000) (q : Q (.str (cutS s lo hi)) H) : rSlG K (.str s) lo hi H Q := .inr (.inr ⟨s, rfl, Nat.le_trans hl (by decide), q⟩)
/-! calls of what is built in -/
theorem z_int (q : Q (.int i) H) : rIntG [.int i] H Q := .inl ⟨i, rfl, q⟩
theorem z_lenL {P : Program} {w : World} (z : Zp G M H) (h : SqL K G a xs) (q : Q (.int xs.length) H) : rLenG K P w [.ref a] H Q := .inl ⟨_, _, rfl, .inl ⟨xs, z.seqL h, rfl⟩, q⟩
end
end Ys
namespace Ys
open PySem PySem.Spec PyProof.Rows L2
/-! ### sorted, different texts: one list alone -/
theorem ltCps_irr : ∀ xs : List Nat, ltCps xs xs = false := fun xs => by rw [ltCps_eq]; exact decide_eq_false (fun h => List.lt_irrefl xs h)
def leS (a b : Str) : Bool := !decide (b.cps.toList < a.cps.toList)
theorem leS_total (a b : Str) : (leS a b || leS b a) = true := by
  unfold leS
  by_cases h : b.cps.toList < a.cps.toList
  · have : ¬ a.cps.toList < b.cps.toList := fun h2 => List.lt_asymm h h2
    simp [h, this]
  · simp [h]
theorem leS_trans (a b c : Str) (h1 : leS a b = true) (h2 : leS b c = true) : leS a c = true := by
  unfold leS at *
  simp only [Bool.not_eq_true', decide_eq_false_iff_not, List.not_lt] at *
  exact List.le_trans h1 h2
theorem leS_anti {a b : Str} (h1 : leS a b = true) (h2 : leS b a = true) : a = b := by
  unfold leS at *
  simp only [Bool.not_eq_true', decide_eq_false_iff_not, List.not_lt] at *
  have e := List.le_antisymm h1 h2
  obtain ⟨⟨x⟩⟩ := a
  obtain ⟨⟨y⟩⟩ := b
  simp only at e
  rw [e]
theorem sortedS_pw : ∀ l : List Str, sortedS l = true → l.Pairwise (fun a b => leS a b = true)
  | [], _ => List.Pairwise.nil
  | x :: r, h => by
    have go : ∀ (r : List Str) (x : Str), risingS x r = true → (x :: r).Pairwise (fun a b => leS a b = true) := by
      intro r
      induction r with
      | nil => intro x _; exact List.pairwise_singleton _ _
      | cons y r ih =>
        intro x h
        obtain ⟨h1, h2⟩ := Bool.and_eq_true_iff.mp (show (!ltCps y.cps.toList x.cps.toList && risingS y r) = true from h)
        have hxy : leS x y = true := by
          unfold leS
          rw [← ltCps_eq]
          exact h1
        have p := ih y h2
        refine List.pairwise_cons.mpr ⟨fun z hz => ?_, p⟩
        rcases List.mem_cons.mp hz with rfl | hz
        · exact hxy
        · exact leS_trans _ _ _ hxy (List.rel_of_pairwise_cons p hz)
    exact go r x h
theorem perm_one {l m : List Str} (p : l.Perm m) (h1 : l.Pairwise (fun a b => leS a b = true)) (h2 : m.Pairwise (fun a b => leS a b = true)) : l = m :=
  List.Perm.eq_of_pairwise (le := fun a b => leS a b = true) (fun a b _ _ x y => leS_anti x y) h1 h2 p
def dd : List Str → List Str
  | [] => []
  | x :: r => if x ∈ r then dd r else x :: dd r
theorem mem_dd {x : Str} : ∀ {xs : List Str}, x ∈ dd xs ↔ x ∈ xs
  | [] => by simp [dd]
  | y :: r => by
    have ih := mem_dd (x := x) (xs := r)
    unfold dd
    by_cases h : y ∈ r
    · rw [if_pos h, ih, List.mem_cons]
      exact ⟨.inr, fun z => z.elim (fun e => e ▸ h) id⟩
    · rw [if_neg h, List.mem_cons, List.mem_cons, ih]
theorem dd_nodup : ∀ xs : List Str, (dd xs).Nodup
  | [] => List.nodup_nil
  | y :: r => by
    unfold dd
    by_cases h : y ∈ r
    · rw [if_pos h]
      exact dd_nodup r
    · rw [if_neg h]
      exact List.nodup_cons.mpr ⟨fun z => h (mem_dd.mp z), dd_nodup r⟩
def asc (xs : List Str) : List Str := (dd xs).mergeSort leS
theorem asc_mem {x : Str} {xs : List Str} : x ∈ asc xs ↔ x ∈ xs := by
  unfold asc
  rw [(List.mergeSort_perm _ _).mem_iff]
  exact mem_dd
theorem asc_nodup (xs : List Str) : (asc xs).Nodup := (List.mergeSort_perm _ _).nodup_iff.mpr (dd_nodup xs)
theorem asc_pw (xs : List Str) : (asc xs).Pairwise (fun a b => leS a b = true) := List.pairwise_mergeSort leS_trans leS_total _
theorem asc_is {xs ys l : List Str} (h1 : ys.Perm l) (h2 : sortedS ys = true) (nd : l.Nodup) (m : ∀ x, x ∈ l ↔ x ∈ xs) : ys = asc xs := by
  refine perm_one ?_ (sortedS_pw ys h2) (asc_pw xs)
  refine (List.perm_ext_iff_of_nodup (h1.nodup_iff.mpr nd) (asc_nodup xs)).mpr fun x => ?_
  rw [h1.mem_iff, m x, asc_mem]
theorem asc_congr {xs ys : List Str} (m : ∀ x, x ∈ xs ↔ x ∈ ys) : asc xs = asc ys := by
  refine perm_one ?_ (asc_pw _) (asc_pw _)
  exact (List.perm_ext_iff_of_nodup (asc_nodup xs) (asc_nodup ys)).mpr fun x => by rw [asc_mem, asc_mem, m x]
end Ys
namespace Ys
open PySem PySem.Spec PyProof.Rows L2
section
variable {K : PySem.W.Frag} {P : Program} {w : World} {G H : Hp} {M : List (Addr × HO)} {σ : L2.St} {Q : VK} {QB : Bool → Hp → Prop} {QA : List V → Hp → Prop} {D : Ends} {ta tb te : TE} {tt : TT} {t : TA} {ts : TS} {A : Prop} {v x y : V} {i j : Int} {k : Nat} {a b : Addr} {xs ys vs : List V} {g : TG}
/-! ### calls of what is built in -/
theorem z_lenT (z : Zp G M H) (h : SqT K G a xs) (q : Q (.int xs.length) H) : rLenG K P w [.ref a] H Q := .inl ⟨_, _, rfl, .inr ⟨xs, z.seqT h, rfl⟩, q⟩
theorem z_lenO (z : Zp G M H) (k : Nat) (e : M[k]? = some (a, .lst xs)) (q : Q (.int xs.length) H) : rLenG K P w [.ref a] H Q := .inl ⟨_, _, rfl, .inl ⟨xs, SqL.of (z.at_ k e), rfl⟩, q⟩
theorem z_lenS {s : Str} (hl : s.length ≤ 100000) (q : Q (.int s.length) H) : rLenG K P w [.str s] H Q := .inl ⟨_, _, rfl, ⟨Nat.le_trans hl (by decide), rfl⟩, q⟩
theorem z_lenX {l : List Str} (z : Zp G M H) (h : G a = some (TxO P w a l)) (hl : l.length < 1000) (q : Q (.int l.length) H) : rLenG K P w [.ref a] H Q := .inr ⟨a, l, rfl, z.sub _ _ h, hl, q⟩
theorem z_listG (z : Zp G M H) (h : SqL K G a xs ∨ SqT K G a xs) (q : ∀ p G1 H1, Zp G1 M H1 → Same G G1 → G1 p = some (.lst xs) → Q (.ref p) H1) : rListG K [.ref a] H Q :=
  ⟨a, xs, rfl, h.imp z.seqL z.seqT, fun p hp => q p _ _ (z.new hp _) (Same.new (z.free hp)) upd_same⟩
theorem z_listO (z : Zp G M H) (h : SqL K G a xs ∨ SqT K G a xs) (q : ∀ p H1, Zp G (M ++ [(p, .lst xs)]) H1 → Q (.ref p) H1) : rListG K [.ref a] H Q :=
  ⟨a, xs, rfl, h.imp z.seqL z.seqT, fun p hp => q p _ (z.add hp _)⟩
theorem z_tupL (z : Zp G M H) (h : SqL K G a xs) (q : ∀ p G1 H1, Zp G1 M H1 → Same G G1 → SqT K G1 p xs → Q (.ref p) H1) : rTupG K [.ref a] H Q :=
  ⟨a, xs, rfl, .inl ⟨z.seqL h, fun p hp => q p _ _ (z.new hp _) (Same.new (z.free hp)) (SqT.of upd_same)⟩⟩
theorem z_tupO (z : Zp G M H) (k : Nat) (e : M[k]? = some (a, .lst xs)) (q : ∀ p G1 H1, Zp G1 M H1 → Same G G1 → SqT K G1 p xs → Q (.ref p) H1) : rTupG K [.ref a] H Q :=
  ⟨a, xs, rfl, .inl ⟨SqL.of (z.at_ k e), fun p hp => q p _ _ (z.new hp _) (Same.new (z.free hp)) (SqT.of upd_same)⟩⟩
theorem z_tupT (z : Zp G M H) (h : SqT K G a xs) (q : Q (.ref a) H) : rTupG K [.ref a] H Q := ⟨a, xs, rfl, .inr ⟨z.seqT h, q⟩⟩
theorem z_set {ss : List Str} (z : Zp G M H) (h : SqL K G a (ss.map V.str) ∨ SqT K G a (ss.map V.str)) (hl : ss.length < 1000)
    (q : ∀ p l G1 H1, Zp G1 M H1 → Same G G1 → G1 p = some (TxO P w p l) → (∀ x, x ∈ l ↔ x ∈ ss) → l.Nodup → l.length ≤ ss.length → Q (.ref p) H1) : rSetTx K P w [.ref a] H Q :=
  ⟨a, ss, rfl, h.imp z.seqL z.seqT, hl, fun p l m nd len hp => q p l _ _ (z.new hp _) (Same.new (z.free hp)) upd_same m nd len⟩
theorem z_sortX {l ss : List Str} (z : Zp G M H) (h : G a = some (TxO P w a l)) (m : ∀ x, x ∈ l ↔ x ∈ ss) (nd : l.Nodup) (hl : l.length < 64) (q : ∀ p G1 H1, Zp G1 M H1 → Same G G1 → G1 p = some (.lst ((asc ss).map V.str)) → Q (.ref p) H1) :
    rSortG K P w [.ref a] H Q := .inl ⟨a, l, rfl, z.sub _ _ h, hl, fun ys p pm so hp => by
  rw [asc_is pm so nd m]
  exact q p _ _ (z.new hp _) (Same.new (z.free hp)) upd_same⟩
theorem z_all {bs : List Bool} (z : Zp G M H) (h : SqL K G a (bs.map V.bl)) (q : Q (.bl (bs.all id)) H) : rAllG K [.ref a] H Q := ⟨a, bs, rfl, z.seqL h, q⟩
theorem z_min2 (q : Q (.int (if j < i then j else i)) H) : rMin2 [.int i, .int j] H Q := ⟨i, j, rfl, q⟩
theorem z_repr {d : PyData} (z : Zp G M H) (h : Dt K G x d) (s1 : d.showable = true) (s2 : d.depth ≤ 60) (s3 : d.shown.length ≤ 100000) (q : Q (.str d.shown) H) : rRepr K [x] H Q := ⟨x, d, rfl, z.dt h, s1, s2, Nat.le_trans s3 (by decide), q⟩
/-! methods -/
def TyV (K : PySem.W.Frag) (T : String) (x : V) (H : Hp) (A : Prop) : Prop := tyV K T x H ∧ A
theorem z_bm {T : String} {r : V → List V → Hp → VK → Prop} (h : te σ H fun x H1 => TyV K T x H1 (t σ H1 fun xs H2 => r x xs H2 Q)) : tBM K T r te t σ H Q := h
theorem z_bm0 {T : String} {r : V → List V → Hp → VK → Prop} (h : te σ H fun x H1 => TyV K T x H1 (r x [] H1 Q)) : tBM0 K T r te σ H Q := h
theorem z_tyO (z : Zp G M H) (k : Nat) (e : M[k]? = some (a, .lst xs)) (q : A) : TyV K "list" (.ref a) H A := ⟨.inl ⟨rfl, _, SqL.of (z.at_ k e)⟩, q⟩
theorem z_tyL (z : Zp G M H) (e : SqL K G a xs) (q : A) : TyV K "list" (.ref a) H A := ⟨.inl ⟨rfl, _, z.seqL e⟩, q⟩
theorem z_append (z : Zp G M H) (k : Nat) (e : M[k]? = some (a, .lst xs)) (hl : xs.length ≤ 100000) (q : ∀ H1, Zp G (M.set k (a, .lst (xs ++ [v]))) H1 → Q .non H1) : rAppend (.ref a) [v] H Q :=
  ⟨a, xs, v, rfl, rfl, z.at_ k e, Nat.lt_of_le_of_lt hl (by decide), q _ (z.put k e _)⟩
theorem seqIx {n : Nat} {i : Int} (h0 : 0 ≤ i) (h1 : i < n) : seqIndex? i n = some i.toNat := by
  obtain ⟨k, rfl⟩ := Int.eq_ofNat_of_zero_le h0
  have := atI_get (atI_nat (xs := List.replicate n ()) (j := k) (v := ()) (by
    have : k < n := by omega
    simp [this]))
  obtain ⟨j, e1, e2, e3, _⟩ := this
  rw [List.length_replicate] at e1
  have hk : (ixN n (k : Int)) = some k := by
    unfold ixN
    rw [if_pos (by omega), if_pos h1]
    rfl
  have := (ixN_seq hk).1
  rw [this]
  rfl
theorem z_popAt (z : Zp G M H) (k : Nat) (e : M[k]? = some (a, .lst xs)) (h0 : 0 ≤ i) (h1 : i < xs.length) (hl : xs.length ≤ 100000) (ev : xs[i.toNat]? = some v) (q : ∀ H1, Zp G (M.set k (a, .lst (xs.eraseIdx i.toNat))) H1 → Q v H1) :
    rPopAt (.ref a) [.int i] H Q := ⟨a, xs, i, i.toNat, v, rfl, rfl, z.at_ k e, by omega, by omega, seqIx h0 h1, ev, q _ (z.put k e _)⟩
theorem z_extend {b : Addr} (z : Zp G M H) (k : Nat) (e : M[k]? = some (a, .lst xs)) (h : G b = some (.lst ys)) (hl : xs.length + ys.length ≤ 100000) (q : ∀ H1, Zp G (M.set k (a, .lst (xs ++ ys))) H1 → Q .non H1) : rExtend (.ref a) [.ref b] H Q :=
  ⟨a, b, xs, ys, rfl, rfl, z.at_ k e, z.sub _ _ h, Nat.le_trans hl (by decide), q _ (z.put k e _)⟩
def IsS (x : V) (A : Prop) : Prop := (∃ a, x = .str a) ∧ A
theorem z_m1 {r : V → List V → Hp → VK → Prop} (h : ta σ H fun x H1 => IsS x (te σ H1 fun y H2 => r x [y] H2 Q)) : tM1 r ta te σ H Q := h
theorem z_isS {s : Str} (q : A) : IsS (.str s) A := ⟨⟨s, rfl⟩, q⟩
def rJoin (K : PySem.W.Frag) : V → List V → Hp → VK → Prop := fun x xs H Q => ∃ a p, ∃ ys : List Str, x = .str a ∧ xs = [.ref p] ∧ (SqL K H p (ys.map V.str) ∨ SqT K H p (ys.map V.str)) ∧ (ys.map (·.length)).sum + ys.length * a.length ≤ 16777216 ∧ Q (.str (Txt.join a ys)) H
theorem z_join {s : Str} {ss : List Str} (z : Zp G M H) (h : SqL K G a (ss.map V.str)) (hl : (ss.map (·.length)).sum + ss.length * s.length ≤ 100000) (q : Q (.str (Txt.join s ss)) H) : rJoin K (.str s) [.ref a] H Q :=
  ⟨s, a, ss, rfl, rfl, .inl (z.seqL h), Nat.le_trans hl (by decide), q⟩
/-! ### targets of several names -/
def UnpT (K : PySem.W.Frag) (n : Nat) (t : TGs) (v : V) (σ : L2.St) (H : Hp) (R : L2.St → Hp → Prop) : Prop := gTup K n t v σ H R
theorem z_gtup {n : Nat} {u : TGs} {R : L2.St → Hp → Prop} (z : Zp G M H) (h : SqT K G a xs) (hl : xs.length = n) (q : u xs σ H R) : gTup K n u (.ref a) σ H R := ⟨a, xs, rfl, z.seqT h, hl, q⟩
theorem z_gunl {n : Nat} {u : TGs} {R : L2.St → Hp → Prop} (z : Zp G M H) (h : SqL K G a xs) (hl : xs.length = n) (q : u xs σ H R) : gUnl K n u (.ref a) σ H R := ⟨a, xs, rfl, z.seqL h, hl, q⟩
theorem z_gnil {R : L2.St → Hp → Prop} (q : R σ H) : gNil [] σ H R := ⟨rfl, q⟩
theorem z_gcons {u : TGs} {R : L2.St → Hp → Prop} (q : g v σ H fun σ' H' => u xs σ' H' R) : gCons g u (v :: xs) σ H R := ⟨v, xs, rfl, q⟩
/-! ### what is walked -/
structure Src (J : It) (xs : List V) (OK : Hp → Prop) : Prop where
  go : ∀ i H, OK H → i < xs.length → J.go i H
  stop : ∀ i H, OK H → xs.length ≤ i → J.stop i H
  yld : ∀ i H x H', OK H → i < xs.length → J.yld i H x H' → H' = H ∧ xs[i]? = some x
theorem src_L {xs : List V} : Src (Itl K a) xs (fun H => SqL K H a xs) where
  go := fun i H h hi => ⟨xs, xs[i], h, by simp [hi]⟩
  stop := fun i H h hi => ⟨xs, h, hi⟩
  yld := fun i H x H' h _ y => ⟨y.1, y.2 xs h⟩
theorem src_T {xs : List V} : Src (Itt K a) xs (fun H => SqT K H a xs) where
  go := fun i H h hi => ⟨xs, xs[i], h, by simp [hi]⟩
  stop := fun i H h hi => ⟨xs, h, hi⟩
  yld := fun i H x H' h _ y => ⟨y.1, y.2 xs h⟩
def rngV (lo : Int) (n : Nat) : List V := (List.range n).map fun (i : Nat) => V.int (lo + (i : Int))
theorem rngV_len (lo : Int) (n : Nat) : (rngV lo n).length = n := by simp [rngV]
theorem src_R {lo : Int} {n : Nat} : Src (Itr lo n) (rngV lo n) (fun _ => True) where
  go := fun i H _ hi => by rw [rngV_len] at hi; exact hi
  stop := fun i H _ hi => by rw [rngV_len] at hi; exact hi
  yld := fun i H x H' _ hi y => ⟨y.1, by
    rw [rngV_len] at hi
    rw [y.2]
    simp [rngV, hi]⟩
def chrV (s : Str) : List V := s.cps.toList.map fun c => V.str ⟨#[c]⟩
theorem chrV_len (s : Str) : (chrV s).length = s.length := by simp [chrV]; rfl
theorem src_S {s : Str} : Src (Its s) (chrV s) (fun _ => True) where
  go := fun i H _ hi => by rw [chrV_len] at hi; exact hi
  stop := fun i H _ hi => by rw [chrV_len] at hi; exact hi
  yld := fun i H x H' _ _ y => by
    obtain ⟨e, c, h1, h2⟩ := y
    refine ⟨e, ?_⟩
    unfold chrV
    rw [List.getElem?_map, Array.getElem?_toList, h1, h2]
    rfl
/-! ### for -/
def ForW (J : It) (g : TG) (tb : TS) (D : Ends) (σ : L2.St) (H : Hp) : Prop := ∃ W : Nat → Nat → L2.St → Hp → Prop, (∃ m, W 0 m σ H) ∧ ∀ i m σ H, W i m σ H →
  (J.stop i H ∧ D.nx σ H) ∨ (J.go i H ∧ ∃ N : L2.St → Hp → Prop, (∀ σ' H', N σ' H' → ∃ m', m' < m ∧ W (i + 1) m' σ' H') ∧ ∀ x H', J.yld i H x H' → g x σ H' fun σ2 H2 => tb { D with nx := N, ct := N, bk := D.nx } σ2 H2)
theorem z_for {wi : TI} {tb : TS} (h : wi σ H fun J H1 => ForW J g tb D σ H1) : tFor wi g tb D σ H := h
theorem for_src {J : It} {tb : TS} {OK : Hp → Prop} (S : Src J xs OK) (I : Nat → L2.St → Hp → List (Addr × HO) → Prop) (z : Zp G M H) (h0 : I 0 σ G M) (ok : ∀ i σ G M H, I i σ G M → Zp G M H → OK H)
    (turn : ∀ i x σ G M H, xs[i]? = some x → I i σ G M → Zp G M H → g x σ H fun σ2 H2 => tb ⟨fun σ' H' => ∃ G' M', Zp G' M' H' ∧ I (i + 1) σ' G' M', D.rt, D.nx, fun σ' H' => ∃ G' M', Zp G' M' H' ∧ I (i + 1) σ' G' M'⟩ σ2 H2)
    (done : ∀ σ G M H, I xs.length σ G M → Zp G M H → D.nx σ H) : ForW J g tb D σ H := by
  refine ⟨fun i m σ H => m = xs.length - i ∧ i ≤ xs.length ∧ ∃ G M, Zp G M H ∧ I i σ G M, ⟨xs.length, by simp, Nat.zero_le _, G, M, z, h0⟩, ?_⟩
  rintro i m σ H ⟨rfl, hi, G, M, z, h⟩
  have o := ok i σ G M H h z
  by_cases c : i < xs.length
  · refine .inr ⟨S.go i H o c, fun σ' H' => ∃ G' M', Zp G' M' H' ∧ I (i + 1) σ' G' M', fun σ' H' q => ⟨xs.length - (i + 1), by omega, rfl, c, q⟩, fun x H' y => ?_⟩
    obtain ⟨rfl, e⟩ := S.yld i H x H' o c y
    exact turn i x σ G M H' e h z
  · obtain rfl : i = xs.length := by omega
    exact .inl ⟨S.stop _ H o (Nat.le_refl _), done σ G M H h z⟩
/-! ### comprehensions -/
def LcW (J : It) (g : TG) (tt : TT) (te : TE) (ws : List Nat) (σ : L2.St) (H1 : Hp) (Q : VK) : Prop := ∀ D, H1 D = none → ∃ W : Nat → Nat → Hp → Prop, (∃ m, W 0 m (upd H1 D (.lst []))) ∧ ∀ i m H, W i m H →
  (J.stop i H ∧ Q (.ref D) H) ∨ (J.go i H ∧ ∃ Nx : Hp → Prop, (∀ H', Nx H' → ∃ m', m' < m ∧ W (i + 1) m' H') ∧ ∀ x H', J.yld i H x H' → g x (wipe σ ws) H' fun σ2 H2 => wipe σ2 ws = wipe σ ws ∧ tt σ2 H2 fun b H3 =>
    if b = true then te σ2 H3 fun y H4 => ∃ acc, H4 D = some (.lst acc) ∧ acc.length < sizeLine ∧ Nx (upd H4 D (.lst (acc ++ [y]))) else Nx H3)
theorem z_lc {wi : TI} {ws : List Nat} (h : wi σ H fun J H1 => LcW J g tt te ws σ H1 Q) : tLc wi g tt te ws σ H Q := h
def Kept (I : Hp → List (Addr × HO) → List V → Prop) (D : Addr) (H : Hp) : Prop := ∃ G M acc, Zp G (M ++ [(D, .lst acc)]) H ∧ I G M acc
def Laid (I : Hp → List (Addr × HO) → List V → Prop) (D : Addr) (y : V) (H : Hp) : Prop := ∃ acc, H D = some (.lst acc) ∧ acc.length < sizeLine ∧ Kept I D (upd H D (.lst (acc ++ [y])))
theorem last_at {M : List (Addr × HO)} {p : Addr × HO} : (M ++ [p])[M.length]? = some p := by simp
theorem z_laid {I : Hp → List (Addr × HO) → List V → Prop} {Dl : Addr} {acc : List V} (z : Zp G (M ++ [(Dl, .lst acc)]) H) (hl : acc.length ≤ 100000) (q : I G M (acc ++ [y])) : Laid I Dl y H := by
  refine ⟨acc, z.at_ M.length last_at, Nat.lt_of_le_of_lt hl (by decide), G, M, acc ++ [y], ?_, q⟩
  have := z.put M.length last_at (.lst (acc ++ [y]))
  rw [List.set_append_right _ _ (Nat.le_refl _), Nat.sub_self] at this
  exact this
theorem z_left {I : Hp → List (Addr × HO) → List V → Prop} {Dl : Addr} {acc : List V} (z : Zp G (M ++ [(Dl, .lst acc)]) H) (q : I G M acc) : Kept I Dl H := ⟨G, M, acc, z, q⟩
theorem lc_src {J : It} {ws : List Nat} {OK : Hp → Prop} (S : Src J xs OK) (I : Nat → Hp → List (Addr × HO) → List V → Prop) (z : Zp G M H) (h0 : I 0 G M []) (ok : ∀ i G M M1 acc H, I i G M acc → Zp G (M ++ M1) H → OK H)
    (turn : ∀ i x G M acc Dl H, xs[i]? = some x → I i G M acc → Zp G (M ++ [(Dl, .lst acc)]) H → g x (wipe σ ws) H fun σ2 H2 => wipe σ2 ws = wipe σ ws ∧ tt σ2 H2 fun b H3 =>
      Bif b (te σ2 H3 fun y H4 => Laid (I (i + 1)) Dl y H4) (Kept (I (i + 1)) Dl H3))
    (done : ∀ p G M acc G1 H1, I xs.length G M acc → Same G G1 → Zp G1 M H1 → G1 p = some (.lst acc) → Q (.ref p) H1) : LcW J g tt te ws σ H Q := by
  intro Dl hD
  refine ⟨fun i m H => m = xs.length - i ∧ i ≤ xs.length ∧ Kept (I i) Dl H, ⟨xs.length, by simp, Nat.zero_le _, G, M, [], z.add hD _, h0⟩, ?_⟩
  rintro i m H ⟨rfl, hi, G, M, acc, z, h⟩
  have o := ok i G M _ acc H h z
  by_cases c : i < xs.length
  · refine .inr ⟨S.go i H o c, Kept (I (i + 1)) Dl, fun H' q => ⟨xs.length - (i + 1), by omega, rfl, c, q⟩, fun x H' y => ?_⟩
    obtain ⟨rfl, e⟩ := S.yld i H x H' o c y
    exact turn i x G M acc Dl H' e h z
  · obtain rfl : i = xs.length := by omega
    refine .inl ⟨S.stop _ H o (Nat.le_refl _), done Dl G M acc _ H h (Same.new ?_) z.fix upd_same⟩
    exact (z.own M.length _ _ last_at).2
theorem z_yes (q : QB true H) : tYes σ H QB := q
/-! what a for or a comprehension begins with -/
def ItL (K : PySem.W.Frag) (x : V) (H : Hp) (R : It → Hp → Prop) : Prop := ∃ a, x = .ref a ∧ (∃ xs, SqL K H a xs) ∧ R (Itl K a) H
def ItT (K : PySem.W.Frag) (x : V) (H : Hp) (R : It → Hp → Prop) : Prop := ∃ a, x = .ref a ∧ (∃ xs, SqT K H a xs) ∧ R (Itt K a) H
def ItS (x : V) (H : Hp) (R : It → Hp → Prop) : Prop := ∃ s, x = .str s ∧ R (Its s) H
def ItR (vs : List V) (H : Hp) (R : It → Hp → Prop) : Prop := ∃ j : Int, vs = [.int j] ∧ -(2 ^ 62) ≤ j ∧ j < 2 ^ 62 ∧ R (Itr 0 j.toNat) H
variable {R : It → Hp → Prop}
theorem z_iL (h : te σ H fun x H1 => ItL K x H1 R) : iList K te σ H R := h
theorem z_iT (h : te σ H fun x H1 => ItT K x H1 R) : iTup K te σ H R := h
theorem z_iS (h : te σ H fun x H1 => ItS x H1 R) : iStr te σ H R := h
theorem z_iR (h : t σ H fun vs H1 => ItR vs H1 R) : iRng1 t σ H R := h
theorem z_itL (z : Zp G M H) (h : SqL K G a xs) (q : R (Itl K a) H) : ItL K (.ref a) H R := ⟨a, rfl, ⟨xs, z.seqL h⟩, q⟩
theorem z_itT (z : Zp G M H) (h : SqT K G a xs) (q : R (Itt K a) H) : ItT K (.ref a) H R := ⟨a, rfl, ⟨xs, z.seqT h⟩, q⟩
theorem z_itS {s : Str} (q : R (Its s) H) : ItS (.str s) H R := ⟨s, rfl, q⟩
theorem z_itR {j : Int} (h0 : -(2 ^ 62) ≤ j) (h1 : j < 2 ^ 62) (q : R (Itr 0 j.toNat) H) : ItR [.int j] H R := ⟨j, rfl, h0, h1, q⟩
/-! ### a call of a def of the module -/
structure Own (P : Program) (w : World) (K : PySem.W.Frag) (mg : Str → Option Value) (base : Heap) (CX : CXT) (k : Nat) (x : Str) (ps : List Str) (sp : Sp) : Prop where
  ex : ∃ f fd, FnOk P w K mg base CX k f fd ps sp ∧ mg x = some (.ref f) ∧ PySem.W.keepIn K (.ref f) = true ∧ Binds K fd ps []
theorem pe_own {X : Cx} {CX : CXT} {k : Nat} {x : Str} {ps : List Str} {sp : Sp} {E : XK} {p pos : Pos} {e : Expr} {es : List Expr} {t : TA} (C : Own X.prog X.w X.K X.mg X.base CX k x ps sp) (hr : Room k X.A) (hg : Gl X x) (hx : Passes CX X E) (ha : PA X (e :: es) t)
    (hdb : (x == ("__debug__" : Str)) = false := by decide) (he : starEach (e :: es) X.env = (false, eval e X.env) :: starEach es X.env := by rfl) (hpl : (backTo pos (starEach es X.env)).any (·.1) = false := by rfl) :
    PE X (.Call (.Name x p) (e :: es) [] pos) (tCall sp [] E t) := by
  refine ⟨fun pins s σ H Q I h => ?_⟩
  obtain ⟨f, fd, F, hm, hk, hb⟩ := C.ex
  exact (pe_call F hr hg hm hk hb .nil hx ha hdb he hpl).run pins s σ H Q I h
end
end Ys
namespace Ys
open PySem PySem.Spec PyProof.Rows L2
section
variable {K : PySem.W.Frag} {P : Program} {w : World} {G G1 H : Hp} {M M1 : List (Addr × HO)} {σ : L2.St} {Q : VK} {QB : Bool → Hp → Prop} {D : Ends} {tc : TT} {tb t1 t2 : TS} {A B : Prop} {v x y : V} {i j : Int} {a b p : Addr} {xs ys vs : List V} {o : HO} {u : Addr × HO}
theorem Zp.perm (z : Zp G M H) (h : M.Perm M1) : Zp G M1 H where
  sub := z.sub
  own := fun i q o e => by
    obtain ⟨j, hj⟩ := List.getElem?_of_mem (h.mem_iff.mpr (List.mem_of_getElem? e))
    exact z.own j q o hj
  nd := (h.map _).nodup_iff.mp z.nd
theorem Zp.keep (z : Zp G M H) (h : M1.Sublist M) : Zp G M1 H where
  sub := z.sub
  own := fun i q o e => by
    obtain ⟨j, hj⟩ := List.getElem?_of_mem (h.subset (List.mem_of_getElem? e))
    exact z.own j q o hj
  nd := (h.map _).nodup z.nd
theorem Zp.addP (z : Zp G (u :: M) H) (h : H p = none) (o : HO) : Zp G (u :: (p, o) :: M) (upd H p o) :=
  (z.add h o).perm (by
    rw [List.cons_append]
    exact List.Perm.cons _ (List.perm_append_comm (l₁ := M) (l₂ := [(p, o)])))
theorem Zp.drop2 (z : Zp G (u :: (p, o) :: M) H) : Zp G (u :: M) H :=
  Zp.cut (M := u :: M) (M1 := [(p, o)]) (z.perm (by
    rw [List.cons_append]
    exact List.Perm.cons _ (List.perm_append_comm (l₁ := [(p, o)]) (l₂ := M))))
theorem Zp.fix2 (z : Zp G (u :: (p, o) :: M) H) : Zp (upd G p o) (u :: M) H ∧ G p = none :=
  have z2 : Zp G ((u :: M) ++ [(p, o)]) H := z.perm (by
    rw [List.cons_append]
    exact List.Perm.cons _ (List.perm_append_comm (l₁ := [(p, o)]) (l₂ := M)))
  ⟨z2.fix, (z2.own (u :: M).length p o (by simp)).2⟩
theorem z_listP (z : Zp G (u :: M) H) (h : SqL K G a xs ∨ SqT K G a xs) (q : ∀ p H1, Zp G (u :: (p, .lst xs) :: M) H1 → Q (.ref p) H1) : rListG K [.ref a] H Q :=
  ⟨a, xs, rfl, h.imp z.seqL z.seqT, fun p hp => q p _ (z.addP hp _)⟩
theorem z_ownP (z : Zp G (u :: M) H) (hl : xs.length ≤ 100000) (q : ∀ p H1, Zp G (u :: (p, .lst xs) :: M) H1 → Q (.ref p) H1) : NewL xs H Q :=
  ⟨Nat.le_trans hl (by decide), fun p hp => q p _ (z.addP hp _)⟩
theorem z_bd {p : Prop} {i : Decidable p} (h1 : p → A) (h2 : ¬ p → B) : Bif (@decide p i) A B := z_bD h1 h2
theorem z_cut (I : L2.St → Hp → Prop) (h1 : ∀ nx, (∀ σ H, I σ H → nx σ H) → t1 ⟨nx, D.rt, D.bk, D.ct⟩ σ H) (h2 : ∀ σ H, I σ H → t2 D σ H) : tSeq t1 t2 D σ H := h1 (t2 D) h2
theorem mw (h1 : -18446744073709551616 < i) (h2 : i < 18446744073709551616) (h3 : -18446744073709551616 < j) (h4 : j < 18446744073709551616) : CMulW i j := wide_mul (a := 64) (b := 64) (by omega) (by omega) (by decide) (by decide) (by decide)
theorem dw (h1 : 0 < j) (h2 : j ≤ 1000000000) : CDivW i j := wide_div (b := 30) h1 (by omega) (by decide) (by decide)
def Par2 (k l : Nat) (D : Ends) (σ : L2.St) (vs : List V) (H1 : Hp) : Prop := ∃ v w, vs = [v, w] ∧ D.nx ((σ.set k (some v)).set l (some w)) H1
theorem z_pr {k l : Nat} {t : TA} (h : t σ H (Par2 k l D σ)) : tPar k l t D σ H := h
theorem z_pr2 {k l : Nat} (q : D.nx ((σ.set k (some x)).set l (some y)) H) : Par2 k l D σ [x, y] H := ⟨x, y, rfl, q⟩
theorem rng_at {lo : Int} {n k : Nat} {x : V} (h : (rngV lo n)[k]? = some x) : k < n ∧ x = .int (lo + (k : Int)) := by
  have hi := (List.getElem?_eq_some_iff.mp h).1
  rw [rngV_len] at hi
  refine ⟨hi, ?_⟩
  unfold rngV at h
  rw [List.getElem?_map, List.getElem?_range hi] at h
  exact (Option.some.inj h).symm
/-! ### while -/
def WhB (I : Nat → L2.St → Hp → List (Addr × HO) → Prop) (n : Nat) (tb : TS) (D : Ends) (σ : L2.St) (b : Bool) (H1 : Hp) : Prop :=
  if b = true then ∃ N : L2.St → Hp → Prop, (∀ σ' H', N σ' H' → ∃ m', m' < n ∧ ∃ G M, Zp G M H' ∧ I m' σ' G M) ∧ tb { D with nx := N, ct := N, bk := D.nx } σ H1 else D.nx σ H1
theorem z_while (I : Nat → L2.St → Hp → List (Addr × HO) → Prop) (n : Nat) (z : Zp G M H) (h0 : I n σ G M) (turn : ∀ n σ G M H, I n σ G M → Zp G M H → tc σ H (WhB I n tb D σ)) : tWhile tc tb D σ H :=
  ⟨fun m σ H => ∃ G M, Zp G M H ∧ I m σ G M, ⟨n, G, M, z, h0⟩, fun m σ H ⟨G, M, z, h⟩ => turn m σ G M H h z⟩
theorem z_whT {I : Nat → L2.St → Hp → List (Addr × HO) → Prop} {n : Nat} (h : tb ⟨fun σ' H' => ∃ m', m' < n ∧ ∃ G M, Zp G M H' ∧ I m' σ' G M, D.rt, D.nx, fun σ' H' => ∃ m', m' < n ∧ ∃ G M, Zp G M H' ∧ I m' σ' G M⟩ σ H) : WhB I n tb D σ true H := by
  unfold WhB
  rw [if_pos rfl]
  exact ⟨_, fun _ _ h => h, h⟩
theorem z_whF {I : Nat → L2.St → Hp → List (Addr × HO) → Prop} {n : Nat} (h : D.nx σ H) : WhB I n tb D σ false H := by
  unfold WhB
  rw [if_neg Bool.false_ne_true]
  exact h
/-! ### data -/
theorem dts_int : ∀ cells : List Int, Dts K G (cells.map V.int) (cells.map PyData.int)
  | [] => .nil
  | c :: cs => .cons (.int c) (dts_int cs)
theorem dts_str : ∀ ss : List Str, Dts K G (ss.map V.str) (ss.map PyData.str)
  | [] => .nil
  | c :: cs => .cons (.str c) (dts_str cs)
def El (K : PySem.W.Frag) (G : Hp) (v : V) : Prop := ∃ d, Dt K G v d ∧ d.canLay0 = true ∧ d.depth ≤ 60
theorem El.up (s : Same G G1) : El K G v → El K G1 v := fun ⟨d, h, c⟩ => ⟨d, h.up s, c⟩
theorem El.str {s : Str} (h : PyData.strOk s = true) : El K G (.str s) := ⟨.str s, .str s, h, Nat.zero_le _⟩
theorem El.int (i : Int) : El K G (.int i) := ⟨.int i, .int i, rfl, Nat.zero_le _⟩
theorem El.non : El K G .non := ⟨.none, .non, rfl, Nat.zero_le _⟩
theorem El.all : ∀ {xs : List V}, (∀ v ∈ xs, El K G v) → ∃ ds, Dts K G xs ds ∧ PyData.canLayAll0 ds = true ∧ PyData.depthAll ds ≤ 60 ∧ (ds = [] ↔ xs = [])
  | [], _ => ⟨[], .nil, rfl, by decide, by simp⟩
  | x :: xs, h => by
    obtain ⟨d, h1, h2, h3⟩ := h x (List.mem_cons_self ..)
    obtain ⟨ds, g1, g2, g3, _⟩ := El.all (xs := xs) fun v hv => h v (List.mem_cons_of_mem _ hv)
    refine ⟨d :: ds, .cons h1 g1, ?_, ?_, by simp⟩
    · show (d.canLay0 && PyData.canLayAll0 ds) = true
      rw [h2, g2]
      rfl
    · show max d.depth (PyData.depthAll ds) ≤ 60
      omega
theorem shp {ds : List PyData} (c : PyData.canLayAll0 ds = true) (d : PyData.depthAll ds ≤ 60) : SeqAt.shaped (.list ds) = true := by
  unfold SeqAt.shaped
  have e : PyData.canLay0 (.list ds) = true := c
  have e2 : PyData.depth (.list ds) = PyData.depthAll ds + 1 := rfl
  rw [e, e2]
  simp
  omega
theorem shpT {ds : List PyData} (c : PyData.canLayAll0 ds = true) (d : PyData.depthAll ds ≤ 60) : SeqAt.shaped (.tuple ds) = true := by
  unfold SeqAt.shaped
  have e : PyData.canLay0 (.tuple ds) = true := c
  have e2 : PyData.depth (.tuple ds) = PyData.depthAll ds + 1 := rfl
  rw [e, e2]
  simp
  omega
theorem z_neNil (hl : SqL K H a xs) (h2 : H b = some (.lst [])) (q : Q (.bl (decide (xs ≠ []))) H) : rNeG K (.ref a) (.ref b) H Q := by
  cases xs with
  | nil => exact .inr (.inl ⟨.list [], .list [], Dt.dp _ _ rfl (.lst hl .nil), Dt.dp _ _ rfl (.lst (SqL.of h2) .nil), rfl, rfl, q⟩)
  | cons x xs => exact .inr (.inr ⟨a, b, _, [], rfl, rfl, hl, SqL.of h2, by simp, q⟩)
theorem z_eqNil (hl : SqL K H a xs) (h2 : H b = some (.lst [])) (q : Q (.bl (decide (xs = []))) H) : rEqG K (.ref a) (.ref b) H Q := by
  cases xs with
  | nil => exact .inr (.inl ⟨.list [], .list [], Dt.dp _ _ rfl (.lst hl .nil), Dt.dp _ _ rfl (.lst (SqL.of h2) .nil), rfl, rfl, q⟩)
  | cons x xs => exact .inr (.inr ⟨a, b, _, [], rfl, rfl, hl, SqL.of h2, by simp, q⟩)
/-! ### a dict that is written down -/
variable {ps : List (V × V)} {tk tv : TE} {trs : List (TE × TE)} {QP : List (V × V) → Hp → Prop}
def DispE (p : Addr) (ps : List (V × V)) (H : Hp) (Q : VK) : Prop := H p = some (.dK []) ∧ ∃ kvs : List (Key × V), ps = kvs.map (fun kv => (kV kv.1, kv.2)) ∧ kvs.length ≤ 15 ∧ Q (.ref p) (upd H p (.dK (mergeK [] kvs)))
theorem z_disp (z : Zp G M H) (h : ∀ p H1, Zp G (M ++ [(p, .dK [])]) H1 → tPairs trs σ H1 fun ps H2 => DispE p ps H2 Q) : tDisp trs σ H Q := fun p hp => h p _ (z.add hp _)
theorem z_pn (q : QP [] H) : tPairs [] σ H QP := q
theorem z_pc (h : tk σ H fun x H1 => tv σ H1 fun y H2 => tPairs trs σ H2 fun ps H3 => QP ((x, y) :: ps) H3) : tPairs ((tk, tv) :: trs) σ H QP := h
theorem z_dispE (z : Zp G (M ++ [(p, .dK [])]) H) (kvs : List (Key × V)) (e : ps = kvs.map (fun kv => (kV kv.1, kv.2))) (hl : kvs.length ≤ 15) (q : ∀ H3, Zp G (M ++ [(p, .dK (mergeK [] kvs))]) H3 → Q (.ref p) H3) : DispE p ps H Q := by
  refine ⟨z.at_ M.length last_at, kvs, e, hl, q _ ?_⟩
  have := z.put M.length last_at (.dK (mergeK [] kvs))
  rw [List.set_append_right _ _ (Nat.le_refl _), Nat.sub_self] at this
  exact this
/-! ### looks into lists -/
theorem at_in {α : Type} {xs : List α} {i : Int} (h0 : 0 ≤ i) (h1 : i < xs.length) : ∃ v, v ∈ xs ∧ atI xs i = some v := by
  obtain ⟨k, rfl⟩ := Int.eq_ofNat_of_zero_le h0
  have hk : k < xs.length := by omega
  exact ⟨xs[k], List.getElem_mem hk, atI_nat (by simp [hk])⟩
theorem cut_map {α : Type} (f : α → V) (xs : List α) (lo hi : Option Int) : cutV (xs.map f) lo hi = ((xs.drop (HT.sIx xs.length 0 lo)).take (HT.sIx xs.length xs.length hi - HT.sIx xs.length 0 lo)).map f := by
  unfold cutV
  rw [List.length_map, List.map_take, List.map_drop]
end
end Ys
namespace Ys
open PySem PySem.Spec PyProof.Rows L2 TL
theorem erase_perm {α : Type} : ∀ {zs : List α} {k : Nat} (h : k < zs.length), (zs[k] :: zs.eraseIdx k).Perm zs
  | x :: xs, 0, _ => List.Perm.refl _
  | x :: xs, k + 1, h => by
    show (xs[k]'(by simpa using h) :: x :: xs.eraseIdx k).Perm (x :: xs)
    exact (List.Perm.swap _ _ _).trans (List.Perm.cons _ (erase_perm (by simpa using h)))
/-! ### words -/
def Lt (s : Str) : Prop := ∀ c ∈ s.cps.toList, 97 ≤ c ∧ c ≤ 122
def Wd (s : Str) : Prop := 1 ≤ s.length ∧ s.length ≤ 8 ∧ Lt s
theorem Lt.app {x y : Str} (hx : Lt x) (hy : Lt y) : Lt (x ++ y) := fun c hc => by
  have e : (x ++ y).cps.toList = x.cps.toList ++ y.cps.toList := by
    show (x.cps ++ y.cps).toList = _
    rw [Array.toList_append]
  rw [e] at hc
  rcases List.mem_append.mp hc with h | h
  · exact hx c h
  · exact hy c h
theorem Lt.cut {x : Str} (hx : Lt x) (lo hi : Option Int) : Lt (cutS x lo hi) := fun c hc => hx c (List.mem_of_mem_drop (List.mem_of_mem_take (by simpa [cutS] using hc)))
theorem len_app (x y : Str) : (x ++ y).length = x.length + y.length := PySem.Str.length_append x y
theorem Lt.one {c : Nat} (h : 97 ≤ c ∧ c ≤ 122) : Lt ⟨#[c]⟩ := fun d hd => by
  obtain rfl : d = c := by simpa using hd
  exact h
theorem Lt.ok {s : Str} (h : Lt s) : PyData.strOk s = true := by
  unfold PyData.strOk
  rw [Array.all_eq_true_iff_forall_mem]
  intro c hc
  have := (h c (by simpa using hc)).2
  exact decide_eq_true (by omega)
theorem abc_mem {c : Nat} (h : c ∈ (("abcdefghijklmnopqrstuvwxyz" : Str)).cps.toList) : 97 ≤ c ∧ c ≤ 122 := by
  have e : (("abcdefghijklmnopqrstuvwxyz" : Str)).cps.toList = (List.range 26).map (· + 97) := by decide +kernel
  rw [e] at h
  obtain ⟨k, hk, rfl⟩ := List.mem_map.mp h
  have := List.mem_range.mp hk
  omega
theorem abc_len : (("abcdefghijklmnopqrstuvwxyz" : Str)).length = 26 := by decide +kernel
theorem joinL0 : ∀ {ps : List (List Nat)} {c : Nat}, c ∈ joinL [] ps → ∃ p ∈ ps, c ∈ p
  | [], _, h => by simp [joinL] at h
  | [p], _, h => ⟨p, by simp, by simpa [joinL] using h⟩
  | p :: q :: r, c, h => by
    have h' : c ∈ p ++ ([] ++ joinL [] (q :: r)) := by simpa [joinL] using h
    rcases List.mem_append.mp h' with h | h
    · exact ⟨p, by simp, h⟩
    · obtain ⟨x, hx, hc⟩ := joinL0 (ps := q :: r) (by simpa using h)
      exact ⟨x, List.mem_cons_of_mem _ hx, hc⟩
theorem Lt.join {ss : List Str} (h : ∀ s ∈ ss, Lt s) : Lt (Txt.join "" ss) := fun c hc => by
  have e : (Txt.join "" ss).cps.toList = joinL (tl ("" : Str)) (ss.map tl) := by
    rw [join_eq]
    exact tl_join "" ss
  have e0 : tl ("" : Str) = [] := by decide +kernel
  rw [e, e0] at hc
  obtain ⟨p, hp, hc⟩ := joinL0 hc
  obtain ⟨s, hs, rfl⟩ := List.mem_map.mp hp
  exact h s hs c hc
theorem cutS_len (x : Str) (lo hi : Option Int) : (cutS x lo hi).length = HT.sIx x.length x.length hi - HT.sIx x.length 0 lo := by
  have h2 := HT.sIx_le x.length x.length (Nat.le_refl _) hi
  show ((((x.cps.toList.drop (HT.sIx x.length 0 lo)).take (HT.sIx x.length x.length hi - HT.sIx x.length 0 lo)).toArray).size) = _
  rw [List.size_toArray, List.length_take, List.length_drop, Array.length_toList]
  show min _ (x.length - _) = _
  omega
section
variable {X : Cx} {o e : Expr} {to te : TE}
theorem pe_joinG {apos pos : Pos} (ho : PE X o to) (he : PE X e te) (hs : starEach [e] X.env = [(false, eval e X.env)] := by rfl) (hbase : attributeBase o "join" X.env (eval o X.env) = eval o X.env := by rfl) (hline : (apos.endLine == pos.line) = true := by rfl) :
    PE X (.Call (.Attribute o "join" apos) [e] [] pos) (tM1 (rJoin X.K) to te) := pe_join ho he hs hbase hline
end
end Ys
namespace Ys
open PySem PySem.Spec PyProof.Rows L2
section
variable {M : Model} {prog : Program} {w : World} {A : Around} {E : Value → Shared → Prop} {s : Shared} {K : PySem.W.Frag} {x C f : Addr} {ox : Obj} {od : Option Obj} {b tb : Value}
theorem ifBound_objNe {args : List Value} {Q : Option Value → Shared → Prop} (X : K.In s.heap) (I : PySem.W.InstAt s.heap x ox C od) (hs : PySem.W.findIn K (.ref C) "__ne__" = some (some (.builtin "object.__ne__")))
    (h : wpAny M A (call (.builtin "object.__ne__") (.ref x :: args)) (fun v => Q (some v)) E s) : wpAny M A (callSpecialIfBound? (.ref x) "__ne__" args) Q E s := by
  simp only [callSpecialIfBound?, bindSpecialIfBound?]
  refine wpAny_holding (wpAny_bind (wpAny_bind (wpAny_bind (I.type.here ((PySem.W.looks_findIn X hs).here ?_)))))
  refine wpAny_bind (wpAny_askSetting (wpAny_ite ?_))
  have fin : wpAny M A (call (.builtin "object.__ne__") ([.ref x] ++ args) >>= fun v => pure (some v)) Q E s := wpAny_bind (wpAny_mono h (fun v s' h' => wpAny_pure h') fun _ _ h' => h')
  split
  · exact wpAny_bind (wpAny_of_eq (F.cmp_object.ne.bind _) (wpAny_pure (by exact fin)))
  · exact wpAny_tryCatch (wpAny_bind (wpAny_of_eq (F.cmp_object.ne.bind _) (wpAny_pure (by exact fin))))
def BackB (Q : Bool → Shared → Prop) (v : Value) (s' : Shared) : Prop := ∃ r, v = .bool r ∧ Q r s'
theorem ne_K {Q : Value → Shared → Prop} (hu : A.units + 1 < cLine) (X : K.In s.heap) (I : PySem.W.InstAt s.heap x ox C od) (hb : PySem.W.Looks (model prog w) s.heap (typeOf b) tb) (hn : PySem.W.notFirst K C tb = true)
    (hm : PySem.W.mroIn K C (.type "object") = some true) (hs : PySem.W.findIn K (.ref C) "__ne__" = some (some (.builtin "object.__ne__"))) (he : PySem.W.findIn K (.ref C) "__eq__" = some (some (.ref f))) (hf : PySem.W.isFn K (.ref f) = true)
    (h : wpAny (model prog w) A.in1 (call (.ref f) [.ref x, b]) (BackB fun r s' => Q (.bool (!r)) s') E s) : wpAny (model prog w) A (richCompare .NotEq (.ref x) b) Q E s := by
  have ent : wpAny (model prog w) A.in1 (Builtin.«object.__ne__» ⟨[.ref x, b], []⟩) (fun r s' => ∃ v, r = .done (.ret (.bool v)) ∧ Q (.bool v) s') E s := by
    unfold Builtin.«object.__ne__»
    repeat (first
      | with_reducible refine wpAny_cRoomFor hu ?_
      | (refine wpAny_bind (m := callSpecialIfBound? (.ref x) (Str.ofString "__eq__") [b])
          (PySem.W.ifBound_K X I he hf (wpAny_mono h (fun r s' hr => by
            obtain ⟨b, rfl, hq⟩ := hr
            repeat (first | exact ⟨_, rfl, hq⟩ | exact wpAny_pure ⟨_, rfl, hq⟩ | (refine wpAny_bind (m := truthy (.bool _)) (wpAny_truthy_bool ?_)) | wp_step)) fun _ _ e => e)))
      | wp_step)
  have one : wpAny (model prog w) A (tryCompare (.ref x) "__ne__" b) (fun r s' => ∃ v, r = some v ∧ Q v s') E s := by
    unfold tryCompare
    refine wpAny_bind (ifBound_objNe X I hs ?_)
    refine wpAny_call (codeAny_call_builtin F.cmp_object.ne.plain F.cmpEntry_ne (PySem.W.check_slot F.cmpKind_ne F.cmpSplit_ne (I.type.andThen (PySem.W.looks_mroIn X hm)) (F.cmpArgs_ne _ _) ?_))
    refine wpAny_mono ent (fun r s' hq => ?_) fun _ _ e => e
    obtain ⟨v, rfl, hq⟩ := hq
    first
      | exact wpAny_pure ⟨_, rfl, hq⟩
      | exact ⟨_, rfl, wpAny_pure ⟨_, rfl, hq⟩⟩
  unfold richCompare
  simp only [oneThing_ref]
  refine wpAny_holding (wpAny_bind (wpAny_cRoomFor (Nat.lt_of_succ_lt hu) ?_))
  refine wpAny_bind (I.type.here (wpAny_bind (hb.here ?_)))
  split
  · rename_i q
    have e : PySem.W.subIn K tb (.ref C) = some false := by
      rcases Bool.or_eq_true_iff.mp hn with e | e
      · rw [beq_iff_eq.mp e] at q; simp at q
      · exact beq_iff_eq.mp e
    refine wpAny_bind ((PySem.W.looks_subIn X e).here ?_)
    simp only [Bool.false_eq_true, if_false]
    refine wpAny_bind (wpAny_mono one (fun r s' z => ?_) fun _ _ e => e)
    obtain ⟨v, rfl, hq⟩ := z
    exact wpAny_pure hq
  · refine wpAny_bind (wpAny_pure ?_)
    simp only [Bool.false_eq_true, if_false]
    refine wpAny_bind (wpAny_mono one (fun r s' z => ?_) fun _ _ e => e)
    obtain ⟨v, rfl, hq⟩ := z
    exact wpAny_pure hq
end
section
variable {X : Cx} {CX : CXT} {n : Nat} {C f : Addr} {fd : FuncData} {ps : List Str} {sp : Sp} {E : XK}
def rEqI (K : PySem.W.Frag) (C : Addr) (sp : Sp) (E : XK) : R2 := fun x y H Q => ∃ a dx fs t, x = .ref a ∧ H a = some (.ins C dx fs) ∧ TyX K H y t ∧ PySem.W.notFirst K C t = true ∧ sp [x, y] H (fun v H' => ∃ b, v = .bl b ∧ Q (.bl b) H') E
def rNeI (K : PySem.W.Frag) (C : Addr) (sp : Sp) (E : XK) : R2 := fun x y H Q => ∃ a dx fs t, x = .ref a ∧ H a = some (.ins C dx fs) ∧ TyX K H y t ∧ PySem.W.notFirst K C t = true ∧ sp [x, y] H (fun v H' => ∃ b, v = .bl b ∧ Q (.bl (!b)) H') E
theorem op_eqI (F : FnOk X.prog X.w X.K X.mg X.base CX n f fd ps sp) (hs : PySem.W.findIn X.K (.ref C) "__eq__" = some (some (.ref f))) (hf : PySem.W.isFn X.K (.ref f) = true) (hb : Binds X.K fd ps []) (hx : Passes CX X E) (hr : Room n X.A) :
    OpR X (compareOp .Eq) (rEqI X.K C sp E) := by
  intro pins s σ H x y v u Q I rx ry ⟨a, dx, fs, t, e1, ha, ty, nf, q⟩
  subst e1
  cases rx
  obtain ⟨mA, J, _⟩ := ins_get I.hok ha
  obtain ⟨od, J, _⟩ := J.look
  obtain ⟨P, Z, p, _⟩ := kit_of I ry ty
  obtain ⟨m, hF⟩ := I.fr
  show wpAny (model X.prog X.w) X.A (richCompare .Eq (.ref a) u) (EP X pins σ Q) X.xe s
  refine PySem.W.cmp_K (op := .Eq) (tb := t) hr.units0 hF I.ok.mod.kin J (Z.ty _ _ I.kIn p) nf hs hf ?_
  have hl := F.len _ _ _ _ q
  refine wpAny_call (codeAny_mono (F.run X.A X.stack s H ⟨[.ref a, u], []⟩ [.ref a, u] [.ref a, y] _ E hr I.env0 (by
    have := hb s [.ref a, u] I.kIn (by simpa using hl)
    simpa using this) (.cons rfl (.cons ry .nil)) q) fun r s' hq => ?_)
  cases r with
  | error e => exact hx pins σ H s e s' I hq
  | ok fl =>
    cases fl with
    | ret w =>
      obtain ⟨z, H', I', rz, b, rfl, q2⟩ := I.after hq
      cases rz
      exact ⟨.bl b, H', I', rfl, q2⟩
    | next => exact False.elim hq
    | brk => exact False.elim hq
    | cont => exact False.elim hq
theorem op_neI (F : FnOk X.prog X.w X.K X.mg X.base CX n f fd ps sp) (he : PySem.W.findIn X.K (.ref C) "__eq__" = some (some (.ref f))) (hs : PySem.W.findIn X.K (.ref C) "__ne__" = some (some (.builtin "object.__ne__"))) (hm : PySem.W.mroIn X.K C (.type "object") = some true)
    (hf : PySem.W.isFn X.K (.ref f) = true) (hb : Binds X.K fd ps []) (hx : Passes CX X E) (hr : Room (n + 1) X.A) : OpR X (compareOp .NotEq) (rNeI X.K C sp E) := by
  intro pins s σ H x y v u Q I rx ry ⟨a, dx, fs, t, e1, ha, ty, nf, q⟩
  subst e1
  cases rx
  obtain ⟨mA, J, _⟩ := ins_get I.hok ha
  obtain ⟨od, J, _⟩ := J.look
  obtain ⟨P, Z, p, _⟩ := kit_of I ry ty
  show wpAny (model X.prog X.w) X.A (richCompare .NotEq (.ref a) u) (EP X pins σ Q) X.xe s
  refine ne_K (by have := hr.units; omega) I.kIn J (Z.ty _ _ I.kIn p) nf hm hs he hf ?_
  have hl := F.len _ _ _ _ q
  refine wpAny_call (codeAny_mono (F.run X.A.in1 X.stack s H ⟨[.ref a, u], []⟩ [.ref a, u] [.ref a, y] _ E hr.in1 I.env0.in1 (by
    have := hb s [.ref a, u] I.kIn (by simpa using hl)
    simpa using this) (.cons rfl (.cons ry .nil)) q) fun r s' hq => ?_)
  cases r with
  | error e => exact hx pins σ H s e s' I hq
  | ok fl =>
    cases fl with
    | ret w =>
      obtain ⟨z, H', I', rz, b, rfl, q2⟩ := I.after hq
      cases rz
      exact ⟨b, rfl, .bl (!b), H', I', rfl, q2⟩
    | next => exact False.elim hq
    | brk => exact False.elim hq
    | cont => exact False.elim hq
end
end Ys
namespace Ys
open PySem PySem.Spec PyProof.Rows L2
section
variable {X : Cx} {K : PySem.W.Frag} {P : Program} {w : World} {G G1 H : Hp} {M M1 : List (Addr × HO)} {σ : L2.St} {Q : VK} {QB : Bool → Hp → Prop} {D : Ends} {tc : TT} {ta te tb : TE} {t : TA} {A B : Prop} {v x y : V} {i j : Int} {a b p : Addr} {xs ys vs : List V} {o : HO} {d : PyData} {R : It → Hp → Prop}
/-! ### what is walked: a list, a tuple or a text -/
def iOr (i1 i2 : TI) : TI := fun σ H R => i1 σ H R ∨ i2 σ H R
theorem pi_or {tg e : Expr} {i1 i2 : TI} (h1 : PI X tg e i1) (h2 : PI X tg e i2) : PI X tg e (iOr i1 i2) := ⟨fun pins s σ H R I h => h.elim (h1.run pins s σ H R I) (h2.run pins s σ H R I)⟩
def iAny (K : PySem.W.Frag) (te : TE) : TI := iOr (iList K te) (iOr (iTup K te) (iStr te))
theorem pi_any {tg e : Expr} (h : PE X e te) : PI X tg e (iAny X.K te) := pi_or (pi_list h) (pi_or (pi_tup h) (pi_str h))
theorem z_anyL (h : te σ H fun x H1 => ItL K x H1 R) : iAny K te σ H R := .inl h
theorem z_anyT (h : te σ H fun x H1 => ItT K x H1 R) : iAny K te σ H R := .inr (.inl h)
theorem z_anyS (h : te σ H fun x H1 => ItS x H1 R) : iAny K te σ H R := .inr (.inr h)
/-! ### isinstance -/
def rIsiG (K : PySem.W.Frag) : List V → Hp → VK → Prop := fun xs H Q => rIsi K xs H Q ∨ rIsiT K xs H Q
theorem c_isi : CallR X (.builtin "isinstance") (rIsiG X.K) := CallR.or call_isi call_isiT
theorem z_isi {t u : Value} {r : Bool} {c : V} (k : ClsV c u) (ty : TyX K H x t) (e : PySem.W.kitOne K t u = some r) (q : Q (.bl r) H) : rIsiG K [x, c] H Q := .inl ⟨x, c, t, u, r, rfl, k, ty, e, q⟩
theorem z_isi2 {cs : List V} {t : Value} {us : List Value} {r : Bool} (z : Zp G M H) (h : G a = some (.tup cs)) (k : Paired ClsV cs us) (ty : TyX K H x t) (e : PySem.W.kitAny K t us = some r) (q : Q (.bl r) H) : rIsiG K [x, .ref a] H Q :=
  .inr ⟨x, a, cs, t, us, r, rfl, z.sub _ _ h, k, ty, e, q⟩
def tyD : PyData → String
  | .none => "NoneType"
  | .bool _ => "bool"
  | .int _ => "int"
  | .str _ => "str"
  | .list _ => "list"
  | .tuple _ => "tuple"
  | .dict _ => "dict"
theorem tyL (h : SqL K H a xs) : TyX K H (.ref a) (.type "list") := by
  rcases h with (h | ⟨o, h⟩) | ⟨o, its, n, hk, hc, _⟩
  · exact .base (.lst h)
  · exact .base (.frz h)
  · exact .kList hk hc
theorem tyT (h : SqT K H a xs) : TyX K H (.ref a) (.type "tuple") := by
  rcases h with (h | ⟨o, h⟩) | ⟨o, its, n, hk, hc, _⟩
  · exact .base (.tup h)
  · exact .fTuple h
  · exact .kTuple hk hc
theorem Dt.ty (h : Dt K H v d) : TyX K H v (.type (tyD d)) := by
  cases h with
  | non => exact .base .non
  | bl b => exact .base (.bl b)
  | int i => exact .base (.int i)
  | str x => exact .base (.str x)
  | lst h _ => exact tyL h
  | tup h _ => exact tyT h
  | dct h _ _ =>
    rcases h with h | ⟨o, h⟩
    · exact .base (.dK h)
    · exact .fDict h
def Ar (K : PySem.W.Frag) (G : Hp) (M : List (Addr × HO)) (v : V) (d : PyData) : Prop := Dt K G v d ∨ ∃ a xs ds, v = .ref a ∧ (a, .lst xs) ∈ M ∧ Dts K G xs ds ∧ d = .list ds
theorem Ar.up (s : Same G G1) (h : Ar K G M v d) : Ar K G1 M v d := h.imp (fun h => h.up s) fun ⟨a, xs, ds, e, m, h, e2⟩ => ⟨a, xs, ds, e, m, h.up s, e2⟩
theorem Ar.sub (s : ∀ u ∈ M, u ∈ M1) (h : Ar K G M v d) : Ar K G M1 v d := h.imp id fun ⟨a, xs, ds, e, m, h, e2⟩ => ⟨a, xs, ds, e, s _ m, h, e2⟩
theorem Zp.mem (z : Zp G M H) (h : (a, o) ∈ M) : H a = some o := by
  obtain ⟨i, hi⟩ := List.getElem?_of_mem h
  exact (z.own i a o hi).1
theorem Ar.dt (z : Zp G M H) (h : Ar K G M v d) : Dt K H v d := by
  rcases h with h | ⟨a, xs, ds, rfl, m, h, rfl⟩
  · exact z.dt h
  · exact .lst (SqL.of (z.mem m)) (h.up z.sub)
theorem Ar.ty (z : Zp G M H) (h : Ar K G M v d) : TyX K H v (.type (tyD d)) := (h.dt z).ty
theorem Ar.list {ds : List PyData} (z : Zp G M H) (h : Ar K G M v (.list ds)) : ∃ a xs, v = .ref a ∧ SqL K H a xs ∧ Dts K G xs ds ∧ ∀ G1 H1, Zp G1 M H1 → Same G G1 → SqL K H1 a xs := by
  rcases h with h | ⟨a, xs, ds', rfl, m, h, e⟩
  · cases h with
    | lst h1 h2 => exact ⟨_, _, rfl, z.seqL h1, h2, fun G1 H1 z1 s1 => z1.seqL (upL s1 h1)⟩
  · cases e
    exact ⟨a, xs, rfl, SqL.of (z.mem m), h, fun G1 H1 z1 s1 => SqL.of (z1.mem m)⟩
theorem Ar.tup {ds : List PyData} (h : Ar K G M v (.tuple ds)) : ∃ a xs, v = .ref a ∧ SqT K G a xs ∧ Dts K G xs ds := by
  rcases h with h | ⟨a, xs, ds', rfl, m, h, e⟩
  · cases h with
    | tup h1 h2 => exact ⟨_, _, rfl, h1, h2⟩
  · cases e
theorem Ar.str {s : Str} (h : Ar K G M v (.str s)) : v = .str s := by
  rcases h with h | ⟨a, xs, ds', rfl, m, h, e⟩
  · cases h; rfl
  · cases e
theorem Dts.len {ds : List PyData} : ∀ {xs : List V} {ds : List PyData}, Dts K G xs ds → xs.length = ds.length
  | _, _, .nil => rfl
  | _, _, .cons _ h => congrArg Nat.succ (Dts.len (ds := ds) h)
theorem Dts.at_ : ∀ {xs : List V} {ds : List PyData} {k : Nat} {x : V}, Dts K G xs ds → xs[k]? = some x → ∃ d, ds[k]? = some d ∧ Dt K G x d
  | _, _, 0, x, .cons h _, e => by
    simp at e
    exact ⟨_, rfl, e ▸ h⟩
  | _, _, k + 1, x, .cons _ h, e => by
    have := Dts.at_ (k := k) h (by simpa using e)
    simpa using this
/-! ### constants of the module -/
def GC (mg : Str → Option Value) (x : Str) (v : V) : Prop := ∃ u, mg x = some u ∧ RelV v u
theorem pe_gC {x : Str} {pos : Pos} (h : GC X.mg x v) (hg : Gl X x) (hd : (x == ("__debug__" : Str)) = false := by decide) : PE X (.Name x pos) (tC v) := by
  obtain ⟨u, hm, r⟩ := h
  exact ⟨fun pins s σ H Q I h => (pe_glob (v := v) hg hm r hd).run pins s σ H Q I h⟩
/-! ### calls with defaults, properties, methods, making -/
structure OwnA (P : Program) (w : World) (K : PySem.W.Frag) (mg : Str → Option Value) (base : Heap) (CX : CXT) (k : Nat) (x : Str) (ps : List Str) (dvs : List V) (sp : Sp) : Prop where
  ex : ∃ f fd ds, FnOk P w K mg base CX k f fd ps sp ∧ mg x = some (.ref f) ∧ PySem.W.keepIn K (.ref f) = true ∧ Binds K fd ps ds ∧ Vals dvs ds
theorem pe_ownA {CX : CXT} {k : Nat} {x : Str} {ps : List Str} {dvs : List V} {sp : Sp} {E : XK} {p pos : Pos} {e : Expr} {es : List Expr} {t : TA} (C : OwnA X.prog X.w X.K X.mg X.base CX k x ps dvs sp) (hr : Room k X.A) (hg : Gl X x) (hx : Passes CX X E) (ha : PA X (e :: es) t)
    (hdb : (x == ("__debug__" : Str)) = false := by decide) (he : starEach (e :: es) X.env = (false, eval e X.env) :: starEach es X.env := by rfl) (hpl : (backTo pos (starEach es X.env)).any (·.1) = false := by rfl) :
    PE X (.Call (.Name x p) (e :: es) [] pos) (tCall sp dvs E t) := by
  obtain ⟨f, fd, ds, F, hm, hk, hb, hv⟩ := C.ex
  exact ⟨fun pins s σ H Q I h => (pe_call F hr hg hm hk hb hv hx ha hdb he hpl).run pins s σ H Q I h⟩
structure Prp (P : Program) (w : World) (K : PySem.W.Frag) (mg : Str → Option Value) (base : Heap) (CX : CXT) (k : Nat) (C : Addr) (x : Str) (sp : Sp) : Prop where
  ex : ∃ p g fd, PropOf K C x p g ∧ FnOk P w K mg base CX k g fd ["self"] sp ∧ Binds K fd ["self"] []
  cl : Cls K C
theorem pe_pr {CX : CXT} {k : Nat} {C : Addr} {x : Str} {sp : Sp} {E : XK} {e : Expr} {pos : Pos} (R : Prp X.prog X.w X.K X.mg X.base CX k C x sp) (hr : Room (k + 1) X.A) (hx : Passes CX X.nox E) (he : PE X e ta) (hb : attributeBase e x X.env (eval e X.env) = eval e X.env := by rfl) :
    PE X (.Attribute e x pos) (tProp C sp [] E ta) := by
  obtain ⟨p, g, fd, hp, F, hd⟩ := R.ex
  exact ⟨fun pins s σ H Q I h => (pe_prop he R.cl hp F hr hd .nil hx hb).run pins s σ H Q I h⟩
def InsW (C : Addr) (x : V) (H : Hp) (A : Prop) : Prop := ∃ a dx fs, x = .ref a ∧ H a = some (.ins C dx fs) ∧ A
end
end Ys
namespace Ys
open PySem PySem.Spec PyProof.Rows L2
section
variable {X : Cx} {K : PySem.W.Frag} {P : Program} {w : World} {G G1 H : Hp} {M M1 : List (Addr × HO)} {σ : L2.St} {Q : VK} {QB : Bool → Hp → Prop} {QA : List V → Hp → Prop} {D : Ends} {ta te tb tv : TE} {t tk : TA} {A B : Prop} {v x y : V} {i j : Int} {a b p : Addr} {xs ys vs zs : List V} {o : HO} {d : PyData}
variable {CX : CXT} {k n m : Nat} {C dx : Addr} {nm f : Str} {ps ks : List Str} {dvs : List V} {sp : Sp} {E : XK} {fs : List (Str × V)} {gV : List V → List V → List V}
structure Mth (P : Program) (w : World) (K : PySem.W.Frag) (mg : Str → Option Value) (base : Heap) (CX : CXT) (k : Nat) (C : Addr) (m : Str) (ps : List Str) (dvs : List V) (sp : Sp) : Prop where
  ex : ∃ f fd ds, Meth K C m f ∧ FnOk P w K mg base CX k f fd ps sp ∧ Binds K fd ps ds ∧ Vals dvs ds
  cl : Cls K C
theorem pe_mt0 {m : Str} {e : Expr} {pos apos : Pos} {pl : Sem Bool} (R : Mth X.prog X.w X.K X.mg X.base CX k C m ps dvs sp) (hr : Room k X.A) (hx : Passes CX X E) (he : PE X e ta)
    (ht : eval (.Call (.Attribute e m apos) [] [] pos) X.env = (do
      let ov ← eval e X.env
      standAt apos.atName
      let (f, first) ← holding [ov] (getMethod ov m pl)
      callWith pos f first (backTo pos (starEach [] X.env)) (backToKw pos (keywordEach [] X.env))) := by rfl) : PE X (.Call (.Attribute e m apos) [] [] pos) (tMeth C m sp dvs E ta tNil) := by
  obtain ⟨f, fd, ds, hm, F, hb, hv⟩ := R.ex
  exact ⟨fun pins s σ H Q I h => (pe_meth0 he R.cl hm F hr hb hv hx ht).run pins s σ H Q I h⟩
theorem pe_mt {m : Str} {e e1 : Expr} {es : List Expr} {pos apos : Pos} {pl : Sem Bool} (R : Mth X.prog X.w X.K X.mg X.base CX k C m ps dvs sp) (hr : Room k X.A) (hx : Passes CX X E) (he : PE X e ta) (ha : PA X (e1 :: es) t)
    (hst : starEach (e1 :: es) X.env = (false, eval e1 X.env) :: starEach es X.env := by rfl) (hpl : (backTo pos (starEach es X.env)).any (·.1) = false := by rfl)
    (ht : eval (.Call (.Attribute e m apos) (e1 :: es) [] pos) X.env = (do
      let ov ← eval e X.env
      standAt apos.atName
      let (f, first) ← holding [ov] (getMethod ov m pl)
      callWith pos f first (backTo pos (starEach (e1 :: es) X.env)) (backToKw pos (keywordEach [] X.env))) := by rfl) : PE X (.Call (.Attribute e m apos) (e1 :: es) [] pos) (tMeth C m sp dvs E ta t) := by
  obtain ⟨f, fd, ds, hm, F, hb, hv⟩ := R.ex
  exact ⟨fun pins s σ H Q I h => (pe_meth he R.cl hm F hr hb hv hx ha hst hpl ht).run pins s σ H Q I h⟩
structure MkS (P : Program) (w : World) (K : PySem.W.Frag) (mg : Str → Option Value) (base : Heap) (CX : CXT) (k : Nat) (C : Addr) (x : Str) (n : Nat) (ks : List Str) (gV : List V → List V → List V) (sp : Sp) : Prop where
  ex : ∃ f fd ps g, Mk K C f ∧ FnOk P w K mg base CX k f fd ps sp ∧ mg x = some (.ref C) ∧ KBn K fd ps (n + 1) ks g gV
theorem pe_mk0 {x : Str} {p pos : Pos} {kws : List Keyword} (R : MkS X.prog X.w X.K X.mg X.base CX k C x 0 ks gV sp) (hr : Room (k + 1) X.A) (hg : Gl X x) (hx : Passes CX X E) (hkw : PK X kws tk)
    (hall : (backToKw pos (keywordEach kws X.env)).all (·.1.isSome) = true := by rfl) (hks : (backToKw pos (keywordEach kws X.env)).filterMap (·.1) = ks := by rfl) (hdb : (x == ("__debug__" : Str)) = false := by decide)
    (hpl : ((backTo pos (starEach [] X.env)).any (·.1) || (backToKw pos (keywordEach kws X.env)).any (·.1.isNone)) = false := by rfl) :
    PE X (.Call (.Name x p) [] kws pos) (tMakeK C 0 ks.length sp gV E tNil tk) := by
  obtain ⟨f, fd, ps, g, hm, F, hmg, hb⟩ := R.ex
  exact ⟨fun pins s σ H Q I h => (pe_makeK0 hm F hr hg hmg hb hx hkw hall hks hdb hpl).run pins s σ H Q I h⟩
theorem pe_mk {x : Str} {p pos : Pos} {kws : List Keyword} {e : Expr} {es : List Expr} (R : MkS X.prog X.w X.K X.mg X.base CX k C x n ks gV sp) (hr : Room (k + 1) X.A) (hg : Gl X x) (hx : Passes CX X E) (ha : PA X (e :: es) t) (hkw : PK X kws tk)
    (hall : (backToKw pos (keywordEach kws X.env)).all (·.1.isSome) = true := by rfl) (hks : (backToKw pos (keywordEach kws X.env)).filterMap (·.1) = ks := by rfl) (hdb : (x == ("__debug__" : Str)) = false := by decide)
    (he : starEach (e :: es) X.env = (false, eval e X.env) :: starEach es X.env := by rfl) (hpl : ((backTo pos (starEach (e :: es) X.env)).any (·.1) || (backToKw pos (keywordEach kws X.env)).any (·.1.isNone)) = false := by rfl) :
    PE X (.Call (.Name x p) (e :: es) kws pos) (tMakeK C n ks.length sp gV E t tk) := by
  obtain ⟨f, fd, ps, g, hm, F, hmg, hb⟩ := R.ex
  exact ⟨fun pins s σ H Q I h => (pe_makeK hm F hr hg hmg hb hx ha hkw hall hks hdb he hpl).run pins s σ H Q I h⟩
/-! the steps -/
def PrW (C : Addr) (sp : Sp) (dvs : List V) (E : XK) (x : V) (H : Hp) (Q : VK) : Prop := ∃ a dx fs, x = .ref a ∧ H a = some (.ins C dx fs) ∧ sp (.ref a :: dvs) H Q E
theorem z_prop (h : ta σ H fun x H1 => PrW C sp dvs E x H1 Q) : tProp C sp dvs E ta σ H Q := h
theorem z_prI (z : Zp G M H) (h : G a = some (.ins C dx fs)) (q : sp (.ref a :: dvs) H Q E) : PrW C sp dvs E (.ref a) H Q := ⟨a, dx, fs, rfl, z.sub _ _ h, q⟩
def MtW (C : Addr) (f : Str) (x : V) (H : Hp) (A : Prop) : Prop := ∃ a dx fs, x = .ref a ∧ H a = some (.ins C dx fs) ∧ fs.lookup f = none ∧ A
theorem z_mt (h : ta σ H fun x H1 => MtW C f x H1 (t σ H1 fun vs H2 => sp (x :: (vs ++ dvs)) H2 Q E)) : tMeth C f sp dvs E ta t σ H Q := h
theorem z_mtI (z : Zp G M H) (h : G a = some (.ins C dx fs)) (l : fs.lookup f = none) (q : A) : MtW C f (.ref a) H A := ⟨a, dx, fs, rfl, z.sub _ _ h, l, q⟩
def MkW (C : Addr) (n m : Nat) (sp : Sp) (gV : List V → List V → List V) (E : XK) (vs zs : List V) (H2 : Hp) (Q : VK) : Prop := vs.length = n ∧ zs.length = m ∧ ∀ x dx, H2 x = none → H2 dx = none → dx ≠ x →
  sp (gV (.ref x :: vs) zs) (upd (upd H2 dx (.own x)) x (.ins C dx [])) (fun v H3 => v = .non ∧ Q (.ref x) H3) E
theorem z_mk (h : t σ H fun vs H1 => tk σ H1 fun zs H2 => MkW C n m sp gV E vs zs H2 Q) : tMakeK C n m sp gV E t tk σ H Q := h
theorem z_mkI (z : Zp G M H) (l1 : vs.length = n) (l2 : zs.length = m) (q : ∀ x dx H1, Zp (upd G dx (.own x)) (M ++ [(x, .ins C dx [])]) H1 → Same G (upd G dx (.own x)) → sp (gV (.ref x :: vs) zs) H1 (fun v H3 => v = .non ∧ Q (.ref x) H3) E) : MkW C n m sp gV E vs zs H Q :=
  ⟨l1, l2, fun x dx hx hd ne => q x dx _ ((z.new hd _).add (by rw [upd_ne (Ne.symm ne)]; exact hx) _) (Same.new (z.free hd))⟩
def FlW (K : PySem.W.Frag) (f : Str) (x : V) (H : Hp) (Q : VK) : Prop := ∃ a C dx fs v, x = .ref a ∧ H a = some (.ins C dx fs) ∧ Cls K C ∧ NoAttr K C f ∧ fs.lookup f = some v ∧ Q v H
theorem z_fl (h : ta σ H fun x H1 => FlW K f x H1 Q) : tFld K ta f σ H Q := h
theorem z_flI (z : Zp G M H) (h : G a = some (.ins C dx fs)) (c : Cls K C) (n : NoAttr K C f) (l : fs.lookup f = some v) (q : Q v H) : FlW K f (.ref a) H Q := ⟨a, C, dx, fs, v, rfl, z.sub _ _ h, c, n, l, q⟩
def FsW (K : PySem.W.Frag) (f : Str) (x y : V) (H2 : Hp) (R : Hp → Prop) : Prop := ∃ a C dx fs, x = .ref a ∧ H2 a = some (.ins C dx fs) ∧ Cls K C ∧ NoAttr K C f ∧ fs.length < 1000 ∧ R (upd H2 a (.ins C dx (putF f y fs)))
theorem z_fs (h : tv σ H fun y H1 => ta σ H1 fun x H2 => FsW K f x y H2 (D.nx σ)) : sFld K ta tv f D σ H := h
theorem z_fsI {R : Hp → Prop} (z : Zp G M H) (i : Nat) (e : M[i]? = some (a, .ins C dx fs)) (c : Cls K C) (n : NoAttr K C f) (l : fs.length < 1000) (q : ∀ H1, Zp G (M.set i (a, .ins C dx (putF f y fs))) H1 → R H1) : FsW K f (.ref a) y H R :=
  ⟨a, C, dx, fs, rfl, z.at_ i e, c, n, l, q _ (z.put i e _)⟩
theorem z_nN (q : Q (.bl (!decide (x = .non))) H) : rNotNon x .non H Q := ⟨rfl, q⟩
theorem z_iN (q : Q (.bl (decide (x = .non))) H) : rIsNon x .non H Q := ⟨rfl, q⟩
theorem z_itLH {R : It → Hp → Prop} (h : SqL K H a xs) (q : R (Itl K a) H) : ItL K (.ref a) H R := ⟨a, rfl, ⟨xs, h⟩, q⟩
theorem z_itTH {R : It → Hp → Prop} (h : SqT K H a xs) (q : R (Itt K a) H) : ItT K (.ref a) H R := ⟨a, rfl, ⟨xs, h⟩, q⟩
theorem z_lenH (h : SqL K H a xs ∨ SqT K H a xs) (q : Q (.int xs.length) H) : rLenG K P w [.ref a] H Q := h.elim (fun h => .inl ⟨_, _, rfl, .inl ⟨xs, h, rfl⟩, q⟩) fun h => .inl ⟨_, _, rfl, .inr ⟨xs, h, rfl⟩, q⟩
theorem z_setH {ss : List Str} (z : Zp G M H) (h : SqL K H a (ss.map V.str) ∨ SqT K H a (ss.map V.str)) (hl : ss.length < 1000)
    (q : ∀ p l G1 H1, Zp G1 M H1 → Same G G1 → G1 p = some (TxO P w p l) → (∀ x, x ∈ l ↔ x ∈ ss) → l.Nodup → l.length ≤ ss.length → Q (.ref p) H1) : rSetTx K P w [.ref a] H Q :=
  ⟨a, ss, rfl, h, hl, fun p l m nd len hp => q p l _ _ (z.new hp _) (Same.new (z.free hp)) upd_same m nd len⟩
theorem z_tI {R : It → Hp → Prop} (h : te σ H fun x H1 => ItT K x H1 R) : iTup K te σ H R := h
theorem z_fsL {R : Hp → Prop} (z : Zp G (M ++ [(a, .ins C dx fs)]) H) (c : Cls K C) (n : NoAttr K C f) (l : fs.length < 1000) (q : ∀ H1, Zp G (M ++ [(a, .ins C dx (putF f y fs))]) H1 → R H1) : FsW K f (.ref a) y H R := by
  refine z_fsI z M.length last_at c n l fun H1 z1 => q H1 ?_
  rw [List.set_append_right _ _ (Nat.le_refl _), Nat.sub_self] at z1
  exact z1
theorem putF_lt {n : Nat} : ∀ {fs : List (Str × V)}, fs.length < n → (putF f y fs).length < n + 1
  | [], h => by show 1 < n + 1; have : 0 < n := h; omega
  | (g, v) :: r, h => by
    unfold putF
    split
    · exact Nat.lt_succ_of_lt h
    · have h' : r.length + 1 < n := h
      cases n with
      | zero => omega
      | succ n =>
        have := putF_lt (n := n) (fs := r) (by omega)
        show (putF f y r).length + 1 < n + 1 + 1
        omega
def ItR2 (vs : List V) (H : Hp) (R : It → Hp → Prop) : Prop := ∃ i j : Int, vs = [.int i, .int j] ∧ (-(2 ^ 62) ≤ i ∧ i < 2 ^ 62 ∧ -(2 ^ 62) ≤ j ∧ j < 2 ^ 62) ∧ R (Itr i (j - i).toNat) H
theorem z_iR2 {R : It → Hp → Prop} (h : t σ H fun vs H1 => ItR2 vs H1 R) : iRng2 t σ H R := h
theorem z_itR2 {R : It → Hp → Prop} (h : -(2 ^ 62) ≤ i ∧ i < 2 ^ 62 ∧ -(2 ^ 62) ≤ j ∧ j < 2 ^ 62) (q : R (Itr i (j - i).toNat) H) : ItR2 [.int i, .int j] H R := ⟨i, j, rfl, h, q⟩
theorem z_gsub {ti : TE} {ts : TSet} {R : L2.St → Hp → Prop} (h : ta σ H fun o H1 => ti σ H1 fun i H2 => ts o i v H2 fun H3 => R σ H3) : gSub ta ti ts v σ H R := h
theorem z_slO {lo hi : Option Int} (z : Zp G M H) (k : Nat) (e : M[k]? = some (a, .lst xs)) (q : ∀ p G1 H1, Zp G1 M H1 → Same G G1 → G1 p = some (.lst (cutV xs lo hi)) → Q (.ref p) H1) : rSlG K (.ref a) lo hi H Q :=
  .inl ⟨a, xs, rfl, SqL.of (z.at_ k e), fun p hp => q p _ _ (z.new hp _) (Same.new (z.free hp)) upd_same⟩
theorem z_setO {R : Hp → Prop} {j : Nat} (z : Zp G M H) (k : Nat) (e : M[k]? = some (a, .lst xs)) (hj : ixN xs.length i = some j) (q : ∀ H1, Zp G (M.set k (a, .lst (xs.set j v))) H1 → R H1) : rSetL (.ref a) (.int i) v H R :=
  ⟨a, xs, i, j, rfl, rfl, z.at_ k e, hj, q _ (z.put k e _)⟩
theorem Dts.snoc : ∀ {xs : List V} {ds : List PyData} {x : V} {d : PyData}, Dts K G xs ds → Dt K G x d → Dts K G (xs ++ [x]) (ds ++ [d])
  | _, _, _, _, .nil, h => .cons h .nil
  | _, _, _, _, .cons a b, h => .cons a (Dts.snoc b h)
theorem Dts.set : ∀ {xs : List V} {ds : List PyData} {x : V} {d : PyData} (j : Nat), Dts K G xs ds → Dt K G x d → Dts K G (xs.set j x) (ds.set j d)
  | _, _, _, _, _, .nil, _ => .nil
  | _, _, _, _, 0, .cons a b, h => .cons h b
  | _, _, _, _, j + 1, .cons a b, h => .cons a (Dts.set j b h)
theorem perm_strs {ys : List V} {ss : List Str} (h : ys.Perm (ss.map V.str)) : ∃ ts : List Str, ys = ts.map V.str ∧ ts.Perm ss := by
  let un : V → Str := fun v => match v with | .str s => s | _ => ""
  have e : (ss.map V.str).map un = ss := by rw [List.map_map]; exact List.map_id'' (fun _ => rfl) ss
  refine ⟨ys.map un, ?_, ?_⟩
  · rw [List.map_map]
    have : ∀ v ∈ ys, (V.str ∘ un) v = v := fun v hv => by
      obtain ⟨s, _, rfl⟩ := List.mem_map.mp (h.mem_iff.mp hv)
      rfl
    rw [List.map_congr_left this]
    exact (List.map_id ys).symm
  · have := h.map un
    rw [e] at this
    exact this
/-! chains -/
theorem z_chain {r r' : R2} {tc : TE} (h : ta σ H fun x H1 => tb σ H1 fun y H2 => r x y H2 fun z H3 => IsB z H3 fun k H3 => Bif k (tc σ H3 fun w' H4 => r' y w' H4 Q) (Q (.bl false) H3)) : tChain r r' ta tb tc σ H Q := h
theorem z_inS {c : Nat} {z : Str} (q : Q (.bl (decide (c ∈ z.cps.toList))) H) : rInG K false (.str ⟨#[c]⟩) (.str z) H Q := .inl ⟨c, z, rfl, rfl, by simpa using q⟩
theorem z_eqI {sp : Sp} {t : Value} (z : Zp G M H) (h : G a = some (.ins C dx fs)) (ty : TyX K H y t) (nf : PySem.W.notFirst K C t = true) (q : sp [.ref a, y] H (fun v H' => ∃ b, v = .bl b ∧ Q (.bl b) H') E) : rEqI K C sp E (.ref a) y H Q :=
  ⟨a, dx, fs, t, rfl, z.sub _ _ h, ty, nf, q⟩
theorem z_neI {sp : Sp} {t : Value} (z : Zp G M H) (h : G a = some (.ins C dx fs)) (ty : TyX K H y t) (nf : PySem.W.notFirst K C t = true) (q : sp [.ref a, y] H (fun v H' => ∃ b, v = .bl b ∧ Q (.bl (!b)) H') E) : rNeI K C sp E (.ref a) y H Q :=
  ⟨a, dx, fs, t, rfl, z.sub _ _ h, ty, nf, q⟩
end
end Ys
namespace Ys
open PySem PySem.Spec PyProof.Rows L2
/-! the rules with the written part told -/
section
variable {X : Cx} {K : PySem.W.Frag} {P : Program} {w : World}
theorem k_add (e : X.K = K := by rfl) : OpR X (binaryOp .Add) (rAddG K) := e ▸ op_addG
theorem k_eq (hu : X.A.units + 64 < cLine) (e : X.K = K := by rfl) : OpR X (compareOp .Eq) (rEqG K) := e ▸ op_eqG hu
theorem k_ne (hu : X.A.units + 64 < cLine) (e : X.K = K := by rfl) : OpR X (compareOp .NotEq) (rNeG K) := e ▸ op_neG hu
theorem k_in (e : X.K = K := by rfl) : OpR X (compareOp .In) (rInG K false) := e ▸ o_in
theorem k_notIn (e : X.K = K := by rfl) : OpR X (compareOp .NotIn) (rInG K true) := e ▸ o_notIn
theorem k_sl (e : X.K = K := by rfl) : SlR X (rSlG K) := e ▸ sl_any
theorem kc_len (e : X.K = K := by rfl) (e1 : X.prog = P := by rfl) (e2 : X.w = w := by rfl) : CallR X (.builtin "len") (rLenG K P w) := by subst e; subst e1; subst e2; exact c_len
theorem kc_list (e : X.K = K := by rfl) : CallR X (.type "list") (rListG K) := e ▸ c_list
theorem kc_tuple (e : X.K = K := by rfl) : CallR X (.type "tuple") (rTupG K) := e ▸ c_tuple
theorem kc_all (hc : X.calm = true) (e : X.K = K := by rfl) : CallR X (.builtin "all") (rAllG K) := e ▸ c_all hc
theorem kc_sorted (hc : X.calm = true) (e : X.K = K := by rfl) (e1 : X.prog = P := by rfl) (e2 : X.w = w := by rfl) : CallR X (.builtin "sorted") (rSortG K P w) := by subst e; subst e1; subst e2; exact c_sorted hc
theorem kc_set (hc : X.calm = true) (e : X.K = K := by rfl) (e1 : X.prog = P := by rfl) (e2 : X.w = w := by rfl) : CallR X (.type "set") (rSetTx K P w) := by subst e; subst e1; subst e2; exact cr_setTx hc
theorem kc_repr (hg : X.A.guards = some []) (S : SysIn X.K) (hu : X.A.units + 64 < cLine) (e : X.K = K := by rfl) : CallR X (.builtin "repr") (rRepr K) := e ▸ cr_repr hg S hu
theorem kc_isi (e : X.K = K := by rfl) : CallR X (.builtin "isinstance") (rIsiG K) := e ▸ c_isi
theorem k_any {tg e : Expr} {te : TE} (h : PE X e te) (q : X.K = K := by rfl) : PI X tg e (iAny K te) := q ▸ pi_any h
theorem k_ix (e : X.K = K := by rfl) : IxR X (rIx K) := e ▸ ix_seq
theorem k_fld {o : Expr} {f : Str} {pos : Pos} {ta : TE} (h : PE X o ta) (hb : attributeBase o f X.env (eval o X.env) = eval o X.env) (e : X.K = K := by rfl) : PE X (.Attribute o f pos) (tFld K ta f) := e ▸ pe_fld h hb
theorem kg_tup {es : List Expr} {k : Nat} {t : TGs} {n : Nat} {pos : Pos} (hc : X.calm = true) (h : PGs X es t) (e : X.K = K := by rfl)
    (hn : (assignEach es X.env).length = n := by rfl) (hst : (assignEach es X.env).findIdx? (·.1) = none := by rfl) : PG X (.Tuple es k pos) (gTup K n t) := e ▸ pg_tup hc h hn hst
theorem kg_unl {es : List Expr} {k : Nat} {t : TGs} {n : Nat} {pos : Pos} (hc : X.calm = true) (h : PGs X es t) (e : X.K = K := by rfl)
    (hn : (assignEach es X.env).length = n := by rfl) (hst : (assignEach es X.env).findIdx? (·.1) = none := by rfl) : PG X (.Tuple es k pos) (gUnl K n t) := e ▸ pg_unl hc h hn hst
theorem k_tup {tg e : Expr} {te : TE} (h : PE X e te) (q : X.K = K := by rfl) : PI X tg e (iTup K te) := q ▸ pi_tup h
end
end Ys
namespace Ys
open PySem PySem.Spec PyProof.Rows L2
/-! ### defs that stand anywhere -/
theorem DefY.funD {K : PySem.W.Frag} {d : DefY} (e : fnY K (d.ad K) = d.val) (c : d.ok K = true) : ∃ fd, FunD K d.name d.qual d.params d.body d.scope (d.dvs K) (d.kws K) (d.ad K) fd := by
  obtain ⟨kp, c2⟩ := Bool.and_eq_true_iff.mp c
  cases hq : K.lookup (d.ad K) with
  | none => rw [hq] at c2; exact absurd c2 (by simp)
  | some ob =>
    rw [hq] at c2
    unfold fnY at e
    rw [hq] at e
    obtain ⟨o1, o2, o3, o4⟩ := ob
    cases o3 with
    | func g =>
      obtain ⟨g1, g2, g3, g4, g5, g6, g7, g8, g9, g10, g11, g12, g13, g14, g15⟩ := g
      obtain ⟨i1, i2, i3, i4, i5, i6, i7, i8⟩ : g1 = d.name ∧ g2 = d.qual ∧ g3 = d.params ∧ g4 = .stmts d.body ∧ g5 = d.scope ∧ g6 = mainGlobals ∧ g7 = [] ∧ g15 = builtinsNs := by
        have e' : (some (g1, g2, g3, g4, g5, g6, g7, g15) : He.FnW) = some (d.name, d.qual, d.params, .stmts d.body, d.scope, mainGlobals, [], builtinsNs) := e
        simpa only [Option.some.injEq, Prod.mk.injEq] using e'
      subst i1 i2 i3 i4 i5 i6 i7 i8
      obtain ⟨j1, j2⟩ := Bool.and_eq_true_iff.mp (show (PySem.W.codeIn K g13 d.qual && (He.dflB K g8 (d.dvs K) && He.kwdB K g9 (d.kws K))) = true from c2)
      obtain ⟨j3, j4⟩ := Bool.and_eq_true_iff.mp j2
      exact ⟨_, ⟨o1, o2, g8, g9, g10, g11, g12, g13, g14, o4, rfl, hq, j1, He.dflB_ok j3, He.kwdB_ok j4⟩, kp⟩
    | _ => exact absurd c2 (by simp)
/-! ### the Hook over facts of any kind -/
theorem obZ_eq {n : Nat} {fb : List (PySem.W.Frag → Bool)} {fn : List DefY} (s : PySem.W.SharedT) : obZ n fb fn s = (hookZ n fb fn).obs s.abs := by
  unfold obZ
  rw [show HandSHeadRun.getT s = s.abs.heap.get? from funext (HandSHeadRun.getT_eq s)]
  rfl
section
variable {fb : List (PySem.W.Frag → Bool)} {fn : List DefY} {K : PySem.W.Frag}
theorem SaysZ.at_ (c : SaysZ fb fn K) (i : Nat) {f : PySem.W.Frag → Bool} (h : fb[i]? = some f := by rfl) : f K = true := by
  have h1 : ((fb.all fun f => f K) && fn.all fun d => d.ok K) = true := congrArg Prod.fst c
  exact List.all_eq_true.mp (Bool.and_eq_true_iff.mp h1).1 f (List.mem_of_getElem? h)
theorem SaysZ.def_ (c : SaysZ fb fn K) (i : Nat) {d : DefY} (h : fn[i]? = some d := by rfl) : ∃ fd, FunD K d.name d.qual d.params d.body d.scope (d.dvs K) (d.kws K) (d.ad K) fd := by
  have h1 : ((fb.all fun f => f K) && fn.all fun d => d.ok K) = true := congrArg Prod.fst c
  have h2 : (fn.map fun d => fnY K (d.ad K)) = fn.map DefY.val := congrArg Prod.snd c
  refine DefY.funD ?_ (List.all_eq_true.mp (Bool.and_eq_true_iff.mp h1).2 d (List.mem_of_getElem? h))
  have h3 := congrArg (fun l : List He.FnW => l[i]?) h2
  simp only [List.getElem?_map, h, Option.map_some] at h3
  exact Option.some.inj h3
end
/-! ### facts -/
theorem fProp_ok {x m : Str} {K : PySem.W.Frag} (h : fProp x m K = true) : PropOf K (He.ga K x) m (cA x m K) (pA x m K) := by
  obtain ⟨h1, h⟩ := Bool.and_eq_true_iff.mp h
  obtain ⟨h2, h⟩ := Bool.and_eq_true_iff.mp h
  obtain ⟨h3, h4⟩ := Bool.and_eq_true_iff.mp h
  refine ⟨of_decide_eq_true h1, of_decide_eq_true h2, of_decide_eq_true h3, ?_⟩
  cases q : PySem.W.recIn K (cA x m K) "property" with
  | none => rw [q] at h4; cases h4
  | some l =>
    rw [q] at h4
    cases l with
    | nil => cases h4
    | cons v r =>
      cases v with
      | ref g => exact ⟨r, by rw [of_decide_eq_true h4]⟩
      | _ => cases h4
theorem fNil_ok {a : PySem.W.Frag → Addr} {K : PySem.W.Frag} (h : fNil a K = true) (G : Hp) : SqT K G (a K) [] := by
  unfold fNil at h
  cases q : K.lookup (a K) with
  | none => rw [q] at h; cases h
  | some ob =>
    rw [q] at h
    obtain ⟨o1, o2, o3, o4⟩ := ob
    cases o1 with
    | type c =>
      cases o3 with
      | seq its n =>
        obtain ⟨h1, h2⟩ := Bool.and_eq_true_iff.mp (show (decide (c = "tuple") && decide (its.size = 0)) = true from h)
        have hz := of_decide_eq_true h2
        have he : its.toList = [] := by
          apply List.eq_nil_of_length_eq_zero
          rw [Array.length_toList]
          exact hz
        exact .inr ⟨_, its, n, q, congrArg Value.type (of_decide_eq_true h1), rfl, by rw [hz]; exact Nat.zero_le _, by rw [he]; exact .nil⟩
      | _ => cases h
    | _ => cases o3 <;> cases h
end Ys
namespace Ys
open PySem PySem.Spec PyProof.Rows L2
/-! ### an own exception's __init__ that says super().__init__(x), self.f = x -/
structure SupF (P : Program) (K : PySem.W.Frag) (C fI : Addr) (fld qual : Str) (params : Arguments) (body : List Stmt) (scope : Scope) (fd : FuncData) : Prop where
  ex : ∃ oc od osl dV kV doc pm an cda ct cc, fd = PySem.W.ksFn "__init__" qual params body scope dV kV doc pm an (.ref cda) ct cc ∧ K.lookup fI = some ⟨oc, od, .func fd, osl⟩ ∧ PySem.W.codeIn K (.ref cda) qual = true ∧
    (∃ ccl cdd vs ccs file tf, K.lookup cda = some ⟨ccl, cdd, .fields vs, ccs⟩ ∧ vs[2]? = some (.str file tf) ∧ ((P.main.file : Str) == file) = true) ∧ ∃ cl cld csl, K.lookup cc = some ⟨cl, cld, .cell (some (.ref C)), csl⟩
  sup : PySem.W.ks_superIn K C C "__init__" = some (some (.builtin "ValueError.__init__"))
  subV : PySem.W.subIn K (.ref C) (.type "ValueError") = some true
  opq : PySem.W.nsIn K cStatics "thirdparty.any" = some none
  gs : PySem.W.nsIn K mainGlobals "super" = some none
  no : PySem.W.findIn K (.ref C) fld = some none
  mro : PySem.W.mroIn K C (.ref C) = some true
structure SupS (x : Str) (params : Arguments) (scope : Scope) : Prop where
  nc : ∀ y ∈ scope.names, y.2 ≠ .cell
  ns : scope.names.lookup ("super" : Str) = some .globalImplicit
  nk : scope.names.lookup ("__class__" : Str) = some .free
  n1 : scope.names.lookup ("self" : Str) = some .local
  n2 : scope.names.lookup x = some .local
  co : scope.isCoroutine = false
  ge : scope.isGenerator = false
  ki : scope.kind = .function
  hd : ∃ ar, (params.posonlyargs ++ params.args).head? = some ar ∧ ar.arg = "self"
  ne : ("self" : Str) ≠ x
  nd : (x == ("__debug__" : Str)) = false
section
variable {P : Program} {w : World} {K : PySem.W.Frag} {C fI a t0 : Addr} {x fld qual : Str} {params : Arguments} {scope : Scope} {p0 p1 p2 p3 p4 p5 p6 p7 p8 p9 : Pos} {A : Around} {mg mb : Str → Option Value} {v : Value} {R : Result → Shared → Prop} {fd : FuncData} {hp : Heap} {g : Array GenState} {d : Drawn} {t : Nat} {os : OsState}
theorem call_mwV {mw : Addr} {us : List Value} {nm q : Str} {N : Addr} {bs bm : List Value} {hd : Bool} {sn : List Str} {sub : List Value} {ab : Bool} {col : Option Bool} {dd : Option Addr} {k0 k1 k2 k3 k5 : Option Value} {Q : Value → Shared → Prop} {E : Value → Shared → Prop}
    (hC : hp.get? C = some (excClassObj nm q C N bs bm hd sn sub ab col dd k0 k1 k2 k3 k5 "ValueError.__new__")) (_hT : ∀ Y : String, bm.contains (.type Y) = PySem.HandSPX.veTail.contains (.type Y)) (hx : hp.get? a = some (PySem.HandSPX.excO C t0)) (hu : hp.get? mw = some (PySem.W.kxs_mw "ValueError.__init__" a)) (hz : us.length ≤ sizeLine)
    (hq : ∀ h' t1, (∀ b o, b ≠ a → hp.get? b = some o → h'.get? b = some o) → h'.get? a = some (PySem.HandSPX.excO C t1) → Q .none ⟨h', g, d, t, os⟩) : wpAny (model P w) A (call (.ref mw) us) Q E ⟨hp, g, d, t, os⟩ := by
  refine wpAny_call (codeAny_of_tree ?_)
  show wpAny _ A.in1 (callAny (.ref mw) ⟨us, []⟩) _ _ _; simp only [callAny]
  refine wpAny_bind (wpAny_load hu ?_)
  have q1 : (Value.type "method-wrapper" == Value.type "method" || Value.type "method-wrapper" == Value.type "builtin_function_or_method" || Value.type "method-wrapper" == Value.type "method-wrapper") = true := by decide
  simp only [PySem.W.kxs_mw, q1, if_true]
  refine PySem.W.KFB.if_so (by decide) (wpAny_bind (PySem.W.check_bound_init F.excBase_ValueError.toExcCallFacts hC hx rfl ?_))
  refine wpAny_bind (wpAny_pure (wpAny_pure ⟨plainId_quiet F.excBase_ValueError.init.plain _, codeAny_builtin F.excBase_ValueError.initEntry ?_⟩))
  exact PySem.W.exc_init_tree (cls := .ref C) (t0 := t0) (dv := none) (c2 := .none) (c3 := .none) (b4 := .bool false) hx hz fun h' k e _ => hq h' _ k e
def supBody (x fld : Str) (p0 p1 p2 p3 p4 p5 p6 p7 p8 p9 : Pos) : List Stmt := [.Expr (.Call (.Attribute (.Call (.Name "super" p0) [] [] p1) "__init__" p2) [.Name x p3] [] p4) p5, .Assign [.Attribute (.Name "self" p6) fld p7] (.Name x p8) p9]
theorem run_sup (S : SupF P K C fI fld qual params (supBody x fld p0 p1 p2 p3 p4 p5 p6 p7 p8 p9) scope fd) (Z : SupS x params scope) (T : OexC K C) (X : K.In hp) (hg : hp.Ns mainGlobals mg) (hb : hp.Ns builtinsNs mb) (hbb : ∀ y : Str, y ≠ "__name__" → mb y = bootBuiltins y) (hlim : hp.NoLimit) (hroom : A.depth < recursionLimit) (hun : A.units + 64 < cLine)
    (hev : ∀ env : Env, env.scope = scope → ∃ pl : Sem Bool, eval (.Call (.Attribute (.Call (.Name "super" p0) [] [] p1) "__init__" p2) [.Name x p3] [] p4) env = (do
      let ov ← attributeBase (.Call (.Name "super" p0) [] [] p1) "__init__" env (eval (.Call (.Name "super" p0) [] [] p1) env)
      standAt p2.atName
      let (f, first) ← holding [ov] (getMethod ov "__init__" pl)
      callWith p4 f first (backTo p4 (starEach [.Name x p3] env)) []))
    (hint : ∀ env : Env, env.scope = scope → interactive env = false) (hsw1 : ∀ env : Env, env.scope = scope → swapsWith (.Call (.Attribute (.Call (.Name "super" p0) [] [] p1) "__init__" p2) [.Name x p3] [] p4) none p5.line env = pure false)
    (hsw2 : ∀ env : Env, env.scope = scope → swapsWith (.Name x p8) (some (.Attribute (.Name "self" p6) fld p7)) p9.line env = pure false)
    (htop : (P.main.scope.names.lookup ("super" : Str)).isSome = false)
    (haK : K.lookup a = none) (hx : hp.get? a = some (PySem.HandSPX.excO C t0)) (args : Args) (hbind : BindsTo ⟨hp, g, d, t, os⟩ fd args [("self", .ref a), (x, v)])
    (hR : ∀ h' tk dx t1, (∀ b o, b ≠ a → hp.get? b = some o → h'.get? b = some o) → hp.objs.size ≤ dx → dx ≠ a → h'.get? a = some ({ cls := .ref C, dict := some dx, data := .fields #[.ref t1, .none, .none, .none, .bool false, .none] } : Obj) →
      h'.Ns1 dx (fun y => if y = fld then some v else none) → R (.ok (.ret .none)) ⟨h', g, d, tk, os⟩) :
    codeAny (model P w) A (.call (.ref fI) args) R ⟨hp, g, d, t, os⟩ := by
  obtain ⟨oc, od, osl, dV, kV, doc, pm, an, cda, ct, cc, rfl, lk, hcd, ⟨ccl, cdd, vs, ccs, file, tf, lcd, hvs, hfile⟩, cl, cld, csl, lcc⟩ := S.ex
  obtain ⟨ar, har, hars⟩ := Z.hd
  obtain ⟨nm, q, N, bs, bm, sn, sub, ab, col, dd, k0, k1, k2, k3, k5, hC, hbm⟩ := T.cls
  have hcl : PySem.W.clsIn K C = some { name := nm, bases := bs, mro := .ref C :: bm, ns := N, qualname := q, hasDict := true, slotNames := sn, subclasses := sub, abstract := ab, collection := col, hasDel := false } := by unfold PySem.W.clsIn; rw [hC] <;> rfl
  refine ks_codeAny_call_defAt (body := supBody x fld p0 p1 p2 p3 p4 p5 p6 p7 p8 p9) (binds := [("self", .ref a), (x, v)]) hroom (X _ _ lk) rfl hlim (PySem.W.codeRec_of X hcd) rfl hbind Z.nc (fun y hy => ?_) (fun h0 hns hk => ?_) Z.co Z.ge Z.ki
  · rcases List.mem_cons.mp hy with rfl | hy
    · exact Z.n1
    · obtain rfl : y = (x, v) := by simpa using hy
      exact Z.n2
  have X0 : K.In h0 := X.keeps hk
  have ns_ : ∀ {L : Addr} {m : Str → Option Value}, hp.Ns L m → h0.Ns L m := fun ⟨o, es, ep, e, d, r⟩ => ⟨o, es, ep, hk _ _ e, d, r⟩
  have hn2 : h0.Ns hp.objs.size (fun y => [(("self" : Str), Value.ref a), (x, v)].reverse.lookup y) := hns
  have lself : ([(("self" : Str), Value.ref a), (x, v)].reverse.lookup ("self" : Str)) = some (.ref a) := by
    show List.lookup ("self" : Str) [(x, v), (("self" : Str), Value.ref a)] = _
    rw [List.lookup_cons, show (("self" : Str) == x) = false from by simpa using Z.ne]
    simp [List.lookup]
  have lx : ([(("self" : Str), Value.ref a), (x, v)].reverse.lookup x) = some v := by
    show List.lookup x [(x, v), (("self" : Str), Value.ref a)] = _
    rw [List.lookup_cons]
    simp
  obtain ⟨pl, hev⟩ := hev (callEnv (PySem.W.ksFn "__init__" qual params (supBody x fld p0 p1 p2 p3 p4 p5 p6 p7 p8 p9) scope dV kV doc pm an (.ref cda) ct cc) hp.objs.size fI) rfl
  refine ks_wpAt_execs_cons (ks_wpAt_Expr_any (ks_wpAt_MethodCall (pl := pl) ?_ hev) (hint _ rfl) (hsw1 _ rfl))
  refine ks_wpAt_super_base Z.ns Z.nk (by decide +kernel) rfl (X0 _ _ lk) rfl har rfl (X0 _ _ lcd) rfl hvs hfile htop ?_
  refine PySem.W.ks_loadName_global Z.ki Z.ns (PySem.Calls.loadGlobal_builtin (ns_ hg) (PySem.W.mg_none_of X hg S.gs) (ns_ hb) ((hbb _ (by decide +kernel)).trans (by first | rfl | kernel_rfl)) ⟨rfl, ?_⟩)
  refine wpAny_loadName_free Z.ki Z.nk rfl ⟨_, X0 _ _ lcc, rfl⟩ ?_
  rw [hars]
  refine wpAny_loadName_local Z.ki Z.n1 hn2 lself ?_
  refine ks_wpAny_isType_cls (X0 _ _ hC) rfl ⟨rfl, ?_⟩
  have hxa := hk _ _ hx
  refine ks_wpAny_call_super (X0 _ _ hC) rfl hxa rfl (fun c e => by cases e) (PySem.W.looks_mroIn X0 S.mro) (fun h1 e1 k1 => ?_)
  have X1 : K.In h1 := X0.keeps k1
  have I1 : PySem.W.InstAt h1 a (PySem.HandSPX.excO C t0) C none := ⟨k1 _ _ hxa, rfl, rfl, trivial⟩
  have hsup : PySem.W.alongIn K "__init__" ((((Value.ref C :: bm).dropWhile (· != .ref C)).drop 1)) = some (some (.builtin "ValueError.__init__")) := by
    have := S.sup
    unfold PySem.W.ks_superIn at this
    rw [hcl] at this
    exact this
  refine PySem.W.kxs_getMethod PySem.W.kxs_ValueError e1 (PySem.W.looks_opaque X1 S.opq) (l₀ := .ref C :: bm) (fun A Q E s k q => wpAny_bind ((PySem.W.looks_clsIn X1 hcl) A _ E s k (wpAny_pure q))) rfl X1 hsup (I1.type.andThen (PySem.W.looks_subIn X1 S.subV)) (PySem.W.ks_ne X1 I1 hcl) (by decide +kernel) ?_
  refine PySem.W.kxs_callWith (i := "ValueError.__init__") (x := a) (u := h1.objs.size) rfl (PySem.Calls.evalArgs_plain (PySem.Calls.spliced_cons ?_))
  show wpAny _ _ (eval (.Name x p3) _) _ _ _
  have hk1 : ∀ b o, hp.get? b = some o → h1.get? b = some o := fun b o e => k1 _ _ (hk _ _ e)
  have hn3 : h1.Ns hp.objs.size (fun y => [(("self" : Str), Value.ref a), (x, v)].reverse.lookup y) := let ⟨o, es, ep, e, d, r⟩ := hn2; ⟨o, es, ep, k1 _ _ e, d, r⟩
  refine PySem.ESX.ldL (m := fun y => [(("self" : Str), Value.ref a), (x, v)].reverse.lookup y) ?_ lx ?_ Z.ki Z.n2 Z.nd
  · let ⟨o, es, ep, e, d, r⟩ := hn3
    exact ⟨o, es, ep, Heap.get?_push_of_some _ e, d, r⟩
  refine wpAny_pure ⟨Heap.get?_push_at rfl rfl, ?_⟩
  show wpAny _ _ (call (.ref h1.objs.size) [v]) _ _ _
  have kp : ∀ b o, h1.get? b = some o → (h1.push (PySem.W.kxs_mw "ValueError.__init__" a)).get? b = some o := fun b o e => Heap.get?_push_of_some _ e
  refine call_mwV (kp _ _ (X1 _ _ hC)) (fun Y => PySem.HandSPX.refsVE_contains Y bm hbm) (kp _ _ (hk1 _ _ hx)) (Heap.get?_push_at rfl rfl) (by show 1 ≤ sizeLine; decide) (fun h2 t1 k2 hx2 => ?_)
  have k02 : ∀ b o, b ≠ a → hp.get? b = some o → h2.get? b = some o := fun b o nb e => k2 b o nb (kp _ _ (hk1 _ _ e))
  have nC : C ≠ a := fun z => by have := X _ _ hC; rw [z, hx] at this; cases this
  have X2 : K.In h2 := fun b o e => k02 b o (fun z => by rw [z, haK] at e; cases e) (X _ _ e)
  have hL : hp.objs.size ≠ a := Nat.ne_of_gt (Heap.lt_size hx)
  have hn4 : h2.Ns hp.objs.size (fun y => [(("self" : Str), Value.ref a), (x, v)].reverse.lookup y) := by
    obtain ⟨o, es, ep, e, d, r⟩ := hn3
    exact ⟨o, es, ep, k2 _ _ hL (kp _ _ e), d, r⟩
  refine ks_wpAt_execs_cons (ks_wpAt_Assign_Attr (wpAt_of_wpAny (PySem.ESX.ldL hn4 lx (PySem.ESX.ldL hn4 lself ?_ Z.ki Z.n1 (by decide)) Z.ki Z.n2 Z.nd)) (hsw2 _ rfl))
  refine PySem.W.set_plain X2 (ox := PySem.HandSPX.excO C t1) (od := none) ⟨hx2, rfl, rfl, trivial⟩ T.sa ?_
  refine PySem.HandSPX.exc_osa X2 hx2 hcl (show PySem.HandSPX.refsVE (.ref C :: bm) = true from hbm) rfl S.no (fun h3 tk3 dx k3 hd3 ne3 hx3 hn5 => ?_)
  refine wpAt_of_wpAny (wpAny_pure ?_)
  have hsz : hp.objs.size < h2.objs.size := let ⟨o, es, ep, e, d, r⟩ := hn4; Heap.lt_size e
  exact hR h3 tk3 dx t1 (fun b o nb e => k3 b o nb (k02 b o nb e)) (Nat.le_trans (Nat.le_of_lt hsz) hd3) ne3 hx3 hn5
def spSup (K : PySem.W.Frag) (C : Addr) (fld : Str) : Sp := fun vs H Q _ => ∃ a y, vs = [.ref a, y] ∧ H a = some (exo a C none) ∧ ∀ dx, H dx = none → dx ≠ a → Q .non (upd (upd H dx (exd dx [(fld, y)])) a (exo a C (some dx)))
theorem ok_sup {base : Heap} {CX : CXT} (S : SupF P K C fI fld qual params (supBody x fld p0 p1 p2 p3 p4 p5 p6 p7 p8 p9) scope fd) (Z : SupS x params scope) (T : OexC K C)
    (hev : ∀ env : Env, env.scope = scope → ∃ pl : Sem Bool, eval (.Call (.Attribute (.Call (.Name "super" p0) [] [] p1) "__init__" p2) [.Name x p3] [] p4) env = (do
      let ov ← attributeBase (.Call (.Name "super" p0) [] [] p1) "__init__" env (eval (.Call (.Name "super" p0) [] [] p1) env)
      standAt p2.atName
      let (f, first) ← holding [ov] (getMethod ov "__init__" pl)
      callWith p4 f first (backTo p4 (starEach [.Name x p3] env)) []))
    (hint : ∀ env : Env, env.scope = scope → interactive env = false) (hsw1 : ∀ env : Env, env.scope = scope → swapsWith (.Call (.Attribute (.Call (.Name "super" p0) [] [] p1) "__init__" p2) [.Name x p3] [] p4) none p5.line env = pure false)
    (hsw2 : ∀ env : Env, env.scope = scope → swapsWith (.Name x p8) (some (.Attribute (.Name "self" p6) fld p7)) p9.line env = pure false)
    (htop : (P.main.scope.names.lookup ("super" : Str)).isSome = false) : FnOk P w K mg base CX 1 fI fd ["self", x] (spSup K C fld) := by
  refine ⟨fun vs H Q E h => ?_, fun A outer s H args us vs Q E hr e0 hbd r hsp => ?_⟩
  · obtain ⟨a, y, rfl, _⟩ := h
    rfl
  obtain ⟨a, y, rfl, ha, q⟩ := hsp
  obtain ⟨u1, u2, rfl, r1, r2⟩ := vals2 r
  obtain rfl : u1 = Value.ref a := r1
  obtain ⟨t0, hx⟩ := exo_at e0.hok ha
  have KX : K.In s.heap := e0.mod.kin.keeps fun b o e => (e0.bs b o e).1
  have haK : K.lookup a = none := by
    cases z : K.lookup a with
    | none => rfl
    | some o =>
      have := (e0.bs _ _ (e0.mod.kin _ _ z)).2
      rw [ha] at this
      cases this
  obtain ⟨mb, hmb, hbb⟩ := e0.mod.blt
  have ns_ : ∀ {L : Addr} {m : Str → Option Value}, base.Ns L m → s.heap.Ns L m := fun ⟨o, es, ep, e, d, r⟩ => ⟨o, es, ep, (e0.bs _ _ e).1, d, r⟩
  have lim : s.heap.NoLimit := e0.mod.nolimit.keeps fun b o e => (e0.bs b o e).1
  obtain ⟨hp, g, d, t, os⟩ := s
  refine run_sup S Z T KX (ns_ e0.mod.glob) (ns_ hmb) hbb lim hr.depth hr.units hev hint hsw1 hsw2 htop haK hx args hbd (fun h' tk dx t1 k hd ne hx' hn => ?_)
  have nH : H dx = none := e0.hok.fresh hd
  have old : ∀ {b : Addr} {o : Obj}, hp.get? b = some o → b ≠ dx := fun e z => absurd (Heap.lt_size (z ▸ e)) (Nat.not_lt.mpr hd)
  have sep : ∀ {b : Addr}, H b = none → b ≠ a := fun n z => by rw [z, ha] at n; cases n
  refine ⟨.non, upd (upd H dx (exd dx [(fld, y)])) a (exo a C (some dx)), rfl, e0.bare, ⟨fun b o e n _ _ => k b o (sep n) e, fun b o e n _ _ => ⟨o.slots, k b o (sep n) e⟩, fun b o e n _ => ?_, fun b o e _ => ?_, fun b xs e => ?_, fun b o u e => ?_, fun b ps e => ?_⟩, fun b o e => ?_, rfl, q dx nH ne⟩
  · rw [upd_ne (sep n), upd_ne (old e)]
    exact n
  · by_cases c : b = a
    · exact ⟨_, by rw [c]; exact hx'⟩
    · exact ⟨o, k b o c e⟩
  · rw [upd_ne (at_ne ha e exo_tup), upd_ne (ne_of_none e nH)]
    exact e
  · rw [upd_ne (at_ne ha e exo_frz), upd_ne (ne_of_none e nH)]
    exact e
  · exact ⟨#[], by rw [upd_ne (at_ne ha e exo_tbl), upd_ne (ne_of_none e nH), e]; simp⟩
  · by_cases c : b = a
    · subst c
      rw [upd_same] at e
      cases e
      exact exo_ok hx'
    rw [upd_ne c] at e
    by_cases c2 : b = dx
    · subst c2
      rw [upd_same] at e
      cases e
      exact exd_ok hn (relO_put (fs := []) r2 fun _ => True.intro)
    rw [upd_ne c2] at e
    refine (e0.hok b o e).stay (fun c' v' hc z => k c' v' ?_ z) (fun c' hc => ?_) (fun c' xs hc => ?_)
    · rcases hc with hc | hc
      · rw [hc]; exact c
      · exact at_ne ha hc exo_own
    · rw [upd_ne (at_ne ha hc exo_own), upd_ne (ne_of_none hc nH)]
      exact hc
    · rw [upd_ne (at_ne ha hc exo_tup), upd_ne (ne_of_none hc nH)]
      exact hc
end
end Ys
namespace Ys
open PySem PySem.Spec PyProof.Rows L2 PySem.W PySem.Calls
section
variable {prog : Program} {w : World} {A : Around} {E : Value → Shared → Prop} {s : Shared} {K : Frag} {x D : Addr} {ox : Obj} {od : Option Obj}
theorem exc_class {Q : Option Value → Shared → Prop} (C : ExcC K D) (X : K.In s.heap) (I : InstAt s.heap x ox D od) (h : Q (some (.ref D)) { s with toks := s.toks + 1 }) : wpAny (model prog w) A (getAttr? (.ref x) "__class__") Q E s := by
  obtain ⟨hga, hgt, hsub, hdct, ha, hn, htk, hm⟩ := C
  have hc1 : (clsIn K D).isSome = true := by obtain ⟨cd, hc, _⟩ := any_some hdct; rw [hc]; rfl
  have hf : findObj K D od "__class__" = some (.bind (.builtin "getset_descriptor.__get__") (.builtin "object.__class__")) := by
    cases od with
    | none => exact findObj_dataN hc1 ha hn htk
    | some od => exact findObj_data hc1 ha hn htk
  obtain ⟨hp, g, d, t, os⟩ := s
  have M0 := I.type (M := model prog w); have M1 := looks_findIn (M := model prog w) X hga; have M2 := looks_findIn (M := model prog w) X hgt; have M3 := looks_find (M := model prog w) X I hf
  have isB : Looks (model prog w) hp (isInstance (.ref x) (.type "BaseException")) true := M0.andThen (looks_subIn X hsub)
  have n2 : (Value.builtin "BaseException.__getattribute__" == Value.builtin "object.__getattribute__") = false := by decide +kernel
  have n1 : (onTheHeap (Value.ref D) && Value.builtin "BaseException.__getattribute__" == Value.builtin "object.__getattribute__") = false := by rw [n2]; rfl
  unfold getAttr? getAttrBy? getAttrBy; refine wpAny_bind (wpAny_mkText (wpAny_bind (wpAny_attempt (wpAny_holding (wpAny_bind (M0.at (wpAny_bind (M1.at ?_))))))))
  refine (show wpAny _ _ (if (onTheHeap (Value.ref D) && Value.builtin "BaseException.__getattribute__" == Value.builtin "object.__getattribute__") = true then _ else _) _ _ _ from ?_)
  rw [n1, if_neg Bool.false_ne_true]; unfold getAttrByItsOwn hookBefore; refine wpAny_bind ?_
  rw [if_pos (show onTheHeap (Value.ref D) = true from rfl)]; refine M2.at (wpAny_bind (wpAny_attempt (wpAny_holding ?_)))
  unfold callGetattribute; rw [show (false && onTheHeap (Value.builtin "BaseException.__getattribute__")) = false from rfl, if_neg Bool.false_ne_true]
  unfold boundAndCalled; rw [PySem.F.excAttr_ValueError.ga.bind (.ref x)]; refine wpAny_bind (wpAny_pure ?_)
  refine (show wpAny _ _ (call (.builtin "BaseException.__getattribute__") [.ref x, .str "__class__" t]) _ _ _ from wpAny_call (codeAny_call_builtin PySem.F.excAttr_ValueError.ga.plain PySem.F.entry_bexc_ga ?_))
  refine @check_slot (model prog w) _ _ ⟨hp, g, d, t + 1, os⟩ "BaseException.__getattribute__" "BaseException" "__getattribute__" (.ref x) [.str "__class__" t] [] _ (by decide +kernel) (by decide +kernel) isB (PySem.F.args_bexc_ga (.ref x) (.str "__class__" t)) ?_
  unfold Builtin.«object.__getattribute__»; refine wpAny_bind (wpAny_of_eq (a := ((Value.ref x : Value), [Value.str "__class__" t])) (by first | rfl | (simp only [slotArgs]; rfl)) (wpAny_bind (wpAny_pure (wpAny_bind (M0.at (wpAny_bind (M3.at ?_)))))))
  refine (show wpAny _ _ (holding [Value.builtin "object.__class__"] (call (.builtin "getset_descriptor.__get__") [.builtin "object.__class__", .ref x, .ref D]) >>= ret) _ _ _ from wpAny_bind (wpAny_holding (wpAny_call (class_get (s := ⟨hp, g, d, t + 1, os⟩) (ox := ox) (od := od) X I hm (wpAny_pure ?_)))))
  refine (show wpAny _ _ (handedOut (.ref D)) _ _ _ from ?_)
  rw [handedOut_of (v := .ref D) rfl]
  first | exact wpAny_pure (wpAny_pure h) | exact wpAny_pure h | exact wpAny_pure (wpAny_bind (wpAny_pure (wpAny_pure h)))
theorem kitx_exc (C : ExcC K D) : KitX K (.ref x) (.ref D) (fun h => InstAt h x ox D od) :=
  ⟨fun _ _ _ I => I.type, (fun M h X _ A' Q' E' s' k q => by obtain ⟨cdD, hcD, _⟩ := any_some C.hd; unfold clsIn at hcD; split at hcD; (· rename_i ho; unfold isType loadHead; exact wpAny_bind (wpAny_loadPart (k _ _ (X _ _ ho)) (wpAny_pure q))); (· cases hcD)), (fun h tp dd its n sl X htp => by
    obtain ⟨cdD, hcD, _⟩ := any_some C.hd
    refine Bool.eq_false_iff.mpr fun q => ?_
    obtain rfl : D = tp := Value.ref.inj (beq_iff_eq.mp q)
    unfold clsIn at hcD
    split at hcD
    · rename_i ho
      have z := (X _ _ ho).symm.trans htp
      cases z
    · cases hcD), fun X I k => exc_class C X I k⟩
end
section
def rIsX (K : Frag) (D a : Addr) (cls : Value) (d : Option Addr) : List V → Hp → VK → Prop := fun xs H Q => ∃ (c : V) (cv : Value) (b : Bool) (dd : Addr) (fs : List (Str × V)), xs = [.ref a, c] ∧ cls = .ref D ∧ ClsV c cv ∧ kitOne K (.ref D) cv = some b ∧ d = some dd ∧ H dd = some (.xd fs) ∧ Q (.bl b) H
theorem call_isX {X : Cx} {a D : Addr} {cls : Value} {d : Option Addr} {oe : Obj} {pn : List (Addr × Obj)} (C : ExcC X.K D) (hz : Zc cls d oe) (hf : ∃ vs, oe.data = .fields vs) : CallR (X.suite a ((a, oe) :: pn)) (.builtin "isinstance") (rIsX X.K D a cls d) := by
  intro pins s σ H xs us Q I r ⟨c, cv, b, dd, fs, e1, e0, hc, e2, e3, hd, q⟩
  subst e1 e0
  obtain ⟨u1, u2, rfl, r1, r2⟩ := vals2 r
  obtain rfl : u1 = Value.ref a := r1
  obtain rfl := hc.eq r2
  subst e3
  obtain ⟨hget, _⟩ := I.pin (a, oe) (List.mem_append_left _ List.mem_cons_self)
  obtain ⟨mA, hns, _⟩ := (show ObjOk X.prog X.w H s.heap dd (.xd fs) from I.hok dd _ hd)
  obtain ⟨od, ho, _⟩ := lookIn_ns hns
  obtain ⟨vs, hv⟩ := hf
  have J : InstAt s.heap a oe D (some od) := ⟨hget, hz.1, (by unfold notCls; rw [hv]), by rw [hz.2]; exact ho⟩
  exact kia_one (kitx_exc (ox := oe) (od := some od) C) I.kIn J e2 (fun z => nomatch z) fun tk => ⟨.bl b, H, I.kept (t' := tk) fun _ _ z => z, rfl, q⟩
end
end Ys
namespace Ys
open PySem PySem.Spec PyProof.Rows L2
/-! ### raise C(e), C an own class with super().__init__(x), self.fld = x -/
structure ExcS (P : Program) (w : World) (K : PySem.W.Frag) (mg : Str → Option Value) (base : Heap) (C : Addr) (x fld : Str) : Prop where
  T : OexC K C
  ex : ∃ fI fd pn, PySem.W.findIn K (.ref C) "__init__" = some (some (.ref fI)) ∧ PySem.W.typeIn K (.ref fI) = some (.type "function") ∧ FnOk P w K mg base CX0 1 fI fd ["self", pn] (spSup K C fld) ∧ Binds K fd ["self", pn] []
  gC : mg x = some (.ref C)
section
variable {X : Cx} {K : PySem.W.Frag} {P : Program} {w : World} {G G1 H : Hp} {M : List (Addr × HO)} {σ : L2.St} {D : Ends} {te : TE} {C : Addr} {x fld : Str} {W : WX} {y : V} {e : Expr} {p pos pos' : Pos} {q : XK}
def RsW (K : PySem.W.Frag) (C : Addr) (fld : Str) (y : V) (H1 : Hp) (q : XK) : Prop := [y].length ≤ 1000 ∧ ∀ a, H1 a = none → spSup K C fld (.ref a :: ([y] ++ [])) (upd H1 a (exo a C none))
  (fun v H2 => v = .non ∧ ∃ (d : Addr) (fs : List (Str × V)), H2 a = some (exo a C (some d)) ∧ H2 d = some (exd d fs) ∧ H1 d = none ∧ q (.ref C) (some d) (upd (del H2 a) d (.xd fs))) (fun _ _ _ => False)
def sRs (K : PySem.W.Frag) (C : Addr) (fld : Str) (te : TE) (W : WX) : TS := fun _ σ H => te σ H fun y H1 => RsW K C fld y H1 fun cls d H' => W cls d σ H'
theorem ps_rs (S : ExcS X.prog X.w X.K X.mg X.base C x fld) (hc : X.calm = true) (tk : Takes X W) (hr : Room 2 X.A) (hg : Gl X x) (he : PE X e te)
    (hdb : (x == ("__debug__" : Str)) = false := by decide) (hst : starEach [e] X.env = (false, eval e X.env) :: starEach [] X.env := by rfl) (hpl : (backTo pos (starEach [] X.env)).any (·.1) = false := by rfl) :
    PS X (.Raise (some (.Call (.Name x p) [e] [] pos)) none pos') (sRs X.K C fld te W) := by
  obtain ⟨fI, fd, pn, iC, tI, F, hb⟩ := S.ex
  exact ps_raise hc tk (pmk_oex (ta := tCons te tNil) S.T iC tI F hr hb .nil pass0 hg S.gC (pa_cons he pa_nil hst) hdb hst hpl)
theorem z_rs (h : te σ H fun y H1 => RsW K C fld y H1 fun cls d H' => W cls d σ H') : sRs K C fld te W D σ H := h
theorem z_rsI (h : ∀ dx, H dx = none → q (.ref C) (some dx) (upd H dx (.xd [(fld, y)]))) : RsW K C fld y H q := by
  refine ⟨by show 1 ≤ 1000; decide, fun a ha => ⟨a, y, rfl, upd_same, fun dx hdx ne => ⟨rfl, dx, [(fld, y)], upd_same, ?_, ?_, ?_⟩⟩⟩
  · rw [upd_ne ne, upd_same]
  · rw [upd_ne ne] at hdx
    exact hdx
  · rw [upd_ne ne] at hdx
    have e1 : upd (del (upd (upd (upd H a (exo a C none)) dx (exd dx [(fld, y)])) a (exo a C (some dx))) a) dx (.xd [(fld, y)]) = upd H dx (.xd [(fld, y)]) := by
      funext b
      by_cases c : b = dx
      · rw [c, upd_same, upd_same]
      · rw [upd_ne c, upd_ne c]
        by_cases c2 : b = a
        · rw [c2, del_same, ha]
        · rw [del_ne c2, upd_ne c2, upd_ne c, upd_ne c2]
    rw [e1]
    exact h dx hdx
end
end Ys
namespace Ys
open PySem PySem.Spec PyProof.Rows L2
section
variable {X : Cx} {K : PySem.W.Frag} {G G1 H : Hp} {M : List (Addr × HO)} {σ : L2.St} {Q : VK} {te : TE} {t : TA} {d : PyData} {ds : List PyData} {v : V} {xs : List V} {a : Addr} {i : Int}
def rStr1 : List V → Hp → VK → Prop := fun xs H Q => ∃ s, xs = [.str s] ∧ Q (.str s) H
theorem c_str : CallR X (.type "str") rStr1 := SkE.call_str_str
theorem z_str1 {s : Str} (q : Q (.str s) H) : rStr1 [.str s] H Q := ⟨s, rfl, q⟩
theorem z_rep {n : Int} (z : Zp G M H) (h : G a = some (.lst xs)) (h0 : 0 ≤ n) (h1 : n ≤ 1000) (hl : xs.length * n.toNat ≤ 100000) (q : ∀ p G1 H1, Zp G1 M H1 → Same G G1 → G1 p = some (.lst (List.replicate n.toNat xs).flatten) → Q (.ref p) H1) : rRep (.ref a) (.int n) H Q :=
  ⟨a, n, xs, rfl, rfl, z.sub _ _ h, by omega, by omega, Nat.le_trans hl (by decide), fun p hp => q p _ _ (z.new hp _) (Same.new (z.free hp)) upd_same⟩
theorem z_neg (q : Q (.int (-i)) H) : rU (fun i => V.int (-i)) (.int i) H Q := ⟨i, rfl, q⟩
/-! ### literals, as data -/
def LitW (K : PySem.W.Frag) (te : TE) (d : PyData) : Prop := ∀ σ G M H Q, Zp G M H → (∀ v G1 H1, Zp G1 M H1 → Same G G1 → Dt K G1 v d → Q v H1) → te σ H Q
def LitA (K : PySem.W.Frag) (t : TA) (ds : List PyData) : Prop := ∀ σ G M H Q, Zp G M H → (∀ vs G1 H1, Zp G1 M H1 → Same G G1 → Dts K G1 vs ds → Q vs H1) → t σ H Q
theorem lit_c (h : ∀ G, Dt K G v d) : LitW K (tC v) d := fun _ G _ H _ z q => q v G H z (Same.refl G) (h G)
theorem lit_int (i : Int) : LitW K (tC (.int i)) (.int i) := lit_c fun _ => .int i
theorem lit_str (s : Str) : LitW K (tC (.str s)) (.str s) := lit_c fun _ => .str s
theorem lit_bl (b : Bool) : LitW K (tC (.bl b)) (.bool b) := lit_c fun _ => .bl b
theorem lit_non : LitW K (tC .non) .none := lit_c fun _ => .non
theorem lit_nil : LitA K tNil [] := fun _ G _ H _ z q => q [] G H z (Same.refl G) .nil
theorem lit_cons (h1 : LitW K te d) (h2 : LitA K t ds) : LitA K (tCons te t) (d :: ds) := fun σ G M H Q z q =>
  h1 σ G M H _ z fun v G1 H1 z1 s1 d1 => h2 σ G1 M H1 _ z1 fun vs G2 H2 z2 s2 d2 => q (v :: vs) G2 H2 z2 (s1.trans s2) (.cons (d1.up s2) d2)
theorem lit_tup (h : LitA K t ds) (hl : ds.length ≤ 1000) : LitW K (tTup t) (.tuple ds) := fun σ G M H Q z q =>
  h σ G M H _ z fun vs G1 H1 z1 s1 d1 => z_newT z1 (by rw [d1.len (ds := [])]; omega) fun p G2 H2 z2 s2 e2 => q _ G2 H2 z2 (s1.trans s2) (.tup (SqT.of e2) (d1.up s2))
theorem lit_lst (h : LitA K t ds) (hl : ds.length ≤ 1000) : LitW K (tLst t) (.list ds) := fun σ G M H Q z q =>
  h σ G M H _ z fun vs G1 H1 z1 s1 d1 => z_newL z1 (by rw [d1.len (ds := [])]; omega) fun p G2 H2 z2 s2 e2 => q _ G2 H2 z2 (s1.trans s2) (.lst (SqL.of e2) (d1.up s2))
theorem lit_neg (h : LitW K te (.int i)) : LitW K (tUn (rU fun i => V.int (-i)) te) (.int (-i)) := fun σ G M H Q z q =>
  h σ G M H _ z fun v G1 H1 z1 s1 d1 => by cases d1; exact z_neg (q _ G1 H1 z1 s1 (.int _))
theorem lit_pow (i j : Int) (h : CPow i j) : LitW K (tOp rPowG (tC (.int i)) (tC (.int j))) (.int (i ^ j.toNat)) := fun σ G M H Q z q => z_op (z_c (z_c (z_I h (q _ G H z (Same.refl G) (.int _)))))
theorem lit_dict0 : LitW K tDNewK (.dict []) := fun σ G M H Q z q p hp => q _ _ _ (z.new hp _) (Same.new (z.free hp)) (.dct (.inl upd_same) rfl .nil)
theorem lit_dict1 {k : Str} (h : LitW K te d) : LitW K (tDisp [(tC (.str k), te)]) (.dict [(.str k, d)]) := fun σ G M H Q z q =>
  z_disp z fun p H1 z1 => z_pc (z_c (h σ G _ H1 _ z1 fun v G2 H2 z2 s2 d2 => z_pn (z_dispE z2 [(.inr k, v)] rfl (by show 1 ≤ 15; decide) fun H3 z3 => by
    have fr : G2 p = none := (z3.own M.length p _ last_at).2
    exact q _ _ H3 z3.fix (s2.trans (Same.new fr)) (.dct (.inl upd_same) rfl (.cons (d2.up (Same.new fr)) .nil)))))
theorem lit_list (h : LitA K t ds) (hl : ds.length ≤ 1000) (z : Zp G M H) (q : ∀ p xs G1 H1, Zp G1 M H1 → Same G G1 → G1 p = some (.lst xs) → Dts K G1 xs ds → Q (.ref p) H1) : tLst t σ H Q :=
  h σ G M H _ z fun vs G1 H1 z1 s1 d1 => z_newL z1 (by rw [d1.len (ds := [])]; omega) fun p G2 H2 z2 s2 e2 => q p _ G2 H2 z2 (s1.trans s2) e2 (d1.up s2)
theorem Dts.app : ∀ {xs ys : List V} {ds es : List PyData}, Dts K G xs ds → Dts K G ys es → Dts K G (xs ++ ys) (ds ++ es)
  | _, _, _, _, .nil, h => h
  | _, _, _, _, .cons a b, h => .cons a (Dts.app b h)
theorem Dts.mem : ∀ {xs : List V} {ds : List PyData} {v : V}, Dts K G xs ds → v ∈ xs → ∃ d, d ∈ ds ∧ Dt K G v d
  | _, _, _, .nil, h => by cases h
  | _, _, _, .cons a b, h => by
    rcases List.mem_cons.mp h with rfl | h
    · exact ⟨_, List.mem_cons_self .., a⟩
    · obtain ⟨d, h1, h2⟩ := Dts.mem b h
      exact ⟨d, List.mem_cons_of_mem _ h1, h2⟩
end
end Ys
namespace Ys
open PySem PySem.Spec PyProof.Rows L2
/-! ### a class made, which may raise -/
section
variable {X : Cx} {k n m : Nat} {C dx : Addr} {x : Str} {ks : List Str} {gV : List V → List V → List V} {sp : Sp} {W : WX} {t tk : TA} {p pos : Pos} {e : Expr} {es : List Expr} {kws : List Keyword} {G H : Hp} {M : List (Addr × HO)} {σ : L2.St} {Q : VK} {vs zs : List V}
def MkWS (C : Addr) (n m : Nat) (sp : Sp) (gV : List V → List V → List V) (E : XK) (vs zs : List V) (H2 : Hp) (Q : VK) : Prop := vs.length = n ∧ zs.length = m ∧ ∀ x dx, H2 x = none → H2 dx = none → dx ≠ x →
  sp (gV (.ref x :: vs) zs) (upd (upd H2 dx (.own x)) x (.ins C dx [])) (fun v H3 => v = .non ∧ Q (.ref x) H3) E
def tMkS (C : Addr) (n m : Nat) (sp : Sp) (gV : List V → List V → List V) (W : WX) (t tk : TA) : TE := fun σ H Q => t σ H fun vs H1 => tk σ H1 fun zs H2 => MkWS C n m sp gV (WE W σ) vs zs H2 Q
theorem pe_mkX (R : MkS X.prog X.w X.K X.mg X.base (L2.CX X.prog X.w) k C x n ks gV sp) (hr : Room (k + 1) X.A) (hg : Gl X x) (tx : Takes X W) (ha : PA X (e :: es) t) (hkw : PK X kws tk)
    (hall : (backToKw pos (keywordEach kws X.env)).all (·.1.isSome) = true := by rfl) (hks : (backToKw pos (keywordEach kws X.env)).filterMap (·.1) = ks := by rfl) (hdb : (x == ("__debug__" : Str)) = false := by decide)
    (he : starEach (e :: es) X.env = (false, eval e X.env) :: starEach es X.env := by rfl) (hpl : ((backTo pos (starEach (e :: es) X.env)).any (·.1) || (backToKw pos (keywordEach kws X.env)).any (·.1.isNone)) = false := by rfl) :
    PE X (.Call (.Name x p) (e :: es) kws pos) (tMkS C n ks.length sp gV W t tk) := by
  obtain ⟨f, fd, ps, g, mk, F, hm, hb⟩ := R.ex
  refine ⟨fun pins s σ H Q I h => wpAny_Call_Name_kw (ld_glob I hg hm ?_ hdb)⟩
  refine PySem.W.callWith_KW (h₀ := X.base) I.ok.mod.kin mk.kp hall (thn (ha.run pos pins s σ H _ I h) fun us s1 ⟨vs, H1, I1, r, q⟩ => ?_) hpl he
  refine thn (hkw.run pos pins s1 σ H1 _ I1 q) fun ws s2 ⟨zs, H2, I2, rz, l1, l2, q2⟩ => ⟨I2.kIn, ?_⟩
  rw [hks]
  -- the object, its dict, then __init__
  have fx := I2.hok.fresh (Nat.le_succ s2.heap.objs.size); have fd := I2.hok.fresh (Nat.le_refl s2.heap.objs.size)
  have hq := q2 (s2.heap.objs.size + 1) s2.heap.objs.size fx fd (Nat.ne_of_lt (Nat.lt_succ_self _))
  have J := Inv.made (C := C) I2
  have ra : Vals (V.ref (s2.heap.objs.size + 1) :: vs) (Value.ref (s2.heap.objs.size + 1) :: us) := .cons rfl r
  have na : (Value.ref (s2.heap.objs.size + 1) :: us).length = n + 1 := by rw [List.length_cons, ← r.length, l1]
  refine wpAny_call (make_map (f := f) I2.kIn mk.makes mk.init (beq_iff_eq.mp mk.fn) (codeAny_mono (F.run _ X.stack _ _ ⟨Value.ref (s2.heap.objs.size + 1) :: us, ks.zip ws⟩ (g (Value.ref (s2.heap.objs.size + 1) :: us) ws) _ _ (WE W σ) (hr.make C us (ks.zip ws))
    (J.env0.make C us (ks.zip ws)) (hb.to _ _ ws J.kIn na (rz.length.symm.trans l2)) (hb.rel ra rz) hq) fun rr s' hz => ?_))
  match rr, hz with
  | .error er, hz => exact passAt tx σ pins _ _ er s' J hz
  | .ok (.ret u), hz =>
    obtain ⟨v, H', I3, rv, ev, q3⟩ := J.after hz
    subst ev
    exact ⟨rv, ⟨V.ref (s2.heap.objs.size + 1), H', I3, rfl, q3⟩⟩
  | .ok .next, hz => exact hz.elim
  | .ok .brk, hz => exact hz.elim
  | .ok .cont, hz => exact hz.elim
theorem z_mkS (h : t σ H fun vs H1 => tk σ H1 fun zs H2 => MkWS C n m sp gV (WE W σ) vs zs H2 Q) : tMkS C n m sp gV W t tk σ H Q := h
theorem z_mkSI {E : XK} (z : Zp G M H) (l1 : vs.length = n) (l2 : zs.length = m) (q : ∀ x dx H1, Zp (upd G dx (.own x)) (M ++ [(x, .ins C dx [])]) H1 → Same G (upd G dx (.own x)) → sp (gV (.ref x :: vs) zs) H1 (fun v H3 => v = .non ∧ Q (.ref x) H3) E) : MkWS C n m sp gV E vs zs H Q :=
  ⟨l1, l2, fun x dx hx hd ne => q x dx _ ((z.new hd _).add (by rw [upd_ne (Ne.symm ne)]; exact hx) _) (Same.new (z.free hd))⟩
end
end Ys
namespace Ys
open PySem PySem.Spec L2 Builtin Builtin.ObjectAttr
/-! ### an own error below any of the errors, made with keywords -/
section
variable {prog : Program} {w : World} {A : Around} {E : Value → Shared → Prop} {R : Result → Shared → Prop} {h : Heap} {g : Array GenState} {d : Drawn} {t : Nat} {os : OsState}
variable {nm q : Str} {C N : Addr} {bs tl : List Value} {hdct : Bool} {sn : List Str} {sub : List Value} {ab : Bool} {col : Option Bool} {dd : Option Addr} {k0 k1 k2 k3 k5 : Option Value} {B newId initId : String} {kw : List (Str × Value)}
theorem newC (F : ExcBaseFacts B newId initId tl) {us : List Value} {Q : Unit → Shared → Prop} (hC : h.get? C = some (excClassObj nm q C N bs tl hdct sn sub ab col dd k0 k1 k2 k3 k5 newId)) (hq : Q () ⟨h, g, d, t, os⟩) :
    wpAny (model prog w) A (checkBuiltinCall newId ⟨.ref C :: us, kw⟩) Q E ⟨h, g, d, t, os⟩ := by
  have sees : (Value.ref C :: tl).contains (.type B) = true := by rw [List.contains_cons, F.hasB, Bool.or_true]
  have nostar := F.noStar
  simp only [checkBuiltinCall, F.newRow, F.newSplit, F.newKind]
  repeat (first | refine wpAny_loadPart_at hC ?_ | (refine wpAny_isSubtype_exc hC ?_; rw [sees]) | refine wpAny_madeBy_exc hC ?_ | refine wpAny_staticBase_exc hC ?_ | simp only [bne_self_eq_false, if_false, Bool.false_eq_true] | wp_step)
  exact hq
theorem newE (F : ExcBaseFacts B newId initId tl) {us : List Value} (hC : h.get? C = some (excClassObj nm q C N bs tl hdct sn sub ab col dd k0 k1 k2 k3 k5 newId)) (hl : us.length ≤ sizeLine)
    (hq : R (.ok (.ret (.ref (h.objs.size + 1)))) ⟨(h.push (PySem.W.kdv_tup us)).push (PySem.HandSPX.excO C h.objs.size), g, d, t, os⟩) : codeAny (model prog w) A (.builtin newId ⟨.ref C :: us, kw⟩) R ⟨h, g, d, t, os⟩ := by
  have nends := F.ends
  have s1 : (Value.ref C :: tl).contains (.type B) = true := by rw [List.contains_cons, F.hasB, Bool.or_true]
  have s2 : (Value.ref C :: tl).contains (.type "AttributeError") = false := by rw [List.contains_cons, F.noAttr]; rfl
  have s3 : (Value.ref C :: tl).contains (.type "NameError") = false := by rw [List.contains_cons, F.noName]; rfl
  refine codeAny_builtinAt F.entry ?_
  unfold Builtin.«BaseException.__new__»
  refine wpAt_bind ?_
  refine (show wpAt _ _ _ (stack >>= _) _ _ _ from wpAt_bind (wpAt_stack fun p below => wpAt_of_wpAny ?_))
  wp_walk
  refine wpAt_of_wpAny ?_
  rw [F.owner]
  repeat (first | with_reducible refine wpAny_madeHere_exc F.canon hC ?_ | with_reducible refine wpAny_loadPart_at hC ?_ | (with_reducible refine wpAny_isSubtype_exc hC ?_; first | rw [s1] | rw [s2] | rw [s3]) | wp_step)
  refine (show R _ _ from ?_)
  rw [Heap.size_push]
  exact hq
theorem metaC {us : List Value} {Q : Unit → Shared → Prop} (hC : h.get? C = some (excClassObj nm q C N bs tl hdct sn sub ab col dd k0 k1 k2 k3 k5 newId)) (hq : Q () ⟨h, g, d, t, os⟩) :
    wpAny (model prog w) A (checkBuiltinCall "type.__call__" ⟨.ref C :: us, kw⟩) Q E ⟨h, g, d, t, os⟩ := by
  have sub3 := tc_sub
  have tyC : (⟨h, g, d, t, os⟩ : Shared).TypeIs (.ref C) "type" := ⟨_, hC, rfl⟩
  simp only [checkBuiltinCall, tc_split, tc_kind]
  repeat (any_goals (first | assumption | with_reducible refine wpAny_loadPart_at hC ?_ | with_reducible refine wpAny_map ?_ | with_reducible refine wpAny_onRaise ?_ | wp_step))
theorem typeE (F : ExcBaseFacts B newId initId tl) {us : List Value} {fI : Addr} {Q : Fin → Shared → Prop} (hC : h.get? C = some (excClassObj nm q C N bs tl hdct sn sub ab col dd k0 k1 k2 k3 k5 newId))
    (hi : W.Looks (model prog w) h (typeLookup (.ref C) "__init__") (some (.ref fI))) (hb : ∀ self, W.Looks (model prog w) h (bindSpecial (.ref fI) self) (.ref fI, [self])) (hl : us.length ≤ sizeLine)
    (hq : codeAny (model prog w) A (.call (.ref fI) ⟨.ref (h.objs.size + 1) :: us, kw⟩) (fun r s' => match r with | .ok (.ret v) => v = .none ∧ Q (.done (.ret (.ref (h.objs.size + 1)))) s' | .ok _ => False | .error e => E e s')
      ⟨(h.push (W.kdv_tup us)).push (PySem.HandSPX.excO C h.objs.size), g, d, t, os⟩) : wpAny (model prog w) A (Builtin.«type.__call__» ⟨.ref C :: us, kw⟩) Q E ⟨h, g, d, t, os⟩ := by
  repeat (first | with_reducible refine wpAny_madeBy_exc hC ?_ | with_reducible refine wpAny_loadPart_at hC ?_ | wp_step)
  refine codeAny_call_builtin_code (Code.quiet_builtin _ F.quiet) (newC F hC ?_)
  refine newE F hC hl ?_
  refine (show wpAny _ _ _ _ _ _ from ?_)
  have up : ∀ b o, h.get? b = some o → ((h.push (W.kdv_tup us)).push (PySem.HandSPX.excO C h.objs.size)).get? b = some o := fun b o e => Heap.get?_push_of_some _ (Heap.get?_push_of_some _ e)
  have hC2 := up _ _ hC
  have own : ((h.push (W.kdv_tup us)).push (PySem.HandSPX.excO C h.objs.size)).get? (h.objs.size + 1) = some (PySem.HandSPX.excO C h.objs.size) := by heap_get
  have inC : (Value.ref C :: tl).contains (.ref C) = true := by simp
  have i2 := hi.keeps up
  have b2 := (hb (.ref (h.objs.size + 1))).keeps up
  unfold isInstance
  repeat (first | with_reducible refine wpAny_loadPart_at own ?_ | (with_reducible refine wpAny_isSubtype_exc hC2 ?_; rw [inC]) | wp_step)
  refine (show wpAny _ _ (typeLookup (.ref C) _) _ _ _ from i2.at (wpAny_holding (wpAny_bind (b2.at (wpAny_bind (wpAny_call (codeAny_mono hq fun r s' z => ?_)))))))
  rcases r with e | (v | _ | _ | _) <;> first | exact z | exact z.elim | skip
  obtain ⟨rfl, z⟩ := z
  first
    | exact wpAny_pure (wpAny_pure z)
    | (wp_walk; exact z)
theorem callE (F : ExcBaseFacts B newId initId tl) {us : List Value} {fI : Addr} (hC : h.get? C = some (excClassObj nm q C N bs tl hdct sn sub ab col dd k0 k1 k2 k3 k5 newId))
    (hi : W.Looks (model prog w) h (typeLookup (.ref C) "__init__") (some (.ref fI))) (hb : ∀ self, W.Looks (model prog w) h (bindSpecial (.ref fI) self) (.ref fI, [self])) (hl : us.length ≤ sizeLine)
    (hq : codeAny (model prog w) (A.under (.builtin "type.__call__" ⟨.ref C :: us, kw⟩)) (.call (.ref fI) ⟨.ref (h.objs.size + 1) :: us, kw⟩) (W.InitBack (h.objs.size + 1) R) ⟨(h.push (W.kdv_tup us)).push (PySem.HandSPX.excO C h.objs.size), g, d, t, os⟩) :
    codeAny (model prog w) A (.call (.ref C) ⟨us, kw⟩) R ⟨h, g, d, t, os⟩ := by
  have l1 := tc_lookup
  have l2 := tc_bind (.ref C)
  have tyC : (⟨h, g, d, t, os⟩ : Shared).TypeIs (.ref C) "type" := ⟨_, hC, rfl⟩
  refine codeAny_of_tree ?_
  refine (show wpAny _ _ (callAny (.ref C) _) _ _ _ from ?_)
  repeat (any_goals (first | assumption | with_reducible refine wpAny_loadPart_at hC ?_ | wp_step))
  refine ⟨rfl, ?_⟩
  refine codeAny_call_builtin_at (Code.quiet_builtin _ (by decide +kernel)) entry_typeCall (metaC hC (typeE F hC hi hb hl ?_))
  refine codeAny_mono hq fun r s' z => ?_
  rcases r with e | (v | _ | _ | _) <;> exact z
end
end Ys
namespace Ys
open PySem PySem.Spec L2 Builtin Builtin.ObjectAttr
/-! ### the errors that own ones stand below -/
structure BaseE (B newId initId : String) (tl : List Value) : Prop where
  base : ExcBaseFacts B newId initId tl
  kxs : PySem.W.KxsFacts B initId
  passes : ∀ self : Value, refuseLoop self "__setattr__" tl = pure ()
  obj : tl.contains (.type "object") = true
theorem bValue : BaseE "ValueError" "ValueError.__new__" "ValueError.__init__" [.type "ValueError", .type "Exception", .type "BaseException", .type "object"] := ⟨F.excBase_ValueError, PySem.W.kxs_ValueError, F.store_ValueError.passes, by decide +kernel⟩
theorem bLookup : BaseE "LookupError" "LookupError.__new__" "LookupError.__init__" [.type "LookupError", .type "Exception", .type "BaseException", .type "object"] := ⟨F.excBase_LookupError, PySem.W.kxs_LookupError, F.store_LookupError.passes, by decide +kernel⟩
theorem bRuntime : BaseE "RuntimeError" "RuntimeError.__new__" "RuntimeError.__init__" [.type "RuntimeError", .type "Exception", .type "BaseException", .type "object"] := ⟨F.excBase_RuntimeError, PySem.W.kxs_RuntimeError, F.store_RuntimeError.passes, by decide +kernel⟩
theorem bOverflow : BaseE "OverflowError" "OverflowError.__new__" "OverflowError.__init__" [.type "OverflowError", .type "ArithmeticError", .type "Exception", .type "BaseException", .type "object"] := ⟨F.excBase_OverflowError, PySem.W.kxs_OverflowError, F.store_OverflowError.passes, by decide +kernel⟩
section
variable {prog : Program} {w : World} {A : Around} {E : Value → Shared → Prop} {R : Result → Shared → Prop} {hp : Heap} {g : Array GenState} {d : Drawn} {t : Nat} {os : OsState}
variable {K : W.Frag} {name : Str} {tk : Tok} {v : Value} {x C : Addr} {fv : Array Value} {cd : ClassData} {B newId initId : String} {tl : List Value}
theorem storeN (T : BaseE B newId initId tl) (X : K.In hp) (hx : hp.get? x = some { cls := .ref C, data := .fields fv }) (hc : W.clsIn K C = some cd) (hm : cd.mro = .ref C :: tl) (hd : cd.hasDict = true) (no : W.findIn K (.ref C) name = some none)
    (hq : ∀ h' tk' dx, (∀ b o, b ≠ x → hp.get? b = some o → h'.get? b = some o) → hp.objs.size ≤ dx → dx ≠ x → h'.get? x = some { cls := .ref C, dict := some dx, data := .fields fv } → h'.Ns1 dx (fun y => if y = name then some v else none) → R (.ok (.ret .none)) ⟨h', g, d, tk', os⟩) :
    codeAny (model prog w) A (.call (.builtin "object.__setattr__") ⟨[.ref x, .str name tk, v], []⟩) R ⟨hp, g, d, t, os⟩ := by
  have J : W.InstAt hp x { cls := .ref C, data := .fields fv } C none := ⟨hx, rfl, rfl, trivial⟩
  have so := F.store_object
  have full : cd.mro.isEmpty = false := by rw [hm]; rfl
  have ob : cd.mro.contains (.type "object") = true := by rw [hm, List.contains_cons, T.obj, Bool.or_true]
  have far : x ≠ hp.objs.size := Nat.ne_of_lt (Heap.lt_size hx)
  have below : W.Looks (model prog w) hp (isInstance (.ref x) (.type "object")) true := J.type.andThen (W.looks_mroIn X (by unfold W.mroIn; rw [hc, Option.bind_some, if_neg (by rw [full]; exact Bool.false_ne_true), ob]))
  refine codeAny_call_builtin so.slot.plain so.entry (@W.check_slot (model prog w) _ _ ⟨hp, g, d, t, os⟩ "object.__setattr__" "object" "__setattr__" (.ref x) [.str name tk, v] [] _ so.kind so.split below (so.args (.ref x) (.str name tk) v) ?_)
  have row : W.Looks (model prog w) hp (mroOf (.ref C)) cd.mro := (W.looks_clsIn X hc).andThen .now
  have none3 : W.Looks (model prog w) hp (storeTaker? none) none := .now
  have lc : W.Looks (model prog w) hp (classData C) cd := W.looks_clsIn X hc
  rw [W.osa_eq, refuse_eq]
  refine wpAny_bind (wpAny_bind (J.type.at (wpAny_bind (row.at ?_))))
  rw [hm, refuseLoop_ref, T.passes]
  refine wpAny_pure (wpAny_bind (J.type.at (wpAny_bind ((W.looks_findIn X no).at (wpAny_bind (none3.at ?_))))))
  refine (show wpAny _ _ (storeInOwnDict (.ref x) (.ref C) (.str name tk) name v false) _ _ _ from ?_)
  obtain ⟨y1, y2, y3, y4, y5, y6, y7, y8, y9, y10, y11⟩ := cd
  dsimp only at hd
  subst hd
  unfold storeInOwnDict ownDictForStores
  repeat (first | with_reducible refine PySem.HandSPX.store_in_new ?_ ?_ | with_reducible refine wpAny_loadPart_at hx ?_ | with_reducible refine lc.at ?_ | wp_step)
  · exact ⟨_, #[], _, (Heap.get?_update_ne _ _ _ _ far.symm).trans (Heap.get?_push_at rfl rfl), rfl, fun e he => absurd he (by simp), fun _ => rfl⟩
  · intro h' tk' hn' hs
    have hx2 : (hp.push { cls := .type "dict", data := .dict #[] }).get? x = some { cls := .ref C, data := .fields fv } := Heap.get?_push_of_some _ hx
    refine hq h' tk' hp.objs.size (fun b o nb ho => ?_) (Nat.le_refl _) far.symm ?_ hn'
    · exact (hs.2 b (Nat.ne_of_lt (Heap.lt_size ho))).trans ((Heap.get?_update_ne _ _ _ _ nb).trans (Heap.get?_push_of_some _ ho))
    · exact (hs.2 x far).trans (Heap.get?_update_self _ hx2 rfl)
theorem storeM {dx : Addr} {m0 : Str → Option Value} {nl : List Str} (T : BaseE B newId initId tl) (X : K.In hp) (hx : hp.get? x = some { cls := .ref C, dict := some dx, data := .fields fv }) (hn : hp.Ns1 dx m0) (hw : Within m0 nl) (hz : nl.length ≤ 1000) (hc : W.clsIn K C = some cd) (hm : cd.mro = .ref C :: tl) (hd : cd.hasDict = true)
    (no : W.findIn K (.ref C) name = some none)
    (hq : ∀ h' tk', (∀ b o, b ≠ dx → hp.get? b = some o → h'.get? b = some o) → h'.Ns1 dx (fun y => if y = name then some v else m0 y) → R (.ok (.ret .none)) ⟨h', g, d, tk', os⟩) :
    codeAny (model prog w) A (.call (.builtin "object.__setattr__") ⟨[.ref x, .str name tk, v], []⟩) R ⟨hp, g, d, t, os⟩ := by
  obtain ⟨od, _, _, hod, _, _⟩ := hn.count hw
  have J : W.InstAt hp x { cls := .ref C, dict := some dx, data := .fields fv } C (some od) := ⟨hx, rfl, rfl, hod⟩
  have so := F.store_object
  have full : cd.mro.isEmpty = false := by rw [hm]; rfl
  have ob : cd.mro.contains (.type "object") = true := by rw [hm, List.contains_cons, T.obj, Bool.or_true]
  have below : W.Looks (model prog w) hp (isInstance (.ref x) (.type "object")) true := J.type.andThen (W.looks_mroIn X (by unfold W.mroIn; rw [hc, Option.bind_some, if_neg (by rw [full]; exact Bool.false_ne_true), ob]))
  refine codeAny_call_builtin so.slot.plain so.entry (@W.check_slot (model prog w) _ _ ⟨hp, g, d, t, os⟩ "object.__setattr__" "object" "__setattr__" (.ref x) [.str name tk, v] [] _ so.kind so.split below (so.args (.ref x) (.str name tk) v) ?_)
  have row : W.Looks (model prog w) hp (mroOf (.ref C)) cd.mro := (W.looks_clsIn X hc).andThen .now
  have none3 : W.Looks (model prog w) hp (storeTaker? none) none := .now
  have lc : W.Looks (model prog w) hp (classData C) cd := W.looks_clsIn X hc
  rw [W.osa_eq, refuse_eq]
  refine wpAny_bind (wpAny_bind (J.type.at (wpAny_bind (row.at ?_))))
  rw [hm, refuseLoop_ref, T.passes]
  refine wpAny_pure (wpAny_bind (J.type.at (wpAny_bind ((W.looks_findIn X no).at (wpAny_bind (none3.at ?_))))))
  refine (show wpAny _ _ (storeInOwnDict (.ref x) (.ref C) (.str name tk) name v false) _ _ _ from ?_)
  obtain ⟨y1, y2, y3, y4, y5, y6, y7, y8, y9, y10, y11⟩ := cd
  dsimp only at hd
  subst hd
  unfold storeInOwnDict ownDictForStores
  repeat (first | with_reducible refine PySem.OEX.store_in_old hn hw hz ?_ | with_reducible refine wpAny_loadPart_at hx ?_ | with_reducible refine lc.at ?_ | wp_step)
  intro h' tk' hn' hs
  exact hq h' tk' (fun b o nb ho => (hs.2 b nb).trans ho) hn'
end
end Ys
namespace Ys
open PySem PySem.Spec PyProof.Rows L2
/-! ### the own __init__ of an error below any of the errors -/
structure OexE (K : PySem.W.Frag) (C : Addr) (newId : String) (tl : List Value) : Prop where
  cls : ∃ nm q N bs sn sub ab col dd k0 k1 k2 k3 k5, K.lookup C = some (excClassObj nm q C N bs tl true sn sub ab col dd k0 k1 k2 k3 k5 newId)
  sa : PySem.W.findIn K (.ref C) "__setattr__" = some (some (.builtin "object.__setattr__"))
  exC : PySem.W.subIn K (.ref C) (.type "BaseException") = some true
  tyC : PySem.W.typeIn K (.ref C) = some (.type "type")
  kC : PySem.W.keepIn K (.ref C) = true
structure SupE (P : Program) (K : PySem.W.Frag) (C fI : Addr) (B initId : String) (flds : List Str) (qual : Str) (params : Arguments) (body : List Stmt) (scope : Scope) (fd : FuncData) : Prop where
  ex : ∃ oc od osl dV kV doc pm an cda ct cc, fd = PySem.W.ksFn "__init__" qual params body scope dV kV doc pm an (.ref cda) ct cc ∧ K.lookup fI = some ⟨oc, od, .func fd, osl⟩ ∧ PySem.W.codeIn K (.ref cda) qual = true ∧
    (∃ ccl cdd vs ccs file tf, K.lookup cda = some ⟨ccl, cdd, .fields vs, ccs⟩ ∧ vs[2]? = some (.str file tf) ∧ ((P.main.file : Str) == file) = true) ∧ ∃ cl cld csl, K.lookup cc = some ⟨cl, cld, .cell (some (.ref C)), csl⟩
  sup : PySem.W.ks_superIn K C C "__init__" = some (some (.builtin initId))
  subV : PySem.W.subIn K (.ref C) (.type B) = some true
  opq : PySem.W.nsIn K cStatics "thirdparty.any" = some none
  gs : PySem.W.nsIn K mainGlobals "super" = some none
  no : ∀ f ∈ flds, PySem.W.findIn K (.ref C) f = some none
  mro : PySem.W.mroIn K C (.ref C) = some true
section
variable {P : Program} {w : World} {K : PySem.W.Frag} {C fI a t0 : Addr} {A : Around} {R : Result → Shared → Prop} {fd : FuncData} {hp : Heap} {g : Array GenState} {d : Drawn} {t : Nat} {os : OsState} {B newId initId : String} {tl : List Value}
theorem call_mwE (T : BaseE B newId initId tl) {mw : Addr} {us : List Value} {nm q : Str} {N : Addr} {bs : List Value} {hd : Bool} {sn : List Str} {sub : List Value} {ab : Bool} {col : Option Bool} {dd : Option Addr} {k0 k1 k2 k3 k5 : Option Value} {Q : Value → Shared → Prop} {E : Value → Shared → Prop}
    (hC : hp.get? C = some (excClassObj nm q C N bs tl hd sn sub ab col dd k0 k1 k2 k3 k5 newId)) (hx : hp.get? a = some (PySem.HandSPX.excO C t0)) (hu : hp.get? mw = some (PySem.W.kxs_mw initId a)) (hz : us.length ≤ sizeLine)
    (hq : ∀ h' t1, (∀ b o, b ≠ a → hp.get? b = some o → h'.get? b = some o) → h'.get? a = some (PySem.HandSPX.excO C t1) → Q .none ⟨h', g, d, t, os⟩) : wpAny (model P w) A (call (.ref mw) us) Q E ⟨hp, g, d, t, os⟩ := by
  refine wpAny_call (codeAny_of_tree ?_)
  show wpAny _ A.in1 (callAny (.ref mw) ⟨us, []⟩) _ _ _; simp only [callAny]
  refine wpAny_bind (wpAny_load hu ?_)
  have q1 : (Value.type "method-wrapper" == Value.type "method" || Value.type "method-wrapper" == Value.type "builtin_function_or_method" || Value.type "method-wrapper" == Value.type "method-wrapper") = true := by decide
  simp only [PySem.W.kxs_mw, q1, if_true]
  refine PySem.W.KFB.if_so (by decide) (wpAny_bind (PySem.W.check_bound_init T.base.toExcCallFacts hC hx rfl ?_))
  refine wpAny_bind (wpAny_pure (wpAny_pure ⟨plainId_quiet T.base.init.plain _, codeAny_builtin T.base.initEntry ?_⟩))
  exact PySem.W.exc_init_tree (cls := .ref C) (t0 := t0) (dv := none) (c2 := .none) (c3 := .none) (b4 := .bool false) hx hz fun h' k e _ => hq h' _ k e
structure SupZ (ps : List Str) (params : Arguments) (scope : Scope) : Prop where
  nc : ∀ y ∈ scope.names, y.2 ≠ .cell
  ns : scope.names.lookup ("super" : Str) = some .globalImplicit
  nk : scope.names.lookup ("__class__" : Str) = some .free
  loc : ∀ y ∈ ps, scope.names.lookup y = some .local
  co : scope.isCoroutine = false
  ge : scope.isGenerator = false
  ki : scope.kind = .function
  hd : ∃ ar, (params.posonlyargs ++ params.args).head? = some ar ∧ ar.arg = "self"
variable {qual : Str} {flds : List Str} {params : Arguments} {scope : Scope} {p0 p1 p2 p4 p5 : Pos} {es : List Expr} {rest : List Stmt} {mg mb : Str → Option Value} {vs : List Value} {ps : List Str}
theorem sup_first (S : SupE P K C fI B initId flds qual params (.Expr (.Call (.Attribute (.Call (.Name "super" p0) [] [] p1) "__init__" p2) es [] p4) p5 :: rest) scope fd) (Z : SupZ ("self" :: ps) params scope) (TB : BaseE B newId initId tl) (T : OexE K C newId tl)
    (X : K.In hp) (hg : hp.Ns mainGlobals mg) (hb : hp.Ns builtinsNs mb) (hbb : ∀ y : Str, y ≠ "__name__" → mb y = bootBuiltins y) (hlim : hp.NoLimit) (hroom : A.depth < recursionLimit)
    (hev : ∀ env : Env, env.scope = scope → ∃ pl : Sem Bool, eval (.Call (.Attribute (.Call (.Name "super" p0) [] [] p1) "__init__" p2) es [] p4) env = (do
      let ov ← attributeBase (.Call (.Name "super" p0) [] [] p1) "__init__" env (eval (.Call (.Name "super" p0) [] [] p1) env)
      standAt p2.atName
      let (f, first) ← holding [ov] (getMethod ov "__init__" pl)
      callWith p4 f first (backTo p4 (starEach es env)) []))
    (hpl : ∀ env : Env, (backTo p4 (starEach es env)).any (·.1) = false) (hne : ∀ env : Env, ∃ x xs, backTo p4 (starEach es env) = (false, x) :: xs)
    (hint : ∀ env : Env, env.scope = scope → interactive env = false) (hsw : ∀ env : Env, env.scope = scope → swapsWith (.Call (.Attribute (.Call (.Name "super" p0) [] [] p1) "__init__" p2) es [] p4) none p5.line env = pure false)
    (htop : (P.main.scope.names.lookup ("super" : Str)).isSome = false) (hlen : vs.length = ps.length) (hl : vs.length ≤ 100) (hns : ("self" : Str) ∉ ps)
    (hargs : ∀ (env : Env) (hh : Heap) (L : Addr) (A : Around) (t : Nat) (Q : List Value → Shared → Prop) (E : Value → Shared → Prop), env.scope = scope → env.locals = L → hh.Ns L (fun y => ((("self" : Str), Value.ref a) :: ps.zip vs).reverse.lookup y) → Q vs ⟨hh, g, d, t, os⟩ →
      wpAny (model P w) A (spliced (backTo p4 (starEach es env))) Q E ⟨hh, g, d, t, os⟩)
    (haK : K.lookup a = none) (hx : hp.get? a = some (PySem.HandSPX.excO C t0)) (args : Args) (hbind : BindsTo ⟨hp, g, d, t, os⟩ fd args ((("self" : Str), Value.ref a) :: ps.zip vs))
    (hrest : ∀ h2 t1 tk (env : Env) (c : Code) (E : Value → Shared → Prop), env.scope = scope → env.locals = hp.objs.size → K.In h2 → (hp.objs.size : Nat) < h2.objs.size → h2.Ns hp.objs.size (fun y => ((("self" : Str), Value.ref a) :: ps.zip vs).reverse.lookup y) → (∀ b o, b ≠ a → hp.get? b = some o → h2.get? b = some o) →
      h2.get? a = some (PySem.HandSPX.excO C t1) → PySem.wpAt (model P w) (A.deeper env) c (execs rest env) (fun f s' => R (.ok (.ret (match f with | .ret v => v | _ => .none))) s') E ⟨h2, g, d, tk, os⟩) :
    codeAny (model P w) A (.call (.ref fI) args) R ⟨hp, g, d, t, os⟩ := by
  obtain ⟨oc, od, osl, dV, kV, doc, pm, an, cda, ct, cc, rfl, lk, hcd, ⟨ccl, cdd, ws, ccs, file, tf, lcd, hvs, hfile⟩, cl, cld, csl, lcc⟩ := S.ex
  obtain ⟨ar, har, hars⟩ := Z.hd
  obtain ⟨nm, q, N, bs, sn, sub, ab, col, dd, k0, k1, k2, k3, k5, hC⟩ := T.cls
  have hcl : PySem.W.clsIn K C = some { name := nm, bases := bs, mro := .ref C :: tl, ns := N, qualname := q, hasDict := true, slotNames := sn, subclasses := sub, abstract := ab, collection := col, hasDel := false } := by unfold PySem.W.clsIn; rw [hC] <;> rfl
  have zin : ∀ y ∈ ps.zip vs, y.1 ∈ ps := fun y hy => (List.of_mem_zip hy).1
  refine ks_codeAny_call_defAt (binds := (("self" : Str), Value.ref a) :: ps.zip vs) hroom (X _ _ lk) rfl hlim (PySem.W.codeRec_of X hcd) rfl hbind Z.nc (fun y hy => ?_) (fun h0 hn0 hk => ?_) Z.co Z.ge Z.ki
  · rcases List.mem_cons.mp hy with rfl | hy
    · exact Z.loc _ (List.mem_cons_self ..)
    · exact Z.loc _ (List.mem_cons_of_mem _ (zin y hy))
  have X0 : K.In h0 := X.keeps hk
  have ns_ : ∀ {L : Addr} {m : Str → Option Value}, hp.Ns L m → h0.Ns L m := fun ⟨o, es, ep, e, d, r⟩ => ⟨o, es, ep, hk _ _ e, d, r⟩
  have hn2 : h0.Ns hp.objs.size (fun y => ((("self" : Str), Value.ref a) :: ps.zip vs).reverse.lookup y) := hn0
  have lself : ((("self" : Str), Value.ref a) :: ps.zip vs).reverse.lookup ("self" : Str) = some (.ref a) := by
    rw [List.reverse_cons, List.lookup_append]
    have : (ps.zip vs).reverse.lookup ("self" : Str) = none := by
      rw [List.lookup_eq_none_iff]
      intro y hy
      have := zin y (List.mem_reverse.mp hy)
      simp only [bne_iff_ne, ne_eq, beq_eq_false_iff_ne]
      intro z
      exact hns (z ▸ this)
    rw [this]
    simp [List.lookup]
  obtain ⟨pl, hev⟩ := hev (callEnv (PySem.W.ksFn "__init__" qual params (.Expr (.Call (.Attribute (.Call (.Name "super" p0) [] [] p1) "__init__" p2) es [] p4) p5 :: rest) scope dV kV doc pm an (.ref cda) ct cc) hp.objs.size fI) rfl
  refine ks_wpAt_execs_cons (ks_wpAt_Expr_any (ks_wpAt_MethodCall (pl := pl) ?_ hev) (hint _ rfl) (hsw _ rfl))
  refine ks_wpAt_super_base Z.ns Z.nk (by decide +kernel) rfl (X0 _ _ lk) rfl har rfl (X0 _ _ lcd) rfl hvs hfile htop ?_
  refine PySem.W.ks_loadName_global Z.ki Z.ns (PySem.Calls.loadGlobal_builtin (ns_ hg) (PySem.W.mg_none_of X hg S.gs) (ns_ hb) ((hbb _ (by decide +kernel)).trans (by first | rfl | kernel_rfl)) ⟨rfl, ?_⟩)
  refine wpAny_loadName_free Z.ki Z.nk rfl ⟨_, X0 _ _ lcc, rfl⟩ ?_
  rw [hars]
  refine wpAny_loadName_local Z.ki (Z.loc _ (List.mem_cons_self ..)) hn2 lself ?_
  refine ks_wpAny_isType_cls (X0 _ _ hC) rfl ⟨rfl, ?_⟩
  have hxa := hk _ _ hx
  refine ks_wpAny_call_super (X0 _ _ hC) rfl hxa rfl (fun c e => by cases e) (PySem.W.looks_mroIn X0 S.mro) (fun h1 e1 k1 => ?_)
  have X1 : K.In h1 := X0.keeps k1
  have I1 : PySem.W.InstAt h1 a (PySem.HandSPX.excO C t0) C none := ⟨k1 _ _ hxa, rfl, rfl, trivial⟩
  have hsup : PySem.W.alongIn K "__init__" ((((Value.ref C :: tl).dropWhile (· != .ref C)).drop 1)) = some (some (.builtin initId)) := by
    have := S.sup
    unfold PySem.W.ks_superIn at this
    rw [hcl] at this
    exact this
  refine PySem.W.kxs_getMethod TB.kxs e1 (PySem.W.looks_opaque X1 S.opq) (l₀ := .ref C :: tl) (fun A Q E s k q => wpAny_bind ((PySem.W.looks_clsIn X1 hcl) A _ E s k (wpAny_pure q))) rfl X1 hsup (I1.type.andThen (PySem.W.looks_subIn X1 S.subV)) (PySem.W.ks_ne X1 I1 hcl) (by decide +kernel) ?_
  refine PySem.W.kxs_callWith (i := initId) (x := a) (u := h1.objs.size) (hpl _) ?_
  have hk1 : ∀ b o, hp.get? b = some o → h1.get? b = some o := fun b o e => k1 _ _ (hk _ _ e)
  have hn3 : h1.Ns hp.objs.size (fun y => ((("self" : Str), Value.ref a) :: ps.zip vs).reverse.lookup y) := let ⟨o, es, ep, e, d, r⟩ := hn2; ⟨o, es, ep, k1 _ _ e, d, r⟩
  have hn4 : (h1.push (PySem.W.kxs_mw initId a)).Ns hp.objs.size (fun y => ((("self" : Str), Value.ref a) :: ps.zip vs).reverse.lookup y) := let ⟨o, es, ep, e, d, r⟩ := hn3; ⟨o, es, ep, Heap.get?_push_of_some _ e, d, r⟩
  obtain ⟨ex, exs, hex⟩ := hne (callEnv (PySem.W.ksFn "__init__" qual params (.Expr (.Call (.Attribute (.Call (.Name "super" p0) [] [] p1) "__init__" p2) es [] p4) p5 :: rest) scope dV kV doc pm an (.ref cda) ct cc) hp.objs.size fI)
  rw [hex]
  refine PySem.Calls.evalArgs_plain ?_
  rw [← hex]
  refine hargs _ _ hp.objs.size _ _ _ _ rfl rfl hn4 ⟨Heap.get?_push_at rfl rfl, ?_⟩
  show wpAny _ _ (call (.ref h1.objs.size) vs) _ _ _
  have kp : ∀ b o, h1.get? b = some o → (h1.push (PySem.W.kxs_mw initId a)).get? b = some o := fun b o e => Heap.get?_push_of_some _ e
  refine call_mwE TB (kp _ _ (X1 _ _ hC)) (kp _ _ (hk1 _ _ hx)) (Heap.get?_push_at rfl rfl) (by rw [sizeLine_eq]; omega) (fun h2 t1 k2 hx2 => ?_)
  have nC : C ≠ a := fun z => by have := X _ _ hC; rw [z, hx] at this; cases this
  have hL : hp.objs.size ≠ a := Nat.ne_of_gt (Heap.lt_size hx)
  have hn5 : h2.Ns hp.objs.size (fun y => ((("self" : Str), Value.ref a) :: ps.zip vs).reverse.lookup y) := by
    obtain ⟨o, es, ep, e, d, r⟩ := hn3
    exact ⟨o, es, ep, k2 _ _ hL (kp _ _ e), d, r⟩
  have k02 : ∀ b o, b ≠ a → hp.get? b = some o → h2.get? b = some o := fun b o nb e => k2 b o nb (kp _ _ (hk1 _ _ e))
  have hsz : hp.objs.size < h2.objs.size := let ⟨o, es, ep, e, d, r⟩ := hn5; Heap.lt_size e
  exact hrest h2 t1 _ _ _ _ rfl rfl (fun b o e => k02 b o (fun z => by rw [z, haK] at e; cases e) (X _ _ e)) hsz hn5 k02 hx2
end
end Ys
namespace Ys
open PySem PySem.Spec PyProof.Rows L2
section
variable {P : Program} {w : World} {K : PySem.W.Frag} {C fI a t0 : Addr} {A : Around} {R : Result → Shared → Prop} {fd : FuncData} {hp : Heap} {g : Array GenState} {d : Drawn} {t : Nat} {os : OsState} {B newId initId : String} {tl : List Value}
variable {qual x fld : Str} {params : Arguments} {scope : Scope} {p0 p1 p2 p3 p4 p5 p6 p7 p8 p9 : Pos} {mg mb : Str → Option Value} {v : Value}
theorem run_supE (S : SupE P K C fI B initId [fld] qual params (supBody x fld p0 p1 p2 p3 p4 p5 p6 p7 p8 p9) scope fd) (Z : SupZ ["self", x] params scope) (nd : (x == ("__debug__" : Str)) = false) (ne : ("self" : Str) ≠ x) (TB : BaseE B newId initId tl) (T : OexE K C newId tl)
    (X : K.In hp) (hg : hp.Ns mainGlobals mg) (hb : hp.Ns builtinsNs mb) (hbb : ∀ y : Str, y ≠ "__name__" → mb y = bootBuiltins y) (hlim : hp.NoLimit) (hroom : A.depth < recursionLimit)
    (hev : ∀ env : Env, env.scope = scope → ∃ pl : Sem Bool, eval (.Call (.Attribute (.Call (.Name "super" p0) [] [] p1) "__init__" p2) [.Name x p3] [] p4) env = (do
      let ov ← attributeBase (.Call (.Name "super" p0) [] [] p1) "__init__" env (eval (.Call (.Name "super" p0) [] [] p1) env)
      standAt p2.atName
      let (f, first) ← holding [ov] (getMethod ov "__init__" pl)
      callWith p4 f first (backTo p4 (starEach [.Name x p3] env)) []))
    (hint : ∀ env : Env, env.scope = scope → interactive env = false) (hsw1 : ∀ env : Env, env.scope = scope → swapsWith (.Call (.Attribute (.Call (.Name "super" p0) [] [] p1) "__init__" p2) [.Name x p3] [] p4) none p5.line env = pure false)
    (hsw2 : ∀ env : Env, env.scope = scope → swapsWith (.Name x p8) (some (.Attribute (.Name "self" p6) fld p7)) p9.line env = pure false)
    (htop : (P.main.scope.names.lookup ("super" : Str)).isSome = false)
    (haK : K.lookup a = none) (hx : hp.get? a = some (PySem.HandSPX.excO C t0)) (args : Args) (hbind : BindsTo ⟨hp, g, d, t, os⟩ fd args [("self", .ref a), (x, v)])
    (hR : ∀ h' tk dx t1, (∀ b o, b ≠ a → hp.get? b = some o → h'.get? b = some o) → hp.objs.size ≤ dx → dx ≠ a → h'.get? a = some ({ cls := .ref C, dict := some dx, data := .fields #[.ref t1, .none, .none, .none, .bool false, .none] } : Obj) →
      h'.Ns1 dx (fun y => if y = fld then some v else none) → R (.ok (.ret .none)) ⟨h', g, d, tk, os⟩) :
    codeAny (model P w) A (.call (.ref fI) args) R ⟨hp, g, d, t, os⟩ := by
  have lself : ((("self" : Str), Value.ref a) :: [x].zip [v]).reverse.lookup ("self" : Str) = some (.ref a) := by
    show List.lookup ("self" : Str) [(x, v), (("self" : Str), Value.ref a)] = _
    rw [List.lookup_cons, show (("self" : Str) == x) = false from by simpa using ne]
    simp [List.lookup]
  have lx : ((("self" : Str), Value.ref a) :: [x].zip [v]).reverse.lookup x = some v := by
    show List.lookup x [(x, v), (("self" : Str), Value.ref a)] = _
    rw [List.lookup_cons]
    simp
  have nx : scope.names.lookup x = some .local := Z.loc x (by simp)
  obtain ⟨nm, q, N, bs, sn, sub, ab, col, dd, k0, k1, k2, k3, k5, hC⟩ := T.cls
  have hcl : PySem.W.clsIn K C = some { name := nm, bases := bs, mro := .ref C :: tl, ns := N, qualname := q, hasDict := true, slotNames := sn, subclasses := sub, abstract := ab, collection := col, hasDel := false } := by unfold PySem.W.clsIn; rw [hC] <;> rfl
  refine sup_first (ps := [x]) (vs := [v]) S Z TB T X hg hb hbb hlim hroom hev (fun env => rfl) (fun env => ⟨_, _, rfl⟩) hint hsw1 htop rfl (by show 1 ≤ 100; decide) (by simpa using ne) (fun env hh L A t Q E hs hf hn hq => ?_) haK hx args hbind (fun h2 t1 tk env c E hs hf X2 hsz hn k02 hx2 => ?_)
  · subst hs
    subst hf
    refine PySem.Calls.spliced_cons ?_
    show wpAny _ _ (eval (.Name x p3) _) _ _ _
    exact PySem.ESX.ldL hn lx (wpAny_pure hq) Z.ki nx nd
  · subst hs
    have hL : hp.objs.size ≠ a := Nat.ne_of_gt (Heap.lt_size hx)
    rw [← hf] at hn
    refine ks_wpAt_execs_cons (ks_wpAt_Assign_Attr (wpAt_of_wpAny (PySem.ESX.ldL hn lx (PySem.ESX.ldL hn lself ?_ Z.ki (Z.loc _ (List.mem_cons_self ..)) (by decide)) Z.ki nx nd)) (hsw2 _ rfl))
    refine PySem.W.set_plain X2 (ox := PySem.HandSPX.excO C t1) (od := none) ⟨hx2, rfl, rfl, trivial⟩ T.sa ?_
    refine storeN TB X2 hx2 hcl rfl rfl (S.no _ (List.mem_cons_self ..)) (fun h3 tk3 dx k3 hd3 ne3 hx3 hn5 => ?_)
    refine wpAt_of_wpAny (wpAny_pure ?_)
    exact hR h3 tk3 dx t1 (fun b o nb e => k3 b o nb (k02 b o nb e)) (Nat.le_trans (Nat.le_of_lt hsz) hd3) ne3 hx3 hn5
theorem ok_supE {base : Heap} {CX : CXT} (S : SupE P K C fI B initId [fld] qual params (supBody x fld p0 p1 p2 p3 p4 p5 p6 p7 p8 p9) scope fd) (Z : SupZ ["self", x] params scope) (nd : (x == ("__debug__" : Str)) = false) (ne : ("self" : Str) ≠ x) (TB : BaseE B newId initId tl) (T : OexE K C newId tl)
    (hev : ∀ env : Env, env.scope = scope → ∃ pl : Sem Bool, eval (.Call (.Attribute (.Call (.Name "super" p0) [] [] p1) "__init__" p2) [.Name x p3] [] p4) env = (do
      let ov ← attributeBase (.Call (.Name "super" p0) [] [] p1) "__init__" env (eval (.Call (.Name "super" p0) [] [] p1) env)
      standAt p2.atName
      let (f, first) ← holding [ov] (getMethod ov "__init__" pl)
      callWith p4 f first (backTo p4 (starEach [.Name x p3] env)) []))
    (hint : ∀ env : Env, env.scope = scope → interactive env = false) (hsw1 : ∀ env : Env, env.scope = scope → swapsWith (.Call (.Attribute (.Call (.Name "super" p0) [] [] p1) "__init__" p2) [.Name x p3] [] p4) none p5.line env = pure false)
    (hsw2 : ∀ env : Env, env.scope = scope → swapsWith (.Name x p8) (some (.Attribute (.Name "self" p6) fld p7)) p9.line env = pure false)
    (htop : (P.main.scope.names.lookup ("super" : Str)).isSome = false) : FnOk P w K mg base CX 1 fI fd ["self", x] (spSup K C fld) := by
  refine ⟨fun vs H Q E h => ?_, fun A outer s H args us vs Q E hr e0 hbd r hsp => ?_⟩
  · obtain ⟨a, y, rfl, _⟩ := h
    rfl
  obtain ⟨a, y, rfl, ha, q⟩ := hsp
  obtain ⟨u1, u2, rfl, r1, r2⟩ := vals2 r
  obtain rfl : u1 = Value.ref a := r1
  obtain ⟨t0, hx⟩ := exo_at e0.hok ha
  have KX : K.In s.heap := e0.mod.kin.keeps fun b o e => (e0.bs b o e).1
  have haK : K.lookup a = none := by
    cases z : K.lookup a with
    | none => rfl
    | some o =>
      have := (e0.bs _ _ (e0.mod.kin _ _ z)).2
      rw [ha] at this
      cases this
  obtain ⟨mb, hmb, hbb⟩ := e0.mod.blt
  have ns_ : ∀ {L : Addr} {m : Str → Option Value}, base.Ns L m → s.heap.Ns L m := fun ⟨o, es, ep, e, d, r⟩ => ⟨o, es, ep, (e0.bs _ _ e).1, d, r⟩
  have lim : s.heap.NoLimit := e0.mod.nolimit.keeps fun b o e => (e0.bs b o e).1
  obtain ⟨hp, g, d, t, os⟩ := s
  refine run_supE S Z nd ne TB T KX (ns_ e0.mod.glob) (ns_ hmb) hbb lim hr.depth hev hint hsw1 hsw2 htop haK hx args hbd (fun h' tk dx t1 k hd ne hx' hn => ?_)
  have nH : H dx = none := e0.hok.fresh hd
  have old : ∀ {b : Addr} {o : Obj}, hp.get? b = some o → b ≠ dx := fun e z => absurd (Heap.lt_size (z ▸ e)) (Nat.not_lt.mpr hd)
  have sep : ∀ {b : Addr}, H b = none → b ≠ a := fun n z => by rw [z, ha] at n; cases n
  refine ⟨.non, upd (upd H dx (exd dx [(fld, y)])) a (exo a C (some dx)), rfl, e0.bare, ⟨fun b o e n _ _ => k b o (sep n) e, fun b o e n _ _ => ⟨o.slots, k b o (sep n) e⟩, fun b o e n _ => ?_, fun b o e _ => ?_, fun b xs e => ?_, fun b o u e => ?_, fun b ps e => ?_⟩, fun b o e => ?_, rfl, q dx nH ne⟩
  · rw [upd_ne (sep n), upd_ne (old e)]
    exact n
  · by_cases c : b = a
    · exact ⟨_, by rw [c]; exact hx'⟩
    · exact ⟨o, k b o c e⟩
  · rw [upd_ne (at_ne ha e exo_tup), upd_ne (ne_of_none e nH)]
    exact e
  · rw [upd_ne (at_ne ha e exo_frz), upd_ne (ne_of_none e nH)]
    exact e
  · exact ⟨#[], by rw [upd_ne (at_ne ha e exo_tbl), upd_ne (ne_of_none e nH), e]; simp⟩
  · by_cases c : b = a
    · subst c
      rw [upd_same] at e
      cases e
      exact exo_ok hx'
    rw [upd_ne c] at e
    by_cases c2 : b = dx
    · subst c2
      rw [upd_same] at e
      cases e
      exact exd_ok hn (relO_put (fs := []) r2 fun _ => True.intro)
    rw [upd_ne c2] at e
    refine (e0.hok b o e).stay (fun c' v' hc z => k c' v' ?_ z) (fun c' hc => ?_) (fun c' xs hc => ?_)
    · rcases hc with hc | hc
      · rw [hc]; exact c
      · exact at_ne ha hc exo_own
    · rw [upd_ne (at_ne ha hc exo_own), upd_ne (ne_of_none hc nH)]
      exact hc
    · rw [upd_ne (at_ne ha hc exo_tup), upd_ne (ne_of_none hc nH)]
      exact hc
end
end Ys
namespace Ys
open PySem PySem.Spec PyProof.Rows L2
/-! ### an own error made as a value -/
structure MkE (P : Program) (w : World) (K : PySem.W.Frag) (mg : Str → Option Value) (base : Heap) (CX : CXT) (k : Nat) (C : Addr) (x : Str) (n : Nat) (ks : List Str) (gV : List V → List V → List V) (sp : Sp) : Prop where
  ex : ∃ f fd ps g, PySem.W.findIn K (.ref C) "__init__" = some (some (.ref f)) ∧ PySem.W.typeIn K (.ref f) = some (.type "function") ∧ FnOk P w K mg base CX k f fd ps sp ∧ mg x = some (.ref C) ∧ KBn K fd ps (n + 1) ks g gV
  cl : ∃ B newId initId tl, BaseE B newId initId tl ∧ OexE K C newId tl
section
variable {X : Cx} {CX : CXT} {k n m : Nat} {C : Addr} {x : Str} {ks : List Str} {gV : List V → List V → List V} {sp : Sp} {E : XK} {t tk : TA} {p pos : Pos} {e : Expr} {es : List Expr} {kws : List Keyword} {G H : Hp} {M : List (Addr × HO)} {σ : L2.St} {Q : VK} {vs zs : List V}
def MkEW (C : Addr) (n m : Nat) (sp : Sp) (gV : List V → List V → List V) (E : XK) (vs zs : List V) (H2 : Hp) (Q : VK) : Prop := vs.length = n ∧ zs.length = m ∧ n ≤ 1000 ∧ ∀ a, H2 a = none → sp (gV (.ref a :: vs) zs) (upd H2 a (exo a C none)) (fun v H3 => v = .non ∧ Q (.ref a) H3) E
def tMkE (C : Addr) (n m : Nat) (sp : Sp) (gV : List V → List V → List V) (E : XK) (t tk : TA) : TE := fun σ H Q => t σ H fun vs H1 => tk σ H1 fun zs H2 => MkEW C n m sp gV E vs zs H2 Q
theorem made_end {pins : List (Addr × Obj)} {s2 : Shared} {us ws : List Value} {Rr : Result → Shared → Prop} (R : MkE X.prog X.w X.K X.mg X.base CX k C x n ks gV sp) (hr : Room (k + 1) X.A) (hx : Passes CX X E) (I2 : Inv X pins σ H s2) (r : Vals vs us) (rz : Vals zs ws) (q2 : MkEW C n ks.length sp gV E vs zs H Q)
    (hok : ∀ u v H' s', Inv X pins σ H' s' → RelV v u → Q v H' → Rr (.ok (.ret u)) s') (her : ∀ e s', X.xe e s' → Rr (.error e) s') : codeAny (model X.prog X.w) X.A (.call (.ref C) ⟨us, ks.zip ws⟩) Rr s2 := by
  obtain ⟨f, fd, ps, g, iC, tI, F, hm, hb⟩ := R.ex
  obtain ⟨B, newId, initId, tl, TB, T⟩ := R.cl
  obtain ⟨nm, q, N, bs, sn, sub, ab, col, dd, k0, k1, k2, k3, k5, hC⟩ := T.cls
  obtain ⟨l1, l2, ln, q2⟩ := q2
  obtain ⟨hp, gn, dr, tk, os⟩ := s2
  have hsz : hp.objs.size ≤ hp.objs.size + 1 := Nat.le_succ _
  have hn : H (hp.objs.size + 1) = none := I2.hok.fresh hsz
  have hq := q2 (hp.objs.size + 1) hn
  have kk : ∀ b o, hp.get? b = some o → ((hp.push (PySem.W.kdv_tup us)).push (PySem.HandSPX.excO C hp.objs.size)).get? b = some o := fun b o e => Heap.get?_push_of_some _ (Heap.get?_push_of_some _ e)
  have hget : ((hp.push (PySem.W.kdv_tup us)).push (PySem.HandSPX.excO C hp.objs.size)).get? (hp.objs.size + 1) = some (PySem.HandSPX.excO C hp.objs.size) := by heap_get
  have J : Inv X pins σ (upd H (hp.objs.size + 1) (exo (hp.objs.size + 1) C none)) ⟨(hp.push (PySem.W.kdv_tup us)).push (PySem.HandSPX.excO C hp.objs.size), gn, dr, tk, os⟩ :=
    I2.laid (t' := tk) (a := hp.objs.size + 1) (o := exo (hp.objs.size + 1) C none) (h' := (hp.push (PySem.W.kdv_tup us)).push (PySem.HandSPX.excO C hp.objs.size)) kk hsz (exo_ok hget)
  have ra : Vals (V.ref (hp.objs.size + 1) :: vs) (Value.ref (hp.objs.size + 1) :: us) := .cons rfl r
  have na : (Value.ref (hp.objs.size + 1) :: us).length = n + 1 := by rw [List.length_cons, ← r.length, l1]
  have hus : us.length ≤ sizeLine := by
    rw [← r.length, l1, sizeLine_eq]
    omega
  refine callE TB.base (I2.kIn _ _ hC) (PySem.W.looks_findIn I2.kIn iC) (fun self => PySem.W.bind_fn I2.kIn self tI) hus
    (codeAny_mono (F.run _ X.stack _ _ ⟨Value.ref (hp.objs.size + 1) :: us, ks.zip ws⟩ (g (Value.ref (hp.objs.size + 1) :: us) ws) _ _ E (hr.make C us (ks.zip ws)) (J.env0.make C us (ks.zip ws))
      (hb.to _ _ ws J.kIn na (rz.length.symm.trans l2)) (hb.rel ra rz) hq) fun rr s' hz => ?_)
  match rr, hz with
  | .error er, hz => exact her er s' (hx pins σ _ _ er s' J hz)
  | .ok (.ret u), hz =>
    obtain ⟨v, H', I3, rv, ev, q3⟩ := J.after hz
    subst ev
    exact ⟨rv, hok _ (V.ref (hp.objs.size + 1)) H' s' I3 rfl q3⟩
  | .ok .next, hz => exact hz.elim
  | .ok .brk, hz => exact hz.elim
  | .ok .cont, hz => exact hz.elim
theorem pe_mkE (R : MkE X.prog X.w X.K X.mg X.base CX k C x n ks gV sp) (hr : Room (k + 1) X.A) (hg : Gl X x) (hx : Passes CX X E) (ha : PA X (e :: es) t) (hkw : PK X kws tk)
    (hall : (backToKw pos (keywordEach kws X.env)).all (·.1.isSome) = true := by rfl) (hks : (backToKw pos (keywordEach kws X.env)).filterMap (·.1) = ks := by rfl) (hdb : (x == ("__debug__" : Str)) = false := by decide)
    (he : starEach (e :: es) X.env = (false, eval e X.env) :: starEach es X.env := by rfl) (hpl : ((backTo pos (starEach (e :: es) X.env)).any (·.1) || (backToKw pos (keywordEach kws X.env)).any (·.1.isNone)) = false := by rfl) :
    PE X (.Call (.Name x p) (e :: es) kws pos) (tMkE C n ks.length sp gV E t tk) := by
  have R0 := R
  obtain ⟨f, fd, ps, g, iC, tI, F, hm, hb⟩ := R.ex
  obtain ⟨B, newId, initId, tl, TB, T⟩ := R.cl
  refine ⟨fun pins s σ H Q I h => wpAny_Call_Name_kw (ld_glob I hg hm ?_ hdb)⟩
  refine PySem.W.callWith_KW (h₀ := X.base) I.ok.mod.kin T.kC hall (thn (ha.run pos pins s σ H _ I h) fun us s1 ⟨vs, H1, I1, r, q⟩ => ?_) hpl he
  refine thn (hkw.run pos pins s1 σ H1 _ I1 q) fun ws s2 ⟨zs, H2, I2, rz, l1, l2, q2⟩ => ⟨I2.kIn, ?_⟩
  rw [hks]
  exact wpAny_call (made_end R0 hr hx I2 r rz ⟨l1, l2, q2⟩ (fun u v H' s' I3 rv q3 => ⟨v, H', I3, rv, q3⟩) fun er s' z => z)
theorem pe_mkE0 (R : MkE X.prog X.w X.K X.mg X.base CX k C x 0 ks gV sp) (hr : Room (k + 1) X.A) (hg : Gl X x) (hx : Passes CX X E) (hkw : PK X kws tk)
    (hall : (backToKw pos (keywordEach kws X.env)).all (·.1.isSome) = true := by rfl) (hks : (backToKw pos (keywordEach kws X.env)).filterMap (·.1) = ks := by rfl) (hdb : (x == ("__debug__" : Str)) = false := by decide)
    (hpl : ((backTo pos (starEach [] X.env)).any (·.1) || (backToKw pos (keywordEach kws X.env)).any (·.1.isNone)) = false := by rfl) : PE X (.Call (.Name x p) [] kws pos) (tMkE C 0 ks.length sp gV E tNil tk) := by
  have R0 := R
  obtain ⟨f, fd, ps, g, iC, tI, F, hm, hb⟩ := R.ex
  obtain ⟨B, newId, initId, tl, TB, T⟩ := R.cl
  refine ⟨fun pins s σ H Q I h => wpAny_Call_Name_kw (ld_glob I hg hm ?_ hdb)⟩
  refine PySem.W.callWith_KW0 (h₀ := X.base) I.ok.mod.kin T.kC hall ?_ hpl
  refine thn (hkw.run pos pins s σ H _ I h) fun ws s2 ⟨zs, H2, I2, rz, l1, l2, q2⟩ => ⟨I2.kIn, ?_⟩
  rw [hks]
  exact wpAny_call (made_end (us := []) (vs := []) R0 hr hx I2 .nil rz ⟨l1, l2, q2⟩ (fun u v H' s' I3 rv q3 => ⟨v, H', I3, rv, q3⟩) fun er s' z => z)
theorem z_mkE (h : t σ H fun vs H1 => tk σ H1 fun zs H2 => MkEW C n m sp gV E vs zs H2 Q) : tMkE C n m sp gV E t tk σ H Q := h
theorem z_mkEI (z : Zp G M H) (l1 : vs.length = n) (l2 : zs.length = m) (ln : n ≤ 1000) (q : ∀ a, H a = none → sp (gV (.ref a :: vs) zs) (upd H a (exo a C none)) (fun v H3 => v = .non ∧ Q (.ref a) H3) E) : MkEW C n m sp gV E vs zs H Q := ⟨l1, l2, ln, q⟩
theorem z_mkE1 {fld : Str} {K : PySem.W.Frag} {y : V} (z : Zp G M H) (hg : gV (.ref (0 : Addr) :: vs) zs = [.ref (0 : Addr), y]) (hgv : ∀ a : Addr, gV (.ref a :: vs) zs = [.ref a, y]) (l1 : vs.length = n) (l2 : zs.length = m) (ln : n ≤ 1000)
    (q : ∀ a dx G1 H1, Zp G1 M H1 → Same G G1 → G1 a = some (exo a C (some dx)) → G1 dx = some (exd dx [(fld, y)]) → Q (.ref a) H1) : MkEW C n m (spSup K C fld) gV E vs zs H Q := by
  refine ⟨l1, l2, ln, fun a ha => ?_⟩
  refine ⟨a, y, hgv a, upd_same, fun dx hdx ne => ⟨rfl, ?_⟩⟩
  have hdx0 : H dx = none := by rw [upd_ne ne] at hdx; exact hdx
  have e1 : upd (upd (upd H a (exo a C none)) dx (exd dx [(fld, y)])) a (exo a C (some dx)) = upd (upd H dx (exd dx [(fld, y)])) a (exo a C (some dx)) := by
    funext b
    by_cases c : b = a
    · rw [c, upd_same, upd_same]
    · rw [upd_ne c, upd_ne c]
      by_cases c2 : b = dx
      · rw [c2, upd_same, upd_same]
      · rw [upd_ne c2, upd_ne c2, upd_ne c]
  rw [e1]
  have ha2 : upd H dx (exd dx [(fld, y)]) a = none := by rw [upd_ne (Ne.symm ne)]; exact ha
  have z1 := z.new hdx0 (exd dx [(fld, y)])
  have z2 := z1.new ha2 (exo a C (some dx))
  refine q a dx _ _ z2 ((Same.new (z.free hdx0)).trans (Same.new (z1.free ha2))) upd_same ?_
  rw [upd_ne ne, upd_same]
end
end Ys
namespace Ys
open PySem PySem.Spec PyProof.Rows L2
/-! ### what is asked of an error that is held as a value -/
def ErrAt (H : Hp) (a C : Addr) (fs : List (Str × V)) : Prop := ∃ dd, H a = some (exo a C (some dd)) ∧ H dd = some (exd dd fs)
theorem ErrAt.up {H H1 : Hp} {a C : Addr} {fs : List (Str × V)} (s : Same H H1) (h : ErrAt H a C fs) : ErrAt H1 a C fs := let ⟨dd, h1, h2⟩ := h; ⟨dd, s _ _ h1, s _ _ h2⟩
def rIsV (K : PySem.W.Frag) : List V → Hp → VK → Prop := fun xs H Q => ∃ (a C : Addr) (c : V) (cv : Value) (b : Bool), xs = [.ref a, c] ∧ ClsV c cv ∧ ExcC K C ∧ PySem.W.kitOne K (.ref C) cv = some b ∧ ((∃ fs, ErrAt H a C fs) ∨ H a = some (exo a C none)) ∧ Q (.bl b) H
section
variable {X : Cx} {K : PySem.W.Frag} {G H : Hp} {M : List (Addr × HO)} {σ : L2.St} {Q : VK}
theorem call_isV : CallR X (.builtin "isinstance") (rIsV X.K) := by
  intro pins s σ H xs us Q I r ⟨a, C, c, cv, b, e1, hc, T, e2, he, q⟩
  subst e1
  obtain ⟨u1, u2, rfl, r1, r2⟩ := vals2 r
  obtain rfl : u1 = Value.ref a := r1
  obtain rfl := hc.eq r2
  rcases he with ⟨fs, dd, h1, h2⟩ | h1
  · obtain ⟨t1, ho⟩ := exo_at I.hok h1
    obtain ⟨mA, hns, _⟩ := exd_at I.hok h2
    obtain ⟨od, hod, _⟩ := lookIn_ns hns
    have J : PySem.W.InstAt s.heap a { cls := .ref C, dict := some dd, data := .fields #[.ref t1, .none, .none, .none, .bool false, .none] } C (some od) := ⟨ho, rfl, rfl, hod⟩
    exact PySem.W.kia_one (kitx_exc T) I.kIn J e2 (fun z => nomatch z) fun tk => ⟨.bl b, H, I.kept (t' := tk) fun _ _ z => z, rfl, q⟩
  · obtain ⟨t1, ho⟩ := exo_at I.hok h1
    have J : PySem.W.InstAt s.heap a { cls := .ref C, dict := none, data := .fields #[.ref t1, .none, .none, .none, .bool false, .none] } C none := ⟨ho, rfl, rfl, trivial⟩
    exact PySem.W.kia_one (kitx_exc T) I.kIn J e2 (fun z => nomatch z) fun tk => ⟨.bl b, H, I.kept (t' := tk) fun _ _ z => z, rfl, q⟩
theorem k_isV (e : X.K = K := by rfl) : CallR X (.builtin "isinstance") (fun xs H Q => rIsiG K xs H Q ∨ rIsV K xs H Q) := e ▸ CallR.or c_isi call_isV
theorem z_isV {a C : Addr} {c : V} {cv : Value} {b : Bool} {fs : List (Str × V)} (z : Zp G M H) (hc : ClsV c cv) (T : ExcC K C) (e : PySem.W.kitOne K (.ref C) cv = some b) (h : ErrAt G a C fs) (q : Q (.bl b) H) : rIsiG K [.ref a, c] H Q ∨ rIsV K [.ref a, c] H Q :=
  .inr ⟨a, C, c, cv, b, rfl, hc, T, e, .inl ⟨fs, let ⟨dd, h1, h2⟩ := h; ⟨dd, z.sub _ _ h1, z.sub _ _ h2⟩⟩, q⟩
def EfW (K : PySem.W.Frag) (f : Str) (x : V) (H1 : Hp) (Q : VK) : Prop := ∃ (a C : Addr) (fs : List (Str × V)) (v : V), x = .ref a ∧ XfC K C ∧ PySem.W.findIn K (.ref C) f = some none ∧ ErrAt H1 a C fs ∧ fs.lookup f = some v ∧ Q v H1
def tEf (K : PySem.W.Frag) (f : Str) (te : TE) : TE := fun σ H Q => te σ H fun x H1 => EfW K f x H1 Q
theorem pe_ef {e : Expr} {te : TE} {pos : Pos} {f : Str} (he : PE X e te) (hb : attributeBase e f X.env (eval e X.env) = eval e X.env) (hK : X.K = K := by rfl) : PE X (.Attribute e f pos) (tEf K f te) := by
  subst hK
  refine ⟨fun pins s σ H Q I h => ?_⟩
  refine attr_of hb (thn (he.run pins s σ H _ I h) fun u s1 hh => ?_)
  obtain ⟨x, H1, I1, rx, a, C, fs, v, ex, T, no, ⟨dd, h1, h2⟩, l, q⟩ := hh
  subst ex
  obtain rfl : u = Value.ref a := rx
  obtain ⟨t1, ho⟩ := exo_at I1.hok h1
  obtain ⟨mA, hns, hr⟩ := exd_at I1.hok h2
  obtain ⟨od, hod, hl⟩ := lookIn_ns hns
  obtain ⟨u, hu, ru⟩ := RelO.some_of (v := v) (o := mA f) (by rw [← l]; exact hr f)
  have J : PySem.W.InstAt s1.heap a { cls := .ref C, dict := some dd, data := .fields #[.ref t1, .none, .none, .none, .bool false, .none] } C (some od) := ⟨ho, rfl, rfl, hod⟩
  exact HandSPX.exc_get I1.kIn J T.ga T.gg T.exC (PySem.W.findObj_own T.hdC no rfl (by rw [hl, hu])) (handed_of ru) ⟨v, H1, I1.tok _, ru, q⟩
theorem z_ef {te : TE} {f : Str} (h : te σ H fun x H1 => EfW K f x H1 Q) : tEf K f te σ H Q := h
theorem z_efI {a C : Addr} {fs : List (Str × V)} {v : V} {f : Str} (z : Zp G M H) (T : XfC K C) (no : PySem.W.findIn K (.ref C) f = some none) (h : ErrAt G a C fs) (l : fs.lookup f = some v) (q : Q v H) : EfW K f (.ref a) H Q :=
  ⟨a, C, fs, v, rfl, T, no, let ⟨dd, h1, h2⟩ := h; ⟨dd, z.sub _ _ h1, z.sub _ _ h2⟩, l, q⟩
end
end Ys
namespace Ys
open PySem PySem.Spec PyProof.Rows L2
/-! ### a def that asks repr, called by one that may -/
structure OwnG (P : Program) (w : World) (K : PySem.W.Frag) (mg : Str → Option Value) (base : Heap) (CX : CXT) (k : Nat) (x : Str) (ps : List Str) (sp : Sp) : Prop where
  ex : ∃ f fd, FnG P w K mg base CX k f fd ps sp ∧ mg x = some (.ref f) ∧ PySem.W.keepIn K (.ref f) = true ∧ Binds K fd ps []
theorem pe_ownG {X : Cx} {CX : CXT} {k : Nat} {x : Str} {ps : List Str} {sp : Sp} {E : XK} {p pos : Pos} {e : Expr} {es : List Expr} {t : TA} (C : OwnG X.prog X.w X.K X.mg X.base CX k x ps sp) (hgu : X.A.guards = some []) (hr : Room k X.A) (hg : Gl X x) (hx : Passes CX X E) (ha : PA X (e :: es) t)
    (hdb : (x == ("__debug__" : Str)) = false := by decide) (he : starEach (e :: es) X.env = (false, eval e X.env) :: starEach es X.env := by rfl) (hpl : (backTo pos (starEach es X.env)).any (·.1) = false := by rfl) :
    PE X (.Call (.Name x p) (e :: es) [] pos) (tCall sp [] E t) := by
  obtain ⟨f, fd, F, hm, hk, hb⟩ := C.ex
  refine ⟨fun pins s σ H Q I h => wpAny_Call_Name_kw (ld_glob I hg hm ?_ hdb)⟩
  refine PySem.W.callWith_K (h₀ := X.base) I.ok.mod.kin hk (thn (ha.run pos pins s σ H _ I h) fun us s1 ⟨vs, H1, I1, r, q⟩ => ⟨I1.kIn, ?_⟩) he hpl
  have r2 : Vals (vs ++ []) (us ++ []) := r.append .nil
  have hl : (us ++ []).length = ps.length := by rw [← r2.length]; exact F.len _ _ _ _ q
  refine wpAny_call (codeAny_mono (F.run X.A X.stack s1 H1 ⟨us, []⟩ (us ++ []) (vs ++ []) Q E hgu hr I1.env0 (hb s1 us I1.kIn hl) r2 q) fun rr s' hq => ?_)
  match rr, hq with
  | .error er, hq => exact hx pins σ H1 s1 er s' I1 hq
  | .ok (.ret u), hq => exact I1.after hq
  | .ok .next, hq => exact hq.elim
  | .ok .brk, hq => exact hq.elim
  | .ok .cont, hq => exact hq.elim
/-! ### an own error without an own __init__, made of nothing -/
def tNew0 (C : Addr) : TE := fun _ H Q => ∀ a, H a = none → Q (.ref a) (upd H a (exo a C none))
theorem pe_exc0 {X : Cx} {C : Addr} {bmB : List Value} {B newId initId : String} {x : Str} {p pos : Pos} (F : ExcBaseFacts B newId initId bmB) (q : PySem.W.excIn X.K C bmB newId = true) (gC : X.mg x = some (.ref C)) (kC : PySem.W.keepIn X.K (.ref C) = true) (hg : Gl X x)
    (hdb : (x == ("__debug__" : Str)) = false := by decide) : PE X (.Call (.Name x p) [] [] pos) (tNew0 C) := by
  refine ⟨fun pins s σ H Q I h => wpAny_Call_Name_kw (ld_glob I hg gC ?_ hdb)⟩
  refine PySem.W.callWith_K0 I.kIn kC ?_
  obtain ⟨bm, N, nm, qn, bs, hdct, sn, sub, ab, col, dd, k0, k1, k2, k3, k5, mN, hC, hN, hni, T⟩ := exc_obj I.kIn q
  refine wpAny_call_exc_subT F T hC hN hni (fun h' a hm => ?_) (by show 0 ≤ sizeLine; exact Nat.zero_le _)
  have hn : H a = none := I.hok.gone hm.new
  obtain ⟨t, ht, _, _⟩ := hm.there
  exact ⟨.ref a, upd H a (exo a C none), I.laidN hm.keeps hm.new hn (exo_ok ht), rfl, h a hn⟩
theorem z_new0 {C : Addr} {G H : Hp} {M : List (Addr × HO)} {σ : L2.St} {Q : VK} (z : Zp G M H) (q : ∀ a G1 H1, Zp G1 M H1 → Same G G1 → G1 a = some (exo a C none) → Q (.ref a) H1) : tNew0 C σ H Q :=
  fun a ha => q a _ _ (z.new ha _) (Same.new (z.free ha)) upd_same
end Ys
/-! raise C(e), C an own class below any of the errors -/
namespace Ys
open PySem PySem.Spec PyProof.Rows L2
structure ExcG (P : Program) (w : World) (K : PySem.W.Frag) (mg : Str → Option Value) (base : Heap) (C : Addr) (x fld : Str) : Prop where
  T : ∃ B newId initId tl, BaseE B newId initId tl ∧ OexE K C newId tl
  ex : ∃ fI fd pn, PySem.W.findIn K (.ref C) "__init__" = some (some (.ref fI)) ∧ PySem.W.typeIn K (.ref fI) = some (.type "function") ∧ FnOk P w K mg base CX0 1 fI fd ["self", pn] (spSup K C fld) ∧ Binds K fd ["self", pn] []
  gC : mg x = some (.ref C)
section
variable {X : Cx} {ta : TA} {e : Expr} {es : List Expr} {p pos pos' : Pos} {C : Addr} {te : TE} {W : WX} {fld : Str}
theorem pmk_any {CX : CXT} {x : Str} {fI : Addr} {k : Nat} {fd : FuncData} {ps : List Str} {sp : Sp} {ds : List Value} {dvs : List V} {B newId initId : String} {tl : List Value} (TB : BaseE B newId initId tl) (T : OexE X.K C newId tl) (iC : PySem.W.findIn X.K (.ref C) "__init__" = some (some (.ref fI))) (tI : PySem.W.typeIn X.K (.ref fI) = some (.type "function"))
    (F1 : FnOk X.prog X.w X.K X.mg X.base CX k fI fd ps sp) (hr : Room (k + 1) X.A) (hb : Binds X.K fd ps ds) (hd : Vals dvs ds) (hx : Passes CX X (fun _ _ _ => False)) (hg : Gl X x) (hm : X.mg x = some (.ref C)) (ha : PA X (e :: es) ta)
    (hdb : (x == ("__debug__" : Str)) = false := by decide) (he : starEach (e :: es) X.env = (false, eval e X.env) :: starEach es X.env := by rfl) (hpl : (backTo pos (starEach es X.env)).any (·.1) = false := by rfl) :
    PMk X (.Call (.Name x p) (e :: es) [] pos) (tMkO C sp dvs ta) := by
  intro pins s σ H Q I h
  obtain ⟨nm, q, N, bs, sn, sub, ab, col, dd, k0, k1, k2, k3, k5, hC⟩ := T.cls
  refine wpAny_Call_Name_kw (ld_glob I hg hm ?_ hdb)
  refine PySem.W.callWith_K (h₀ := X.base) I.ok.mod.kin T.kC (thn (ha.run pos pins s σ H _ I h) fun us s1 ⟨vs, H1, I1, r1, hz, q1⟩ => ⟨I1.kIn, ?_⟩) he hpl
  obtain ⟨hp, g, dr, tk, os⟩ := s1
  have hsz : hp.objs.size ≤ hp.objs.size + 1 := Nat.le_succ _
  have hq := q1 (hp.objs.size + 1) (I1.hok.fresh hsz)
  have kk : ∀ b o, hp.get? b = some o → ((hp.push (PySem.W.kdv_tup us)).push (PySem.HandSPX.excO C hp.objs.size)).get? b = some o := fun b o e => Heap.get?_push_of_some _ (Heap.get?_push_of_some _ e)
  have I2 : Inv X pins σ (upd H1 (hp.objs.size + 1) (exo (hp.objs.size + 1) C none)) ⟨(hp.push (PySem.W.kdv_tup us)).push (PySem.HandSPX.excO C hp.objs.size), g, dr, tk, os⟩ :=
    I1.laid (t' := tk) (a := hp.objs.size + 1) (o := exo (hp.objs.size + 1) C none) (h' := (hp.push (PySem.W.kdv_tup us)).push (PySem.HandSPX.excO C hp.objs.size)) kk hsz (exo_ok (by heap_get))
  have r2 : Vals (V.ref (hp.objs.size + 1) :: (vs ++ dvs)) (Value.ref (hp.objs.size + 1) :: (us ++ ds)) := .cons rfl (r1.append hd)
  have hl : (Value.ref (hp.objs.size + 1) :: us ++ ds).length = ps.length := by
    have e := r2.length
    rw [F1.len _ _ _ _ hq] at e
    exact e.symm
  have hus : us.length ≤ sizeLine := by
    rw [← Paired.length r1, sizeLine_eq]
    omega
  refine wpAny_call (callE TB.base (I1.kIn _ _ hC) (PySem.W.looks_findIn I1.kIn iC) (fun self => PySem.W.bind_fn I1.kIn self tI) hus
    (codeAny_mono (F1.run _ X.stack _ _ ⟨Value.ref (hp.objs.size + 1) :: us, []⟩ (Value.ref (hp.objs.size + 1) :: (us ++ ds)) _ _ (fun _ _ _ => False) (hr.make C us []) (I2.env0.make C us []) (hb _ (Value.ref (hp.objs.size + 1) :: us) I2.kIn hl) r2 hq) fun r s' hq' => ?_))
  match r, hq' with
  | .error er, hq' => exact hx pins σ _ _ er s' I2 hq'
  | .ok (.ret u), hq' =>
    obtain ⟨v, H2, os2, bare2, un2, hok2, rv, ev, d, fs, ea, ed, hd1, q2⟩ := hq'
    subst ev
    obtain ⟨h2, g2, d2, t2, os'⟩ := s'
    exact ⟨rv, mk_end (raises_own T.exC T.tyC) I1 hsz kk un2 hok2 os2 bare2 ea ed hd1 q2⟩
  | .ok .next, hq' => exact hq'.elim
  | .ok .brk, hq' => exact hq'.elim
  | .ok .cont, hq' => exact hq'.elim
theorem ps_rsG {x : Str} (S : ExcG X.prog X.w X.K X.mg X.base C x fld) (hc : X.calm = true) (tk : Takes X W) (hr : Room 2 X.A) (hg : Gl X x) (he : PE X e te)
    (hdb : (x == ("__debug__" : Str)) = false := by decide) (hst : starEach [e] X.env = (false, eval e X.env) :: starEach [] X.env := by rfl) (hpl : (backTo pos (starEach [] X.env)).any (·.1) = false := by rfl) :
    PS X (.Raise (some (.Call (.Name x p) [e] [] pos)) none pos') (sRs X.K C fld te W) := by
  obtain ⟨B, newId, initId, tl, TB, T⟩ := S.T
  obtain ⟨fI, fd, pn, iC, tI, F, hb⟩ := S.ex
  exact ps_raise hc tk (pmk_any (ta := tCons te tNil) TB T iC tI F hr hb .nil pass0 hg S.gC (pa_cons he pa_nil hst) hdb hst hpl)
end
end Ys
namespace Ys
open PySem PySem.Spec PyProof.Rows L2 StX
section
variable {X : Cx} {K : PySem.W.Frag} {P : Program} {w : World} {G G1 H : Hp} {M M1 : List (Addr × HO)} {σ : L2.St} {Q : VK} {QB : Bool → Hp → Prop} {QA : List V → Hp → Prop} {D : Ends} {ta te tb tv : TE} {t tk : TA} {A B : Prop} {v x y : V} {i j : Int} {a b p : Addr} {xs ys vs zs : List V} {o : HO} {d : PyData}
/-! ### a list or tuple, spread -/
def StW (K : PySem.W.Frag) (x : V) (H : Hp) (R : List V → Prop) : Prop := ∃ p xs, x = V.ref p ∧ (SqT K H p xs ∨ SqL K H p xs) ∧ R xs
theorem z_star (h : te σ H fun x H1 => StW K x H1 fun xs => t σ H1 fun ys H2 => QA (xs ++ ys) H2) : tStar K te t σ H QA := h
theorem z_stL {R : List V → Prop} (h : SqL K H a xs) (q : R xs) : StW K (.ref a) H R := ⟨a, xs, rfl, .inr h, q⟩
theorem z_stT {R : List V → Prop} (h : SqT K H a xs) (q : R xs) : StW K (.ref a) H R := ⟨a, xs, rfl, .inl h, q⟩
theorem k_star {e : Expr} {pos : Pos} {es : List Expr} (he : PE X e te) (hr : PA X es t) (q : X.K = K := by rfl) (hs : starEach (.Starred e pos :: es) X.env = (true, eval e X.env) :: starEach es X.env := by rfl) : PA X (.Starred e pos :: es) (tStar K te t) := q ▸ pa_star he hr hs
/-! ### dicts of the written part, with text keys -/
structure TabD (K : PySem.W.Frag) (w : World) (a : Addr) (kvs : List (Str × V)) : Prop where
  kd : ∃ es n, KDict K w a es n
  hit : ∀ z v, kvs.lookup z = some v → ∃ u, PySem.W.nsIn K a z = some (some u) ∧ RelV v u
  miss : ∀ z, kvs.lookup z = none → PySem.W.nsIn K a z = some none
def rInKD (K : PySem.W.Frag) (w : World) (neg : Bool) : R2 := fun x y H Q => ∃ (z : Str) (a : Addr) (kvs : List (Str × V)), x = .str z ∧ y = .ref a ∧ TabD K w a kvs ∧ Q (.bl (if neg then !(kvs.lookup z).isSome else (kvs.lookup z).isSome)) H
theorem op_inKD : OpR X (compareOp .In) (rInKD X.K X.w false) := by
  intro pins s σ H x y v u Q I rx ry ⟨z, a, kvs, e1, e2, T, q⟩
  subst e1 e2
  obtain ⟨es, n, D⟩ := T.kd
  cases c : kvs.lookup z with
  | none =>
    rw [c] at q
    exact op_in_kd D pins s σ H _ _ v u Q I rx ry ⟨z, none, rfl, rfl, T.miss z c, q⟩
  | some v0 =>
    rw [c] at q
    obtain ⟨u0, e, _⟩ := T.hit z v0 c
    exact op_in_kd D pins s σ H _ _ v u Q I rx ry ⟨z, some u0, rfl, rfl, e, q⟩
theorem op_notInKD : OpR X (compareOp .NotIn) (rInKD X.K X.w true) := by
  intro pins s σ H x y v u Q I rx ry ⟨z, a, kvs, e1, e2, T, q⟩
  subst e1 e2
  obtain ⟨es, n, D⟩ := T.kd
  cases c : kvs.lookup z with
  | none =>
    rw [c] at q
    exact op_notIn_kd D pins s σ H _ _ v u Q I rx ry ⟨z, none, rfl, rfl, T.miss z c, q⟩
  | some v0 =>
    rw [c] at q
    obtain ⟨u0, e, _⟩ := T.hit z v0 c
    exact op_notIn_kd D pins s σ H _ _ v u Q I rx ry ⟨z, some u0, rfl, rfl, e, q⟩
theorem k_inD (e : X.K = K := by rfl) (e2 : X.w = w := by rfl) : OpR X (compareOp .In) (fun x y H Q => rInG K false x y H Q ∨ rInKD K w false x y H Q) := by
  subst e; subst e2
  exact o_in.or op_inKD
theorem k_notInD (e : X.K = K := by rfl) (e2 : X.w = w := by rfl) : OpR X (compareOp .NotIn) (fun x y H Q => rInG K true x y H Q ∨ rInKD K w true x y H Q) := by
  subst e; subst e2
  exact o_notIn.or op_notInKD
theorem k_ixD (e : X.K = K := by rfl) (e2 : X.w = w := by rfl) : IxR X (rIxD K w) := by
  subst e; subst e2
  exact ix_kdict
theorem z_inKD {z : Str} {kvs : List (Str × V)} (T : TabD K w a kvs) (q : Q (.bl (kvs.lookup z).isSome) H) : rInG K false (.str z) (.ref a) H Q ∨ rInKD K w false (.str z) (.ref a) H Q := .inr ⟨z, a, kvs, rfl, rfl, T, q⟩
theorem z_notInKD {z : Str} {kvs : List (Str × V)} (T : TabD K w a kvs) (q : Q (.bl (!(kvs.lookup z).isSome)) H) : rInG K true (.str z) (.ref a) H Q ∨ rInKD K w true (.str z) (.ref a) H Q := .inr ⟨z, a, kvs, rfl, rfl, T, q⟩
theorem z_ixKD {z : Str} {kvs : List (Str × V)} (T : TabD K w a kvs) (l : kvs.lookup z = some v) (q : Q v H) : rIxD K w (.ref a) (.str z) H Q := by
  obtain ⟨es, n, D⟩ := T.kd
  obtain ⟨u, e, r⟩ := T.hit z v l
  exact ⟨a, z, v, rfl, rfl, ⟨es, n, u, D.at_, D.lit, e, r⟩, q⟩
/-! ### is False -/
theorem k_isB (e : X.K = K := by rfl) : OpR X (compareOp .Is) rIsB := op_isBl
theorem k_notB (e : X.K = K := by rfl) : OpR X (compareOp .IsNot) rNotB := op_notBl
theorem z_isBl {a b : Bool} (q : Q (.bl (decide (a = b))) H) : rIsB (.bl a) (.bl b) H Q := ⟨a, b, rfl, rfl, q⟩
theorem z_notBl {a b : Bool} (q : Q (.bl (!decide (a = b))) H) : rNotB (.bl a) (.bl b) H Q := ⟨a, b, rfl, rfl, q⟩
/-! ### any -/
def rAnyG (K : PySem.W.Frag) : List V → Hp → VK → Prop := fun vs H Q => ∃ (a : Addr) (bs : List Bool), vs = [V.ref a] ∧ SqL K H a (bs.map V.bl) ∧ Q (.bl (bs.any id)) H
theorem kc_any (hc : X.calm = true) (e : X.K = K := by rfl) : CallR X (.builtin "any") (rAnyG K) := by subst e; exact cr_any hc
theorem z_any {bs : List Bool} (h : SqL K H a (bs.map V.bl)) (q : Q (.bl (bs.any id)) H) : rAnyG K [.ref a] H Q := ⟨a, bs, rfl, h, q⟩
/-! ### what may raise, called within what takes it -/
theorem passX0 : Passes (L2.CX X.prog X.w) X E0 := fun _ _ _ _ _ _ _ ⟨_, _, _, _, _, _, _, _, _, _, _, _, z⟩ => z.elim
theorem pe_ownX {k : Nat} {x : Str} {ps : List Str} {sp : Sp} {W : WX} {p pos : Pos} {e : Expr} {es : List Expr} {t : TA} (C : Own X.prog X.w X.K X.mg X.base (L2.CX X.prog X.w) k x ps sp) (hr : Room k X.A) (hg : Gl X x) (tx : Takes X W) (ha : PA X (e :: es) t)
    (hdb : (x == ("__debug__" : Str)) = false := by decide) (he : starEach (e :: es) X.env = (false, eval e X.env) :: starEach es X.env := by rfl) (hpl : (backTo pos (starEach es X.env)).any (·.1) = false := by rfl) :
    PE X (.Call (.Name x p) (e :: es) [] pos) (tCallS sp (WE W) t) := by
  obtain ⟨f, fd, F, hm, hk, hb⟩ := C.ex
  exact ⟨fun pins s σ H Q I h => (pe_callS F hr hg hm hk hb (fun σ => passAt tx σ) ha hdb he hpl).run pins s σ H Q I h⟩
theorem z_callS {sp : Sp} {E : L2.St → XK} (h : t σ H fun vs H1 => sp vs H1 Q (E σ)) : tCallS sp E t σ H Q := h
structure OwnK (P : Program) (w : World) (K : PySem.W.Frag) (mg : Str → Option Value) (base : Heap) (CX : CXT) (k : Nat) (x : Str) (ps ks : List Str) (sp : Sp) : Prop where
  ex : ∃ f fd g, FnOk P w K mg base CX k f fd ps sp ∧ mg x = some (.ref f) ∧ PySem.W.keepIn K (.ref f) = true ∧ KBn K fd ps 0 ks g fun vs zs => vs ++ zs
def tOwnK (n : Nat) (sp : Sp) (E : XK) (tk : TA) : TE := fun σ H Q => tk σ H fun zs H1 => zs.length = n ∧ sp zs H1 Q E
theorem pe_ownK0 {CX : CXT} {k : Nat} {x : Str} {ps ks : List Str} {sp : Sp} {E : XK} {p pos : Pos} {kws : List Keyword} (C : OwnK X.prog X.w X.K X.mg X.base CX k x ps ks sp) (hr : Room k X.A) (hg : Gl X x) (hx : Passes CX X E) (hkw : PK X kws tk)
    (hall : (backToKw pos (keywordEach kws X.env)).all (·.1.isSome) = true := by rfl) (hks : (backToKw pos (keywordEach kws X.env)).filterMap (·.1) = ks := by rfl) (hdb : (x == ("__debug__" : Str)) = false := by decide)
    (hpl : ((backTo pos (starEach [] X.env)).any (·.1) || (backToKw pos (keywordEach kws X.env)).any (·.1.isNone)) = false := by rfl) : PE X (.Call (.Name x p) [] kws pos) (tOwnK ks.length sp E tk) := by
  obtain ⟨f, fd, g, F, hm, hk, hb⟩ := C.ex
  refine ⟨fun pins s σ H Q I h => wpAny_Call_Name_kw (ld_glob I hg hm ?_ hdb)⟩
  refine PySem.W.callWith_KW0 (h₀ := X.base) I.ok.mod.kin hk hall ?_ hpl
  refine thn (hkw.run pos pins s σ H _ I h) fun ws s2 ⟨zs, H2, I2, rz, l2, q2⟩ => ⟨I2.kIn, ?_⟩
  rw [hks]
  refine wpAny_call (codeAny_mono (F.run X.A X.stack s2 H2 ⟨[], ks.zip ws⟩ (g [] ws) ([] ++ zs) Q E hr I2.env0 (hb.to s2 [] ws I2.kIn rfl (rz.length.symm.trans l2)) (hb.rel .nil rz) q2) fun rr s' hq => ?_)
  match rr, hq with
  | .error er, hq => exact hx pins σ H2 s2 er s' I2 hq
  | .ok (.ret u), hq => exact I2.after hq
  | .ok .next, hq => exact hq.elim
  | .ok .brk, hq => exact hq.elim
  | .ok .cont, hq => exact hq.elim
theorem z_ownK {n : Nat} {sp : Sp} {E : XK} (h : tk σ H fun zs H1 => zs.length = n ∧ sp zs H1 Q E) : tOwnK n sp E tk σ H Q := h
end
end Ys
namespace Ys
open PySem PySem.Spec PyProof.Rows L2
/-! ### a list grown by what a tuple holds -/
theorem grow_tup (l b : Addr) (xs ys : Array Value) (n m : Nat) (dd : Option Addr) (sl : Array (Option Value)) (h0 : ¬(!xs.isEmpty && Builtin.List.listTooLong (xs.size + ys.size)) = true) (h1 : xs.size ≤ sizeLine) (h2 : xs.size + ys.size ≤ sizeLine + 1) :
    Meets (Builtin.«list.extend» ⟨[.ref l, .ref b], []⟩) fun _ R s => s.heap.get? l = some { cls := .type "list", dict := none, data := .seq xs n, slots := #[] } ∧ s.heap.get? b = some { cls := .type "tuple", dict := dd, data := .seq ys m, slots := sl } ∧
      R (.ok (.ret Value.none)) { s with heap := s.heap.update l (Obj.mapSeq fun x => x ++ ys), toks := s.toks } := by
  refine .of_wp fun prog w A R s h => ?_
  obtain ⟨hp, g, d, tk, os⟩ := s
  obtain ⟨q1, q2, q3⟩ := h
  have g1 := F.sub_tuple_tuple
  have g2 := F.sub_list_list
  have g3 := F.sub_tuple_list
  have g4 := F.sub_list_tuple
  have zz : (xs ++ ys).size ≤ sizeLine + 1 := by
    rw [Array.size_append]
    exact h2
  wp_walk using (wpAny_updateSeq q1 rfl (hz := h1) (_hz' := zz)), PySem.AutoSeq1.wpAny_loadPart' q1, PySem.AutoSeq1.wpAny_loadPart' q2
  exact ⟨_, rfl, q3⟩
def rExtT (K : PySem.W.Frag) : V → List V → Hp → VK → Prop := fun x vs H Q => ∃ l b xs zs, x = .ref l ∧ vs = [.ref b] ∧ H l = some (.lst xs) ∧ SqT K H b zs ∧ xs.length + zs.length ≤ 100000 ∧ Q .non (upd H l (.lst (xs ++ zs)))
section
variable {X : Cx} {K : PySem.W.Frag} {P : Program} {w : World} {G G1 H : Hp} {M M1 : List (Addr × HO)} {σ : L2.St} {Q : VK} {QB : Bool → Hp → Prop} {QA : List V → Hp → Prop} {D : Ends} {ta te tb tv : TE} {tt : TT} {t tk : TA} {A B : Prop} {v x y : V} {i j : Int} {a b p : Addr} {xs ys vs zs : List V} {o : HO} {d : PyData}
theorem mt_extT : MtM X "list.extend" (rExtT X.K) := by
  intro pins s σ H x vs v us Q I rx rv h
  obtain ⟨l, b, xs, zs, e1, e2, hH, hB, hz, q⟩ := h
  subst e1 e2
  cases rx
  obtain ⟨u, rfl, ru⟩ := rv.one
  cases ru
  obtain ⟨z, its, n, r, hl, e⟩ := I.lstM hH
  obtain ⟨its2, r2, ⟨ob, e3, e4, m, e5⟩, hl2⟩ := I.tuple hB
  obtain ⟨oc, od, dt, sl⟩ := ob
  simp only at e4 e5
  subst e4 e5
  have e6 : xs.length + zs.length ≤ sizeLine := Nat.le_trans hz (by decide)
  have hsz : its.toArray.size + its2.toArray.size ≤ sizeLine := by rw [List.size_toArray, List.size_toArray, ← r.length, ← r2.length]; exact e6
  refine call_meets F.slot_list_extend ⟨_, e, rfl⟩ F.entry_list_extend (F.args_list_extend_2 _ _) (grow_tup l b its.toArray its2.toArray n m od sl (extend_door hsz) (by omega) (by omega)) ⟨e, e3, ?_⟩
  refine ⟨.non, _, I.lset (its' := its ++ its2) hH e (by simp) (r.append r2) ?_, rfl, q⟩
  rw [List.length_append]
  exact e6
theorem MtM.or {m : String} {r1 r2 : V → List V → Hp → VK → Prop} (h1 : MtM X m r1) (h2 : MtM X m r2) : MtM X m (fun x vs H Q => r1 x vs H Q ∨ r2 x vs H Q) := by
  intro pins s σ H x vs v us Q I rx rv h
  rcases h with h | h
  · exact h1 pins s σ H x vs v us Q I rx rv h
  · exact h2 pins s σ H x vs v us Q I rx rv h
theorem mt_ext2 (e : X.K = K := by rfl) : MtM X "list.extend" (fun x vs H Q => rExtend x vs H Q ∨ rExtT K x vs H Q) := by subst e; exact MtM.or mt_extend mt_extT
theorem z_extL (z : Zp G M H) (k : Nat) (e : M[k]? = some (a, .lst xs)) (h : H b = some (.lst ys)) (hl : xs.length + ys.length ≤ 100000) (q : ∀ H1, Zp G (M.set k (a, .lst (xs ++ ys))) H1 → Q .non H1) : rExtend (.ref a) [.ref b] H Q ∨ rExtT K (.ref a) [.ref b] H Q :=
  .inl ⟨a, b, xs, ys, rfl, rfl, z.at_ k e, h, Nat.le_trans hl (by decide), q _ (z.put k e _)⟩
theorem z_extT (z : Zp G M H) (k : Nat) (e : M[k]? = some (a, .lst xs)) (h : SqT K H b ys) (hl : xs.length + ys.length ≤ 100000) (q : ∀ H1, Zp G (M.set k (a, .lst (xs ++ ys))) H1 → Q .non H1) : rExtend (.ref a) [.ref b] H Q ∨ rExtT K (.ref a) [.ref b] H Q :=
  .inr ⟨a, b, xs, ys, rfl, rfl, z.at_ k e, h, hl, q _ (z.put k e _)⟩
theorem z_pop (z : Zp G M H) (k : Nat) (e : M[k]? = some (a, .lst (xs ++ [y]))) (q : ∀ H1, Zp G (M.set k (a, .lst xs)) H1 → Q y H1) : rPop (.ref a) [] H Q :=
  ⟨a, xs ++ [y], y, rfl, rfl, z.at_ k e, by simp, by rw [List.dropLast_concat]; exact q _ (z.put k e _)⟩
theorem z_reverse (z : Zp G M H) (k : Nat) (e : M[k]? = some (a, .lst xs)) (q : ∀ H1, Zp G (M.set k (a, .lst xs.reverse)) H1 → Q .non H1) : rReverse (.ref a) [] H Q :=
  ⟨a, xs, rfl, rfl, z.at_ k e, q _ (z.put k e _)⟩
theorem z_ixH (h : SqL K H a xs) (e : atI xs i = some v) (q : Q v H) : rIx K (.ref a) (.int i) H Q := .inl ⟨a, xs, i, v, rfl, rfl, h, e, q⟩
theorem z_ixTH (h : SqT K H a xs) (e : atI xs i = some v) (q : Q v H) : rIx K (.ref a) (.int i) H Q := .inr (.inl ⟨a, xs, i, v, rfl, rfl, h, e, q⟩)
theorem z_tupH (h : SqL K H a xs) (z : Zp G M H) (q : ∀ p G1 H1, Zp G1 M H1 → Same G G1 → SqT K G1 p xs → Q (.ref p) H1) : rTupG K [.ref a] H Q :=
  ⟨a, xs, rfl, .inl ⟨h, fun p hp => q p _ _ (z.new hp _) (Same.new (z.free hp)) (SqT.of upd_same)⟩⟩
/-! ### fewer that may change -/
theorem Zp.less (z : Zp G M H) (h : M1.Sublist M) : Zp G M1 H where
  sub := z.sub
  own := fun i q u e => by
    obtain ⟨j, hj⟩ := List.getElem?_of_mem (h.subset (List.mem_of_getElem? e))
    exact z.own j q u hj
  nd := z.nd.sublist (h.map _)
/-! ### a comprehension whose list may change -/
theorem lc_srcO {J : It} {g : TG} {ws : List Nat} {OK : Hp → Prop} (S : Src J xs OK) (I : Nat → Hp → List (Addr × HO) → List V → Prop) (z : Zp G M H) (h0 : I 0 G M []) (ok : ∀ i G M M1 acc H, I i G M acc → Zp G (M ++ M1) H → OK H)
    (turn : ∀ i x G M acc Dl H, xs[i]? = some x → I i G M acc → Zp G (M ++ [(Dl, .lst acc)]) H → g x (wipe σ ws) H fun σ2 H2 => wipe σ2 ws = wipe σ ws ∧ tt σ2 H2 fun b H3 =>
      Bif b (te σ2 H3 fun y H4 => Laid (I (i + 1)) Dl y H4) (Kept (I (i + 1)) Dl H3))
    (done : ∀ p G M acc H1, I xs.length G M acc → Zp G (M ++ [(p, .lst acc)]) H1 → Q (.ref p) H1) : LcW J g tt te ws σ H Q := by
  intro Dl hD
  refine ⟨fun i m H => m = xs.length - i ∧ i ≤ xs.length ∧ Kept (I i) Dl H, ⟨xs.length, by simp, Nat.zero_le _, G, M, [], z.add hD _, h0⟩, ?_⟩
  rintro i m H ⟨rfl, hi, G, M, acc, z, h⟩
  have o := ok i G M _ acc H h z
  by_cases c : i < xs.length
  · refine .inr ⟨S.go i H o c, Kept (I (i + 1)) Dl, fun H' q => ⟨xs.length - (i + 1), by omega, rfl, c, q⟩, fun x H' y => ?_⟩
    obtain ⟨e0, e⟩ := S.yld i H x H' o c y
    subst e0
    exact turn i x G M acc Dl H' e h z
  · have e0 : i = xs.length := by omega
    subst e0
    exact .inl ⟨S.stop _ H o (Nat.le_refl _), done Dl G M acc _ h z⟩
/-! ### x.f += an int -/
def FaW (K : PySem.W.Frag) (tv : TE) (rd : V → V → Hp → VK → Prop) (f : Str) (D : Ends) (σ : L2.St) (x : V) (H1 : Hp) : Prop := ∃ a C dx fs v, x = .ref a ∧ H1 a = some (.ins C dx fs) ∧ Cls K C ∧ NoAttr K C f ∧ fs.lookup f = some v ∧
  tv σ H1 fun y H2 => rd v y H2 fun z H3 => ∃ dx' fs', H3 a = some (.ins C dx' fs') ∧ fs'.length < 1000 ∧ D.nx σ (upd H3 a (.ins C dx' (putF f z fs')))
theorem z_fa {rd : V → V → Hp → VK → Prop} {f : Str} (h : ta σ H fun x H1 => FaW K tv rd f D σ x H1) : sFldAug K ta tv rd f D σ H := h
theorem z_faI {C dx : Addr} {fs : List (Str × V)} {f : Str} (z : Zp G M H) (k : Nat) (e : M[k]? = some (a, .ins C dx fs)) (c : Cls K C) (n : NoAttr K C f) (l : fs.lookup f = some (.int i)) (hl : fs.length < 1000) (q : ∀ H1, Zp G (M.set k (a, .ins C dx (putF f (.int (i + j)) fs))) H1 → D.nx σ H1) : FaW K (tC (.int j)) L2.rAdd f D σ (.ref a) H :=
  ⟨a, C, dx, fs, .int i, rfl, z.at_ k e, c, n, l, ⟨i, j, rfl, rfl, dx, fs, z.at_ k e, hl, q _ (z.put k e _)⟩⟩
/-! ### a field of what may change -/
theorem z_flO {C dx : Addr} {fs : List (Str × V)} {f : Str} (z : Zp G M H) (k : Nat) (e : M[k]? = some (a, .ins C dx fs)) (c : Cls K C) (n : NoAttr K C f) (l : fs.lookup f = some v) (q : Q v H) : FlW K f (.ref a) H Q := ⟨a, C, dx, fs, v, rfl, z.at_ k e, c, n, l, q⟩
/-! ### methods of what may change; they may raise -/
theorem z_mtO {C dx : Addr} {fs : List (Str × V)} {f : Str} (z : Zp G M H) (k : Nat) (e : M[k]? = some (a, .ins C dx fs)) (l : fs.lookup f = none) (q : A) : MtW C f (.ref a) H A := ⟨a, dx, fs, rfl, z.at_ k e, l, q⟩
def tMethS (C : Addr) (m : Str) (sp : Sp) (W : WX) (ta : TE) (t : TA) : TE := fun σ H Q => ta σ H fun x H1 => MtW C m x H1 (t σ H1 fun vs H2 => sp (x :: vs) H2 Q (WE W σ))
theorem z_mtS {C : Addr} {m : Str} {sp : Sp} {W : WX} (h : ta σ H fun x H1 => MtW C m x H1 (t σ H1 fun vs H2 => sp (x :: vs) H2 Q (WE W σ))) : tMethS C m sp W ta t σ H Q := h
theorem pe_mtX0 {k : Nat} {C : Addr} {m : Str} {ps : List Str} {sp : Sp} {W : WX} {e : Expr} {pos apos : Pos} {pl : Sem Bool} (R : Mth X.prog X.w X.K X.mg X.base (L2.CX X.prog X.w) k C m ps [] sp) (hr : Room k X.A) (tx : Takes X W) (he : PE X e ta)
    (ht : eval (.Call (.Attribute e m apos) [] [] pos) X.env = (do
      let ov ← eval e X.env
      standAt apos.atName
      let (f, first) ← holding [ov] (getMethod ov m pl)
      callWith pos f first (backTo pos (starEach [] X.env)) (backToKw pos (keywordEach [] X.env))) := by rfl) : PE X (.Call (.Attribute e m apos) [] [] pos) (tMethS C m sp W ta tNil) := by
  obtain ⟨f, fd, ds, hm, F, hb, hv⟩ := R.ex
  cases hv
  refine ⟨fun pins s σ H Q I h => ?_⟩
  refine PySem.W.methodCall_KW (pl := pl) (thn (he.run pins s σ H _ I h) fun u s1 ⟨x, H1, I1, rx, a, dx, fs, ex, ea, l, q⟩ => ?_) ht
  subst ex
  obtain rfl : u = Value.ref a := rx
  refine getmeth_ok I1 ea R.cl hm l ?_
  exact PySem.W.callWith_K0 (first := [.ref a]) I1.kIn hm.kp (run_fnS (σ := σ) (E := WE W) (us := [.ref a]) (vs := [.ref a]) F hr hb (passAt tx σ) I1 (.cons rfl .nil) q)
theorem pe_mtX {k : Nat} {C : Addr} {m : Str} {ps : List Str} {sp : Sp} {W : WX} {e e1 : Expr} {es : List Expr} {pos apos : Pos} {pl : Sem Bool} (R : Mth X.prog X.w X.K X.mg X.base (L2.CX X.prog X.w) k C m ps [] sp) (hr : Room k X.A) (tx : Takes X W) (he : PE X e ta) (ha : PA X (e1 :: es) t)
    (hst : starEach (e1 :: es) X.env = (false, eval e1 X.env) :: starEach es X.env := by rfl) (hpl : (backTo pos (starEach es X.env)).any (·.1) = false := by rfl)
    (ht : eval (.Call (.Attribute e m apos) (e1 :: es) [] pos) X.env = (do
      let ov ← eval e X.env
      standAt apos.atName
      let (f, first) ← holding [ov] (getMethod ov m pl)
      callWith pos f first (backTo pos (starEach (e1 :: es) X.env)) (backToKw pos (keywordEach [] X.env))) := by rfl) : PE X (.Call (.Attribute e m apos) (e1 :: es) [] pos) (tMethS C m sp W ta t) := by
  obtain ⟨f, fd, ds, hm, F, hb, hv⟩ := R.ex
  cases hv
  refine ⟨fun pins s σ H Q I h => ?_⟩
  refine PySem.W.methodCall_KW (pl := pl) (thn (he.run pins s σ H _ I h) fun u s1 ⟨x, H1, I1, rx, a, dx, fs, ex, ea, l, q⟩ => ?_) ht
  subst ex
  obtain rfl : u = Value.ref a := rx
  refine getmeth_ok I1 ea R.cl hm l ?_
  exact PySem.W.callWith_K (h₀ := X.base) (first := [.ref a]) I1.ok.mod.kin hm.kp (thn (ha.run pos pins s1 σ H1 _ I1 q) fun us s2 ⟨vs, H2, I2, r, q2⟩ => ⟨I2.kIn, run_fnS (σ := σ) (E := WE W) (us := .ref a :: us) (vs := .ref a :: vs) F hr hb (passAt tx σ) I2 (.cons rfl r) q2⟩) hst hpl
end
end Ys
/-! plans, as data; plain Lean -/
namespace Ys
open PySem PySem.Spec PyProof.Rows L2
inductive Hd where
  | th | ei | an | ag | be
  deriving DecidableEq
def Hd.s : Hd → Str
  | .th => "then"
  | .ei => "either"
  | .an => "any"
  | .ag => "again"
  | .be => "beside"
inductive Pl where
  | nm (s : Str)
  | nd (h : Hd) (ps : List Pl)
theorem Pl.ind {P : Pl → Prop} (h1 : ∀ s, P (.nm s)) (h2 : ∀ h ps, (∀ p ∈ ps, P p) → P (.nd h ps)) : ∀ p, P p
  | .nm s => h1 s
  | .nd h ps => h2 h ps fun p hp => Pl.ind h1 h2 p
termination_by p => sizeOf p
decreasing_by
  have := List.sizeOf_lt_of_mem hp
  simp only [Pl.nd.sizeOf_spec]
  omega
mutual
def Pl.d : Pl → PyData
  | .nm s => .str s
  | .nd h ps => .tuple (.str h.s :: Pl.dl ps)
def Pl.dl : List Pl → List PyData
  | [] => []
  | p :: ps => Pl.d p :: Pl.dl ps
end
theorem dl_map : ∀ ps : List Pl, Pl.dl ps = ps.map Pl.d
  | [] => by simp [Pl.dl]
  | p :: ps => by simp [Pl.dl, dl_map ps]
mutual
def Pl.dp : Pl → Nat
  | .nm _ => 0
  | .nd _ ps => Pl.dpl ps + 1
def Pl.dpl : List Pl → Nat
  | [] => 0
  | p :: ps => max (Pl.dp p) (Pl.dpl ps)
end
mutual
def Pl.sz : Pl → Nat
  | .nm _ => 1
  | .nd _ ps => Pl.szl ps + 1
def Pl.szl : List Pl → Nat
  | [] => 0
  | p :: ps => Pl.sz p + Pl.szl ps
end
theorem dp_mem {p : Pl} : ∀ {ps : List Pl}, p ∈ ps → p.dp ≤ Pl.dpl ps
  | q :: ps, h => by
    rw [Pl.dpl]
    rcases List.mem_cons.mp h with rfl | h
    · exact Nat.le_max_left _ _
    · exact Nat.le_trans (dp_mem h) (Nat.le_max_right _ _)
theorem dpl_le {n : Nat} : ∀ {ps : List Pl}, (∀ p ∈ ps, p.dp ≤ n) → Pl.dpl ps ≤ n
  | [], _ => by simp [Pl.dpl]
  | p :: ps, h => by
    rw [Pl.dpl]
    exact Nat.max_le.mpr ⟨h p (List.mem_cons_self ..), dpl_le fun q hq => h q (List.mem_cons_of_mem _ hq)⟩
theorem sz_mem {p : Pl} : ∀ {ps : List Pl}, p ∈ ps → p.sz ≤ Pl.szl ps
  | q :: ps, h => by
    rw [Pl.szl]
    rcases List.mem_cons.mp h with rfl | h
    · omega
    · have := sz_mem h
      omega
theorem szl_app : ∀ xs ys : List Pl, Pl.szl (xs ++ ys) = Pl.szl xs + Pl.szl ys
  | [], ys => by simp [Pl.szl]
  | x :: xs, ys => by rw [List.cons_append, Pl.szl, Pl.szl, szl_app xs ys]; omega
theorem dpl_app : ∀ xs ys : List Pl, Pl.dpl (xs ++ ys) = max (Pl.dpl xs) (Pl.dpl ys)
  | [], ys => by simp [Pl.dpl]
  | x :: xs, ys => by rw [List.cons_append, Pl.dpl, Pl.dpl, dpl_app xs ys]; omega
theorem sz_pos (p : Pl) : 1 ≤ p.sz := by cases p <;> simp [Pl.sz]
theorem len_szl : ∀ ps : List Pl, ps.length ≤ Pl.szl ps
  | [] => Nat.le_refl _
  | p :: ps => by
    have := len_szl ps
    have := sz_pos p
    rw [Pl.szl, List.length_cons]
    omega
/-! ### names are words -/
inductive Nms : Pl → Prop where
  | nm {s : Str} : Wd s → Nms (.nm s)
  | nd {h : Hd} {ps : List Pl} : (∀ p ∈ ps, Nms p) → Nms (.nd h ps)
theorem Nms.kids {h : Hd} {ps : List Pl} : Nms (.nd h ps) → ∀ p ∈ ps, Nms p
  | .nd k => k
def Hd.fit : Hd → Nat → Bool
  | .th, _ => true
  | .ei, n => decide (1 ≤ n)
  | .an, n => decide (1 ≤ n)
  | .ag, n => decide (n = 1)
  | .be, n => decide (n = 2)
inductive Ok : Bool → Pl → Prop where
  | nm {b : Bool} {s : Str} : Wd s → Ok b (.nm s)
  | nd {b : Bool} {h : Hd} {ps : List Pl} : h.fit ps.length = true → (b = true → h ≠ .be) → (∀ p ∈ ps, Ok (b || decide (h = .be)) p) → Ok b (.nd h ps)
theorem Ok.nms : ∀ (p : Pl) (b : Bool), Ok b p → Nms p := Pl.ind (fun s b h => by cases h with | nm w => exact .nm w) fun h ps ih b k => by
  cases k with
  | nd f c q => exact .nd fun p hp => ih p hp _ (q p hp)
theorem Ok.out : ∀ (p : Pl) (b : Bool), Ok true p → Ok b p := Pl.ind (fun s b h => by cases h with | nm w => exact .nm w) fun h ps ih b k => by
  cases k with
  | nd f c q =>
    refine .nd f (fun _ => c rfl) fun p hp => ih p hp _ (by simpa using q p hp)
theorem Ok.kids {b : Bool} {h : Hd} {ps : List Pl} (k : Ok b (.nd h ps)) : ∀ p ∈ ps, Ok (b || decide (h = .be)) p := by cases k with | nd f c q => exact q
theorem Ok.fit {b : Bool} {h : Hd} {ps : List Pl} (k : Ok b (.nd h ps)) : h.fit ps.length = true := by cases k with | nd f c q => exact f
/-! ### the normal form -/
def done : Pl := .nd .th []
def isDone : Pl → Bool
  | .nd .th [] => true
  | _ => false
def parts1 : Pl → List Pl
  | .nd .th qs => qs
  | q => [q]
def flat : List Pl → List Pl
  | [] => []
  | p :: ps => parts1 p ++ flat ps
def wrap : List Pl → Pl
  | [x] => x
  | xs => .nd .th xs
def seqn (ps : List Pl) : Pl := wrap (flat ps)
def along (a b : Pl) : Pl := if isDone a then b else if isDone b then a else .nd .be [a, b]
def mk (h : Hd) (ps : List Pl) : Pl := match h, ps with
  | .th, ps => seqn ps
  | .be, [a, b] => along a b
  | h, ps => .nd h ps
mutual
def nf : Pl → Pl
  | .nm s => .nm s
  | .nd h ps => mk h (nfl ps)
def nfl : List Pl → List Pl
  | [] => []
  | p :: ps => nf p :: nfl ps
end
theorem nfl_map : ∀ ps : List Pl, nfl ps = ps.map nf
  | [] => by simp [nfl]
  | p :: ps => by simp [nfl, nfl_map ps]
/-! ### what can follow -/
mutual
def wc : Pl → List Pl
  | .nm _ => []
  | .nd .ei ps => ps
  | .nd .an _ => []
  | .nd .ag ps => [done, seqn [ps.headD done, .nd .ag ps]]
  | .nd .th ps => wcT ps
  | .nd .be ps => wcB ps
def wcT : List Pl → List Pl
  | [] => []
  | a :: r => (wc a).map fun x => seqn (x :: r)
def wcB : List Pl → List Pl
  | [] => []
  | a :: r => match (wc a).map (fun x => along x (r.headD done)) with
    | [] => wcC a r
    | l => l
def wcC (a : Pl) : List Pl → List Pl
  | [] => []
  | b :: _ => (wc b).map fun x => along a x
end
mutual
def spl : Pl → List Pl
  | .nm s => [.nm s]
  | .nd .an ps => [.nd .an ps]
  | .nd .th ps => splT ps
  | .nd _ ps => splB ps
def splT : List Pl → List Pl
  | [] => []
  | a :: _ => spl a
def splB : List Pl → List Pl
  | [] => []
  | a :: r => spl a ++ splB r
end
def turnS (p : Pl) : Str := if isDone p then "done" else if (wc p).isEmpty then "staff" else "world"
mutual
def nmsL : Pl → List Str
  | .nm s => [s]
  | .nd _ ps => nmsLl ps
def nmsLl : List Pl → List Str
  | [] => []
  | p :: ps => nmsL p ++ nmsLl ps
end
mutual
def txt : Pl → Str
  | .nm s => s
  | .nd h ps => h.s ++ "(" ++ Txt.join ", " (txtl ps) ++ ")"
def txtl : List Pl → List Str
  | [] => []
  | p :: ps => txt p :: txtl ps
end
theorem txtl_map : ∀ ps : List Pl, txtl ps = ps.map txt
  | [] => by simp [txtl]
  | p :: ps => by simp [txtl, txtl_map ps]
end Ys
namespace Ys
open PySem PySem.Spec PyProof.Rows L2
theorem eqv_done (p : Pl) : PyData.eqv p.d (.tuple [.str "then"]) = isDone p := by
  have e : ∀ h : Hd, (h.s == ("then" : Str)) = decide (h = .th) := by intro h; cases h <;> decide +kernel
  cases p with
  | nm s => simp [Pl.d, PyData.eqv, isDone]
  | nd h ps =>
    have e2 : PyData.eqv (Pl.nd h ps).d (.tuple [.str "then"]) = ((h.s == ("then" : Str)) && PyData.eqvAll (Pl.dl ps) []) := by simp [Pl.d, PyData.eqv, PyData.eqvAll]
    rw [e2, e h]
    cases ps with
    | nil => cases h <;> simp [isDone, Pl.dl, PyData.eqvAll]
    | cons p ps => cases h <;> simp [isDone, Pl.dl, PyData.eqvAll]
theorem can_all {ds : List PyData} (h : ∀ d ∈ ds, d.canLay0 = true) : PyData.canLayAll0 ds = true := by
  induction ds with
  | nil => rfl
  | cons d ds ih =>
    show (d.canLay0 && PyData.canLayAll0 ds) = true
    rw [h d (List.mem_cons_self ..), ih fun e he => h e (List.mem_cons_of_mem _ he)]
    rfl
theorem dep_all {n : Nat} {ds : List PyData} (h : ∀ d ∈ ds, d.depth ≤ n) : PyData.depthAll ds ≤ n := by
  induction ds with
  | nil => exact Nat.zero_le _
  | cons d ds ih =>
    show max d.depth (PyData.depthAll ds) ≤ n
    exact Nat.max_le.mpr ⟨h d (List.mem_cons_self ..), ih fun e he => h e (List.mem_cons_of_mem _ he)⟩
theorem hd_ok (h : Hd) : PyData.strOk h.s = true := by cases h <;> decide +kernel
theorem pd_can : ∀ p, Nms p → p.d.canLay0 = true := Pl.ind (fun s k => by
    cases k with
    | nm k => rw [Pl.d]; exact k.2.2.ok) fun h ps ih k => by
  rw [Pl.d]
  show PyData.canLayAll0 (.str h.s :: Pl.dl ps) = true
  refine can_all fun d hd => ?_
  rcases List.mem_cons.mp hd with rfl | hd
  · exact hd_ok h
  · rw [dl_map] at hd
    obtain ⟨p, hp, rfl⟩ := List.mem_map.mp hd
    exact ih p hp (k.kids p hp)
theorem pd_dep : ∀ p : Pl, p.d.depth ≤ p.dp := Pl.ind (fun s => by rw [Pl.d]; exact Nat.zero_le _) fun h ps ih => by
  rw [Pl.d, Pl.dp]
  show PyData.depthAll (.str h.s :: Pl.dl ps) + 1 ≤ _
  refine Nat.succ_le_succ (dep_all fun d hd => ?_)
  rcases List.mem_cons.mp hd with rfl | hd
  · exact Nat.zero_le _
  · rw [dl_map] at hd
    obtain ⟨p, hp, rfl⟩ := List.mem_map.mp hd
    exact Nat.le_trans (ih p hp) (dp_mem hp)
theorem pd_shaped {p : Pl} (k : Nms p) (h : p.dp ≤ 60) : SeqAt.shaped p.d = true := by
  unfold SeqAt.shaped
  rw [pd_can p k]
  have := pd_dep p
  simp
  omega
theorem done_shaped : SeqAt.shaped (.tuple [.str "then"]) = true := by decide +kernel
/-! ### sizes and depths of what is made -/
theorem done_nms : Nms done := .nd fun p hp => by cases hp
theorem parts1_dp (p : Pl) : ∀ x ∈ parts1 p, x.dp ≤ p.dp := fun x hx => by
  unfold parts1 at hx
  split at hx
  · rw [Pl.dp]; exact Nat.le_succ_of_le (dp_mem hx)
  · rw [List.mem_singleton.mp hx]; exact Nat.le_refl _
theorem parts1_sz (p : Pl) : Pl.szl (parts1 p) ≤ p.sz := by
  unfold parts1
  split
  · rw [Pl.sz]; exact Nat.le_succ _
  · simp [Pl.szl]
theorem parts1_nms {p : Pl} (k : Nms p) : ∀ x ∈ parts1 p, Nms x := fun x hx => by
  unfold parts1 at hx
  split at hx
  · exact k.kids x hx
  · rw [List.mem_singleton.mp hx]; exact k
theorem parts1_ok {b : Bool} {p : Pl} (k : Ok b p) : ∀ x ∈ parts1 p, Ok b x := fun x hx => by
  unfold parts1 at hx
  split at hx
  · have := k.kids x hx
    simpa using this
  · rw [List.mem_singleton.mp hx]; exact k
theorem flat_mem {x : Pl} : ∀ {ps : List Pl}, x ∈ flat ps → ∃ p ∈ ps, x ∈ parts1 p
  | p :: ps, h => by
    rw [flat] at h
    rcases List.mem_append.mp h with h | h
    · exact ⟨p, List.mem_cons_self .., h⟩
    · obtain ⟨q, hq, hx⟩ := flat_mem h
      exact ⟨q, List.mem_cons_of_mem _ hq, hx⟩
theorem flat_sz : ∀ ps : List Pl, Pl.szl (flat ps) ≤ Pl.szl ps
  | [] => Nat.le_refl _
  | p :: ps => by
    rw [flat, szl_app, Pl.szl]
    have := parts1_sz p
    have := flat_sz ps
    omega
theorem flat_dp (ps : List Pl) : Pl.dpl (flat ps) ≤ Pl.dpl ps := dpl_le fun x hx => by
  obtain ⟨p, hp, hx⟩ := flat_mem hx
  exact Nat.le_trans (parts1_dp p x hx) (dp_mem hp)
theorem wrap_cases (xs : List Pl) : (∃ x, xs = [x] ∧ wrap xs = x) ∨ wrap xs = .nd .th xs := by
  unfold wrap
  split
  · exact .inl ⟨_, rfl, rfl⟩
  · exact .inr rfl
theorem wrap_dp (xs : List Pl) : (wrap xs).dp ≤ Pl.dpl xs + 1 := by
  rcases wrap_cases xs with ⟨x, rfl, e⟩ | e
  · rw [e]; simp [Pl.dpl]
  · rw [e, Pl.dp]; exact Nat.le_refl _
theorem wrap_sz (xs : List Pl) : (wrap xs).sz ≤ Pl.szl xs + 1 := by
  rcases wrap_cases xs with ⟨x, rfl, e⟩ | e
  · rw [e]; simp [Pl.szl]
  · rw [e, Pl.sz]; exact Nat.le_refl _
theorem seqn_dp (ps : List Pl) : (seqn ps).dp ≤ Pl.dpl ps + 1 := Nat.le_trans (wrap_dp _) (Nat.succ_le_succ (flat_dp ps))
theorem seqn_sz (ps : List Pl) : (seqn ps).sz ≤ Pl.szl ps + 1 := Nat.le_trans (wrap_sz _) (Nat.succ_le_succ (flat_sz ps))
theorem seqn_nms {ps : List Pl} (h : ∀ p ∈ ps, Nms p) : Nms (seqn ps) := by
  have k : ∀ x ∈ flat ps, Nms x := fun x hx => by
    obtain ⟨p, hp, hx⟩ := flat_mem hx
    exact parts1_nms (h p hp) x hx
  unfold seqn
  rcases wrap_cases (flat ps) with ⟨x, e1, e⟩ | e
  · rw [e]; exact k x (by rw [e1]; exact List.mem_singleton.mpr rfl)
  · rw [e]; exact .nd k
theorem seqn_ok {b : Bool} {ps : List Pl} (h : ∀ p ∈ ps, Ok b p) : Ok b (seqn ps) := by
  have k : ∀ x ∈ flat ps, Ok b x := fun x hx => by
    obtain ⟨p, hp, hx⟩ := flat_mem hx
    exact parts1_ok (h p hp) x hx
  unfold seqn
  rcases wrap_cases (flat ps) with ⟨x, e1, e⟩ | e
  · rw [e]; exact k x (by rw [e1]; exact List.mem_singleton.mpr rfl)
  · rw [e]; exact .nd rfl (fun _ => by decide) (by simpa using k)
theorem along_cases (a b : Pl) : along a b = b ∨ along a b = a ∨ along a b = .nd .be [a, b] := by
  unfold along
  split
  · exact .inl rfl
  · split
    · exact .inr (.inl rfl)
    · exact .inr (.inr rfl)
theorem along_dp (a b : Pl) : (along a b).dp ≤ max a.dp b.dp + 1 := by
  rcases along_cases a b with e | e | e <;> rw [e]
  · omega
  · omega
  · simp [Pl.dp, Pl.dpl]
theorem along_sz (a b : Pl) : (along a b).sz ≤ a.sz + b.sz + 1 := by
  rcases along_cases a b with e | e | e <;> rw [e]
  · omega
  · omega
  · simp [Pl.sz, Pl.szl]
theorem along_nms {a b : Pl} (h1 : Nms a) (h2 : Nms b) : Nms (along a b) := by
  rcases along_cases a b with e | e | e <;> rw [e]
  · exact h2
  · exact h1
  · exact .nd fun p hp => by
      rcases List.mem_cons.mp hp with rfl | hp
      · exact h1
      · rw [List.mem_singleton.mp hp]; exact h2
theorem along_ok {a b : Pl} (h1 : Ok true a) (h2 : Ok true b) : Ok false (along a b) := by
  rcases along_cases a b with e | e | e <;> rw [e]
  · exact Ok.out _ _ h2
  · exact Ok.out _ _ h1
  · refine .nd rfl (fun h => by cases h) fun p hp => ?_
    rcases List.mem_cons.mp hp with rfl | hp
    · exact h1
    · rw [List.mem_singleton.mp hp]; exact h2
theorem mk_cases (h : Hd) (ps : List Pl) : (h = .th ∧ mk h ps = seqn ps) ∨ (∃ a b, h = .be ∧ ps = [a, b] ∧ mk h ps = along a b) ∨ (h ≠ .th ∧ mk h ps = .nd h ps) := by
  unfold mk
  split
  · exact .inl ⟨rfl, rfl⟩
  · exact .inr (.inl ⟨_, _, rfl, rfl, rfl⟩)
  · rename_i h1 h2
    refine .inr (.inr ⟨fun e => ?_, rfl⟩)
    subst e
    simp_all
theorem mk_dp (h : Hd) (ps : List Pl) : (mk h ps).dp ≤ Pl.dpl ps + 1 := by
  rcases mk_cases h ps with ⟨_, e⟩ | ⟨a, b, _, rfl, e⟩ | ⟨_, e⟩ <;> rw [e]
  · exact seqn_dp ps
  · have := along_dp a b
    simp only [Pl.dpl]
    omega
  · rw [Pl.dp]; exact Nat.le_refl _
theorem mk_sz (h : Hd) (ps : List Pl) : (mk h ps).sz ≤ Pl.szl ps + 1 := by
  rcases mk_cases h ps with ⟨_, e⟩ | ⟨a, b, _, rfl, e⟩ | ⟨_, e⟩ <;> rw [e]
  · exact seqn_sz ps
  · have := along_sz a b
    simp only [Pl.szl]
    omega
  · rw [Pl.sz]; exact Nat.le_refl _
theorem mk_ok {b : Bool} {h : Hd} {ps : List Pl} (f : h.fit ps.length = true) (c : b = true → h ≠ .be) (k : ∀ p ∈ ps, Ok (b || decide (h = .be)) p) : Ok b (mk h ps) := by
  rcases mk_cases h ps with ⟨rfl, e⟩ | ⟨x, y, rfl, rfl, e⟩ | ⟨_, e⟩ <;> rw [e]
  · exact seqn_ok (by simpa using k)
  · cases b with
    | true => exact absurd rfl (c rfl)
    | false => exact along_ok (by simpa using k x (by simp)) (by simpa using k y (by simp))
  · exact .nd f c k
theorem nf_dp : ∀ p, (nf p).dp ≤ p.dp := Pl.ind (fun s => by rw [nf]; exact Nat.le_refl _) fun h ps ih => by
  rw [nf, Pl.dp, nfl_map]
  refine Nat.le_trans (mk_dp h _) (Nat.succ_le_succ (dpl_le fun q hq => ?_))
  obtain ⟨p, hp, rfl⟩ := List.mem_map.mp hq
  exact Nat.le_trans (ih p hp) (dp_mem hp)
theorem nfl_sz : ∀ ps : List Pl, (∀ p ∈ ps, (nf p).sz ≤ p.sz) → Pl.szl (nfl ps) ≤ Pl.szl ps
  | [], _ => Nat.le_refl _
  | p :: ps, h => by
    rw [nfl, Pl.szl, Pl.szl]
    have := h p (List.mem_cons_self ..)
    have := nfl_sz ps fun q hq => h q (List.mem_cons_of_mem _ hq)
    omega
theorem nf_sz : ∀ p, (nf p).sz ≤ p.sz := Pl.ind (fun s => by rw [nf]; exact Nat.le_refl _) fun h ps ih => by
  rw [nf, Pl.sz]
  exact Nat.le_trans (mk_sz h _) (Nat.succ_le_succ (nfl_sz ps ih))
theorem nf_ok : ∀ p b, Ok b p → Ok b (nf p) := Pl.ind (fun s b k => by rw [nf]; exact k) fun h ps ih b k => by
  rw [nf, nfl_map]
  cases k with
  | nd f c q =>
    refine mk_ok (by rw [List.length_map]; exact f) c fun x hx => ?_
    obtain ⟨p, hp, rfl⟩ := List.mem_map.mp hx
    exact ih p hp _ (q p hp)
/-! ### choices -/
structure Nx (b : Bool) (n m : Nat) (c : Pl) : Prop where
  ok : Ok b c
  dp : c.dp ≤ n + 1
  sz : c.sz ≤ 2 * m + 2
theorem wc_nx : ∀ p b, Ok b p → ∀ c ∈ wc p, Nx b p.dp p.sz c := Pl.ind (fun s b k c hc => by rw [wc] at hc; cases hc) fun h ps ih b k c hc => by
  have kk := k.kids
  have kf := k.fit
  cases h with
  | th =>
    rw [wc] at hc
    cases ps with
    | nil => rw [wcT] at hc; cases hc
    | cons a r =>
      rw [wcT] at hc
      obtain ⟨x, hx, rfl⟩ := List.mem_map.mp hc
      have ka : Ok b a := by simpa using kk a (by simp)
      have n := ih a (by simp) b ka x hx
      refine ⟨seqn_ok fun p hp => ?_, ?_, ?_⟩
      · rcases List.mem_cons.mp hp with rfl | hp
        · exact n.ok
        · simpa using kk p (List.mem_cons_of_mem _ hp)
      · have := seqn_dp (x :: r)
        have := n.dp
        simp only [Pl.dp, Pl.dpl] at *
        omega
      · have := seqn_sz (x :: r)
        have := n.sz
        simp only [Pl.sz, Pl.szl] at *
        omega
  | ei =>
    rw [wc] at hc
    refine ⟨by simpa using kk c hc, ?_, ?_⟩
    · have := dp_mem hc
      rw [Pl.dp]
      omega
    · have := sz_mem hc
      rw [Pl.sz]
      omega
  | an => rw [wc] at hc; cases hc
  | ag =>
    obtain ⟨q, rfl⟩ : ∃ q, ps = [q] := by
      match ps, (of_decide_eq_true kf : ps.length = 1) with
      | [q], _ => exact ⟨q, rfl⟩
    have kq : Ok b q := by simpa using kk q (by simp)
    rw [wc] at hc
    rcases List.mem_cons.mp hc with rfl | hc
    · exact ⟨.nd rfl (fun _ => by decide) (fun p hp => by cases hp), by simp [done, Pl.dp, Pl.dpl], by simp [done, Pl.sz, Pl.szl]⟩
    · obtain rfl := List.mem_singleton.mp hc
      refine ⟨seqn_ok fun p hp => ?_, ?_, ?_⟩
      · rcases List.mem_cons.mp hp with rfl | hp
        · exact kq
        · rw [List.mem_singleton.mp hp]; exact k
      · have := seqn_dp [q, .nd .ag [q]]
        simp only [Pl.dp, Pl.dpl, List.headD_cons] at *
        omega
      · have := seqn_sz [q, .nd .ag [q]]
        simp only [Pl.sz, Pl.szl, List.headD_cons] at *
        omega
  | be =>
    obtain ⟨x, y, rfl⟩ : ∃ x y, ps = [x, y] := by
      match ps, (of_decide_eq_true kf : ps.length = 2) with
      | [x, y], _ => exact ⟨x, y, rfl⟩
    have hb : b = false := by
      cases b with
      | false => rfl
      | true => cases k with | nd f c q => exact absurd rfl (c rfl)
    subst hb
    have kx : Ok true x := by simpa using kk x (by simp)
    have ky : Ok true y := by simpa using kk y (by simp)
    rw [wc, wcB] at hc
    have one : (∃ z ∈ wc x, c = along z y) ∨ (∃ z ∈ wc y, c = along x z) := by
      split at hc
      · rw [wcC] at hc
        obtain ⟨z, hz, rfl⟩ := List.mem_map.mp hc
        exact .inr ⟨z, hz, rfl⟩
      · obtain ⟨z, hz, rfl⟩ := List.mem_map.mp hc
        exact .inl ⟨z, hz, rfl⟩
    rcases one with ⟨z, hz, rfl⟩ | ⟨z, hz, rfl⟩
    · have n := ih x (by simp) true kx z hz
      refine ⟨along_ok n.ok ky, ?_, ?_⟩
      · have := along_dp z y
        have := n.dp
        simp only [Pl.dp, Pl.dpl] at *
        omega
      · have := along_sz z y
        have := n.sz
        simp only [Pl.sz, Pl.szl] at *
        omega
    · have n := ih y (by simp) true ky z hz
      refine ⟨along_ok kx n.ok, ?_, ?_⟩
      · have := along_dp x z
        have := n.dp
        simp only [Pl.dp, Pl.dpl] at *
        omega
      · have := along_sz x z
        have := n.sz
        simp only [Pl.sz, Pl.szl] at *
        omega
theorem wc_len : ∀ p b, Ok b p → (wc p).length ≤ p.sz := Pl.ind (fun s b k => by rw [wc]; exact Nat.zero_le _) fun h ps ih b k => by
  have kk := k.kids
  have kf := k.fit
  cases h with
  | th =>
    rw [wc]
    cases ps with
    | nil => rw [wcT]; exact Nat.zero_le _
    | cons a r =>
      rw [wcT, List.length_map]
      have := ih a (by simp) b (by simpa using kk a (by simp))
      simp only [Pl.sz, Pl.szl]
      omega
  | ei =>
    rw [wc, Pl.sz]
    have := len_szl ps
    omega
  | an => rw [wc]; exact Nat.zero_le _
  | ag =>
    obtain ⟨q, rfl⟩ : ∃ q, ps = [q] := by
      match ps, (of_decide_eq_true kf : ps.length = 1) with
      | [q], _ => exact ⟨q, rfl⟩
    rw [wc]
    have := sz_pos q
    simp only [Pl.sz, Pl.szl, List.length_cons, List.length_nil]
    omega
  | be =>
    obtain ⟨x, y, rfl⟩ : ∃ x y, ps = [x, y] := by
      match ps, (of_decide_eq_true kf : ps.length = 2) with
      | [x, y], _ => exact ⟨x, y, rfl⟩
    have hx := ih x (by simp) _ (kk x (by simp))
    have hy := ih y (by simp) _ (kk y (by simp))
    rw [wc, wcB]
    simp only [Pl.sz, Pl.szl]
    split
    · rw [wcC, List.length_map]; omega
    · rw [List.length_map]; omega
/-! ### places -/
theorem spl_in : ∀ p b, Ok b p → ∀ q ∈ spl p, (∃ c, Ok c q) ∧ q.dp ≤ p.dp ∧ q.sz ≤ p.sz := Pl.ind (fun s b k q hq => by
    rw [spl] at hq
    rw [List.mem_singleton.mp hq]
    exact ⟨⟨b, k⟩, Nat.le_refl _, Nat.le_refl _⟩) fun h ps ih b k q hq => by
  have kk := k.kids
  have sub : ∀ l : List Pl, (∀ p ∈ l, p ∈ ps) → q ∈ splB l → (∃ c, Ok c q) ∧ q.dp ≤ (Pl.nd h ps).dp ∧ q.sz ≤ (Pl.nd h ps).sz := by
    intro l
    induction l with
    | nil => intro _ h; rw [splB] at h; cases h
    | cons a r ihr =>
      intro hl h
      rw [splB] at h
      rcases List.mem_append.mp h with h | h
      · obtain ⟨h1, h2, h3⟩ := ih a (hl a (by simp)) _ (kk a (hl a (by simp))) q h
        refine ⟨h1, ?_, ?_⟩
        · have := dp_mem (hl a (by simp))
          rw [Pl.dp]
          omega
        · have := sz_mem (hl a (by simp))
          rw [Pl.sz]
          omega
      · exact ihr (fun p hp => hl p (List.mem_cons_of_mem _ hp)) h
  cases h with
  | an =>
    rw [spl] at hq
    rw [List.mem_singleton.mp hq]
    exact ⟨⟨b, k⟩, Nat.le_refl _, Nat.le_refl _⟩
  | th =>
    rw [spl] at hq
    cases ps with
    | nil => rw [splT] at hq; cases hq
    | cons a r =>
      rw [splT] at hq
      obtain ⟨h1, h2, h3⟩ := ih a (by simp) _ (kk a (by simp)) q hq
      refine ⟨h1, ?_, ?_⟩
      · simp only [Pl.dp, Pl.dpl]; omega
      · simp only [Pl.sz, Pl.szl]; omega
  | ei => rw [spl] at hq <;> first | exact sub ps (fun _ h => h) hq | (intro e; cases e)
  | ag => rw [spl] at hq <;> first | exact sub ps (fun _ h => h) hq | (intro e; cases e)
  | be => rw [spl] at hq <;> first | exact sub ps (fun _ h => h) hq | (intro e; cases e)
end Ys
namespace Ys
theorem z_bT' {c : Bool} {A B : Prop} (h : c = true) (q : A) : Bif c A B := by rw [h]; exact z_bT q
theorem z_bF' {c : Bool} {A B : Prop} (h : c = false) (q : B) : Bif c A B := by rw [h]; exact z_bF q
end Ys
namespace Ys
open PySem PySem.Spec PyProof.Rows L2
/-! ### set(dict): the keys are texts -/
section
variable {P : Program} {w : World} {A : Around} {E : Value → Shared → Prop} {s : Shared}
theorem laid_nil (m f mv : Nat) (led pl : Bool) : SetTable.laid m f mv led pl #[] = some ({ mask := m, place := #[], dummies := #[], finger := f, led, moves := mv, plain := pl }, #[]) := by
  have e : SetTable.layClean m #[] = some (Array.replicate (m + 1) none) := rfl
  have e2 : ((List.range (m + 1)).filterMap fun j => ((Array.replicate (m + 1) (none : Option Nat)).getD j none).map (j, ·)) = [] := by
    rw [List.filterMap_eq_nil_iff]
    intro j _
    have : (Array.replicate (m + 1) (none : Option Nat)).getD j none = none := by
      simp [Array.getD]
    rw [this]
    rfl
  unfold SetTable.laid
  rw [e]
  show some (_, _) = _
  simp only [e2]
  rfl
theorem room_txt {a : Addr} {n : Nat} {Q : Unit → Shared → Prop} (ho : s.heap.get? a = some (Froz.sObj "set" (#[], 0, .fresh 0 0 (!w.params.followText "set-order")))) (hn : n ≤ 1000)
    (h : ∀ h' : Heap, Heap.SameBut a s.heap h' → TxSet P w h' a [] → Q () { s with heap := h' }) : wpAny (model P w) A (setRoomFor a n) Q E s := by
  have e1 : (Froz.sObj "set" (#[], 0, SetTable.fresh 0 0 (!w.params.followText "set-order"))).data = .set #[] 0 (.fresh 0 0 (!w.params.followText "set-order")) := rfl
  have hl : ∀ t : SetTable, t.led = (!w.params.followText "set-order") → (w.params.followText "set-order" = true ∨ t.led = true) := fun t e => by
    rw [e]
    cases w.params.followText "set-order"
    · exact .inr rfl
    · exact .inl rfl
  have tx : ∀ t : SetTable, t.place = #[] → t.led = (!w.params.followText "set-order") → t.fits 0 = true → TxSet P w (s.heap.update a (Obj.putSet #[] t)) a [] := fun t hp hl' hf =>
    ⟨(#[], 1, t), Heap.get?_update_self _ ho rfl, Froz.TxOk.nil hf, List.nodup_nil, (by show Ris t.place.toList; rw [hp]; exact List.Pairwise.nil), hl t hl'⟩
  unfold setRoomFor
  refine wpAny_bind (wpAny_setState_of ho e1 rfl ?_)
  dsimp only
  unfold SetTable.roomFor
  split
  · rename_i wanted hw
    split at hw
    · have hw := Option.some.inj hw
      have hw2 : wanted = (0 + n) * 2 := hw.symm
      have hsz : ¬ SetTable.sizeAbove wanted > sizeLine := by
        have key : (List.range 2002).all (fun k => decide (¬ SetTable.sizeAbove k > sizeLine)) = true := by decide +kernel
        exact of_decide_eq_true (List.all_eq_true.mp key wanted (List.mem_range.mpr (by omega)))
      rw [L2.setRelay_eq]
      refine wpAny_bind (wpAny_setState_of ho e1 rfl ?_)
      dsimp only
      rw [if_neg hsz]
      unfold SetTable.relaid
      have em : (#[] : Array (Int × Value)).map (·.1) = #[] := by simp
      rw [em, laid_nil]
      dsimp only
      have ef : ((#[] : Array Nat).filterMap fun i => (#[] : Array (Int × Value))[i]?) = #[] := by simp
      rw [ef]
      simp only [bne_self_eq_false, Bool.false_eq_true, if_false]
      refine wpAny_bind (wpAny_pure ?_)
      dsimp only
      exact wpAny_storeSet_of ho e1 (h _ (Heap.SameBut.update s.heap a _) (tx _ rfl rfl (by simp [SetTable.fits, SetTable.fill])))
    · cases hw
  · exact wpAny_pure (h s.heap (Heap.SameBut.refl a s.heap) ⟨_, ho, Froz.TxOk.nil rfl, List.nodup_nil, List.Pairwise.nil, hl _ rfl⟩)
theorem from_dict {id : String} {a d : Addr} {kvs : List (Key × Value)} {ep : Nat} {ks : List Str} {Q : Unit → Shared → Prop} (ho : s.heap.get? a = some (bare w)) (hd : s.heap.DictAt (mixKind P w) d kvs ep) (hk : kvs.map (·.1) = ks.map Sum.inr) (hs : (d == sysModules) = false) (few : ks.length ≤ 900)
    (h : ∀ (h' : Heap) (l' : List Str), Heap.SameBut a s.heap h' → TxSet P w h' a l' → (∀ x, x ∈ l' ↔ x ∈ ks) → l'.length ≤ ks.length → Q () { s with heap := h' }) : wpAny (model P w) A (Builtin.Frozenset.updateFrom id a (.ref d)) Q E s := by
  have hda := hd
  obtain ⟨o, es, e0, ex, e1, K1, K2, nd⟩ := hd
  have ne : d ≠ a := fun z => by
    rw [z, ho] at e0
    cases e0
    cases e1
  have ty : s.TypeIs (.ref d) "dict" := hda.dictOf.typeIs
  have hlen : es.size = ks.length := by
    have := K2.length
    rw [Array.length_toList] at this
    have h2 := congrArg List.length hk
    rw [List.length_map, List.length_map] at h2
    omega
  unfold Builtin.Frozenset.updateFrom
  have c1 := F.sub_dict_set
  have c2 : isSubtype (.type "dict") (.type "frozenset") = pure false := by rw [isSubtype_type]; kernel_rfl
  generalize hSR : setRoomFor = SR
  generalize hSA : setAddHashed = SA
  repeat (any_goals (first | assumption | wp_step))
  rw [e1]
  refine wpAny_pure ?_
  refine wpAny_bind (wpAny_dictEntries e0 e1 ?_)
  subst hSR
  refine wpAny_bind (room_txt ho (by omega) fun h1 sb1 T1 => ?_)
  have g1 : h1.get? d = some o := (sb1.2 d ne).trans e0
  refine wpAny_bind (wpAny_dictEntries g1 e1 ?_)
  refine wpAny_bind ?_
  rw [Std.Legacy.Range.forIn_eq_forIn_range']
  simp only [Std.Legacy.Range.size, Nat.sub_zero, Nat.add_sub_cancel, Nat.div_one]
  refine wpAny_forIn_list _ (fun rest _ s' => ∃ h2 i l2, s' = { s with heap := h2 } ∧ rest = List.range' i (es.size - i) ∧ i ≤ es.size ∧ Heap.SameBut a s.heap h2 ∧ TxSet P w h2 a l2 ∧ (∀ x, x ∈ l2 ↔ x ∈ ks.take i) ∧ l2.length ≤ i) _ ?_ ?_ _ _
    ⟨h1, 0, [], rfl, by simp, Nat.zero_le _, sb1, T1, by simp, Nat.le_refl _⟩
  · rintro x rest b s' ⟨h2, i, l2, rfl, hr, hi, sb2, T2, m2, len2⟩
    have hlt : i < es.size := by
      rcases Nat.lt_or_ge i es.size with q | q
      · exact q
      · rw [Nat.sub_eq_zero_of_le q] at hr
        cases hr
    have er : es.size - i = (es.size - (i + 1)) + 1 := by omega
    rw [er, List.range'_succ] at hr
    injection hr with r1 r2
    subst r1
    have g2 : h2.get? d = some o := (sb2.2 d ne).trans e0
    refine wpAny_bind (wpAny_dictEntries g2 e1 ?_)
    obtain ⟨k, hk1⟩ : ∃ k, ks[x]? = some k := ⟨ks[x]'(by omega), List.getElem?_eq_getElem _⟩
    obtain ⟨v, hv⟩ : ∃ v, kvs[x]? = some (Sum.inr k, v) := by
      have := congrArg (fun l : List Key => l[x]?) hk
      simp only [List.getElem?_map, hk1, Option.map_some] at this
      cases q : kvs[x]? with
      | none => rw [q] at this; cases this
      | some p =>
        rw [q] at this
        obtain ⟨p1, p2⟩ := p
        exact ⟨p2, by rw [show p1 = Sum.inr k from Option.some.inj this]⟩
    obtain ⟨key, hval⟩ := K2.get? (i := x) (e := es[x]) (by rw [Array.getElem?_toList]; exact Array.getElem?_eq_getElem hlt) hv
    obtain ⟨k', kk, hh⟩ := K1 es[x] (Array.getElem_mem hlt)
    have ek : k' = Sum.inr k := (mixKind P w).inj _ _ _ kk key
    rw [ek] at hh
    rw [Array.getElem?_eq_getElem hlt]
    dsimp only
    obtain ⟨u, eu⟩ : ∃ u, es[x].key = .str k u := by
      rcases keyIs_shape (show keyIs (Sum.inr k) es[x].key = true from key) with ⟨_, _, z, _⟩ | ⟨_, t, z, z2⟩
      · cases z
      · cases z
        exact ⟨t, z2⟩
    rw [eu, hh]
    subst hSA
    refine wpAny_bind (wpAny_holding ?_)
    refine add_txt (s := { s with heap := h2 }) T2 (by have : scanBound = scanBound := rfl; unfold scanBound; omega) fun b3 h3 l3 sb3 T3 m3 len3 => ?_
    have g3 : h3.get? d = some o := (sb3.2 d ne).trans g2
    refine wpAny_bind (wpAny_dictEpoch g3 e1 ?_)
    rw [if_neg (by simp)]
    refine wpAny_pure ⟨h3, x + 1, l3, rfl, r2, hlt, sb2.trans sb3, T3, fun y => ?_, by omega⟩
    rw [m3 y, m2 y, List.take_add_one, hk1]
    simp
  · rintro b s' ⟨h2, i, l2, rfl, hr, hi, sb2, T2, m2, len2⟩
    have : i = es.size := by
      rcases Nat.lt_or_ge i es.size with q | q
      · rw [show es.size - i = (es.size - (i + 1)) + 1 by omega, List.range'_succ] at hr
        cases hr
      · omega
    refine wpAny_pure (h h2 l2 sb2 T2 (fun y => ?_) (by omega))
    rw [m2 y, this, hlen, List.take_length]
end
end Ys
namespace Ys
open PySem PySem.Spec PyProof.Rows L2
section
variable {P : Program} {w : World} {A : Around} {E : Value → Shared → Prop} {s : Shared}
theorem make_dict {d : Addr} {kvs : List (Key × Value)} {ep : Nat} {ks : List Str} {Q : Value → Shared → Prop} (hh : A.handled = none) (hd : s.heap.DictAt (mixKind P w) d kvs ep) (hk : kvs.map (·.1) = ks.map Sum.inr) (hs : (d == sysModules) = false) (few : ks.length ≤ 900)
    (h : ∀ (h' : Heap) (tk : Nat) (l' : List Str), TxSet P w h' s.heap.objs.size l' → (∀ x, x ∈ l' ↔ x ∈ ks) → l'.length ≤ ks.length → (∀ b o, s.heap.get? b = some o → h'.get? b = some o) →
      Q (.ref s.heap.objs.size) { s with heap := h', toks := tk }) : wpAny (model P w) A (call (.type "set") [.ref d]) Q E s := by
  have a1 := F.called_set.made
  have a2 := F.called_set.sub
  have a3 := F.called_set.notType
  have a4 := F.called_set.canCreate
  have a5 := F.typeCall_set_1 (.ref d)
  obtain ⟨c, tl, a6⟩ := F.called_set.mro
  refine wpAny_call (codeAny_of_tree ?_)
  show wpAny _ _ (callAny (.type "set") _) _ _ _
  refine wpAny_pure ⟨Code.quiet_builtin _ (by decide +kernel), codeAny_builtin F.entry_type_call ?_⟩
  rw [Around.under_plain (weight_type_call_type "set" [.ref d] []) rfl]
  repeat (any_goals (first | assumption | wp_step))
  refine codeAny_mono (L2.code_set_led1 (.ref d) (E := E) (Q₁ := fun v z => v = .ref s.heap.objs.size ∧ z = { s with heap := s.heap.push (bare w) }) ⟨rfl, rfl⟩) fun r s1 hr => ?_
  cases r with
  | error e => exact hr
  | ok fl =>
    cases fl with
    | next => exact hr.elim
    | brk => exact hr.elim
    | cont => exact hr.elim
    | ret v =>
      obtain ⟨rfl, rfl⟩ := hr
      have b0 : (s.heap.push (bare w)).get? s.heap.objs.size = some (bare w) := Heap.get?_push_size _ rfl
      have b1 : Shared.TypeIs { s with heap := s.heap.push (bare w) } (.ref s.heap.objs.size) "set" := ⟨_, b0, rfl⟩
      have b2 := F.called_set.init.lookup
      have b3 := F.called_set.init.bind (.ref s.heap.objs.size)
      repeat (any_goals (first | assumption | wp_step))
      refine codeAny_mono (codeAny_call_builtin (R := wants (fun r z => r = .none ∧ ∃ h' tk l', z = { s with heap := h', toks := tk } ∧ TxSet P w h' s.heap.objs.size l' ∧ (∀ x, x ∈ l' ↔ x ∈ ks) ∧ l'.length ≤ ks.length ∧
          (∀ b o, s.heap.get? b = some o → h'.get? b = some o)) E) F.called_set.init.plain F.entry_set_init (check_set_init_1 b1 ?_)) fun r2 s2 hr2 => ?_
      · have k1 : ∀ b o, s.heap.get? b = some o → (s.heap.push (bare w)).get? b = some o := fun b o e => Heap.get?_push_of_some _ e
        unfold Builtin.«set.__init__» noKeywords
        generalize hU : @Builtin.Frozenset.updateFrom = U
        wp_walk
        subst hU
        refine from_dict (s := { s with heap := s.heap.push (bare w) }) b0 (hd.push _) hk hs few fun h' l' sb T' m len => ?_
        repeat (first
          | exact ⟨rfl, h', s.toks, l', rfl, T', m, len, fun b o e => (sb.2 b (Nat.ne_of_lt (Heap.lt_size e))).trans (Heap.get?_push_of_some _ e)⟩
          | refine wpAny_pure ?_
          | wp_step)
      · cases r2 with
        | error e => exact hr2
        | ok f2 =>
          cases f2 with
          | next => exact hr2.elim
          | brk => exact hr2.elim
          | cont => exact hr2.elim
          | ret r =>
            obtain ⟨rfl, h', tk, l', rfl, T', m, len, k⟩ := hr2
            repeat (any_goals (first | assumption | wp_step))
            exact h _ _ _ T' m len k
end
end Ys
/-! dicts: kept for good, walked, looked into, made -/
namespace Ys
open PySem PySem.Spec PyProof.Rows L2
section
variable {X : Cx} {K : PySem.W.Frag} {P : Program} {w : World} {G G1 H : Hp} {M M1 : List (Addr × HO)} {σ : L2.St} {Q : VK} {QB : Bool → Hp → Prop} {D : Ends} {ta tb te td tyy tk tv : TE} {t : TA} {g : TG} {tt : TT} {A B : Prop} {v x y : V} {i j : Int} {a b d p : Addr} {xs ys vs : List V} {o : HO} {od : Obj} {kvs : List (Key × V)} {k : Key} {R : It → Hp → Prop}
/-! ### a dict that is changed no more -/
def tFrz (t : TE) : TE := fun σ H Q => t σ H fun x H1 => ∃ d u, x = .ref d ∧ H1 d = some u ∧ Mut (some u) ∧ ∀ od, Q x (upd H1 d (.frz od u))
theorem pe_frz {e : Expr} (h : PE X e te) : PE X e (tFrz te) := by
  refine ⟨fun pins s σ H Q I q => ?_⟩
  refine wpAny_mono (h.run pins s σ H _ I q) (fun u s1 z => ?_) fun _ _ z => z
  obtain ⟨x, H1, I1, rx, d, ob, ex, hd, mu, q⟩ := z
  obtain ⟨od, I2⟩ := I1.lock hd mu
  exact ⟨x, _, I2, rx, q od⟩
def FzD (G : Hp) (d : Addr) (kvs : List (Key × V)) : Prop := ∃ od, G d = some (.frz od (.dK kvs))
theorem FzD.up (h : FzD G d kvs) (s : Same G G1) : FzD G1 d kvs := let ⟨o, e⟩ := h; ⟨o, s _ _ e⟩
theorem FzD.rd (h : FzD G d kvs) (z : Zp G M H) : Rd H d (.dK kvs) := let ⟨o, e⟩ := h; .inr ⟨o, z.sub _ _ e⟩
theorem FzD.ty (h : FzD G d kvs) : TyX K G (.ref d) (.type "dict") := let ⟨o, e⟩ := h; .fDict e
def FrzW (x : V) (H1 : Hp) (Q : VK) : Prop := ∃ d u, x = .ref d ∧ H1 d = some u ∧ Mut (some u) ∧ ∀ od, Q x (upd H1 d (.frz od u))
theorem z_frz (h : te σ H fun x H1 => FrzW x H1 Q) : tFrz te σ H Q := h
theorem z_frzL (z : Zp G (M ++ [(d, .dK kvs)]) H) (q : ∀ G1 H1, Zp G1 M H1 → Same G G1 → FzD G1 d kvs → Q (.ref d) H1) : FrzW (.ref d) H Q := by
  refine ⟨d, _, rfl, z.at_ M.length last_at, trivial, fun od => ?_⟩
  have fr : G d = none := (z.own M.length _ _ last_at).2
  have z1 := z.put M.length last_at (.frz od (.dK kvs))
  rw [List.set_append_right _ _ (Nat.le_refl _), Nat.sub_self] at z1
  exact q _ _ z1.fix (Same.new fr) ⟨od, upd_same⟩
/-! ### walks -/
theorem src_K : Src (Itk d od kvs) (kvs.map (fun p => kV p.1)) (fun H => H d = some (.frz od (.dK kvs))) where
  go := fun i H h hi => ⟨h, by simpa using hi⟩
  stop := fun i H h hi => ⟨h, by simpa using hi⟩
  yld := fun i H x H' h hi y => by
    obtain ⟨e, k, v, e1, rfl⟩ := y
    exact ⟨e, by rw [List.getElem?_map, e1]; rfl⟩
theorem src_V : Src (Itd d od kvs) (kvs.map (·.2)) (fun H => H d = some (.frz od (.dK kvs))) where
  go := fun i H h hi => ⟨h, by simpa using hi⟩
  stop := fun i H h hi => ⟨h, by simpa using hi⟩
  yld := fun i H x H' h hi y => by
    obtain ⟨e, k, e1⟩ := y
    exact ⟨e, by rw [List.getElem?_map, e1]; rfl⟩
def ItKW (x : V) (H1 : Hp) (R : It → Hp → Prop) : Prop := ∃ d o, x = .ref d ∧ ((∃ kvs, H1 d = some (.frz o (.dK kvs)) ∧ R (Itk d o kvs) H1) ∨ ∃ kvs, H1 d = some (.frz o (.dT kvs)) ∧ R (Itkt d o kvs) H1)
theorem z_iK (h : td σ H fun x H1 => ItKW x H1 R) : iKeys td σ H R := h
theorem z_itK (z : Zp G M H) (h : G d = some (.frz od (.dK kvs))) (q : R (Itk d od kvs) H) : ItKW (.ref d) H R := ⟨d, od, rfl, .inl ⟨kvs, z.sub _ _ h, q⟩⟩
def ItVW (x : V) (H1 : Hp) (R : It → Hp → Prop) : Prop := ∃ d o kvs, x = .ref d ∧ H1 d = some (.frz o (.dK kvs)) ∧ R (Itd d o kvs) H1
theorem z_iV (h : td σ H fun x H1 => ItVW x H1 R) : iVals td σ H R := h
theorem z_itV (z : Zp G M H) (h : G d = some (.frz od (.dK kvs))) (q : R (Itd d od kvs) H) : ItVW (.ref d) H R := ⟨d, od, kvs, rfl, z.sub _ _ h, q⟩
def ItIW (x : V) (H1 : Hp) (R : It → Hp → Prop) : Prop := ∃ d o kvs, x = .ref d ∧ H1 d = some (.frz o (.dK kvs)) ∧ R (Iti d o kvs) H1
theorem z_iI (h : td σ H fun x H1 => ItIW x H1 R) : iItems td σ H R := h
theorem z_itI (z : Zp G M H) (h : G d = some (.frz od (.dK kvs))) (q : R (Iti d od kvs) H) : ItIW (.ref d) H R := ⟨d, od, kvs, rfl, z.sub _ _ h, q⟩
theorem for_items {ts : TS} (I : Nat → L2.St → Hp → List (Addr × HO) → Prop) (z : Zp G M H) (h0 : I 0 σ G M) (fz : ∀ i σ G' M', I i σ G' M' → G' d = some (.frz od (.dK kvs)))
    (turn : ∀ i k v T σ G' M' G2 H', kvs[i]? = some (k, v) → I i σ G' M' → Zp G2 M' H' → Same G' G2 → G2 T = some (.tup [kV k, v]) →
      g (.ref T) σ H' fun σ2 H2 => ts ⟨fun σ' H' => ∃ G' M', Zp G' M' H' ∧ I (i + 1) σ' G' M', D.rt, D.nx, fun σ' H' => ∃ G' M', Zp G' M' H' ∧ I (i + 1) σ' G' M'⟩ σ2 H2)
    (done : ∀ σ G M H, I kvs.length σ G M → Zp G M H → D.nx σ H) : ForW (Iti d od kvs) g ts D σ H := by
  refine ⟨fun i m σ H => m = kvs.length - i ∧ i ≤ kvs.length ∧ ∃ G M, Zp G M H ∧ I i σ G M, ⟨kvs.length, by simp, Nat.zero_le _, G, M, z, h0⟩, ?_⟩
  rintro i m σ H ⟨rfl, hi, G, M, z, h⟩
  have o := z.sub _ _ (fz i σ G M h)
  by_cases c : i < kvs.length
  · refine .inr ⟨⟨o, c⟩, fun σ' H' => ∃ G' M', Zp G' M' H' ∧ I (i + 1) σ' G' M', fun σ' H' q => ⟨kvs.length - (i + 1), by omega, rfl, c, q⟩, fun x H' y => ?_⟩
    obtain ⟨T, k, v, e, rfl, hT, rfl⟩ := y
    exact turn i k v T σ G M _ _ e h (z.new hT _) (Same.new (z.free hT)) upd_same
  · obtain rfl : i = kvs.length := by omega
    exact .inl ⟨⟨o, Nat.le_refl _⟩, done σ G M H h z⟩
/-! ### looks -/
def DgW (x y : V) (H2 : Hp) (Q : VK) : Prop := ∃ a v, x = .ref a ∧ DGet H2 a y (some v) ∧ Q v H2
theorem z_dgt (h : td σ H fun x H1 => tyy σ H1 fun y H2 => DgW x y H2 Q) : tDGet td tyy σ H Q := h
theorem z_dgF (z : Zp G M H) (h : FzD G d kvs) (e : valV kvs k = some v) (q : Q v H) : DgW (.ref d) (kV k) H Q := ⟨d, v, rfl, .inl ⟨kvs, k, h.rd z, rfl, e.symm⟩, q⟩
def DiW (neg : Bool) (y x : V) (H2 : Hp) (Q : VK) : Prop := ∃ a o, x = .ref a ∧ DGet H2 a y o ∧ Q (.bl (if neg then !o.isSome else o.isSome)) H2
theorem z_din (h : tyy σ H fun y H1 => td σ H1 fun x H2 => DiW false y x H2 Q) : tDIn tyy td σ H Q := h
theorem z_dnin (h : tyy σ H fun y H1 => td σ H1 fun x H2 => DiW true y x H2 Q) : tDNotIn tyy td σ H Q := h
theorem z_diF {neg : Bool} (z : Zp G M H) (h : FzD G d kvs) (q : Q (.bl (if neg then !(valV kvs k).isSome else (valV kvs k).isSome)) H) : DiW neg (kV k) (.ref d) H Q := ⟨d, _, rfl, .inl ⟨kvs, k, h.rd z, rfl, rfl⟩, q⟩
/-! ### dicts that are made -/
def DcW (J : It) (g : TG) (tt : TT) (tk tv : TE) (ws : List Nat) (σ : L2.St) (H1 : Hp) (Q : VK) : Prop := ∀ D, H1 D = none → ∃ W : Nat → Nat → Hp → Prop, (∃ m, W 0 m (upd H1 D (.dK []))) ∧ ∀ i m H, W i m H →
  (J.stop i H ∧ Q (.ref D) H) ∨ (J.go i H ∧ ∃ Nx : Hp → Prop, (∀ H', Nx H' → ∃ m', m' < m ∧ W (i + 1) m' H') ∧ ∀ x H', J.yld i H x H' → g x (wipe σ ws) H' fun σ2 H2 => wipe σ2 ws = wipe σ ws ∧ tt σ2 H2 fun b H3 =>
    if b = true then tk σ2 H3 fun y H4 => tv σ2 H4 fun z H5 => ∃ kvs k, y = kV k ∧ H5 D = some (.dK kvs) ∧ kvs.length < sizeLine ∧ Nx (upd H5 D (.dK (putK kvs k z))) else Nx H3)
theorem z_dc {wi : TI} {ws : List Nat} (h : wi σ H fun J H1 => DcW J g tt tk tv ws σ H1 Q) : tDc wi g tt tk tv ws σ H Q := h
def KeptD (I : Hp → List (Addr × HO) → List (Key × V) → Prop) (D : Addr) (H : Hp) : Prop := ∃ G M acc, Zp G (M ++ [(D, .dK acc)]) H ∧ I G M acc
def LaidD (I : Hp → List (Addr × HO) → List (Key × V) → Prop) (D : Addr) (y z : V) (H : Hp) : Prop := ∃ acc k, y = kV k ∧ H D = some (.dK acc) ∧ acc.length < sizeLine ∧ KeptD I D (upd H D (.dK (putK acc k z)))
theorem z_laidD {I : Hp → List (Addr × HO) → List (Key × V) → Prop} {Dl : Addr} {acc : List (Key × V)} (z : Zp G (M ++ [(Dl, .dK acc)]) H) (hl : acc.length ≤ 100000) (q : I G M (putK acc k y)) : LaidD I Dl (kV k) y H := by
  refine ⟨acc, k, rfl, z.at_ M.length last_at, Nat.lt_of_le_of_lt hl (by decide), G, M, _, ?_, q⟩
  have := z.put M.length last_at (.dK (putK acc k y))
  rw [List.set_append_right _ _ (Nat.le_refl _), Nat.sub_self] at this
  exact this
theorem z_leftD {I : Hp → List (Addr × HO) → List (Key × V) → Prop} {Dl : Addr} {acc : List (Key × V)} (z : Zp G (M ++ [(Dl, .dK acc)]) H) (q : I G M acc) : KeptD I Dl H := ⟨G, M, acc, z, q⟩
theorem dc_src {J : It} {ws : List Nat} {OK : Hp → Prop} (S : Src J xs OK) (I : Nat → Hp → List (Addr × HO) → List (Key × V) → Prop) (z : Zp G M H) (h0 : I 0 G M []) (ok : ∀ i G M M1 acc H, I i G M acc → Zp G (M ++ M1) H → OK H)
    (turn : ∀ i x G M acc Dl H, xs[i]? = some x → I i G M acc → Zp G (M ++ [(Dl, .dK acc)]) H → g x (wipe σ ws) H fun σ2 H2 => wipe σ2 ws = wipe σ ws ∧ tt σ2 H2 fun b H3 =>
      Bif b (tk σ2 H3 fun y H4 => tv σ2 H4 fun z H5 => LaidD (I (i + 1)) Dl y z H5) (KeptD (I (i + 1)) Dl H3))
    (done : ∀ p G M acc H1, I xs.length G M acc → Zp G (M ++ [(p, .dK acc)]) H1 → Q (.ref p) H1) : DcW J g tt tk tv ws σ H Q := by
  intro Dl hD
  refine ⟨fun i m H => m = xs.length - i ∧ i ≤ xs.length ∧ KeptD (I i) Dl H, ⟨xs.length, by simp, Nat.zero_le _, G, M, [], z.add hD _, h0⟩, ?_⟩
  rintro i m H ⟨rfl, hi, G, M, acc, z, h⟩
  have o := ok i G M _ acc H h z
  by_cases c : i < xs.length
  · refine .inr ⟨S.go i H o c, KeptD (I (i + 1)) Dl, fun H' q => ⟨xs.length - (i + 1), by omega, rfl, c, q⟩, fun x H' y => ?_⟩
    obtain ⟨rfl, e⟩ := S.yld i H x H' o c y
    exact turn i x G M acc Dl H' e h z
  · obtain rfl : i = xs.length := by omega
    exact .inl ⟨S.stop _ H o (Nat.le_refl _), done Dl G M acc _ h z⟩
/-! ### two fors in one comprehension -/
def Lc2T (J1 : It) (g1 : TG) (tt1 : TT) (te : TE) (vs1 : List Nat) (D : Addr) (Nx : Hp → Prop) (σ2 : L2.St) (H4 : Hp) : Prop := ∃ W1 : Nat → Nat → Hp → Prop, (∃ m, W1 0 m H4) ∧ ∀ j k H, W1 j k H →
  (J1.stop j H ∧ Nx H) ∨ (J1.go j H ∧ ∃ Nx1 : Hp → Prop, (∀ H', Nx1 H' → ∃ k', k' < k ∧ W1 (j + 1) k' H') ∧ ∀ x H', J1.yld j H x H' → g1 x (wipe σ2 vs1) H' fun σ3 H5 => wipe σ3 vs1 = wipe σ2 vs1 ∧ tt1 σ3 H5 fun b H6 =>
    if b = true then te σ3 H6 fun y H7 => ∃ acc, H7 D = some (.lst acc) ∧ acc.length < sizeLine ∧ Nx1 (upd H7 D (.lst (acc ++ [y]))) else Nx1 H6)
def Lc2W (J : It) (g : TG) (tt : TT) (wi1 : TI) (g1 : TG) (tt1 : TT) (te : TE) (ws ws1 : List Nat) (σ : L2.St) (H1 : Hp) (Q : VK) : Prop := ∀ D, H1 D = none → ∃ W : Nat → Nat → Hp → Prop, (∃ m, W 0 m (upd H1 D (.lst []))) ∧ ∀ i m H, W i m H →
  (J.stop i H ∧ Q (.ref D) H) ∨ (J.go i H ∧ ∃ Nx : Hp → Prop, (∀ H', Nx H' → ∃ m', m' < m ∧ W (i + 1) m' H') ∧ ∀ x H', J.yld i H x H' → g x (wipe σ ws) H' fun σ2 H2 => wipe σ2 ws = wipe σ ws ∧ tt σ2 H2 fun b H3 =>
    if b = true then wi1 σ2 H3 fun J1 H4 => Lc2T J1 g1 tt1 te ws1 D Nx σ2 H4 else Nx H3)
theorem z_lc2 {wi wi1 : TI} {g1 : TG} {tt1 : TT} {ws ws1 : List Nat} (h : wi σ H fun J H1 => Lc2W J g tt wi1 g1 tt1 te ws ws1 σ H1 Q) : tLc2 wi g tt wi1 g1 tt1 te ws ws1 σ H Q := h
theorem lc2_src {wi1 : TI} {g1 : TG} {tt1 : TT} {J : It} {ws ws1 : List Nat} {OK : Hp → Prop} (S : Src J xs OK) (I : Nat → Hp → List (Addr × HO) → List V → Prop) (z : Zp G M H) (h0 : I 0 G M []) (ok : ∀ i G M M1 acc H, I i G M acc → Zp G (M ++ M1) H → OK H)
    (turn : ∀ i x G M acc Dl H, xs[i]? = some x → I i G M acc → Zp G (M ++ [(Dl, .lst acc)]) H → g x (wipe σ ws) H fun σ2 H2 => wipe σ2 ws = wipe σ ws ∧ tt σ2 H2 fun b H3 =>
      Bif b (wi1 σ2 H3 fun J1 H4 => Lc2T J1 g1 tt1 te ws1 Dl (Kept (I (i + 1)) Dl) σ2 H4) (Kept (I (i + 1)) Dl H3))
    (done : ∀ p G M acc G1 H1, I xs.length G M acc → Same G G1 → Zp G1 M H1 → G1 p = some (.lst acc) → Q (.ref p) H1) : Lc2W J g tt wi1 g1 tt1 te ws ws1 σ H Q := by
  intro Dl hD
  refine ⟨fun i m H => m = xs.length - i ∧ i ≤ xs.length ∧ Kept (I i) Dl H, ⟨xs.length, by simp, Nat.zero_le _, G, M, [], z.add hD _, h0⟩, ?_⟩
  rintro i m H ⟨rfl, hi, G, M, acc, z, h⟩
  have o := ok i G M _ acc H h z
  by_cases c : i < xs.length
  · refine .inr ⟨S.go i H o c, Kept (I (i + 1)) Dl, fun H' q => ⟨xs.length - (i + 1), by omega, rfl, c, q⟩, fun x H' y => ?_⟩
    obtain ⟨rfl, e⟩ := S.yld i H x H' o c y
    exact turn i x G M acc Dl H' e h z
  · obtain rfl : i = xs.length := by omega
    refine .inl ⟨S.stop _ H o (Nat.le_refl _), done Dl G M acc _ H h (Same.new ?_) z.fix upd_same⟩
    exact (z.own M.length _ _ last_at).2
theorem lc2_in {g1 : TG} {tt1 : TT} {J1 : It} {ws1 : List Nat} {OK : Hp → Prop} {Dl : Addr} {acc : List V} {Nx : Hp → Prop} (S : Src J1 ys OK) (I : Nat → Hp → List (Addr × HO) → List V → Prop) (z : Zp G (M ++ [(Dl, .lst acc)]) H) (h0 : I 0 G M acc) (ok : ∀ i G M M1 acc H, I i G M acc → Zp G (M ++ M1) H → OK H)
    (turn : ∀ i x G M acc H, ys[i]? = some x → I i G M acc → Zp G (M ++ [(Dl, .lst acc)]) H → g1 x (wipe σ ws1) H fun σ2 H2 => wipe σ2 ws1 = wipe σ ws1 ∧ tt1 σ2 H2 fun b H3 =>
      Bif b (te σ2 H3 fun y H4 => Laid (I (i + 1)) Dl y H4) (Kept (I (i + 1)) Dl H3))
    (done : ∀ G M acc H1, I ys.length G M acc → Zp G (M ++ [(Dl, .lst acc)]) H1 → Nx H1) : Lc2T J1 g1 tt1 te ws1 Dl Nx σ H := by
  refine ⟨fun i m H => m = ys.length - i ∧ i ≤ ys.length ∧ Kept (I i) Dl H, ⟨ys.length, by simp, Nat.zero_le _, G, M, acc, z, h0⟩, ?_⟩
  rintro i m H ⟨rfl, hi, G, M, acc, z, h⟩
  have o := ok i G M _ acc H h z
  by_cases c : i < ys.length
  · refine .inr ⟨S.go i H o c, Kept (I (i + 1)) Dl, fun H' q => ⟨ys.length - (i + 1), by omega, rfl, c, q⟩, fun x H' y => ?_⟩
    obtain ⟨rfl, e⟩ := S.yld i H x H' o c y
    exact turn i x G M acc H' e h z
  · obtain rfl : i = ys.length := by omega
    exact .inl ⟨S.stop _ H o (Nat.le_refl _), done G M acc H h z⟩
/-! ### what is built in, of dicts -/
def rDictP (K : PySem.W.Frag) : List V → Hp → VK → Prop := fun xs H Q => ∃ (a : Addr) (ps : List Addr) (kvs : List (Key × V)), xs = [.ref a] ∧ SqL K H a (ps.map V.ref) ∧ Paired (fun p kv => SqT K H p [kV kv.1, kv.2]) ps kvs ∧
  ∀ p, H p = none → Q (.ref p) (upd H p (.dK (mergeK [] kvs)))
theorem c_dictP (hcalm : X.calm = true) (e : X.K = K := by rfl) : CallR X (.type "dict") (rDictP K) := e ▸ call_dictP hcalm
theorem z_dictP {ps : List Addr} (z : Zp G M H) (h : SqL K G a (ps.map V.ref)) (hp : Paired (fun p (kv : Key × V) => SqT K G p [kV kv.1, kv.2]) ps kvs) (q : ∀ p H1, Zp G (M ++ [(p, .dK (mergeK [] kvs))]) H1 → Q (.ref p) H1) : rDictP K [.ref a] H Q :=
  ⟨a, ps, kvs, rfl, z.seqL h, L2.Paired.mapP hp fun _ _ h => z.seqT h, fun p hp => q p _ (z.add hp _)⟩
def rDictD : List V → Hp → VK → Prop := fun xs H Q => ∃ (a : Addr) (kvs : List (Key × V)), xs = [.ref a] ∧ Rd H a (.dK kvs) ∧ ∀ p, H p = none → Q (.ref p) (upd H p (.dK kvs))
theorem c_dictD : CallR X (.type "dict") rDictD := call_dictD
theorem z_dictD (z : Zp G M H) (h : FzD G d kvs) (q : ∀ p H1, Zp G (M ++ [(p, .dK kvs)]) H1 → Q (.ref p) H1) : rDictD [.ref d] H Q := ⟨d, kvs, rfl, h.rd z, fun p hp => q p _ (z.add hp _)⟩
def rLenD : List V → Hp → VK → Prop := fun xs H Q => ∃ (a : Addr) (kvs : List (Key × V)), xs = [.ref a] ∧ Rd H a (.dK kvs) ∧ Q (.int kvs.length) H
theorem c_lenD : CallR X (.builtin "len") rLenD := by
  intro pins s σ H vs us Q I r h
  obtain ⟨a, kvs, rfl, ha, q⟩ := h
  rw [Vals.ref1 r]
  exact d_len I ha fun t s' I' => ⟨.int kvs.length, H, I', ⟨t, rfl⟩, q⟩
theorem z_lenD (z : Zp G M H) (h : FzD G d kvs) (q : Q (.int kvs.length) H) : rLenD [.ref d] H Q := ⟨d, kvs, rfl, h.rd z, q⟩
def rSetD (P : Program) (w : World) : List V → Hp → VK → Prop := fun vs H Q => ∃ (d : Addr) (od : Obj) (kvs : List (Key × V)) (ks : List Str), vs = [V.ref d] ∧ H d = some (.frz od (.dK kvs)) ∧ kvs.map (·.1) = ks.map .inr ∧ ks.length ≤ 900 ∧
  ∀ a l, (∀ x, x ∈ l ↔ x ∈ ks) → l.Nodup → l.length ≤ ks.length → H a = none → Q (.ref a) (upd H a (TxO P w a l))
theorem cr_setD (hc : X.calm = true) : CallR X (.type "set") (rSetD X.prog X.w) := by
  intro pins s σ H vs us Q I r h
  obtain ⟨d, od, kvs, ks, rfl, hd, hk, few, q⟩ := h
  rw [Vals.ref1 r]
  obtain ⟨hs, hgd, hx, es, ep, vs, hdt, hsz, kv, hm⟩ := I.frzK hd
  refine make_dict (I.ok.hd hc) hm ((KV.keys kv).symm.trans hk) hs few fun h' tk l' T' m len k => ?_
  have nd : l'.Nodup := let ⟨_, _, _, nd, _⟩ := T'; nd
  exact ⟨.ref s.heap.objs.size, upd H s.heap.objs.size (TxO X.prog X.w s.heap.objs.size l'), I.laid (t' := tk) k (Nat.le_refl _) (txO_ok T'), rfl, q _ l' m nd len (I.hok.fresh (Nat.le_refl _))⟩
theorem kc_setD (hc : X.calm = true) (e1 : X.prog = P := by rfl) (e2 : X.w = w := by rfl) : CallR X (.type "set") (rSetD P w) := by subst e1; subst e2; exact cr_setD hc
theorem z_setD {ks : List Str} (z : Zp G M H) (h : FzD G d kvs) (hk : kvs.map (·.1) = ks.map .inr) (hl : ks.length ≤ 900)
    (q : ∀ p l G1 H1, Zp G1 M H1 → Same G G1 → G1 p = some (TxO P w p l) → (∀ x, x ∈ l ↔ x ∈ ks) → l.Nodup → l.length ≤ ks.length → Q (.ref p) H1) : rSetD P w [.ref d] H Q := by
  obtain ⟨od, e⟩ := h
  exact ⟨d, od, kvs, ks, rfl, z.sub _ _ e, hk, hl, fun p l m nd len hp => q p l _ _ (z.new hp _) (Same.new (z.free hp)) upd_same m nd len⟩
theorem kc_sum (hc : X.calm = true) (e : X.K = K := by rfl) : CallR X (.builtin "sum") (rSum K) := e ▸ cr_sum hc
theorem kc_max (hc : X.calm = true) (e : X.K = K := by rfl) : CallR X (.builtin "max") (rMax K) := e ▸ cr_max hc
theorem z_sum {ns : List Int} (z : Zp G M H) (h : SqL K G a (ns.map V.int)) (q : Q (.int ns.sum) H) : rSum K [.ref a] H Q := ⟨a, ns, rfl, z.seqL h, q⟩
theorem z_max {ns : List Int} {m : Int} (z : Zp G M H) (h : SqL K G a (ns.map V.int)) (hm : m ∈ ns) (h1 : ∀ y ∈ ns, y ≤ m) (q : Q (.int m) H) : rMax K [.ref a] H Q :=
  ⟨a, ns, rfl, z.seqL h, List.length_pos_of_mem hm, fun m' hm' h2 => by
    obtain rfl : m = m' := Int.le_antisymm (h2 m hm) (h1 m' hm')
    exact q⟩
/-! ### keys and values -/
theorem valV_ix : ∀ {kvs : List (Key × V)} {i : Nat} {k : Key} {v : V}, (kvs.map (·.1)).Nodup → kvs[i]? = some (k, v) → valV kvs k = some v
  | [], _, _, _, _, h => by simp at h
  | p :: r, 0, k, v, nd, h => by
    obtain rfl : p = (k, v) := by simpa using h
    exact valV_pos rfl
  | p :: r, i + 1, k, v, nd, h => by
    have h' : r[i]? = some (k, v) := by simpa using h
    obtain ⟨n1, n2⟩ := List.nodup_cons.mp nd
    rw [valV_neg (p := p) fun e : p.1 = k => n1 (List.mem_map.mpr ⟨(k, v), List.mem_of_getElem? h', e.symm⟩)]
    exact valV_ix n2 h'
theorem valV_out {kvs : List (Key × V)} {k : Key} (h : k ∉ kvs.map (·.1)) : valV kvs k = none := by
  cases e : valV kvs k with
  | none => rfl
  | some v => exact absurd (valV_in e) h
theorem valV_isin {kvs : List (Key × V)} {k : Key} (h : k ∈ kvs.map (·.1)) : (valV kvs k).isSome = true := by
  cases e : valV kvs k with
  | some v => rfl
  | none => exact absurd h (valV_not e)
end
end Ys
namespace Ys
open PySem PySem.Spec PyProof.Rows L2
/-! ### x in a tuple of data -/
def rInT (K : PySem.W.Frag) : R2 := fun x y H Q => ∃ d ds, Dt K H x d ∧ Dt K H y (.tuple ds) ∧ SeqAt.shaped d = true ∧ PyData.canLayAll0 ds = true ∧ Q (.bl (ds.any fun z => PyData.eqv z d)) H
theorem op_inT {X : Cx} (S : SysIn X.K) (hu : X.A.units + 128 < cLine) : OpR X (compareOp .In) (rInT X.K) := fun pins s σ H x y v u Q I rx ry h => by
  obtain ⟨d, ds, hd, he, sd, se, q⟩ := h
  obtain ⟨as, r1, _⟩ := Dt.reads I S d x v hd rx
  obtain ⟨bs, r2, _⟩ := Dt.reads I S _ y u he ry
  have h1 := SeqAt.depth_of_shaped sd
  have h2 : min (PyData.depthAll ds) d.depth ≤ d.depth := Nat.min_le_right _ _
  exact SeqAt.in_tuple_reads r2 r1 se (SeqAt.canLay_of_shaped sd) (by omega) ⟨V.bl _, H, I, rfl, q⟩
theorem k_inT {X : Cx} {K : PySem.W.Frag} (S : SysIn K) (hu : X.A.units + 128 < cLine) (e : X.K = K := by rfl) : OpR X (compareOp .In) (rInT K) := by
  subst e
  exact op_inT S hu
theorem room128 {k : Nat} {A : Around} (r : Room k A) : A.units + 128 < cLine := by have := r.un; omega
end Ys
/-! own items, own setters, == of kept dicts -/
namespace Ys
open PySem PySem.Spec PyProof.Rows L2
section
variable {X : Cx} {CX : CXT} {n : Nat} {C f : Addr} {fd : FuncData} {ps : List Str} {sp : Sp} {E : XK} {a b : Expr} {ta tb tv : TE} {pos pos' : Pos} {o value : Expr}
/-! ### x[y], by the class's own -/
def rItI (C : Addr) (sp : Sp) (E : XK) : R2 := fun x y H Q => ∃ a dx fs, x = .ref a ∧ H a = some (.ins C dx fs) ∧ sp [x, y] H Q E
theorem pe_itI (F : FnOk X.prog X.w X.K X.mg X.base CX n f fd ps sp) (ha : PE X a ta) (hb : PE X b tb) (hs : PySem.W.findIn X.K (.ref C) "__getitem__" = some (some (.ref f))) (hf : PySem.W.fnIn X.K f = true) (hfn : PySem.W.isFn X.K (.ref f) = true) (hbd : Binds X.K fd ps []) (hx : Passes CX X E) (hr : Room (n + 1) X.A)
    (hsl : ∀ c i, subscripted b true (.ref c) i = runValue (.builtin "lifetime.subscript" ⟨[.ref c, i], []⟩) := by intro c i; with_unfolding_all rfl) : PE X (.Subscript a b pos) (tOp (rItI C sp E) ta tb) := by
  refine ⟨fun pins s σ H Q I h => ?_⟩
  refine Subscript_ (binT ha hb I h fun v u s2 x y H2 I2 rx ry q => ?_)
  obtain ⟨c, dx, fs, rfl, ea, q⟩ := q
  cases rx
  obtain ⟨mA, J, _⟩ := ins_get I2.hok ea
  obtain ⟨od, J, _⟩ := J.look
  obtain ⟨m, hF⟩ := I2.fr
  refine PySem.W.sub_K hF I2.ok.mod.kin J hs hf hfn ?_ (hsl _ _)
  have hl := F.len _ _ _ _ q
  refine wpAny_call (codeAny_mono (F.run X.A.in1 X.stack s2 H2 ⟨[.ref c, u], []⟩ [.ref c, u] [.ref c, y] _ E hr.in1 I2.env0.in1 (by
    have := hbd s2 [.ref c, u] I2.kIn (by simpa using hl)
    simpa using this) (.cons rfl (.cons ry .nil)) q) fun r s' hq => ?_)
  cases r with
  | error e => exact hx pins σ H2 s2 e s' I2 hq
  | ok fl =>
    cases fl with
    | ret w => exact I2.after hq
    | next => exact False.elim hq
    | brk => exact False.elim hq
    | cont => exact False.elim hq
/-! ### x.f = y, f a property with a setter -/
structure PropSet (K : PySem.W.Frag) (C : Addr) (nm : Str) (g : Addr) : Prop where
  ex : ∃ p a rest, PySem.W.takerIn K C nm = some (some (.ref p)) ∧ PySem.W.typeIn K (.ref p) = some (.type "property") ∧ PySem.W.recIn K p "property" = some (a :: .ref g :: rest)
def sPset (C : Addr) (sp : Sp) (E : XK) (ta tv : TE) : TS := fun D σ H => tv σ H fun y H1 => ta σ H1 fun x H2 => ∃ c dx fs, x = .ref c ∧ H2 c = some (.ins C dx fs) ∧ sp [x, y] H2 (fun _ H3 => D.nx σ H3) E
theorem ps_pset {nm : Str} (F : FnOk X.prog X.w X.K X.mg X.base CX n f fd ps sp) (ha : PE X o ta) (hv : PE X value tv) (c : Cls X.K C) (hp : PropSet X.K C nm f) (hbd : Binds X.K fd ps []) (hx : Passes CX X E) (hr : Room (n + 2) X.A)
    (hs : swapsWith value (some (.Attribute o nm pos')) pos.line X.env = pure false) : PS X (.Assign [.Attribute o nm pos'] value pos) (sPset C sp E ta tv) := by
  refine ⟨fun pins s σ H D I h => ?_⟩
  refine plainObj_wpAny_Assign_Attribute (thn (hv.run pins s σ H _ I h) fun u s1 ⟨y, H1, I1, ry, q⟩ => thn (ha.run pins s1 σ H1 _ I1 q) fun ov s2 ⟨x, H2, I2, rx, k, dx, fs, ex, ea, q2⟩ => ?_) hs
  subst ex
  obtain rfl : ov = Value.ref k := rx
  obtain ⟨mA, J, _⟩ := ins_get I2.hok ea
  obtain ⟨od, J, _⟩ := J.look
  obtain ⟨m, hF⟩ := I2.fr
  obtain ⟨p, a0, rest, h1, h2, h3⟩ := hp.ex
  have I3 := I2.tok (s2.toks + 1)
  refine PySem.W.set_prop hF I2.ok.mod.kin J c.sa c.po h1 h2 h3 ?_
  have hl := F.len _ _ _ _ q2
  refine codeAny_mono (F.run X.A.in1.in1 X.stack _ H2 ⟨[.ref k, u], []⟩ [.ref k, u] [.ref k, y] _ E hr.in1.in1 I3.env0.in1.in1 (by
    have := hbd _ [.ref k, u] I3.kIn (by simpa using hl)
    simpa using this) (.cons rfl (.cons ry .nil)) q2) fun r s' hq => ?_
  cases r with
  | error e => exact hx pins σ H2 _ e s' I3 hq
  | ok fl =>
    cases fl with
    | ret w =>
      obtain ⟨v, H4, I4, _, q4⟩ := I3.after hq
      exact ⟨σ, H4, I4, q4⟩
    | next => exact False.elim hq
    | brk => exact False.elim hq
    | cont => exact False.elim hq
end
end Ys
namespace PySem.W
open Lean Elab Tactic Meta PySem PySem.Calls PyProof.Rows PyProof.V PySem.Spec
section
variable {prog : Program} {w : World} {K : Type} [DecidableEq K] {knd : KeyKind prog w K} {A : Around} {E : Value → Shared → Prop} {s : Shared}
theorem samePairsG {nm : String} {a b : Addr} {ka kb : List (K × Value)} {Q : Bool → Shared → Prop} (I : Shared → Prop) (ha : (a == sysModules) = false) (hb : (b == sysModules) = false)
    (da : s.heap.DictOf knd a ka) (db : s.heap.DictOf knd b kb) (same : ∀ s', I s' → s'.heap.get? a = s.heap.get? a ∧ s'.heap.get? b = s.heap.get? b) (hl : ka.length = kb.length)
    (turn : ∀ (i : Nat) (k : K) (v : Value) s', ka[i]? = some (k, v) → I s' → ∃ y, valueAt kb k = some y ∧ wpAny (model prog w) A (eqBool v y) (fun r s2 => r = true ∧ I s2) E s') (h0 : I s) (h : ∀ s', I s' → Q true s') :
    wpAny (model prog w) A (Builtin.Dict.samePairs nm a b) Q E s := by
  obtain ⟨oa, es, ep, hoa, _, hda, hka, hpa, _⟩ := da
  obtain ⟨ob, es', ep', hob, _, hdb, hkb, hpb, _⟩ := db
  have hla : ka.length = es.size := by rw [← hpa.length]; exact Array.length_toList
  have hlb : kb.length = es'.size := by rw [← hpb.length]; exact Array.length_toList
  have hfind : ∀ k, findBy knd.is es' k = valueAt kb k := fun k => by
    rw [← hpb.find k]
    clear hlb hpb hkb hdb hob same
    obtain ⟨l⟩ := es'
    simp [findBy]
  have hsz : es.size = es'.size := by omega
  unfold Builtin.Dict.samePairs Builtin.Dict.showsAll
  rw [if_neg (show ¬ (a == sysModules) = true by rw [ha]; exact Bool.false_ne_true), if_neg (show ¬ (b == sysModules) = true by rw [hb]; exact Bool.false_ne_true)]
  refine wpAny_bind (wpAny_pure (wpAny_bind (wpAny_pure ?_)))
  refine wpAny_bind (wpAny_dictEntries hoa hda ?_)
  dsimp only
  refine wpAny_bind (wpAny_dictEntries hob hdb ?_)
  rw [if_neg (by rw [hsz]; simp)]
  refine wpAny_bind (wpAny_dictEpoch hoa hda ?_)
  refine wpAny_bind ?_
  rw [Std.Legacy.Range.forIn_eq_forIn_range']
  simp only [Std.Legacy.Range.size, Nat.sub_zero, Nat.add_sub_cancel, Nat.div_one]
  refine wpAny_forIn_list _
    (fun rest q s' => I s' ∧ q = (none, ()) ∧ ∃ i, rest = List.range' i (es.size - i) ∧ i ≤ es.size)
    _ ?_ ?_ _ _ ⟨h0, rfl, 0, by simp, Nat.zero_le _⟩
  · rintro x rest q s' ⟨hI, rfl, i, hr, hi⟩
    obtain ⟨sa, sb⟩ := same s' hI
    have hoa' := sa.trans hoa
    have hob' := sb.trans hob
    have hlt : i < es.size := by
      rcases Nat.lt_or_ge i es.size with h | h
      · exact h
      · rw [Nat.sub_eq_zero_of_le h] at hr; simp at hr
    obtain ⟨rfl, hrest⟩ : x = i ∧ rest = List.range' (i + 1) (es.size - (i + 1)) := by
      have e : es.size - i = (es.size - (i + 1)) + 1 := by omega
      rw [e, List.range'_succ] at hr
      injection hr with h1 h2
      exact ⟨h1, h2⟩
    refine wpAny_bind (wpAny_dictEntries hoa' hda ?_)
    rw [Array.getElem?_eq_getElem hlt]
    have hlt' : x < ka.length := by rw [hla]; exact hlt
    obtain ⟨k, v, hkv⟩ : ∃ k v, ka[x] = (k, v) := ⟨_, _, rfl⟩
    have hkx : ka[x]? = some (k, v) := by rw [List.getElem?_eq_getElem hlt', hkv]
    obtain ⟨hkey, hval⟩ := hpa.get? (i := x) (e := es[x]) (k := k) (v := v) (by rw [Array.getElem?_toList]; exact Array.getElem?_eq_getElem hlt) hkx
    obtain ⟨k', hk', hh⟩ := hka es[x] (Array.getElem_mem hlt)
    have ekk : k' = k := knd.inj _ _ _ hk' hkey
    rw [ekk] at hh
    obtain ⟨y, hy, he⟩ := turn x k v s' hkx hI
    show wpAny _ _ (holding [es[x].key, es[x].val] _ >>= _) _ _ _
    rw [hh]
    refine wpAny_bind (wpAny_holding (wpAny_bind (wpAny_dictFind_of hkey hob' hdb hkb ?_)))
    cases hj : es'.findIdx? fun e => knd.is k e.key with
    | none =>
      have hn : valueAt kb k = none := by rw [← hfind k, findBy_of_findIdx?, hj]
      rw [hn] at hy; exact nomatch hy
    | some j =>
      obtain ⟨hjlt, _, _⟩ := Array.findIdx?_eq_some_iff_getElem.mp hj
      have hv' : valueAt kb k = some es'[j].val := by
        rw [← hfind k, findBy_of_findIdx?, hj]
        simp [Array.getElem?_eq_getElem hjlt]
      refine wpAny_bind (wpAny_dictEntries hob' hdb ?_)
      rw [Array.getElem?_eq_getElem hjlt]
      have ey : es'[j].val = y := Option.some.inj (hv'.symm.trans hy)
      rw [← ey, ← hval] at he
      refine wpAny_holding (wpAny_mono he (fun r s2 z => ?_) fun _ _ z => z)
      obtain ⟨rfl, hI2⟩ := z
      show wpAny _ _ (if (!true) = true then _ else _) _ _ _
      rw [if_neg (by decide)]
      refine wpAny_bind (wpAny_dictEpoch ((same s2 hI2).1.trans hoa) hda ?_)
      rw [if_neg (by simp)]
      exact wpAny_pure ⟨hI2, rfl, x + 1, hrest, hlt⟩
  · rintro q s' ⟨hI, rfl, i, hr, hi⟩
    exact wpAny_pure (h s' hI)
theorem rcG_dicts {a b : Addr} {ka kb : List (K × Value)} {Q : Value → Shared → Prop} (I : Shared → Prop) (ha : (a == sysModules) = false) (hb : (b == sysModules) = false)
    (da : s.heap.DictOf knd a ka) (db : s.heap.DictOf knd b kb) (same : ∀ s', I s' → s'.heap.get? a = s.heap.get? a ∧ s'.heap.get? b = s.heap.get? b) (hl : ka.length = kb.length) (hu : A.units < cLine)
    (turn : ∀ (i : Nat) (k : K) (v : Value) s', ka[i]? = some (k, v) → I s' → ∃ y, valueAt kb k = some y ∧ wpAny (model prog w) A.in1 (eqBool v y) (fun r s2 => r = true ∧ I s2) E s') (h0 : I s) (h : ∀ s', I s' → Q (.bool true) s') : wpAny (model prog w) A (richCompare .Eq (.ref a) (.ref b)) Q E s := by
  refine wpAny_richCompare_same_room (op := .Eq) da.typeIs db.typeIs PySem.F.slot_dict_eq (GQ.call_here PySem.F.slot_dict_eq da.typeIs PySem.F.entry_dict_eq (PySem.F.args_dict_eq_2 _ _) ?_) hu
  show wpAny _ _ (Builtin.Dict.dictSlotArgs "__eq__" ⟨[.ref a, .ref b], []⟩ >>= _) _ _ s
  refine wpAny_bind ?_
  unfold Builtin.Dict.dictSlotArgs
  refine wpAny_bind (wpAny_notOrdered_dict da.typeIs ?_)
  show wpAny _ _ (pure (Value.ref a, Value.ref b)) _ _ s
  refine wpAny_pure ?_
  refine wpAny_bind (wpAny_isInstance (T := "dict") db.typeIs PySem.F.sub_dict_dict ?_)
  simp only [Bool.not_true, Bool.false_eq_true, if_false]
  refine wpAny_bind (wpAny_pure (wpAny_bind (wpAny_pure ?_)))
  refine wpAny_bind (samePairsG I ha hb da db same hl (fun i k v s' e hI => ?_) h0 fun s' hI => ?_)
  · obtain ⟨y, hy, he⟩ := turn i k v s' e hI
    refine ⟨y, hy, wpAny_mono he (fun _ _ z => z) fun _ _ z => ?_⟩
    exact z
  · refine wpAny_pure ⟨?_, ?_⟩
    · exact fun x => nomatch x
    · simpa using h s' hI
end
end PySem.W
namespace Ys
open PySem PySem.Spec PyProof.Rows L2
/-! ### == of kept dicts whose values have an == of their own -/
section
variable {X : Cx} {n m : Nat} {D D' : Eqv} {K : PySem.W.Frag}
def DSame : Eqv := fun x y _ => ∃ a, x = .ref a ∧ y = .ref a
theorem mon_same : Mon DSame := fun _ _ _ _ _ d => d
theorem eqG_same : EqG X 0 DSame := by
  intro A pins s σ H x y u v sb I rx ry d
  obtain ⟨a, rfl, rfl⟩ := d
  cases rx
  cases ry
  exact SeqAt.EqAt.same (A := A) (s := s) (.ref a) X.prog X.w X.xe _ ⟨rfl, H, I, Ext.rfl'⟩
def DData (K : PySem.W.Frag) : Eqv := fun x y H => ∃ d, Dp K H x d ∧ Dp K H y d ∧ SeqAt.shaped d = true ∧ PyData.eqv d d = true
mutual
theorem dp_ext {H H' : Hp} (e : Ext H H') : ∀ (d : PyData) (v : V), Dp K H v d → Dp K H' v d
  | .none, _, h => by cases h; exact .non
  | .bool b, _, h => by cases h; exact .bl b
  | .int i, _, h => by cases h; exact .int i
  | .str x, _, h => by cases h; exact .str x
  | .list ds, _, h => by
    cases h with
    | lst hs ha => exact .lst (hs.ext e) (dpAll_ext e ds _ ha)
  | .tuple ds, _, h => by
    cases h with
    | tup hs ha => exact .tup (hs.ext e) (dpAll_ext e ds _ ha)
  | .dict _, _, h => by cases h
theorem dpAll_ext {H H' : Hp} (e : Ext H H') : ∀ (ds : List PyData) (vs : List V), DpAll K H vs ds → DpAll K H' vs ds
  | [], _, h => by cases h; exact .nil
  | d :: ds, _, h => by
    cases h with
    | cons h1 h2 => exact .cons (dp_ext e d _ h1) (dpAll_ext e ds _ h2)
end
theorem mon_data : Mon (DData K) := fun x y H H' e ⟨d, h1, h2, h3⟩ => ⟨d, dp_ext e d x h1, dp_ext e d y h2, h3⟩
theorem eqG_data : EqG X 0 (DData X.K) := by
  intro A pins s σ H x y u v sb I rx ry ⟨d, h1, h2, h3, h4⟩
  obtain ⟨as, r1⟩ := Dp.reads I d x u h1 rx
  obtain ⟨bs, r2⟩ := Dp.reads I d y v h2 ry
  have hu := sb.room.un
  have := SeqAt.eqAt_reads d d A s u v as bs r1 r2 (SeqAt.canLay_of_shaped h3) (SeqAt.canLay_of_shaped h3) (SeqAt.room_of_shaped h3 (by omega))
  rw [h4] at this
  exact this X.prog X.w X.xe _ ⟨rfl, H, I, Ext.rfl'⟩
def DDict (D : Eqv) : Eqv := fun x y H => ∃ a b oa ob ks ls, x = .ref a ∧ y = .ref b ∧ H a = some (.frz oa (.dK ks)) ∧ H b = some (.frz ob (.dK ls)) ∧ ks.length = ls.length ∧ ∀ (i : Nat) (p : Key × V), ks[i]? = some p → ∃ u, valV ls p.1 = some u ∧ D p.2 u H
theorem mon_dict (hD : Mon D) : Mon (DDict D) := fun x y H H' e d => by
  obtain ⟨a, b, oa, ob, ks, ls, hx, hy, h1, h2, hl, p⟩ := d
  exact ⟨a, b, oa, ob, ks, ls, hx, hy, e _ _ h1, e _ _ h2, hl, fun i q hq => let ⟨u, e1, e2⟩ := p i q hq; ⟨u, e1, hD _ _ _ _ e e2⟩⟩
theorem rcG_dict (hD : Mon D) (h : EqG X n D) : RcG X (n + 1) (DDict D) := by
  intro A pins s σ H x y u v sb I rx ry d
  obtain ⟨a, b, oa, ob, ks, ls, rfl, rfl, ha, hb, hl, hp⟩ := d
  cases rx
  cases ry
  obtain ⟨ga, _, ya, va, ra, da⟩ := (show ObjOk X.prog X.w H s.heap a (.frz oa (.dK ks)) from I.hok a _ ha)
  obtain ⟨gb, _, yb, vb, rb, db⟩ := (show ObjOk X.prog X.w H s.heap b (.frz ob (.dK ls)) from I.hok b _ hb)
  refine PySem.W.rcG_dicts (knd := mixKind X.prog X.w) (fun s' => LoopI X pins σ H s') ya yb da db (fun s' q => ?_) (by rw [← ra.length, ← rb.length]; exact hl) sb.room.units0 (fun i k w s' e q => ?_) ⟨H, I, Ext.rfl'⟩ fun s' q => ⟨rfl, q⟩
  · obtain ⟨H1, I1, e1⟩ := q
    obtain ⟨g1, _⟩ := (show ObjOk X.prog X.w H1 s'.heap a (.frz oa (.dK ks)) from I1.hok a _ (e1 _ _ ha))
    obtain ⟨g2, _⟩ := (show ObjOk X.prog X.w H1 s'.heap b (.frz ob (.dK ls)) from I1.hok b _ (e1 _ _ hb))
    exact ⟨g1.trans ga.symm, g2.trans gb.symm⟩
  · obtain ⟨H1, I1, e1⟩ := q
    have hi : i < ks.length := by
      have := (List.getElem?_eq_some_iff.mp e).1
      rw [ra.length]; exact this
    obtain ⟨p, hpk⟩ : ∃ p, ks[i]? = some p := ⟨_, List.getElem?_eq_getElem hi⟩
    obtain ⟨w', hw, rw'⟩ := paired_get ra hpk
    rw [e] at hw
    obtain rfl : (k, w) = w' := Option.some.inj hw
    obtain ⟨rk, rv⟩ := rw'
    have rk : p.1 = k := rk
    obtain ⟨z, hz, hd⟩ := hp i p hpk
    have rr : RelO (some z) (valueAt vb p.1) := by rw [← hz]; exact rb.val p.1
    obtain ⟨y, hy, ry⟩ := rr.some_of
    refine ⟨y, by rw [← rk]; exact hy, ?_⟩
    refine wpAny_mono (h A.in1 pins s' σ H1 _ _ w y sb.in1 I1 rv ry (hD _ _ _ _ e1 hd)) (fun r s2 q => ?_) fun _ _ z => z
    obtain ⟨hr, H2, I2, e2⟩ := q
    exact ⟨hr, H2, I2, e1.trans e2⟩
theorem eqG_dict (hD : Mon D) (h : EqG X n D) : EqG X (n + 1) (DDict D) := (rcG_dict hD h).eqG fun _ _ _ d => let ⟨a, b, _, _, _, _, hx, hy, _⟩ := d; ⟨a, b, hx, hy⟩
theorem Zp.ext {G H H' : Hp} {M : List (Addr × HO)} (z : Zp G M H) (e : Ext H H') : Zp G M H' := ⟨fun a o h => e _ _ (z.sub a o h), fun i p o h => ⟨e _ _ (z.own i p o h).1, (z.own i p o h).2⟩, z.nd⟩
end
end Ys
/-! tuple(d): the keys of a dict -/
namespace PySem
open AutoSeq1 (wpAny_loadPart')
open PySem PySem.Spec PyProof.Rows
theorem meets_tuple_new_raw (d : Addr) (o : Obj) (es : Array DictEntry) (ep : Nat) (lo : (d == sysModules) = false) (hx : o.ExactDict) (hd : o.data = .dict es ep) (hsz : es.size ≤ sizeLine) :
    Meets (Builtin.«tuple.__new__» ⟨[.type "tuple", .ref d], []⟩)
      (fun A R s => A.handled = none ∧ s.heap.get? d = some o ∧ ∀ (h' : Heap) (tk : Nat) (acc : Array Value), (∀ b o', s.heap.get? b = some o' → h'.get? b = some o') → ItemsOf (fun i v => ∃ en : DictEntry, es[i]? = some en ∧ v = en.key) acc es.size →
        R (.ok (.ret (.ref h'.objs.size))) { s with heap := h'.push { cls := .type "tuple", data := .seq acc }, toks := tk }) :=
  .of_wp fun prog w A R s h => by
    obtain ⟨hp, g, dr, tk, os⟩ := s; obtain ⟨hh, ht, h⟩ := h
    have hsub := sub_tuple_self
    have hinit := init_tuple_lookup
    have hmh := madeHere_tuple
    have hT : Shared.TypeIs ⟨hp, g, dr, tk, os⟩ (.ref d) "dict" := ⟨o, ht, hx.1⟩
    wp_walk using wpAny_loadPart' ht, wpAny_typeOf hT, PySem.W.kdu_collect (A := A.in1) (L2.kdl_raw lo hx hd) (show A.in1.handled = none from hh) ht hsz
    intro h' tk' acc hk hi
    show wpAny _ _ (Builtin.Tuple.tupleExact acc.toList.toArray >>= fun v => ret v) _ _ _
    unfold Builtin.Tuple.tupleExact
    have e : acc.toList.toArray = acc := by simp
    refine wpAny_bind (wpAny_newObj_type ?_ (by show acc.toList.toArray.size ≤ sizeLine; rw [e, hi.1]; exact hsz))
    refine wpAny_pure ⟨_, rfl, ?_⟩
    rw [e]
    exact h h' tk' acc hk hi
end PySem
namespace PySem
open PySem PySem.Spec PyProof.Rows
section
variable {prog : Program} {w : World} {A : Around} {E : Value → Shared → Prop} {s : Shared}
theorem call_tuple_raw {d : Addr} {o : Obj} {es : Array DictEntry} {ep : Nat} {Q : Value → Shared → Prop} (hh : A.handled = none) (lo : (d == sysModules) = false) (ho : s.heap.get? d = some o) (hx : o.ExactDict) (hd : o.data = .dict es ep) (hsz : es.size ≤ sizeLine)
    (h : ∀ (h' : Heap) (tk : Nat) (acc : Array Value), (∀ b o', s.heap.get? b = some o' → h'.get? b = some o') → ItemsOf (fun i v => ∃ en : DictEntry, es[i]? = some en ∧ v = en.key) acc es.size → Q (.ref h'.objs.size) { s with heap := h'.push { cls := .type "tuple", data := .seq acc }, toks := tk }) :
    wpAny (model prog w) A (call (.type "tuple") [.ref d]) Q E s := by
  exact callType_new F.called_tuple (by decide) (F.typeCall_tuple_1 _) (F.newCall_tuple_1 _) (fun obj => F.args_object_init_2 obj _) F.entry_tuple_new
    (meets_tuple_new_raw d o es ep lo hx hd hsz) ⟨hh, ho, fun h' tk acc hk hi => ⟨⟨_, Heap.get?_push_size _ rfl, rfl⟩, h h' tk acc hk hi⟩⟩
end
end PySem
namespace Ys
open PySem PySem.Spec PyProof.Rows L2
section
variable {X : Cx} {K : PySem.W.Frag} {G H : Hp} {M : List (Addr × HO)} {d : Addr} {kvs : List (Key × V)} {Q : VK}
def rTupK : List V → Hp → VK → Prop := fun xs H Q => ∃ d kvs, xs = [.ref d] ∧ Rd H d (.dK kvs) ∧ ∀ p, H p = none → Q (.ref p) (upd H p (.tup (kvs.map fun q => kV q.1)))
theorem c_tupK (hc : X.calm = true) : CallR X (.type "tuple") rTupK := by
  intro pins s σ H xs us Q I r h
  obtain ⟨d, kvs, rfl, hd, q⟩ := h
  obtain ⟨u, rfl, rx⟩ := r.one
  cases rx
  obtain ⟨z, hs, vs, rv, o, es, ep, ho, hx, hdt, hk, hp, hn⟩ := (show ObjOk X.prog X.w H s.heap d (.dK kvs) from hd.ok I.hok)
  have l1 : es.size = vs.length := by rw [← hp.length]; exact Array.length_toList.symm
  have l2 : kvs.length = vs.length := rv.length
  refine call_tuple_raw (I.ok.hd hc) hs ho hx hdt (by omega) fun h' tk acc kp it => ?_
  have I1 : Inv X pins σ H { s with heap := h', toks := tk } := I.kept (t' := tk) kp
  have ks : Vals (kvs.map fun q => kV q.1) acc.toList := by
    have hl : acc.toList.length = vs.length := by rw [Array.length_toList, it.1]; exact l1
    refine vals_of_at (by rw [List.length_map]; omega) fun j x w h1 h2 => ?_
    obtain ⟨en, hen, hw⟩ := it.2 j w (by rw [← Array.getElem?_toList]; exact h2)
    have hj : j < vs.length := by have := (List.getElem?_eq_some_iff.mp h2).1; omega
    obtain ⟨k, y, hky⟩ : ∃ k y, vs[j]? = some (k, y) := ⟨_, _, List.getElem?_eq_getElem hj⟩
    have e1 : (kvs.map (·.1))[j]? = some k := by
      rw [KV.keys rv, List.getElem?_map, hky] <;> rfl
    have e2 : (kvs.map fun kv => kV kv.1)[j]? = some (kV k) := by
      have e3 : (kvs.map fun kv => kV kv.1) = (kvs.map (·.1)).map kV := by rw [List.map_map] <;> rfl
      rw [e3, List.getElem?_map, e1] <;> rfl
    rw [e2] at h1
    cases h1
    rw [hw]
    exact keyIs_rel (hp.get? (by rw [Array.getElem?_toList]; exact hen) hky).1
  have I2 : Inv X pins σ (upd H h'.objs.size (.tup (kvs.map fun q => kV q.1))) { s with heap := h'.push { cls := .type "tuple", data := .seq acc }, toks := tk } :=
    I1.laid (t' := tk) (fun b o e => Heap.get?_push_of_some _ e) (Nat.le_refl _) (show ObjOk X.prog X.w _ _ _ (.tup _) from ⟨by rw [List.length_map]; exact z, acc.toList, ks, by rw [Array.toArray_toList]; exact IsTup.new _ _⟩)
  exact ⟨.ref h'.objs.size, _, I2, rfl, q _ (I1.hok.fresh (Nat.le_refl _))⟩
def kcTupK (K : PySem.W.Frag) : List V → Hp → VK → Prop := fun xs H Q => rTupG K xs H Q ∨ rTupK xs H Q
theorem kc_tupK (hc : X.calm = true) (e : X.K = K := by rfl) : CallR X (.type "tuple") (kcTupK K) := (kc_tuple (K := K) e).or (c_tupK hc)
theorem z_tupK (z : Zp G M H) (h : FzD G d kvs) (q : ∀ p G1 H1, Zp G1 M H1 → Same G G1 → SqT K G1 p (kvs.map fun q => kV q.1) → Q (.ref p) H1) : kcTupK K [.ref d] H Q :=
  .inr ⟨d, kvs, rfl, h.rd z, fun p hp => q p _ _ (z.new hp _) (Same.new (z.free hp)) (SqT.of upd_same)⟩
end
end Ys
/-! len(x), y in x by the class's own -/
namespace Ys
open PySem PySem.Spec PyProof.Rows L2
section
variable {X : Cx} {CX : CXT} {n : Nat} {C f : Addr} {fd : FuncData} {ps : List Str} {sp : Sp} {E : XK}
def rLenI (C : Addr) (sp : Sp) (E : XK) : List V → Hp → VK → Prop := fun xs H Q => ∃ a dx fs, xs = [.ref a] ∧ H a = some (.ins C dx fs) ∧ sp [.ref a] H (fun v H1 => ∃ k : Nat, v = .int k ∧ k ≤ 1000000 ∧ Q (.int k) H1) E
theorem c_lenI (F : FnOk X.prog X.w X.K X.mg X.base CX n f fd ps sp) (hs : PySem.W.findIn X.K (.ref C) "__len__" = some (some (.ref f))) (hfn : PySem.W.isFn X.K (.ref f) = true) (hbd : Binds X.K fd ps []) (hx : Passes CX X E) (hr : Room (n + 1) X.A) : CallR X (.builtin "len") (rLenI C sp E) := by
  intro pins s σ H xs us Q I r h
  obtain ⟨c, dx, fs, rfl, ea, q⟩ := h
  rw [Vals.ref1 r]
  obtain ⟨mA, J, _⟩ := ins_get I.hok ea
  obtain ⟨od, J, _⟩ := J.look
  obtain ⟨m, hF⟩ := I.fr
  refine PySem.W.len_K hF I.ok.mod.kin J hs hfn ?_
  have hl := F.len _ _ _ _ q
  refine wpAny_call (codeAny_mono (F.run X.A.in1 X.stack s H ⟨[.ref c], []⟩ [.ref c] [.ref c] _ E hr.in1 I.env0.in1 (by
    have := hbd s [.ref c] I.kIn (by simpa using hl)
    simpa using this) (.cons rfl .nil) q) fun r s' hq => ?_)
  cases r with
  | error e => exact hx pins σ H s e s' I hq
  | ok fl =>
    cases fl with
    | ret w =>
      obtain ⟨v, H1, I1, rv, k, rfl, hk, q1⟩ := I.after hq
      obtain ⟨t, rfl⟩ := rv
      exact ⟨⟨Int.natCast_nonneg k, by omega⟩, .int k, H1, I1.tok _, ⟨_, rfl⟩, q1⟩
    | next => exact False.elim hq
    | brk => exact False.elim hq
    | cont => exact False.elim hq
def rInI (C : Addr) (sp : Sp) (E : XK) (neg : Bool) : R2 := fun x y H Q => ∃ a dx fs, y = .ref a ∧ H a = some (.ins C dx fs) ∧ sp [.ref a, x] H (fun v H1 => ∃ b : Bool, v = .bl b ∧ Q (.bl (neg ^^ b)) H1) E
theorem op_inI (F : FnOk X.prog X.w X.K X.mg X.base CX n f fd ps sp) (hs : PySem.W.findIn X.K (.ref C) "__contains__" = some (some (.ref f))) (hfn : PySem.W.isFn X.K (.ref f) = true) (hbd : Binds X.K fd ps []) (hx : Passes CX X E) (hr : Room n X.A) : OpR X (compareOp .In) (rInI C sp E false) := by
  intro pins s σ H x y v u Q I rx ry h
  obtain ⟨c, dx, fs, rfl, ea, q⟩ := h
  cases (show u = Value.ref c from ry)
  obtain ⟨mA, J, _⟩ := ins_get I.hok ea
  obtain ⟨od, J, _⟩ := J.look
  obtain ⟨m, hF⟩ := I.fr
  refine PySem.W.in_K hF I.ok.mod.kin J hs hfn ?_
  have hl := F.len _ _ _ _ q
  refine wpAny_call (codeAny_mono (F.run X.A X.stack s H ⟨[.ref c, v], []⟩ [.ref c, v] [.ref c, x] _ E hr I.env0 (by
    have := hbd s [.ref c, v] I.kIn (by simpa using hl)
    simpa using this) (.cons rfl (.cons rx .nil)) q) fun r s' hq => ?_)
  cases r with
  | error e => exact hx pins σ H s e s' I hq
  | ok fl =>
    cases fl with
    | ret w =>
      obtain ⟨v, H1, I1, rv, b, rfl, q1⟩ := I.after hq
      obtain rfl : w = Value.bool b := rv
      refine wpAny_truthy_bool ?_
      rw [Bool.false_xor] at q1
      exact ⟨.bl b, H1, I1, rfl, q1⟩
    | next => exact False.elim hq
    | brk => exact False.elim hq
    | cont => exact False.elim hq
theorem op_notInI (F : FnOk X.prog X.w X.K X.mg X.base CX n f fd ps sp) (hs : PySem.W.findIn X.K (.ref C) "__contains__" = some (some (.ref f))) (hfn : PySem.W.isFn X.K (.ref f) = true) (hbd : Binds X.K fd ps []) (hx : Passes CX X E) (hr : Room n X.A) : OpR X (compareOp .NotIn) (rInI C sp E true) := by
  intro pins s σ H x y v u Q I rx ry h
  obtain ⟨c, dx, fs, rfl, ea, q⟩ := h
  cases (show u = Value.ref c from ry)
  obtain ⟨mA, J, _⟩ := ins_get I.hok ea
  obtain ⟨od, J, _⟩ := J.look
  obtain ⟨m, hF⟩ := I.fr
  refine PySem.W.notIn_K hF I.ok.mod.kin J hs hfn ?_
  have hl := F.len _ _ _ _ q
  refine wpAny_call (codeAny_mono (F.run X.A X.stack s H ⟨[.ref c, v], []⟩ [.ref c, v] [.ref c, x] _ E hr I.env0 (by
    have := hbd s [.ref c, v] I.kIn (by simpa using hl)
    simpa using this) (.cons rfl (.cons rx .nil)) q) fun r s' hq => ?_)
  cases r with
  | error e => exact hx pins σ H s e s' I hq
  | ok fl =>
    cases fl with
    | ret w =>
      obtain ⟨v, H1, I1, rv, b, rfl, q1⟩ := I.after hq
      obtain rfl : w = Value.bool b := rv
      refine wpAny_truthy_bool ?_
      rw [Bool.true_xor] at q1
      exact ⟨.bl (!b), H1, I1, rfl, q1⟩
    | next => exact False.elim hq
    | brk => exact False.elim hq
    | cont => exact False.elim hq
end
end Ys
/-! any value not in a tuple of texts -/
namespace PySem.SeqAt
open MeetsSeq
theorem str_eq_declines_dict (b : Str) (u : Tok) (l : Addr) (c : Value) (es : Array DictEntry) (ep : Nat) (dd : Option Addr) (sl : Array (Option Value)) :
    Meets (Builtin.«str.__eq__» ⟨[.str b u, .ref l], []⟩) (fun _ R s => s.heap.get? l = some { cls := c, dict := dd, data := .dict es ep, slots := sl } ∧ R (.ok (.ret .notImplemented)) s) :=
  .of_wp fun prog w A R s h => by obtain ⟨hp, g, d, tk, os⟩ := s; obtain ⟨hl, h⟩ := h; wp_walk using wpAny_loadPart' hl, wpAny_load hl; exact ⟨_, rfl, h⟩
theorem dict_eq_declines_str (l : Addr) (es : Array DictEntry) (ep : Nat) (dd : Option Addr) (sl : Array (Option Value)) (b : Str) (u : Tok) :
    Meets (Builtin.«dict.__eq__» ⟨[.ref l, .str b u], []⟩) (fun _ R s => s.heap.get? l = some { cls := .type "dict", dict := dd, data := .dict es ep, slots := sl } ∧ R (.ok (.ret .notImplemented)) s) :=
  .of_wp fun prog w A R s h => by obtain ⟨hp, g, d, tk, os⟩ := s; obtain ⟨hl, h⟩ := h; have f1 := F.sub_str_dict; wp_walk using wpAny_loadPart' hl; exact ⟨_, rfl, h⟩
section
variable {A : Around} {s : Shared}
theorem RcAt.str_dict {l : Addr} {es : Array DictEntry} {ep : Nat} {dd : Option Addr} {sl : Array (Option Value)} (b : Str) (u : Tok) (ho : s.heap.get? l = some { cls := .type "dict", dict := dd, data := .dict es ep, slots := sl }) (hu : A.units < cLine) : RcAt A s (.str b u) (.ref l) false := fun prog w E Q h => by
  exact rc_eq_decline_or (k := false) (typeIs_str s b u) ⟨_, ho, rfl⟩ (by decide) F.sub_dict_str F.slot_str_eq F.slot_dict_eq_refl
    (fun _ hq => call_meets F.slot_str_eq (typeIs_str s b u) F.entry_str_eq (F.args_str_eq_2 _ _) (str_eq_declines_dict b u l (.type "dict") es ep dd sl) ⟨ho, hq⟩)
    (fun _ hq => call_meets F.slot_dict_eq_refl ⟨_, ho, rfl⟩ F.entry_dict_eq (F.args_dict_eq_2 _ _) (dict_eq_declines_str l es ep dd sl b u) ⟨ho, hq⟩)
    (fun _ hq => wpAny_of_eq (rfl : isSame (.str b u) (.ref l) = pure false) hq) (.inr hu) h
theorem EqAt.str_dict {l : Addr} {es : Array DictEntry} {ep : Nat} {dd : Option Addr} {sl : Array (Option Value)} (b : Str) (u : Tok) (ho : s.heap.get? l = some { cls := .type "dict", dict := dd, data := .dict es ep, slots := sl }) (hu : A.units < cLine) : EqAt A s (.str b u) (.ref l) false := fun prog w E Q h => by
  unfold eqBool
  refine wpAny_holding ?_
  refine wpAny_ite_split (fun hab => absurd (eq_of_beq hab) nofun) (fun _ => ?_)
  exact wpAny_bind (RcAt.str_dict b u ho hu prog w E _ (wpAny_truthy_bool h))
end
end PySem.SeqAt
namespace Ys
open PySem PySem.Spec PyProof.Rows L2
def hitD (d : PyData) (ss : List Str) : Bool := match d with
  | .str s => decide (s ∈ ss)
  | _ => false
def dictD : PyData → Bool
  | .dict _ => true
  | _ => false
def rNotInS (K : PySem.W.Frag) : R2 := fun x y H Q => ∃ d a, ∃ ss : List Str, y = .ref a ∧ Dt K H x d ∧ SqT K H a (ss.map V.str) ∧ (∀ s ∈ ss, PyData.strOk s = true) ∧ (SeqAt.shaped d = true ∨ dictD d = true) ∧ Q (.bl (!hitD d ss)) H
theorem any_hit {d : PyData} : ∀ {ss : List Str}, ((ss.map PyData.str).any fun y => PyData.eqv y d) = hitD d ss
  | [] => by cases d <;> simp [hitD]
  | s :: ss => by
    rw [List.map_cons, List.any_cons, any_hit (ss := ss)]
    cases d with
    | str t =>
      by_cases c : s = t
      · subst c
        simp [hitD, PyData.eqv]
      · have e : (s == t) = false := beq_eq_false_iff_ne.mpr c
        have e2 : ¬ t = s := fun h => c h.symm
        simp [hitD, PyData.eqv, e, e2]
    | _ => simp [hitD, PyData.eqv]
theorem canLay_strs : ∀ {ss : List Str}, (∀ s ∈ ss, PyData.strOk s = true) → PyData.canLayAll0 (ss.map PyData.str) = true
  | [], _ => by simp [PyData.canLayAll0]
  | s :: ss, h => by
    rw [List.map_cons, PyData.canLayAll0, canLay_strs fun x hx => h x (List.mem_cons_of_mem _ hx)]
    simp [PyData.canLay0, h s (by simp)]
theorem dts_strV {K : PySem.W.Frag} {H : Hp} : ∀ ss : List Str, Dts K H (ss.map V.str) (ss.map PyData.str)
  | [] => .nil
  | s :: ss => .cons (.str s) (dts_strV ss)
theorem strs_read {h : Heap} : ∀ (ss : List Str) (vs : List Value) (as : List Addr), ReadsAll h vs (ss.map PyData.str) as → ∀ y ∈ vs, ∃ b t, y = Value.str b t
  | [], _, _, r, y, hy => by cases r; cases hy
  | s :: ss, _, _, r, y, hy => by
    cases r with
    | cons r1 r2 =>
      rcases List.mem_cons.mp hy with rfl | hy
      · cases r1
        exact ⟨_, _, rfl⟩
      · exact strs_read ss _ _ r2 y hy
theorem op_notInS {X : Cx} (S : SysIn X.K) (hu : X.A.units + 128 < cLine) : OpR X (compareOp .NotIn) (rNotInS X.K) := fun pins s σ H x y v u Q I rx ry h => by
  obtain ⟨d, a, ss, rfl, hd, hS, ok, sd, q⟩ := h
  have he : Dt X.K H (.ref a) (.tuple (ss.map PyData.str)) := .tup hS (dts_strV ss)
  obtain ⟨bs, r2, _⟩ := Dt.reads I S _ _ u he ry
  rcases sd with sd | sd
  · obtain ⟨as, r1, _⟩ := Dt.reads I S d x v hd rx
    have h1 := SeqAt.depth_of_shaped sd
    have h2 : min (PyData.depthAll (ss.map PyData.str)) d.depth ≤ d.depth := Nat.min_le_right _ _
    refine SeqAt.notIn_tuple_reads r2 r1 (canLay_strs ok) (SeqAt.canLay_of_shaped sd) (by omega) ⟨V.bl _, H, I, rfl, ?_⟩
    rw [any_hit]
    exact q
  · cases hd with
    | dct hR hk hv =>
      cases (show v = Value.ref _ from rx)
      obtain ⟨z, hds, vs, rel, o, es, ep, ho, ⟨hc, _⟩, hda, _⟩ := dk_rd I.hok hR
      cases r2 with
      | tuple h1 h2 h3 h4 =>
        refine SeqAt.notIn_tupleAt (fun _ => false) ⟨_, h1, h2, _, h3⟩ (fun y hy => ?_) ⟨V.bl _, H, I, rfl, ?_⟩
        · obtain ⟨dy, cs, ry, hcy, hle⟩ := SeqAt.readsAll_mem _ _ _ (canLay_strs ok) h4 y (by simpa using hy)
          obtain ⟨b, t, rfl⟩ := strs_read _ _ _ h4 y (by simpa using hy)
          cases o
          simp only at hc hda
          subst hc hda
          exact SeqAt.EqAt.str_dict b t ho (by show X.A.in1.units < cLine; have : X.A.in1.units = X.A.units + 1 := rfl; omega)
        · rw [show (Array.any _ fun _ : Value => false) = false by simp]
          exact q
    | _ => cases sd
theorem k_notInS {X : Cx} {K : PySem.W.Frag} (S : SysIn K) (hu : X.A.units + 128 < cLine) (e : X.K = K := by rfl) : OpR X (compareOp .NotIn) (rNotInS K) := by
  subst e
  exact op_notInS S hu
end Ys
namespace Ys
open PySem PySem.Spec PyProof.Rows L2
/-! ### the Hook, with methods that say super() -/
theorem obC_eq {n : Nat} {fb : List (PySem.W.Frag → Bool)} {fn fc : List DefY} (s : PySem.W.SharedT) : obC n fb fn fc s = (hookC n fb fn fc).obs s.abs := by
  have e : HandSHeadRun.getT s = s.abs.heap.get? := funext (HandSHeadRun.getT_eq s)
  unfold obC
  rw [e]
  rfl
section
variable {fb : List (PySem.W.Frag → Bool)} {fn fc : List DefY} {K : PySem.W.Frag}
theorem SaysC.both (c : SaysC fb fn fc K) : SaysZ fb fn K ∧ (fc.map fun d => fnC K (d.ad K)) = fc.map DefY.val := by
  have h2 : (fn.map fun d => fnY K (d.ad K)) ++ (fc.map fun d => fnC K (d.ad K)) = fn.map DefY.val ++ fc.map DefY.val := congrArg Prod.snd c
  obtain ⟨h3, h4⟩ := List.append_inj h2 (by rw [List.length_map, List.length_map])
  have h1 : ((fb.all fun f => f K) && fn.all fun d => d.ok K) = true := congrArg Prod.fst c
  exact ⟨Prod.ext h1 h3, h4⟩
theorem SaysC.sup (c : SaysC fb fn fc K) (i : Nat) {d : DefY} (h : fc[i]? = some d := by rfl) : fnC K (d.ad K) = d.val := by
  have := congrArg (fun l : List He.FnW => l[i]?) c.both.2
  simp only [List.getElem?_map, h, Option.map_some] at this
  exact Option.some.inj this
end
/-! ### an own error's class -/
theorem oexB_ok {K : PySem.W.Frag} {C : Addr} (h : oexB K C = true) : ∃ nm q N bs bm sn sub ab col dd k0 k1 k2 k3 k5, K.lookup C = some (excClassObj nm q C N bs bm true sn sub ab col dd k0 k1 k2 k3 k5 "ValueError.__new__") ∧ PySem.HandSPX.refsVE bm = true := by
  unfold oexB at h
  split at h
  · rename_i t dd c sl look
    split at h
    · rename_i D bm k0 k1 k2 k3 m k5 hm hl
      obtain ⟨j, i⟩ := Bool.and_eq_true_iff.mp h
      obtain ⟨j1, j⟩ := Bool.and_eq_true_iff.mp j
      obtain ⟨j2, j3⟩ := Bool.and_eq_true_iff.mp j
      obtain ⟨i1, i⟩ := Bool.and_eq_true_iff.mp i
      obtain ⟨i2, i3⟩ := Bool.and_eq_true_iff.mp i
      have e1 := of_decide_eq_true j1
      have e2 := of_decide_eq_true j2
      have e3 := of_decide_eq_true j3
      obtain ⟨y1, y2, y3, y4, y5, y6, y7, y8, y9, y10, y11⟩ := c
      dsimp only at hm i2 i3
      have z3 : y11 = false := by cases y11 <;> simp_all
      have es : sl = #[k0, k1, k2, k3, some (.builtin m), k5] := Array.toList_inj.mp (by rw [hl])
      subst e1 e2 e3 hm es i2 z3
      exact ⟨y1, y5, y4, y2, bm, y7, y8, y9, y10, dd, k0, k1, k2, k3, k5, look, i1⟩
    · cases h
  · cases h
theorem oexA_ok {x : Str} {K : PySem.W.Frag} (h : oexA x K = true) : OexC K (He.ga K x) := by
  obtain ⟨h1, h⟩ := Bool.and_eq_true_iff.mp h
  obtain ⟨h2, h⟩ := Bool.and_eq_true_iff.mp h
  obtain ⟨h3, h⟩ := Bool.and_eq_true_iff.mp h
  obtain ⟨h4, h5⟩ := Bool.and_eq_true_iff.mp h
  exact { cls := oexB_ok h1, sa := of_decide_eq_true h2, exC := of_decide_eq_true h3, tyC := of_decide_eq_true h4, kC := h5 }
structure ExcA (K : PySem.W.Frag) (C : Addr) (fld : Str) : Prop where
  xf : XfC K C
  xc : ExcC K C
  no : PySem.W.findIn K (.ref C) fld = some none
  ex : PySem.W.exmOne K (.ref C) (.ref C) = some true
  kt : PySem.W.kitOne K (.ref C) (.type "ValueError") = some true
theorem excA_ok {x fld : Str} {K : PySem.W.Frag} (h : excA x fld K = true) : ExcA K (He.ga K x) fld := by
  obtain ⟨h1, h⟩ := Bool.and_eq_true_iff.mp h
  obtain ⟨h2, h⟩ := Bool.and_eq_true_iff.mp h
  obtain ⟨h3, h⟩ := Bool.and_eq_true_iff.mp h
  obtain ⟨h4, h⟩ := Bool.and_eq_true_iff.mp h
  obtain ⟨h5, h⟩ := Bool.and_eq_true_iff.mp h
  obtain ⟨h6, h⟩ := Bool.and_eq_true_iff.mp h
  obtain ⟨h7, h8⟩ := Bool.and_eq_true_iff.mp h
  have X := xfB_ok h1
  exact ⟨X, ⟨X.ga, X.gg, X.exC, X.hdC, of_decide_eq_true h2, of_decide_eq_true h3, of_decide_eq_true h4, of_decide_eq_true h5⟩, of_decide_eq_true h6, of_decide_eq_true h7, of_decide_eq_true h8⟩
/-! ### its __init__ -/
theorem fileB_ok {K : PySem.W.Frag} {cd : Value} {file : Str} (h : fileB K cd file = true) : ∃ a, cd = .ref a ∧ ∃ ccl cdd vs ccs z tf, K.lookup a = some ⟨ccl, cdd, .fields vs, ccs⟩ ∧ vs[2]? = some (.str z tf) ∧ (file == z) = true := by
  unfold fileB at h
  split at h
  · rename_i a
    split at h
    · rename_i c1 c2 vs c3 lk
      split at h
      · rename_i z tf hv
        exact ⟨a, rfl, c1, c2, vs, c3, z, tf, lk, hv, h⟩
      · cases h
    · cases h
  · cases h
theorem cloB_ok {K : PySem.W.Frag} {clo : List (Str × Addr)} {C : Addr} (h : cloB K clo C = true) : ∃ c, clo = [(("__class__" : Str), c)] ∧ ∃ cl cld csl, K.lookup c = some ⟨cl, cld, .cell (some (.ref C)), csl⟩ := by
  unfold cloB at h
  split at h
  · rename_i n c
    obtain ⟨h1, h2⟩ := Bool.and_eq_true_iff.mp h
    split at h2
    · rename_i c1 c2 D c3 lk
      have e1 := of_decide_eq_true h1
      have e2 := of_decide_eq_true h2
      subst e1 e2
      exact ⟨c, rfl, _, _, _, lk⟩
    · cases h2
  · cases h
theorem supA_ok {P : Program} {x fld : Str} {K : PySem.W.Frag} {d : DefY} (hf : d.ad K = cA x "__init__" K) (hn : d.name = "__init__") (e : fnC K (d.ad K) = d.val) (h : supA x d.qual fld P.main.file K = true) :
    ∃ fd, SupF P K (gA x K) (cA x "__init__" K) fld d.qual d.params d.body d.scope fd ∧ (∃ kV doc pm an cdv ct cc, fd = PySem.W.ksFn "__init__" d.qual d.params d.body d.scope .none kV doc pm an cdv ct cc) ∧
      PySem.W.findIn K (.ref (gA x K)) "__init__" = some (some (.ref (cA x "__init__" K))) ∧ PySem.W.typeIn K (.ref (cA x "__init__" K)) = some (.type "function") := by
  obtain ⟨h0, h⟩ := Bool.and_eq_true_iff.mp h
  obtain ⟨h1, h⟩ := Bool.and_eq_true_iff.mp h
  obtain ⟨h2, h⟩ := Bool.and_eq_true_iff.mp h
  obtain ⟨h3, h⟩ := Bool.and_eq_true_iff.mp h
  obtain ⟨h4, h⟩ := Bool.and_eq_true_iff.mp h
  obtain ⟨h5, h⟩ := Bool.and_eq_true_iff.mp h
  obtain ⟨h6, h⟩ := Bool.and_eq_true_iff.mp h
  obtain ⟨h7, h8⟩ := Bool.and_eq_true_iff.mp h
  rw [hf] at e
  split at h0
  · rename_i oc od g osl lk
    obtain ⟨j1, j⟩ := Bool.and_eq_true_iff.mp h0
    obtain ⟨j2, j⟩ := Bool.and_eq_true_iff.mp j
    obtain ⟨j3, j4⟩ := Bool.and_eq_true_iff.mp j
    obtain ⟨a, ha, jf⟩ := fileB_ok j2
    obtain ⟨c, hc, jc⟩ := cloB_ok j3
    have j4 := of_decide_eq_true j4
    unfold fnC at e
    rw [lk] at e
    obtain ⟨g1, g2, g3, g4, g5, g6, g7, g8, g9, g10, g11, g12, g13, g14, g15⟩ := g
    obtain ⟨i1, i2, i3, i4, i5, i6, i7⟩ : g1 = d.name ∧ g2 = d.qual ∧ g3 = d.params ∧ g4 = .stmts d.body ∧ g5 = d.scope ∧ g6 = mainGlobals ∧ g15 = builtinsNs := by
      have e' : (some (g1, g2, g3, g4, g5, g6, [], g15) : He.FnW) = some (d.name, d.qual, d.params, .stmts d.body, d.scope, mainGlobals, [], builtinsNs) := e
      simpa only [Option.some.injEq, Prod.mk.injEq, true_and] using e'
    have hc : g7 = [(("__class__" : Str), c)] := hc
    have ha : g13 = .ref a := ha
    have j4 : g8 = .none := j4
    rw [hn] at i1
    subst i1 i2 i3 i4 i5 i6 i7 hc ha j4
    exact ⟨_, ⟨⟨oc, od, osl, .none, g9, g10, g11, g12, a, g14, c, rfl, lk, j1, jf, jc⟩, of_decide_eq_true h1, of_decide_eq_true h2, of_decide_eq_true h3, of_decide_eq_true h4, of_decide_eq_true h5, of_decide_eq_true h6⟩, ⟨_, _, _, _, _, _, _, rfl⟩, of_decide_eq_true h7, of_decide_eq_true h8⟩
  · cases h0
end Ys
namespace Ys
open PySem PySem.Spec PyProof.Rows L2
/-! ### the Hook, with tables -/
theorem obCT_eq {n : Nat} {fb : List (PySem.W.Frag → Bool)} {fn fc : List DefY} {ts : List He.Tab} (s : PySem.W.SharedT) : obCT n fb fn fc ts s = (hookCT n fb fn fc ts).obs s.abs := by
  have e : HandSHeadRun.getT s = s.abs.heap.get? := funext (HandSHeadRun.getT_eq s)
  unfold obCT
  rw [e]
  rfl
section
variable {fb : List (PySem.W.Frag → Bool)} {fn fc : List DefY} {ts : List He.Tab} {w : World} {K : PySem.W.Frag}
theorem SaysCT.c (c : SaysCT fb fn fc ts w K) : SaysC fb fn fc K := congrArg (fun z : AlCT => z.1) c
theorem SaysCT.tab (c : SaysCT fb fn fc ts w K) (i : Nat) {t : He.Tab} (h : ts[i]? = some t := by rfl) : He.dicW K (t.1 K) = some (He.keysIn w.params t.2) := by
  have e : ts.map (fun t => He.dicW K (t.1 K)) = ts.map fun t => some (He.keysIn w.params t.2) := congrArg (fun z : AlCT => z.2) c
  have e2 : (ts.map fun t => He.dicW K (t.1 K))[i]? = (ts.map fun t => some (He.keysIn w.params t.2))[i]? := by rw [e]
  rw [List.getElem?_map, List.getElem?_map, h] at e2
  exact Option.some.inj e2
end
theorem lookup_mem {z : Str} {v : V} : ∀ {kvs : List (Str × V)}, kvs.lookup z = some v → (z, v) ∈ kvs
  | (k, x) :: r, h => by
    rw [List.lookup_cons] at h
    split at h
    · rename_i e
      have e := eq_of_beq e
      subst e
      rw [Option.some.inj h]
      exact List.mem_cons_self ..
    · exact List.mem_cons_of_mem _ (lookup_mem h)
theorem lookup_no {z : Str} : ∀ {kvs : List (Str × V)}, kvs.lookup z = none → z ∉ kvs.map (·.1)
  | [], _ => by simp
  | (k, x) :: r, h => by
    rw [List.lookup_cons] at h
    split at h
    · cases h
    · rename_i e
      have := lookup_no h
      simp only [List.map_cons, List.mem_cons, not_or]
      refine ⟨fun e2 => ?_, this⟩
      rw [e2, beq_self_eq_true] at e
      cases e
theorem keysLit_mem {P : Params} : ∀ {l : List DictEntry} {ks : List Str}, l.map He.keyOf = He.keysIn P ks → ∀ e ∈ l, ∃ x t, e.key = .str x t ∧ x ∈ ks
  | [], _, _, _, h => by cases h
  | e :: r, [], h, _, _ => by cases h
  | e :: r, k :: ks, h, e', he => by
    have h1 : He.keyOf e :: r.map He.keyOf = some (k, PyData.keyHash P k) :: He.keysIn P ks := h
    injection h1 with h2 h3
    rcases List.mem_cons.mp he with rfl | he
    · unfold He.keyOf at h2
      split at h2
      · rename_i x t q
        have h4 := Option.some.inj h2
        obtain ⟨h5, h6⟩ := Prod.mk.inj h4
        exact ⟨x, t, q, by rw [h5]; exact List.mem_cons_self ..⟩
      · cases h2
    · obtain ⟨x, t, q, m⟩ := keysLit_mem h3 e' he
      exact ⟨x, t, q, List.mem_cons_of_mem _ m⟩
theorem dicW_at {K : PySem.W.Frag} {w : World} {a : Addr} {ks : List Str} (h : He.dicW K a = some (He.keysIn w.params ks)) : ∃ es n, KDict K w a es n ∧ es.toList.map He.keyOf = He.keysIn w.params ks := by
  obtain ⟨es, n, D⟩ := He.dicW_ok h
  refine ⟨es, n, D, ?_⟩
  unfold He.dicW at h
  rw [D.at_] at h
  dsimp only at h
  split at h
  · exact Option.some.inj h
  · cases h
theorem tabD_of {K : PySem.W.Frag} {w : World} {a : PySem.W.Frag → Addr} {kvs : List (Str × V)} (h : He.dicW K (a K) = some (He.keysIn w.params (kvs.map (·.1)))) (hv : valsV kvs a K = true) : TabD K w (a K) kvs := by
  obtain ⟨es, n, D, hk⟩ := dicW_at h
  refine ⟨⟨es, n, D⟩, fun z v l => ?_, fun z l => ?_⟩
  · have h2 := List.all_eq_true.mp hv _ (lookup_mem l)
    cases e : PySem.W.nsIn K (a K) z with
    | none =>
      simp only [e] at h2
      cases h2
    | some r =>
      simp only [e] at h2
      cases r with
      | none => cases h2
      | some u => exact ⟨u, rfl, He.relB_ok h2⟩
  · have hn := lookup_no l
    unfold PySem.W.nsIn
    rw [D.at_]
    have f0 : es.toList.find? (·.key.isStr z) = none := by
      refine List.find?_eq_none.mpr fun e he c => ?_
      obtain ⟨x, t, q, m⟩ := keysLit_mem hk e he
      rw [q] at c
      have e2 : x = z := eq_of_beq (show (x == z) = true from c)
      exact hn (e2 ▸ m)
    have f1 : es.toList.any (·.refKey) = false := by
      refine Bool.eq_false_iff.mpr fun c => ?_
      obtain ⟨e, he, c⟩ := List.any_eq_true.mp c
      obtain ⟨x, t, q, m⟩ := keysLit_mem hk e he
      unfold DictEntry.refKey at c
      rw [q] at c
      cases c
    simp only [f0, f1]
    rfl
end Ys
/-! the Hook with tables, over all objects up to an address (the growing list of Hz costs too much memory for a top with many defs) -/
namespace Ys
open PySem PySem.Spec PyProof.Rows L2
theorem obRT_eq {n : Nat} {fb : List (PySem.W.Frag → Bool)} {fn fc : List DefY} {ts : List He.Tab} (s : PySem.W.SharedT) : obRT n fb fn fc ts s = (hookRT n fb fn fc ts).obs s.abs := by
  have e : HandSHeadRun.getT s = s.abs.heap.get? := funext (HandSHeadRun.getT_eq s)
  unfold obRT
  rw [e]
  rfl
end Ys
namespace Ys
open PySem PySem.Spec PyProof.Rows L2
/-! ### an own error's class below any base -/
theorem oexEB_ok {K : PySem.W.Frag} {C : Addr} {newId : String} {tl : List Value} (h : oexEB K C newId tl = true) : ∃ nm q N bs sn sub ab col dd k0 k1 k2 k3 k5, K.lookup C = some (excClassObj nm q C N bs tl true sn sub ab col dd k0 k1 k2 k3 k5 newId) := by
  unfold oexEB at h
  split at h
  · rename_i t dd c sl look
    split at h
    · rename_i D bm k0 k1 k2 k3 m k5 hm hl
      obtain ⟨j, i⟩ := Bool.and_eq_true_iff.mp h
      obtain ⟨j1, j⟩ := Bool.and_eq_true_iff.mp j
      obtain ⟨j2, j3⟩ := Bool.and_eq_true_iff.mp j
      obtain ⟨i1, i⟩ := Bool.and_eq_true_iff.mp i
      obtain ⟨i2, i3⟩ := Bool.and_eq_true_iff.mp i
      have e1 := of_decide_eq_true j1
      have e2 := of_decide_eq_true j2
      have e3 := of_decide_eq_true j3
      have e4 : bm = tl := eq_of_beq i1
      obtain ⟨y1, y2, y3, y4, y5, y6, y7, y8, y9, y10, y11⟩ := c
      dsimp only at hm i2 i3
      have z3 : y11 = false := by cases y11 <;> simp_all
      have es : sl = #[k0, k1, k2, k3, some (.builtin m), k5] := Array.toList_inj.mp (by rw [hl])
      subst e1 e2 e3 e4 hm es i2 z3
      exact ⟨y1, y5, y4, y2, y7, y8, y9, y10, dd, k0, k1, k2, k3, k5, look⟩
    · cases h
  · cases h
theorem oexEA_ok {x : Str} {newId : String} {tl : List Value} {K : PySem.W.Frag} (h : oexEA x newId tl K = true) : OexE K (gA x K) newId tl := by
  obtain ⟨h1, h⟩ := Bool.and_eq_true_iff.mp h
  obtain ⟨h2, h⟩ := Bool.and_eq_true_iff.mp h
  obtain ⟨h3, h⟩ := Bool.and_eq_true_iff.mp h
  obtain ⟨h4, h5⟩ := Bool.and_eq_true_iff.mp h
  exact ⟨oexEB_ok h1, of_decide_eq_true h2, of_decide_eq_true h3, of_decide_eq_true h4, h5⟩
theorem excX_ok {x : Str} {K : PySem.W.Frag} (h : excX x K = true) : XfC K (gA x K) ∧ ExcC K (gA x K) := by
  obtain ⟨h1, h⟩ := Bool.and_eq_true_iff.mp h
  obtain ⟨h2, h⟩ := Bool.and_eq_true_iff.mp h
  obtain ⟨h3, h⟩ := Bool.and_eq_true_iff.mp h
  obtain ⟨h4, h5⟩ := Bool.and_eq_true_iff.mp h
  have X := xfB_ok h1
  exact ⟨X, X.ga, X.gg, X.exC, X.hdC, of_decide_eq_true h2, of_decide_eq_true h3, of_decide_eq_true h4, of_decide_eq_true h5⟩
theorem supEA_ok {P : Program} {x : Str} {flds : List Str} {B initId : String} {K : PySem.W.Frag} {d : DefY} (hf : d.ad K = cA x "__init__" K) (hn : d.name = "__init__") (e : fnC K (d.ad K) = d.val) (h : supEA x d.qual flds B initId P.main.file K = true) :
    ∃ fd, SupE P K (gA x K) (cA x "__init__" K) B initId flds d.qual d.params d.body d.scope fd ∧ (∃ kV doc pm an cdv ct cc, fd = PySem.W.ksFn "__init__" d.qual d.params d.body d.scope .none kV doc pm an cdv ct cc) ∧
      PySem.W.findIn K (.ref (gA x K)) "__init__" = some (some (.ref (cA x "__init__" K))) ∧ PySem.W.typeIn K (.ref (cA x "__init__" K)) = some (.type "function") := by
  obtain ⟨h0, h⟩ := Bool.and_eq_true_iff.mp h
  obtain ⟨h1, h⟩ := Bool.and_eq_true_iff.mp h
  obtain ⟨h2, h⟩ := Bool.and_eq_true_iff.mp h
  obtain ⟨h3, h⟩ := Bool.and_eq_true_iff.mp h
  obtain ⟨h4, h⟩ := Bool.and_eq_true_iff.mp h
  obtain ⟨h5, h⟩ := Bool.and_eq_true_iff.mp h
  obtain ⟨h6, h⟩ := Bool.and_eq_true_iff.mp h
  obtain ⟨h7, h8⟩ := Bool.and_eq_true_iff.mp h
  rw [hf] at e
  split at h0
  · rename_i oc od g osl lk
    obtain ⟨j1, j⟩ := Bool.and_eq_true_iff.mp h0
    obtain ⟨j2, j⟩ := Bool.and_eq_true_iff.mp j
    obtain ⟨j3, j4⟩ := Bool.and_eq_true_iff.mp j
    obtain ⟨a, ha, jf⟩ := fileB_ok j2
    obtain ⟨c, hc, jc⟩ := cloB_ok j3
    have j4 := of_decide_eq_true j4
    unfold fnC at e
    rw [lk] at e
    obtain ⟨g1, g2, g3, g4, g5, g6, g7, g8, g9, g10, g11, g12, g13, g14, g15⟩ := g
    obtain ⟨i1, i2, i3, i4, i5, i6, i7⟩ : g1 = d.name ∧ g2 = d.qual ∧ g3 = d.params ∧ g4 = .stmts d.body ∧ g5 = d.scope ∧ g6 = mainGlobals ∧ g15 = builtinsNs := by
      have e' : (some (g1, g2, g3, g4, g5, g6, [], g15) : He.FnW) = some (d.name, d.qual, d.params, .stmts d.body, d.scope, mainGlobals, [], builtinsNs) := e
      simpa only [Option.some.injEq, Prod.mk.injEq, true_and] using e'
    have hc : g7 = [(("__class__" : Str), c)] := hc
    have ha : g13 = .ref a := ha
    have j4 : g8 = .none := j4
    rw [hn] at i1
    subst i1 i2 i3 i4 i5 i6 i7 hc ha j4
    exact ⟨_, ⟨⟨oc, od, osl, .none, g9, g10, g11, g12, a, g14, c, rfl, lk, j1, jf, jc⟩, of_decide_eq_true h1, of_decide_eq_true h2, of_decide_eq_true h3, of_decide_eq_true h4, fun f hf => of_decide_eq_true (List.all_eq_true.mp h5 f hf), of_decide_eq_true h6⟩, ⟨_, _, _, _, _, _, _, rfl⟩, of_decide_eq_true h7, of_decide_eq_true h8⟩
  · cases h0
end Ys
/-! facts of the written part: setters, own items -/
namespace Ys
open PySem PySem.Spec PyProof.Rows L2
theorem fPset_ok {x m : Str} {K : PySem.W.Frag} (h : fPset x m K = true) : PropSet K (He.ga K x) m (sA x m K) := by
  obtain ⟨h1, h⟩ := Bool.and_eq_true_iff.mp h
  obtain ⟨h2, h4⟩ := Bool.and_eq_true_iff.mp h
  refine ⟨cA x m K, ?_⟩
  cases q : PySem.W.recIn K (cA x m K) "property" with
  | none => rw [q] at h4; cases h4
  | some l =>
    rw [q] at h4
    cases l with
    | nil => cases h4
    | cons v r =>
      cases r with
      | nil => cases h4
      | cons u r =>
        cases u with
        | ref g => exact ⟨v, r, of_decide_eq_true h1, of_decide_eq_true h2, by rw [of_decide_eq_true h4]⟩
        | _ => cases h4
end Ys
namespace LW
open PySem PySem.Spec PyProof.Rows L2 Ys
/-! ### names -/
structure Nm (K : PySem.W.Frag) (mg : Str → Option Value) : Prop where
  sys : SysIn K
  b_len : mg "len" = none
  b_int : mg "int" = none
  b_list : mg "list" = none
  b_tuple : mg "tuple" = none
  b_set : mg "set" = none
  b_dict : mg "dict" = none
  b_str : mg "str" = none
  b_bool : mg "bool" = none
  b_sorted : mg "sorted" = none
  b_min : mg "min" = none
  b_max : mg "max" = none
  b_sum : mg "sum" = none
  b_all : mg "all" = none
  b_any : mg "any" = none
  b_repr : mg "repr" = none
  b_range : mg "range" = none
  b_isinstance : mg "isinstance" = none
  g_LETTERS : GC mg "LETTERS" (.str "abcdefghijklmnopqrstuvwxyz")
  g_LONGEST_WORD : GC mg "LONGEST_WORD" (.int 8)
  g_DONE : GC mg "DONE" (.ref (gA "DONE" K))
  g_LEAST : GC mg "LEAST" (.ref (gA "LEAST" K))
  g_MOST : GC mg "MOST" (.ref (gA "MOST" K))
  d_DONE : ∀ G, SqT K G (gA "DONE" K) [.str "then"]
  g_KINDS : GC mg "KINDS" (.int 3)
  g_ROLES : GC mg "ROLES" (.int 4)
  g_TASKS : GC mg "TASKS" (.int 8)
  g_REMEMBERED : GC mg "REMEMBERED" (.int 3)
  g_WIDTH : GC mg "WIDTH" (.int 5)
  g_MANY : GC mg "MANY" (.int 3)
  g_NAMES : GC mg "NAMES" (.int 16)
  g_LEVELS : GC mg "LEVELS" (.int 5)
abbrev FnP (K : PySem.W.Frag) (x : Str) (st : Stmt) (f : Addr) (fd : FuncData) : Prop := FunD K x x (defArgs st) (defBody st) (defScope st) [] [] f fd
/-! ### the defs -/
abbrev N_wall : List Str := ["k"]
theorem sc_wall : FnScope N_wall ["k"] (defScope s_wall) := ⟨rfl, rfl, rfl, by decide +kernel, rfl, by decide +kernel, by decide +kernel⟩
abbrev N_is_word : List Str := ["value", "letter"]
theorem sc_is_word : FnScope N_is_word ["value"] (defScope s_is_word) := ⟨rfl, rfl, rfl, by decide +kernel, rfl, by decide +kernel, by decide +kernel⟩
abbrev N_is_integer : List Str := ["value"]
theorem sc_is_integer : FnScope N_is_integer ["value"] (defScope s_is_integer) := ⟨rfl, rfl, rfl, by decide +kernel, rfl, by decide +kernel, by decide +kernel⟩
abbrev N_is_within : List Str := ["value", "least", "most"]
theorem sc_is_within : FnScope N_is_within ["value", "least", "most"] (defScope s_is_within) := ⟨rfl, rfl, rfl, by decide +kernel, rfl, by decide +kernel, by decide +kernel⟩
abbrev N_is_list : List Str := ["value"]
theorem sc_is_list : FnScope N_is_list ["value"] (defScope s_is_list) := ⟨rfl, rfl, rfl, by decide +kernel, rfl, by decide +kernel, by decide +kernel⟩
abbrev N_are_words : List Str := ["value", "most", "word"]
theorem sc_are_words : FnScope N_are_words ["value", "most"] (defScope s_are_words) := ⟨rfl, rfl, rfl, by decide +kernel, rfl, by decide +kernel, by decide +kernel⟩
abbrev N_are_different_words : List Str := ["value", "most"]
theorem sc_are_different_words : FnScope N_are_different_words ["value", "most"] (defScope s_are_different_words) := ⟨rfl, rfl, rfl, by decide +kernel, rfl, by decide +kernel, by decide +kernel⟩
abbrev N_ascending : List Str := ["words"]
theorem sc_ascending : FnScope N_ascending ["words"] (defScope s_ascending) := ⟨rfl, rfl, rfl, by decide +kernel, rfl, by decide +kernel, by decide +kernel⟩
abbrev N_is_formed : List Str := ["value", "most"]
theorem sc_is_formed : FnScope N_is_formed ["value"] (defScope s_is_formed) := ⟨rfl, rfl, rfl, by decide +kernel, rfl, by decide +kernel, by decide +kernel⟩
abbrev N_wrong_part : List Str := ["value", "is_beside", "part", "found"]
theorem sc_wrong_part : FnScope N_wrong_part ["value", "is_beside"] (defScope s_wrong_part) := ⟨rfl, rfl, rfl, by decide +kernel, rfl, by decide +kernel, by decide +kernel⟩
abbrev N_sequence : List Str := ["parts", "found", "part"]
theorem sc_sequence : FnScope N_sequence ["parts"] (defScope s_sequence) := ⟨rfl, rfl, rfl, by decide +kernel, rfl, by decide +kernel, by decide +kernel⟩
abbrev N_alongside : List Str := ["one", "other"]
theorem sc_alongside : FnScope N_alongside ["one", "other"] (defScope s_alongside) := ⟨rfl, rfl, rfl, by decide +kernel, rfl, by decide +kernel, by decide +kernel⟩
abbrev N_normal_form : List Str := ["plan", "parts", "part"]
theorem sc_normal_form : FnScope N_normal_form ["plan"] (defScope s_normal_form) := ⟨rfl, rfl, rfl, by decide +kernel, rfl, by decide +kernel, by decide +kernel⟩
abbrev N_normal : List Str := ["plan", "found"]
theorem sc_normal : FnScope N_normal ["plan"] (defScope s_normal) := ⟨rfl, rfl, rfl, by decide +kernel, rfl, by decide +kernel, by decide +kernel⟩
abbrev N_name_list : List Str := ["plan", "found", "part"]
theorem sc_name_list : FnScope N_name_list ["plan"] (defScope s_name_list) := ⟨rfl, rfl, rfl, by decide +kernel, rfl, by decide +kernel, by decide +kernel⟩
abbrev N_names_in : List Str := ["plan"]
theorem sc_names_in : FnScope N_names_in ["plan"] (defScope s_names_in) := ⟨rfl, rfl, rfl, by decide +kernel, rfl, by decide +kernel, by decide +kernel⟩
abbrev N_plan_text : List Str := ["plan", "part"]
theorem sc_plan_text : FnScope N_plan_text ["plan"] (defScope s_plan_text) := ⟨rfl, rfl, rfl, by decide +kernel, rfl, by decide +kernel, by decide +kernel⟩
abbrev N_PlanReader_init : List Str := ["self", "text"]
theorem sc_PlanReader_init : FnScope N_PlanReader_init ["self", "text"] (defScope s_PlanReader_init) := ⟨rfl, rfl, rfl, by decide +kernel, rfl, by decide +kernel, by decide +kernel⟩
abbrev N_PlanReader_sign : List Str := ["self"]
theorem sc_PlanReader_sign : FnScope N_PlanReader_sign ["self"] (defScope s_PlanReader_sign) := ⟨rfl, rfl, rfl, by decide +kernel, rfl, by decide +kernel, by decide +kernel⟩
abbrev N_PlanReader_mark : List Str := ["self", "sign"]
theorem sc_PlanReader_mark : FnScope N_PlanReader_mark ["self", "sign"] (defScope s_PlanReader_mark) := ⟨rfl, rfl, rfl, by decide +kernel, rfl, by decide +kernel, by decide +kernel⟩
abbrev N_PlanReader_word : List Str := ["self", "begin"]
theorem sc_PlanReader_word : FnScope N_PlanReader_word ["self"] (defScope s_PlanReader_word) := ⟨rfl, rfl, rfl, by decide +kernel, rfl, by decide +kernel, by decide +kernel⟩
abbrev N_PlanReader_begin : List Str := ["self", "word", "is_inner", "parts"]
theorem sc_PlanReader_begin : FnScope N_PlanReader_begin ["self"] (defScope s_PlanReader_begin) := ⟨rfl, rfl, rfl, by decide +kernel, rfl, by decide +kernel, by decide +kernel⟩
abbrev N_PlanReader_close : List Str := ["self"]
theorem sc_PlanReader_close : FnScope N_PlanReader_close ["self"] (defScope s_PlanReader_close) := ⟨rfl, rfl, rfl, by decide +kernel, rfl, by decide +kernel, by decide +kernel⟩
abbrev N_PlanReader_go_on : List Str := ["self", "found", "parts", "many"]
theorem sc_PlanReader_go_on : FnScope N_PlanReader_go_on ["self", "found"] (defScope s_PlanReader_go_on) := ⟨rfl, rfl, rfl, by decide +kernel, rfl, by decide +kernel, by decide +kernel⟩
abbrev N_PlanReader_whole : List Str := ["self", "found"]
theorem sc_PlanReader_whole : FnScope N_PlanReader_whole ["self"] (defScope s_PlanReader_whole) := ⟨rfl, rfl, rfl, by decide +kernel, rfl, by decide +kernel, by decide +kernel⟩
abbrev N_read_plan : List Str := ["text"]
theorem sc_read_plan : FnScope N_read_plan ["text"] (defScope s_read_plan) := ⟨rfl, rfl, rfl, by decide +kernel, rfl, by decide +kernel, by decide +kernel⟩
abbrev N_Task_init : List Str := ["self", "role", "many", "other", "same", "takes", "forgets", "field", "names"]
theorem sc_Task_init : FnScope N_Task_init ["self", "role", "many", "other", "same", "takes", "forgets"] (defScope s_Task_init) := ⟨rfl, rfl, rfl, by decide +kernel, rfl, by decide +kernel, by decide +kernel⟩
abbrev N_Task_role : List Str := ["self"]
theorem sc_Task_role : FnScope N_Task_role ["self"] (defScope s_Task_role) := ⟨rfl, rfl, rfl, by decide +kernel, rfl, by decide +kernel, by decide +kernel⟩
abbrev N_Task_many : List Str := ["self"]
theorem sc_Task_many : FnScope N_Task_many ["self"] (defScope s_Task_many) := ⟨rfl, rfl, rfl, by decide +kernel, rfl, by decide +kernel, by decide +kernel⟩
abbrev N_Task_other : List Str := ["self"]
theorem sc_Task_other : FnScope N_Task_other ["self"] (defScope s_Task_other) := ⟨rfl, rfl, rfl, by decide +kernel, rfl, by decide +kernel, by decide +kernel⟩
abbrev N_Task_same : List Str := ["self"]
theorem sc_Task_same : FnScope N_Task_same ["self"] (defScope s_Task_same) := ⟨rfl, rfl, rfl, by decide +kernel, rfl, by decide +kernel, by decide +kernel⟩
abbrev N_Task_takes : List Str := ["self"]
theorem sc_Task_takes : FnScope N_Task_takes ["self"] (defScope s_Task_takes) := ⟨rfl, rfl, rfl, by decide +kernel, rfl, by decide +kernel, by decide +kernel⟩
abbrev N_Task_forgets : List Str := ["self"]
theorem sc_Task_forgets : FnScope N_Task_forgets ["self"] (defScope s_Task_forgets) := ⟨rfl, rfl, rfl, by decide +kernel, rfl, by decide +kernel, by decide +kernel⟩
abbrev N_Task_likeness : List Str := ["self", "lists"]
theorem sc_Task_likeness : FnScope N_Task_likeness ["self"] (defScope s_Task_likeness) := ⟨rfl, rfl, rfl, by decide +kernel, rfl, by decide +kernel, by decide +kernel⟩
abbrev N_Task_eq : List Str := ["self", "other"]
theorem sc_Task_eq : FnScope N_Task_eq ["self", "other"] (defScope s_Task_eq) := ⟨rfl, rfl, rfl, by decide +kernel, rfl, by decide +kernel, by decide +kernel⟩
abbrev N_remembered_in : List Str := ["tasks", "task", "name"]
theorem sc_remembered_in : FnScope N_remembered_in ["tasks"] (defScope s_remembered_in) := ⟨rfl, rfl, rfl, by decide +kernel, rfl, by decide +kernel, by decide +kernel⟩
abbrev N_width_of : List Str := ["tasks", "found", "name", "numbers", "title", "task", "number"]
theorem sc_width_of : FnScope N_width_of ["tasks"] (defScope s_width_of) := ⟨rfl, rfl, rfl, by decide +kernel, rfl, by decide +kernel, by decide +kernel⟩
abbrev N_need_tasks : List Str := ["tasks"]
theorem sc_need_tasks : FnScope N_need_tasks ["tasks"] (defScope s_need_tasks) := ⟨rfl, rfl, rfl, by decide +kernel, rfl, by decide +kernel, by decide +kernel⟩
abbrev N_task_line : List Str := ["name", "task", "words", "lists", "title", "names"]
theorem sc_task_line : FnScope N_task_line ["name", "task"] (defScope s_task_line) := ⟨rfl, rfl, rfl, by decide +kernel, rfl, by decide +kernel, by decide +kernel⟩
abbrev N_is_ascending : List Str := ["words"]
theorem sc_is_ascending : FnScope N_is_ascending ["words"] (defScope s_is_ascending) := ⟨rfl, rfl, rfl, by decide +kernel, rfl, by decide +kernel, by decide +kernel⟩
abbrev N_sections : List Str := ["words", "word", "found", "last"]
theorem sc_sections : FnScope N_sections ["words"] (defScope s_sections) := ⟨rfl, rfl, rfl, by decide +kernel, rfl, by decide +kernel, by decide +kernel⟩
abbrev N_task_in : List Str := ["line", "words", "found", "lists", "task", "role", "many", "other", "same", "takes", "forgets", "title", "names"]
theorem sc_task_in : FnScope N_task_in ["line"] (defScope s_task_in) := ⟨rfl, rfl, rfl, by decide +kernel, rfl, by decide +kernel, by decide +kernel⟩
abbrev N_kind_in : List Str := ["line", "words"]
theorem sc_kind_in : FnScope N_kind_in ["line"] (defScope s_kind_in) := ⟨rfl, rfl, rfl, by decide +kernel, rfl, by decide +kernel, by decide +kernel⟩
abbrev N_count_in : List Str := ["plan", "part"]
theorem sc_count_in : FnScope N_count_in ["plan"] (defScope s_count_in) := ⟨rfl, rfl, rfl, by decide +kernel, rfl, by decide +kernel, by decide +kernel⟩
abbrev N_depth_in : List Str := ["plan", "part"]
theorem sc_depth_in : FnScope N_depth_in ["plan"] (defScope s_depth_in) := ⟨rfl, rfl, rfl, by decide +kernel, rfl, by decide +kernel, by decide +kernel⟩
abbrev N_plan_in : List Str := ["line", "is_bound", "plan"]
theorem sc_plan_in : FnScope N_plan_in ["line"] (defScope s_plan_in) := ⟨rfl, rfl, rfl, by decide +kernel, rfl, by decide +kernel, by decide +kernel⟩
abbrev N_is_bounded : List Str := ["tasks"]
theorem sc_is_bounded : FnScope N_is_bounded ["tasks"] (defScope s_is_bounded) := ⟨rfl, rfl, rfl, by decide +kernel, rfl, by decide +kernel, by decide +kernel⟩
abbrev N_is_next : List Str := ["names", "name", "other"]
theorem sc_is_next : FnScope N_is_next ["names", "name"] (defScope s_is_next) := ⟨rfl, rfl, rfl, by decide +kernel, rfl, by decide +kernel, by decide +kernel⟩
abbrev N_parts_of_book : List Str := ["lines", "kinds", "tasks", "index", "line", "kind", "task", "plan", "name"]
theorem sc_parts_of_book : FnScope N_parts_of_book ["lines"] (defScope s_parts_of_book) := ⟨rfl, rfl, rfl, by decide +kernel, rfl, by decide +kernel, by decide +kernel⟩
abbrev N_are_kinds : List Str := ["value", "kind"]
theorem sc_are_kinds : FnScope N_are_kinds ["value"] (defScope s_are_kinds) := ⟨rfl, rfl, rfl, by decide +kernel, rfl, by decide +kernel, by decide +kernel⟩
abbrev N_are_tasks : List Str := ["value", "name"]
theorem sc_are_tasks : FnScope N_are_tasks ["value"] (defScope s_are_tasks) := ⟨rfl, rfl, rfl, by decide +kernel, rfl, by decide +kernel, by decide +kernel⟩
abbrev N_count_names : List Str := ["plan", "part"]
theorem sc_count_names : FnScope N_count_names ["plan"] (defScope s_count_names) := ⟨rfl, rfl, rfl, by decide +kernel, rfl, by decide +kernel, by decide +kernel⟩
abbrev N_levels_of : List Str := ["plan", "part"]
theorem sc_levels_of : FnScope N_levels_of ["plan"] (defScope s_levels_of) := ⟨rfl, rfl, rfl, by decide +kernel, rfl, by decide +kernel, by decide +kernel⟩
abbrev N_plan_for : List Str := ["plan", "tasks", "found", "name"]
theorem sc_plan_for : FnScope N_plan_for ["plan", "tasks"] (defScope s_plan_for) := ⟨rfl, rfl, rfl, by decide +kernel, rfl, by decide +kernel, by decide +kernel⟩
abbrev N_in_order : List Str := ["pairs", "key"]
theorem sc_in_order : FnScope N_in_order ["pairs"] (defScope s_in_order) := ⟨rfl, rfl, rfl, by decide +kernel, rfl, by decide +kernel, by decide +kernel⟩
abbrev N_Book_init : List Str := ["self", "kinds", "tasks", "plan", "kind"]
theorem sc_Book_init : FnScope N_Book_init ["self", "kinds", "tasks", "plan"] (defScope s_Book_init) := ⟨rfl, rfl, rfl, by decide +kernel, rfl, by decide +kernel, by decide +kernel⟩
abbrev N_Book_read : List Str := ["cls", "text", "kinds", "tasks", "plan"]
theorem sc_Book_read : FnScope N_Book_read ["cls", "text"] (defScope s_Book_read) := ⟨rfl, rfl, rfl, by decide +kernel, rfl, by decide +kernel, by decide +kernel⟩
abbrev N_Book_kinds : List Str := ["self"]
theorem sc_Book_kinds : FnScope N_Book_kinds ["self"] (defScope s_Book_kinds) := ⟨rfl, rfl, rfl, by decide +kernel, rfl, by decide +kernel, by decide +kernel⟩
abbrev N_Book_names : List Str := ["self"]
theorem sc_Book_names : FnScope N_Book_names ["self"] (defScope s_Book_names) := ⟨rfl, rfl, rfl, by decide +kernel, rfl, by decide +kernel, by decide +kernel⟩
abbrev N_Book_remembered : List Str := ["self"]
theorem sc_Book_remembered : FnScope N_Book_remembered ["self"] (defScope s_Book_remembered) := ⟨rfl, rfl, rfl, by decide +kernel, rfl, by decide +kernel, by decide +kernel⟩
abbrev N_Book_width : List Str := ["self"]
theorem sc_Book_width : FnScope N_Book_width ["self"] (defScope s_Book_width) := ⟨rfl, rfl, rfl, by decide +kernel, rfl, by decide +kernel, by decide +kernel⟩
abbrev N_Book_plan : List Str := ["self"]
theorem sc_Book_plan : FnScope N_Book_plan ["self"] (defScope s_Book_plan) := ⟨rfl, rfl, rfl, by decide +kernel, rfl, by decide +kernel, by decide +kernel⟩
abbrev N_Book_plan_set : List Str := ["self", "plan"]
theorem sc_Book_plan_set : FnScope N_Book_plan_set ["self", "plan"] (defScope s_Book_plan_set) := ⟨rfl, rfl, rfl, by decide +kernel, rfl, by decide +kernel, by decide +kernel⟩
abbrev N_Book_set_plan : List Str := ["self", "plan"]
theorem sc_Book_set_plan : FnScope N_Book_set_plan ["self", "plan"] (defScope s_Book_set_plan) := ⟨rfl, rfl, rfl, by decide +kernel, rfl, by decide +kernel, by decide +kernel⟩
abbrev N_Book_take : List Str := ["self", "name"]
theorem sc_Book_take : FnScope N_Book_take ["self", "name"] (defScope s_Book_take) := ⟨rfl, rfl, rfl, by decide +kernel, rfl, by decide +kernel, by decide +kernel⟩
abbrev N_Book_copied : List Str := ["self"]
theorem sc_Book_copied : FnScope N_Book_copied ["self"] (defScope s_Book_copied) := ⟨rfl, rfl, rfl, by decide +kernel, rfl, by decide +kernel, by decide +kernel⟩
abbrev N_Book_text : List Str := ["self", "lines", "kind", "name"]
theorem sc_Book_text : FnScope N_Book_text ["self"] (defScope s_Book_text) := ⟨rfl, rfl, rfl, by decide +kernel, rfl, by decide +kernel, by decide +kernel⟩
abbrev N_Book_changed : List Str := ["self", "tasks", "found"]
theorem sc_Book_changed : FnScope N_Book_changed ["self", "tasks"] (defScope s_Book_changed) := ⟨rfl, rfl, rfl, by decide +kernel, rfl, by decide +kernel, by decide +kernel⟩
abbrev N_Book_iter : List Str := ["self"]
theorem sc_Book_iter : FnScope N_Book_iter ["self"] (defScope s_Book_iter) := ⟨rfl, rfl, rfl, by decide +kernel, rfl, by decide +kernel, by decide +kernel⟩
abbrev N_Book_len : List Str := ["self"]
theorem sc_Book_len : FnScope N_Book_len ["self"] (defScope s_Book_len) := ⟨rfl, rfl, rfl, by decide +kernel, rfl, by decide +kernel, by decide +kernel⟩
abbrev N_Book_contains : List Str := ["self", "value"]
theorem sc_Book_contains : FnScope N_Book_contains ["self", "value"] (defScope s_Book_contains) := ⟨rfl, rfl, rfl, by decide +kernel, rfl, by decide +kernel, by decide +kernel⟩
abbrev N_Book_getitem : List Str := ["self", "name"]
theorem sc_Book_getitem : FnScope N_Book_getitem ["self", "name"] (defScope s_Book_getitem) := ⟨rfl, rfl, rfl, by decide +kernel, rfl, by decide +kernel, by decide +kernel⟩
abbrev N_Book_setitem : List Str := ["self", "name", "task"]
theorem sc_Book_setitem : FnScope N_Book_setitem ["self", "name", "task"] (defScope s_Book_setitem) := ⟨rfl, rfl, rfl, by decide +kernel, rfl, by decide +kernel, by decide +kernel⟩
abbrev N_Book_ior : List Str := ["self", "tasks"]
theorem sc_Book_ior : FnScope N_Book_ior ["self", "tasks"] (defScope s_Book_ior) := ⟨rfl, rfl, rfl, by decide +kernel, rfl, by decide +kernel, by decide +kernel⟩
abbrev N_Book_add : List Str := ["self", "other"]
theorem sc_Book_add : FnScope N_Book_add ["self", "other"] (defScope s_Book_add) := ⟨rfl, rfl, rfl, by decide +kernel, rfl, by decide +kernel, by decide +kernel⟩
abbrev N_Book_or : List Str := ["self", "other"]
theorem sc_Book_or : FnScope N_Book_or ["self", "other"] (defScope s_Book_or) := ⟨rfl, rfl, rfl, by decide +kernel, rfl, by decide +kernel, by decide +kernel⟩
abbrev N_Book_eq : List Str := ["self", "other", "mine"]
theorem sc_Book_eq : FnScope N_Book_eq ["self", "other"] (defScope s_Book_eq) := ⟨rfl, rfl, rfl, by decide +kernel, rfl, by decide +kernel, by decide +kernel⟩
abbrev N_joined : List Str := ["word", "one", "other", "name"]
theorem sc_joined : FnScope N_joined ["word", "one", "other"] (defScope s_joined) := ⟨rfl, rfl, rfl, by decide +kernel, rfl, by decide +kernel, by decide +kernel⟩
abbrev N_law_pen : List Str := ["_law_script"]
theorem sc_law_pen : FnScope N_law_pen ["_law_script"] (defScope s_law_pen) := ⟨rfl, rfl, rfl, by decide +kernel, rfl, by decide +kernel, by decide +kernel⟩
abbrev N_law_draw : List Str := ["_law_pen_here", "_law_size", "_law_spot", "_law_cell", "_law_mixed", "_law_digit"]
theorem sc_law_draw : FnScope N_law_draw ["_law_pen_here", "_law_size"] (defScope s_law_draw) := ⟨rfl, rfl, rfl, by decide +kernel, rfl, by decide +kernel, by decide +kernel⟩
abbrev N_law_pick : List Str := ["_law_pen_here", "_law_items"]
theorem sc_law_pick : FnScope N_law_pick ["_law_pen_here", "_law_items"] (defScope s_law_pick) := ⟨rfl, rfl, rfl, by decide +kernel, rfl, by decide +kernel, by decide +kernel⟩
abbrev N_law_shuffled : List Str := ["_law_pen_here", "_law_items", "_law_left", "_law_found"]
theorem sc_law_shuffled : FnScope N_law_shuffled ["_law_pen_here", "_law_items"] (defScope s_law_shuffled) := ⟨rfl, rfl, rfl, by decide +kernel, rfl, by decide +kernel, by decide +kernel⟩
abbrev N_law_words : List Str := ["_law_pen_here", "_law_count_here", "_law_letters", "_law_stem", "_law_found", "_law_k", "_law_at", "_law_front", "_law_step", "_law_tail", "_law_word"]
theorem sc_law_words : FnScope N_law_words ["_law_pen_here", "_law_count_here"] (defScope s_law_words) := ⟨rfl, rfl, rfl, by decide +kernel, rfl, by decide +kernel, by decide +kernel⟩
abbrev N_law_any_value : List Str := ["_law_pen_here", "_law_some"]
theorem sc_law_any_value : FnScope N_law_any_value ["_law_pen_here"] (defScope s_law_any_value) := ⟨rfl, rfl, rfl, by decide +kernel, rfl, by decide +kernel, by decide +kernel⟩
abbrev N_law_task : List Str := ["_law_pen_here", "_law_names", "_law_roles", "_law_found", "_law_k", "_law_some"]
theorem sc_law_task : FnScope N_law_task ["_law_pen_here", "_law_names", "_law_roles"] (defScope s_law_task) := ⟨rfl, rfl, rfl, by decide +kernel, rfl, by decide +kernel, by decide +kernel⟩
abbrev N_law_made_task : List Str := ["_law_one", "_law_duty", "_law_size", "_law_first", "_law_second", "_law_third", "_law_fourth"]
theorem sc_law_made_task : FnScope N_law_made_task ["_law_one"] (defScope s_law_made_task) := ⟨rfl, rfl, rfl, by decide +kernel, rfl, by decide +kernel, by decide +kernel⟩
abbrev N_law_shown : List Str := ["_law_one"]
theorem sc_law_shown : FnScope N_law_shown ["_law_one"] (defScope s_law_shown) := ⟨rfl, rfl, rfl, by decide +kernel, rfl, by decide +kernel, by decide +kernel⟩
abbrev N_law_remembered : List Str := ["_law_tasks", "_law_found", "_law_name"]
theorem sc_law_remembered : FnScope N_law_remembered ["_law_tasks"] (defScope s_law_remembered) := ⟨rfl, rfl, rfl, by decide +kernel, rfl, by decide +kernel, by decide +kernel⟩
abbrev N_law_width : List Str := ["_law_tasks", "_law_found", "_law_name", "_law_sizes", "_law_title", "_law_size"]
theorem sc_law_width : FnScope N_law_width ["_law_tasks"] (defScope s_law_width) := ⟨rfl, rfl, rfl, by decide +kernel, rfl, by decide +kernel, by decide +kernel⟩
abbrev N_law_plan : List Str := ["_law_pen_here", "_law_names", "_law_deep", "_law_is_beside", "_law_lot", "_law_word", "_law_k"]
theorem sc_law_plan : FnScope N_law_plan ["_law_pen_here", "_law_names", "_law_deep", "_law_is_beside"] (defScope s_law_plan) := ⟨rfl, rfl, rfl, by decide +kernel, rfl, by decide +kernel, by decide +kernel⟩
abbrev N_law_normal : List Str := ["_law_plan_here", "_law_parts", "_law_flat", "_law_part"]
theorem sc_law_normal : FnScope N_law_normal ["_law_plan_here"] (defScope s_law_normal) := ⟨rfl, rfl, rfl, by decide +kernel, rfl, by decide +kernel, by decide +kernel⟩
abbrev N_law_count : List Str := ["_law_plan_here", "_law_part"]
theorem sc_law_count : FnScope N_law_count ["_law_plan_here"] (defScope s_law_count) := ⟨rfl, rfl, rfl, by decide +kernel, rfl, by decide +kernel, by decide +kernel⟩
abbrev N_law_book : List Str := ["_law_pen_here", "_law_word", "_law_title", "_law_plan_here", "_law_titles", "_law_tasks", "_law_kinds", "_law_later"]
theorem sc_law_book : FnScope N_law_book ["_law_pen_here"] (defScope s_law_book) := ⟨rfl, rfl, rfl, by decide +kernel, rfl, by decide +kernel, by decide +kernel⟩
abbrev N_law_item : List Str := ["_law_book_here", "_law_value", "e"]
theorem sc_law_item : FnScope N_law_item ["_law_book_here", "_law_value"] (defScope s_law_item) := ⟨rfl, rfl, rfl, by decide +kernel, rfl, by decide +kernel, by decide +kernel⟩
abbrev N_law : List Str := ["_law_script", "_law_pen_here", "_law_lap", "_law_given", "_law_duties", "_law_book_here", "_law_word", "_law_due", "_law_told", "_law_odd", "_law_is_in", "_law_kinds", "_law_tasks", "_law_plan_here", "_law_title"]
theorem sc_law : FnScope N_law ["_law_script"] (defScope s_law) := ⟨rfl, rfl, rfl, by decide +kernel, rfl, by decide +kernel, by decide +kernel⟩
/-! ### the pen -/
def penO (L : Addr) (spot rest : Int) : HO := .dK [(.inr ("cells" : Str), .ref L), (.inr ("spot" : Str), .int spot), (.inr ("rest" : Str), .int rest)]
def Pen (K : PySem.W.Frag) (G : Hp) (b : Nat) (o : HO) : Prop := ∃ (L : Addr) (spot rest : Int) (cells : List Int), o = penO L spot rest ∧ SqL K G L (cells.map V.int) ∧ cells.length ≤ 63 ∧ 0 ≤ spot ∧ spot ≤ b ∧ 0 ≤ rest
theorem Pen.up {K : PySem.W.Frag} {G G1 : Hp} {b : Nat} {o : HO} (s : Same G G1) (p : Pen K G b o) : Pen K G1 b o := by
  obtain ⟨L, sp, r, cs, e, h, x⟩ := p
  exact ⟨L, sp, r, cs, e, upL s h, x⟩
theorem Pen.mono {K : PySem.W.Frag} {G : Hp} {b c : Nat} {o : HO} (h : b ≤ c) (p : Pen K G b o) : Pen K G c o := by
  obtain ⟨L, sp, r, cs, e, h1, h2, h3, h4, h5⟩ := p
  exact ⟨L, sp, r, cs, e, h1, h2, h3, by omega, h5⟩
theorem k_cr : ¬ (Sum.inr ("cells" : Str) : Key) = Sum.inr ("rest" : Str) := by decide +kernel
theorem k_sr : ¬ (Sum.inr ("spot" : Str) : Key) = Sum.inr ("rest" : Str) := by decide +kernel
theorem k_cs : ¬ (Sum.inr ("cells" : Str) : Key) = Sum.inr ("spot" : Str) := by decide +kernel
theorem k_sc : ¬ (Sum.inr ("spot" : Str) : Key) = Sum.inr ("cells" : Str) := by decide +kernel
theorem k_rs : ¬ (Sum.inr ("rest" : Str) : Key) = Sum.inr ("spot" : Str) := by decide +kernel
theorem k_rc : ¬ (Sum.inr ("rest" : Str) : Key) = Sum.inr ("cells" : Str) := by decide +kernel
section
variable {L : Addr} {spot rest x : Int} {H : Hp} {P : Addr} {Q : VK} {G : Hp} {M : List (Addr × HO)} {R : Hp → Prop}
abbrev pk (L : Addr) (spot rest : Int) : List (Key × V) := [(.inr ("cells" : Str), .ref L), (.inr ("spot" : Str), .int spot), (.inr ("rest" : Str), .int rest)]
theorem v_cells : valV (pk L spot rest) (.inr ("cells" : Str)) = some (.ref L) := valV_pos rfl
theorem v_spot : valV (pk L spot rest) (.inr ("spot" : Str)) = some (.int spot) := by rw [valV_neg k_cs]; exact valV_pos rfl
theorem v_rest : valV (pk L spot rest) (.inr ("rest" : Str)) = some (.int rest) := by rw [valV_neg k_cr, valV_neg k_sr]; exact valV_pos rfl
theorem p_spot : putK (pk L spot rest) (.inr ("spot" : Str)) (.int x) = pk L x rest := by
  have e1 : ¬ Str.ofString "cells" = Str.ofString "spot" := by decide +kernel
  have e2 : ¬ Str.ofString "rest" = Str.ofString "spot" := by decide +kernel
  simp [putK, e1, e2]
theorem p_rest : putK (pk L spot rest) (.inr ("rest" : Str)) (.int x) = pk L spot x := by
  have e1 : ¬ Str.ofString "cells" = Str.ofString "rest" := by decide +kernel
  have e2 : ¬ Str.ofString "spot" = Str.ofString "rest" := by decide +kernel
  simp [putK, e1, e2]
def DgW (x y : V) (H : Hp) (Q : VK) : Prop := ∃ a v, x = V.ref a ∧ DGet H a y (some v) ∧ Q v H
def DpW (x y v : V) (H : Hp) (R : Hp → Prop) : Prop := ∃ a H4, x = V.ref a ∧ DPut H a y v H4 ∧ R H4
theorem z_dg {ta tb : TE} {σ : L2.St} (h : ta σ H fun x H1 => tb σ H1 fun y H2 => DgW x y H2 Q) : tDGet ta tb σ H Q := h
theorem g_cells (z : Zp G ((P, penO L spot rest) :: M) H) (q : Q (.ref L) H) : DgW (.ref P) (.str ("cells" : Str)) H Q :=
  ⟨P, _, rfl, by have := DGet.k (k := .inr ("cells" : Str)) (z.at_ 0 rfl); rw [v_cells] at this; exact this, q⟩
theorem g_spot (z : Zp G ((P, penO L spot rest) :: M) H) (q : Q (.int spot) H) : DgW (.ref P) (.str ("spot" : Str)) H Q :=
  ⟨P, _, rfl, by have := DGet.k (k := .inr ("spot" : Str)) (z.at_ 0 rfl); rw [v_spot] at this; exact this, q⟩
theorem g_rest (z : Zp G ((P, penO L spot rest) :: M) H) (q : Q (.int rest) H) : DgW (.ref P) (.str ("rest" : Str)) H Q :=
  ⟨P, _, rfl, by have := DGet.k (k := .inr ("rest" : Str)) (z.at_ 0 rfl); rw [v_rest] at this; exact this, q⟩
theorem s_spot (z : Zp G ((P, penO L spot rest) :: M) H) (q : ∀ H1, Zp G ((P, penO L x rest) :: M) H1 → R H1) : DpW (.ref P) (.str ("spot" : Str)) (.int x) H R :=
  ⟨P, _, rfl, DPut.k (k := .inr ("spot" : Str)) (z.at_ 0 rfl) (by show 3 < sizeLine; decide), by rw [p_spot]; exact q _ (z.put 0 rfl _)⟩
theorem s_rest (z : Zp G ((P, penO L spot rest) :: M) H) (q : ∀ H1, Zp G ((P, penO L spot x) :: M) H1 → R H1) : DpW (.ref P) (.str ("rest" : Str)) (.int x) H R :=
  ⟨P, _, rfl, DPut.k (k := .inr ("rest" : Str)) (z.at_ 0 rfl) (by show 3 < sizeLine; decide), by rw [p_rest]; exact q _ (z.put 0 rfl _)⟩
theorem m_penput {D : Ends} {td ty tv : TE} {σ : L2.St} (h : tv σ H fun v H1 => td σ H1 fun x H2 => ty σ H2 fun y H3 => DpW x y v H3 (D.nx σ)) : sDPut td ty tv D σ H := h
end
end LW
open PySem PySem.Spec PyProof.Rows L2 Ys LW
local macro_rules | `(tactic| walk_at "z") => `(tactic| first
  | with_reducible refine z_seq ?_
  | with_reducible refine z_asg ?_
  | with_reducible refine z_name ?_
  | ((with_reducible apply z_var); (focus rfl))
  | with_reducible refine z_c ?_
  | with_reducible refine z_op ?_
  | with_reducible refine z_cons ?_
  | with_reducible refine z_nil ?_
  | with_reducible refine z_cb ?_
  | with_reducible refine z_call ?_
  | with_reducible refine z_ifS ?_
  | with_reducible refine z_ret ?_
  | with_reducible refine z_test ?_
  | with_reducible refine z_isB ?_
  | with_reducible refine z_tup ?_
  | with_reducible refine z_lst ?_
  | with_reducible refine z_I0 ?_
  | with_reducible refine z_addI ?_
  | with_reducible refine z_int ?_
  | with_reducible refine z_bT ?_
  | with_reducible refine z_bF ?_
  | with_reducible refine z_bN ?_
  | with_reducible refine z_and ?_
  | with_reducible refine z_or ?_
  | with_reducible refine z_not ?_
  | with_reducible refine z_if ?_
  | with_reducible refine z_andV ?_
  | with_reducible refine z_orV ?_
  | with_reducible refine z_notV ?_
  | with_reducible refine z_sl ?_
  | with_reducible refine z_np ?_
  | with_reducible refine z_part ?_
  | with_reducible refine z_isP ?_
  | with_reducible refine z_drop ?_
  | with_reducible refine z_next ?_
  | with_reducible refine z_retN ?_
  | with_reducible refine z_tB ?_
  | with_reducible refine z_bm ?_
  | with_reducible refine z_bm0 ?_
  | with_reducible refine z_m1 ?_
  | with_reducible refine z_isS ?_
  | with_reducible refine z_for ?_
  | with_reducible refine z_lc ?_
  | with_reducible refine z_yes ?_
  | with_reducible refine z_iL ?_
  | with_reducible refine z_iT ?_
  | with_reducible refine z_iS ?_
  | with_reducible refine z_iR ?_
  | with_reducible refine z_gcons ?_
  | with_reducible refine z_gnil ?_
  | with_reducible refine z_pr ?_
  | with_reducible refine z_pr2 ?_
  | with_reducible refine z_un ?_
  | with_reducible refine z_prop ?_
  | with_reducible refine z_mt ?_
  | with_reducible refine z_mk ?_
  | with_reducible refine z_fl ?_
  | with_reducible refine z_fs ?_
  | with_reducible refine z_chain ?_
  | with_reducible refine z_rs ?_
  | with_reducible refine z_mkS ?_
  | with_reducible refine z_gsub ?_
  | with_reducible refine z_iR2 ?_
  | with_reducible refine z_pc ?_
  | with_reducible refine z_pn ?_
  | with_reducible refine z_dg ?_
  | with_reducible refine z_star ?_
  | with_reducible refine z_callS ?_
  | with_reducible refine z_ownK ?_
  | with_reducible refine z_mtS ?_
  | with_reducible refine z_fa ?_
  | with_reducible refine z_frz ?_
  | with_reducible refine z_iK ?_
  | with_reducible refine z_iV ?_
  | with_reducible refine z_iI ?_
  | with_reducible refine z_din ?_
  | with_reducible refine z_dnin ?_
  | with_reducible refine z_dc ?_
  | with_reducible refine z_lc2 ?_
  | with_reducible refine m_penput ?_
  | with_reducible refine g_rest (by assumption) ?_
  | with_reducible refine g_spot (by assumption) ?_
  | with_reducible refine g_cells (by assumption) ?_
  | with_reducible refine s_spot (by assumption) ?_
  | with_reducible refine s_rest (by assumption) ?_)
local macro_rules | `(tactic| walk_at "y") => `(tactic| first
  | with_reducible refine z_asg ?_
  | with_reducible refine z_name ?_
  | ((with_reducible apply z_var); (focus rfl))
  | with_reducible refine z_c ?_
  | with_reducible refine z_op ?_
  | with_reducible refine z_cons ?_
  | with_reducible refine z_nil ?_
  | with_reducible refine z_cb ?_
  | with_reducible refine z_call ?_
  | with_reducible refine z_ifS ?_
  | with_reducible refine z_ret ?_
  | with_reducible refine z_test ?_
  | with_reducible refine z_isB ?_
  | with_reducible refine z_tup ?_
  | with_reducible refine z_lst ?_
  | with_reducible refine z_I0 ?_
  | with_reducible refine z_addI ?_
  | with_reducible refine z_int ?_
  | with_reducible refine z_bT ?_
  | with_reducible refine z_bF ?_
  | with_reducible refine z_bN ?_
  | with_reducible refine z_and ?_
  | with_reducible refine z_or ?_
  | with_reducible refine z_not ?_
  | with_reducible refine z_if ?_
  | with_reducible refine z_andV ?_
  | with_reducible refine z_orV ?_
  | with_reducible refine z_notV ?_
  | with_reducible refine z_sl ?_
  | with_reducible refine z_np ?_
  | with_reducible refine z_part ?_
  | with_reducible refine z_isP ?_
  | with_reducible refine z_drop ?_
  | with_reducible refine z_next ?_
  | with_reducible refine z_retN ?_
  | with_reducible refine z_tB ?_
  | with_reducible refine z_bm ?_
  | with_reducible refine z_bm0 ?_
  | with_reducible refine z_m1 ?_
  | with_reducible refine z_isS ?_
  | with_reducible refine z_for ?_
  | with_reducible refine z_lc ?_
  | with_reducible refine z_yes ?_
  | with_reducible refine z_iL ?_
  | with_reducible refine z_iT ?_
  | with_reducible refine z_iS ?_
  | with_reducible refine z_iR ?_
  | with_reducible refine z_gcons ?_
  | with_reducible refine z_gnil ?_
  | with_reducible refine z_pr ?_
  | with_reducible refine z_pr2 ?_
  | with_reducible refine z_un ?_
  | with_reducible refine z_prop ?_
  | with_reducible refine z_mt ?_
  | with_reducible refine z_mk ?_
  | with_reducible refine z_fl ?_
  | with_reducible refine z_fs ?_
  | with_reducible refine z_chain ?_
  | with_reducible refine z_rs ?_
  | with_reducible refine z_mkS ?_
  | with_reducible refine z_gsub ?_
  | with_reducible refine z_iR2 ?_
  | with_reducible refine z_pc ?_
  | with_reducible refine z_pn ?_
  | with_reducible refine z_dg ?_
  | with_reducible refine z_star ?_
  | with_reducible refine z_callS ?_
  | with_reducible refine z_ownK ?_
  | with_reducible refine z_mtS ?_
  | with_reducible refine z_fa ?_
  | with_reducible refine z_frz ?_
  | with_reducible refine z_iK ?_
  | with_reducible refine z_iV ?_
  | with_reducible refine z_iI ?_
  | with_reducible refine z_din ?_
  | with_reducible refine z_dnin ?_
  | with_reducible refine z_dc ?_
  | with_reducible refine z_lc2 ?_
  | with_reducible refine m_penput ?_
  | with_reducible refine g_rest (by assumption) ?_
  | with_reducible refine g_spot (by assumption) ?_
  | with_reducible refine g_cells (by assumption) ?_
  | with_reducible refine s_spot (by assumption) ?_
  | with_reducible refine s_rest (by assumption) ?_)
namespace LW
open PySem PySem.Spec PyProof.Rows L2 Ys

theorem can_ints : ∀ cells : List Int, PyData.canLayAll0 (cells.map PyData.int) = true
  | [] => rfl
  | c :: cs => by
    show (PyData.canLay0 (.int c) && PyData.canLayAll0 (cs.map PyData.int)) = true
    rw [can_ints cs]
    rfl
theorem dep_ints : ∀ cells : List Int, PyData.depthAll (cells.map PyData.int) ≤ 1
  | [] => by decide
  | c :: cs => by
    show max (PyData.depth (.int c)) (PyData.depthAll (cs.map PyData.int)) ≤ 1
    have := dep_ints cs
    have e : PyData.depth (.int c) = 0 := rfl
    omega
theorem sh_ints (cells : List Int) : SeqAt.shaped (.list (cells.map PyData.int)) = true := by
  unfold SeqAt.shaped
  have e : PyData.canLay0 (.list (cells.map PyData.int)) = true := can_ints cells
  have d : PyData.depth (.list (cells.map PyData.int)) = PyData.depthAll (cells.map PyData.int) + 1 := rfl
  rw [e, d]
  have := dep_ints cells
  simp
  omega
theorem cells_eq (cells : List Int) : PyData.eqv (.list (cells.map PyData.int)) (.list []) = decide (cells = []) := by
  cases cells with
  | nil => rfl
  | cons c cs => rfl
section
variable {P : Program} {w : World} {K : PySem.W.Frag} {mg : Str → Option Value} {base : Heap} {f : Addr} {fd : FuncData}
def spDraw (K : PySem.W.Frag) : Sp := fun vs H Q _ => ∃ p o G M b n, vs = [.ref p, .int n] ∧ Zp G ((p, o) :: M) H ∧ Pen K G b o ∧ b ≤ 1000000000000 ∧ 0 < n ∧ n ≤ 1000000000 ∧
  ∀ r G1 H1 o1, Zp G1 ((p, o1) :: M) H1 → Same G G1 → Pen K G1 (b + 1) o1 → 0 ≤ r → r < n → Q (.int r) H1
theorem ok_draw (T : Nm K mg) (F : FnP K "_law_draw" s_law_draw f fd) : FnOk P w K mg base CX0 1 f fd ["_law_pen_here", "_law_size"] (spDraw K) := by
  have nd : N_law_draw.Nodup := sc_law_draw.nd
  refine F.ok sc_law_draw (fun vs H Q E h => ?_) (fun cdv A outer s H vs Q E hr h => ?_)
  · obtain ⟨p, o, G, M, b, n, rfl, _⟩ := h
    rfl
  have hu := hr.units
  refine ⟨_, PSs.nox   (pss_cons (ps_if (pt_cmpR o_ge (pe_dget (hu_of hr) (pv 0) pe_str (fun _ _ => rfl)) (pv 1) (nomark _)) (pss_cons (ps_asg (pe_op o_mod (pe_callTy c_int (by rfl) T.b_int boot_int (pa_cons (pe_dget (hu_of hr) (pv 0) pe_str (fun _ _ => rfl)) pa_nil)) (pv 1)) (pg_name (i := 5) nd rfl (by first | exact .inl rfl | exact .inr rfl)))
    (pss_cons (ps_dput (hu_of hr) (pv 0) pe_str (pe_op o_div (pe_dget (hu_of hr) (pv 0) pe_str (fun _ _ => rfl)) (pv 1)) rfl)
    (pss_one (ps_ret (pv 5))))) pss_nil)
    (pss_cons (ps_asg (pe_dget (hu_of hr) (pv 0) pe_str (fun _ _ => rfl)) (pg_name (i := 2) nd rfl (by first | exact .inl rfl | exact .inr rfl)))
    (pss_cons (ps_dput (hu_of hr) (pv 0) pe_str (pe_op op_addG (pv 2) pe_int) rfl)
    (pss_cons (ps_asg (pe_op op_addG (pe_op o_mul pe_int (pv 2)) pe_int) (pg_name (i := 3) nd rfl (by first | exact .inl rfl | exact .inr rfl)))
    (pss_cons (ps_if (pt_cmpR (op_neG hu) (pe_dget (hu_of hr) (pv 0) pe_str (fun _ _ => rfl)) (pe_lst pa_nil) (nomark _)) (pss_one (ps_asg (pe_ix ix_seq (pe_dget (hu_of hr) (pv 0) pe_str (fun _ _ => rfl)) (pe_op o_mod (pe_callTy c_int (by rfl) T.b_int boot_int (pa_cons (pv 2) pa_nil)) (pe_callB c_len (by rfl) T.b_len PySem.boot_len (pa_cons (pe_dget (hu_of hr) (pv 0) pe_str (fun _ _ => rfl)) pa_nil))) (fun _ _ => rfl)) (pg_name (i := 3) nd rfl (by first | exact .inl rfl | exact .inr rfl)))) pss_nil)
    (pss_cons (ps_if (PW.pt (pw_and (pt_cmpR o_lt (pv 2) (pe_callB c_len (by rfl) T.b_len PySem.boot_len (pa_cons (pe_dget (hu_of hr) (pv 0) pe_str (fun _ _ => rfl)) pa_nil)) (nomark _)) (pw_and1 (pt_cmpR o_ge (pv 3) (pe_op o_pow pe_int pe_int) (nomark _))))) (pss_cons (ps_dput (hu_of hr) (pv 0) pe_str (pe_op o_div (pe_op o_sub (pv 3) (pe_op o_pow pe_int pe_int)) (pv 1)) rfl)
    (pss_one (ps_ret (pe_op o_mod (pe_callTy c_int (by rfl) T.b_int boot_int (pa_cons (pe_op o_sub (pv 3) (pe_op o_pow pe_int pe_int)) pa_nil)) (pv 1))))) pss_nil)
    (pss_cons (ps_asg (pe_op o_mul (pe_op o_mod (pe_callTy c_int (by rfl) T.b_int boot_int (pa_cons (pv 3) pa_nil)) pe_int) pe_int) (pg_name (i := 4) nd rfl (by first | exact .inl rfl | exact .inr rfl)))
    (pss_cons (ps_asg (pe_op o_mod (pe_callTy c_int (by rfl) T.b_int boot_int (pa_cons (pe_op op_addG (pe_op op_addG (pe_op op_addG (pv 4) (pe_op o_mul (pe_op o_mul pe_int (pv 2)) (pv 2))) (pe_op o_mul pe_int (pv 2))) pe_int) pa_nil)) pe_int) (pg_name (i := 4) nd rfl (by first | exact .inl rfl | exact .inr rfl)))
    (pss_cons (ps_asg (pe_op o_mod (pe_callTy c_int (by rfl) T.b_int boot_int (pa_cons (pe_op o_mul (pv 4) (pe_op op_addG (pv 4) pe_int)) pa_nil)) pe_int) (pg_name (i := 4) nd rfl (by first | exact .inl rfl | exact .inr rfl)))
    (pss_one (ps_ret (pe_op o_mod (pe_callTy c_int (by rfl) T.b_int boot_int (pa_cons (pe_op o_div (pe_op o_mod (pe_callTy c_int (by rfl) T.b_int boot_int (pa_cons (pe_op op_addG (pe_op o_mul (pv 4) (pv 4)) (pe_op o_mul pe_int (pv 4))) pa_nil)) pe_int) pe_int) pa_nil)) (pv 1))))))))))))), ?_⟩
  obtain ⟨p, o, G, M, b, n, rfl, z, ⟨L, spot, rest, cells, rfl, hL, hc, h0, hb, hr0⟩, hb2, n0, n1, q⟩ := h
  repeat (walk_at "z")
  refine z_bd (fun hrn => ?_) (fun hrn => ?_)
  · repeat (walk_at "z")
    refine z_I n0 ?_
    repeat (walk_at "z")
    refine z_I (dw n0 n1) ?_
    repeat (walk_at "z")
    intro H1 z1
    repeat (walk_at "z")
    refine q _ G H1 _ z1 (Same.refl G) ⟨L, spot, rest / n, cells, rfl, hL, hc, h0, by omega, Int.ediv_nonneg hr0 (by omega)⟩ (Int.emod_nonneg _ (by omega)) (Int.emod_lt_of_pos _ n0)
  · repeat (walk_at "z")
    intro H1 z1
    repeat (walk_at "z")
    refine z_I (mw (by omega) (by omega) (by omega) (by omega)) ?_
    repeat (walk_at "y")
    with_reducible refine z_cut (fun σ H => ∃ cell G3, Zp G3 ((p, penO L (spot + 1) rest) :: M) H ∧ Same G G3 ∧ σ = [some (.ref p), some (.int n), some (.int spot), some (.int cell), none, none]) (fun nx hnx => ?_) (fun σ H2 h2 => ?_)
    · repeat (walk_at "z")
      refine z_newL z1 (by decide) fun p2 G2 H2 z2 s2 e2 => ?_
      have hL2 := upL s2 hL
      refine z_neD (d := .list (cells.map PyData.int)) (e := .list []) z2 (.lst hL2 (dts_int cells)) (.lst (SqL.of e2) .nil) (sh_ints _) rfl ?_
      repeat (walk_at "z")
      rw [cells_eq]
      refine z_bd (fun c => ?_) (fun c => ?_)
      · refine z_next (hnx _ _ ⟨_, _, z2, s2, rfl⟩)
      · have c0 : 0 < cells.length := by cases cells with | nil => exact absurd rfl c | cons _ _ => exact Nat.succ_pos _
        repeat (walk_at "z")
        refine z_lenL z2 hL2 ?_
        rw [List.length_map]
        refine z_I (by omega) ?_
        have hm := Int.emod_lt_of_pos spot (show (0 : Int) < cells.length by omega)
        have hm0 := Int.emod_nonneg spot (show (cells.length : Int) ≠ 0 by omega)
        obtain ⟨k, hk⟩ := Int.eq_ofNat_of_zero_le hm0
        refine z_ixL z2 hL2 (v := .int (cells.getD k 0)) ?_ ?_
        · rw [hk]
          refine atI_nat ?_
          have : k < cells.length := by omega
          simp [List.getD, this]
        repeat (walk_at "z")
        exact hnx _ _ ⟨_, _, z2, s2, rfl⟩
    obtain ⟨cell, G3, z3, s3, rfl⟩ := h2
    have hL3 := upL s3 hL
    have e18 : (10 : Int) ^ (18 : Int).toNat = 1000000000000000000 := by decide +kernel
    with_reducible refine z_cut (fun σ H => H = H2 ∧ σ = [some (.ref p), some (.int n), some (.int spot), some (.int cell), none, none]) (fun nx hnx => ?_) (fun σ H3 h3 => ?_)
    · repeat (walk_at "z")
      refine z_lenL z3 hL3 ?_
      repeat (walk_at "z")
      refine z_b2 (fun c1 => ?_) (fun c1 => ?_)
      · repeat (walk_at "z")
        refine z_I ⟨by decide, by decide, by decide⟩ ?_
        repeat (walk_at "z")
        rw [e18]
        refine z_bd (fun c2 => ?_) (fun c2 => ?_)
        · repeat (walk_at "z")
          refine z_I ⟨by decide, by decide, by decide⟩ ?_
          repeat (walk_at "z")
          rw [e18]
          refine z_I (dw n0 n1) ?_
          repeat (walk_at "z")
          intro H4 z4
          repeat (walk_at "z")
          refine z_I ⟨by decide, by decide, by decide⟩ ?_
          repeat (walk_at "z")
          refine z_I n0 ?_
          exact q _ G3 H4 _ z4 s3 ⟨L, spot + 1, _, cells, rfl, hL3, hc, by omega, by omega, Int.ediv_nonneg (by omega) (by omega)⟩ (Int.emod_nonneg _ (by omega)) (Int.emod_lt_of_pos _ n0)
        · exact hnx _ _ ⟨rfl, rfl⟩
      · repeat (walk_at "z")
        exact hnx _ _ ⟨rfl, rfl⟩
    obtain ⟨rfl, rfl⟩ := h3
    repeat (walk_at "z")
    refine z_I (by decide) ?_
    repeat (walk_at "z")
    refine z_I (mw (by omega) (by omega) (by omega) (by omega)) ?_
    repeat (walk_at "z")
    have h1 := Int.emod_nonneg cell (show (2147483353 : Int) ≠ 0 by decide)
    have h2 := Int.emod_lt_of_pos cell (show (0 : Int) < 2147483353 by decide)
    refine z_I (mw (by omega) (by omega) (by omega) (by omega)) ?_
    repeat (walk_at "z")
    refine z_I (wide_mul (a := 64) (b := 64) (by omega) (by omega) (by decide) (by decide) (by decide)) ?_
    repeat (walk_at "z")
    refine z_I (mw (by omega) (by omega) (by omega) (by omega)) ?_
    repeat (walk_at "z")
    refine z_I (by decide) ?_
    repeat (walk_at "z")
    generalize hm1 : (cell % 2147483353 * 40127 + 52433 * spot * spot + 101 * spot + 31) % 2147483399 = m1
    have a1 : 0 ≤ m1 := by rw [← hm1]; exact Int.emod_nonneg _ (by decide)
    have a2 : m1 < 2147483399 := by rw [← hm1]; exact Int.emod_lt_of_pos _ (by decide)
    refine z_I (mw (by omega) (by omega) (by omega) (by omega)) ?_
    repeat (walk_at "z")
    refine z_I (by decide) ?_
    repeat (walk_at "z")
    generalize hm2 : m1 * (m1 + 70009) % 2147483423 = m2
    have b1 : 0 ≤ m2 := by rw [← hm2]; exact Int.emod_nonneg _ (by decide)
    have b2 : m2 < 2147483423 := by rw [← hm2]; exact Int.emod_lt_of_pos _ (by decide)
    refine z_I (mw (by omega) (by omega) (by omega) (by omega)) ?_
    repeat (walk_at "z")
    refine z_I (mw (by omega) (by omega) (by omega) (by omega)) ?_
    repeat (walk_at "z")
    refine z_I (by decide) ?_
    repeat (walk_at "z")
    refine z_I (dw (by decide) (by decide)) ?_
    repeat (walk_at "z")
    refine z_I n0 ?_
    exact q _ G3 _ _ z3 s3 ⟨L, spot + 1, _, cells, rfl, hL3, hc, by omega, by omega, hr0⟩ (Int.emod_nonneg _ (by omega)) (Int.emod_lt_of_pos _ n0)
end
end LW
namespace LW
open PySem PySem.Spec PyProof.Rows L2 Ys

section
variable {P : Program} {w : World} {K : PySem.W.Frag} {mg : Str → Option Value} {base : Heap} {f : Addr} {fd : FuncData}
def spPen (K : PySem.W.Frag) : Sp := fun vs H Q _ => ∃ (a : Addr) (G : Hp) (ns : List Int), vs = [.ref a] ∧ Zp G [] H ∧ SqL K G a (ns.map V.int) ∧
  ∀ p G1 H1 o1, Zp G1 [(p, o1)] H1 → Same G G1 → Pen K G1 0 o1 → Q (.ref p) H1
theorem ok_pen (T : Nm K mg) (F : FnP K "_law_pen" s_law_pen f fd) : FnOk P w K mg base CX0 1 f fd ["_law_script"] (spPen K) := by
  have nd : N_law_pen.Nodup := sc_law_pen.nd
  refine F.ok sc_law_pen (fun vs H Q E h => ?_) (fun cdv A outer s H vs Q E hr h => ?_)
  · obtain ⟨a, G, ns, rfl, _⟩ := h
    rfl
  have hu := hr.units
  refine ⟨_, PSs.nox   (pss_one (ps_ret (pe_disp (pps_cons pe_str (pe_callTy (kc_list (K := K)) (by rfl) T.b_list boot_list (pa_cons (pe_slice (k_sl (K := K)) (pv 0) po_none (po_some pe_int)) pa_nil)) (pps_cons pe_str pe_int (pps_cons pe_str pe_int pps_nil))) (by rfl) (by rfl) (fun z => by cases z) (by decide)))), ?_⟩
  obtain ⟨a, G, ns, rfl, z, hS, q⟩ := h
  repeat (walk_at "z")
  refine z_disp z fun p H1 z1 => ?_
  repeat (walk_at "z")
  refine z_slL z1 hS fun a2 G2 H2 z2 s2 e2 => ?_
  rw [cut_map] at e2
  repeat (walk_at "z")
  refine z_listG z2 (.inl (SqL.of e2)) fun a3 G3 H3 z3 s3 e3 => ?_
  repeat (walk_at "z")
  refine z_dispE (M := []) z3 [(.inr ("cells" : Str), .ref a3), (.inr ("spot" : Str), .int 0), (.inr ("rest" : Str), .int 0)] rfl (by show 3 ≤ 15; decide) fun H4 z4 => ?_
  refine q p G3 H4 _ z4 (s2.trans s3) ⟨a3, 0, 0, _, ?_, SqL.of e3, ?_, by decide, by decide, by decide⟩
  · have e1 : ¬ Str.ofString "cells" = Str.ofString "rest" := by decide +kernel
    have e2 : ¬ Str.ofString "spot" = Str.ofString "rest" := by decide +kernel
    have e3 : ¬ Str.ofString "cells" = Str.ofString "spot" := by decide +kernel
    simp [mergeK, putK, e1, e2, e3, penO]
  · rw [List.length_take]
    have : HT.sIx ns.length ns.length (some 63) = min 63 ns.length := HT.sIx_nat ns.length ns.length 63
    rw [this]
    omega
def spPick (K : PySem.W.Frag) : Sp := fun vs H Q _ => ∃ p o G M b x, vs = [.ref p, x] ∧ Zp G ((p, o) :: M) H ∧ Pen K G b o ∧ b ≤ 1000000000000 ∧
  ((∃ a xs, x = .ref a ∧ (SqL K G a xs ∨ SqT K G a xs) ∧ xs ≠ [] ∧ xs.length ≤ 100000 ∧ ∀ v G1 H1 o1, v ∈ xs → Zp G1 ((p, o1) :: M) H1 → Same G G1 → Pen K G1 (b + 1) o1 → Q v H1) ∨
   (∃ s : Str, x = .str s ∧ 0 < s.length ∧ s.length ≤ 100000 ∧ ∀ ch G1 H1 o1, ch ∈ s.cps.toList → Zp G1 ((p, o1) :: M) H1 → Same G G1 → Pen K G1 (b + 1) o1 → Q (.str ⟨#[ch]⟩) H1))
theorem ok_pick (T : Nm K mg) (C_law_draw : Own P w K mg base CX0 1 "_law_draw" ["_law_pen_here", "_law_size"] (spDraw K)) (F : FnP K "_law_pick" s_law_pick f fd) : FnOk P w K mg base CX0 2 f fd ["_law_pen_here", "_law_items"] (spPick K) := by
  have nd : N_law_pick.Nodup := sc_law_pick.nd
  refine F.ok sc_law_pick (fun vs H Q E h => ?_) (fun cdv A outer s H vs Q E hr h => ?_)
  · obtain ⟨p, o, G, M, b, x, rfl, _⟩ := h
    rfl
  have hu := hr.units
  refine ⟨_, PSs.nox   (pss_one (ps_ret (pe_ix (k_ix (K := K)) (pv 1) (pe_own C_law_draw (hr.mono (by omega)) (by rfl) pass0 (pa_cons (pv 0) (pa_cons (pe_callB (kc_len (K := K) (P := P) (w := w)) (by rfl) T.b_len PySem.boot_len (pa_cons (pv 1) pa_nil)) pa_nil))) (fun _ _ => rfl)))), ?_⟩
  obtain ⟨p, o, G, M, b, x, rfl, z, hp, hb, h⟩ := h
  repeat (walk_at "z")
  rcases h with ⟨a, xs, rfl, hS, h0, h1, q⟩ | ⟨t, rfl, h0, h1, q⟩
  · have h00 : 0 < xs.length := by cases xs with | nil => exact absurd rfl h0 | cons _ _ => exact Nat.succ_pos _
    rcases hS with hS | hS
    · refine z_lenL z hS ?_
      repeat (walk_at "z")
      refine ⟨p, o, G, M, b, _, rfl, z, hp, hb, by omega, by omega, fun r G1 H1 o1 z1 s1 hp1 r0 r1 => ?_⟩
      obtain ⟨v, hv, e⟩ := at_in r0 r1
      exact z_ixL z1 (upL s1 hS) e (q v G1 H1 o1 hv z1 s1 hp1)
    · refine z_lenT z hS ?_
      repeat (walk_at "z")
      refine ⟨p, o, G, M, b, _, rfl, z, hp, hb, by omega, by omega, fun r G1 H1 o1 z1 s1 hp1 r0 r1 => ?_⟩
      obtain ⟨v, hv, e⟩ := at_in r0 r1
      exact z_ixT z1 (upT s1 hS) e (q v G1 H1 o1 hv z1 s1 hp1)
  · refine z_lenS h1 ?_
    repeat (walk_at "z")
    refine ⟨p, o, G, M, b, _, rfl, z, hp, hb, by omega, by omega, fun r G1 H1 o1 z1 s1 hp1 r0 r1 => ?_⟩
    obtain ⟨v, hv, e⟩ := at_in (xs := t.cps.toList) r0 (by rw [Array.length_toList]; exact r1)
    exact z_ixS h1 e (q v G1 H1 o1 hv z1 s1 hp1)
end
end LW
namespace LW
open PySem PySem.Spec PyProof.Rows L2 Ys

section
variable {P : Program} {w : World} {K : PySem.W.Frag} {mg : Str → Option Value} {base : Heap} {f : Addr} {fd : FuncData}
def spShuf (K : PySem.W.Frag) : Sp := fun vs H Q _ => ∃ p o G M b a, ∃ xs : List V, vs = [.ref p, .ref a] ∧ Zp G ((p, o) :: M) H ∧ Pen K G b o ∧ b + xs.length ≤ 1000000000000 ∧ (SqL K G a xs ∨ SqT K G a xs) ∧ (∀ v ∈ xs, El K G v) ∧ xs.length ≤ 1000 ∧
  ∀ l ys G1 H1 o1, Zp G1 ((p, o1) :: (l, .lst ys) :: M) H1 → Same G G1 → Pen K G1 (b + xs.length) o1 → ys.Perm xs → Q (.ref l) H1
theorem ok_shuf (T : Nm K mg) (C_law_draw : Own P w K mg base CX0 1 "_law_draw" ["_law_pen_here", "_law_size"] (spDraw K)) (F : FnP K "_law_shuffled" s_law_shuffled f fd) : FnOk P w K mg base CX0 2 f fd ["_law_pen_here", "_law_items"] (spShuf K) := by
  have nd : N_law_shuffled.Nodup := sc_law_shuffled.nd
  refine F.ok sc_law_shuffled (fun vs H Q E h => ?_) (fun cdv A outer s H vs Q E hr h => ?_)
  · obtain ⟨p, o, G, M, b, x, xs, rfl, _⟩ := h
    rfl
  have hu := hr.units
  refine ⟨_, PSs.nox   (pss_cons (ps_par (i := 2) (j := 3) (by rfl) nd rfl rfl (by decide) rfl rfl (pa_cons (pe_callTy (kc_list (K := K)) (by rfl) T.b_list boot_list (pa_cons (pv 1) pa_nil)) (pa_cons (pe_lst pa_nil) pa_nil)) (by rfl))
    (pss_cons (ps_while PassesOwn.never (pt_cmpR (k_ne (K := K) hu) (pv 2) (pe_lst pa_nil) (nomark _)) (pss_one (ps_expr (pe_bm PySem.F.plainAttrs_list PySem.F.slot_list_append PySem.F.type_list_append mt_append (pv 3) (pa_cons (pe_bm PySem.F.plainAttrs_list PySem.F.slot_list_pop PySem.F.type_list_pop mt_popAt (pv 2) (pa_cons (pe_own C_law_draw (hr.mono (by omega)) (by rfl) pass0 (pa_cons (pv 0) (pa_cons (pe_callB (kc_len (K := K) (P := P) (w := w)) (by rfl) T.b_len PySem.boot_len (pa_cons (pv 2) pa_nil)) pa_nil))) pa_nil)) pa_nil)))))
    (pss_one (ps_ret (pv 3))))), ?_⟩
  obtain ⟨p, o, G, M, b, a, xs, rfl, z, hp, hb, hS, hE, hl, q⟩ := h
  repeat (walk_at "z")
  refine z_listP z hS fun l H1 z1 => ?_
  repeat (walk_at "z")
  refine z_ownP z1 (by decide) fun u H2 z2 => ?_
  repeat (walk_at "z")
  refine z_while (fun n σ G2 M2 => ∃ o2 ys zs, σ = [some (.ref p), some (.ref a), some (.ref l), some (.ref u)] ∧ M2 = (p, o2) :: (u, .lst ys) :: (l, .lst zs) :: M ∧ Same G G2 ∧ Pen K G2 (b + ys.length) o2 ∧ n = zs.length ∧ (ys ++ zs).Perm xs)
    xs.length z2 ⟨o, [], xs, rfl, rfl, Same.refl G, hp, rfl, List.Perm.refl _⟩ ?_
  rintro n σ G2 M2 H3 ⟨o2, ys, zs, rfl, rfl, s2, hp2, rfl, hperm⟩ z3
  have hlen : ys.length + zs.length = xs.length := by rw [← List.length_append]; exact hperm.length_eq
  repeat (walk_at "z")
  refine z_newL z3 (by decide) fun p4 G4 H4 z4 s4 e4 => ?_
  have hE4 : ∀ v ∈ zs, El K H4 v := fun v hv => ((hE v (hperm.mem_iff.mp (List.mem_append_right _ hv))).up (s2.trans s4)).up z4.sub
  refine z_neNil (xs := zs) (SqL.of (z4.at_ 2 rfl)) (z4.sub _ _ e4) ?_
  repeat (walk_at "z")
  by_cases c : zs = []
  · subst c
    rw [show decide (([] : List V) ≠ []) = false from rfl]
    refine z_whF ?_
    repeat (walk_at "z")
    refine q u ys G4 _ o2 (z4.keep (.cons_cons _ (.cons_cons _ (.cons _ (List.Sublist.refl _))))) (s2.trans s4) ?_ ?_
    · have e : xs.length = ys.length := by rw [← hlen]; rfl
      rw [e]
      exact hp2.up s4
    · rw [List.append_nil] at hperm
      exact hperm
  · rw [decide_eq_true c]
    have h00 : 0 < zs.length := by cases zs with | nil => exact absurd rfl c | cons _ _ => exact Nat.succ_pos _
    refine z_whT ?_
    repeat (walk_at "z")
    refine z_tyO z4 1 rfl ?_
    repeat (walk_at "z")
    refine z_tyO z4 2 rfl ?_
    repeat (walk_at "z")
    refine z_lenO z4 2 rfl ?_
    repeat (walk_at "z")
    refine ⟨p, o2, G4, _, _, _, rfl, z4, hp2.up s4, by omega, by omega, by omega, fun r G5 H5 o5 z5 s5 hp5 r0 r1 => ?_⟩
    obtain ⟨k, rfl⟩ := Int.eq_ofNat_of_zero_le r0
    have hk : k < zs.length := by omega
    repeat (walk_at "z")
    refine z_popAt z5 2 rfl r0 r1 (by omega) (v := zs[k]) (by simp [hk]) fun H6 z6 => ?_
    repeat (walk_at "z")
    refine z_append z6 1 rfl (by omega) fun H7 z7 => ?_
    repeat (walk_at "z")
    refine ⟨(zs.eraseIdx k).length, by rw [List.length_eraseIdx_of_lt hk]; omega, _, _, z7, _, ys ++ [zs[k]], zs.eraseIdx k, rfl, rfl, (s2.trans s4).trans s5, ?_, rfl, ?_⟩
    · rw [List.length_append]
      exact hp5
    · rw [List.append_assoc, List.singleton_append]
      refine List.Perm.trans (List.Perm.append_left _ ?_) hperm
      exact erase_perm hk
end
end LW
namespace LW
open PySem PySem.Spec PyProof.Rows L2 Ys

/-! ### drawn words are different ones -/
def Cop (st : Int) : Prop := ∀ a b m : Int, st * (a - b) = 26 * m → a - b < 20 → b - a < 20 → a = b
theorem toList_app (x y : Str) : (x ++ y).cps.toList = x.cps.toList ++ y.cps.toList := by
  show (x.cps ++ y.cps).toList = _
  simp
theorem mid_at {x y : Str} {c n : Nat} (h : x.length = n) : (x ++ ⟨#[c]⟩ ++ y).cps.toList[n]? = some c := by
  rw [toList_app, toList_app]
  have hx : x.cps.toList.length = n := by rw [← h]; simp [Str.length]
  rw [List.append_assoc, List.getElem?_append_right (by omega), hx, Nat.sub_self]
  rfl
theorem app_at {x y : Str} {c n : Nat} (h : x.cps.toList[n]? = some c) : (x ++ y).cps.toList[n]? = some c := by
  rw [toList_app, List.getElem?_append_left (List.getElem?_eq_some_iff.mp h).1]
  exact h
theorem snoc_at {fs : List Str} {word : Str} {ch n : Nat} {fr st : Int} (hat : ∀ (i : Nat) (t : Str), fs[i]? = some t → ∃ ch, t.cps.toList[n]? = some ch ∧ atI ("abcdefghijklmnopqrstuvwxyz" : Str).cps.toList ((fr + st * i) % 26) = some ch) (h1 : word.cps.toList[n]? = some ch) (h2 : atI ("abcdefghijklmnopqrstuvwxyz" : Str).cps.toList ((fr + st * (fs.length : Int)) % 26) = some ch) :
    ∀ (i : Nat) (t : Str), (fs ++ [word])[i]? = some t → ∃ ch, t.cps.toList[n]? = some ch ∧ atI ("abcdefghijklmnopqrstuvwxyz" : Str).cps.toList ((fr + st * i) % 26) = some ch := fun i t h => by
  by_cases c : i < fs.length
  · rw [List.getElem?_append_left c] at h
    exact hat i t h
  · rw [List.getElem?_append_right (by omega)] at h
    have hi : i = fs.length := by
      have := (List.getElem?_eq_some_iff.mp h).1
      simp at this
      omega
    subst hi
    rw [Nat.sub_self] at h
    obtain rfl : word = t := by simpa using h
    exact ⟨ch, h1, h2⟩
theorem abc_inj : ∀ i < 26, ∀ j < 26, ("abcdefghijklmnopqrstuvwxyz" : Str).cps.toList[i]? = ("abcdefghijklmnopqrstuvwxyz" : Str).cps.toList[j]? → i = j := by decide +kernel
theorem words_nd {fs : List Str} {n : Nat} {fr st : Int} (hl : fs.length ≤ 20) (f0 : 0 ≤ fr) (hc : Cop st) (hat : ∀ (i : Nat) (t : Str), fs[i]? = some t → ∃ ch, t.cps.toList[n]? = some ch ∧ atI ("abcdefghijklmnopqrstuvwxyz" : Str).cps.toList ((fr + st * i) % 26) = some ch) : fs.Nodup := by
  show List.Pairwise (· ≠ ·) fs
  refine List.pairwise_iff_getElem.mpr fun i j hi hj hij e => ?_
  have h1 : fs[i]? = some fs[i] := List.getElem?_eq_getElem hi
  obtain ⟨c1, g1, a1⟩ := hat i _ h1
  obtain ⟨c2, g2, a2⟩ := hat j fs[i] (by rw [List.getElem?_eq_getElem hj, e])
  rw [g1] at g2
  cases g2
  have m1 := Int.emod_nonneg (fr + st * i) (show (26 : Int) ≠ 0 by decide)
  have m2 := Int.emod_nonneg (fr + st * j) (show (26 : Int) ≠ 0 by decide)
  have l1 := Int.emod_lt_of_pos (fr + st * i) (show (0 : Int) < 26 by decide)
  have l2 := Int.emod_lt_of_pos (fr + st * j) (show (0 : Int) < 26 by decide)
  have key : ∀ {x : Int}, 0 ≤ x → x < 26 → atI ("abcdefghijklmnopqrstuvwxyz" : Str).cps.toList x = ("abcdefghijklmnopqrstuvwxyz" : Str).cps.toList[x.toNat]? := fun {x} h0 h1 => by
    have : ixN ("abcdefghijklmnopqrstuvwxyz" : Str).cps.toList.length x = some x.toNat := by
      unfold ixN
      rw [if_pos h0, if_pos (by rw [show ("abcdefghijklmnopqrstuvwxyz" : Str).cps.toList.length = 26 by decide +kernel]; omega)]
    unfold atI
    rw [this]
    rfl
  rw [key m1 l1] at a1
  rw [key m2 l2] at a2
  have := abc_inj _ (by omega) _ (by omega) (a1.trans a2.symm)
  have he : (fr + st * (i : Int)) % 26 = (fr + st * (j : Int)) % 26 := by omega
  have d1 := Int.emod_add_mul_ediv (fr + st * (i : Int)) 26
  have d2 := Int.emod_add_mul_ediv (fr + st * (j : Int)) 26
  have hm : st * ((i : Int) - (j : Int)) = 26 * ((fr + st * (i : Int)) / 26 - (fr + st * (j : Int)) / 26) := by
    rw [Int.mul_sub]
    omega
  have := hc _ _ _ hm (by omega) (by omega)
  omega
section
variable {P : Program} {w : World} {K : PySem.W.Frag} {mg : Str → Option Value} {base : Heap} {f : Addr} {fd : FuncData}
abbrev OwnD (P : Program) (w : World) (K : PySem.W.Frag) (mg : Str → Option Value) (base : Heap) : Prop := Own P w K mg base CX0 1 "_law_draw" ["_law_pen_here", "_law_size"] (spDraw K)
abbrev OwnP (P : Program) (w : World) (K : PySem.W.Frag) (mg : Str → Option Value) (base : Heap) : Prop := Own P w K mg base CX0 2 "_law_pick" ["_law_pen_here", "_law_items"] (spPick K)
def spWords (K : PySem.W.Frag) : Sp := fun vs H Q _ => ∃ p o G M b, ∃ n : Nat, vs = [.ref p, .int n] ∧ Zp G ((p, o) :: M) H ∧ Pen K G b o ∧ b ≤ 100000000000 ∧ n ≤ 20 ∧
  ∀ l G1 H1 o1, ∀ ss : List Str, Zp G1 ((p, o1) :: M) H1 → Same G G1 → Pen K G1 (b + 10) o1 → G1 l = some (.lst (ss.map V.str)) → ss.length = n → (∀ s ∈ ss, Wd s) → ss.Nodup → Q (.ref l) H1
theorem ok_words (T : Nm K mg) (C_law_draw : OwnD P w K mg base) (C_law_pick : OwnP P w K mg base) (F : FnP K "_law_words" s_law_words f fd) : FnOk P w K mg base CX0 3 f fd ["_law_pen_here", "_law_count_here"] (spWords K) := by
  have nd : N_law_words.Nodup := sc_law_words.nd
  refine F.ok sc_law_words (fun vs H Q E h => ?_) (fun cdv A outer s H vs Q E hr h => ?_)
  · obtain ⟨p, o, G, M, b, n, rfl, _⟩ := h
    rfl
  have hu := hr.units
  refine ⟨_, PSs.nox   (pss_cons (ps_asg pe_str (pg_name (i := 2) nd rfl (by first | exact .inl rfl | exact .inr rfl)))
    (pss_cons (ps_asg (pe_joinG pe_str (pe_lc (own := [("_law_k", 5)]) (tt := tYes) rfl nd (pi_range1 (by rfl) (T.b_range) (pa_cons (pe_own C_law_draw (hr.mono (by omega)) (by rfl) pass0 (pa_cons (pv 0) (pa_cons pe_int pa_nil))) pa_nil)) (blkOk_by (N := N_law_words) (sc := defScope s_law_words) (by decide +kernel)) (fun _ _ _ _ _ => (pg_name (i := 5) nd rfl (by first | exact .inl rfl | exact .inr rfl))) (fun _ _ _ _ _ => pts_nil) (fun _ _ _ _ _ => (pe_own C_law_pick (hr.mono (by omega)) (by rfl) pass0 (pa_cons (pv 0) (pa_cons (pv 2) pa_nil)))))) (pg_name (i := 3) nd rfl (by first | exact .inl rfl | exact .inr rfl)))
    (pss_cons (ps_par (i := 6) (j := 7) (by rfl) nd rfl rfl (by decide) rfl rfl (pa_cons (pe_own C_law_draw (hr.mono (by omega)) (by rfl) pass0 (pa_cons (pv 0) (pa_cons (pe_op (k_add (K := K)) (pe_callB (kc_len (K := K) (P := P) (w := w)) (by rfl) T.b_len PySem.boot_len (pa_cons (pv 3) pa_nil)) pe_int) pa_nil))) (pa_cons (pe_own C_law_draw (hr.mono (by omega)) (by rfl) pass0 (pa_cons (pv 0) (pa_cons pe_int pa_nil))) pa_nil)) (by rfl))
    (pss_cons (ps_par (i := 8) (j := 9) (by rfl) nd rfl rfl (by decide) rfl rfl (pa_cons (pe_own C_law_pick (hr.mono (by omega)) (by rfl) pass0 (pa_cons (pv 0) (pa_cons (pe_lst (pa_cons pe_int (pa_cons pe_int (pa_cons pe_int (pa_cons pe_int (pa_cons pe_int (pa_cons pe_int (pa_cons pe_int (pa_cons pe_int pa_nil))))))))) pa_nil))) (pa_cons (pe_own C_law_pick (hr.mono (by omega)) (by rfl) pass0 (pa_cons (pv 0) (pa_cons (pe_lst (pa_cons pe_str (pa_cons pe_str (pa_cons pe_str (pa_cons pe_str pa_nil))))) pa_nil))) pa_nil)) (by rfl))
    (pss_cons (ps_asg (pe_lst pa_nil) (pg_name (i := 4) nd rfl (by first | exact .inl rfl | exact .inr rfl)))
    (pss_cons (ps_for PassesOwn.never rfl (pi_range1 (by rfl) (T.b_range) (pa_cons (pv 1) pa_nil)) (pg_name (i := 5) nd rfl (by first | exact .inl rfl | exact .inr rfl)) (pss_cons (ps_asg (pe_op (k_add (K := K)) (pe_op (k_add (K := K)) (pe_slice (k_sl (K := K)) (pv 3) po_none (po_some (pv 6))) (pe_ix (k_ix (K := K)) (pv 2) (pe_op o_mod (pe_callTy c_int (by rfl) T.b_int boot_int (pa_cons (pe_op (k_add (K := K)) (pv 7) (pe_op o_mul (pv 8) (pv 5))) pa_nil)) pe_int) (fun _ _ => rfl))) (pe_slice (k_sl (K := K)) (pv 3) (po_some (pv 6)) po_none)) (pg_name (i := 10) nd rfl (by first | exact .inl rfl | exact .inr rfl)))
    (pss_one (ps_expr (pe_bm PySem.F.plainAttrs_list PySem.F.slot_list_append PySem.F.type_list_append mt_append (pv 4) (pa_cons (pe_ifExp (pt_cmpR (k_eq (K := K) hu) (pe_op o_mod (pe_callTy c_int (by rfl) T.b_int boot_int (pa_cons (pv 5) pa_nil)) pe_int) pe_int (nomark _)) (pe_op (k_add (K := K)) (pv 10) (pv 9)) (pv 10)) pa_nil))))))
    (pss_one (ps_ret (pv 4))))))))), ?_⟩
  obtain ⟨p, o, G, M, b, n, rfl, z, hp, hb, hn, q⟩ := h
  repeat (walk_at "z")
  refine ⟨p, o, G, M, b, _, rfl, z, hp, by omega, by decide, by decide, fun c1 G1 H1 o1 z1 s1 hp1 c0 c6 => ?_⟩
  repeat (walk_at "z")
  refine z_itR (by omega) (by omega) ?_
  refine lc_src src_R (fun i G' M' acc => ∃ o', ∃ ss : List Str, M' = (p, o') :: M ∧ Same G G' ∧ Pen K G' (b + 1 + i) o' ∧ acc = ss.map V.str ∧ ss.length = i ∧ ∀ t ∈ ss, Lt t ∧ t.length = 1) z1 ⟨o1, [], rfl, s1, hp1, rfl, rfl, by simp⟩ (fun _ _ _ _ _ _ _ _ => trivial) ?_ ?_
  · rintro i x G2 M2 acc Dl H2 hx ⟨o2, ss, rfl, s2, hp2, rfl, rfl, hss⟩ z2
    have hi : ss.length < 6 := by
      have := (List.getElem?_eq_some_iff.mp hx).1
      rw [rngV_len] at this
      omega
    repeat (walk_at "z")
    refine ⟨by rfl, ?_⟩
    repeat (walk_at "z")
    refine ⟨p, o2, G2, _, _, _, rfl, z2, hp2, by omega, .inr ⟨_, rfl, by rw [abc_len]; decide, by rw [abc_len]; decide, fun ch G3 H3 o3 hch z3 s3 hp3 => ?_⟩⟩
    refine z_laid (M := (p, o3) :: M) z3 (by rw [List.length_map]; omega) ⟨o3, ss ++ [⟨#[ch]⟩], rfl, s2.trans s3, hp3, by simp, by simp, fun t ht => ?_⟩
    rcases List.mem_append.mp ht with ht | ht
    · exact hss t ht
    · obtain rfl : t = ⟨#[ch]⟩ := by simpa using ht
      exact ⟨Lt.one (abc_mem hch), rfl⟩
  · rintro p2 G2 M2 acc G3 H3 ⟨o2, ss, rfl, s2, hp2, rfl, hlen, hss⟩ s3 z3 e3
    rw [rngV_len] at hlen hp2
    have hl6 : ss.length ≤ 5 := by omega
    have hsum : (Txt.join "" ss).length = ss.length := PySem.W.KT.join_ones ss fun t ht => (hss t ht).2
    have hsm : ∀ l : List Str, (∀ t ∈ l, t.length = 1) → (l.map (·.length)).sum = l.length := by
      intro l
      induction l with
      | nil => intro _; rfl
      | cons a r ih =>
        intro h
        rw [List.map_cons, List.sum_cons, ih fun t ht => h t (List.mem_cons_of_mem _ ht), h a (List.mem_cons_self ..), List.length_cons]
        omega
    refine z_join z3 (SqL.of e3) ?_ ?_
    · rw [hsm ss fun t ht => (hss t ht).2]
      have : ("" : Str).length = 0 := by decide
      rw [this]
      omega
    have hstem : Lt (Txt.join "" ss) := Lt.join fun t ht => (hss t ht).1
    generalize Txt.join "" ss = stem at hstem hsum ⊢
    have hp2 := hp2.mono (c := b + 6) (by omega)
    rw [← hsum] at hlen hl6
    repeat (walk_at "z")
    refine z_lenS (by omega) ?_
    repeat (walk_at "z")
    refine ⟨p, o2, G3, _, _, _, rfl, z3, hp2.up s3, by omega, by omega, by omega, fun at_ G4 H4 o4 z4 s4 hp4 a0 a1 => ?_⟩
    repeat (walk_at "z")
    refine ⟨p, o4, G4, _, _, _, rfl, z4, hp4, by omega, by omega, by omega, fun fr G5 H5 o5 z5 s5 hp5 f0 f1 => ?_⟩
    repeat (walk_at "z")
    refine z_newL z5 (by simp) fun q6 G6 H6 z6 s6 e6 => ?_
    repeat (walk_at "z")
    refine ⟨p, o5, G6, _, _, _, rfl, z6, hp5.up s6, by omega, .inl ⟨q6, _, rfl, .inl (SqL.of e6), by simp, by simp, fun v G7 H7 o7 hv z7 s7 hp7 => ?_⟩⟩
    obtain ⟨st, rfl, st0, st1, stc⟩ : ∃ i, v = V.int i ∧ 0 < i ∧ i < 20 ∧ Cop i := by
      simp at hv
      rcases hv with rfl | rfl | rfl | rfl | rfl | rfl | rfl | rfl <;> exact ⟨_, rfl, by decide, by decide, fun a b m e h1 h2 => by omega⟩
    repeat (walk_at "z")
    refine z_newL z7 (by simp) fun q8 G8 H8 z8 s8 e8 => ?_
    repeat (walk_at "z")
    refine ⟨p, o7, G8, _, _, _, rfl, z8, hp7.up s8, by omega, .inl ⟨q8, _, rfl, .inl (SqL.of e8), by simp, by simp, fun v G9 H9 o9 hv z9 s9 hp9 => ?_⟩⟩
    obtain ⟨tail, rfl, tl0, tl1⟩ : ∃ t : Str, v = V.str t ∧ t.length ≤ 2 ∧ Lt t := by
      have k0 : ("" : Str).length ≤ 2 ∧ ∀ c ∈ ("" : Str).cps.toList, 97 ≤ c ∧ c ≤ 122 := by decide +kernel
      have k1 : ("w" : Str).length ≤ 2 ∧ ∀ c ∈ ("w" : Str).cps.toList, 97 ≤ c ∧ c ≤ 122 := by decide +kernel
      have k2 : ("ww" : Str).length ≤ 2 ∧ ∀ c ∈ ("ww" : Str).cps.toList, 97 ≤ c ∧ c ≤ 122 := by decide +kernel
      rcases List.mem_cons.mp hv with rfl | hv
      · exact ⟨_, rfl, k0⟩
      rcases List.mem_cons.mp hv with rfl | hv
      · exact ⟨_, rfl, k0⟩
      rcases List.mem_cons.mp hv with rfl | hv
      · exact ⟨_, rfl, k1⟩
      rcases List.mem_cons.mp hv with rfl | hv
      · exact ⟨_, rfl, k2⟩
      · cases hv
    have hpz := hp9.mono (c := b + 10) (by omega)
    have sz : Same G G9 := (s2.trans s3).trans ((s4.trans s5).trans ((s6.trans s7).trans (s8.trans s9)))
    clear hp9 hp7 hp5 hp4 hp2 hp1 hp z8 z7 z6 z5 z4 z3 z1 z e3 e6 e8 s9 s8 s7 s6 s5 s4 s3 s2 s1
    repeat (walk_at "z")
    refine z_ownP z9 (by simp) fun fa H10 z10 => ?_
    repeat (walk_at "z")
    refine z_itR (by omega) (by omega) ?_
    refine for_src src_R (fun i σ G' M' => ∃ fs : List Str, ∃ k5 k10 : Option V, M' = (p, o9) :: (fa, .lst (fs.map V.str)) :: M ∧ G' = G9 ∧ fs.length = i ∧ (∀ t ∈ fs, Wd t) ∧ (∀ (i : Nat) (t : Str), fs[i]? = some t → ∃ ch, t.cps.toList[at_.toNat]? = some ch ∧ atI ("abcdefghijklmnopqrstuvwxyz" : Str).cps.toList ((fr + st * i) % 26) = some ch) ∧
      σ = [some (.ref p), some (.int n), some (.str ("abcdefghijklmnopqrstuvwxyz" : Str)), some (.str stem), some (.ref fa), k5, some (.int at_), some (.int fr), some (.int st), some (.str tail), k10])
      z10 ⟨[], _, _, rfl, rfl, rfl, by simp, (fun i t h => by simp at h), rfl⟩ (fun _ _ _ _ _ _ _ => trivial) ?_ ?_
    · rintro i x σ G' M' H' hx ⟨fs, k5, k10, rfl, rfl, rfl, hfs, hat, rfl⟩ z'
      obtain ⟨hi, rfl⟩ := rng_at hx
      generalize hk : (0 : Int) + (fs.length : Int) = k
      repeat (walk_at "z")
      refine z_slS (by omega) ?_
      repeat (walk_at "z")
      refine z_I (mw (by omega) (by omega) (by omega) (by omega)) ?_
      repeat (walk_at "z")
      refine z_I (by decide) ?_
      repeat (walk_at "z")
      obtain ⟨ch, hch, ech⟩ := at_in (xs := ("abcdefghijklmnopqrstuvwxyz" : Str).cps.toList) (i := (fr + st * k) % 26) (Int.emod_nonneg _ (by decide)) (by rw [Array.length_toList]; exact Int.emod_lt_of_pos _ (by decide))
      refine z_ixS (by rw [abc_len]; decide) ech ?_
      have l1 : (cutS stem none (some at_)).length ≤ stem.length := by rw [cutS_len]; have := HT.sIx_le stem.length stem.length (Nat.le_refl _) (some at_); omega
      have hch1 := Lt.one (abc_mem hch)
      have hc1 : (⟨#[ch]⟩ : Str).length = 1 := rfl
      refine z_addS (by omega) ?_
      repeat (walk_at "z")
      refine z_slS (by omega) ?_
      have e1 : (cutS stem none (some at_)).length = at_.toNat := by
        rw [cutS_len]
        show (if at_ < 0 then (at_ + (stem.length : Int)).toNat else min at_.toNat stem.length) - 0 = at_.toNat
        rw [if_neg (by omega)]
        omega
      have e2 : (cutS stem (some at_) none).length = stem.length - at_.toNat := by
        rw [cutS_len]
        show stem.length - (if at_ < 0 then (at_ + (stem.length : Int)).toNat else min at_.toNat stem.length) = stem.length - at_.toNat
        rw [if_neg (by omega)]
        omega
      have e3 : (cutS stem none (some at_) ++ ⟨#[ch]⟩).length = at_.toNat + 1 := by rw [len_app, e1]; rfl
      refine z_addS (by omega) ?_
      have e4 : (cutS stem none (some at_) ++ ⟨#[ch]⟩ ++ cutS stem (some at_) none).length = stem.length + 1 := by rw [len_app, e3, e2]; omega
      have e5 : Lt (cutS stem none (some at_) ++ ⟨#[ch]⟩ ++ cutS stem (some at_) none) := ((hstem.cut _ _).app hch1).app (hstem.cut _ _)
      have e6 : (cutS stem none (some at_) ++ ⟨#[ch]⟩ ++ cutS stem (some at_) none).cps.toList[at_.toNat]? = some ch := mid_at e1
      have ech' : atI ("abcdefghijklmnopqrstuvwxyz" : Str).cps.toList ((fr + st * (fs.length : Int)) % 26) = some ch := by rw [← ech, ← hk, Int.zero_add]
      generalize cutS stem none (some at_) ++ ⟨#[ch]⟩ ++ cutS stem (some at_) none = word at e4 e5 e6
      repeat (walk_at "z")
      refine z_tyO z' 1 rfl ?_
      repeat (walk_at "z")
      refine z_I (by decide) ?_
      repeat (walk_at "z")
      refine z_eqS rfl ?_
      repeat (walk_at "z")
      refine z_b2 (fun _ => ?_) (fun _ => ?_)
      · repeat (walk_at "z")
        refine z_addS (by omega) ?_
        repeat (walk_at "z")
        refine z_append z' 1 rfl (by rw [List.length_map]; omega) fun H'' z'' => ?_
        repeat (walk_at "z")
        refine ⟨_, _, z'', fs ++ [word ++ tail], _, _, by simp, rfl, by simp, fun t ht => ?_, ?hat, rfl⟩
        case hat => exact snoc_at hat (by rw [app_at e6]) ech'
        rcases List.mem_append.mp ht with ht | ht
        · exact hfs t ht
        · obtain rfl : t = word ++ tail := by simpa using ht
          exact ⟨by rw [len_app]; omega, by rw [len_app]; omega, e5.app tl1⟩
      · repeat (walk_at "z")
        refine z_append z' 1 rfl (by rw [List.length_map]; omega) fun H'' z'' => ?_
        repeat (walk_at "z")
        refine ⟨_, _, z'', fs ++ [word], _, _, by simp, rfl, by simp, fun t ht => ?_, ?hat, rfl⟩
        case hat => exact snoc_at hat e6 ech'
        rcases List.mem_append.mp ht with ht | ht
        · exact hfs t ht
        · obtain rfl : t = word := by simpa using ht
          exact ⟨by omega, by omega, e5⟩
    · rintro σ G' M' H' ⟨fs, k5, k10, rfl, rfl, hfl, hfs, hat, rfl⟩ z'
      rw [rngV_len] at hfl
      repeat (walk_at "z")
      obtain ⟨z'', n''⟩ := z'.fix2
      exact q fa _ _ o9 fs z'' (sz.trans (Same.new n'')) (hpz.up (Same.new n'')) upd_same (by omega) hfs (words_nd (by omega) f0 stc hat)
end
end LW
namespace LW
open PySem PySem.Spec PyProof.Rows L2 Ys
end LW
namespace LW
open PySem PySem.Spec PyProof.Rows L2 Ys

/-! ### what the words' functions tell -/
def abcL : List Nat := (("abcdefghijklmnopqrstuvwxyz" : Str)).cps.toList
def wordS (s : Str) : Bool := decide (1 ≤ s.length) && (decide (s.length ≤ 8) && s.cps.toList.all fun c => decide (c ∈ abcL))
def isStrD : PyData → Bool
  | .str _ => true
  | _ => false
def wordD : PyData → Bool
  | .str s => wordS s
  | _ => false
def intD : PyData → Bool
  | .int _ => true
  | _ => false
def listD : PyData → Bool
  | .list _ => true
  | .tuple _ => true
  | _ => false
def itemsD : PyData → List PyData
  | .list ds => ds
  | .tuple ds => ds
  | _ => []
theorem wordD_ns {d : PyData} (h : isStrD d = false) : wordD d = false := by cases d <;> first | rfl | cases h
theorem kit_str (d : PyData) : kitB (tyD d) "str" = some (isStrD d) := by cases d <;> (simp only [tyD, isStrD]; decide +kernel)
theorem all_map_bl {α : Type} (f : α → Bool) (l : List α) : (l.map f).all id = l.all f := by rw [List.all_map]; rfl
def ShortD (d : PyData) : Prop := ∀ s, d = .str s → s.length ≤ 100000
section
variable {P : Program} {w : World} {K : PySem.W.Frag} {mg : Str → Option Value} {base : Heap} {f : Addr} {fd : FuncData}
def spWord (K : PySem.W.Frag) : Sp := fun vs H Q _ => ∃ G M v d, vs = [v] ∧ Zp G M H ∧ Dt K G v d ∧ ShortD d ∧ ∀ G1 H1, Zp G1 M H1 → Same G G1 → Q (.bl (wordD d)) H1
theorem ok_is_word (T : Nm K mg) (F : FnP K "is_word" s_is_word f fd) : FnOk P w K mg base CX0 1 f fd ["value"] (spWord K) := by
  have nd : N_is_word.Nodup := sc_is_word.nd
  refine F.ok sc_is_word (fun vs H Q E h => ?_) (fun cdv A outer s H vs Q E hr h => ?_)
  · obtain ⟨G, M, v, d, rfl, _⟩ := h
    rfl
  have hu := hr.units
  refine ⟨_, PSs.nox   (pss_cons (ps_if (PW.pt (pw_or (pt_not (pt_val (pe_callB (kc_isi (K := K)) (by rfl) T.b_isinstance boot_isinstance (pa_cons (pv 0) (pa_cons (pe_bltn (v := .ty "str") (by rfl) T.b_str boot_str rfl) pa_nil))))) (pw_or1 (pt_not (pt_chain o_le o_le pe_int (pe_callB (kc_len (K := K) (P := P) (w := w)) (by rfl) T.b_len PySem.boot_len (pa_cons (pv 0) pa_nil)) (pe_gC T.g_LONGEST_WORD (by rfl))))))) (pss_one (ps_ret pe_bl)) pss_nil)
    (pss_one (ps_ret (pe_callB (kc_all (K := K) rfl) (by rfl) T.b_all boot_all (pa_cons (pe_lc (own := [("letter", 1)]) (tt := tYes) rfl nd (k_any (K := K) (pv 0)) (blkOk_by (N := N_is_word) (sc := defScope s_is_word) (by decide +kernel)) (fun _ _ _ _ _ => (pg_name (i := 1) nd rfl (by first | exact .inl rfl | exact .inr rfl))) (fun _ _ _ _ _ => pts_nil) (fun _ _ _ _ _ => (pe_cmpR (k_in (K := K)) (pv 1) (pe_gC T.g_LETTERS (by rfl)) (by rfl)))) pa_nil))))), ?_⟩
  obtain ⟨G, M, v, d, rfl, z, hd, hs, q⟩ := h
  repeat (walk_at "z")
  refine z_isi (.ty "str") (hd.up z.sub).ty (kit_ty (kit_str d)) ?_
  cases hi : isStrD d with
  | false =>
    repeat (walk_at "z")
    have := q G H z (Same.refl G)
    rw [wordD_ns hi] at this
    exact this
  | true =>
    cases hd with
    | str t =>
      have hl := hs t rfl
      repeat (walk_at "z")
      refine z_lenS hl ?_
      repeat (walk_at "z")
      by_cases c1 : 1 ≤ t.length
      · rw [decide_eq_true (show (1 : Int) ≤ (t.length : Int) by omega)]
        repeat (walk_at "z")
        by_cases c2 : t.length ≤ 8
        · rw [decide_eq_true (show (t.length : Int) ≤ 8 by omega)]
          repeat (walk_at "z")
          refine z_anyS ?_
          repeat (walk_at "z")
          refine z_itS ?_
          refine lc_src src_S (fun i G' M' acc => M' = M ∧ G' = G ∧ acc = ((t.cps.toList.take i).map fun c => V.bl (decide (c ∈ abcL)))) z ⟨rfl, rfl, rfl⟩ (fun _ _ _ _ _ _ _ _ => trivial) ?_ ?_
          · rintro i x G2 M2 acc Dl H2 hx ⟨rfl, rfl, rfl⟩ z2
            obtain ⟨c, hc, rfl⟩ : ∃ c, t.cps.toList[i]? = some c ∧ x = V.str ⟨#[c]⟩ := by
              unfold chrV at hx
              rw [List.getElem?_map] at hx
              cases e : t.cps.toList[i]? with
              | none => rw [e] at hx; cases hx
              | some c => rw [e] at hx; exact ⟨c, rfl, (Option.some.inj hx).symm⟩
            repeat (walk_at "z")
            refine ⟨by rfl, ?_⟩
            repeat (walk_at "z")
            refine z_inS ?_
            refine z_laid z2 (by rw [List.length_map, List.length_take, Array.length_toList]; show min _ t.length ≤ _; omega) ⟨rfl, rfl, ?_⟩
            rw [List.take_add_one, hc]
            simp [abcL]
          · rintro p2 G2 M2 acc G3 H3 ⟨rfl, rfl, rfl⟩ s3 z3 e3
            rw [chrV_len, show t.length = t.cps.toList.length from (Array.length_toList).symm, List.take_length] at e3
            repeat (walk_at "z")
            refine z_all (bs := t.cps.toList.map fun c => decide (c ∈ abcL)) z3 (SqL.of (by rw [List.map_map]; exact e3)) ?_
            have := q G3 H3 z3 s3
            rw [all_map_bl]
            have e : wordD (.str t) = t.cps.toList.all fun c => decide (c ∈ abcL) := by
              show (decide _ && (decide _ && _)) = _
              rw [decide_eq_true c1, decide_eq_true c2]
              rfl
            rw [e] at this
            exact this
        · rw [decide_eq_false (show ¬ (t.length : Int) ≤ 8 by omega)]
          repeat (walk_at "z")
          have := q G H z (Same.refl G)
          have e : wordD (.str t) = false := by
            show (decide _ && (decide _ && _)) = _
            rw [decide_eq_false c2, Bool.false_and, Bool.and_false]
          rw [e] at this
          exact this
      · rw [decide_eq_false (show ¬ (1 : Int) ≤ (t.length : Int) by omega)]
        repeat (walk_at "z")
        have := q G H z (Same.refl G)
        have e : wordD (.str t) = false := by
          show (decide _ && (decide _ && _)) = _
          rw [decide_eq_false c1, Bool.false_and]
        rw [e] at this
        exact this
    | _ => cases hi
def spAsc (K : PySem.W.Frag) : Sp := fun vs H Q _ => ∃ G M a, ∃ ss : List Str, vs = [.ref a] ∧ Zp G M H ∧ SqL K H a (ss.map V.str) ∧ ss.length < 64 ∧
  ∀ p G1 H1, Zp G1 M H1 → Same G G1 → SqT K G1 p ((asc ss).map V.str) → Q (.ref p) H1
theorem ok_asc (T : Nm K mg) (F : FnP K "ascending" s_ascending f fd) : FnOk P w K mg base CX0 1 f fd ["words"] (spAsc K) := by
  have nd : N_ascending.Nodup := sc_ascending.nd
  refine F.ok sc_ascending (fun vs H Q E h => ?_) (fun cdv A outer s H vs Q E hr h => ?_)
  · obtain ⟨G, M, a, ss, rfl, _⟩ := h
    rfl
  have hu := hr.units
  refine ⟨_, PSs.nox   (pss_one (ps_ret (pe_callTy (kc_tuple (K := K)) (by rfl) T.b_tuple boot_tuple (pa_cons (pe_callB (kc_sorted (K := K) (P := P) (w := w) rfl) (by rfl) T.b_sorted boot_sorted (pa_cons (pe_callTy (kc_set (K := K) (P := P) (w := w) rfl) (by rfl) T.b_set boot_set (pa_cons (pv 0) pa_nil)) pa_nil)) pa_nil)))), ?_⟩
  obtain ⟨G, M, a, ss, rfl, z, hS, hs, q⟩ := h
  repeat (walk_at "z")
  refine z_setH z (.inl hS) (by omega) fun p l G2 H2 z2 s2 e2 m2 nd2 l2 => ?_
  repeat (walk_at "z")
  refine z_sortX z2 e2 m2 nd2 (by omega) fun p3 G3 H3 z3 s3 e3 => ?_
  repeat (walk_at "z")
  exact z_tupL z3 (SqL.of e3) fun p4 G4 H4 z4 s4 h4 => q p4 G4 H4 z4 ((s2.trans s3).trans s4) h4
end
end LW
namespace LW
open PySem PySem.Spec PyProof.Rows L2 Ys

def boolD : PyData → Bool
  | .bool _ => true
  | _ => false
theorem kit_int (d : PyData) : kitB (tyD d) "int" = some (intD d || boolD d) := by cases d <;> (simp only [tyD, intD, boolD]; decide +kernel)
theorem kit_bool (d : PyData) : kitB (tyD d) "bool" = some (boolD d) := by cases d <;> (simp only [tyD, boolD]; decide +kernel)
def isLD : PyData → Bool
  | .list _ => true
  | _ => false
def isTDV : PyData → Bool
  | .tuple _ => true
  | _ => false
theorem kit_list {K : PySem.W.Frag} (d : PyData) : PySem.W.kitAny K (.type (tyD d)) [.type "list", .type "tuple"] = some (listD d) := by
  have k1 : kitB (tyD d) "list" = some (isLD d) := by cases d <;> (simp only [tyD, isLD]; decide +kernel)
  have k2 : kitB (tyD d) "tuple" = some (isTDV d) := by cases d <;> (simp only [tyD, isTDV]; decide +kernel)
  refine kitAny_cons (kit_ty k1) (fun h => kitAny_cons (kit_ty k2) (fun h2 => ?_) fun h2 => ?_) fun h => ?_
  · rw [kitAny_nil]
    cases d <;> first | rfl | (cases h2; done) | (cases h; done)
  · cases d <;> first | rfl | cases h2
  · cases d <;> first | rfl | cases h
def withinD (a b : Int) : PyData → Bool
  | .int i => decide (a ≤ i) && decide (i ≤ b)
  | _ => false
def moreD (m : Option Int) (ds : List PyData) : Bool := match m with
  | none => true
  | some m => decide ((ds.length : Int) ≤ m)
def wordsD (m : Option Int) (d : PyData) : Bool := listD d && (moreD m (itemsD d) && (itemsD d).all wordD)
def strOf : PyData → Str
  | .str s => s
  | _ => ""
def diffD (m : Option Int) (d : PyData) : Bool := wordsD m d && decide ((dd ((itemsD d).map strOf)).length = (itemsD d).length)
def mV : Option Int → V
  | none => .non
  | some i => .int i
section
variable {P : Program} {w : World} {K : PySem.W.Frag} {mg : Str → Option Value} {base : Heap} {f : Addr} {fd : FuncData}
def spInt (K : PySem.W.Frag) : Sp := fun vs H Q _ => ∃ G M v d, vs = [v] ∧ Zp G M H ∧ Dt K G v d ∧ Q (.bl (intD d)) H
theorem ok_is_integer (T : Nm K mg) (F : FnP K "is_integer" s_is_integer f fd) : FnOk P w K mg base CX0 1 f fd ["value"] (spInt K) := by
  have nd : N_is_integer.Nodup := sc_is_integer.nd
  refine F.ok sc_is_integer (fun vs H Q E h => ?_) (fun cdv A outer s H vs Q E hr h => ?_)
  · obtain ⟨G, M, v, d, rfl, _⟩ := h
    rfl
  have hu := hr.units
  refine ⟨_, PSs.nox   (pss_one (ps_ret (pe_and (pe_callB (kc_isi (K := K)) (by rfl) T.b_isinstance boot_isinstance (pa_cons (pv 0) (pa_cons (pe_bltn (v := .ty "int") (by rfl) T.b_int boot_int rfl) pa_nil))) (pe_one (pe_not (pe_callB (kc_isi (K := K)) (by rfl) T.b_isinstance boot_isinstance (pa_cons (pv 0) (pa_cons (pe_bltn (v := .ty "bool") (by rfl) T.b_bool boot_bool rfl) pa_nil)))))))), ?_⟩
  obtain ⟨G, M, v, d, rfl, z, hd, q⟩ := h
  repeat (walk_at "z")
  refine z_isi (.ty "int") (hd.up z.sub).ty (kit_ty (kit_int d)) ?_
  repeat (walk_at "z")
  have e : intD d = ((intD d || boolD d) && !boolD d) := by cases d <;> rfl
  cases h1 : (intD d || boolD d) with
  | false =>
    repeat (walk_at "z")
    rw [e, h1] at q
    exact q
  | true =>
    repeat (walk_at "z")
    refine z_isi (.ty "bool") (hd.up z.sub).ty (kit_ty (kit_bool d)) ?_
    repeat (walk_at "z")
    rw [e, h1, Bool.true_and] at q
    exact q
def spWithin (K : PySem.W.Frag) : Sp := fun vs H Q _ => ∃ G M v d a b, vs = [v, .int a, .int b] ∧ Zp G M H ∧ Dt K G v d ∧ Q (.bl (withinD a b d)) H
theorem ok_is_within (T : Nm K mg) (C_is_integer : Own P w K mg base CX0 1 "is_integer" ["value"] (spInt K)) (F : FnP K "is_within" s_is_within f fd) : FnOk P w K mg base CX0 2 f fd ["value", "least", "most"] (spWithin K) := by
  have nd : N_is_within.Nodup := sc_is_within.nd
  refine F.ok sc_is_within (fun vs H Q E h => ?_) (fun cdv A outer s H vs Q E hr h => ?_)
  · obtain ⟨G, M, v, d, a, b, rfl, _⟩ := h
    rfl
  have hu := hr.units
  refine ⟨_, PSs.nox   (pss_one (ps_ret (pe_and (pe_own C_is_integer (hr.mono (by omega)) (by rfl) pass0 (pa_cons (pv 0) pa_nil)) (pe_one (pe_chain o_le o_le (pv 1) (pv 0) (pv 2)))))), ?_⟩
  obtain ⟨G, M, v, d, a, b, rfl, z, hd, q⟩ := h
  repeat (walk_at "z")
  refine ⟨G, M, v, d, rfl, z, hd, ?_⟩
  repeat (walk_at "z")
  cases hi : intD d with
  | false =>
    repeat (walk_at "z")
    have e : withinD a b d = false := by cases d <;> first | rfl | cases hi
    rw [e] at q
    exact q
  | true =>
    cases hd with
    | int i =>
      repeat (walk_at "z")
      refine z_b2 (fun c => ?_) (fun c => ?_)
      · repeat (walk_at "z")
        have e : withinD a b (.int i) = decide (i ≤ b) := by
          show (decide (a ≤ i) && _) = _
          rw [c]
          rfl
        rw [e] at q
        exact q
      · have e : withinD a b (.int i) = false := by
          show (decide (a ≤ i) && _) = _
          rw [c]
          rfl
        rw [e] at q
        exact q
    | _ => cases hi
def spIsList (K : PySem.W.Frag) : Sp := fun vs H Q _ => ∃ G M v d, vs = [v] ∧ Zp G M H ∧ Ar K G M v d ∧ ∀ G1 H1, Zp G1 M H1 → Same G G1 → Q (.bl (listD d)) H1
theorem ok_is_list (T : Nm K mg) (F : FnP K "is_list" s_is_list f fd) : FnOk P w K mg base CX0 1 f fd ["value"] (spIsList K) := by
  have nd : N_is_list.Nodup := sc_is_list.nd
  refine F.ok sc_is_list (fun vs H Q E h => ?_) (fun cdv A outer s H vs Q E hr h => ?_)
  · obtain ⟨G, M, v, d, rfl, _⟩ := h
    rfl
  have hu := hr.units
  refine ⟨_, PSs.nox   (pss_one (ps_ret (pe_callB (kc_isi (K := K)) (by rfl) T.b_isinstance boot_isinstance (pa_cons (pv 0) (pa_cons (pe_tup (pa_cons (pe_bltn (v := .ty "list") (by rfl) T.b_list boot_list rfl) (pa_cons (pe_bltn (v := .ty "tuple") (by rfl) T.b_tuple boot_tuple rfl) pa_nil))) pa_nil))))), ?_⟩
  obtain ⟨G, M, v, d, rfl, z, hd, q⟩ := h
  repeat (walk_at "z")
  refine z_newT z (by simp) fun p1 G1 H1 z1 s1 e1 => ?_
  repeat (walk_at "z")
  refine z_isi2 z1 e1 (.cons (.ty "list") (.cons (.ty "tuple") .nil)) ((hd.up s1).ty z1) (kit_list d) ?_
  exact q G1 _ z1 s1
abbrev OwnWV (P : Program) (w : World) (K : PySem.W.Frag) (mg : Str → Option Value) (base : Heap) : Prop := Own P w K mg base CX0 1 "is_word" ["value"] (spWord K)
abbrev OwnL (P : Program) (w : World) (K : PySem.W.Frag) (mg : Str → Option Value) (base : Heap) : Prop := Own P w K mg base CX0 1 "is_list" ["value"] (spIsList K)
def FineD (d : PyData) : Prop := (itemsD d).length ≤ 500 ∧ ∀ e ∈ itemsD d, ShortD e
def spAreWords (K : PySem.W.Frag) : Sp := fun vs H Q _ => ∃ G M v d m, vs = [v, mV m] ∧ Zp G M H ∧ Ar K G M v d ∧ FineD d ∧ ∀ G1 H1, Zp G1 M H1 → Same G G1 → Q (.bl (wordsD m d)) H1
theorem words_lc {G : Hp} {M : List (Addr × HO)} {H : Hp} {J : It} {xs : List V} {ds : List PyData} {OK : Hp → Prop} {σ : L2.St} {Q : VK} {v mv : V} (S : Src J xs OK) (hd : Dts K G xs ds) (z : Zp G M H) (hf : ds.length ≤ 500) (hs : ∀ e ∈ ds, ShortD e)
    (ok : ∀ G' M1 H', Same G G' → Zp G' (M ++ M1) H' → OK H') (q : ∀ p G1 H1, Zp G1 M H1 → Same G G1 → G1 p = some (.lst ((ds.map wordD).map V.bl)) → Q (.ref p) H1) (hσ : σ = [some v, some mv, none]) :
    LcW J (gName 2) tYes (tCall (spWord K) [] E0 (tCons (tVar 2) tNil)) [2] σ H Q := by
  subst hσ
  have hl := hd.len (ds := ds)
  refine lc_src S (fun i G' M' acc => M' = M ∧ Same G G' ∧ acc = ((ds.take i).map wordD).map V.bl) z ⟨rfl, Same.refl G, rfl⟩ ?_ ?_ ?_
  · rintro i G' M' M1 acc H' ⟨rfl, s1, _⟩ z'
    exact ok G' M1 H' s1 z'
  · rintro i x G2 M2 acc Dl H2 hx ⟨rfl, s2, rfl⟩ z2
    obtain ⟨d, h1, h2⟩ := hd.at_ hx
    repeat (walk_at "z")
    refine ⟨by rfl, ?_⟩
    repeat (walk_at "z")
    refine ⟨G2, _, x, d, rfl, z2, h2.up s2, hs d (List.mem_of_getElem? h1), fun G3 H3 z3 s3 => ?_⟩
    refine z_laid z3 (by rw [List.length_map, List.length_map, List.length_take]; omega) ⟨rfl, s2.trans s3, ?_⟩
    rw [List.take_add_one, h1]
    simp
  · rintro p2 G2 M2 acc G3 H3 ⟨rfl, s2, rfl⟩ s3 z3 e3
    rw [hl, List.take_length] at e3
    exact q p2 G3 H3 z3 (s2.trans s3) e3
theorem ok_are_words (T : Nm K mg) (C_is_word : OwnWV P w K mg base) (C_is_list : OwnL P w K mg base) (F : FunD K "are_words" "are_words" (defArgs s_are_words) (defBody s_are_words) (defScope s_are_words) [.non] [] f fd) : FnOk P w K mg base CX0 2 f fd ["value", "most"] (spAreWords K) := by
  have nd : N_are_words.Nodup := sc_are_words.nd
  refine F.ok sc_are_words (fun vs H Q E h => ?_) (fun cdv A outer s H vs Q E hr h => ?_)
  · obtain ⟨G, M, v, d, m, rfl, _⟩ := h
    rfl
  have hu := hr.units
  refine ⟨_, PSs.nox   (pss_cons (ps_if (PW.pt (pw_or (pt_not (pt_val (pe_own C_is_list (hr.mono (by omega)) (by rfl) pass0 (pa_cons (pv 0) pa_nil)))) (pw_or1 (PW.pt (pw_and (pt_cmpR o_notN (pv 1) pe_non (nomark _)) (pw_and1 (pt_cmpR o_gt (pe_callB (kc_len (K := K) (P := P) (w := w)) (by rfl) T.b_len PySem.boot_len (pa_cons (pv 0) pa_nil)) (pv 1) (nomark _)))))))) (pss_one (ps_ret pe_bl)) pss_nil)
    (pss_one (ps_ret (pe_callB (kc_all (K := K) rfl) (by rfl) T.b_all boot_all (pa_cons (pe_lc (own := [("word", 2)]) (tt := tYes) rfl nd (k_any (K := K) (pv 0)) (blkOk_by (N := N_are_words) (sc := defScope s_are_words) (by decide +kernel)) (fun _ _ _ _ _ => (pg_name (i := 2) nd rfl (by first | exact .inl rfl | exact .inr rfl))) (fun _ _ _ _ _ => pts_nil) (fun _ _ _ _ _ => (pe_own C_is_word (hr.mono (by omega)) (by rfl) pass0 (pa_cons (pv 2) pa_nil)))) pa_nil))))), ?_⟩
  obtain ⟨G, M, v, d, m, rfl, z, hd, ⟨hf, hs⟩, q⟩ := h
  repeat (walk_at "z")
  refine ⟨G, M, v, d, rfl, z, hd, fun G1 H1 z1 s1 => ?_⟩
  repeat (walk_at "z")
  cases hl : listD d with
  | false =>
    repeat (walk_at "z")
    have e : wordsD m d = false := by
      unfold wordsD
      rw [hl]
      rfl
    have := q G1 H1 z1 s1
    rw [e] at this
    exact this
  | true =>
    have big : ∀ (J : It) (a : Addr) (xs : List V) (OK : Hp → Prop), Src J xs OK → Dts K G xs (itemsD d) → (∀ G' M1 H', Same G G' → Zp G' (M ++ M1) H' → OK H') →
        ∀ Q2 : VK, (moreD m (itemsD d) = true → (∀ p G2 H2, Zp G2 M H2 → Same G1 G2 → G2 p = some (.lst (((itemsD d).map wordD).map V.bl)) → Q2 (.ref p) H2) → LcW J (gName 2) tYes (tCall (spWord K) [] E0 (tCons (tVar 2) tNil)) [2] (L2.start N_are_words [v, mV m]) H1 Q2) :=
      fun J a xs OK S hD ok Q2 hm q2 => words_lc S (hD.up s1) z1 hf hs (fun G' M1 H' s' z' => ok G' M1 H' (s1.trans s') z') (fun p G2 H2 z2 s2 e2 => q2 p G2 H2 z2 s2 e2) rfl
    have no : moreD m (itemsD d) = false → Q (.bl false) H1 := fun hm => by
      have e : wordsD m d = false := by
        unfold wordsD
        rw [hm, Bool.false_and, Bool.and_false]
      have := q G1 H1 z1 s1
      rw [e] at this
      exact this
    have yes : moreD m (itemsD d) = true → ∀ p G2 H2, Zp G2 M H2 → Same G1 G2 → G2 p = some (.lst (((itemsD d).map wordD).map V.bl)) → rAllG K [.ref p] H2 Q := fun hm p G2 H2 z2 s2 e2 => by
      refine z_all z2 (SqL.of e2) ?_
      have e : wordsD m d = ((itemsD d).map wordD).all id := by
        unfold wordsD
        rw [hl, hm, all_map_bl]
        rfl
      have := q G2 H2 z2 (s1.trans s2)
      rw [e] at this
      exact this
    cases d with
    | list ds =>
      obtain ⟨a, xs, rfl, k1, k2, k3⟩ := hd.list z
      have h1 := k3 G1 H1 z1 s1
      have h2 := k2.up s1
      cases m with
      | none =>
        repeat (walk_at "z")
        refine z_nN ?_
        repeat (walk_at "z")
        rw [show decide (mV none = V.non) = true from rfl]
        repeat (walk_at "z")
        refine z_anyL ?_
        repeat (walk_at "z")
        refine z_itLH h1 ?_
        refine big _ a xs _ src_L k2 (fun G' M1 H' s' z' => k3 G' H' z'.cut s') _ rfl (fun p G2 H2 z2 s2 e2 => ?_)
        repeat (walk_at "z")
        exact yes rfl p G2 H2 z2 s2 e2
      | some m =>
        repeat (walk_at "z")
        refine z_nN ?_
        repeat (walk_at "z")
        rw [show decide (mV (some m) = V.non) = false from rfl]
        repeat (walk_at "z")
        refine z_lenH (.inl h1) ?_
        rw [h2.len (ds := ds)]
        repeat (walk_at "z")
        refine z_I0 (j := m) ?_
        repeat (walk_at "z")
        cases hm : moreD (some m) ds with
        | false =>
          have : m < (ds.length : Int) := by have := of_decide_eq_false hm; omega
          rw [decide_eq_true this]
          repeat (walk_at "z")
          exact no hm
        | true =>
          have : ¬ m < (ds.length : Int) := by have := of_decide_eq_true hm; omega
          rw [decide_eq_false this]
          repeat (walk_at "z")
          refine z_anyL ?_
          repeat (walk_at "z")
          refine z_itLH h1 ?_
          refine big _ a xs _ src_L k2 (fun G' M1 H' s' z' => k3 G' H' z'.cut s') _ hm (fun p G2 H2 z2 s2 e2 => ?_)
          repeat (walk_at "z")
          exact yes hm p G2 H2 z2 s2 e2
    | tuple ds =>
      obtain ⟨a, xs, rfl, h1, h2⟩ := hd.tup
      cases m with
      | none =>
        repeat (walk_at "z")
        refine z_nN ?_
        repeat (walk_at "z")
        rw [show decide (mV none = V.non) = true from rfl]
        repeat (walk_at "z")
        refine z_anyT ?_
        repeat (walk_at "z")
        refine z_itT z1 (upT s1 h1) ?_
        refine big _ a xs _ src_T h2 (fun G' M1 H' s' z' => z'.seqT (upT s' h1)) _ rfl (fun p G2 H2 z2 s2 e2 => ?_)
        repeat (walk_at "z")
        exact yes rfl p G2 H2 z2 s2 e2
      | some m =>
        repeat (walk_at "z")
        refine z_nN ?_
        repeat (walk_at "z")
        rw [show decide (mV (some m) = V.non) = false from rfl]
        repeat (walk_at "z")
        refine z_lenT z1 (upT s1 h1) ?_
        rw [h2.len (ds := ds)]
        repeat (walk_at "z")
        refine z_I0 (j := m) ?_
        repeat (walk_at "z")
        cases hm : moreD (some m) ds with
        | false =>
          have : m < (ds.length : Int) := by have := of_decide_eq_false hm; omega
          rw [decide_eq_true this]
          repeat (walk_at "z")
          exact no hm
        | true =>
          have : ¬ m < (ds.length : Int) := by have := of_decide_eq_true hm; omega
          rw [decide_eq_false this]
          repeat (walk_at "z")
          refine z_anyT ?_
          repeat (walk_at "z")
          refine z_itT z1 (upT s1 h1) ?_
          refine big _ a xs _ src_T h2 (fun G' M1 H' s' z' => z'.seqT (upT s' h1)) _ hm (fun p G2 H2 z2 s2 e2 => ?_)
          repeat (walk_at "z")
          exact yes hm p G2 H2 z2 s2 e2
    | _ => cases hl
end
end LW
namespace LW
open PySem PySem.Spec PyProof.Rows L2 Ys

theorem strs_of : ∀ {ds : List PyData}, ds.all wordD = true → ds = (ds.map strOf).map PyData.str
  | [], _ => rfl
  | d :: ds, h => by
    obtain ⟨h1, h2⟩ := Bool.and_eq_true_iff.mp (show (wordD d && ds.all wordD) = true from h)
    rw [List.map_cons, List.map_cons, ← strs_of h2]
    cases d <;> first | rfl | cases h1
theorem dts_strs {K : PySem.W.Frag} {G : Hp} : ∀ {xs : List V} {ss : List Str}, Dts K G xs (ss.map PyData.str) → xs = ss.map V.str
  | [], [], _ => rfl
  | _, s :: ss, h => by
    cases h with
    | cons h1 h2 =>
      cases h1
      rw [List.map_cons, ← dts_strs h2]
  | _ :: _, [], h => by cases h
theorem ar_strs {K : PySem.W.Frag} {G H : Hp} {M : List (Addr × HO)} {v : V} {d : PyData} {ss : List Str} (z : Zp G M H) (h : Ar K G M v d) (hl : listD d = true) (hi : itemsD d = ss.map PyData.str) :
    ∃ a, v = .ref a ∧ ∀ G1 H1, Zp G1 M H1 → Same G G1 → SqL K H1 a (ss.map V.str) ∨ SqT K H1 a (ss.map V.str) := by
  cases d with
  | list ds =>
    obtain ⟨a, xs, rfl, h1, h2, h3⟩ := h.list z
    rw [show ds = ss.map PyData.str from hi] at h2
    obtain rfl := dts_strs h2
    exact ⟨a, rfl, fun G1 H1 z1 s1 => .inl (h3 G1 H1 z1 s1)⟩
  | tuple ds =>
    obtain ⟨a, xs, rfl, h1, h2⟩ := h.tup
    rw [show ds = ss.map PyData.str from hi] at h2
    obtain rfl := dts_strs h2
    exact ⟨a, rfl, fun G1 H1 z1 s1 => .inr (z1.seqT (upT s1 h1))⟩
  | _ => cases hl
theorem dd_lenV {l ss : List Str} (h : ∀ x, x ∈ l ↔ x ∈ ss) (nd : l.Nodup) : l.length = (dd ss).length :=
  ((List.perm_ext_iff_of_nodup nd (dd_nodup ss)).mpr fun x => (h x).trans mem_dd.symm).length_eq
section
variable {P : Program} {w : World} {K : PySem.W.Frag} {mg : Str → Option Value} {base : Heap} {f : Addr} {fd : FuncData}
def spDiff (K : PySem.W.Frag) : Sp := fun vs H Q _ => ∃ G M v d m, vs = [v, mV m] ∧ Zp G M H ∧ Ar K G M v d ∧ FineD d ∧ ∀ G1 H1, Zp G1 M H1 → Same G G1 → Q (.bl (diffD m d)) H1
theorem ok_diff (T : Nm K mg) (C_are_words : Own P w K mg base CX0 2 "are_words" ["value", "most"] (spAreWords K)) (F : FunD K "are_different_words" "are_different_words" (defArgs s_are_different_words) (defBody s_are_different_words) (defScope s_are_different_words) [.non] [] f fd) :
    FnOk P w K mg base CX0 3 f fd ["value", "most"] (spDiff K) := by
  have nd : N_are_different_words.Nodup := sc_are_different_words.nd
  refine F.ok sc_are_different_words (fun vs H Q E h => ?_) (fun cdv A outer s H vs Q E hr h => ?_)
  · obtain ⟨G, M, v, d, m, rfl, _⟩ := h
    rfl
  have hu := hr.units
  refine ⟨_, PSs.nox   (pss_one (ps_ret (pe_and (pe_own C_are_words (hr.mono (by omega)) (by rfl) pass0 (pa_cons (pv 0) (pa_cons (pv 1) pa_nil))) (pe_one (pe_cmpR (k_eq (K := K) hu) (pe_callB (kc_len (K := K) (P := P) (w := w)) (by rfl) T.b_len PySem.boot_len (pa_cons (pe_callTy (kc_set (K := K) (P := P) (w := w) rfl) (by rfl) T.b_set boot_set (pa_cons (pv 0) pa_nil)) pa_nil)) (pe_callB (kc_len (K := K) (P := P) (w := w)) (by rfl) T.b_len PySem.boot_len (pa_cons (pv 0) pa_nil)) (nomark _)))))), ?_⟩
  obtain ⟨G, M, v, d, m, rfl, z, hd, hf, q⟩ := h
  repeat (walk_at "z")
  refine ⟨G, M, v, d, m, rfl, z, hd, hf, fun G1 H1 z1 s1 => ?_⟩
  repeat (walk_at "z")
  cases hw : wordsD m d with
  | false =>
    repeat (walk_at "z")
    have := q G1 H1 z1 s1
    unfold diffD at this
    rw [hw] at this
    exact this
  | true =>
    obtain ⟨hl, h2⟩ := Bool.and_eq_true_iff.mp hw
    obtain ⟨_, h3⟩ := Bool.and_eq_true_iff.mp h2
    have hi := strs_of h3
    obtain ⟨a, rfl, hS⟩ := ar_strs z hd hl hi
    have hlen : ((itemsD d).map strOf).length = (itemsD d).length := List.length_map ..
    have hfl := hf.1
    repeat (walk_at "z")
    refine z_setH z1 (hS G1 H1 z1 s1) (by omega) fun p l G2 H2 z2 s2 e2 m2 nd2 l2 => ?_
    repeat (walk_at "z")
    refine z_lenX z2 e2 (by omega) ?_
    repeat (walk_at "z")
    refine z_lenH (hS G2 _ z2 (s1.trans s2)) ?_
    repeat (walk_at "z")
    refine z_eqS rfl ?_
    have := q G2 _ z2 (s1.trans s2)
    unfold diffD at this
    rw [hw, Bool.true_and, ← dd_lenV m2 nd2] at this
    rw [List.length_map, hlen]
    have e : decide (V.int (l.length : Int) = V.int ((itemsD d).length : Int)) = decide (l.length = (itemsD d).length) := by
      by_cases c : l.length = (itemsD d).length
      · rw [decide_eq_true c, c]
        exact decide_eq_true rfl
      · rw [decide_eq_false c]
        exact decide_eq_false fun h => c (by have := V.int.inj h; omega)
    rw [e]
    exact this
def spAscA (K : PySem.W.Frag) : Sp := fun vs H Q _ => ∃ G M v d, ∃ ss : List Str, vs = [v] ∧ Zp G M H ∧ Ar K G M v d ∧ listD d = true ∧ itemsD d = ss.map PyData.str ∧ ss.length < 64 ∧
  ∀ p G1 H1, Zp G1 M H1 → Same G G1 → SqT K G1 p ((asc ss).map V.str) → Q (.ref p) H1
theorem ok_ascA (T : Nm K mg) (F : FnP K "ascending" s_ascending f fd) : FnOk P w K mg base CX0 1 f fd ["words"] (spAscA K) := by
  have nd : N_ascending.Nodup := sc_ascending.nd
  refine F.ok sc_ascending (fun vs H Q E h => ?_) (fun cdv A outer s H vs Q E hr h => ?_)
  · obtain ⟨G, M, v, d, ss, rfl, _⟩ := h
    rfl
  have hu := hr.units
  refine ⟨_, PSs.nox   (pss_one (ps_ret (pe_callTy (kc_tuple (K := K)) (by rfl) T.b_tuple boot_tuple (pa_cons (pe_callB (kc_sorted (K := K) (P := P) (w := w) rfl) (by rfl) T.b_sorted boot_sorted (pa_cons (pe_callTy (kc_set (K := K) (P := P) (w := w) rfl) (by rfl) T.b_set boot_set (pa_cons (pv 0) pa_nil)) pa_nil)) pa_nil)))), ?_⟩
  obtain ⟨G, M, v, d, ss, rfl, z, hd, hl, hi, hs, q⟩ := h
  obtain ⟨a, rfl, hS⟩ := ar_strs z hd hl hi
  repeat (walk_at "z")
  refine z_setH z (hS G H z (Same.refl G)) (by omega) fun p l G2 H2 z2 s2 e2 m2 nd2 l2 => ?_
  repeat (walk_at "z")
  refine z_sortX z2 e2 m2 nd2 (by omega) fun p3 G3 H3 z3 s3 e3 => ?_
  repeat (walk_at "z")
  exact z_tupL z3 (SqL.of e3) fun p4 G4 H4 z4 s4 h4 => q p4 G4 H4 z4 ((s2.trans s3).trans s4) h4
end
end LW
namespace LW
open PySem PySem.Spec PyProof.Rows L2 Ys

/-! ### tasks -/
structure TkD where
  role : Option Str
  many : Int
  l1 : List Str
  l2 : List Str
  l3 : List Str
  l4 : List Str
def rV : Option Str → V
  | none => .non
  | some s => .str s
def rP : Option Str → PyData
  | none => .none
  | some s => .str s
theorem rDt {K : PySem.W.Frag} {G : Hp} (r : Option Str) : Dt K G (rV r) (rP r) := by cases r <;> constructor
structure TaskC (K : PySem.W.Frag) (C : Addr) : Prop where
  cl : Cls K C
  n1 : NoAttr K C "own_role"
  n2 : NoAttr K C "own_many"
  n3 : NoAttr K C "own_other"
  n4 : NoAttr K C "own_same"
  n5 : NoAttr K C "own_takes"
  n6 : NoAttr K C "own_forgets"
def tfs (t : TkD) (t1 t2 t3 t4 : Addr) : List (Str × V) := [("own_role", rV t.role), ("own_many", .int t.many), ("own_other", .ref t1), ("own_same", .ref t2), ("own_takes", .ref t3), ("own_forgets", .ref t4)]
def TkI (K : PySem.W.Frag) (G : Hp) (C a : Addr) (t : TkD) : Prop := ∃ dx t1 t2 t3 t4, G a = some (.ins C dx (tfs t t1 t2 t3 t4)) ∧ SqT K G t1 (t.l1.map V.str) ∧ SqT K G t2 (t.l2.map V.str) ∧ SqT K G t3 (t.l3.map V.str) ∧ SqT K G t4 (t.l4.map V.str)
theorem TkI.up {K : PySem.W.Frag} {G G1 : Hp} {C a : Addr} {t : TkD} (s : Same G G1) (h : TkI K G C a t) : TkI K G1 C a t := by
  obtain ⟨dx, t1, t2, t3, t4, h0, h1, h2, h3, h4⟩ := h
  exact ⟨dx, t1, t2, t3, t4, s _ _ h0, upT s h1, upT s h2, upT s h3, upT s h4⟩
structure OkL (d : PyData) (ss : List Str) : Prop where
  li : listD d = true
  it : itemsD d = ss.map PyData.str
  wd : ∀ s ∈ ss, wordS s = true
  nd : ss.Nodup
  le : ss.length ≤ 60
theorem strOf_map : ∀ ss : List Str, (ss.map PyData.str).map strOf = ss
  | [] => rfl
  | s :: ss => congrArg (s :: ·) (strOf_map ss)
theorem wordS_len {s : Str} (h : wordS s = true) : s.length ≤ 8 := by
  obtain ⟨_, h2⟩ := Bool.and_eq_true_iff.mp h
  obtain ⟨h3, _⟩ := Bool.and_eq_true_iff.mp h2
  exact of_decide_eq_true h3
theorem OkL.fine {d : PyData} {ss : List Str} (h : OkL d ss) : FineD d := by
  refine ⟨by rw [h.it, List.length_map]; have := h.le; omega, fun e he => ?_⟩
  rw [h.it] at he
  obtain ⟨s, hs, rfl⟩ := List.mem_map.mp he
  rintro s' e'
  cases e'
  have := wordS_len (h.wd s hs)
  omega
theorem OkL.diff {d : PyData} {ss : List Str} (h : OkL d ss) : diffD none d = true := by
  unfold diffD wordsD
  rw [h.li, h.it, strOf_map, List.length_map]
  have e : (ss.map PyData.str).all wordD = true := by
    rw [List.all_eq_true]
    intro x hx
    obtain ⟨s, hs, rfl⟩ := List.mem_map.mp hx
    exact h.wd s hs
  rw [e, ← dd_lenV (fun x => Iff.rfl) h.nd]
  simp [moreD]
theorem ar_up {K : PySem.W.Frag} {G G1 : Hp} {M M1 : List (Addr × HO)} {v : V} {d : PyData} (h : Ar K G M v d) (s : Same G G1) (t : ∀ u ∈ M, u ∈ M1) : Ar K G1 M1 v d := (h.up s).sub t
section
variable {P : Program} {w : World} {K : PySem.W.Frag} {mg : Str → Option Value} {base : Heap} {f : Addr} {fd : FuncData} {C : Addr}
def OkRole (r : Option Str) : Prop := ∀ s, r = some s → wordS s = true
def spInit (K : PySem.W.Frag) (C : Addr) : Sp := fun vs H Q _ => ∃ x dx G M r m v1 v2 v3 v4 d1 d2 d3 d4, ∃ s1 s2 s3 s4 : List Str, vs = [.ref x, rV r, .int m, v1, v2, v3, v4] ∧ Zp G (M ++ [(x, .ins C dx [])]) H ∧ OkRole r ∧ 1 ≤ m ∧ m ≤ 3 ∧
  (Ar K G M v1 d1 ∧ OkL d1 s1) ∧ (Ar K G M v2 d2 ∧ OkL d2 s2) ∧ (Ar K G M v3 d3 ∧ OkL d3 s3) ∧ (Ar K G M v4 d4 ∧ OkL d4 s4) ∧
  ∀ G1 H1, Zp G1 M H1 → Same G G1 → TkI K G1 C x ⟨r, m, asc s1, asc s2, asc s3, asc s4⟩ → Q .non H1
theorem ok_init (T : Nm K mg) (TC : TaskC K C) (C_is_word : OwnWV P w K mg base) (C_is_within : Own P w K mg base CX0 2 "is_within" ["value", "least", "most"] (spWithin K))
    (C_are_different_words_1 : OwnA P w K mg base CX0 3 "are_different_words" ["value", "most"] [.non] (spDiff K)) (C_ascendingA : Own P w K mg base CX0 1 "ascending" ["words"] (spAscA K))
    {kws : List (Str × V)} (F : FunD K "__init__" "Task.__init__" (defArgs s_Task_init) (defBody s_Task_init) (defScope s_Task_init) [.non] kws f fd) :
    FnOk P w K mg base CX0 4 f fd ["self", "role", "many", "other", "same", "takes", "forgets"] (spInit K C) := by
  have nd : N_Task_init.Nodup := sc_Task_init.nd
  refine F.ok sc_Task_init (fun vs H Q E h => ?_) (fun cdv A outer s H vs Q E hr h => ?_)
  · obtain ⟨x, dx, G, M, r, m, v1, v2, v3, v4, d1, d2, d3, d4, s1, s2, s3, s4, rfl, _⟩ := h
    rfl
  have hu := hr.units
  refine ⟨_, PSs.nox   (pss_cons (ps_if (PW.pt (pw_and (pt_cmpR o_notN (pv 1) pe_non (nomark _)) (pw_and1 (pt_not (pt_val (pe_own C_is_word (hr.mono (by omega)) (by rfl) pass0 (pa_cons (pv 1) pa_nil))))))) (pss_one ps_never) pss_nil)
    (pss_cons (ps_if (pt_not (pt_val (pe_own C_is_within (hr.mono (by omega)) (by rfl) pass0 (pa_cons (pv 2) (pa_cons pe_int (pa_cons (pe_gC T.g_MANY (by rfl)) pa_nil)))))) (pss_one ps_never) pss_nil)
    (pss_cons (ps_for PassesOwn.never rfl (k_tup (K := K) (pe_tup (pa_cons (pe_tup (pa_cons pe_str (pa_cons (pv 3) pa_nil))) (pa_cons (pe_tup (pa_cons pe_str (pa_cons (pv 4) pa_nil))) (pa_cons (pe_tup (pa_cons pe_str (pa_cons (pv 5) pa_nil))) (pa_cons (pe_tup (pa_cons pe_str (pa_cons (pv 6) pa_nil))) pa_nil)))))) (kg_tup (K := K) (n := 2) rfl (pgs_cons (pg_name (i := 7) nd rfl (by first | exact .inl rfl | exact .inr rfl)) (pgs_cons (pg_name (i := 8) nd rfl (by first | exact .inl rfl | exact .inr rfl)) pgs_nil))) (pss_one (ps_if (pt_not (pt_val (pe_ownA C_are_different_words_1 (hr.mono (by decide)) (by rfl) pass0 (pa_cons (pv 8) pa_nil)))) (pss_one ps_never) pss_nil)))
    (pss_cons (ps_fld (pv 0) (pv 1) rfl)
    (pss_cons (ps_fld (pv 0) (pv 2) rfl)
    (pss_cons (ps_fld (pv 0) (pe_own C_ascendingA (hr.mono (by omega)) (by rfl) pass0 (pa_cons (pv 3) pa_nil)) rfl)
    (pss_cons (ps_fld (pv 0) (pe_own C_ascendingA (hr.mono (by omega)) (by rfl) pass0 (pa_cons (pv 4) pa_nil)) rfl)
    (pss_cons (ps_fld (pv 0) (pe_own C_ascendingA (hr.mono (by omega)) (by rfl) pass0 (pa_cons (pv 5) pa_nil)) rfl)
    (pss_one (ps_fld (pv 0) (pe_own C_ascendingA (hr.mono (by omega)) (by rfl) pass0 (pa_cons (pv 6) pa_nil)) rfl)))))))))), ?_⟩
  obtain ⟨x, dx, G, M, r, m, v1, v2, v3, v4, d1, d2, d3, d4, ss1, ss2, ss3, ss4, rfl, z, hr1, hm1, hm2, ⟨a1, o1⟩, ⟨a2, o2⟩, ⟨a3, o3⟩, ⟨a4, o4⟩, q⟩ := h
  have up : ∀ {G : Hp} {v : V} {d : PyData}, Ar K G M v d → Ar K G (M ++ [(x, .ins C dx [])]) v d := fun h => h.sub fun u hu => List.mem_append_left _ hu
  have up2 : ∀ (fs : List (Str × V)), ∀ u ∈ M, u ∈ M ++ [(x, HO.ins C dx fs)] := fun fs u hu => List.mem_append_left _ hu
  with_reducible refine z_cut (fun σ H1 => ∃ G1, Zp G1 (M ++ [(x, .ins C dx [])]) H1 ∧ Same G G1 ∧ σ = L2.start N_Task_init [.ref x, rV r, .int m, v1, v2, v3, v4]) (fun nx hnx => ?_) (fun σ H1 h1 => ?_)
  · repeat (walk_at "z")
    refine z_nN ?_
    repeat (walk_at "z")
    cases r with
    | none =>
      rw [show decide (rV none = V.non) = true from rfl]
      repeat (walk_at "z")
      exact hnx _ _ ⟨G, z, Same.refl G, rfl⟩
    | some rs =>
      rw [show decide (rV (some rs) = V.non) = false from rfl]
      repeat (walk_at "z")
      have hw := hr1 rs rfl
      refine ⟨G, _, .str rs, .str rs, rfl, z, .str rs, ?_, fun G1 H1 z1 s1 => ?_⟩
      · rintro s' e'
        cases e'
        have := wordS_len hw
        omega
      rw [show wordD (.str rs) = true from hw]
      repeat (walk_at "z")
      exact hnx _ _ ⟨G1, z1, s1, rfl⟩
  obtain ⟨G1, z1, s1, rfl⟩ := h1
  with_reducible refine z_cut (fun σ H2 => H2 = H1 ∧ σ = L2.start N_Task_init [.ref x, rV r, .int m, v1, v2, v3, v4]) (fun nx hnx => ?_) (fun σ H2 h2 => ?_)
  · repeat (walk_at "z")
    refine ⟨G1, _, _, .int m, 1, 3, rfl, z1, .int m, ?_⟩
    repeat (walk_at "z")
    rw [show withinD 1 3 (.int m) = true by show (decide (1 ≤ m) && decide (m ≤ 3)) = true; rw [decide_eq_true hm1, decide_eq_true hm2]; rfl]
    repeat (walk_at "z")
    exact hnx _ _ ⟨rfl, rfl⟩
  obtain ⟨rfl, rfl⟩ := h2
  with_reducible refine z_cut (fun σ H3 => ∃ G2 k7 k8, Zp G2 (M ++ [(x, .ins C dx [])]) H3 ∧ Same G1 G2 ∧ σ = [some (.ref x), some (rV r), some (.int m), some v1, some v2, some v3, some v4, k7, k8]) (fun nx hnx => ?_) (fun σ H3 h3 => ?_)
  · repeat (walk_at "z")
    refine z_newT z1 (by simp) fun p2 G2 H2 z2 s2 e2 => ?_
    repeat (walk_at "z")
    refine z_newT z2 (by simp) fun p3 G3 H3 z3 s3 e3 => ?_
    repeat (walk_at "z")
    refine z_newT z3 (by simp) fun p4 G4 H4 z4 s4 e4 => ?_
    repeat (walk_at "z")
    refine z_newT z4 (by simp) fun p5 G5 H5 z5 s5 e5 => ?_
    repeat (walk_at "z")
    refine z_newT z5 (by simp) fun p6 G6 H6 z6 s6 e6 => ?_
    repeat (walk_at "z")
    refine z_itT z6 (SqT.of e6) ?_
    have t0 : Same G G6 := s1.trans (s2.trans (s3.trans (s4.trans (s5.trans s6))))
    refine for_src src_T (fun i σ G' M' => ∃ k7 k8, M' = M ++ [(x, .ins C dx [])] ∧ Same G6 G' ∧ σ = [some (.ref x), some (rV r), some (.int m), some v1, some v2, some v3, some v4, k7, k8]) z6 ⟨_, _, rfl, Same.refl _, rfl⟩
      (fun i σ G' M' H' ⟨_, _, _, s', _⟩ z' => z'.seqT (upT s' (SqT.of e6))) ?_ ?_
    · rintro i x1 σ G' M' H' hx ⟨k7, k8, rfl, s', rfl⟩ z'
      have hmem : x1 ∈ [V.ref p2, V.ref p3, V.ref p4, V.ref p5] := List.mem_of_getElem? hx
      obtain ⟨pp, fl, v, d, ss, rfl, hp, ha, ho⟩ : ∃ pp, ∃ fl : Str, ∃ v d ss, x1 = .ref pp ∧ G6 pp = some (.tup [.str fl, v]) ∧ Ar K G M v d ∧ OkL d ss := by
        simp at hmem
        rcases hmem with rfl | rfl | rfl | rfl
        · exact ⟨p2, _, v1, d1, ss1, rfl, s6 _ _ (s5 _ _ (s4 _ _ (s3 _ _ e2))), a1, o1⟩
        · exact ⟨p3, _, v2, d2, ss2, rfl, s6 _ _ (s5 _ _ (s4 _ _ e3)), a2, o2⟩
        · exact ⟨p4, _, v3, d3, ss3, rfl, s6 _ _ (s5 _ _ e4), a3, o3⟩
        · exact ⟨p5, _, v4, d4, ss4, rfl, s6 _ _ e5, a4, o4⟩
      refine z_gtup z' (SqT.of (s' _ _ hp)) rfl ?_
      repeat (walk_at "z")
      refine ⟨G', _, v, d, none, rfl, z', up (ha.up (t0.trans s')), ho.fine, fun G7 H7 z7 s7 => ?_⟩
      repeat (walk_at "z")
      rw [ho.diff]
      repeat (walk_at "z")
      exact ⟨G7, _, z7, _, _, rfl, s'.trans s7, rfl⟩
    · rintro σ G' M' H' ⟨k7, k8, rfl, s', rfl⟩ z'
      exact hnx _ _ ⟨G', k7, k8, z', s2.trans (s3.trans (s4.trans (s5.trans (s6.trans s')))), rfl⟩
  obtain ⟨G2, k7, k8, z2, s2, rfl⟩ := h3
  have s12 := s1.trans s2
  repeat (walk_at "z")
  refine z_fsL z2 TC.cl TC.n1 (by decide) fun H4 z4 => ?_
  repeat (walk_at "z")
  refine z_fsL z4 TC.cl TC.n2 (by repeat (first | decide | refine putF_lt ?_)) fun H5 z5 => ?_
  repeat (walk_at "z")
  refine ⟨G2, _, v1, d1, ss1, rfl, z5, ar_up a1 s12 (up2 _), o1.li, o1.it, by have := o1.le; omega, fun p6 G6 H6 z6 s6 h6 => ?_⟩
  repeat (walk_at "z")
  refine z_fsL z6 TC.cl TC.n3 (by repeat (first | decide | refine putF_lt ?_)) fun H7 z7 => ?_
  repeat (walk_at "z")
  refine ⟨G6, _, v2, d2, ss2, rfl, z7, ar_up a2 (s12.trans s6) (up2 _), o2.li, o2.it, by have := o2.le; omega, fun p8 G8 H8 z8 s8 h8 => ?_⟩
  repeat (walk_at "z")
  refine z_fsL z8 TC.cl TC.n4 (by repeat (first | decide | refine putF_lt ?_)) fun H9 z9 => ?_
  repeat (walk_at "z")
  refine ⟨G8, _, v3, d3, ss3, rfl, z9, ar_up a3 (s12.trans (s6.trans s8)) (up2 _), o3.li, o3.it, by have := o3.le; omega, fun p10 G10 H10 z10 s10 h10 => ?_⟩
  repeat (walk_at "z")
  refine z_fsL z10 TC.cl TC.n5 (by repeat (first | decide | refine putF_lt ?_)) fun H11 z11 => ?_
  repeat (walk_at "z")
  refine ⟨G10, _, v4, d4, ss4, rfl, z11, ar_up a4 (s12.trans (s6.trans (s8.trans s10))) (up2 _), o4.li, o4.it, by have := o4.le; omega, fun p12 G12 H12 z12 s12' h12 => ?_⟩
  repeat (walk_at "z")
  refine z_fsL z12 TC.cl TC.n6 (by repeat (first | decide | refine putF_lt ?_)) fun H13 z13 => ?_
  have fr : G12 x = none := (z13.own M.length _ _ last_at).2
  have sN := Same.new (o := HO.ins C dx (tfs ⟨r, m, asc ss1, asc ss2, asc ss3, asc ss4⟩ p6 p8 p10 p12)) fr
  refine q _ _ z13.fix (s12.trans (s6.trans (s8.trans (s10.trans (s12'.trans sN))))) ⟨dx, p6, p8, p10, p12, upd_same, upT (s8.trans (s10.trans (s12'.trans sN))) h6, upT (s10.trans (s12'.trans sN)) h8, upT (s12'.trans sN) h10, upT sN h12⟩
end
end LW
namespace LW
open PySem PySem.Spec PyProof.Rows L2 Ys

def strsP (l : List Str) : PyData := .tuple (l.map PyData.str)
def likeP (t : TkD) : PyData := .tuple [rP t.role, .int t.many, .tuple [strsP t.l1, strsP t.l2, strsP t.l3, strsP t.l4]]
def plainP (t : TkD) : PyData := .tuple [rP t.role, .int t.many, strsP t.l1, strsP t.l2, strsP t.l3, strsP t.l4]
structure GoodL (l : List Str) : Prop where
  wd : ∀ s ∈ l, wordS s = true
  le : l.length ≤ 60
structure GoodT (t : TkD) : Prop where
  ro : OkRole t.role
  g1 : GoodL t.l1
  g2 : GoodL t.l2
  g3 : GoodL t.l3
  g4 : GoodL t.l4
theorem wordS_lt {s : Str} (h : wordS s = true) : Lt s := fun c hc => by
  obtain ⟨_, h2⟩ := Bool.and_eq_true_iff.mp h
  obtain ⟨_, h3⟩ := Bool.and_eq_true_iff.mp h2
  exact abc_mem (of_decide_eq_true (List.all_eq_true.mp h3 c hc))
theorem wd_word {s : Str} (h : Wd s) : wordS s = true := by
  unfold wordS
  rw [decide_eq_true h.1, decide_eq_true h.2.1]
  show s.cps.toList.all _ = true
  rw [List.all_eq_true]
  intro c hc
  refine decide_eq_true ?_
  have := h.2.2 c hc
  have e : abcL = (List.range 26).map (· + 97) := by decide +kernel
  rw [e, List.mem_map]
  exact ⟨c - 97, List.mem_range.mpr (by omega), by omega⟩
structure Fin (d : PyData) (n : Nat) : Prop where
  cl : d.canLay0 = true
  dp : d.depth ≤ n
theorem Fin.sh {d : PyData} {n : Nat} (h : Fin d n) (hn : n ≤ 60) : SeqAt.shaped d = true := by
  unfold SeqAt.shaped
  rw [h.cl]
  have := h.dp
  simp
  omega
theorem fin_all {n : Nat} : ∀ {ds : List PyData}, (∀ d ∈ ds, Fin d n) → PyData.canLayAll0 ds = true ∧ PyData.depthAll ds ≤ n
  | [], _ => ⟨rfl, Nat.zero_le _⟩
  | d :: ds, h => by
    obtain ⟨h1, h2⟩ := fin_all (ds := ds) fun e he => h e (List.mem_cons_of_mem _ he)
    have h0 := h d (List.mem_cons_self ..)
    refine ⟨?_, ?_⟩
    · show (d.canLay0 && PyData.canLayAll0 ds) = true
      rw [h0.cl, h1]
      rfl
    · show max d.depth (PyData.depthAll ds) ≤ n
      have := h0.dp
      omega
theorem fin_tup {n : Nat} {ds : List PyData} (h : ∀ d ∈ ds, Fin d n) : Fin (.tuple ds) (n + 1) := ⟨(fin_all h).1, Nat.succ_le_succ (fin_all h).2⟩
theorem fin_mono {n m : Nat} {d : PyData} (h : Fin d n) (hn : n ≤ m) : Fin d m := ⟨h.cl, Nat.le_trans h.dp hn⟩
theorem fin_str {s : Str} (h : wordS s = true) : Fin (.str s) 0 := ⟨(wordS_lt h).ok, Nat.zero_le _⟩
theorem fin_int (i : Int) : Fin (.int i) 0 := ⟨rfl, Nat.zero_le _⟩
theorem fin_role {r : Option Str} (h : OkRole r) : Fin (rP r) 0 := by
  cases r with
  | none => exact ⟨rfl, Nat.zero_le _⟩
  | some s => exact fin_str (h s rfl)
theorem fin_strs {l : List Str} (h : GoodL l) : Fin (strsP l) 1 := fin_tup fun d hd => by
  obtain ⟨s, hs, rfl⟩ := List.mem_map.mp hd
  exact fin_str (h.wd s hs)
theorem fin_like {t : TkD} (h : GoodT t) : Fin (likeP t) 3 := by
  refine fin_tup (n := 2) fun d hd => ?_
  rcases List.mem_cons.mp hd with rfl | hd
  · exact fin_mono (fin_role h.ro) (by decide)
  rcases List.mem_cons.mp hd with rfl | hd
  · exact fin_mono (fin_int _) (by decide)
  rcases List.mem_cons.mp hd with rfl | hd
  · refine fin_tup (n := 1) fun d hd => ?_
    rcases List.mem_cons.mp hd with rfl | hd
    · exact fin_strs h.g1
    rcases List.mem_cons.mp hd with rfl | hd
    · exact fin_strs h.g2
    rcases List.mem_cons.mp hd with rfl | hd
    · exact fin_strs h.g3
    rcases List.mem_cons.mp hd with rfl | hd
    · exact fin_strs h.g4
    · cases hd
  · cases hd
theorem fin_plain {t : TkD} (h : GoodT t) : Fin (plainP t) 2 := by
  refine fin_tup (n := 1) fun d hd => ?_
  rcases List.mem_cons.mp hd with rfl | hd
  · exact fin_mono (fin_role h.ro) (by decide)
  rcases List.mem_cons.mp hd with rfl | hd
  · exact fin_mono (fin_int _) (by decide)
  rcases List.mem_cons.mp hd with rfl | hd
  · exact fin_strs h.g1
  rcases List.mem_cons.mp hd with rfl | hd
  · exact fin_strs h.g2
  rcases List.mem_cons.mp hd with rfl | hd
  · exact fin_strs h.g3
  rcases List.mem_cons.mp hd with rfl | hd
  · exact fin_strs h.g4
  · cases hd
structure TaskT (K : PySem.W.Frag) (C : Addr) : Prop where
  cl : Cls K C
  ha : PySem.W.findIn K (.ref C) "__class__" = some (some (.builtin "object.__class__"))
  hn : PySem.W.specialIn K (.builtin "object.__class__") "__get__" = some (some (.builtin "getset_descriptor.__get__"))
  ht : PySem.W.takesIn K (.builtin "object.__class__") = some true
  hm : PySem.W.mroIn K C (.type "object") = some true
  own : ((PySem.W.clsIn K C).isSome && PySem.W.typeIn K (.ref C) == some (.type "type")) = true
theorem TaskT.ty {K : PySem.W.Frag} {C : Addr} (h : TaskT K C) {H : Hp} {a dx : Addr} {fs : List (Str × V)} (e : H a = some (.ins C dx fs)) : TyX K H (.ref a) (.ref C) := .base (.ins e h.cl h.ha h.hn h.ht h.hm)
theorem TkI.obj {K : PySem.W.Frag} {G : Hp} {C a : Addr} {t : TkD} (h : TkI K G C a t) : ∃ dx fs, G a = some (.ins C dx fs) := let ⟨dx, t1, t2, t3, t4, h0, _⟩ := h; ⟨dx, _, h0⟩
section
variable {P : Program} {w : World} {K : PySem.W.Frag} {mg : Str → Option Value} {base : Heap} {f : Addr} {fd : FuncData} {C : Addr}
def spGet (x : Str) (C : Addr) : Sp := fun vs H Q _ => ∃ a dx fs v, vs = [.ref a] ∧ H a = some (.ins C dx fs) ∧ fs.lookup x = some v ∧ Q v H

theorem ok_g1 (TC : TaskC K C) (F : FunD K "role" "Task.role" (defArgs s_Task_role) (defBody s_Task_role) (defScope s_Task_role) [] [] f fd) : FnOk P w K mg base CX0 1 f fd ["self"] (spGet "own_role" C) := by
  have nd : N_Task_role.Nodup := sc_Task_role.nd
  refine F.ok sc_Task_role (fun vs H Q E h => ?_) (fun cdv A outer s H vs Q E hr h => ?_)
  · obtain ⟨a, dx, fs, v, rfl, _⟩ := h
    rfl
  have hu := hr.units
  refine ⟨_, PSs.nox   (pss_one (ps_ret (k_fld (K := K) (pv 0) rfl))), ?_⟩
  obtain ⟨a, dx, fs, v, rfl, ha, l, q⟩ := h
  repeat (walk_at "z")
  exact ⟨a, C, dx, fs, v, rfl, ha, TC.cl, TC.n1, l, q⟩

theorem ok_g2 (TC : TaskC K C) (F : FunD K "many" "Task.many" (defArgs s_Task_many) (defBody s_Task_many) (defScope s_Task_many) [] [] f fd) : FnOk P w K mg base CX0 1 f fd ["self"] (spGet "own_many" C) := by
  have nd : N_Task_many.Nodup := sc_Task_many.nd
  refine F.ok sc_Task_many (fun vs H Q E h => ?_) (fun cdv A outer s H vs Q E hr h => ?_)
  · obtain ⟨a, dx, fs, v, rfl, _⟩ := h
    rfl
  have hu := hr.units
  refine ⟨_, PSs.nox   (pss_one (ps_ret (k_fld (K := K) (pv 0) rfl))), ?_⟩
  obtain ⟨a, dx, fs, v, rfl, ha, l, q⟩ := h
  repeat (walk_at "z")
  exact ⟨a, C, dx, fs, v, rfl, ha, TC.cl, TC.n2, l, q⟩

theorem ok_g3 (TC : TaskC K C) (F : FunD K "other" "Task.other" (defArgs s_Task_other) (defBody s_Task_other) (defScope s_Task_other) [] [] f fd) : FnOk P w K mg base CX0 1 f fd ["self"] (spGet "own_other" C) := by
  have nd : N_Task_other.Nodup := sc_Task_other.nd
  refine F.ok sc_Task_other (fun vs H Q E h => ?_) (fun cdv A outer s H vs Q E hr h => ?_)
  · obtain ⟨a, dx, fs, v, rfl, _⟩ := h
    rfl
  have hu := hr.units
  refine ⟨_, PSs.nox   (pss_one (ps_ret (k_fld (K := K) (pv 0) rfl))), ?_⟩
  obtain ⟨a, dx, fs, v, rfl, ha, l, q⟩ := h
  repeat (walk_at "z")
  exact ⟨a, C, dx, fs, v, rfl, ha, TC.cl, TC.n3, l, q⟩

theorem ok_g4 (TC : TaskC K C) (F : FunD K "same" "Task.same" (defArgs s_Task_same) (defBody s_Task_same) (defScope s_Task_same) [] [] f fd) : FnOk P w K mg base CX0 1 f fd ["self"] (spGet "own_same" C) := by
  have nd : N_Task_same.Nodup := sc_Task_same.nd
  refine F.ok sc_Task_same (fun vs H Q E h => ?_) (fun cdv A outer s H vs Q E hr h => ?_)
  · obtain ⟨a, dx, fs, v, rfl, _⟩ := h
    rfl
  have hu := hr.units
  refine ⟨_, PSs.nox   (pss_one (ps_ret (k_fld (K := K) (pv 0) rfl))), ?_⟩
  obtain ⟨a, dx, fs, v, rfl, ha, l, q⟩ := h
  repeat (walk_at "z")
  exact ⟨a, C, dx, fs, v, rfl, ha, TC.cl, TC.n4, l, q⟩

theorem ok_g5 (TC : TaskC K C) (F : FunD K "takes" "Task.takes" (defArgs s_Task_takes) (defBody s_Task_takes) (defScope s_Task_takes) [] [] f fd) : FnOk P w K mg base CX0 1 f fd ["self"] (spGet "own_takes" C) := by
  have nd : N_Task_takes.Nodup := sc_Task_takes.nd
  refine F.ok sc_Task_takes (fun vs H Q E h => ?_) (fun cdv A outer s H vs Q E hr h => ?_)
  · obtain ⟨a, dx, fs, v, rfl, _⟩ := h
    rfl
  have hu := hr.units
  refine ⟨_, PSs.nox   (pss_one (ps_ret (k_fld (K := K) (pv 0) rfl))), ?_⟩
  obtain ⟨a, dx, fs, v, rfl, ha, l, q⟩ := h
  repeat (walk_at "z")
  exact ⟨a, C, dx, fs, v, rfl, ha, TC.cl, TC.n5, l, q⟩

theorem ok_g6 (TC : TaskC K C) (F : FunD K "forgets" "Task.forgets" (defArgs s_Task_forgets) (defBody s_Task_forgets) (defScope s_Task_forgets) [] [] f fd) : FnOk P w K mg base CX0 1 f fd ["self"] (spGet "own_forgets" C) := by
  have nd : N_Task_forgets.Nodup := sc_Task_forgets.nd
  refine F.ok sc_Task_forgets (fun vs H Q E h => ?_) (fun cdv A outer s H vs Q E hr h => ?_)
  · obtain ⟨a, dx, fs, v, rfl, _⟩ := h
    rfl
  have hu := hr.units
  refine ⟨_, PSs.nox   (pss_one (ps_ret (k_fld (K := K) (pv 0) rfl))), ?_⟩
  obtain ⟨a, dx, fs, v, rfl, ha, l, q⟩ := h
  repeat (walk_at "z")
  exact ⟨a, C, dx, fs, v, rfl, ha, TC.cl, TC.n6, l, q⟩

def spLike (K : PySem.W.Frag) (C : Addr) : Sp := fun vs H Q _ => ∃ G M a t, vs = [.ref a] ∧ Zp G M H ∧ TkI K G C a t ∧ ∀ p G1 H1, Zp G1 M H1 → Same G G1 → Dt K G1 (.ref p) (likeP t) → Q (.ref p) H1
theorem ok_like (TC : TaskC K C) (F : FunD K "likeness" "Task.likeness" (defArgs s_Task_likeness) (defBody s_Task_likeness) (defScope s_Task_likeness) [] [] f fd) : FnOk P w K mg base CX0 1 f fd ["self"] (spLike K C) := by
  have nd : N_Task_likeness.Nodup := sc_Task_likeness.nd
  refine F.ok sc_Task_likeness (fun vs H Q E h => ?_) (fun cdv A outer s H vs Q E hr h => ?_)
  · obtain ⟨G, M, a, t, rfl, _⟩ := h
    rfl
  have hu := hr.units
  refine ⟨_, PSs.nox   (pss_cons (ps_asg (pe_tup (pa_cons (k_fld (K := K) (pv 0) rfl) (pa_cons (k_fld (K := K) (pv 0) rfl) (pa_cons (k_fld (K := K) (pv 0) rfl) (pa_cons (k_fld (K := K) (pv 0) rfl) pa_nil))))) (pg_name (i := 1) nd rfl (by first | exact .inl rfl | exact .inr rfl)))
    (pss_one (ps_ret (pe_tup (pa_cons (k_fld (K := K) (pv 0) rfl) (pa_cons (k_fld (K := K) (pv 0) rfl) (pa_cons (pv 1) pa_nil))))))), ?_⟩
  obtain ⟨G, M, a, t, rfl, z, ⟨dx, t1, t2, t3, t4, h0, h1, h2, h3, h4⟩, q⟩ := h
  repeat (walk_at "z")
  refine z_flI z h0 TC.cl TC.n3 (by rfl) ?_
  repeat (walk_at "z")
  refine z_flI z h0 TC.cl TC.n4 (by rfl) ?_
  repeat (walk_at "z")
  refine z_flI z h0 TC.cl TC.n5 (by rfl) ?_
  repeat (walk_at "z")
  refine z_flI z h0 TC.cl TC.n6 (by rfl) ?_
  repeat (walk_at "z")
  refine z_newT z (by simp) fun p1 G1 H1 z1 s1 e1 => ?_
  repeat (walk_at "z")
  refine z_flI z1 (s1 _ _ h0) TC.cl TC.n1 (by rfl) ?_
  repeat (walk_at "z")
  refine z_flI z1 (s1 _ _ h0) TC.cl TC.n2 (by rfl) ?_
  repeat (walk_at "z")
  refine z_newT z1 (by simp) fun p2 G2 H2 z2 s2 e2 => ?_
  have s12 := s1.trans s2
  exact q p2 G2 _ z2 s12 (.tup (SqT.of e2) (.cons (rDt _) (.cons (.int _) (.cons (.tup (SqT.of (s2 _ _ e1)) (.cons (.tup (upT s12 h1) (dts_str _)) (.cons (.tup (upT s12 h2) (dts_str _)) (.cons (.tup (upT s12 h3) (dts_str _)) (.cons (.tup (upT s12 h4) (dts_str _)) .nil))))) .nil))))
def spEqT (K : PySem.W.Frag) (C : Addr) : Sp := fun vs H Q _ => ∃ G M a t v, vs = [.ref a, v] ∧ Zp G M H ∧ TkI K G C a t ∧ GoodT t ∧
  ((∃ b u, v = .ref b ∧ TkI K G C b u ∧ GoodT u ∧ ∀ G1 H1, Zp G1 M H1 → Same G G1 → Q (.bl (PyData.eqv (likeP t) (likeP u))) H1) ∨ ∃ d, Dt K G v d ∧ Q (.bl false) H)
theorem sub_own (K : PySem.W.Frag) (C : Addr) (d : PyData) : PySem.W.subIn K (.type (tyD d)) (.ref C) = some false := by
  have go : ∀ (T : String) (l : List Value), fastBuiltinMro T = some l → (∀ v ∈ l, ∃ n, v = .type n) → PySem.W.subIn K (.type T) (.ref C) = some false := by
    intro T l e h
    show (fastBuiltinMro T).map (·.contains (.ref C)) = some false
    rw [e]
    show some (l.contains (.ref C)) = some false
    congr 1
    rw [List.contains_eq_any_beq, List.any_eq_false]
    intro v hv
    obtain ⟨n, rfl⟩ := h v hv
    simp
  have h1 : ∀ (a : String), ∀ v ∈ [Value.type a, Value.type "object"], ∃ n, v = .type n := fun a v hv => by
    simp at hv
    rcases hv with rfl | rfl <;> exact ⟨_, rfl⟩
  have h3 : ∀ v ∈ [Value.type "bool", Value.type "int", Value.type "object"], ∃ n, v = .type n := fun v hv => by
    simp at hv
    rcases hv with rfl | rfl | rfl <;> exact ⟨_, rfl⟩
  cases d with
  | none => exact go "NoneType" [.type "NoneType", .type "object"] (by decide +kernel) (h1 _)
  | bool _ => exact go "bool" [.type "bool", .type "int", .type "object"] (by decide +kernel) h3
  | int _ => exact go "int" [.type "int", .type "object"] (by decide +kernel) (h1 _)
  | str _ => exact go "str" [.type "str", .type "object"] (by decide +kernel) (h1 _)
  | list _ => exact go "list" [.type "list", .type "object"] (by decide +kernel) (h1 _)
  | tuple _ => exact go "tuple" [.type "tuple", .type "object"] (by decide +kernel) (h1 _)
  | dict _ => exact go "dict" [.type "dict", .type "object"] (by decide +kernel) (h1 _)
theorem kit_own {K : PySem.W.Frag} {C : Addr} (h : ((PySem.W.clsIn K C).isSome && PySem.W.typeIn K (.ref C) == some (.type "type")) = true) (d : PyData) : PySem.W.kitOne K (.type (tyD d)) (.ref C) = some false := by
  show (if (Value.type (tyD d) == Value.ref C) = true then some true else (if ((PySem.W.clsIn K C).isSome && PySem.W.typeIn K (.ref C) == some (.type "type")) = true then PySem.W.subIn K (.type (tyD d)) (.ref C) else none)) = some false
  rw [if_neg (by simp), if_pos h, sub_own]
theorem nf_own (K : PySem.W.Frag) (C : Addr) (d : PyData) : PySem.W.notFirst K C (.type (tyD d)) = true := by
  unfold PySem.W.notFirst
  rw [sub_own]
  simp
theorem ok_eq (T : Nm K mg) (TT : TaskT K C) (g_Task : mg "Task" = some (.ref C)) (M_likeness : Mth P w K mg base CX0 1 C "likeness" ["self"] [] (spLike K C)) (F : FunD K "__eq__" "Task.__eq__" (defArgs s_Task_eq) (defBody s_Task_eq) (defScope s_Task_eq) [] [] f fd) :
    FnOk P w K mg base CX0 2 f fd ["self", "other"] (spEqT K C) := by
  have nd : N_Task_eq.Nodup := sc_Task_eq.nd
  refine F.ok sc_Task_eq (fun vs H Q E h => ?_) (fun cdv A outer s H vs Q E hr h => ?_)
  · obtain ⟨G, M, a, t, v, rfl, _⟩ := h
    rfl
  have hu := hr.units
  refine ⟨_, PSs.nox   (pss_one (ps_ret (pe_and (pe_callB (kc_isi (K := K)) (by rfl) T.b_isinstance boot_isinstance (pa_cons (pv 1) (pa_cons (pe_glob (v := .ref C) (by rfl) g_Task rfl) pa_nil))) (pe_one (pe_cmpR (k_eq (K := K) hu) (pe_mt0 M_likeness (hr.mono (by omega)) pass0 (pv 0)) (pe_mt0 M_likeness (hr.mono (by omega)) pass0 (pv 1)) (nomark _)))))), ?_⟩
  obtain ⟨G, M, a, t, v, rfl, z, ht, gt, h⟩ := h
  obtain ⟨da, fa, ea⟩ := ht.obj
  rcases h with ⟨b, u, rfl, hu2, gu, q⟩ | ⟨d, hd, q⟩
  · obtain ⟨db, fb, eb⟩ := hu2.obj
    repeat (walk_at "z")
    refine z_isi (.own C) (TT.ty (z.sub _ _ eb)) (if_pos (by simp)) ?_
    repeat (walk_at "z")
    obtain ⟨dx, t1, t2, t3, t4, h0, _⟩ := ht
    refine z_mtI z h0 (by rfl) ?_
    repeat (walk_at "z")
    refine ⟨G, M, a, t, rfl, z, ⟨dx, t1, t2, t3, t4, h0, ‹_›⟩, fun p1 G1 H1 z1 s1 e1 => ?_⟩
    repeat (walk_at "z")
    obtain ⟨dy, u1, u2, u3, u4, k0, k1⟩ := hu2
    refine z_mtI z1 (s1 _ _ k0) (by rfl) ?_
    repeat (walk_at "z")
    refine ⟨G1, M, b, u, rfl, z1, TkI.up s1 ⟨dy, u1, u2, u3, u4, k0, k1⟩, fun p2 G2 H2 z2 s2 e2 => ?_⟩
    repeat (walk_at "z")
    refine z_eqD z2 (e1.up s2) e2 ((fin_like gt).sh (by decide)) ((fin_like gu).sh (by decide)) ?_
    exact q G2 _ z2 (s1.trans s2)
  · repeat (walk_at "z")
    refine z_isi (.own C) (hd.up z.sub).ty (kit_own TT.own d) ?_
    repeat (walk_at "z")
    exact q
end
end LW
namespace LW
open PySem PySem.Spec PyProof.Rows L2 Ys

/-! ### kinds and tasks, in dicts that stay -/
def Kds (K : PySem.W.Frag) (G : Hp) : List (Key × V) → List (Str × List Str) → Prop := Paired fun p q => p.1 = .inr q.1 ∧ ∃ d, Dt K G p.2 d ∧ listD d = true ∧ itemsD d = q.2.map PyData.str
def Tks (K : PySem.W.Frag) (G : Hp) (C : Addr) : List (Key × V) → List (Str × TkD) → Prop := Paired fun p q => p.1 = .inr q.1 ∧ ∃ a, p.2 = .ref a ∧ TkI K G C a q.2
theorem Kds.up {K : PySem.W.Frag} {G G1 : Hp} {kvs kn} (h : Kds K G kvs kn) (s : Same G G1) : Kds K G1 kvs kn := L2.Paired.mapP h fun _ _ ⟨e, d, h1, h2⟩ => ⟨e, d, h1.up s, h2⟩
theorem Tks.up {K : PySem.W.Frag} {G G1 : Hp} {C : Addr} {kvs tn} (h : Tks K G C kvs tn) (s : Same G G1) : Tks K G1 C kvs tn := L2.Paired.mapP h fun _ _ ⟨e, a, h1, h2⟩ => ⟨e, a, h1, h2.up s⟩
theorem paired_keys {β : Type} {R : Key × V → Str × β → Prop} (hR : ∀ p q, R p q → p.1 = .inr q.1) : ∀ {kvs : List (Key × V)} {kn : List (Str × β)}, Paired R kvs kn → kvs.map (·.1) = (kn.map (·.1)).map .inr
  | _, _, .nil => rfl
  | _, _, .cons h t => by
    rw [List.map_cons, List.map_cons, List.map_cons, hR _ _ h, paired_keys hR t]
theorem Kds.keys {K : PySem.W.Frag} {G : Hp} {kvs kn} (h : Kds K G kvs kn) : kvs.map (·.1) = (kn.map (·.1)).map .inr := paired_keys (fun _ _ h => h.1) h
theorem Tks.keys {K : PySem.W.Frag} {G : Hp} {C : Addr} {kvs tn} (h : Tks K G C kvs tn) : kvs.map (·.1) = (tn.map (·.1)).map .inr := paired_keys (fun _ _ h => h.1) h
theorem inr_nodup : ∀ {ks : List Str}, ks.Nodup → (ks.map (fun k => (Sum.inr k : Key))).Nodup := fun h => h.map _ fun a b n e => n (Sum.inr.inj e)
theorem keys_len {α β : Type} {R : α → β → Prop} : ∀ {xs : List α} {ys : List β}, Paired R xs ys → xs.length = ys.length := fun h => Paired.length h
structure GoodK (kn : List (Str × List Str)) : Prop where
  l1 : 1 ≤ kn.length
  l3 : kn.length ≤ 3
  nd : (kn.map (·.1)).Nodup
  wd : ∀ q ∈ kn, wordS q.1 = true
  rs : ∀ q ∈ kn, q.2.length ≤ 4 ∧ q.2.Nodup ∧ ∀ s ∈ q.2, wordS s = true
structure GoodTs (tn : List (Str × TkD)) : Prop where
  l8 : tn.length ≤ 8
  nd : (tn.map (·.1)).Nodup
  wd : ∀ q ∈ tn, wordS q.1 = true
theorem dd_id : ∀ {l : List Str}, l.Nodup → dd l = l
  | [], _ => rfl
  | x :: r, h => by
    obtain ⟨h1, h2⟩ := List.nodup_cons.mp h
    show (if x ∈ r then dd r else x :: dd r) = _
    rw [if_neg h1, dd_id h2]
theorem diff_true {d : PyData} {ss : List Str} {m : Int} (hl : listD d = true) (hi : itemsD d = ss.map PyData.str) (hm : (ss.length : Int) ≤ m) (nd : ss.Nodup) (hw : ∀ s ∈ ss, wordS s = true) : diffD (some m) d = true := by
  unfold diffD wordsD
  have e1 : (ss.map PyData.str).map strOf = ss := strOf_map ss
  rw [hl, hi, e1, dd_id nd, List.length_map]
  have e2 : (ss.map PyData.str).all wordD = true := by
    rw [List.all_map, List.all_eq_true]
    exact hw
  rw [e2]
  unfold moreD
  simp
  omega
theorem fine_strs {d : PyData} {ss : List Str} (hi : itemsD d = ss.map PyData.str) (hm : ss.length ≤ 500) (hw : ∀ s ∈ ss, wordS s = true) : FineD d := by
  refine ⟨by rw [hi, List.length_map]; exact hm, fun e he => ?_⟩
  rw [hi] at he
  obtain ⟨s, hs, rfl⟩ := List.mem_map.mp he
  rintro s' e'
  cases e'
  have := wordS_len (hw s hs)
  omega
theorem pair_at {α β : Type} {R : α → β → Prop} : ∀ {xs : List α} {ys : List β} {i : Nat}, Paired R xs ys → i < xs.length → ∃ x y, xs[i]? = some x ∧ ys[i]? = some y ∧ R x y
  | _, _, _, .nil, h => absurd h (Nat.not_lt_zero _)
  | _, _, 0, .cons h _, _ => ⟨_, _, rfl, rfl, h⟩
  | _, _, i + 1, .cons _ t, h => pair_at (i := i) t (Nat.lt_of_succ_lt_succ h)
theorem key_at {kvs : List (Key × V)} {i : Nat} {x : V} (hx : (kvs.map (fun p => kV p.1))[i]? = some x) : ∃ p, kvs[i]? = some p ∧ x = kV p.1 := by
  rw [List.getElem?_map] at hx
  obtain ⟨p, h1, h2⟩ := Option.map_eq_some_iff.mp hx
  exact ⟨p, h1, h2.symm⟩
theorem kit_dict : kitB "dict" "dict" = some true := by decide +kernel
theorem all_true : ∀ n : Nat, ((List.replicate n true).map V.bl) = (List.replicate n true).map V.bl := fun _ => rfl
section
variable {P : Program} {w : World} {K : PySem.W.Frag} {mg : Str → Option Value} {base : Heap} {f : Addr} {fd : FuncData} {C : Addr}
def spAscD (K : PySem.W.Frag) : Sp := fun vs H Q _ => ∃ G M d kvs, ∃ ks : List Str, vs = [.ref d] ∧ Zp G M H ∧ FzD G d kvs ∧ kvs.map (·.1) = ks.map .inr ∧ ks.length < 64 ∧
  ∀ p G1 H1, Zp G1 M H1 → Same G G1 → SqT K G1 p ((asc ks).map V.str) → Q (.ref p) H1
theorem ok_ascD (T : Nm K mg) (F : FnP K "ascending" s_ascending f fd) : FnOk P w K mg base CX0 1 f fd ["words"] (spAscD K) := by
  have nd : N_ascending.Nodup := sc_ascending.nd
  refine F.ok sc_ascending (fun vs H Q E h => ?_) (fun cdv A outer s H vs Q E hr h => ?_)
  · obtain ⟨G, M, d, kvs, ks, rfl, _⟩ := h
    rfl
  have hu := hr.units
  refine ⟨_, PSs.nox   (pss_one (ps_ret (pe_callTy (kc_tuple (K := K)) (by rfl) T.b_tuple boot_tuple (pa_cons (pe_callB (kc_sorted (K := K) (P := P) (w := w) rfl) (by rfl) T.b_sorted boot_sorted (pa_cons (pe_callTy (kc_setD (P := P) (w := w) rfl) (by rfl) T.b_set boot_set (pa_cons (pv 0) pa_nil)) pa_nil)) pa_nil)))), ?_⟩
  obtain ⟨G, M, d, kvs, ks, rfl, z, hd, hk, hs, q⟩ := h
  repeat (walk_at "z")
  refine z_setD z hd hk (by omega) fun p l G2 H2 z2 s2 e2 m2 nd2 l2 => ?_
  repeat (walk_at "z")
  refine z_sortX z2 e2 m2 nd2 (by omega) fun p3 G3 H3 z3 s3 e3 => ?_
  repeat (walk_at "z")
  exact z_tupL z3 (SqL.of e3) fun p4 G4 H4 z4 s4 h4 => q p4 G4 H4 z4 ((s2.trans s3).trans s4) h4
def spKinds (K : PySem.W.Frag) : Sp := fun vs H Q _ => ∃ G M d kvs kn, vs = [.ref d] ∧ Zp G M H ∧ FzD G d kvs ∧ Kds K G kvs kn ∧ GoodK kn ∧ ∀ G1 H1, Zp G1 M H1 → Same G G1 → Q (.bl true) H1
theorem ok_are_kinds (T : Nm K mg) (C_is_word : Own P w K mg base CX0 1 "is_word" ["value"] (spWord K)) (C_are_different_words : Own P w K mg base CX0 3 "are_different_words" ["value", "most"] (spDiff K)) (F : FnP K "are_kinds" s_are_kinds f fd) :
    FnOk P w K mg base CX0 4 f fd ["value"] (spKinds K) := by
  have nd : N_are_kinds.Nodup := sc_are_kinds.nd
  refine F.ok sc_are_kinds (fun vs H Q E h => ?_) (fun cdv A outer s H vs Q E hr h => ?_)
  · obtain ⟨G, M, d, kvs, kn, rfl, _⟩ := h
    rfl
  have hu := hr.units
  refine ⟨_, PSs.nox   (pss_cons (ps_if (PW.pt (pw_or (pt_not (pt_val (pe_callB (kc_isi (K := K)) (by rfl) T.b_isinstance boot_isinstance (pa_cons (pv 0) (pa_cons (pe_bltn (v := .ty "dict") (by rfl) T.b_dict boot_dict rfl) pa_nil))))) (pw_or1 (pt_not (pt_chain o_le o_le pe_int (pe_callB c_lenD (by rfl) T.b_len PySem.boot_len (pa_cons (pv 0) pa_nil)) (pe_gC T.g_KINDS (by rfl))))))) (pss_one (ps_ret pe_bl)) pss_nil)
    (pss_one (ps_ret (pe_callB (kc_all (K := K) rfl) (by rfl) T.b_all boot_all (pa_cons (pe_lc (own := [("kind", 1)]) (tt := tYes) rfl nd (pi_keys (pv 0)) (blkOk_by (N := N_are_kinds) (sc := defScope s_are_kinds) (by decide +kernel)) (fun _ _ _ _ _ => (pg_name (i := 1) nd rfl (by first | exact .inl rfl | exact .inr rfl))) (fun _ _ _ _ _ => pts_nil) (fun _ _ _ _ _ => (pe_and (pe_own C_is_word (hr.mono (by omega)) (by rfl) pass0 (pa_cons (pv 1) pa_nil)) (pe_one (pe_own C_are_different_words (hr.mono (by omega)) (by rfl) pass0 (pa_cons (pe_dget (hu_of hr) (pv 0) (pv 1) (fun _ _ => rfl)) (pa_cons (pe_gC T.g_ROLES (by rfl)) pa_nil))))))) pa_nil))))), ?_⟩
  obtain ⟨G, M, d, kvs, kn, rfl, z, hd, hk, gk, q⟩ := h
  obtain ⟨od, hod⟩ := hd
  have hl : kvs.length = kn.length := keys_len hk
  have g1 := gk.l1
  have g3 := gk.l3
  repeat (walk_at "z")
  refine z_isi (.ty "dict") (.fDict (z.sub _ _ hod)) (kit_ty kit_dict) ?_
  repeat (walk_at "z")
  refine z_lenD z ⟨od, hod⟩ ?_
  repeat (walk_at "z")
  refine z_bT' (by rw [hl]; exact decide_eq_true (by omega)) ?_
  repeat (walk_at "z")
  refine z_bT' (by rw [hl]; exact decide_eq_true (by omega)) ?_
  repeat (walk_at "z")
  refine z_itK z hod ?_
  refine lc_src src_K (fun i G' M' acc => M' = M ∧ Same G G' ∧ acc = (List.replicate i true).map V.bl) z ⟨rfl, Same.refl G, rfl⟩ ?_ ?_ ?_
  · rintro i G' M' M1 acc H' ⟨rfl, s1, _⟩ z'
    exact z'.sub _ _ (s1 _ _ hod)
  · rintro i x G2 M2 acc Dl H2 hx ⟨rfl, s2, rfl⟩ z2
    have hi : i < kvs.length := by
      have := (List.getElem?_eq_some_iff.mp hx).1
      simpa using this
    obtain ⟨⟨pk, pv'⟩, ⟨qk, qr⟩, h1, h2, hpk, dd, hdd, hli, hit⟩ := pair_at hk hi
    obtain ⟨p, h3, rfl⟩ := key_at hx
    rw [h1] at h3
    obtain rfl := Option.some.inj h3
    have hpk : pk = .inr qk := hpk
    subst hpk
    have hq := List.mem_of_getElem? h2
    have hit : itemsD dd = qr.map PyData.str := hit
    have r0 : qr.length ≤ 4 ∧ qr.Nodup ∧ ∀ s ∈ qr, wordS s = true := gk.rs _ hq
    obtain ⟨r1, r2, r3⟩ := r0
    have hw : wordS qk = true := gk.wd _ hq
    have hnd : (kvs.map (·.1)).Nodup := by rw [hk.keys]; exact inr_nodup gk.nd
    repeat (walk_at "z")
    refine ⟨by rfl, ?_⟩
    repeat (walk_at "z")
    refine ⟨G2, _, _, .str qk, rfl, z2, .str qk, ?_, fun G3 H3 z3 s3 => ?_⟩
    · rintro s' e'
      cases e'
      have := wordS_len hw
      omega
    rw [show wordD (.str qk) = true from hw]
    repeat (walk_at "z")
    refine z_dgF z3 (FzD.up ⟨od, hod⟩ (s2.trans s3)) (valV_ix hnd h1) ?_
    repeat (walk_at "z")
    refine ⟨G3, _, _, dd, some 4, rfl, z3, .inl (hdd.up (s2.trans s3)), fine_strs hit (by omega) r3, fun G4 H4 z4 s4 => ?_⟩
    rw [diff_true hli hit (by omega) r2 r3]
    refine z_laid z4 (by rw [List.length_map, List.length_replicate]; omega) ⟨rfl, (s2.trans s3).trans s4, ?_⟩
    rw [List.replicate_succ', List.map_append]
    rfl
  · rintro p2 G2 M2 acc G3 H3 ⟨rfl, s2, rfl⟩ s3 z3 e3
    refine z_all z3 (SqL.of e3) ?_
    rw [show (List.replicate (kvs.map (fun p => kV p.1)).length true).all id = true by rw [List.all_eq_true]; intro b hb; exact (List.mem_replicate.mp hb).2]
    exact q G3 H3 z3 (s2.trans s3)
def spTasks (K : PySem.W.Frag) (C : Addr) : Sp := fun vs H Q _ => ∃ G M d kvs tn, vs = [.ref d] ∧ Zp G M H ∧ FzD G d kvs ∧ Tks K G C kvs tn ∧ GoodTs tn ∧ ∀ G1 H1, Zp G1 M H1 → Same G G1 → Q (.bl true) H1
theorem ok_are_tasks (T : Nm K mg) (TT : TaskT K C) (g_Task : mg "Task" = some (.ref C)) (C_is_word : Own P w K mg base CX0 1 "is_word" ["value"] (spWord K)) (F : FnP K "are_tasks" s_are_tasks f fd) :
    FnOk P w K mg base CX0 2 f fd ["value"] (spTasks K C) := by
  have nd : N_are_tasks.Nodup := sc_are_tasks.nd
  refine F.ok sc_are_tasks (fun vs H Q E h => ?_) (fun cdv A outer s H vs Q E hr h => ?_)
  · obtain ⟨G, M, d, kvs, tn, rfl, _⟩ := h
    rfl
  have hu := hr.units
  refine ⟨_, PSs.nox   (pss_cons (ps_if (pt_not (pt_val (pe_callB (kc_isi (K := K)) (by rfl) T.b_isinstance boot_isinstance (pa_cons (pv 0) (pa_cons (pe_bltn (v := .ty "dict") (by rfl) T.b_dict boot_dict rfl) pa_nil))))) (pss_one (ps_ret pe_bl)) pss_nil)
    (pss_one (ps_ret (pe_callB (kc_all (K := K) rfl) (by rfl) T.b_all boot_all (pa_cons (pe_lc (own := [("name", 1)]) (tt := tYes) rfl nd (pi_keys (pv 0)) (blkOk_by (N := N_are_tasks) (sc := defScope s_are_tasks) (by decide +kernel)) (fun _ _ _ _ _ => (pg_name (i := 1) nd rfl (by first | exact .inl rfl | exact .inr rfl))) (fun _ _ _ _ _ => pts_nil) (fun _ _ _ _ _ => (pe_and (pe_own C_is_word (hr.mono (by omega)) (by rfl) pass0 (pa_cons (pv 1) pa_nil)) (pe_one (pe_callB (kc_isi (K := K)) (by rfl) T.b_isinstance boot_isinstance (pa_cons (pe_dget (hu_of hr) (pv 0) (pv 1) (fun _ _ => rfl)) (pa_cons (pe_glob (v := .ref C) (by rfl) g_Task rfl) pa_nil))))))) pa_nil))))), ?_⟩
  obtain ⟨G, M, d, kvs, tn, rfl, z, hd, hk, gk, q⟩ := h
  obtain ⟨od, hod⟩ := hd
  have hl : kvs.length = tn.length := keys_len hk
  have g8 := gk.l8
  repeat (walk_at "z")
  refine z_isi (.ty "dict") (.fDict (z.sub _ _ hod)) (kit_ty kit_dict) ?_
  repeat (walk_at "z")
  refine z_itK z hod ?_
  refine lc_src src_K (fun i G' M' acc => M' = M ∧ Same G G' ∧ acc = (List.replicate i true).map V.bl) z ⟨rfl, Same.refl G, rfl⟩ ?_ ?_ ?_
  · rintro i G' M' M1 acc H' ⟨rfl, s1, _⟩ z'
    exact z'.sub _ _ (s1 _ _ hod)
  · rintro i x G2 M2 acc Dl H2 hx ⟨rfl, s2, rfl⟩ z2
    have hi : i < kvs.length := by
      have := (List.getElem?_eq_some_iff.mp hx).1
      simpa using this
    obtain ⟨⟨pk, pv'⟩, ⟨qk, qr⟩, h1, h2, hpk, a, hpa, hta⟩ := pair_at hk hi
    obtain ⟨p, h3, rfl⟩ := key_at hx
    rw [h1] at h3
    obtain rfl := Option.some.inj h3
    have hpk : pk = .inr qk := hpk
    subst hpk
    have hpa : pv' = .ref a := hpa
    subst hpa
    have hq := List.mem_of_getElem? h2
    have hw : wordS qk = true := gk.wd _ hq
    have hnd : (kvs.map (·.1)).Nodup := by rw [hk.keys]; exact inr_nodup gk.nd
    repeat (walk_at "z")
    refine ⟨by rfl, ?_⟩
    repeat (walk_at "z")
    refine ⟨G2, _, _, .str qk, rfl, z2, .str qk, ?_, fun G3 H3 z3 s3 => ?_⟩
    · rintro s' e'
      cases e'
      have := wordS_len hw
      omega
    rw [show wordD (.str qk) = true from hw]
    repeat (walk_at "z")
    refine z_dgF z3 (FzD.up ⟨od, hod⟩ (s2.trans s3)) (valV_ix hnd h1) ?_
    repeat (walk_at "z")
    obtain ⟨dx, fs, ea⟩ := (hta.up (s2.trans s3)).obj
    refine z_isi (.own C) (TT.ty (z3.sub _ _ ea)) (if_pos (by simp)) ?_
    refine z_laid z3 (by rw [List.length_map, List.length_replicate]; omega) ⟨rfl, s2.trans s3, ?_⟩
    rw [List.replicate_succ', List.map_append]
    rfl
  · rintro p2 G2 M2 acc G3 H3 ⟨rfl, s2, rfl⟩ s3 z3 e3
    refine z_all z3 (SqL.of e3) ?_
    rw [show (List.replicate (kvs.map (fun p => kV p.1)).length true).all id = true by rw [List.all_eq_true]; intro b hb; exact (List.mem_replicate.mp hb).2]
    exact q G3 H3 z3 (s2.trans s3)
end
end LW
namespace LW
open PySem PySem.Spec PyProof.Rows L2 Ys

def isTD : PyData → Bool
  | .tuple _ => true
  | _ => false
theorem kit_tup (d : PyData) : kitB (tyD d) "tuple" = some (isTD d) := by cases d <;> (simp only [tyD, isTD]; decide +kernel)
theorem at_zero {x : V} {xr : List V} : atI (x :: xr) 0 = some x := atI_nat (j := 0) rfl
theorem at_one {x y : V} {xr : List V} : atI (x :: y :: xr) 1 = some y := atI_nat (j := 1) rfl
theorem at_two {x y u : V} {xr : List V} : atI (x :: y :: u :: xr) 2 = some u := atI_nat (j := 2) rfl
theorem z_cg {b c : Bool} {Q : VK} {H : Hp} (e : b = c) (q : Q (.bl c) H) : Q (.bl b) H := e ▸ q
/-! ### the words of plans -/
def headOf (s : Str) : Option Hd := if s = "then" then some .th else if s = "either" then some .ei else if s = "any" then some .an else if s = "again" then some .ag else if s = "beside" then some .be else none
structure PTab (K : PySem.W.Frag) (w : World) : Prop where
  l : TabD K w (gA "LEAST" K) leastL
  m : TabD K w (gA "MOST" K) mostL
theorem hd_s : ∀ h : Hd, headOf h.s = some h := by intro h; cases h <;> decide +kernel
theorem head_cases (s : Str) : (∃ h, s = Hd.s h) ∨ (headOf s = none ∧ leastL.lookup s = none ∧ mostL.lookup s = none) := by
  by_cases c1 : s = "then"
  · exact .inl ⟨.th, c1⟩
  by_cases c2 : s = "either"
  · exact .inl ⟨.ei, c2⟩
  by_cases c3 : s = "any"
  · exact .inl ⟨.an, c3⟩
  by_cases c4 : s = "again"
  · exact .inl ⟨.ag, c4⟩
  by_cases c5 : s = "beside"
  · exact .inl ⟨.be, c5⟩
  have f : ∀ t : Str, s ≠ t → (s == t) = false := fun t h => by
    cases q : s == t with
    | false => rfl
    | true => exact absurd (eq_of_beq q) h
  refine .inr ⟨by unfold headOf; rw [if_neg c1, if_neg c2, if_neg c3, if_neg c4, if_neg c5], ?_, ?_⟩
  · unfold leastL
    simp only [List.lookup, f _ c1, f _ c2, f _ c3, f _ c4, f _ c5]
  · unfold mostL
    simp only [List.lookup, f _ c1, f _ c2, f _ c3, f _ c4, f _ c5]
def Hd.leV : Hd → Int
  | .th => 0
  | .ei => 1
  | .an => 1
  | .ag => 1
  | .be => 2
def Hd.moV : Hd → V
  | .th => .non
  | .ei => .non
  | .an => .non
  | .ag => .int 1
  | .be => .int 2
theorem le_at (h : Hd) : leastL.lookup (Hd.s h) = some (.int (Hd.leV h)) := by cases h <;> rfl
theorem mo_at (h : Hd) : mostL.lookup (Hd.s h) = some (Hd.moV h) := by cases h <;> rfl
def formD : PyData → Bool
  | .tuple (.str s :: r) => (match headOf s with
    | some h => h.fit r.length
    | none => false)
  | _ => false
def headBe : List PyData → Bool
  | .str s :: _ => decide (s = "beside")
  | _ => false
mutual
def wpD : Bool → PyData → Option PyData
  | b, .tuple ds => if (!formD (.tuple ds) || (b && headBe ds)) = true then some (.tuple ds) else wpL (b || headBe ds) ds
  | _, .str s => if wordS s = true then none else some (.str s)
  | _, .none => some .none
  | _, .bool x => some (.bool x)
  | _, .int i => some (.int i)
  | _, .list ds => some (.list ds)
  | _, .dict ds => some (.dict ds)
def wpL : Bool → List PyData → Option PyData
  | _, [] => none
  | b, d :: ds => match wpD b d with
    | some e => some e
    | none => wpL b ds
end
theorem hd_word (h : Hd) : wordS h.s = true := by cases h <;> decide +kernel
theorem wpL_hd (b : Bool) (h : Hd) (r : List PyData) : wpL b (.str h.s :: r) = wpL b r := by
  rw [wpL, wpD, if_pos (hd_word h)]
theorem wd_wordS {s : Str} (h : Wd s) : wordS s = true := by
  have e : ∀ c, 97 ≤ c → c ≤ 122 → c ∈ abcL := by
    intro c h1 h2
    have e : abcL = (List.range 26).map (· + 97) := by decide +kernel
    rw [e]
    exact List.mem_map.mpr ⟨c - 97, List.mem_range.mpr (by omega), by omega⟩
  unfold wordS
  rw [decide_eq_true h.1, decide_eq_true h.2.1]
  simp only [Bool.true_and]
  refine List.all_eq_true.mpr fun c hc => decide_eq_true (e c (h.2.2 c hc).1 (h.2.2 c hc).2)
theorem form_nd (h : Hd) (ds : List PyData) : formD (.tuple (.str h.s :: ds)) = h.fit ds.length := by
  show (match headOf h.s with | some h => h.fit ds.length | none => false) = _
  rw [hd_s]
theorem be_nd (h : Hd) (ds : List PyData) : headBe (.str h.s :: ds) = decide (h = .be) := by
  show decide (h.s = ("beside" : Str)) = _
  cases h <;> decide +kernel
theorem wp_ok : ∀ p b, Ok b p → wpD b p.d = none := Pl.ind (fun s b k => by
    cases k with
    | nm k =>
      rw [Pl.d, wpD, if_pos (wd_wordS k)]) fun h ps ih b k => by
  cases k with
  | nd f c q =>
    have l : (Pl.dl ps).length = ps.length := by rw [dl_map, List.length_map]
    rw [Pl.d, wpD, form_nd, be_nd, l, f]
    have nb : (b && decide (h = .be)) = false := by
      cases b with
      | false => rfl
      | true => simpa using c rfl
    rw [nb, if_neg (by simp), wpL_hd]
    have go : ∀ l : List Pl, (∀ p ∈ l, p ∈ ps) → wpL (b || decide (h = .be)) (Pl.dl l) = none := by
      intro l
      induction l with
      | nil => intro _; simp [Pl.dl, wpL]
      | cons a r ihr =>
        intro hl
        rw [Pl.dl, wpL, ih a (hl a (by simp)) _ (q a (hl a (by simp)))]
        exact ihr fun p hp => hl p (List.mem_cons_of_mem _ hp)
    exact go ps fun _ h => h
inductive Sht : PyData → Prop where
  | nt {d : PyData} : isTD d = false → ShortD d → Sht d
  | tup {ds : List PyData} : (∀ e ∈ ds, Sht e) → Sht (.tuple ds)
theorem Sht.short {d : PyData} (h : Sht d) : ShortD d := by
  cases h with
  | nt _ h => exact h
  | tup _ => intro s e; cases e
theorem Sht.kids {ds : List PyData} (h : Sht (.tuple ds)) : ∀ e ∈ ds, Sht e := by
  cases h with
  | nt h _ => cases h
  | tup h => exact h
theorem hd_len (h : Hd) : h.s.length ≤ 8 := by cases h <;> decide +kernel
theorem pl_sht : ∀ p, Nms p → Sht p.d := Pl.ind (fun s k => by
    cases k with
    | nm k =>
      rw [Pl.d]
      refine .nt rfl fun t e => ?_
      obtain rfl : s = t := by injection e
      have := k.2.1
      omega) fun h ps ih k => by
  rw [Pl.d]
  refine .tup fun e he => ?_
  rcases List.mem_cons.mp he with rfl | he
  · refine .nt rfl fun t e => ?_
    obtain rfl : h.s = t := by injection e
    have := hd_len h
    omega
  · rw [dl_map] at he
    obtain ⟨p, hp, rfl⟩ := List.mem_map.mp he
    exact ih p hp (k.kids p hp)
section
variable {P : Program} {w : World} {K : PySem.W.Frag} {mg : Str → Option Value} {base : Heap} {f : Addr} {fd : FuncData}
def spFormed (K : PySem.W.Frag) : Sp := fun vs H Q _ => ∃ G M v d, vs = [v] ∧ Zp G M H ∧ Dt K G v d ∧ Q (.bl (formD d)) H
theorem ok_is_formed (T : Nm K mg) (TB : PTab K w) (F : FnP K "is_formed" s_is_formed f fd) : FnOk P w K mg base CX0 1 f fd ["value"] (spFormed K) := by
  have nd : N_is_formed.Nodup := sc_is_formed.nd
  refine F.ok sc_is_formed (fun vs H Q E h => ?_) (fun cdv A outer s H vs Q E hr h => ?_)
  · obtain ⟨G, M, v, d, rfl, _⟩ := h
    rfl
  have hu := hr.units
  refine ⟨_, PSs.nox   (pss_cons (ps_if (PW.pt (pw_or (pt_not (pt_val (pe_callB (kc_isi (K := K)) (by rfl) T.b_isinstance boot_isinstance (pa_cons (pv 0) (pa_cons (pe_bltn (v := .ty "tuple") (by rfl) T.b_tuple boot_tuple rfl) pa_nil))))) (pw_or (pt_cmpR (k_eq (K := K) hu) (pe_callB (kc_len (K := K) (P := P) (w := w)) (by rfl) T.b_len PySem.boot_len (pa_cons (pv 0) pa_nil)) pe_int (nomark _)) (pw_or (pt_not (pt_val (pe_callB (kc_isi (K := K)) (by rfl) T.b_isinstance boot_isinstance (pa_cons (pe_ix (k_ix (K := K)) (pv 0) pe_int (fun _ _ => rfl)) (pa_cons (pe_bltn (v := .ty "str") (by rfl) T.b_str boot_str rfl) pa_nil))))) (pw_or1 (pt_cmpR (k_notInD (K := K) (w := w)) (pe_ix (k_ix (K := K)) (pv 0) pe_int (fun _ _ => rfl)) (pe_gC T.g_LEAST (by rfl)) (by rfl))))))) (pss_one (ps_ret pe_bl)) pss_nil)
    (pss_cons (ps_asg (pe_ix (k_ixD (K := K) (w := w)) (pe_gC T.g_MOST (by rfl)) (pe_ix (k_ix (K := K)) (pv 0) pe_int (fun _ _ => rfl)) (fun _ _ => rfl)) (pg_name (i := 1) nd rfl (by first | exact .inl rfl | exact .inr rfl)))
    (pss_one (ps_ret (pe_and (pe_cmpR o_gt (pe_callB (kc_len (K := K) (P := P) (w := w)) (by rfl) T.b_len PySem.boot_len (pa_cons (pv 0) pa_nil)) (pe_ix (k_ixD (K := K) (w := w)) (pe_gC T.g_LEAST (by rfl)) (pe_ix (k_ix (K := K)) (pv 0) pe_int (fun _ _ => rfl)) (fun _ _ => rfl)) (nomark _)) (pe_one (pe_or (pe_cmpR o_isN (pv 1) pe_non (nomark _)) (pe_one (pe_cmpR o_le (pe_callB (kc_len (K := K) (P := P) (w := w)) (by rfl) T.b_len PySem.boot_len (pa_cons (pv 0) pa_nil)) (pe_op (k_add (K := K)) (pv 1) pe_int) (nomark _)))))))))), ?_⟩
  obtain ⟨G, M, v, d, rfl, z, hd, q⟩ := h
  repeat (walk_at "z")
  refine z_isi (.ty "tuple") (hd.up z.sub).ty (kit_ty (kit_tup d)) ?_
  cases hi : isTD d with
  | false =>
    repeat (walk_at "z")
    have e : formD d = false := by cases d <;> first | rfl | cases hi
    rw [e] at q
    exact q
  | true =>
    cases hd with
    | tup hS hds =>
      rename_i a xs ds
      repeat (walk_at "z")
      refine z_lenT z hS ?_
      repeat (walk_at "z")
      refine z_eqS rfl ?_
      repeat (walk_at "z")
      cases hds with
      | nil =>
        refine z_bT' (by decide) ?_
        repeat (walk_at "z")
        exact q
      | cons h0 hr =>
        rename_i x xr d0 dr
        refine z_bF' (by rw [decide_eq_false]; intro e; have := V.int.inj e; simp at this; omega) ?_
        have at0 : atI (x :: xr) 0 = some x := at_zero
        repeat (walk_at "z")
        refine z_ixT z hS at0 ?_
        repeat (walk_at "z")
        refine z_isi (.ty "str") (h0.up z.sub).ty (kit_ty (kit_str d0)) ?_
        cases hs : isStrD d0 with
        | false =>
          repeat (walk_at "z")
          have e : formD (.tuple (d0 :: dr)) = false := by cases d0 <;> first | rfl | cases hs
          rw [e] at q
          exact q
        | true =>
          cases h0 with
          | str s =>
            have ln : xr.length = dr.length := hr.len (ds := [])
            repeat (walk_at "z")
            refine z_ixT z hS at0 ?_
            repeat (walk_at "z")
            refine z_notInKD TB.l ?_
            rcases head_cases s with ⟨hh, rfl⟩ | ⟨n1, n2, n3⟩
            · rw [le_at]
              repeat (walk_at "z")
              refine z_bT' rfl ?_
              repeat (walk_at "z")
              refine z_ixT z hS at0 ?_
              refine z_ixKD TB.m (mo_at hh) ?_
              repeat (walk_at "z")
              refine z_lenT z hS ?_
              repeat (walk_at "z")
              refine z_ixT z hS at0 ?_
              refine z_ixKD TB.l (le_at hh) ?_
              rw [form_nd] at q
              rw [List.length_cons, ln]
              generalize hn : dr.length = n at q
              repeat (walk_at "z")
              cases hh
              case th =>
                refine z_bT' (by simp only [Hd.leV]; exact decide_eq_true (by omega)) ?_
                repeat (walk_at "z")
                refine z_iN ?_
                repeat (walk_at "z")
                refine z_bT' rfl ?_
                repeat (walk_at "z")
                exact q
              case ei =>
                by_cases hn1 : 1 ≤ n
                · refine z_bT' (by simp only [Hd.leV]; exact decide_eq_true (by omega)) ?_
                  repeat (walk_at "z")
                  refine z_iN ?_
                  repeat (walk_at "z")
                  refine z_bT' rfl ?_
                  repeat (walk_at "z")
                  refine z_cg ?_ q
                  simp [Hd.fit, hn1] <;> omega
                · refine z_bF' (by simp only [Hd.leV]; exact decide_eq_false (by omega)) ?_
                  repeat (walk_at "z")
                  refine z_cg ?_ q
                  symm
                  simp [Hd.fit] <;> omega
              case an =>
                by_cases hn1 : 1 ≤ n
                · refine z_bT' (by simp only [Hd.leV]; exact decide_eq_true (by omega)) ?_
                  repeat (walk_at "z")
                  refine z_iN ?_
                  repeat (walk_at "z")
                  refine z_bT' rfl ?_
                  repeat (walk_at "z")
                  refine z_cg ?_ q
                  simp [Hd.fit, hn1] <;> omega
                · refine z_bF' (by simp only [Hd.leV]; exact decide_eq_false (by omega)) ?_
                  repeat (walk_at "z")
                  refine z_cg ?_ q
                  symm
                  simp [Hd.fit] <;> omega
              case ag =>
                by_cases hn1 : 1 ≤ n
                · refine z_bT' (by simp only [Hd.leV]; exact decide_eq_true (by omega)) ?_
                  repeat (walk_at "z")
                  refine z_iN ?_
                  repeat (walk_at "z")
                  refine z_bF' rfl ?_
                  repeat (walk_at "z")
                  refine z_lenT z hS ?_
                  rw [List.length_cons, ln, hn]
                  repeat (walk_at "z")
                  refine z_addI (i := 1) (j := 1) ?_
                  repeat (walk_at "z")
                  refine z_cg ?_ q
                  rw [Bool.eq_iff_iff]
                  simp [Hd.fit] <;> omega
                · refine z_bF' (by simp only [Hd.leV]; exact decide_eq_false (by omega)) ?_
                  repeat (walk_at "z")
                  refine z_cg ?_ q
                  symm
                  simp [Hd.fit] <;> omega
              case be =>
                by_cases hn1 : 2 ≤ n
                · refine z_bT' (by simp only [Hd.leV]; exact decide_eq_true (by omega)) ?_
                  repeat (walk_at "z")
                  refine z_iN ?_
                  repeat (walk_at "z")
                  refine z_bF' rfl ?_
                  repeat (walk_at "z")
                  refine z_lenT z hS ?_
                  rw [List.length_cons, ln, hn]
                  repeat (walk_at "z")
                  refine z_addI (i := 2) (j := 1) ?_
                  repeat (walk_at "z")
                  refine z_cg ?_ q
                  rw [Bool.eq_iff_iff]
                  simp [Hd.fit] <;> omega
                · refine z_bF' (by simp only [Hd.leV]; exact decide_eq_false (by omega)) ?_
                  repeat (walk_at "z")
                  refine z_cg ?_ q
                  symm
                  simp [Hd.fit] <;> omega
            · rw [n2]
              repeat (walk_at "z")
              refine z_bF' rfl ?_
              repeat (walk_at "z")
              have e : formD (.tuple (.str s :: dr)) = false := by
                show (match headOf s with | some h => h.fit dr.length | none => false) = false
                rw [n1]
              rw [e] at q
              exact q
          | _ => cases hs
    | _ => cases hi
end
end LW
namespace LW
open PySem PySem.Spec PyProof.Rows L2 Ys

theorem cut_tail {x : V} {xr : List V} : cutV (x :: xr) (some 1) none = xr := by
  have e1 : HT.sIx (x :: xr).length 0 (some 1) = min 1 (x :: xr).length := HT.sIx_nat (x :: xr).length 0 1
  have e2 : HT.sIx (x :: xr).length (x :: xr).length none = (x :: xr).length := rfl
  have e3 : min 1 (x :: xr).length = 1 := by rw [List.length_cons]; omega
  unfold cutV
  rw [e1, e2, e3, List.drop_succ_cons, List.drop_zero, List.length_cons]
  exact List.take_of_length_le (by omega)
theorem form_shape {d : PyData} (hf : formD d = true) : ∃ (h : Hd) (r : List PyData), d = .tuple (.str h.s :: r) := by
  cases d with
  | tuple ds =>
    cases ds with
    | nil => cases hf
    | cons d0 r =>
      cases d0 with
      | str s =>
        rcases head_cases s with ⟨h, rfl⟩ | ⟨n, _⟩
        · exact ⟨h, r, rfl⟩
        · have e : formD (.tuple (.str s :: r)) = false := by
            show (match headOf s with | some h => h.fit r.length | none => false) = false
            rw [n]
          rw [e] at hf
          cases hf
      | _ => cases hf
  | _ => cases hf
theorem wp_word {b : Bool} {d : PyData} (h : wordD d = true) : wpD b d = none := by
  cases d with
  | str s => rw [wpD, if_pos (show wordS s = true from h)]
  | _ => cases h
theorem wp_bad {b : Bool} {d : PyData} (h : wordD d = false) (h2 : formD d = false) : wpD b d = some d := by
  cases d with
  | tuple ds => rw [wpD, h2]; rfl
  | str s =>
    rw [wpD, if_neg (by intro e; rw [show wordD (.str s) = wordS s from rfl, e] at h; cases h)]
  | _ => rw [wpD]
theorem wp_be {b : Bool} {h : Hd} {r : List PyData} (e : (b && decide (h = .be)) = true) : wpD b (.tuple (.str h.s :: r)) = some (.tuple (.str h.s :: r)) := by
  rw [wpD, be_nd, e, Bool.or_true]; rfl
theorem wp_go {b : Bool} {h : Hd} {r : List PyData} (e : (b && decide (h = .be)) = false) (f : formD (.tuple (.str h.s :: r)) = true) : wpD b (.tuple (.str h.s :: r)) = wpL (b || decide (h = .be)) r := by
  rw [wpD, be_nd, e, f, wpL_hd]; rfl
theorem dep_kid {e : PyData} : ∀ {ds : List PyData}, e ∈ ds → e.depth ≤ PyData.depthAll ds
  | d :: ds, h => by
    show e.depth ≤ max d.depth (PyData.depthAll ds)
    rcases List.mem_cons.mp h with rfl | h
    · exact Nat.le_max_left _ _
    · exact Nat.le_trans (dep_kid h) (Nat.le_max_right _ _)
theorem str_be (h : Hd) : decide (V.str h.s = V.str ("beside" : Str)) = decide (h = .be) := by cases h <;> decide +kernel
theorem str_th (h : Hd) : decide (V.str h.s = V.str ("then" : Str)) = decide (h = .th) := by cases h <;> decide +kernel
section
variable {P : Program} {w : World} {K : PySem.W.Frag} {mg : Str → Option Value} {base : Heap} {f : Addr} {fd : FuncData}
abbrev OwnW (P : Program) (w : World) (K : PySem.W.Frag) (mg : Str → Option Value) (base : Heap) : Prop := Own P w K mg base CX0 1 "is_word" ["value"] (spWord K)
abbrev OwnF (P : Program) (w : World) (K : PySem.W.Frag) (mg : Str → Option Value) (base : Heap) : Prop := Own P w K mg base CX0 1 "is_formed" ["value"] (spFormed K)
def spWrong (K : PySem.W.Frag) (n : Nat) : Sp := fun vs H Q _ => ∃ G M v b d, vs = [v, .bl b] ∧ Zp G M H ∧ Dt K G v d ∧ Sht d ∧ d.depth < n ∧
  ∀ p xs G1 H1, Zp G1 M H1 → Same G G1 → G1 p = some (.lst xs) → Dts K G1 xs (wpD b d).toList → Q (.ref p) H1
theorem ok_wrong {n : Nat} (T : Nm K mg) (C_is_word : OwnW P w K mg base) (C_is_formed : OwnF P w K mg base) (C_wrong_part : Own P w K mg base CX0 (n + 1) "wrong_part" ["value", "is_beside"] (spWrong K n)) (F : FnP K "wrong_part" s_wrong_part f fd) : FnOk P w K mg base CX0 (n + 2) f fd ["value", "is_beside"] (spWrong K (n + 1)) := by
  have nd : N_wrong_part.Nodup := sc_wrong_part.nd
  refine F.ok sc_wrong_part (fun vs H Q E h => ?_) (fun cdv A outer s H vs Q E hr h => ?_)
  · obtain ⟨G, M, v, b, d, rfl, _⟩ := h
    rfl
  have hu := hr.units
  refine ⟨_, PSs.nox   (pss_cons (ps_if (pt_val (pe_own C_is_word (hr.mono (by omega)) (by rfl) pass0 (pa_cons (pv 0) pa_nil))) (pss_one (ps_ret (pe_lst pa_nil))) pss_nil)
    (pss_cons (ps_if (PW.pt (pw_or (pt_not (pt_val (pe_own C_is_formed (hr.mono (by omega)) (by rfl) pass0 (pa_cons (pv 0) pa_nil)))) (pw_or1 (PW.pt (pw_and (pt_val (pv 1)) (pw_and1 (pt_cmpR (k_eq (K := K) hu) (pe_ix (k_ix (K := K)) (pv 0) pe_int (fun _ _ => rfl)) pe_str (nomark _)))))))) (pss_one (ps_ret (pe_lst (pa_cons (pv 0) pa_nil)))) pss_nil)
    (pss_cons (ps_for PassesOwn.never rfl (k_any (K := K) (pe_slice (k_sl (K := K)) (pv 0) (po_some pe_int) po_none)) (pg_name (i := 2) nd rfl (by first | exact .inl rfl | exact .inr rfl)) (pss_cons (ps_asg (pe_own C_wrong_part (hr.mono (by omega)) (by rfl) pass0 (pa_cons (pv 2) (pa_cons (pe_or (pv 1) (pe_one (pe_cmpR (k_eq (K := K) hu) (pe_ix (k_ix (K := K)) (pv 0) pe_int (fun _ _ => rfl)) pe_str (nomark _)))) pa_nil))) (pg_name (i := 3) nd rfl (by first | exact .inl rfl | exact .inr rfl)))
    (pss_one (ps_if (pt_cmpR (k_ne (K := K) hu) (pv 3) (pe_lst pa_nil) (nomark _)) (pss_one (ps_ret (pv 3))) pss_nil))))
    (pss_one (ps_ret (pe_lst pa_nil)))))), ?_⟩
  obtain ⟨G, M, v, b, d, rfl, z, hd, hs, hn, q⟩ := h
  repeat (walk_at "z")
  refine ⟨G, M, v, d, rfl, z, hd, hs.short, fun G1 H1 z1 s1 => ?_⟩
  have hd1 := hd.up s1
  cases hw : wordD d with
  | true =>
    repeat (walk_at "z")
    refine z_newL z1 (by simp) fun p G2 H2 z2 s2 e2 => ?_
    exact q p [] G2 H2 z2 (s1.trans s2) e2 (by rw [wp_word hw]; exact .nil)
  | false =>
    repeat (walk_at "y")
    cases hf : formD d with
    | false =>
      repeat (walk_at "z")
      refine ⟨G1, M, v, d, rfl, z1, hd1, ?_⟩
      rw [hf]
      repeat (walk_at "z")
      refine z_newL z1 (by simp) fun p G2 H2 z2 s2 e2 => ?_
      exact q p [v] G2 H2 z2 (s1.trans s2) e2 (by rw [wp_bad hw hf]; exact .cons (hd1.up s2) .nil)
    | true =>
      obtain ⟨h, r, rfl⟩ := form_shape hf
      obtain ⟨a, xr, rfl, hS, hR⟩ : ∃ a xr, v = .ref a ∧ SqT K G1 a (.str h.s :: xr) ∧ Dts K G1 xr r := by
        cases hd1 with
        | tup hS hR =>
          cases hR with
          | cons h0 hR =>
            cases h0
            exact ⟨_, _, rfl, hS, hR⟩
      with_reducible refine z_cut (fun σ H => H = H1 ∧ σ = [some (.ref a), some (.bl b), none, none] ∧ (b && decide (h = .be)) = false) (fun nx hnx => ?_) (fun σ H2 h2 => ?_)
      · repeat (walk_at "z")
        refine ⟨G1, M, _, _, rfl, z1, hd1, ?_⟩
        rw [hf]
        repeat (walk_at "z")
        cases b with
        | false =>
          repeat (walk_at "z")
          exact hnx _ _ ⟨rfl, rfl, rfl⟩
        | true =>
          repeat (walk_at "z")
          refine z_ixT z1 hS at_zero ?_
          repeat (walk_at "z")
          refine z_eqS rfl ?_
          rw [str_be]
          repeat (walk_at "z")
          refine z_bd (fun c => ?_) (fun c => ?_)
          · repeat (walk_at "z")
            refine z_newL z1 (by simp) fun p G2 H2 z2 s2 e2 => ?_
            exact q p _ G2 H2 z2 (s1.trans s2) e2 (by rw [wp_be (by rw [decide_eq_true c]; rfl)]; exact .cons (hd1.up s2) .nil)
          · repeat (walk_at "z")
            exact hnx _ _ ⟨rfl, rfl, by rw [decide_eq_false c]; rfl⟩
      · obtain ⟨rfl, rfl, hb⟩ := h2
        have q := fun p xs G1' H1' z' s' e' => by
          have := q p xs G1' H1' z' s' e'
          rw [wp_go hb hf] at this
          exact this
        repeat (walk_at "z")
        refine z_anyT ?_
        repeat (walk_at "z")
        refine z_slT z1 hS fun p2 G2 H2 z2 s2 e2 => ?_
        rw [cut_tail] at e2
        refine z_itT z2 e2 ?_
        generalize hbb : (b || decide (h = .be)) = b' at q
        refine for_src src_T (fun i σ G' M' => ∃ k2 k3, M = M' ∧ Same G2 G' ∧ σ = [some (.ref a), some (.bl b), k2, k3] ∧ wpL b' r = wpL b' (r.drop i)) z2 ⟨_, _, rfl, Same.refl _, rfl, by rw [List.drop_zero]⟩ (fun i σ G' M' H' ⟨_, _, _, s', _⟩ z' => z'.seqT (upT s' e2)) ?_ ?_
        · rintro i x σ G' M' H' hx ⟨k2, k3, rfl, s', rfl, hL⟩ z'
          obtain ⟨d', hd', hx'⟩ := (hR.up (s2.trans s')).at_ hx
          have hm := List.mem_of_getElem? hd'
          have hlt : i < r.length := (List.getElem?_eq_some_iff.mp hd').1
          have hdr : r.drop i = d' :: r.drop (i + 1) := by
            rw [List.drop_eq_getElem_cons hlt]
            rw [List.getElem?_eq_getElem hlt] at hd'
            rw [Option.some.inj hd']
          repeat (walk_at "z")
          refine (fun hq => z_b2 (fun c => ?br1) (fun c => ?br2) : spWrong K n [x, .bl b'] H' ?Qn E0 → _) ?main
          case br1 =>
            repeat (walk_at "z")
            have e : b' = true := by rw [← hbb, c]; rfl
            rw [e] at hq
            exact hq
          case br2 =>
            repeat (walk_at "z")
            refine z_ixT z' (upT (s2.trans s') hS) at_zero ?_
            repeat (walk_at "z")
            refine z_eqS rfl ?_
            rw [str_be]
            have e : decide (h = .be) = b' := by rw [← hbb, c]; rfl
            rw [e]
            repeat (walk_at "z")
            exact hq
          refine ⟨G', M, x, b', d', rfl, z', hx', hs.kids d' (List.mem_cons_of_mem _ hm), ?_, fun p3 xs3 G3 H3 z3 s3 e3 h3 => ?_⟩
          · have h1 := dep_kid (List.mem_cons_of_mem (.str h.s) hm)
            have h2 : PyData.depth (.tuple (.str h.s :: r)) = PyData.depthAll (.str h.s :: r) + 1 := rfl
            omega
          repeat (walk_at "z")
          refine z_newL z3 (by simp) fun p4 G4 H4 z4 s4 e4 => ?_
          refine z_neNil (z4.seqL (SqL.of (s4 _ _ e3))) (z4.sub _ _ e4) ?_
          repeat (walk_at "z")
          have sa : Same G G4 := s1.trans (s2.trans (s'.trans (s3.trans s4)))
          cases hw3 : wpD b' d' with
          | some e =>
            rw [hw3] at h3
            cases h3 with
            | cons h3 h4 =>
              cases h4
              refine z_bT' (decide_eq_true (by simp)) ?_
              repeat (walk_at "z")
              refine q p3 _ G4 H4 z4 sa (s4 _ _ e3) ?_
              rw [hL, hdr, wpL, hw3]
              exact .cons (h3.up s4) .nil
          | none =>
            rw [hw3] at h3
            cases h3
            refine z_bF' (decide_eq_false (by simp)) ?_
            repeat (walk_at "z")
            refine ⟨G4, M, z4, _, _, rfl, s'.trans (s3.trans s4), rfl, ?_⟩
            rw [hL, hdr, wpL, hw3]
        · rintro σ G3 M3 H3 ⟨k2, k3, rfl, s3, rfl, hL⟩ z3
          rw [(hR.len (ds := [])), List.drop_length, wpL] at hL
          repeat (walk_at "z")
          refine z_newL z3 (by simp) fun p4 G4 H4 z4 s4 e4 => ?_
          exact q p4 [] G4 H4 z4 (s1.trans (s2.trans (s3.trans s4))) e4 (by rw [hL]; exact .nil)
def spIsPlan (K : PySem.W.Frag) (n : Nat) : Sp := fun vs H Q _ => ∃ G M v d, vs = [v] ∧ Zp G M H ∧ Dt K G v d ∧ Sht d ∧ d.depth < n ∧ ∀ G1 H1, Zp G1 M H1 → Same G G1 → Q (.bl (wpD false d).isNone) H1
end
end LW
namespace LW
open PySem PySem.Spec PyProof.Rows L2 Ys

theorem flat_app : ∀ xs ys : List Pl, flat (xs ++ ys) = flat xs ++ flat ys
  | [], ys => rfl
  | x :: xs, ys => by rw [List.cons_append, flat, flat, flat_app xs ys, List.append_assoc]
theorem take_snoc {α : Type} {l : List α} {i : Nat} {x : α} (h : l[i]? = some x) : l.take (i + 1) = l.take i ++ [x] := by rw [List.take_add_one, h]; rfl
theorem pl_at {K : PySem.W.Frag} {G : Hp} {xs : List V} {ps : List Pl} {i : Nat} {x : V} (h : Dts K G xs (Pl.dl ps)) (e : xs[i]? = some x) : ∃ p, ps[i]? = some p ∧ Dt K G x p.d := by
  obtain ⟨d, h1, h2⟩ := h.at_ e
  rw [dl_map, List.getElem?_map] at h1
  cases q : ps[i]? with
  | none => rw [q] at h1; cases h1
  | some p =>
    rw [q] at h1
    obtain rfl : p.d = d := Option.some.inj h1
    exact ⟨p, rfl, h2⟩
theorem pls_len {K : PySem.W.Frag} {G : Hp} {xs : List V} {ps : List Pl} (h : Dts K G xs (Pl.dl ps)) : xs.length = ps.length := by
  rw [h.len (ds := []), dl_map, List.length_map]
theorem szl_take : ∀ (ps : List Pl) (i : Nat), Pl.szl (ps.take i) ≤ Pl.szl ps
  | [], i => by rw [List.take_nil]; exact Nat.le_refl _
  | p :: ps, 0 => by simp [Pl.szl]
  | p :: ps, i + 1 => by
    have := szl_take ps i
    rw [List.take_succ_cons, Pl.szl, Pl.szl]
    omega
theorem dt_nm {K : PySem.W.Frag} {G : Hp} {v : V} {s : Str} (h : Dt K G v (Pl.nm s).d) : v = .str s := by
  rw [Pl.d] at h
  cases h
  rfl
theorem dt_nd {K : PySem.W.Frag} {G : Hp} {v : V} {h : Hd} {ps : List Pl} (k : Dt K G v (Pl.nd h ps).d) : ∃ a xr, v = .ref a ∧ SqT K G a (.str h.s :: xr) ∧ Dts K G xr (Pl.dl ps) := by
  rw [Pl.d] at k
  cases k with
  | tup hS hR =>
    cases hR with
    | cons h0 hR =>
      cases h0
      exact ⟨_, _, rfl, hS, hR⟩
theorem dt_mk {K : PySem.W.Frag} {G : Hp} {a : Addr} {h : Hd} {xr : List V} {ps : List Pl} (hS : SqT K G a (.str h.s :: xr)) (hR : Dts K G xr (Pl.dl ps)) : Dt K G (.ref a) (Pl.nd h ps).d := by
  rw [Pl.d]
  exact .tup hS (.cons (.str _) hR)
theorem dts_app {K : PySem.W.Frag} {G : Hp} {xs ys : List V} {ps qs : List Pl} (h1 : Dts K G xs (Pl.dl ps)) (h2 : Dts K G ys (Pl.dl qs)) : Dts K G (xs ++ ys) (Pl.dl (ps ++ qs)) := by
  have e : Pl.dl (ps ++ qs) = Pl.dl ps ++ Pl.dl qs := by rw [dl_map, dl_map, dl_map, List.map_append]
  rw [e]
  exact h1.app h2
theorem z_extLast {K : PySem.W.Frag} {G H : Hp} {M : List (Addr × HO)} {a b : Addr} {xs ys : List V} {Q : VK} (z : Zp G (M ++ [(a, .lst xs)]) H) (h : H b = some (.lst ys)) (hl : xs.length + ys.length ≤ 100000) (q : ∀ H1, Zp G (M ++ [(a, .lst (xs ++ ys))]) H1 → Q .non H1) : rExtend (.ref a) [.ref b] H Q ∨ rExtT K (.ref a) [.ref b] H Q :=
  z_extL z M.length last_at h hl fun H1 z1 => q H1 (by rw [List.set_append_right _ _ (Nat.le_refl _), Nat.sub_self] at z1; exact z1)
theorem z_extLastT {K : PySem.W.Frag} {G H : Hp} {M : List (Addr × HO)} {a b : Addr} {xs ys : List V} {Q : VK} (z : Zp G (M ++ [(a, .lst xs)]) H) (h : SqT K H b ys) (hl : xs.length + ys.length ≤ 100000) (q : ∀ H1, Zp G (M ++ [(a, .lst (xs ++ ys))]) H1 → Q .non H1) : rExtend (.ref a) [.ref b] H Q ∨ rExtT K (.ref a) [.ref b] H Q :=
  z_extT z M.length last_at h hl fun H1 z1 => q H1 (by rw [List.set_append_right _ _ (Nat.le_refl _), Nat.sub_self] at z1; exact z1)
section
variable {P : Program} {w : World} {K : PySem.W.Frag} {mg : Str → Option Value} {base : Heap} {f : Addr} {fd : FuncData}
def spSeq (K : PySem.W.Frag) : Sp := fun vs H Q _ => ∃ G M a xs ps, vs = [.ref a] ∧ Zp G M H ∧ SqL K G a xs ∧ Dts K G xs (Pl.dl ps) ∧ Pl.szl ps ≤ 20000 ∧ ∀ v G1 H1, Zp G1 M H1 → Same G G1 → Dt K G1 v (seqn ps).d → Q v H1
theorem ok_sequence (T : Nm K mg) (F : FnP K "sequence" s_sequence f fd) : FnOk P w K mg base CX0 1 f fd ["parts"] (spSeq K) := by
  have nd : N_sequence.Nodup := sc_sequence.nd
  refine F.ok sc_sequence (fun vs H Q E h => ?_) (fun cdv A outer s H vs Q E hr h => ?_)
  · obtain ⟨G, M, a, xs, ps, rfl, _⟩ := h
    rfl
  have hu := hr.units
  refine ⟨_, PSs.nox   (pss_cons (ps_asg (pe_lst pa_nil) (pg_name (i := 1) nd rfl (by first | exact .inl rfl | exact .inr rfl)))
    (pss_cons (ps_for PassesOwn.never rfl (k_any (K := K) (pv 0)) (pg_name (i := 2) nd rfl (by first | exact .inl rfl | exact .inr rfl)) (pss_one (ps_expr (pe_bm PySem.F.plainAttrs_list PySem.F.slot_list_extend PySem.F.type_list_extend (mt_ext2 (K := K)) (pv 1) (pa_cons (pe_ifExp (PW.pt (pw_and (pt_val (pe_callB (kc_isi (K := K)) (by rfl) T.b_isinstance boot_isinstance (pa_cons (pv 2) (pa_cons (pe_bltn (v := .ty "tuple") (by rfl) T.b_tuple boot_tuple rfl) pa_nil)))) (pw_and1 (pt_cmpR (k_eq (K := K) hu) (pe_ix (k_ix (K := K)) (pv 2) pe_int (fun _ _ => rfl)) pe_str (nomark _))))) (pe_slice (k_sl (K := K)) (pv 2) (po_some pe_int) po_none) (pe_lst (pa_cons (pv 2) pa_nil))) pa_nil)))))
    (pss_one (ps_ret (pe_ifExp (pt_cmpR (k_eq (K := K) hu) (pe_callB (kc_len (K := K) (P := P) (w := w)) (by rfl) T.b_len PySem.boot_len (pa_cons (pv 1) pa_nil)) pe_int (nomark _)) (pe_ix (k_ix (K := K)) (pv 1) pe_int (fun _ _ => rfl)) (pe_tup (pa_cons pe_str (k_star (K := K) (pv 1) pa_nil)))))))), ?_⟩
  obtain ⟨G, M, a, xs, ps, rfl, z, hS, hD, hz, q⟩ := h
  repeat (walk_at "z")
  refine z_ownL z (by simp) fun fa H1 z1 => ?_
  repeat (walk_at "z")
  refine z_anyL ?_
  repeat (walk_at "z")
  refine z_itL z1 hS ?_
  refine for_src src_L (fun i σ G' M' => ∃ k2 acc, M' = M ++ [(fa, .lst acc)] ∧ Same G G' ∧ Dts K G' acc (Pl.dl (flat (ps.take i))) ∧ σ = [some (.ref a), some (.ref fa), k2]) z1 ⟨_, [], rfl, Same.refl _, .nil, rfl⟩ (fun i σ G' M' H' ⟨_, _, _, s', _⟩ z' => z'.seqL (upL s' hS)) ?_ ?_
  · rintro i x σ G' M' H' hx ⟨k2, acc, rfl, s', hA, rfl⟩ z'
    obtain ⟨p, hp, hx'⟩ := pl_at (hD.up s') hx
    have hl : (flat (ps.take (i + 1))).length ≤ 20000 := Nat.le_trans (len_szl _) (Nat.le_trans (flat_sz _) (Nat.le_trans (szl_take ps _) hz))
    have e1 : flat (ps.take (i + 1)) = flat (ps.take i) ++ parts1 p := by
      rw [take_snoc hp, flat_app]
      show _ ++ (parts1 p ++ []) = _
      rw [List.append_nil]
    rw [e1, List.length_append] at hl
    have hal := pls_len hA
    repeat (walk_at "z")
    refine z_tyO z' M.length last_at ?_
    repeat (walk_at "z")
    refine z_isi (.ty "tuple") (hx'.up z'.sub).ty (kit_ty (kit_tup p.d)) ?_
    cases p with
    | nm s =>
      rw [Pl.d]
      repeat (walk_at "z")
      refine z_bF' rfl ?_
      repeat (walk_at "z")
      refine z_newL z' (by simp) fun p2 G2 H2 z2 s2 e2 => ?_
      repeat (walk_at "z")
      refine z_extLast z2 (z2.sub _ _ e2) (by rw [hal]; simp [parts1] at hl; simp; omega) fun H3 z3 => ?_
      repeat (walk_at "z")
      refine ⟨_, _, z3, _, _, rfl, s'.trans s2, ?_, rfl⟩
      rw [e1]
      exact dts_app (hA.up s2) (by show Dts K G2 [x] (Pl.dl [.nm s]); rw [dl_map]; exact .cons (hx'.up s2) .nil)
    | nd h rs =>
      obtain ⟨b, xr, rfl, hB, hR⟩ := dt_nd hx'
      have hr' := pls_len hR
      rw [Pl.d]
      repeat (walk_at "z")
      refine z_bT' rfl ?_
      repeat (walk_at "z")
      refine z_ixT z' hB at_zero ?_
      repeat (walk_at "z")
      refine z_eqS rfl ?_
      rw [str_th]
      repeat (walk_at "z")
      refine z_bd (fun c => ?_) (fun c => ?_)
      · subst c
        repeat (walk_at "z")
        refine z_slT z' hB fun p2 G2 H2 z2 s2 e2 => ?_
        rw [cut_tail] at e2
        repeat (walk_at "z")
        refine z_extLastT z2 (z2.seqT e2) (by rw [hal, hr']; simp [parts1] at hl; omega) fun H3 z3 => ?_
        repeat (walk_at "z")
        refine ⟨_, _, z3, _, _, rfl, s'.trans s2, ?_, rfl⟩
        rw [e1]
        exact dts_app (hA.up s2) (hR.up s2)
      · have ep : parts1 (.nd h rs) = [.nd h rs] := by unfold parts1; cases h <;> first | rfl | exact absurd rfl c
        repeat (walk_at "z")
        refine z_newL z' (by simp) fun p2 G2 H2 z2 s2 e2 => ?_
        repeat (walk_at "z")
        refine z_extLast z2 (z2.sub _ _ e2) (by rw [hal]; rw [ep] at hl; simp at hl; simp; omega) fun H3 z3 => ?_
        repeat (walk_at "z")
        refine ⟨_, _, z3, _, _, rfl, s'.trans s2, ?_, rfl⟩
        rw [e1, ep]
        exact dts_app (hA.up s2) (by rw [dl_map]; exact .cons (hx'.up s2) .nil)
  · rintro σ G1 M1 H2 ⟨k2, acc, rfl, s1, hA, rfl⟩ z2
    rw [pls_len hD, List.take_length] at hA
    have hal := pls_len hA
    have hfl : (flat ps).length ≤ 20000 := Nat.le_trans (len_szl _) (Nat.le_trans (flat_sz _) hz)
    have hM := SqL.of (K := K) (z2.at_ M.length last_at)
    repeat (walk_at "z")
    refine z_lenH (.inl hM) ?_
    repeat (walk_at "z")
    refine z_eqS rfl ?_
    repeat (walk_at "z")
    by_cases c : acc.length = 1
    · refine z_bT' (decide_eq_true (by rw [c]; rfl)) ?_
      repeat (walk_at "z")
      match acc, c, hA, hM with
      | [x], _, hA, hM =>
        refine z_ixH hM at_zero ?_
        obtain ⟨p, hp⟩ : ∃ p, flat ps = [p] := by
          match flat ps, hal with
          | [p], _ => exact ⟨p, rfl⟩
        have e : seqn ps = p := by unfold seqn; rw [hp]; rfl
        rw [hp, dl_map] at hA
        cases hA with
        | cons h1 h2 => exact q x _ _ z2.cut s1 (by rw [e]; exact h1)
    · refine z_bF' (decide_eq_false (by intro e; have := V.int.inj e; omega)) ?_
      repeat (walk_at "z")
      refine z_stL hM ?_
      repeat (walk_at "z")
      refine z_newT z2.cut (by simp; omega) fun p3 G3 H3 z3 s3 e3 => ?_
      refine q _ _ _ z3 (s1.trans s3) ?_
      have e : seqn ps = .nd .th (flat ps) := by
        unfold seqn
        rcases wrap_cases (flat ps) with ⟨x, e1, _⟩ | e
        · rw [e1] at hal; exact absurd hal c
        · exact e
      rw [e]
      rw [List.append_nil] at e3
      exact dt_mk (SqT.of e3) (hA.up s3)
def spAlong (K : PySem.W.Frag) : Sp := fun vs H Q _ => ∃ G M v1 v2 a b, vs = [v1, v2] ∧ Zp G M H ∧ Dt K G v1 (Pl.d a) ∧ Dt K G v2 (Pl.d b) ∧ Nms a ∧ Nms b ∧ a.dp ≤ 55 ∧ b.dp ≤ 55 ∧ ∀ v G1 H1, Zp G1 M H1 → Same G G1 → Dt K G1 v (along a b).d → Q v H1
theorem dt_done (T : Nm K mg) (G : Hp) : Dt K G (.ref (gA "DONE" K)) (.tuple [.str "then"]) := .tup (T.d_DONE G) (.cons (.str _) .nil)
theorem ok_alongside (T : Nm K mg) (F : FnP K "alongside" s_alongside f fd) : FnOk P w K mg base CX0 1 f fd ["one", "other"] (spAlong K) := by
  have nd : N_alongside.Nodup := sc_alongside.nd
  refine F.ok sc_alongside (fun vs H Q E h => ?_) (fun cdv A outer s H vs Q E hr h => ?_)
  · obtain ⟨G, M, v1, v2, a, b, rfl, _⟩ := h
    rfl
  have hu := hr.units
  refine ⟨_, PSs.nox   (pss_cons (ps_if (pt_cmpR (k_eq (K := K) hu) (pv 0) (pe_gC T.g_DONE (by rfl)) (nomark _)) (pss_one (ps_ret (pv 1))) pss_nil)
    (pss_one (ps_ret (pe_ifExp (pt_cmpR (k_eq (K := K) hu) (pv 1) (pe_gC T.g_DONE (by rfl)) (nomark _)) (pv 0) (pe_tup (pa_cons pe_str (pa_cons (pv 0) (pa_cons (pv 1) pa_nil)))))))), ?_⟩
  obtain ⟨G, M, v1, v2, a, b, rfl, z, h1, h2, n1, n2, l1, l2, q⟩ := h
  repeat (walk_at "z")
  refine z_eqD z h1 (dt_done T G) (pd_shaped n1 (by omega)) done_shaped ?_
  rw [eqv_done]
  cases c1 : isDone a with
  | true =>
    repeat (walk_at "z")
    exact q v2 G H z (Same.refl _) (by unfold along; rw [c1]; exact h2)
  | false =>
    repeat (walk_at "z")
    refine z_eqD z h2 (dt_done T G) (pd_shaped n2 (by omega)) done_shaped ?_
    rw [eqv_done]
    cases c2 : isDone b with
    | true =>
      repeat (walk_at "z")
      exact q v1 G H z (Same.refl _) (by unfold along; rw [c1, c2]; exact h1)
    | false =>
      repeat (walk_at "z")
      refine z_newT z (by simp) fun p G1 H1 z1 s1 e1 => ?_
      refine q _ G1 H1 z1 s1 ?_
      unfold along
      rw [c1, c2]
      exact dt_mk (h := .be) (ps := [a, b]) (SqT.of e1) (by rw [dl_map]; exact .cons (h1.up s1) (.cons (h2.up s1) .nil))
def spNF (K : PySem.W.Frag) (n : Nat) : Sp := fun vs H Q _ => ∃ G M v p b, vs = [v] ∧ Zp G M H ∧ Dt K G v (Pl.d p) ∧ Ok b p ∧ p.dp < n ∧ p.dp ≤ 50 ∧ p.sz ≤ 5000 ∧ ∀ v' G1 H1, Zp G1 M H1 → Same G G1 → Dt K G1 v' (nf p).d → Q v' H1
theorem ok_normal_form {n : Nat} (T : Nm K mg) (C_sequence : Own P w K mg base CX0 1 "sequence" ["parts"] (spSeq K)) (C_alongside : Own P w K mg base CX0 1 "alongside" ["one", "other"] (spAlong K)) (C_normal_form : Own P w K mg base CX0 (n + 1) "normal_form" ["plan"] (spNF K n)) (F : FnP K "normal_form" s_normal_form f fd) : FnOk P w K mg base CX0 (n + 2) f fd ["plan"] (spNF K (n + 1)) := by
  have nd : N_normal_form.Nodup := sc_normal_form.nd
  refine F.ok sc_normal_form (fun vs H Q E h => ?_) (fun cdv A outer s H vs Q E hr h => ?_)
  · obtain ⟨G, M, v, p, b, rfl, _⟩ := h
    rfl
  have hu := hr.units
  refine ⟨_, PSs.nox   (pss_cons (ps_if (pt_val (pe_callB (kc_isi (K := K)) (by rfl) T.b_isinstance boot_isinstance (pa_cons (pv 0) (pa_cons (pe_bltn (v := .ty "str") (by rfl) T.b_str boot_str rfl) pa_nil)))) (pss_one (ps_ret (pv 0))) pss_nil)
    (pss_cons (ps_setLc (i := 1) (own := [("part", 2)]) (tt := tYes) rfl nd rfl rfl (sw_true rfl rfl rfl (by decide +kernel)) (k_any (K := K) (pe_slice (k_sl (K := K)) (pv 0) (po_some pe_int) po_none)) (blkOk_by (N := N_normal_form) (sc := defScope s_normal_form) (by decide +kernel)) (fun _ _ _ _ _ => (pg_name (i := 2) nd rfl (by first | exact .inl rfl | exact .inr rfl))) (fun _ _ _ _ _ => pts_nil) (fun _ _ _ _ _ => (pe_own C_normal_form (hr.mono (by omega)) (by rfl) pass0 (pa_cons (pv 2) pa_nil))))
    (pss_cons (ps_if (pt_cmpR (k_eq (K := K) hu) (pe_ix (k_ix (K := K)) (pv 0) pe_int (fun _ _ => rfl)) pe_str (nomark _)) (pss_one (ps_ret (pe_own C_sequence (hr.mono (by omega)) (by rfl) pass0 (pa_cons (pv 1) pa_nil)))) pss_nil)
    (pss_one (ps_ret (pe_ifExp (pt_cmpR (k_eq (K := K) hu) (pe_ix (k_ix (K := K)) (pv 0) pe_int (fun _ _ => rfl)) pe_str (nomark _)) (pe_own C_alongside (hr.mono (by omega)) (by rfl) pass0 (pa_cons (pe_ix (k_ix (K := K)) (pv 1) pe_int (fun _ _ => rfl)) (pa_cons (pe_ix (k_ix (K := K)) (pv 1) pe_int (fun _ _ => rfl)) pa_nil))) (pe_tup (pa_cons (pe_ix (k_ix (K := K)) (pv 0) pe_int (fun _ _ => rfl)) (k_star (K := K) (pv 1) pa_nil))))))))), ?_⟩
  obtain ⟨G, M, v, p, b, rfl, z, hd, hO, hn, h50, hsz, q⟩ := h
  repeat (walk_at "z")
  refine z_isi (.ty "str") (hd.up z.sub).ty (kit_ty (kit_str p.d)) ?_
  cases p with
  | nm s =>
    rw [Pl.d]
    repeat (walk_at "z")
    refine z_bT' rfl ?_
    repeat (walk_at "z")
    exact q v G H z (Same.refl _) (by rw [nf]; exact hd)
  | nd h ps =>
    obtain ⟨a, xr, rfl, hS, hR⟩ := dt_nd hd
    rw [Pl.dp] at hn h50
    rw [Pl.sz] at hsz
    have hps := pls_len hR
    rw [Pl.d]
    repeat (walk_at "z")
    refine z_bF' rfl ?_
    repeat (walk_at "z")
    refine z_anyT ?_
    repeat (walk_at "z")
    refine z_slT z hS fun p2 G2 H2 z2 s2 e2 => ?_
    rw [cut_tail] at e2
    refine z_itT z2 e2 ?_
    refine lc_src src_T (fun i G' M' acc => M' = M ∧ Same G2 G' ∧ Dts K G' acc (Pl.dl ((ps.take i).map nf))) z2 ⟨rfl, Same.refl _, .nil⟩ (fun i G' M' M1 acc H' ⟨_, s', _⟩ z' => z'.seqT (upT s' e2)) ?_ ?_
    · rintro i x G' M' acc Dl H' hx ⟨rfl, s', hA⟩ z'
      obtain ⟨p, hp, hx'⟩ := pl_at (hR.up (s2.trans s')) hx
      have hm := List.mem_of_getElem? hp
      have h1 := dp_mem hm
      have h2 := sz_mem hm
      have hlt : i < ps.length := (List.getElem?_eq_some_iff.mp hp).1
      have hl2 := len_szl ps
      have hal := pls_len hA
      rw [List.length_map, List.length_take] at hal
      repeat (walk_at "z")
      refine ⟨by rfl, ?_⟩
      repeat (walk_at "z")
      refine ⟨G', _, x, p, _, rfl, z', hx', hO.kids p hm, by omega, by omega, by omega, fun v' G3 H3 z3 s3 h3 => ?_⟩
      refine z_laid z3 (by omega) ⟨rfl, s'.trans s3, ?_⟩
      rw [take_snoc hp, List.map_append]
      exact dts_app (hA.up s3) (by rw [dl_map]; exact .cons h3 .nil)
    rintro p3 G3' M3 acc G3 H3 ⟨rfl, s3', hA⟩ s3 z3 e3
    rw [hps, List.take_length] at hA
    have hA := hA.up s3
    have s23 := s2.trans (s3'.trans s3)
    have hk : ∀ x ∈ ps.map nf, Ok (b || decide (h = .be)) x := fun x hx => by
      obtain ⟨p, hp, rfl⟩ := List.mem_map.mp hx
      exact nf_ok p _ (hO.kids p hp)
    have hdp : ∀ x ∈ ps.map nf, x.dp ≤ 50 := fun x hx => by
      obtain ⟨p, hp, rfl⟩ := List.mem_map.mp hx
      have := nf_dp p
      have := dp_mem hp
      omega
    have hz : Pl.szl (ps.map nf) ≤ 5000 := by
      have := nfl_sz ps fun p _ => nf_sz p
      rw [nfl_map] at this
      omega
    have enf : nf (.nd h ps) = mk h (ps.map nf) := by rw [nf, nfl_map]
    rw [enf] at q
    repeat (walk_at "z")
    refine z_ixT z3 (upT s23 hS) at_zero ?_
    repeat (walk_at "z")
    refine z_eqS rfl ?_
    rw [str_th]
    repeat (walk_at "z")
    refine z_bd (fun c => ?_) (fun c => ?_)
    · subst c
      repeat (walk_at "z")
      exact ⟨G3, _, p3, acc, _, rfl, z3, SqL.of e3, hA, by omega, fun v G4 H4 z4 s4 h4 => q v G4 H4 z4 (s23.trans s4) h4⟩
    · repeat (walk_at "z")
      refine z_ixT z3 (upT s23 hS) at_zero ?_
      repeat (walk_at "z")
      refine z_eqS rfl ?_
      rw [str_be]
      repeat (walk_at "z")
      refine z_bd (fun c2 => ?_) (fun c2 => ?_)
      · subst c2
        have f2 : ps.length = 2 := of_decide_eq_true hO.fit
        obtain ⟨x, y, hxy⟩ : ∃ x y, ps.map nf = [x, y] := by
          match ps, f2 with
          | [x, y], _ => exact ⟨_, _, rfl⟩
        rw [hxy] at hA hk hdp q
        rw [dl_map] at hA
        cases hA with
        | cons hA1 hA2 =>
        cases hA2 with
        | cons hA2 hA3 =>
        cases hA3
        repeat (walk_at "z")
        refine z_ixL z3 (SqL.of e3) at_zero ?_
        repeat (walk_at "z")
        refine z_ixL z3 (SqL.of e3) at_one ?_
        repeat (walk_at "z")
        have d1 := hdp x (by simp)
        have d2 := hdp y (by simp)
        exact ⟨G3, _, _, _, x, y, rfl, z3, hA1, hA2, Ok.nms _ _ (hk x (by simp)), Ok.nms _ _ (hk y (by simp)), by omega, by omega, fun v G4 H4 z4 s4 h4 => q v G4 H4 z4 (s23.trans s4) h4⟩
      · have hal := pls_len hA
        rw [List.length_map] at hal
        have hl2 := len_szl ps
        repeat (walk_at "z")
        refine z_ixT z3 (upT s23 hS) at_zero ?_
        repeat (walk_at "z")
        refine z_stL (z3.seqL (SqL.of e3)) ?_
        repeat (walk_at "z")
        refine z_newT z3 (by simp; omega) fun p4 G4 H4 z4 s4 e4 => ?_
        rw [List.append_nil] at e4
        refine q _ G4 H4 z4 (s23.trans s4) ?_
        have e : mk h (ps.map nf) = .nd h (ps.map nf) := by
          rcases mk_cases h (ps.map nf) with ⟨e, _⟩ | ⟨_, _, e, _⟩ | ⟨_, e⟩
          · exact absurd e c
          · exact absurd e c2
          · exact e
        rw [e]
        exact dt_mk (SqT.of e4) (hA.up s4)
end
end LW
namespace LW
open PySem PySem.Spec PyProof.Rows L2 Ys

theorem nmsLl_app : ∀ xs ys : List Pl, nmsLl (xs ++ ys) = nmsLl xs ++ nmsLl ys
  | [], ys => by simp [nmsLl]
  | x :: xs, ys => by rw [List.cons_append, nmsLl, nmsLl, nmsLl_app xs ys, List.append_assoc]
theorem nmsLl_take (ps : List Pl) (i : Nat) : (nmsLl (ps.take i)).length ≤ (nmsLl ps).length := by
  have e : nmsLl ps = nmsLl (ps.take i) ++ nmsLl (ps.drop i) := by rw [← nmsLl_app, List.take_append_drop]
  rw [e, List.length_append]
  omega
theorem nms_len : ∀ p : Pl, (nmsL p).length ≤ p.sz := Pl.ind (fun s => by rw [nmsL, Pl.sz]; exact Nat.le_refl _) fun h ps ih => by
  rw [nmsL, Pl.sz]
  have go : ∀ l : List Pl, (∀ p ∈ l, p ∈ ps) → (nmsLl l).length ≤ Pl.szl l := by
    intro l
    induction l with
    | nil => intro _; simp [nmsLl]
    | cons a r ihr =>
      intro hl
      have := ih a (hl a (by simp))
      have := ihr fun p hp => hl p (List.mem_cons_of_mem _ hp)
      rw [nmsLl, Pl.szl, List.length_append]
      omega
  have := go ps fun _ h => h
  omega
theorem joinS_len : ∀ ts : List Str, (Txt.join ", " ts).length ≤ (ts.map (·.length)).sum + ts.length * 2
  | [] => Nat.zero_le _
  | [x] => by
    show (Txt.join ", " [x]).length ≤ _
    rw [TL.join_eq]
    show x.length ≤ _
    simp
  | x :: y :: r => by
    have ih := joinS_len (y :: r)
    rw [TL.join_eq] at ih ⊢
    show (x ++ ", " ++ Str.join ", " (y :: r)).length ≤ _
    have e2 : ((", " : String) : Str).length = 2 := rfl
    rw [PySem.Str.length_append, PySem.Str.length_append, e2]
    simp only [List.map_cons, List.sum_cons, List.length_cons] at ih ⊢
    omega
theorem txts_len {ps : List Pl} (h : ∀ p ∈ ps, (txt p).length + 2 ≤ 12 * p.sz) : ((ps.map txt).map (·.length)).sum + (ps.map txt).length * 2 ≤ 12 * Pl.szl ps := by
  induction ps with
  | nil => simp
  | cons p ps ih =>
    have h1 := h p (by simp)
    have h2 := ih fun q hq => h q (List.mem_cons_of_mem _ hq)
    simp only [List.map_cons, List.sum_cons, List.length_cons, Pl.szl] at h2 ⊢
    omega
theorem txt_len : ∀ p, Nms p → (txt p).length + 2 ≤ 12 * p.sz := Pl.ind (fun s k => by
    cases k with
    | nm k =>
      have := k.2.1
      rw [txt, Pl.sz]
      omega) fun h ps ih k => by
  have h1 := txts_len fun p hp => ih p hp (k.kids p hp)
  have h2 := joinS_len (ps.map txt)
  have h3 := hd_len h
  rw [txt, txtl_map, Pl.sz, len_app, len_app, len_app]
  have e1 : ("(" : Str).length = 1 := rfl
  have e2 : (")" : Str).length = 1 := rfl
  omega
section
variable {P : Program} {w : World} {K : PySem.W.Frag} {mg : Str → Option Value} {base : Heap} {f : Addr} {fd : FuncData}
def spNames (K : PySem.W.Frag) (n : Nat) : Sp := fun vs H Q _ => ∃ G M v p, vs = [v] ∧ Zp G M H ∧ Dt K G v (Pl.d p) ∧ p.dp < n ∧ p.sz ≤ 5000 ∧ ∀ l G1 H1, Zp G1 M H1 → Same G G1 → G1 l = some (.lst ((nmsL p).map V.str)) → Q (.ref l) H1
theorem ok_name_list {n : Nat} (T : Nm K mg) (C_name_list : Own P w K mg base CX0 (n + 1) "name_list" ["plan"] (spNames K n)) (F : FnP K "name_list" s_name_list f fd) : FnOk P w K mg base CX0 (n + 2) f fd ["plan"] (spNames K (n + 1)) := by
  have nd : N_name_list.Nodup := sc_name_list.nd
  refine F.ok sc_name_list (fun vs H Q E h => ?_) (fun cdv A outer s H vs Q E hr h => ?_)
  · obtain ⟨G, M, v, p, rfl, _⟩ := h
    rfl
  have hu := hr.units
  refine ⟨_, PSs.nox   (pss_cons (ps_if (pt_val (pe_callB (kc_isi (K := K)) (by rfl) T.b_isinstance boot_isinstance (pa_cons (pv 0) (pa_cons (pe_bltn (v := .ty "str") (by rfl) T.b_str boot_str rfl) pa_nil)))) (pss_one (ps_ret (pe_lst (pa_cons (pv 0) pa_nil)))) pss_nil)
    (pss_cons (ps_asg (pe_lst pa_nil) (pg_name (i := 1) nd rfl (by first | exact .inl rfl | exact .inr rfl)))
    (pss_cons (ps_for PassesOwn.never rfl (k_any (K := K) (pe_slice (k_sl (K := K)) (pv 0) (po_some pe_int) po_none)) (pg_name (i := 2) nd rfl (by first | exact .inl rfl | exact .inr rfl)) (pss_one (ps_expr (pe_bm PySem.F.plainAttrs_list PySem.F.slot_list_extend PySem.F.type_list_extend (mt_ext2 (K := K)) (pv 1) (pa_cons (pe_own C_name_list (hr.mono (by omega)) (by rfl) pass0 (pa_cons (pv 2) pa_nil)) pa_nil)))))
    (pss_one (ps_ret (pv 1)))))), ?_⟩
  obtain ⟨G, M, v, p, rfl, z, hd, hn, hsz, q⟩ := h
  repeat (walk_at "z")
  refine z_isi (.ty "str") (hd.up z.sub).ty (kit_ty (kit_str p.d)) ?_
  cases p with
  | nm s =>
    have e := dt_nm hd
    subst e
    rw [Pl.d]
    repeat (walk_at "z")
    refine z_bT' rfl ?_
    repeat (walk_at "z")
    refine z_newL z (by simp) fun l G1 H1 z1 s1 e1 => ?_
    exact q l G1 H1 z1 s1 (by rw [nmsL]; exact e1)
  | nd h ps =>
    obtain ⟨a, xr, rfl, hS, hR⟩ := dt_nd hd
    rw [Pl.dp] at hn
    rw [Pl.sz] at hsz
    have hps := pls_len hR
    rw [Pl.d]
    repeat (walk_at "z")
    refine z_bF' rfl ?_
    repeat (walk_at "z")
    refine z_ownL z (by simp) fun fa H1 z1 => ?_
    repeat (walk_at "z")
    refine z_anyT ?_
    repeat (walk_at "z")
    refine z_slT z1 hS fun p2 G2 H2 z2 s2 e2 => ?_
    rw [cut_tail] at e2
    refine z_itT z2 e2 ?_
    refine for_src src_T (fun i σ G' M' => ∃ k2, M' = M ++ [(fa, .lst ((nmsLl (ps.take i)).map V.str))] ∧ Same G2 G' ∧ σ = [some (.ref a), some (.ref fa), k2]) z2 ⟨_, rfl, Same.refl _, rfl⟩ (fun i σ G' M' H' ⟨_, _, s', _⟩ z' => z'.seqT (upT s' e2)) ?_ ?_
    · rintro i x σ G' M' H' hx ⟨k2, rfl, s', rfl⟩ z'
      obtain ⟨p, hp, hx'⟩ := pl_at (hR.up (s2.trans s')) hx
      have hm := List.mem_of_getElem? hp
      have h1 := dp_mem hm
      have h2 := sz_mem hm
      have hl : (nmsLl (ps.take (i + 1))).length ≤ 5000 := by
        have := nmsLl_take ps (i + 1)
        have := nms_len (.nd h ps)
        rw [nmsL, Pl.sz] at this
        omega
      have e1 : nmsLl (ps.take (i + 1)) = nmsLl (ps.take i) ++ nmsL p := by
        rw [take_snoc hp, nmsLl_app]
        simp [nmsLl]
      rw [e1, List.length_append] at hl
      repeat (walk_at "z")
      refine z_tyO z' M.length last_at ?_
      repeat (walk_at "z")
      refine ⟨G', _, x, p, rfl, z', hx', by omega, by omega, fun l G3 H3 z3 s3 e3 => ?_⟩
      repeat (walk_at "z")
      refine z_extLast z3 (z3.sub _ _ e3) (by rw [List.length_map, List.length_map]; omega) fun H4 z4 => ?_
      repeat (walk_at "z")
      exact ⟨_, _, z4, _, by rw [e1, List.map_append], s'.trans s3, rfl⟩
    · rintro σ G3 M3 H3 ⟨k2, rfl, s3, rfl⟩ z3
      rw [hps, List.take_length] at z3
      repeat (walk_at "z")
      have e : nmsL (.nd h ps) = nmsLl ps := by rw [nmsL]
      rw [e] at q
      exact q fa _ _ z3.fix (s2.trans (s3.trans (Same.new (z3.own M.length _ _ last_at).2))) upd_same
def spNamesIn (K : PySem.W.Frag) (n : Nat) : Sp := fun vs H Q _ => ∃ G M v p, vs = [v] ∧ Zp G M H ∧ Dt K G v (Pl.d p) ∧ p.dp < n ∧ p.sz ≤ 5000 ∧ (nmsL p).length < 64 ∧ ∀ l G1 H1, Zp G1 M H1 → Same G G1 → SqT K G1 l ((asc (nmsL p)).map V.str) → Q (.ref l) H1
theorem ok_names_in {n : Nat} (T : Nm K mg) (C_name_list : Own P w K mg base CX0 (n + 1) "name_list" ["plan"] (spNames K n)) (C_ascending : Own P w K mg base CX0 1 "ascending" ["words"] (spAsc K)) (F : FnP K "names_in" s_names_in f fd) : FnOk P w K mg base CX0 (n + 2) f fd ["plan"] (spNamesIn K n) := by
  have nd : N_names_in.Nodup := sc_names_in.nd
  refine F.ok sc_names_in (fun vs H Q E h => ?_) (fun cdv A outer s H vs Q E hr h => ?_)
  · obtain ⟨G, M, v, p, rfl, _⟩ := h
    rfl
  have hu := hr.units
  refine ⟨_, PSs.nox   (pss_one (ps_ret (pe_own C_ascending (hr.mono (by omega)) (by rfl) pass0 (pa_cons (pe_own C_name_list (hr.mono (by omega)) (by rfl) pass0 (pa_cons (pv 0) pa_nil)) pa_nil)))), ?_⟩
  obtain ⟨G, M, v, p, rfl, z, hd, hn, hsz, h64, q⟩ := h
  repeat (walk_at "z")
  refine ⟨G, M, v, p, rfl, z, hd, hn, hsz, fun l G1 H1 z1 s1 e1 => ?_⟩
  repeat (walk_at "z")
  exact ⟨G1, M, l, nmsL p, rfl, z1, SqL.of (z1.sub _ _ e1), h64, fun l2 G2 H2 z2 s2 e2 => q l2 G2 H2 z2 (s1.trans s2) e2⟩
def spText (K : PySem.W.Frag) (n : Nat) : Sp := fun vs H Q _ => ∃ G M v p, vs = [v] ∧ Zp G M H ∧ Dt K G v (Pl.d p) ∧ Nms p ∧ p.dp < n ∧ p.sz ≤ 5000 ∧ ∀ G1 H1, Zp G1 M H1 → Same G G1 → Q (.str (txt p)) H1
theorem ok_plan_text {n : Nat} (T : Nm K mg) (C_plan_text : Own P w K mg base CX0 (n + 1) "plan_text" ["plan"] (spText K n)) (F : FnP K "plan_text" s_plan_text f fd) : FnOk P w K mg base CX0 (n + 2) f fd ["plan"] (spText K (n + 1)) := by
  have nd : N_plan_text.Nodup := sc_plan_text.nd
  refine F.ok sc_plan_text (fun vs H Q E h => ?_) (fun cdv A outer s H vs Q E hr h => ?_)
  · obtain ⟨G, M, v, p, rfl, _⟩ := h
    rfl
  have hu := hr.units
  refine ⟨_, PSs.nox   (pss_cons (ps_if (pt_val (pe_callB (kc_isi (K := K)) (by rfl) T.b_isinstance boot_isinstance (pa_cons (pv 0) (pa_cons (pe_bltn (v := .ty "str") (by rfl) T.b_str boot_str rfl) pa_nil)))) (pss_one (ps_ret (pv 0))) pss_nil)
    (pss_one (ps_ret (pe_op (k_add (K := K)) (pe_op (k_add (K := K)) (pe_op (k_add (K := K)) (pe_ix (k_ix (K := K)) (pv 0) pe_int (fun _ _ => rfl)) pe_str) (pe_joinG pe_str (pe_lc (own := [("part", 1)]) (tt := tYes) rfl nd (k_any (K := K) (pe_slice (k_sl (K := K)) (pv 0) (po_some pe_int) po_none)) (blkOk_by (N := N_plan_text) (sc := defScope s_plan_text) (by decide +kernel)) (fun _ _ _ _ _ => (pg_name (i := 1) nd rfl (by first | exact .inl rfl | exact .inr rfl))) (fun _ _ _ _ _ => pts_nil) (fun _ _ _ _ _ => (pe_own C_plan_text (hr.mono (by omega)) (by rfl) pass0 (pa_cons (pv 1) pa_nil)))))) pe_str)))), ?_⟩
  obtain ⟨G, M, v, p, rfl, z, hd, hN, hn, hsz, q⟩ := h
  repeat (walk_at "z")
  refine z_isi (.ty "str") (hd.up z.sub).ty (kit_ty (kit_str p.d)) ?_
  cases p with
  | nm s =>
    have e := dt_nm hd
    subst e
    rw [Pl.d]
    repeat (walk_at "z")
    refine z_bT' rfl ?_
    repeat (walk_at "z")
    have := q G H z (Same.refl _)
    rw [txt] at this
    exact this
  | nd h ps =>
    obtain ⟨a, xr, rfl, hS, hR⟩ := dt_nd hd
    rw [Pl.dp] at hn
    rw [Pl.sz] at hsz
    have hps := pls_len hR
    have hl := txts_len fun p hp => txt_len p (hN.kids p hp)
    have hj := joinS_len (ps.map txt)
    have h8 := hd_len h
    have c1 : ("(" : Str).length = 1 := rfl
    have c2 : (")" : Str).length = 1 := rfl
    have c3 : (", " : Str).length = 2 := rfl
    rw [Pl.d]
    repeat (walk_at "z")
    refine z_bF' rfl ?_
    repeat (walk_at "z")
    refine z_ixT z hS at_zero ?_
    repeat (walk_at "z")
    refine z_addS (by omega) ?_
    repeat (walk_at "z")
    refine z_anyT ?_
    repeat (walk_at "z")
    refine z_slT z hS fun p2 G2 H2 z2 s2 e2 => ?_
    rw [cut_tail] at e2
    refine z_itT z2 e2 ?_
    refine lc_src src_T (fun i G' M' acc => M' = M ∧ Same G2 G' ∧ acc = ((ps.take i).map txt).map V.str) z2 ⟨rfl, Same.refl _, rfl⟩ (fun i G' M' M1 acc H' ⟨_, s', _⟩ z' => z'.seqT (upT s' e2)) ?_ ?_
    · rintro i x G' M' acc Dl H' hx ⟨rfl, s', rfl⟩ z'
      obtain ⟨p, hp, hx'⟩ := pl_at (hR.up (s2.trans s')) hx
      have hm := List.mem_of_getElem? hp
      have h1 := dp_mem hm
      have h2 := sz_mem hm
      have hl2 := len_szl ps
      repeat (walk_at "z")
      refine ⟨by rfl, ?_⟩
      repeat (walk_at "z")
      refine ⟨G', _, x, p, rfl, z', hx', hN.kids p hm, by omega, by omega, fun G3 H3 z3 s3 => ?_⟩
      refine z_laid z3 (by rw [List.length_map, List.length_map, List.length_take]; omega) ⟨rfl, s'.trans s3, ?_⟩
      rw [take_snoc hp, List.map_append, List.map_append]
      rfl
    rintro p3 G3' M3 acc G3 H3 ⟨rfl, s3', rfl⟩ s3 z3 e3
    rw [hps, List.take_length] at e3
    refine z_join z3 (SqL.of e3) (by rw [c3]; omega) ?_
    repeat (walk_at "z")
    have l1 : (h.s ++ "(" : Str).length = h.s.length + 1 := by rw [len_app]; rfl
    refine z_addS (by omega) ?_
    have l2 : (h.s ++ "(" ++ Txt.join ", " (ps.map txt) : Str).length = h.s.length + 1 + (Txt.join ", " (ps.map txt)).length := by rw [len_app, l1]
    repeat (walk_at "z")
    refine z_addS (by omega) ?_
    repeat (walk_at "z")
    have := q G3 H3 z3 (s2.trans (s3'.trans s3))
    rw [txt, txtl_map] at this
    exact this
end
end LW
namespace LW
open PySem PySem.Spec PyProof.Rows L2 Ys

theorem cut_tail2 {x y : V} {xr : List V} : cutV (x :: y :: xr) (some 2) none = xr := by
  have e1 : HT.sIx (x :: y :: xr).length 0 (some 2) = min 2 (x :: y :: xr).length := HT.sIx_nat (x :: y :: xr).length 0 2
  have e2 : HT.sIx (x :: y :: xr).length (x :: y :: xr).length none = (x :: y :: xr).length := rfl
  have e3 : min 2 (x :: y :: xr).length = 2 := by rw [List.length_cons, List.length_cons]; omega
  unfold cutV
  rw [e1, e2, e3, List.drop_succ_cons, List.drop_succ_cons, List.drop_zero, List.length_cons, List.length_cons]
  exact List.take_of_length_le (by omega)
theorem pl_all {K : PySem.W.Frag} {G : Hp} {x : V} {p : Pl} (h : Dt K G x p.d) : Dts K G [x] (Pl.dl [p]) := by rw [dl_map]; exact .cons h .nil
theorem pl_cons {K : PySem.W.Frag} {G : Hp} {xr : List V} {a : Pl} {r : List Pl} (h : Dts K G xr (Pl.dl (a :: r))) : ∃ x ys, xr = x :: ys ∧ Dt K G x a.d ∧ Dts K G ys (Pl.dl r) := by
  rw [dl_map, List.map_cons, ← dl_map] at h
  cases h with
  | cons h1 h2 => exact ⟨_, _, rfl, h1, h2⟩
theorem pl_nil {K : PySem.W.Frag} {G : Hp} {xr : List V} (h : Dts K G xr (Pl.dl [])) : xr = [] := by
  rw [dl_map] at h
  cases h
  rfl
theorem Zp.settle {G H : Hp} {M : List (Addr × HO)} {l : Addr} {o : HO} (z : Zp G (M ++ [(l, o)]) H) : ∃ G2, Zp G2 M H ∧ Same G G2 ∧ G2 l = some o := ⟨_, z.fix, Same.new (z.own M.length _ _ last_at).2, upd_same⟩
theorem szl_mem2 {a : Pl} {r : List Pl} : Pl.szl (a :: r) = a.sz + Pl.szl r := by rw [Pl.szl]
section
variable {P : Program} {w : World} {K : PySem.W.Frag} {mg : Str → Option Value} {base : Heap} {f : Addr} {fd : FuncData}
abbrev OwnS (P : Program) (w : World) (K : PySem.W.Frag) (mg : Str → Option Value) (base : Heap) : Prop := Own P w K mg base CX0 1 "sequence" ["parts"] (spSeq K)
abbrev OwnAl (P : Program) (w : World) (K : PySem.W.Frag) (mg : Str → Option Value) (base : Heap) : Prop := Own P w K mg base CX0 1 "alongside" ["one", "other"] (spAlong K)
def spWC (K : PySem.W.Frag) (n : Nat) : Sp := fun vs H Q _ => ∃ G M v p b, vs = [v] ∧ Zp G M H ∧ Dt K G v (Pl.d p) ∧ Ok b p ∧ p.dp < n ∧ p.dp ≤ 50 ∧ p.sz ≤ 5000 ∧ ∀ l xs G1 H1, Zp G1 (M ++ [(l, .lst xs)]) H1 → Same G G1 → Dts K G1 xs (Pl.dl (wc p)) → Q (.ref l) H1
end
end LW
namespace LW
open PySem PySem.Spec PyProof.Rows L2 Ys

theorem wc_ei {b : Bool} {ps : List Pl} (k : Ok b (.nd .ei ps)) (h : wc (.nd .ei ps) = []) : False := by
  have f : 1 ≤ ps.length := of_decide_eq_true k.fit
  rw [wc] at h
  rw [h] at f
  cases f
theorem wc_ag {ps : List Pl} (h : wc (.nd .ag ps) = []) : False := by rw [wc] at h; cases h
theorem wc_th {a : Pl} {r : List Pl} (h : wc (.nd .th (a :: r)) = []) : wc a = [] := by
  rw [wc, wcT] at h
  exact List.map_eq_nil_iff.mp h
theorem wc_be {a b : Pl} (h : wc (.nd .be [a, b]) = []) : wc a = [] ∧ wc b = [] := by
  rw [wc, wcB] at h
  split at h
  · rename_i h0
    rw [wcC] at h
    exact ⟨List.map_eq_nil_iff.mp h0, List.map_eq_nil_iff.mp h⟩
  · rename_i h0
    exact absurd h h0
section
variable {P : Program} {w : World} {K : PySem.W.Frag} {mg : Str → Option Value} {base : Heap} {f : Addr} {fd : FuncData} {CI : Addr}
def spSP (K : PySem.W.Frag) (n : Nat) : Sp := fun vs H Q _ => ∃ G M v p b, vs = [v] ∧ Zp G M H ∧ Dt K G v (Pl.d p) ∧ Ok b p ∧ wc p = [] ∧ p.dp < n ∧ p.dp ≤ 50 ∧ p.sz ≤ 5000 ∧ ∀ l xs G1 H1, Zp G1 (M ++ [(l, .lst xs)]) H1 → Same G G1 → Dts K G1 xs (Pl.dl (spl p)) → Q (.ref l) H1
theorem spl_len : ∀ p : Pl, (spl p).length ≤ p.sz := Pl.ind (fun s => by rw [spl, Pl.sz]; exact Nat.le_refl _) fun h ps ih => by
  have go : ∀ l : List Pl, (∀ p ∈ l, p ∈ ps) → (splB l).length ≤ Pl.szl l := by
    intro l
    induction l with
    | nil => intro _; simp [splB]
    | cons a r ihr =>
      intro hl
      have := ih a (hl a (by simp))
      have := ihr fun p hp => hl p (List.mem_cons_of_mem _ hp)
      rw [splB, Pl.szl, List.length_append]
      omega
  have := go ps fun _ h => h
  cases h with
  | th =>
    rw [spl, Pl.sz]
    cases ps with
    | nil => rw [splT]; exact Nat.zero_le _
    | cons a r =>
      rw [splT, Pl.szl]
      have := ih a (by simp)
      omega
  | an => rw [spl, Pl.sz]; simp
  | ei => rw [spl, Pl.sz] <;> first | omega | (intro e; cases e)
  | ag => rw [spl, Pl.sz] <;> first | omega | (intro e; cases e)
  | be => rw [spl, Pl.sz] <;> first | omega | (intro e; cases e)
def spTurnAt (K : PySem.W.Frag) (n : Nat) : Sp := fun vs H Q _ => ∃ G M v p b, vs = [v] ∧ Zp G M H ∧ Dt K G v (Pl.d p) ∧ Ok b p ∧ p.dp < n ∧ p.dp ≤ 50 ∧ p.sz ≤ 5000 ∧ ∀ G1 H1, Zp G1 M H1 → Same G G1 → Q (.str (turnS p)) H1
abbrev OwnWC (P : Program) (w : World) (K : PySem.W.Frag) (mg : Str → Option Value) (base : Heap) (n : Nat) : Prop := Own P w K mg base CX0 (n + 1) "world_choices" ["plan"] (spWC K n)
/-! ### of plans that may be wrong -/
def NOk (n : Nat) (d : PyData) (X : Pl → Prop) : Prop := wpD false d = none → ∃ p, d = Pl.d p ∧ Ok false p ∧ p.dp < n ∧ p.dp ≤ 50 ∧ p.sz ≤ 5000 ∧ X p
def NErr (K : PySem.W.Frag) (CI : Addr) (G : Hp) (M : List (Addr × HO)) (d : PyData) (E : XK) : Prop := ∀ e, wpD false d = some e → ∀ dd v' G1 H1, Zp G1 M H1 → Same G G1 → Dt K G1 v' e → G1 dd = some (.xd [("value", v')]) → E (.ref CI) (some dd) H1
def spNormal (K : PySem.W.Frag) (CI : Addr) (n : Nat) : Sp := fun vs H Q E => ∃ G M v d, vs = [v] ∧ Zp G M H ∧ Dt K G v d ∧ Sht d ∧ d.depth < n ∧ NOk n d (fun p => ∀ v' G1 H1, Zp G1 M H1 → Same G G1 → Dt K G1 v' (nf p).d → Q v' H1) ∧ NErr K CI G M d E
abbrev OwnWr (P : Program) (w : World) (K : PySem.W.Frag) (mg : Str → Option Value) (base : Heap) (n : Nat) : Prop := Own P w K mg base CX0 (n + 1) "wrong_part" ["value", "is_beside"] (spWrong K n)
theorem ok_normal {n : Nat} (T : Nm K mg) (S_InvalidPlan : ExcS P w K mg base CI "InvalidPlan" "value") (C_wrong_part : OwnWr P w K mg base n) (C_normal_form : Own P w K mg base CX0 (n + 1) "normal_form" ["plan"] (spNF K n)) (F : FnP K "normal" s_normal f fd) : FnOk P w K mg base (L2.CX P w) (n + 3) f fd ["plan"] (spNormal K CI n) := by
  have nd : N_normal.Nodup := sc_normal.nd
  refine F.ok sc_normal (fun vs H Q E h => ?_) (fun cdv A outer s H vs Q E hr h => ?_)
  · obtain ⟨G, M, v, d, rfl, _⟩ := h
    rfl
  have hu := hr.units
  refine ⟨_,   (pss_cons (ps_asg (pe_own C_wrong_part (hr.mono (by omega)) (by rfl) pass0 (pa_cons (pv 0) (pa_cons pe_bl pa_nil))) (pg_name (i := 1) nd rfl (by first | exact .inl rfl | exact .inr rfl)))
    (pss_cons (ps_if (pt_cmpR (k_ne (K := K) hu) (pv 1) (pe_lst pa_nil) (nomark _)) (pss_one (ps_rs S_InvalidPlan rfl (takes_of rfl rfl rfl rfl) (hr.mono (by omega)) (by rfl) (pe_ix (k_ix (K := K)) (pv 1) pe_int (fun _ _ => rfl)))) pss_nil)
    (pss_one (ps_ret (pe_own C_normal_form (hr.mono (by omega)) (by rfl) pass0 (pa_cons (pv 0) pa_nil)))))), ?_⟩
  obtain ⟨G, M, v, d, rfl, z, hd, hs, hn, q, qx⟩ := h
  repeat (walk_at "z")
  refine ⟨G, M, v, false, d, rfl, z, hd, hs, hn, fun p xs G1 H1 z1 s1 e1 h1 => ?_⟩
  repeat (walk_at "z")
  refine z_newL z1 (by simp) fun p2 G2 H2 z2 s2 e2 => ?_
  refine z_neNil (z2.seqL (SqL.of (s2 _ _ e1))) (z2.sub _ _ e2) ?_
  repeat (walk_at "z")
  cases hw : wpD false d with
  | some e =>
    rw [hw] at h1
    cases h1 with
    | cons h1 h2 =>
      cases h2
      refine z_bT' (decide_eq_true (by simp)) ?_
      repeat (walk_at "z")
      refine z_ixL z2 (SqL.of (s2 _ _ e1)) at_zero ?_
      repeat (walk_at "z")
      exact z_rsI fun dd hdd => qx e hw dd _ _ _ (z2.new hdd _) ((s1.trans s2).trans (Same.new (z2.free hdd))) (h1.up (s2.trans (Same.new (z2.free hdd)))) upd_same
  | none =>
    rw [hw] at h1
    cases h1
    refine z_bF' (decide_eq_false (by simp)) ?_
    obtain ⟨p, rfl, hO, hpn, h50, hsz, q⟩ := q hw
    repeat (walk_at "z")
    exact ⟨G2, M, v, p, false, rfl, z2, hd.up (s1.trans s2), hO, hpn, h50, hsz, fun v' G3 H3 z3 s3 h3 => q v' G3 H3 z3 ((s1.trans s2).trans s3) h3⟩
abbrev OwnN (P : Program) (w : World) (K : PySem.W.Frag) (mg : Str → Option Value) (base : Heap) (CI : Addr) (n : Nat) : Prop := Own P w K mg base (L2.CX P w) (n + 3) "normal" ["plan"] (spNormal K CI n)
def spTurn (K : PySem.W.Frag) (CI : Addr) (n : Nat) : Sp := fun vs H Q E => ∃ G M v d, vs = [v] ∧ Zp G M H ∧ Dt K G v d ∧ Sht d ∧ d.depth < n ∧ NOk n d (fun p => ∀ G1 H1, Zp G1 M H1 → Same G G1 → Q (.str (turnS (nf p))) H1) ∧ NErr K CI G M d E
def spChoices (K : PySem.W.Frag) (CI : Addr) (n : Nat) : Sp := fun vs H Q E => ∃ G M v d, vs = [v] ∧ Zp G M H ∧ Dt K G v d ∧ Sht d ∧ d.depth < n ∧ NOk n d (fun p => ∀ l xs G1 H1, Zp G1 (M ++ [(l, .lst xs)]) H1 → Same G G1 → Dts K G1 xs (Pl.dl (wc (nf p))) → Q (.ref l) H1) ∧ NErr K CI G M d E
def plcs (p : Pl) : List Pl := if isDone p then [] else if (wc p).isEmpty then spl p else []
def spPlaces (K : PySem.W.Frag) (CI : Addr) (n : Nat) : Sp := fun vs H Q E => ∃ G M v d, vs = [v] ∧ Zp G M H ∧ Dt K G v d ∧ Sht d ∧ d.depth < n ∧ NOk n d (fun p => ∀ l xs G1 H1, Zp G1 (M ++ [(l, .lst xs)]) H1 → Same G G1 → Dts K G1 xs (Pl.dl (plcs (nf p))) → Q (.ref l) H1) ∧ NErr K CI G M d E
theorem turn_staff (p : Pl) : decide (V.str (turnS p) = V.str ("staff" : Str)) = (!isDone p && (wc p).isEmpty) := by
  unfold turnS
  cases isDone p <;> cases (wc p).isEmpty <;> decide +kernel
end
end LW
namespace LW
open PySem PySem.Spec PyProof.Rows L2 Ys

/-! ### drawn plans -/
def cst : Nat → Nat
  | 0 => 4
  | d + 1 => 4 + 4 * cst d
def szB : Nat → Nat
  | 0 => 1
  | d + 1 => 1 + 4 * szB d
theorem cst_pos : ∀ d, 4 ≤ cst d
  | 0 => Nat.le_refl _
  | d + 1 => by rw [cst]; omega
theorem szB_pos : ∀ d, 1 ≤ szB d
  | 0 => Nat.le_refl _
  | d + 1 => by rw [szB]; omega
inductive NarP : Pl → Prop where
  | nm {s : Str} : NarP (.nm s)
  | nd {h : Hd} {ps : List Pl} : ps.length ≤ 4 → (∀ p ∈ ps, NarP p) → NarP (.nd h ps)
structure Dr (inner : Bool) (d : Nat) (ns : List Str) (q : Pl) : Prop where
  ok : Ok inner q
  dp : q.dp ≤ d + 1
  sz : q.sz ≤ szB d
  mem : ∀ s ∈ nmsL q, s ∈ ns
  ar : NarP q
theorem nmsLl_mem {s : Str} : ∀ {qs : List Pl}, s ∈ nmsLl qs → ∃ q ∈ qs, s ∈ nmsL q
  | [], h => by simp [nmsLl] at h
  | q :: qs, h => by
    rw [nmsLl] at h
    rcases List.mem_append.mp h with h | h
    · exact ⟨q, by simp, h⟩
    · obtain ⟨p, hp, hs⟩ := nmsLl_mem h
      exact ⟨p, List.mem_cons_of_mem _ hp, hs⟩
theorem szl_le {n : Nat} : ∀ {qs : List Pl}, (∀ q ∈ qs, q.sz ≤ n) → Pl.szl qs ≤ qs.length * n
  | [], _ => by simp [Pl.szl]
  | q :: qs, h => by
    have h1 := h q (by simp)
    have h2 := szl_le fun p hp => h p (List.mem_cons_of_mem _ hp)
    rw [Pl.szl, List.length_cons, Nat.add_mul, Nat.one_mul]
    omega
section
variable {P : Program} {w : World} {K : PySem.W.Frag} {mg : Str → Option Value} {base : Heap} {f : Addr} {fd : FuncData}
def nmsLl' (qs : List Pl) : Nat := (nmsLl qs).length
def spPlan (K : PySem.W.Frag) (n : Nat) : Sp := fun vs H Q _ => ∃ p o G M b na ns ra, ∃ rm : Int, ∃ d : Nat, ∃ inner, vs = [.ref p, .ref na, .ref ra, .int d, .bl inner] ∧ Zp G ((p, o) :: (ra, .lst [.int rm]) :: M) H ∧ Pen K G b o ∧ b + cst d ≤ 100000000000 ∧
  SqL K G na (ns.map V.str) ∧ ns ≠ [] ∧ ns.length ≤ 1000 ∧ (∀ s ∈ ns, Wd s) ∧ 0 ≤ rm ∧ rm ≤ 1000 ∧ d < n ∧
  ∀ v q G1 H1 o1, ∀ rm' : Int, Zp G1 ((p, o1) :: (ra, .lst [.int rm']) :: M) H1 → Same G G1 → Pen K G1 (b + cst d) o1 → Dt K G1 v (Pl.d q) → Dr inner d ns q → 0 ≤ rm' → ((nmsL q).length : Int) + rm' ≤ rm → Q v H1
end
end LW
namespace LW
open PySem PySem.Spec PyProof.Rows L2 Ys

/-! ### how many names, how many levels -/
def lenI (p : Pl) : Int := ((nmsL p).length : Int)
def dpI (p : Pl) : Int := (p.dp : Int)
theorem lenI_sum : ∀ ps : List Pl, (ps.map lenI).sum = ((nmsLl ps).length : Int)
  | [] => rfl
  | p :: ps => by
    rw [List.map_cons, List.sum_cons, lenI_sum ps, nmsLl, List.length_append]
    unfold lenI
    omega
theorem dpI_max : ∀ ps : List Pl, ((Pl.dpl ps : Nat) : Int) ∈ (0 : Int) :: ps.map dpI ∧ ∀ y ∈ (0 : Int) :: ps.map dpI, y ≤ ((Pl.dpl ps : Nat) : Int)
  | [] => by simp [Pl.dpl]
  | p :: ps => by
    obtain ⟨h1, h2⟩ := dpI_max ps
    rw [Pl.dpl]
    refine ⟨?_, fun y hy => ?_⟩
    · by_cases c : Pl.dpl ps ≤ p.dp
      · rw [Nat.max_eq_left c]
        simp [dpI]
      · rw [Nat.max_eq_right (by omega)]
        rcases List.mem_cons.mp h1 with e | e
        · omega
        · exact List.mem_cons_of_mem _ (List.mem_cons_of_mem _ e)
    · rcases List.mem_cons.mp hy with rfl | hy
      · omega
      · rcases List.mem_cons.mp hy with rfl | hy
        · unfold dpI; omega
        · have := h2 y (List.mem_cons_of_mem _ hy)
          omega
section
variable {P : Program} {w : World} {K : PySem.W.Frag} {mg : Str → Option Value} {base : Heap} {f : Addr} {fd : FuncData}
def spNum (K : PySem.W.Frag) (g : Pl → Int) (n : Nat) : Sp := fun vs H Q _ => ∃ G M v p, vs = [v] ∧ Zp G M H ∧ Dt K G v (Pl.d p) ∧ p.dp < n ∧ p.sz ≤ 5000 ∧ ∀ G1 H1, Zp G1 M H1 → Same G G1 → Q (.int (g p)) H1
theorem ok_count {n : Nat} (T : Nm K mg) (C_count_names : Own P w K mg base CX0 (n + 1) "count_names" ["plan"] (spNum K lenI n)) (F : FnP K "count_names" s_count_names f fd) : FnOk P w K mg base CX0 (n + 2) f fd ["plan"] (spNum K lenI (n + 1)) := by
  have nd : N_count_names.Nodup := sc_count_names.nd
  refine F.ok sc_count_names (fun vs H Q E h => ?_) (fun cdv A outer s H vs Q E hr h => ?_)
  · obtain ⟨G, M, v, p, rfl, _⟩ := h
    rfl
  have hu := hr.units
  refine ⟨_, PSs.nox   (pss_cons (ps_if (pt_val (pe_callB (kc_isi (K := K)) (by rfl) T.b_isinstance boot_isinstance (pa_cons (pv 0) (pa_cons (pe_bltn (v := .ty "str") (by rfl) T.b_str boot_str rfl) pa_nil)))) (pss_one (ps_ret pe_int)) pss_nil)
    (pss_one (ps_ret (pe_callB (kc_sum (K := K) rfl) (by rfl) T.b_sum boot_sum (pa_cons (pe_lc (own := [("part", 1)]) (tt := tYes) rfl nd (k_any (K := K) (pe_slice (k_sl (K := K)) (pv 0) (po_some pe_int) po_none)) (blkOk_by (N := N_count_names) (sc := defScope s_count_names) (by decide +kernel)) (fun _ _ _ _ _ => (pg_name (i := 1) nd rfl (by first | exact .inl rfl | exact .inr rfl))) (fun _ _ _ _ _ => pts_nil) (fun _ _ _ _ _ => (pe_own C_count_names (hr.mono (by omega)) (by rfl) pass0 (pa_cons (pv 1) pa_nil)))) pa_nil))))), ?_⟩
  obtain ⟨G, M, v, p, rfl, z, hd, hn, hsz, q⟩ := h
  repeat (walk_at "z")
  refine z_isi (.ty "str") (hd.up z.sub).ty (kit_ty (kit_str p.d)) ?_
  cases p with
  | nm s =>
    have e := dt_nm hd
    subst e
    rw [Pl.d]
    repeat (walk_at "z")
    refine z_bT' rfl ?_
    repeat (walk_at "z")
    have := q G H z (Same.refl G)
    unfold lenI at this
    rw [nmsL] at this
    exact this
  | nd h ps =>
    obtain ⟨a, xr, rfl, hS, hR⟩ := dt_nd hd
    rw [Pl.dp] at hn
    rw [Pl.sz] at hsz
    have hps := pls_len hR
    rw [Pl.d]
    repeat (walk_at "z")
    refine z_bF' rfl ?_
    repeat (walk_at "z")
    refine z_anyT ?_
    repeat (walk_at "z")
    refine z_slT z hS fun p2 G2 H2 z2 s2 e2 => ?_
    rw [cut_tail] at e2
    refine z_itT z2 e2 ?_
    refine lc_src src_T (fun i G' M' acc => M' = M ∧ Same G2 G' ∧ acc = ((ps.take i).map lenI).map V.int) z2 ⟨rfl, Same.refl _, rfl⟩ (fun i G' M' M1 acc H' ⟨_, s', _⟩ z' => z'.seqT (upT s' e2)) ?_ ?_
    · rintro i x G' M' acc Dl H' hx ⟨rfl, s', rfl⟩ z'
      obtain ⟨p, hp, hx'⟩ := pl_at (hR.up (s2.trans s')) hx
      have hm := List.mem_of_getElem? hp
      have h1 := dp_mem hm
      have h2 := sz_mem hm
      have hi := (List.getElem?_eq_some_iff.mp hp).1
      have h3 := len_szl ps
      repeat (walk_at "z")
      refine ⟨by rfl, ?_⟩
      repeat (walk_at "z")
      refine ⟨G', _, x, p, rfl, z', hx', by omega, by omega, fun G3 H3 z3 s3 => ?_⟩
      refine z_laid z3 (by rw [List.length_map, List.length_map, List.length_take]; omega) ⟨rfl, s'.trans s3, ?_⟩
      rw [List.take_add_one, hp]
      simp
    · rintro p3 G3 M3 acc G4 H4 ⟨rfl, s3, rfl⟩ s4 z4 e4
      rw [hps, List.take_length] at e4
      refine z_sum z4 (SqL.of e4) ?_
      rw [lenI_sum]
      have := q G4 H4 z4 ((s2.trans s3).trans s4)
      unfold lenI at this
      rw [nmsL] at this
      exact this
theorem ok_levels {n : Nat} (T : Nm K mg) (C_levels_of : Own P w K mg base CX0 (n + 1) "levels_of" ["plan"] (spNum K dpI n)) (F : FnP K "levels_of" s_levels_of f fd) : FnOk P w K mg base CX0 (n + 2) f fd ["plan"] (spNum K dpI (n + 1)) := by
  have nd : N_levels_of.Nodup := sc_levels_of.nd
  refine F.ok sc_levels_of (fun vs H Q E h => ?_) (fun cdv A outer s H vs Q E hr h => ?_)
  · obtain ⟨G, M, v, p, rfl, _⟩ := h
    rfl
  have hu := hr.units
  refine ⟨_, PSs.nox   (pss_cons (ps_if (pt_val (pe_callB (kc_isi (K := K)) (by rfl) T.b_isinstance boot_isinstance (pa_cons (pv 0) (pa_cons (pe_bltn (v := .ty "str") (by rfl) T.b_str boot_str rfl) pa_nil)))) (pss_one (ps_ret pe_int)) pss_nil)
    (pss_one (ps_ret (pe_op (k_add (K := K)) pe_int (pe_callB (kc_max (K := K) rfl) (by rfl) T.b_max boot_max (pa_cons (pe_op (k_add (K := K)) (pe_lst (pa_cons pe_int pa_nil)) (pe_lc (own := [("part", 1)]) (tt := tYes) rfl nd (k_any (K := K) (pe_slice (k_sl (K := K)) (pv 0) (po_some pe_int) po_none)) (blkOk_by (N := N_levels_of) (sc := defScope s_levels_of) (by decide +kernel)) (fun _ _ _ _ _ => (pg_name (i := 1) nd rfl (by first | exact .inl rfl | exact .inr rfl))) (fun _ _ _ _ _ => pts_nil) (fun _ _ _ _ _ => (pe_callTy c_int (by rfl) T.b_int boot_int (pa_cons (pe_own C_levels_of (hr.mono (by omega)) (by rfl) pass0 (pa_cons (pv 1) pa_nil)) pa_nil))))) pa_nil)))))), ?_⟩
  obtain ⟨G, M, v, p, rfl, z, hd, hn, hsz, q⟩ := h
  repeat (walk_at "z")
  refine z_isi (.ty "str") (hd.up z.sub).ty (kit_ty (kit_str p.d)) ?_
  cases p with
  | nm s =>
    have e := dt_nm hd
    subst e
    rw [Pl.d]
    repeat (walk_at "z")
    refine z_bT' rfl ?_
    repeat (walk_at "z")
    have := q G H z (Same.refl G)
    unfold dpI at this
    rw [Pl.dp] at this
    exact this
  | nd h ps =>
    obtain ⟨a, xr, rfl, hS, hR⟩ := dt_nd hd
    rw [Pl.dp] at hn
    rw [Pl.sz] at hsz
    have hps := pls_len hR
    rw [Pl.d]
    repeat (walk_at "z")
    refine z_bF' rfl ?_
    repeat (walk_at "z")
    refine z_newL z (by simp) fun l0 G1 H1 z1 s1 e1 => ?_
    repeat (walk_at "z")
    refine z_anyT ?_
    repeat (walk_at "z")
    refine z_slT z1 (upT s1 hS) fun p2 G2 H2 z2 s2 e2 => ?_
    rw [cut_tail] at e2
    refine z_itT z2 e2 ?_
    refine lc_src src_T (fun i G' M' acc => M' = M ∧ Same G2 G' ∧ acc = ((ps.take i).map dpI).map V.int) z2 ⟨rfl, Same.refl _, rfl⟩ (fun i G' M' M1 acc H' ⟨_, s', _⟩ z' => z'.seqT (upT s' e2)) ?_ ?_
    · rintro i x G' M' acc Dl H' hx ⟨rfl, s', rfl⟩ z'
      obtain ⟨p, hp, hx'⟩ := pl_at (hR.up ((s1.trans s2).trans s')) hx
      have hm := List.mem_of_getElem? hp
      have h1 := dp_mem hm
      have h2 := sz_mem hm
      have hi := (List.getElem?_eq_some_iff.mp hp).1
      have h3 := len_szl ps
      repeat (walk_at "z")
      refine ⟨by rfl, ?_⟩
      repeat (walk_at "z")
      refine ⟨G', _, x, p, rfl, z', hx', by omega, by omega, fun G3 H3 z3 s3 => ?_⟩
      repeat (walk_at "z")
      refine z_laid z3 (by rw [List.length_map, List.length_map, List.length_take]; omega) ⟨rfl, s'.trans s3, ?_⟩
      rw [List.take_add_one, hp]
      simp
    · rintro p3 G3 M3 acc G4 H4 ⟨rfl, s3, rfl⟩ s4 z4 e4
      rw [hps, List.take_length] at e4
      have h3 := len_szl ps
      obtain ⟨m1, m2⟩ := dpI_max ps
      refine z_addL z4 (((s2.trans s3).trans s4) _ _ e1) e4 (by simp; omega) fun p5 G5 H5 z5 s5 e5 => ?_
      repeat (walk_at "z")
      refine z_max (ns := (0 : Int) :: ps.map dpI) z5 (SqL.of e5) m1 m2 ?_
      repeat (walk_at "z")
      have := q G5 H5 z5 (((s1.trans s2).trans s3).trans (s4.trans s5))
      unfold dpI at this
      rw [Pl.dp] at this
      rw [show (1 : Int) + ((Pl.dpl ps : Nat) : Int) = ((Pl.dpl ps + 1 : Nat) : Int) by omega]
      exact this
end
end LW
namespace LW
open PySem PySem.Spec PyProof.Rows L2 Ys

section
variable {P : Program} {w : World} {K : PySem.W.Frag} {mg : Str → Option Value} {base : Heap} {f : Addr} {fd : FuncData} {CI CT : Addr}
structure PV (K : PySem.W.Frag) (G : Hp) (ns : List Str) (v : V) (p : Pl) : Prop where
  dt : Dt K G v p.d
  ok : Ok false p
  dp : p.dp ≤ 16
  sz : p.sz ≤ 600
  ndp : (Ys.nf p).dp ≤ 5
  nm : (nmsL p).length ≤ 16
  mem : ∀ s ∈ nmsL p, s ∈ ns
theorem PV.up {G G1 : Hp} {ns : List Str} {v : V} {p : Pl} (h : PV K G ns v p) (s : Same G G1) : PV K G1 ns v p := ⟨h.dt.up s, h.ok, h.dp, h.sz, h.ndp, h.nm, h.mem⟩
theorem nms_parts1 (p : Pl) : nmsLl (parts1 p) = nmsL p := by
  unfold parts1
  split
  · rw [nmsL]
  · simp [nmsLl]
theorem nms_flat : ∀ ps : List Pl, nmsLl (flat ps) = nmsLl ps
  | [] => rfl
  | p :: ps => by rw [flat, nmsLl_app, nms_parts1, nms_flat ps, nmsLl]
theorem nms_wrap (xs : List Pl) : nmsL (wrap xs) = nmsLl xs := by
  rcases wrap_cases xs with ⟨x, e1, e⟩ | e
  · rw [e, e1]; simp [nmsLl]
  · rw [e, nmsL]
theorem nms_done {a : Pl} (h : isDone a = true) : nmsL a = [] := by
  unfold isDone at h
  split at h
  · simp [nmsL, nmsLl]
  · cases h
theorem nms_along (a b : Pl) : nmsL (along a b) = nmsL a ++ nmsL b := by
  unfold along
  split
  · rename_i h; rw [nms_done h]; rfl
  · split
    · rename_i h; rw [nms_done h, List.append_nil]
    · simp [nmsL, nmsLl]
theorem nms_mk (h : Hd) (ps : List Pl) : nmsL (mk h ps) = nmsLl ps := by
  rcases mk_cases h ps with ⟨_, e⟩ | ⟨a, b, _, rfl, e⟩ | ⟨_, e⟩ <;> rw [e]
  · rw [seqn, nms_wrap, nms_flat]
  · rw [nms_along]; simp [nmsLl]
  · rw [nmsL]
theorem nms_nf : ∀ p, nmsL (nf p) = nmsL p := Pl.ind (fun s => by rw [nf]) fun h ps ih => by
  rw [nf, nms_mk, nfl_map, nmsL]
  induction ps with
  | nil => rfl
  | cons p ps ihp =>
    rw [List.map_cons, nmsLl, nmsLl, ih p (by simp), ihp fun q hq => ih q (List.mem_cons_of_mem _ hq)]
theorem PV.nf {G : Hp} {ns : List Str} {v v' : V} {p : Pl} (h : PV K G ns v p) (d : Dt K G v' (Ys.nf p).d) : PV K G ns v' (Ys.nf p) :=
  ⟨d, nf_ok p false h.ok, Nat.le_trans (nf_dp p) h.dp, Nat.le_trans (nf_sz p) h.sz, Nat.le_trans (nf_dp _) h.ndp, by rw [nms_nf]; exact h.nm, by rw [nms_nf]; exact h.mem⟩
theorem PV.nok {G : Hp} {ns : List Str} {v : V} {p : Pl} {X : Pl → Prop} (h : PV K G ns v p) (x : X p) : NOk 17 p.d X := fun _ => ⟨p, rfl, h.ok, by have := h.dp; omega, by have := h.dp; omega, by have := h.sz; omega, x⟩
theorem PV.nerr {G : Hp} {M : List (Addr × HO)} {ns : List Str} {v : V} {p : Pl} {E : XK} (h : PV K G ns v p) : NErr K CI G M p.d E := fun e he => by
  rw [wp_ok p false h.ok] at he
  cases he
theorem PV.dep {G : Hp} {ns : List Str} {v : V} {p : Pl} (h : PV K G ns v p) : p.d.depth < 17 := by
  have := pd_dep p
  have := h.dp
  omega
theorem c_normal {G H : Hp} {M : List (Addr × HO)} {ns : List Str} {v : V} {p : Pl} {Q : VK} {E : XK} (h : PV K G ns v p) (z : Zp G M H) (q : ∀ v' G1 H1, Zp G1 M H1 → Same G G1 → PV K G1 ns v' (nf p) → Q v' H1) : spNormal K CI 17 [v] H Q E :=
  ⟨G, M, v, p.d, rfl, z, h.dt, pl_sht p (Ok.nms _ _ h.ok), h.dep, h.nok fun v' G1 H1 z1 s1 d1 => q v' G1 H1 z1 s1 ((h.up s1).nf d1), h.nerr⟩
theorem c_names {G H : Hp} {M : List (Addr × HO)} {ns : List Str} {v : V} {p : Pl} {Q : VK} {E : XK} (h : PV K G ns v p) (z : Zp G M H) (q : ∀ l G1 H1, Zp G1 M H1 → Same G G1 → SqT K G1 l ((asc (nmsL p)).map V.str) → Q (.ref l) H1) : spNamesIn K 17 [v] H Q E :=
  ⟨G, M, v, p, rfl, z, h.dt, by have := h.dp; omega, by have := h.sz; omega, by have := h.nm; omega, q⟩
theorem c_text {G H : Hp} {M : List (Addr × HO)} {ns : List Str} {v : V} {p : Pl} {Q : VK} {E : XK} (h : PV K G ns v p) (z : Zp G M H) (q : ∀ G1 H1, Zp G1 M H1 → Same G G1 → Q (.str (txt p)) H1) : spText K 17 [v] H Q E := ⟨G, M, v, p, rfl, z, h.dt, Ok.nms _ _ h.ok, by have := h.dp; omega, by have := h.sz; omega, q⟩
theorem c_num {G H : Hp} {M : List (Addr × HO)} {ns : List Str} {v : V} {p : Pl} {g : Pl → Int} {Q : VK} {E : XK} (h : PV K G ns v p) (z : Zp G M H) (q : ∀ G1 H1, Zp G1 M H1 → Same G G1 → Q (.int (g p)) H1) : spNum K g 17 [v] H Q E := ⟨G, M, v, p, rfl, z, h.dt, by have := h.dp; omega, by have := h.sz; omega, q⟩
def spPlanFor (K : PySem.W.Frag) : Sp := fun vs H Q _ => ∃ G M v d kvs ks p, vs = [v, .ref d] ∧ Zp G M H ∧ PV K G ks v p ∧ FzD G d kvs ∧ kvs.map (·.1) = ks.map .inr ∧ ∀ v' G1 H1, Zp G1 M H1 → Same G G1 → PV K G1 ks v' (nf p) → Q v' H1
theorem ok_plan_for (T : Nm K mg) (C_normal : Own P w K mg base (L2.CX P w) 20 "normal" ["plan"] (spNormal K CI 17)) (C_count_names : Own P w K mg base CX0 18 "count_names" ["plan"] (spNum K lenI 17)) (C_levels_of : Own P w K mg base CX0 18 "levels_of" ["plan"] (spNum K dpI 17))
    (C_names_in : Own P w K mg base CX0 19 "names_in" ["plan"] (spNamesIn K 17)) (F : FnP K "plan_for" s_plan_for f fd) : FnOk P w K mg base CX0 21 f fd ["plan", "tasks"] (spPlanFor K) := by
  have nd : N_plan_for.Nodup := sc_plan_for.nd
  refine F.ok sc_plan_for (fun vs H Q E h => ?_) (fun cdv A outer s H vs Q E hr h => ?_)
  · obtain ⟨G, M, v, d, kvs, ks, p, rfl, _⟩ := h
    rfl
  have hu := hr.units
  refine ⟨_, PSs.nox   (pss_cons (ps_asg (pe_own C_normal (hr.mono (by omega)) (by rfl) passX0 (pa_cons (pv 0) pa_nil)) (pg_name (i := 2) nd rfl (by first | exact .inl rfl | exact .inr rfl)))
    (pss_cons (ps_if (pt_cmpR o_gt (pe_own C_count_names (hr.mono (by omega)) (by rfl) pass0 (pa_cons (pv 0) pa_nil)) (pe_gC T.g_NAMES (by rfl)) (nomark _)) (pss_one ps_never) pss_nil)
    (pss_cons (ps_if (pt_cmpR o_gt (pe_own C_levels_of (hr.mono (by omega)) (by rfl) pass0 (pa_cons (pv 2) pa_nil)) (pe_gC T.g_LEVELS (by rfl)) (nomark _)) (pss_one ps_never) pss_nil)
    (pss_cons (ps_for PassesOwn.never rfl (k_any (K := K) (pe_own C_names_in (hr.mono (by omega)) (by rfl) pass0 (pa_cons (pv 0) pa_nil))) (pg_name (i := 3) nd rfl (by first | exact .inl rfl | exact .inr rfl)) (pss_one (ps_if (pt_cmp (pc_dnotin (hu_of hr) (pv 3) (pv 1))) (pss_one ps_never) pss_nil)))
    (pss_one (ps_ret (pv 2))))))), ?_⟩
  obtain ⟨G, M, v, d, kvs, ks, p, rfl, z, hp, hd, hk, q⟩ := h
  repeat (walk_at "z")
  refine c_normal hp z fun v' G1 H1 z1 s1 hp1 => ?_
  repeat (walk_at "z")
  refine c_num (hp.up s1) z1 fun G2 H2 z2 s2 => ?_
  repeat (walk_at "z")
  refine z_bF' (decide_eq_false (by unfold lenI; have := hp.nm; omega)) ?_
  repeat (walk_at "z")
  refine c_num (hp1.up s2) z2 fun G3 H3 z3 s3 => ?_
  repeat (walk_at "z")
  refine z_bF' (decide_eq_false (by unfold dpI; have := hp.ndp; omega)) ?_
  repeat (walk_at "z")
  refine z_anyT ?_
  repeat (walk_at "z")
  refine c_names (hp.up ((s1.trans s2).trans s3)) z3 fun l G4 H4 z4 s4 e4 => ?_
  have s14 := ((s1.trans s2).trans s3).trans s4
  refine z_itT z4 e4 ?_
  refine for_src src_T (fun i σ G' M' => ∃ k3, M' = M ∧ Same G4 G' ∧ σ = [some v, some (.ref d), some v', k3]) z4 ⟨_, rfl, Same.refl _, rfl⟩ (fun i σ G' M' H' ⟨_, _, s', _⟩ z' => z'.seqT (upT s' e4)) ?_ ?_
  · rintro i x σ G' M' H' hx ⟨k3, rfl, s', rfl⟩ z'
    obtain ⟨nm, hnm, rfl⟩ := List.mem_map.mp (List.mem_of_getElem? hx)
    have hin : (.inr nm : Key) ∈ kvs.map (·.1) := by
      rw [hk]
      exact List.mem_map.mpr ⟨nm, hp.mem nm (asc_mem.mp hnm), rfl⟩
    repeat (walk_at "z")
    refine z_diF (k := .inr nm) z' (hd.up (s14.trans s')) ?_
    rw [valV_isin hin]
    repeat (walk_at "z")
    exact ⟨G', _, z', _, rfl, s', rfl⟩
  · rintro σ G' M' H' ⟨k3, rfl, s', rfl⟩ z'
    repeat (walk_at "z")
    exact q v' G' H' z' (s14.trans s') (hp1.up (((s2.trans s3).trans s4).trans s'))
end
end LW
namespace LW
open PySem PySem.Spec PyProof.Rows L2 Ys

/-! ### remembered names, width -/
abbrev PrpT (P : Program) (w : World) (K : PySem.W.Frag) (mg : Str → Option Value) (base : Heap) (C : Addr) (x y : Str) : Prop := Prp P w K mg base CX0 1 C x (spGet y C)
def condL (tn : List (Str × TkD)) : List Str := tn.flatMap fun q => q.2.l1 ++ q.2.l2
def remP (tn : List (Str × TkD)) : List Str := asc (condL tn)
def numsP (tn : List (Str × TkD)) (nm : Str) : List Int := 0 :: (tn.filter fun q => decide (q.1 = nm) || decide (nm ∈ q.2.l3)).map (·.2.many)
def maxI (l : List Int) : Int := l.foldr max 0
theorem maxI_ub : ∀ {l : List Int}, ∀ y ∈ l, y ≤ maxI l
  | x :: r, y, h => by
    show y ≤ max x (maxI r)
    rcases List.mem_cons.mp h with rfl | h
    · omega
    · have := maxI_ub y h
      omega
theorem maxI_in : ∀ l : List Int, maxI l ∈ (0 : Int) :: l
  | [] => List.mem_singleton.mpr rfl
  | x :: r => by
    show max x (maxI r) ∈ _
    by_cases c : maxI r ≤ x
    · rw [Int.max_eq_left c]
      simp
    · rw [Int.max_eq_right (by omega)]
      rcases List.mem_cons.mp (maxI_in r) with e | e
      · rw [e]; simp
      · exact List.mem_cons_of_mem _ (List.mem_cons_of_mem _ e)
theorem maxI_num (tn : List (Str × TkD)) (nm : Str) : maxI (numsP tn nm) ∈ numsP tn nm := by
  have := maxI_in (numsP tn nm)
  rcases List.mem_cons.mp this with e | e
  · rw [e]; exact List.mem_cons_self ..
  · exact e
def widP (tn : List (Str × TkD)) : Int := ((remP tn).map fun nm => maxI (numsP tn nm)).sum
theorem inV_strs {x : Str} : ∀ l : List Str, inV (.str x) (l.map V.str) = decide (x ∈ l)
  | [] => rfl
  | y :: l => by
    show ((eqV (.str y) (.str x)) || inV (.str x) (l.map V.str)) = _
    rw [inV_strs l]
    by_cases c : x = y
    · subst c
      simp [eqV]
    · have : eqV (.str y) (.str x) = false := by
        show decide _ = false
        exact decide_eq_false fun e => c e.symm
      rw [this]
      simp [c]
theorem flat_strs (l : List Str) : (l.map V.str).all flatV = true := by
  rw [List.all_map, List.all_eq_true]
  exact fun _ _ => rfl
theorem z_inT {K : PySem.W.Frag} {G H : Hp} {M : List (Addr × HO)} {a : Addr} {x : Str} {l : List Str} {Q : VK} (z : Zp G M H) (h : SqT K G a (l.map V.str)) (q : Q (.bl (decide (x ∈ l))) H) : rInG K false (.str x) (.ref a) H Q :=
  .inr ⟨a, _, rfl, .inr (z.seqT h), rfl, flat_strs l, by rw [inV_strs]; exact q⟩
theorem tk_at {K : PySem.W.Frag} {G : Hp} {C : Addr} {kvs : List (Key × V)} {tn : List (Str × TkD)} {i : Nat} (h : Tks K G C kvs tn) (hi : i < kvs.length) : ∃ nm t a, kvs[i]? = some (.inr nm, .ref a) ∧ tn[i]? = some (nm, t) ∧ TkI K G C a t := by
  obtain ⟨⟨pk, pv'⟩, ⟨qk, qt⟩, h1, h2, e1, a, e2, h3⟩ := pair_at h hi
  have e1 : pk = .inr qk := e1
  have e2 : pv' = .ref a := e2
  subst e1 e2
  exact ⟨qk, qt, a, h1, h2, h3⟩
theorem take_cond {tn : List (Str × TkD)} {i : Nat} {q : Str × TkD} (h : tn[i]? = some q) : condL (tn.take (i + 1)) = condL (tn.take i) ++ (q.2.l1 ++ q.2.l2) := by
  unfold condL
  rw [List.take_add_one, h, List.flatMap_append]
  simp
theorem cond_le (tn : List (Str × TkD)) (i : Nat) : (condL (tn.take i)).length ≤ (condL tn).length := by
  have e : condL tn = condL (tn.take i) ++ condL (tn.drop i) := by unfold condL; rw [← List.flatMap_append, List.take_append_drop]
  rw [e, List.length_append]
  omega
section
variable {P : Program} {w : World} {K : PySem.W.Frag} {mg : Str → Option Value} {base : Heap} {f : Addr} {fd : FuncData} {C : Addr}
def spRem (K : PySem.W.Frag) (C : Addr) : Sp := fun vs H Q _ => ∃ G M d kvs tn, vs = [.ref d] ∧ Zp G M H ∧ FzD G d kvs ∧ Tks K G C kvs tn ∧ (condL tn).length < 64 ∧ ∀ p G1 H1, Zp G1 M H1 → Same G G1 → SqT K G1 p ((remP tn).map V.str) → Q (.ref p) H1
theorem ok_rem (T : Nm K mg) (R_other : PrpT P w K mg base C "other" "own_other") (R_same : PrpT P w K mg base C "same" "own_same") (C_ascending : Own P w K mg base CX0 1 "ascending" ["words"] (spAsc K)) (F : FnP K "remembered_in" s_remembered_in f fd) :
    FnOk P w K mg base CX0 3 f fd ["tasks"] (spRem K C) := by
  have nd : N_remembered_in.Nodup := sc_remembered_in.nd
  refine F.ok sc_remembered_in (fun vs H Q E h => ?_) (fun cdv A outer s H vs Q E hr h => ?_)
  · obtain ⟨G, M, d, kvs, tn, rfl, _⟩ := h
    rfl
  have hu := hr.units
  refine ⟨_, PSs.nox   (pss_one (ps_ret (pe_own C_ascending (hr.mono (by omega)) (by rfl) pass0 (pa_cons (pe_lc2 (own := [("task", 1), ("name", 2)]) (vs1 := [2]) (tt := tYes) (tt1 := tYes) rfl nd (pi_values (pv 0)) (blkOk_by (N := N_remembered_in) (sc := defScope s_remembered_in) (by decide +kernel)) (by decide) (fun _ _ _ _ _ => (pg_name (i := 1) nd rfl (by first | exact .inl rfl | exact .inr rfl))) (fun _ _ _ _ _ => pts_nil) (fun _ _ _ _ _ => (k_any (K := K) (pe_op (k_add (K := K)) (pe_pr R_other (hr.mono (by decide)) pass0 (pv 1)) (pe_pr R_same (hr.mono (by decide)) pass0 (pv 1))))) (fun _ _ _ _ _ => (pg_name (i := 2) nd rfl (by first | exact .inl rfl | exact .inr rfl))) (fun _ _ _ _ _ => pts_nil) (fun _ _ _ _ _ => (pv 2))) pa_nil)))), ?_⟩
  obtain ⟨G, M, d, kvs, tn, rfl, z, ⟨od, hod⟩, hk, hc, q⟩ := h
  have hl : kvs.length = tn.length := keys_len hk
  repeat (walk_at "z")
  refine z_itV z hod ?_
  refine lc2_src src_V (fun i G' M' acc => M' = M ∧ Same G G' ∧ acc = (condL (tn.take i)).map V.str) z ⟨rfl, Same.refl G, by simp [condL]⟩ ?_ ?_ ?_
  · rintro i G' M' M1 acc H' ⟨rfl, s1, _⟩ z'
    exact z'.sub _ _ (s1 _ _ hod)
  · rintro i x G2 M2 acc Dl H2 hx ⟨rfl, s2, rfl⟩ z2
    have hi : i < kvs.length := by
      have := (List.getElem?_eq_some_iff.mp hx).1
      simpa using this
    obtain ⟨nm, t, a, h1, h2, h3⟩ := tk_at hk hi
    rw [List.getElem?_map, h1] at hx
    obtain rfl : V.ref a = x := Option.some.inj hx
    obtain ⟨dx, t1, t2, t3, t4, h0, e1, e2, _⟩ := h3.up s2
    have hle := cond_le tn (i + 1)
    have hcd : condL (tn.take (i + 1)) = condL (tn.take i) ++ (t.l1 ++ t.l2) := take_cond h2
    rw [hcd, List.length_append, List.length_append] at hle
    repeat (walk_at "z")
    refine ⟨by rfl, ?_⟩
    repeat (walk_at "z")
    refine z_anyT ?_
    repeat (walk_at "z")
    refine z_prI z2 h0 ⟨a, dx, _, _, rfl, z2.sub _ _ h0, (by rfl), ?_⟩
    repeat (walk_at "z")
    refine z_prI z2 h0 ⟨a, dx, _, _, rfl, z2.sub _ _ h0, (by rfl), ?_⟩
    refine z_addT z2 e1 e2 (by rw [List.length_map, List.length_map]; omega) fun p3 G3 H3 z3 s3 e3 => ?_
    refine z_itT z3 e3 ?_
    rw [← List.map_append] at e3
    refine lc2_in (src_T (xs := (t.l1 ++ t.l2).map V.str)) (fun j G' M' acc => M' = M2 ∧ Same G3 G' ∧ acc = (condL (tn.take i)).map V.str ++ ((t.l1 ++ t.l2).take j).map V.str) z3 ⟨rfl, Same.refl G3, by simp⟩ ?_ ?_ ?_
    · rintro j G' M' M1 acc H' ⟨rfl, s1, _⟩ z'
      exact z'.seqT (upT s1 e3)
    · rintro j y G4 M4 acc H4 hy ⟨rfl, s4, rfl⟩ z4
      rw [List.getElem?_map] at hy
      obtain ⟨s', hs, rfl⟩ := Option.map_eq_some_iff.mp hy
      repeat (walk_at "z")
      refine ⟨by rfl, ?_⟩
      repeat (walk_at "z")
      refine z_laid z4 (by rw [List.length_append, List.length_map, List.length_map, List.length_take, List.length_append]; omega) ⟨rfl, s4, ?_⟩
      rw [List.take_add_one, hs]
      simp
    · rintro G4 M4 acc H4 ⟨rfl, s4, rfl⟩ z4
      refine z_left z4 ⟨rfl, s2.trans (s3.trans s4), ?_⟩
      rw [hcd, List.length_map, List.take_length, List.map_append]
      simp only [List.map_append]
  · rintro p G2 M2 acc G3 H3 ⟨rfl, s2, rfl⟩ s3 z3 e3
    rw [List.length_map, hl, List.take_length] at e3
    repeat (walk_at "z")
    exact ⟨G3, _, p, condL tn, rfl, z3, SqL.of (z3.sub _ _ e3), hc, fun p4 G4 H4 z4 s4 h4 => q p4 G4 H4 z4 ((s2.trans s3).trans s4) h4⟩
def hitP (nm : Str) (q : Str × TkD) : Bool := decide (q.1 = nm) || decide (nm ∈ q.2.l3)
def numsJ (tn : List (Str × TkD)) (nm : Str) (j : Nat) : List Int := 0 :: ((tn.take j).filter (hitP nm)).map (·.2.many)
theorem numsJ_all (tn : List (Str × TkD)) (nm : Str) : numsJ tn nm tn.length = numsP tn nm := by
  unfold numsJ numsP
  rw [List.take_length]
  rfl
theorem numsJ_len (tn : List (Str × TkD)) (nm : Str) (j : Nat) : (numsJ tn nm j).length ≤ tn.length + 1 := by
  unfold numsJ
  rw [List.length_cons, List.length_map]
  have := List.length_filter_le (hitP nm) (tn.take j)
  rw [List.length_take] at this
  omega
theorem numsJ_succ {tn : List (Str × TkD)} {nm : Str} {j : Nat} {q : Str × TkD} (h : tn[j]? = some q) : numsJ tn nm (j + 1) = if hitP nm q = true then numsJ tn nm j ++ [q.2.many] else numsJ tn nm j := by
  unfold numsJ
  rw [List.take_add_one, h, List.filter_append, List.map_append]
  by_cases c : hitP nm q = true
  · rw [if_pos c]
    simp [List.filter, c]
  · rw [if_neg c]
    simp [List.filter, c]
def spWid (K : PySem.W.Frag) (C : Addr) : Sp := fun vs H Q _ => ∃ G M d kvs tn, vs = [.ref d] ∧ Zp G M H ∧ FzD G d kvs ∧ Tks K G C kvs tn ∧ (condL tn).length < 64 ∧ tn.length ≤ 1000 ∧ ∀ G1 H1, Zp G1 M H1 → Same G G1 → Q (.int (widP tn)) H1
theorem ok_wid (T : Nm K mg) (R_takes : PrpT P w K mg base C "takes" "own_takes") (R_many : PrpT P w K mg base C "many" "own_many") (C_remembered_in : Own P w K mg base CX0 3 "remembered_in" ["tasks"] (spRem K C)) (F : FnP K "width_of" s_width_of f fd) :
    FnOk P w K mg base CX0 4 f fd ["tasks"] (spWid K C) := by
  have nd : N_width_of.Nodup := sc_width_of.nd
  refine F.ok sc_width_of (fun vs H Q E h => ?_) (fun cdv A outer s H vs Q E hr h => ?_)
  · obtain ⟨G, M, d, kvs, tn, rfl, _⟩ := h
    rfl
  have hu := hr.units
  refine ⟨_, PSs.nox   (pss_cons (ps_asg pe_int (pg_name (i := 1) nd rfl (by first | exact .inl rfl | exact .inr rfl)))
    (pss_cons (ps_for PassesOwn.never rfl (k_any (K := K) (pe_own C_remembered_in (hr.mono (by omega)) (by rfl) pass0 (pa_cons (pv 0) pa_nil))) (pg_name (i := 2) nd rfl (by first | exact .inl rfl | exact .inr rfl)) (pss_cons (ps_asg (pe_lst (pa_cons pe_int pa_nil)) (pg_name (i := 3) nd rfl (by first | exact .inl rfl | exact .inr rfl)))
    (pss_cons (ps_for PassesOwn.never rfl (pi_items (pv 0)) (kg_tup (K := K) (n := 2) rfl (pgs_cons (pg_name (i := 4) nd rfl (by first | exact .inl rfl | exact .inr rfl)) (pgs_cons (pg_name (i := 5) nd rfl (by first | exact .inl rfl | exact .inr rfl)) pgs_nil))) (pss_one (ps_if (PW.pt (pw_or (pt_cmpR (k_eq (K := K) hu) (pv 4) (pv 2) (nomark _)) (pw_or1 (pt_cmpR (k_in (K := K)) (pv 2) (pe_pr R_takes (hr.mono (by decide)) pass0 (pv 5)) (by rfl))))) (pss_one (ps_expr (pe_bm PySem.F.plainAttrs_list PySem.F.slot_list_append PySem.F.type_list_append mt_append (pv 3) (pa_cons (pe_pr R_many (hr.mono (by decide)) pass0 (pv 5)) pa_nil)))) pss_nil)))
    (pss_one (ps_asg (pe_op (k_add (K := K)) (pv 1) (pe_callB (kc_max (K := K) rfl) (by rfl) T.b_max boot_max (pa_cons (pe_lc (own := [("number", 6)]) (tt := tYes) rfl nd (k_any (K := K) (pv 3)) (blkOk_by (N := N_width_of) (sc := defScope s_width_of) (by decide +kernel)) (fun _ _ _ _ _ => (pg_name (i := 6) nd rfl (by first | exact .inl rfl | exact .inr rfl))) (fun _ _ _ _ _ => pts_nil) (fun _ _ _ _ _ => (pe_callTy c_int (by rfl) T.b_int boot_int (pa_cons (pv 6) pa_nil)))) pa_nil))) (pg_name (i := 1) nd rfl (by first | exact .inl rfl | exact .inr rfl)))))))
    (pss_one (ps_ret (pv 1))))), ?_⟩
  obtain ⟨G, M, d, kvs, tn, rfl, z, ⟨od, hod⟩, hk, hc, ht, q⟩ := h
  have hl : kvs.length = tn.length := keys_len hk
  repeat (walk_at "z")
  refine z_anyT ?_
  repeat (walk_at "z")
  refine ⟨G, M, d, kvs, tn, rfl, z, ⟨od, hod⟩, hk, hc, fun l1 G1 H1 z1 s1 e1 => ?_⟩
  refine z_itT z1 e1 ?_
  refine for_src src_T (fun i σ G' M' => ∃ k2 k3 k4 k5 k6, M' = M ∧ Same G1 G' ∧ σ = [some (.ref d), some (.int (((remP tn).take i).map fun nm => maxI (numsP tn nm)).sum), k2, k3, k4, k5, k6]) z1 ⟨_, _, _, _, _, rfl, Same.refl _, rfl⟩ (fun i σ G' M' H' ⟨_, _, _, _, _, _, s', _⟩ z' => z'.seqT (upT s' e1)) ?_ ?_
  · rintro i x σ G' M' H' hx ⟨k2, k3, k4, k5, k6, rfl, s', rfl⟩ z'
    rw [List.getElem?_map] at hx
    obtain ⟨nm, hnm, rfl⟩ := Option.map_eq_some_iff.mp hx
    repeat (walk_at "z")
    refine z_ownL z' (by simp) fun l H2 z2 => ?_
    repeat (walk_at "z")
    refine z_itI z2 ((s1.trans s') _ _ hod) ?_
    refine for_items (fun j σ G'' M'' => ∃ k4 k5, M'' = M' ++ [(l, .lst ((numsJ tn nm j).map V.int))] ∧ Same G' G'' ∧ σ = [some (.ref d), some (.int (((remP tn).take i).map fun nm => maxI (numsP tn nm)).sum), some (.str nm), some (.ref l), k4, k5, k6]) z2 ⟨_, _, rfl, Same.refl _, rfl⟩ (fun j σ G'' M'' ⟨_, _, _, s'', _⟩ => ((s1.trans s').trans s'') _ _ hod) ?_ ?_
    · rintro j k v Tt σ G2 M2 G3 H3 hkv ⟨k4', k5', rfl, s2, rfl⟩ z3 s3 eT
      have hj : j < kvs.length := (List.getElem?_eq_some_iff.mp hkv).1
      obtain ⟨nm', t, a, h1, h2, h3⟩ := tk_at hk hj
      rw [h1] at hkv
      obtain ⟨rfl, rfl⟩ : (.inr nm' : Key) = k ∧ V.ref a = v := by simpa using hkv
      obtain ⟨dx, t1, t2, t3, t4, h0, e1', e2', e3', e4'⟩ := h3.up (((s1.trans s').trans s2).trans s3)
      have hln := numsJ_len tn nm j
      have hsu := numsJ_succ (nm := nm) h2
      refine z_gtup z3 (SqT.of eT) rfl ?_
      repeat (walk_at "z")
      refine z_eqS rfl ?_
      have fin : hitP nm (nm', t) = true → ∀ H4, Zp G3 ((M' ++ [(l, HO.lst ((numsJ tn nm j).map V.int))]).set M'.length (l, .lst ((numsJ tn nm j).map V.int ++ [V.int t.many]))) H4 → Zp G3 (M' ++ [(l, .lst ((numsJ tn nm (j + 1)).map V.int))]) H4 := fun hh H4 z4 => by
        rw [List.set_append_right _ _ (Nat.le_refl _), Nat.sub_self] at z4
        rw [hsu, if_pos hh, List.map_append]
        exact z4
      by_cases c : nm' = nm
      · rw [decide_eq_true (show kV (.inr nm') = V.str nm by rw [c]; rfl)]
        repeat (walk_at "z")
        refine z_tyO z3 M'.length last_at ?_
        repeat (walk_at "z")
        refine z_prI z3 h0 ⟨a, dx, _, _, rfl, z3.sub _ _ h0, (by rfl), ?_⟩
        repeat (walk_at "z")
        refine z_append z3 M'.length last_at (by rw [List.length_map]; omega) fun H4 z4 => ?_
        repeat (walk_at "z")
        exact ⟨G3, _, fin (by unfold hitP; rw [decide_eq_true c]; rfl) H4 z4, _, _, rfl, s2.trans s3, rfl⟩
      · rw [decide_eq_false (show ¬ kV (.inr nm') = V.str nm from fun e => c (V.str.inj e))]
        repeat (walk_at "z")
        refine z_prI z3 h0 ⟨a, dx, _, _, rfl, z3.sub _ _ h0, (by rfl), ?_⟩
        refine z_inT z3 e3' ?_
        by_cases c2 : nm ∈ t.l3
        · rw [decide_eq_true c2]
          repeat (walk_at "z")
          refine z_tyO z3 M'.length last_at ?_
          repeat (walk_at "z")
          refine z_prI z3 h0 ⟨a, dx, _, _, rfl, z3.sub _ _ h0, (by rfl), ?_⟩
          repeat (walk_at "z")
          refine z_append z3 M'.length last_at (by rw [List.length_map]; omega) fun H4 z4 => ?_
          repeat (walk_at "z")
          exact ⟨G3, _, fin (by unfold hitP; rw [decide_eq_true c2, Bool.or_true]) H4 z4, _, _, rfl, s2.trans s3, rfl⟩
        · rw [decide_eq_false c2]
          repeat (walk_at "z")
          have hn : ¬ hitP nm (nm', t) = true := by unfold hitP; rw [decide_eq_false c, decide_eq_false c2]; simp
          rw [if_neg hn] at hsu
          exact ⟨G3, _, z3, _, _, by rw [hsu], s2.trans s3, rfl⟩
    · rintro σ G2 M2 H3 ⟨k4', k5', rfl, s2, rfl⟩ z3
      rw [hl, numsJ_all] at z3
      have z4 := z3.fix
      have fr : G2 l = none := (z3.own M'.length _ _ last_at).2
      have s4 : Same G2 (upd G2 l (.lst ((numsP tn nm).map V.int))) := Same.new fr
      have hle := numsJ_len tn nm tn.length
      rw [numsJ_all] at hle
      repeat (walk_at "z")
      refine z_anyL ?_
      repeat (walk_at "z")
      refine z_itL z4 (SqL.of upd_same) ?_
      refine lc_src src_L (fun j G5 M5 acc => M5 = M' ∧ Same (upd G2 l (.lst ((numsP tn nm).map V.int))) G5 ∧ acc = ((numsP tn nm).take j).map V.int) z4 ⟨rfl, Same.refl _, rfl⟩ (fun j G5 M5 M1 acc H5 ⟨_, s5, _⟩ z5 => z5.seqL (upL s5 (SqL.of upd_same))) ?_ ?_
      · rintro j y G5 M5 acc Dl H5 hy ⟨rfl, s5, rfl⟩ z5
        rw [List.getElem?_map] at hy
        obtain ⟨n, hn, rfl⟩ := Option.map_eq_some_iff.mp hy
        repeat (walk_at "z")
        refine ⟨by rfl, ?_⟩
        repeat (walk_at "z")
        refine z_laid z5 (by rw [List.length_map, List.length_take]; omega) ⟨rfl, s5, ?_⟩
        rw [List.take_add_one, hn]
        simp
      · rintro p G5 M5 acc G6 H6 ⟨rfl, s5, rfl⟩ s6 z6 e6
        rw [List.length_map, List.take_length] at e6
        repeat (walk_at "z")
        refine z_max z6 (SqL.of e6) (maxI_num tn nm) (fun y hy => maxI_ub y hy) ?_
        repeat (walk_at "z")
        refine ⟨G6, M5, z6, some (.str nm), some (.ref l), k4', k5', k6, rfl, s'.trans (s2.trans (s4.trans (s5.trans s6))), ?_⟩
        rw [List.take_add_one, hnm]
        simp
  · rintro σ G' M' H' ⟨k2, k3, k4, k5, k6, rfl, s', rfl⟩ z'
    repeat (walk_at "z")
    have := q G' H' z' (s1.trans s')
    unfold widP at this
    rw [List.length_map, List.take_length]
    exact this
end
end LW
namespace LW
open PySem PySem.Spec PyProof.Rows L2 Ys

/-! ### books -/
def lookT (tn : List (Str × TkD)) (k : Str) : TkD := match tn.find? (fun q => decide (q.1 = k)) with
  | some q => q.2
  | none => ⟨none, 1, [], [], [], []⟩
def ordT (tn : List (Str × TkD)) : List (Str × TkD) := (asc (tn.map (·.1))).map fun k => (k, lookT tn k)
def lookK (kn : List (Str × List Str)) (k : Str) : List Str := match kn.find? (fun q => decide (q.1 = k)) with
  | some q => q.2
  | none => []
def ordK (kn : List (Str × List Str)) : List (Str × List Str) := (asc (kn.map (·.1))).map fun k => (k, asc (lookK kn k))
theorem find_nd {β : Type} : ∀ {l : List (Str × β)} {k : Str} {t : β}, (l.map (·.1)).Nodup → (k, t) ∈ l → l.find? (fun q => decide (q.1 = k)) = some (k, t)
  | q :: l, k, t, nd, h => by
    obtain ⟨n1, n2⟩ := List.nodup_cons.mp (show (q.1 :: l.map (·.1)).Nodup from nd)
    rw [List.find?_cons]
    by_cases c : q.1 = k
    · rw [decide_eq_true c]
      rcases List.mem_cons.mp h with e | h
      · rw [e]
      · exact absurd (List.mem_map.mpr ⟨(k, t), h, c.symm⟩) n1
    · rw [decide_eq_false c]
      rcases List.mem_cons.mp h with e | h
      · exact absurd (by rw [← e]) c
      · exact find_nd n2 h
theorem lookT_of {tn : List (Str × TkD)} {k : Str} {t : TkD} (nd : (tn.map (·.1)).Nodup) (h : (k, t) ∈ tn) : lookT tn k = t := by
  unfold lookT
  rw [find_nd nd h]
theorem lookK_of {kn : List (Str × List Str)} {k : Str} {t : List Str} (nd : (kn.map (·.1)).Nodup) (h : (k, t) ∈ kn) : lookK kn k = t := by
  unfold lookK
  rw [find_nd nd h]
theorem ordT_keys (tn : List (Str × TkD)) : (ordT tn).map (·.1) = asc (tn.map (·.1)) := by
  unfold ordT
  rw [List.map_map]
  exact List.map_id _
theorem ordK_keys (kn : List (Str × List Str)) : (ordK kn).map (·.1) = asc (kn.map (·.1)) := by
  unfold ordK
  rw [List.map_map]
  exact List.map_id _
theorem paired_snoc {α β : Type} {R : α → β → Prop} {x : α} {y : β} (h : R x y) : ∀ {xs : List α} {ys : List β}, Paired R xs ys → Paired R (xs ++ [x]) (ys ++ [y])
  | _, _, .nil => .cons h .nil
  | _, _, .cons a b => .cons a (paired_snoc h b)
theorem find_at {β : Type} {l : List (Str × β)} {k : Str} (h : k ∈ l.map (·.1)) : ∃ (i : Nat) (t : β), l[i]? = some (k, t) := by
  obtain ⟨⟨k', t⟩, hq, rfl⟩ := List.mem_map.mp h
  obtain ⟨i, hi⟩ := List.getElem?_of_mem hq
  exact ⟨i, t, hi⟩
theorem dd_len_le : ∀ l : List Str, (dd l).length ≤ l.length
  | [] => Nat.le_refl _
  | x :: r => by
    have := dd_len_le r
    unfold dd
    split
    · exact Nat.le_succ_of_le this
    · exact Nat.succ_le_succ this
theorem asc_len_le (l : List Str) : (asc l).length ≤ l.length := by
  unfold asc
  rw [(List.mergeSort_perm _ _).length_eq]
  exact dd_len_le l
theorem key_new {ks : List Str} {i : Nat} {k : Str} {acc : List (Key × V)} (nd : ks.Nodup) (h : ks[i]? = some k) (e : acc.map (·.1) = (ks.take i).map .inr) : valV acc (.inr k) = none := by
  refine valV_out ?_
  rw [e]
  intro hm
  obtain ⟨k', h1, h2⟩ := List.mem_map.mp hm
  obtain rfl : k' = k := Sum.inr.inj h2
  obtain ⟨j, hj⟩ := List.getElem?_of_mem h1
  rw [List.getElem?_take] at hj
  split at hj
  · rename_i c
    have hj1 := (List.getElem?_eq_some_iff.mp hj).1
    have := (List.getElem?_inj hj1 nd).mp (hj.trans h.symm)
    omega
  · cases hj
theorem z_dgS {G H : Hp} {M : List (Addr × HO)} {d : Addr} {kvs : List (Key × V)} {k : Str} {v : V} {Q : VK} (z : Zp G M H) (h : FzD G d kvs) (e : valV kvs (.inr k) = some v) (q : Q v H) : DgW (.ref d) (.str k) H Q := ⟨d, v, rfl, .inl ⟨kvs, .inr k, h.rd z, rfl, e.symm⟩, q⟩
structure NeedOk (tn : List (Str × TkD)) : Prop where
  cl : (condL tn).length < 64
  rm : (remP tn).length ≤ 3
  wd : widP tn ≤ 5
def Kdt (K : PySem.W.Frag) (G : Hp) : List (Key × V) → List (Str × List Str) → Prop := Paired fun p q => p.1 = .inr q.1 ∧ ∃ a, p.2 = .ref a ∧ SqT K G a (q.2.map V.str)
theorem Kdt.up {K : PySem.W.Frag} {G G1 : Hp} {kvs kn} (h : Kdt K G kvs kn) (s : Same G G1) : Kdt K G1 kvs kn := L2.Paired.mapP h fun _ _ ⟨e, d, h1, h2⟩ => ⟨e, d, h1, upT s h2⟩
theorem Kdt.keys {K : PySem.W.Frag} {G : Hp} {kvs kn} (h : Kdt K G kvs kn) : kvs.map (·.1) = (kn.map (·.1)).map .inr := paired_keys (fun _ _ h => h.1) h
theorem Kdt.kds {K : PySem.W.Frag} {G : Hp} {kvs kn} (h : Kdt K G kvs kn) : Kds K G kvs kn := L2.Paired.mapP h fun _ _ ⟨e, a, h1, h2⟩ => ⟨e, .tuple _, by rw [h1]; exact .tup h2 (dts_str _), rfl, rfl⟩
structure BkD where
  kinds : List (Str × List Str)
  tasks : List (Str × TkD)
  plan : Pl
def BkI (K : PySem.W.Frag) (G : Hp) (C CB x : Addr) (B : BkD) : Prop := ∃ dx vp dk dt kk kt, G x = some (.ins CB dx [("own_plan", vp), ("own_kinds", .ref dk), ("own_tasks", .ref dt)]) ∧ PV K G (B.tasks.map (·.1)) vp B.plan ∧ FzD G dk kk ∧ Kdt K G kk B.kinds ∧ FzD G dt kt ∧ Tks K G C kt B.tasks
theorem BkI.up {K : PySem.W.Frag} {G G1 : Hp} {C CB x : Addr} {B : BkD} (h : BkI K G C CB x B) (s : Same G G1) : BkI K G1 C CB x B := by
  obtain ⟨dx, vp, dk, dt, kk, kt, h0, h1, h2, h3, h4, h5⟩ := h
  exact ⟨dx, vp, dk, dt, kk, kt, s _ _ h0, h1.up s, h2.up s, h3.up s, h4.up s, h5.up s⟩
def BkF (K : PySem.W.Frag) (G : Hp) (C : Addr) (fs : List (Str × V)) (B : BkD) : Prop := ∃ vp dk dt kk kt, fs = [(("own_plan" : Str), vp), (("own_kinds" : Str), V.ref dk), (("own_tasks" : Str), V.ref dt)] ∧ PV K G (B.tasks.map (·.1)) vp B.plan ∧ FzD G dk kk ∧ Kdt K G kk B.kinds ∧ FzD G dt kt ∧ Tks K G C kt B.tasks
theorem BkF.up {K : PySem.W.Frag} {G G1 : Hp} {C : Addr} {fs : List (Str × V)} {B : BkD} (h : BkF K G C fs B) (s : Same G G1) : BkF K G1 C fs B := by
  obtain ⟨vp, dk, dt, kk, kt, h0, h1, h2, h3, h4, h5⟩ := h
  exact ⟨vp, dk, dt, kk, kt, h0, h1.up s, h2.up s, h3.up s, h4.up s, h5.up s⟩
theorem BkF.at_ {K : PySem.W.Frag} {G : Hp} {C CB x dx : Addr} {fs : List (Str × V)} {B : BkD} (h : BkF K G C fs B) (e : G x = some (.ins CB dx fs)) : BkI K G C CB x B := by
  obtain ⟨vp, dk, dt, kk, kt, h0, h1⟩ := h
  subst h0
  exact ⟨dx, vp, dk, dt, kk, kt, e, h1⟩
structure BookC (K : PySem.W.Frag) (C : Addr) : Prop where
  cl : Cls K C
  n1 : NoAttr K C "own_plan"
  n2 : NoAttr K C "own_kinds"
  n3 : NoAttr K C "own_tasks"
section
variable {P : Program} {w : World} {K : PySem.W.Frag} {mg : Str → Option Value} {base : Heap} {f : Addr} {fd : FuncData} {C CB : Addr}
theorem PV.of_mem {G : Hp} {ns ms : List Str} {v : V} {p : Pl} (h : PV K G ns v p) (m : ∀ s ∈ ns, s ∈ ms) : PV K G ms v p := ⟨h.dt, h.ok, h.dp, h.sz, h.ndp, h.nm, fun s hs => m s (h.mem s hs)⟩
def spNeed (K : PySem.W.Frag) (C : Addr) : Sp := fun vs H Q _ => ∃ G M d kvs tn, vs = [.ref d] ∧ Zp G M H ∧ FzD G d kvs ∧ Tks K G C kvs tn ∧ NeedOk tn ∧ tn.length ≤ 1000 ∧ ∀ G1 H1, Zp G1 M H1 → Same G G1 → Q .non H1
theorem ok_need (T : Nm K mg) (C_remembered_in : Own P w K mg base CX0 3 "remembered_in" ["tasks"] (spRem K C)) (C_width_of : Own P w K mg base CX0 4 "width_of" ["tasks"] (spWid K C)) (F : FnP K "need_tasks" s_need_tasks f fd) :
    FnOk P w K mg base CX0 5 f fd ["tasks"] (spNeed K C) := by
  have nd : N_need_tasks.Nodup := sc_need_tasks.nd
  refine F.ok sc_need_tasks (fun vs H Q E h => ?_) (fun cdv A outer s H vs Q E hr h => ?_)
  · obtain ⟨G, M, d, kvs, tn, rfl, _⟩ := h
    rfl
  have hu := hr.units
  refine ⟨_, PSs.nox   (pss_cons (ps_if (pt_cmpR o_gt (pe_callB (kc_len (K := K) (P := P) (w := w)) (by rfl) T.b_len PySem.boot_len (pa_cons (pe_own C_remembered_in (hr.mono (by omega)) (by rfl) pass0 (pa_cons (pv 0) pa_nil)) pa_nil)) (pe_gC T.g_REMEMBERED (by rfl)) (nomark _)) (pss_one ps_never) pss_nil)
    (pss_one (ps_if (pt_cmpR o_gt (pe_own C_width_of (hr.mono (by omega)) (by rfl) pass0 (pa_cons (pv 0) pa_nil)) (pe_gC T.g_WIDTH (by rfl)) (nomark _)) (pss_one ps_never) pss_nil))), ?_⟩
  obtain ⟨G, M, d, kvs, tn, rfl, z, hd, hk, hn, hl, q⟩ := h
  have r3 := hn.rm
  have w5 := hn.wd
  repeat (walk_at "z")
  refine ⟨G, M, d, kvs, tn, rfl, z, hd, hk, hn.cl, fun p G1 H1 z1 s1 e1 => ?_⟩
  repeat (walk_at "z")
  refine z_lenT z1 e1 ?_
  repeat (walk_at "z")
  refine z_bF' (decide_eq_false (by rw [List.length_map]; omega)) ?_
  repeat (walk_at "z")
  refine ⟨G1, M, d, kvs, tn, rfl, z1, hd.up s1, hk.up s1, hn.cl, hl, fun G2 H2 z2 s2 => ?_⟩
  repeat (walk_at "z")
  refine z_bF' (decide_eq_false (by omega)) ?_
  repeat (walk_at "z")
  exact q G2 H2 z2 (s1.trans s2)
def spOrd (K : PySem.W.Frag) (C : Addr) : Sp := fun vs H Q _ => ∃ G M d kvs tn, vs = [.ref d] ∧ Zp G M H ∧ FzD G d kvs ∧ Tks K G C kvs tn ∧ (tn.map (·.1)).Nodup ∧ tn.length ≤ 60 ∧ ∀ p kvs' G1 H1, Zp G1 M H1 → Same G G1 → FzD G1 p kvs' → Tks K G1 C kvs' (ordT tn) → Q (.ref p) H1
theorem ok_order (T : Nm K mg) (C_ascendingD : Own P w K mg base CX0 1 "ascending" ["words"] (spAscD K)) (F : FnP K "in_order" s_in_order f fd) : FnOk P w K mg base CX0 2 f fd ["pairs"] (spOrd K C) := by
  have nd : N_in_order.Nodup := sc_in_order.nd
  refine F.ok sc_in_order (fun vs H Q E h => ?_) (fun cdv A outer s H vs Q E hr h => ?_)
  · obtain ⟨G, M, d, kvs, tn, rfl, _⟩ := h
    rfl
  have hu := hr.units
  refine ⟨_, PSs.nox   (pss_one (ps_ret (pe_frz (pe_dc (own := [("key", 1)]) (tt := tYes) rfl nd (k_any (K := K) (pe_own C_ascendingD (hr.mono (by omega)) (by rfl) pass0 (pa_cons (pv 0) pa_nil))) (blkOk_by (N := N_in_order) (sc := defScope s_in_order) (by decide +kernel)) (fun _ _ _ _ _ => (pg_name (i := 1) nd rfl (by first | exact .inl rfl | exact .inr rfl))) (fun _ _ _ _ _ => pts_nil) (fun _ _ _ _ _ => (pv 1)) (fun _ _ _ _ _ => (pe_dget (hu_of hr) (pv 0) (pv 1) (fun _ _ => rfl))))))), ?_⟩
  obtain ⟨G, M, d, kvs, tn, rfl, z, hd, hk, hnd, hl, q⟩ := h
  have hkn : (kvs.map (·.1)).Nodup := by rw [hk.keys]; exact inr_nodup hnd
  repeat (walk_at "z")
  refine z_anyT ?_
  repeat (walk_at "z")
  refine ⟨G, M, d, kvs, tn.map (·.1), rfl, z, hd, hk.keys, by rw [List.length_map]; omega, fun p1 G1 H1 z1 s1 e1 => ?_⟩
  refine z_itT z1 e1 ?_
  have hal := asc_len_le (tn.map (·.1))
  rw [List.length_map] at hal
  refine dc_src src_T (fun i G' M' acc => M' = M ∧ Same G1 G' ∧ Tks K G' C acc ((ordT tn).take i)) z1 ⟨rfl, Same.refl _, by rw [List.take_zero]; exact .nil⟩ (fun i G' M' M1 acc H' ⟨_, s', _⟩ z' => z'.seqT (upT s' e1)) ?_ ?_
  · rintro i x G2 M2 acc Dl H2 hx ⟨rfl, s2, hA⟩ z2
    rw [List.getElem?_map] at hx
    obtain ⟨k, hki, rfl⟩ := Option.map_eq_some_iff.mp hx
    have hm : k ∈ tn.map (·.1) := asc_mem.mp (List.mem_of_getElem? hki)
    obtain ⟨j, t, hj⟩ := find_at hm
    have hlen : kvs.length = tn.length := keys_len hk
    obtain ⟨nm, t', a, h1, h2, h3⟩ := tk_at hk (i := j) (by rw [hlen]; exact (List.getElem?_eq_some_iff.mp hj).1)
    rw [hj] at h2
    obtain ⟨rfl, rfl⟩ : k = nm ∧ t = t' := by simpa using h2
    have hoi : (ordT tn)[i]? = some (k, t) := by
      unfold ordT
      rw [List.getElem?_map, hki, Option.map_some, lookT_of hnd (List.mem_of_getElem? hj)]
    have hi := (List.getElem?_eq_some_iff.mp hki).1
    have hal2 := keys_len hA
    rw [List.length_take] at hal2
    repeat (walk_at "z")
    refine ⟨by rfl, ?_⟩
    repeat (walk_at "z")
    refine z_dgF z2 (hd.up (s1.trans s2)) (valV_ix hkn h1) ?_
    refine z_laidD (k := .inr k) z2 (by omega) ⟨rfl, s2, ?_⟩
    rw [putK_new _ (key_new (asc_nodup _) hki (by rw [hA.keys, List.map_take, ordT_keys])), List.take_add_one, hoi]
    exact paired_snoc ⟨rfl, a, rfl, h3.up (s1.trans s2)⟩ hA
  · rintro p G2 M2 acc H2 ⟨rfl, s2, hA⟩ z2
    rw [List.length_map] at hA
    have e : (ordT tn).length = (asc (tn.map (·.1))).length := by unfold ordT; rw [List.length_map]
    rw [← e, List.take_length] at hA
    exact z_frzL z2 fun G3 H3 z3 s3 f3 => q p acc G3 H3 z3 ((s1.trans s2).trans s3) f3 (hA.up s3)
def spBookM (K : PySem.W.Frag) (C CB : Addr) : Sp := fun vs H Q _ => ∃ G M x dx dk dt v kk kn kt tn p, vs = [.ref x, .ref dk, .ref dt, v] ∧ Zp G (M ++ [(x, .ins CB dx [])]) H ∧ FzD G dk kk ∧ Kds K G kk kn ∧ GoodK kn ∧ FzD G dt kt ∧ Tks K G C kt tn ∧ GoodTs tn ∧ NeedOk tn ∧ PV K G (tn.map (·.1)) v p ∧
  ∀ fs G1 H1, Zp G1 (M ++ [(x, .ins CB dx fs)]) H1 → Same G G1 → BkF K G1 C fs ⟨ordK kn, ordT tn, nf p⟩ → Q .non H1
theorem ok_bookM (T : Nm K mg) (BC : BookC K CB) (C_are_kinds : Own P w K mg base CX0 4 "are_kinds" ["value"] (spKinds K)) (C_are_tasks : Own P w K mg base CX0 2 "are_tasks" ["value"] (spTasks K C)) (C_plan_for : Own P w K mg base CX0 21 "plan_for" ["plan", "tasks"] (spPlanFor K))
    (C_need_tasks : Own P w K mg base CX0 5 "need_tasks" ["tasks"] (spNeed K C)) (C_ascendingD : Own P w K mg base CX0 1 "ascending" ["words"] (spAscD K)) (C_ascendingA : Own P w K mg base CX0 1 "ascending" ["words"] (spAscA K)) (C_in_order : Own P w K mg base CX0 2 "in_order" ["pairs"] (spOrd K C))
    (F : FunD K "__init__" "Book.__init__" (defArgs s_Book_init) (defBody s_Book_init) (defScope s_Book_init) [] [] f fd) : FnOk P w K mg base CX0 22 f fd ["self", "kinds", "tasks", "plan"] (spBookM K C CB) := by
  have nd : N_Book_init.Nodup := sc_Book_init.nd
  refine F.ok sc_Book_init (fun vs H Q E h => ?_) (fun cdv A outer s H vs Q E hr h => ?_)
  · obtain ⟨G, M, x, dx, dk, dt, v, kk, kn, kt, tn, p, rfl, _⟩ := h
    rfl
  have hu := hr.units
  refine ⟨_, PSs.nox   (pss_cons (ps_if (pt_not (pt_val (pe_own C_are_kinds (hr.mono (by omega)) (by rfl) pass0 (pa_cons (pv 1) pa_nil)))) (pss_one ps_never) pss_nil)
    (pss_cons (ps_if (pt_not (pt_val (pe_own C_are_tasks (hr.mono (by omega)) (by rfl) pass0 (pa_cons (pv 2) pa_nil)))) (pss_one ps_never) pss_nil)
    (pss_cons (ps_if (pt_cmpR o_gt (pe_callB c_lenD (by rfl) T.b_len PySem.boot_len (pa_cons (pv 2) pa_nil)) (pe_gC T.g_TASKS (by rfl)) (nomark _)) (pss_one ps_never) pss_nil)
    (pss_cons (ps_fld (pv 0) (pe_own C_plan_for (hr.mono (by omega)) (by rfl) pass0 (pa_cons (pv 3) (pa_cons (pv 2) pa_nil))) rfl)
    (pss_cons (ps_expr (pe_own C_need_tasks (hr.mono (by omega)) (by rfl) pass0 (pa_cons (pv 2) pa_nil)))
    (pss_cons (ps_fld (pv 0) (pe_frz (pe_dc (own := [("kind", 4)]) (tt := tYes) rfl nd (k_any (K := K) (pe_own C_ascendingD (hr.mono (by omega)) (by rfl) pass0 (pa_cons (pv 1) pa_nil))) (blkOk_by (N := N_Book_init) (sc := defScope s_Book_init) (by decide +kernel)) (fun _ _ _ _ _ => (pg_name (i := 4) nd rfl (by first | exact .inl rfl | exact .inr rfl))) (fun _ _ _ _ _ => pts_nil) (fun _ _ _ _ _ => (pv 4)) (fun _ _ _ _ _ => (pe_own C_ascendingA (hr.mono (by omega)) (by rfl) pass0 (pa_cons (pe_dget (hu_of hr) (pv 1) (pv 4) (fun _ _ => rfl)) pa_nil))))) rfl)
    (pss_one (ps_fld (pv 0) (pe_own C_in_order (hr.mono (by omega)) (by rfl) pass0 (pa_cons (pv 2) pa_nil)) rfl)))))))), ?_⟩
  obtain ⟨G, M, x, dx, dk, dt, v, kk, kn, kt, tn, p, rfl, z, hdk, hkn, gk, hdt, htn, gt, hnd, hp, q⟩ := h
  have hlt : kt.length = tn.length := keys_len htn
  have g8 := gt.l8
  have g3 := gk.l3
  repeat (walk_at "z")
  refine ⟨G, _, dk, kk, kn, rfl, z, hdk, hkn, gk, fun G1 H1 z1 s1 => ?_⟩
  repeat (walk_at "z")
  refine ⟨G1, _, dt, kt, tn, rfl, z1, hdt.up s1, htn.up s1, gt, fun G2 H2 z2 s2 => ?_⟩
  repeat (walk_at "z")
  refine z_lenD z2 (hdt.up (s1.trans s2)) ?_
  repeat (walk_at "z")
  refine z_bF' (decide_eq_false (by omega)) ?_
  repeat (walk_at "z")
  refine ⟨G2, _, v, dt, kt, tn.map (·.1), p, rfl, z2, hp.up (s1.trans s2), hdt.up (s1.trans s2), htn.keys, fun v' G3 H3 z3 s3 hp3 => ?_⟩
  have s13 := (s1.trans s2).trans s3
  repeat (walk_at "z")
  refine z_fsL z3 BC.cl BC.n1 (by decide) fun H4 z4 => ?_
  repeat (walk_at "z")
  refine ⟨G3, _, dt, kt, tn, rfl, z4, hdt.up s13, htn.up s13, hnd, by omega, fun G5 H5 z5 s5 => ?_⟩
  have s15 := s13.trans s5
  repeat (walk_at "z")
  refine z_anyT ?_
  repeat (walk_at "z")
  refine ⟨G5, _, dk, kk, kn.map (·.1), rfl, z5, hdk.up s15, hkn.keys, by rw [List.length_map]; omega, fun p6 G6 H6 z6 s6 e6 => ?_⟩
  refine z_itT z6 e6 ?_
  have s16 := s15.trans s6
  have hknd : (kk.map (·.1)).Nodup := by rw [hkn.keys]; exact inr_nodup gk.nd
  have hal := asc_len_le (kn.map (·.1))
  rw [List.length_map] at hal
  refine dc_src src_T (fun i G' M' acc => M' = M ++ [(x, .ins CB dx [("own_plan", v')])] ∧ Same G6 G' ∧ Kdt K G' acc ((ordK kn).take i)) z6 ⟨rfl, Same.refl _, by rw [List.take_zero]; exact .nil⟩ (fun i G' M' M1 acc H' ⟨_, s', _⟩ z' => z'.seqT (upT s' e6)) ?_ ?_
  · rintro i y G7 M7 acc Dl H7 hx ⟨rfl, s7, hA⟩ z7
    rw [List.getElem?_map] at hx
    obtain ⟨k, hki, rfl⟩ := Option.map_eq_some_iff.mp hx
    have hm : k ∈ kn.map (·.1) := asc_mem.mp (List.mem_of_getElem? hki)
    obtain ⟨j, rs, hj⟩ := find_at hm
    have hlen : kk.length = kn.length := keys_len hkn
    obtain ⟨⟨pk, pv'⟩, ⟨qk, qr⟩, h1, h2, hpk, d', hdd, hli, hit⟩ := pair_at hkn (i := j) (by rw [hlen]; exact (List.getElem?_eq_some_iff.mp hj).1)
    rw [hj] at h2
    obtain ⟨rfl, rfl⟩ : k = qk ∧ rs = qr := by simpa using h2
    have hpk : pk = .inr k := hpk
    subst hpk
    have hit : itemsD d' = rs.map PyData.str := hit
    have hrs : rs.length ≤ 4 := (gk.rs (k, rs) (List.mem_of_getElem? hj)).1
    have hoi : (ordK kn)[i]? = some (k, asc rs) := by
      unfold ordK
      rw [List.getElem?_map, hki, Option.map_some, lookK_of gk.nd (List.mem_of_getElem? hj)]
    have hal2 := keys_len hA
    rw [List.length_take] at hal2
    have hi := (List.getElem?_eq_some_iff.mp hki).1
    repeat (walk_at "z")
    refine ⟨by rfl, ?_⟩
    repeat (walk_at "z")
    refine z_dgS z7 (hdk.up (s16.trans s7)) (valV_ix hknd h1) ?_
    repeat (walk_at "z")
    refine ⟨G7, _, pv', d', rs, rfl, z7, .inl (hdd.up (s16.trans s7)), hli, hit, by omega, fun p8 G8 H8 z8 s8 e8 => ?_⟩
    refine z_laidD (k := .inr k) z8 (by omega) ⟨rfl, s7.trans s8, ?_⟩
    rw [putK_new _ (key_new (asc_nodup _) hki (by rw [hA.keys, List.map_take, ordK_keys])), List.take_add_one, hoi]
    exact paired_snoc ⟨rfl, p8, rfl, e8⟩ (hA.up s8)
  · rintro p7 G7 M7 acc H7 ⟨rfl, s7, hA⟩ z7
    rw [List.length_map] at hA
    have e : (ordK kn).length = (asc (kn.map (·.1))).length := by unfold ordK; rw [List.length_map]
    rw [← e, List.take_length] at hA
    refine z_frzL z7 fun G8 H8 z8 s8 f8 => ?_
    have s18 := (s16.trans s7).trans s8
    repeat (walk_at "z")
    refine z_fsL z8 BC.cl BC.n2 (by simp) fun H9 z9 => ?_
    repeat (walk_at "z")
    refine ⟨G8, _, dt, kt, tn, rfl, z9, hdt.up s18, htn.up s18, gt.nd, by omega, fun p10 kt' G10 H10 z10 s10 f10 t10 => ?_⟩
    repeat (walk_at "z")
    refine z_fsL z10 BC.cl BC.n3 (putF_lt (n := 999) (by simp)) fun H11 z11 => ?_
    exact q _ G10 H11 z11 (s18.trans s10) ⟨v', p7, p10, acc, kt', rfl, PV.of_mem (hp3.up ((((s5.trans s6).trans s7).trans s8).trans s10)) (fun s hs => by
      show s ∈ (ordT tn).map (·.1)
      rw [ordT_keys]
      exact asc_mem.mpr hs), f8.up s10, (hA.up s8).up s10, f10, t10⟩
def spBook (K : PySem.W.Frag) (C CB : Addr) : Sp := fun vs H Q _ => ∃ G M x dx dk dt v kk kn kt tn p, vs = [.ref x, .ref dk, .ref dt, v] ∧ Zp G (M ++ [(x, .ins CB dx [])]) H ∧ FzD G dk kk ∧ Kds K G kk kn ∧ GoodK kn ∧ FzD G dt kt ∧ Tks K G C kt tn ∧ GoodTs tn ∧ NeedOk tn ∧ PV K G (tn.map (·.1)) v p ∧
  ∀ G1 H1, Zp G1 M H1 → Same G G1 → BkI K G1 C CB x ⟨ordK kn, ordT tn, nf p⟩ → Q .non H1
theorem spBook_of {vs : List V} {H : Hp} {Q : VK} {E : XK} (h : spBook K C CB vs H Q E) : spBookM K C CB vs H Q E := by
  obtain ⟨G, M, x, dx, dk, dt, v, kk, kn, kt, tn, p, h0, z, h1, h2, h3, h4, h5, h6, h7, h8, q⟩ := h
  refine ⟨G, M, x, dx, dk, dt, v, kk, kn, kt, tn, p, h0, z, h1, h2, h3, h4, h5, h6, h7, h8, fun fs G1 H1 z1 s1 hb => ?_⟩
  have fr : G1 x = none := (z1.own M.length _ _ last_at).2
  have sN := Same.new (o := HO.ins CB dx fs) fr
  exact q _ _ z1.fix (s1.trans sN) ((hb.up sN).at_ upd_same)
end
end LW
namespace LW
open PySem PySem.Spec PyProof.Rows L2 Ys

/-! ### lines of tasks -/
def roleW : Option Str → List Str
  | none => []
  | some s => ["role:", s]
def manyW (m : Int) : List Str := if 1 < m then ["many:", toString m] else []
def namesW (title : Str) (l : List Str) : List Str := if l = [] then [] else title :: l
def listsW (t : TkD) : List (Str × List Str) := [("other:", t.l1), ("same:", t.l2), ("takes:", t.l3), ("forgets:", t.l4)]
def headW (nm : Str) (t : TkD) : List Str := "task" :: nm :: (roleW t.role ++ manyW t.many)
def lineW (nm : Str) (t : TkD) : List Str := headW nm t ++ (listsW t).flatMap fun p => namesW p.1 p.2
def lineP (nm : Str) (t : TkD) : Str := Txt.join " " (lineW nm t)
def rStrI : List V → Hp → VK → Prop := fun xs H Q => ∃ i : Int, xs = [.int i] ∧ i.natAbs.log2 < 1920 ∧ Q (.str (toString i)) H
theorem c_strI {X : Cx} : CallR X (.type "str") rStrI := call_str_int
theorem len8 {t : TkD} (g : GoodT t) (h3 : t.many ≤ 3) {nm : Str} (hn : wordS nm = true) : ∀ s ∈ lineW nm t, s.length ≤ 8 := by
  intro s hs
  unfold lineW headW at hs
  rcases List.mem_append.mp hs with hs | hs
  · rcases List.mem_cons.mp hs with rfl | hs
    · decide +kernel
    rcases List.mem_cons.mp hs with rfl | hs
    · exact wordS_len hn
    rcases List.mem_append.mp hs with hs | hs
    · cases hr : t.role with
      | none => rw [hr] at hs; cases hs
      | some r =>
        rw [hr] at hs
        rcases List.mem_cons.mp hs with rfl | hs
        · decide +kernel
        · rw [List.mem_singleton.mp hs]
          exact wordS_len (g.ro r hr)
    · unfold manyW at hs
      split at hs
      · rename_i h1
        rcases List.mem_cons.mp hs with rfl | hs
        · decide +kernel
        · rw [List.mem_singleton.mp hs]
          rcases (show t.many = 2 ∨ t.many = 3 by omega) with e | e <;> rw [e] <;> decide +kernel
      · cases hs
  · obtain ⟨p, hp, hs⟩ := List.mem_flatMap.mp hs
    have one : ∀ (ti : Str) (l : List Str), ti.length ≤ 8 → GoodL l → s ∈ namesW ti l → s.length ≤ 8 := fun ti l h1 h2 h => by
      unfold namesW at h
      split at h
      · cases h
      · rcases List.mem_cons.mp h with rfl | h
        · exact h1
        · exact wordS_len (h2.wd s h)
    simp only [listsW, List.mem_cons, List.not_mem_nil, or_false] at hp
    rcases hp with rfl | rfl | rfl | rfl
    · exact one "other:" t.l1 (by decide +kernel) g.g1 hs
    · exact one "same:" t.l2 (by decide +kernel) g.g2 hs
    · exact one "takes:" t.l3 (by decide +kernel) g.g3 hs
    · exact one "forgets:" t.l4 (by decide +kernel) g.g4 hs
theorem namesW_len {ti : Str} {l : List Str} (h : GoodL l) : (namesW ti l).length ≤ 61 := by
  unfold namesW
  split
  · exact Nat.zero_le _
  · have := h.le
    rw [List.length_cons]
    omega
theorem headW_len (nm : Str) (t : TkD) : (headW nm t).length ≤ 6 := by
  unfold headW
  rw [List.length_cons, List.length_cons, List.length_append]
  have h1 : (roleW t.role).length ≤ 2 := by cases t.role <;> simp [roleW]
  have h2 : (manyW t.many).length ≤ 2 := by unfold manyW; split <;> simp
  omega
theorem accW_len {nm : Str} {t : TkD} (g : GoodT t) (i : Nat) : (headW nm t ++ ((listsW t).take i).flatMap fun p => namesW p.1 p.2).length ≤ 250 := by
  have h0 := headW_len nm t
  have h1 := namesW_len (ti := "other:") g.g1
  have h2 := namesW_len (ti := "same:") g.g2
  have h3 := namesW_len (ti := "takes:") g.g3
  have h4 := namesW_len (ti := "forgets:") g.g4
  rw [List.length_append]
  have : ∀ j, (((listsW t).take j).flatMap fun p => namesW p.1 p.2).length ≤ 244 := fun j => by
    rcases (show j = 0 ∨ j = 1 ∨ j = 2 ∨ j = 3 ∨ ∃ k, j = k + 4 by
      rcases j with _ | _ | _ | _ | k
      · exact .inl rfl
      · exact .inr (.inl rfl)
      · exact .inr (.inr (.inl rfl))
      · exact .inr (.inr (.inr (.inl rfl)))
      · exact .inr (.inr (.inr (.inr ⟨k, rfl⟩)))) with rfl | rfl | rfl | rfl | ⟨k, rfl⟩
    all_goals (simp only [listsW, List.take_succ_cons, List.take_zero, List.take_nil, List.flatMap_cons, List.flatMap_nil, List.length_append, List.length_nil]; omega)
  have := this i
  omega
theorem sum_le {n : Nat} : ∀ {ss : List Str}, (∀ s ∈ ss, s.length ≤ n) → (ss.map (·.length)).sum ≤ ss.length * n
  | [], _ => by simp
  | s :: ss, h => by
    have h1 := h s (by simp)
    have h2 := sum_le fun x hx => h x (List.mem_cons_of_mem _ hx)
    rw [List.map_cons, List.sum_cons, List.length_cons, Nat.add_mul, Nat.one_mul]
    omega
theorem eqv_nil : ∀ l : List Str, PyData.eqv (strsP l) (.tuple []) = decide (l = [])
  | [] => by simp [strsP, PyData.eqv, PyData.eqvAll]
  | x :: l => by simp [strsP, PyData.eqv, PyData.eqvAll]
theorem strs_sh {l : List Str} (h : GoodL l) : SeqAt.shaped (strsP l) = true := (fin_strs h).sh (by decide)
section
variable {P : Program} {w : World} {K : PySem.W.Frag} {mg : Str → Option Value} {base : Heap} {f : Addr} {fd : FuncData} {C CB : Addr}
def spLine (K : PySem.W.Frag) (C : Addr) : Sp := fun vs H Q _ => ∃ G M nm a t, vs = [.str nm, .ref a] ∧ Zp G M H ∧ TkI K G C a t ∧ GoodT t ∧ wordS nm = true ∧ t.many ≤ 3 ∧ ∀ G1 H1, Zp G1 M H1 → Same G G1 → Q (.str (lineP nm t)) H1
theorem ok_line (T : Nm K mg) (R_role : PrpT P w K mg base C "role" "own_role") (R_many : PrpT P w K mg base C "many" "own_many") (R_other : PrpT P w K mg base C "other" "own_other") (R_same : PrpT P w K mg base C "same" "own_same")
    (R_takes : PrpT P w K mg base C "takes" "own_takes") (R_forgets : PrpT P w K mg base C "forgets" "own_forgets") (F : FnP K "task_line" s_task_line f fd) : FnOk P w K mg base CX0 3 f fd ["name", "task"] (spLine K C) := by
  have nd : N_task_line.Nodup := sc_task_line.nd
  refine F.ok sc_task_line (fun vs H Q E h => ?_) (fun cdv A outer s H vs Q E hr h => ?_)
  · obtain ⟨G, M, nm, a, t, rfl, _⟩ := h
    rfl
  have hu := hr.units
  refine ⟨_, PSs.nox   (pss_cons (ps_asg (pe_lst (pa_cons pe_str (pa_cons (pv 0) pa_nil))) (pg_name (i := 2) nd rfl (by first | exact .inl rfl | exact .inr rfl)))
    (pss_cons (ps_if (pt_cmpR o_notN (pe_pr R_role (hr.mono (by decide)) pass0 (pv 1)) pe_non (nomark _)) (pss_one (ps_expr (pe_bm PySem.F.plainAttrs_list PySem.F.slot_list_extend PySem.F.type_list_extend (mt_ext2 (K := K)) (pv 2) (pa_cons (pe_lst (pa_cons pe_str (pa_cons (pe_pr R_role (hr.mono (by decide)) pass0 (pv 1)) pa_nil))) pa_nil)))) pss_nil)
    (pss_cons (ps_if (pt_cmpR o_gt (pe_pr R_many (hr.mono (by decide)) pass0 (pv 1)) pe_int (nomark _)) (pss_one (ps_expr (pe_bm PySem.F.plainAttrs_list PySem.F.slot_list_extend PySem.F.type_list_extend (mt_ext2 (K := K)) (pv 2) (pa_cons (pe_lst (pa_cons pe_str (pa_cons (pe_callTy c_strI (by rfl) T.b_str boot_str (pa_cons (pe_pr R_many (hr.mono (by decide)) pass0 (pv 1)) pa_nil)) pa_nil))) pa_nil)))) pss_nil)
    (pss_cons (ps_asg (pe_tup (pa_cons (pe_tup (pa_cons pe_str (pa_cons (pe_pr R_other (hr.mono (by decide)) pass0 (pv 1)) pa_nil))) (pa_cons (pe_tup (pa_cons pe_str (pa_cons (pe_pr R_same (hr.mono (by decide)) pass0 (pv 1)) pa_nil))) (pa_cons (pe_tup (pa_cons pe_str (pa_cons (pe_pr R_takes (hr.mono (by decide)) pass0 (pv 1)) pa_nil))) (pa_cons (pe_tup (pa_cons pe_str (pa_cons (pe_pr R_forgets (hr.mono (by decide)) pass0 (pv 1)) pa_nil))) pa_nil))))) (pg_name (i := 3) nd rfl (by first | exact .inl rfl | exact .inr rfl)))
    (pss_cons (ps_for PassesOwn.never rfl (k_any (K := K) (pv 3)) (kg_tup (K := K) (n := 2) rfl (pgs_cons (pg_name (i := 4) nd rfl (by first | exact .inl rfl | exact .inr rfl)) (pgs_cons (pg_name (i := 5) nd rfl (by first | exact .inl rfl | exact .inr rfl)) pgs_nil))) (pss_one (ps_if (pt_cmpR (k_ne (K := K) hu) (pv 5) (pe_tup pa_nil) (nomark _)) (pss_one (ps_expr (pe_bm PySem.F.plainAttrs_list PySem.F.slot_list_extend PySem.F.type_list_extend (mt_ext2 (K := K)) (pv 2) (pa_cons (pe_lst (pa_cons (pv 4) (k_star (K := K) (pv 5) pa_nil))) pa_nil)))) pss_nil)))
    (pss_one (ps_ret (pe_joinG pe_str (pv 2))))))))), ?_⟩
  obtain ⟨G, M, nm, a, t, rfl, z, ht, gt, hn, h3, q⟩ := h
  obtain ⟨dx, t1, t2, t3, t4, h0, e1, e2, e3, e4⟩ := ht
  repeat (walk_at "z")
  refine z_ownL z (by simp) fun wl H1 z1 => ?_
  repeat (walk_at "y")
  with_reducible refine z_cut (fun σ H2 => ∃ G2, Zp G2 (M ++ [(wl, .lst ((("task" :: nm :: roleW t.role) : List Str).map V.str))]) H2 ∧ Same G G2 ∧ σ = [some (.str nm), some (.ref a), some (.ref wl), none, none, none]) (fun nx hnx => ?_) (fun σ H2 h2 => ?_)
  · repeat (walk_at "z")
    refine z_prI z1 h0 ⟨a, dx, _, _, rfl, z1.sub _ _ h0, (by rfl), ?_⟩
    repeat (walk_at "z")
    refine z_nN ?_
    cases hro : t.role with
    | none =>
      rw [show decide (rV none = V.non) = true from rfl]
      repeat (walk_at "z")
      exact hnx _ _ ⟨G, by rw [hro]; exact z1, Same.refl G, rfl⟩
    | some rs =>
      rw [show decide (rV (some rs) = V.non) = false from rfl]
      repeat (walk_at "z")
      refine z_tyO z1 M.length last_at ?_
      repeat (walk_at "z")
      refine z_prI z1 h0 ⟨a, dx, _, _, rfl, z1.sub _ _ h0, (by rfl), ?_⟩
      rw [hro]
      repeat (walk_at "z")
      refine z_newL z1 (by simp) fun l2 G2 H2 z2 s2 e5 => ?_
      repeat (walk_at "z")
      refine z_extLast z2 (z2.sub _ _ e5) (by simp) fun H3 z3 => ?_
      repeat (walk_at "z")
      exact hnx _ _ ⟨G2, by rw [hro]; exact z3, s2, rfl⟩
  obtain ⟨G2, z2, s2, rfl⟩ := h2
  with_reducible refine z_cut (fun σ H3 => ∃ G3, Zp G3 (M ++ [(wl, .lst ((headW nm t).map V.str))]) H3 ∧ Same G G3 ∧ σ = [some (.str nm), some (.ref a), some (.ref wl), none, none, none]) (fun nx hnx => ?_) (fun σ H3 h3' => ?_)
  · have hrl : (roleW t.role).length ≤ 2 := by cases t.role <;> simp [roleW]
    repeat (walk_at "z")
    refine z_prI z2 (s2 _ _ h0) ⟨a, dx, _, _, rfl, z2.sub _ _ (s2 _ _ h0), (by rfl), ?_⟩
    repeat (walk_at "z")
    by_cases c : 1 < t.many
    · refine z_bT' (decide_eq_true c) ?_
      repeat (walk_at "z")
      refine z_tyO z2 M.length last_at ?_
      repeat (walk_at "z")
      refine z_prI z2 (s2 _ _ h0) ⟨a, dx, _, _, rfl, z2.sub _ _ (s2 _ _ h0), (by rfl), ?_⟩
      refine ⟨t.many, rfl, by rcases (show t.many = 2 ∨ t.many = 3 by omega) with e | e <;> rw [e] <;> decide +kernel, ?_⟩
      repeat (walk_at "z")
      refine z_newL z2 (by simp) fun l3 G3 H3 z3 s3 e5 => ?_
      repeat (walk_at "z")
      refine z_extLast z3 (z3.sub _ _ e5) (by simp; omega) fun H4 z4 => ?_
      repeat (walk_at "z")
      refine hnx _ _ ⟨G3, ?_, s2.trans s3, rfl⟩
      unfold headW manyW
      rw [if_pos c]
      simpa using z4
    · refine z_bF' (decide_eq_false c) ?_
      repeat (walk_at "z")
      refine hnx _ _ ⟨G2, ?_, s2, rfl⟩
      unfold headW manyW
      rw [if_neg c, List.append_nil]
      exact z2
  obtain ⟨G3, z3, s3, rfl⟩ := h3'
  have i0 := s3 _ _ h0
  repeat (walk_at "z")
  refine z_prI z3 i0 ⟨a, dx, _, _, rfl, z3.sub _ _ i0, (by rfl), ?_⟩
  repeat (walk_at "z")
  refine z_newT z3 (by simp) fun p1 G4 H4 z4 s4 f1 => ?_
  repeat (walk_at "z")
  refine z_prI z4 (s4 _ _ i0) ⟨a, dx, _, _, rfl, z4.sub _ _ (s4 _ _ i0), (by rfl), ?_⟩
  repeat (walk_at "z")
  refine z_newT z4 (by simp) fun p2 G5 H5 z5 s5 f2 => ?_
  repeat (walk_at "z")
  refine z_prI z5 (s5 _ _ (s4 _ _ i0)) ⟨a, dx, _, _, rfl, z5.sub _ _ (s5 _ _ (s4 _ _ i0)), (by rfl), ?_⟩
  repeat (walk_at "z")
  refine z_newT z5 (by simp) fun p3 G6 H6 z6 s6 f3 => ?_
  repeat (walk_at "z")
  refine z_prI z6 (s6 _ _ (s5 _ _ (s4 _ _ i0))) ⟨a, dx, _, _, rfl, z6.sub _ _ (s6 _ _ (s5 _ _ (s4 _ _ i0))), (by rfl), ?_⟩
  repeat (walk_at "z")
  refine z_newT z6 (by simp) fun p4 G7 H7 z7 s7 f4 => ?_
  repeat (walk_at "z")
  refine z_newT z7 (by simp) fun p5 G8 H8 z8 s8 f5 => ?_
  repeat (walk_at "z")
  refine z_anyT ?_
  repeat (walk_at "z")
  refine z_itT z8 (SqT.of f5) ?_
  have s38 := ((((s4.trans s5).trans s6).trans s7).trans s8)
  have s08 := s3.trans s38
  refine for_src src_T (fun i σ G' M' => ∃ k4 k5, M' = M ++ [(wl, .lst ((headW nm t ++ ((listsW t).take i).flatMap fun p => namesW p.1 p.2).map V.str))] ∧ Same G8 G' ∧ σ = [some (.str nm), some (.ref a), some (.ref wl), some (.ref p5), k4, k5]) z8 ⟨_, _, by simp, Same.refl _, rfl⟩
    (fun i σ G' M' H' ⟨_, _, _, s', _⟩ z' => z'.seqT (upT s' (SqT.of f5))) ?_ ?_
  · rintro i x σ G' M' H' hx ⟨k4, k5, rfl, s', rfl⟩ z'
    have hi : i < 4 := (List.getElem?_eq_some_iff.mp hx).1
    have hle := accW_len (nm := nm) gt i
    obtain ⟨pp, ti, l, tp, rfl, hp, hq, hl, gl⟩ : ∃ pp, ∃ ti : Str, ∃ (l : List Str) (tp : Addr), x = .ref pp ∧ G8 pp = some (.tup [.str ti, .ref tp]) ∧ SqT K G8 tp (l.map V.str) ∧ (listsW t)[i]? = some (ti, l) ∧ GoodL l := by
      rcases (show i = 0 ∨ i = 1 ∨ i = 2 ∨ i = 3 by omega) with rfl | rfl | rfl | rfl
      all_goals (obtain rfl := Option.some.inj hx)
      · exact ⟨p1, _, t.l1, t1, rfl, s8 _ _ (s7 _ _ (s6 _ _ (s5 _ _ f1))), upT s08 e1, rfl, gt.g1⟩
      · exact ⟨p2, _, t.l2, t2, rfl, s8 _ _ (s7 _ _ (s6 _ _ f2)), upT s08 e2, rfl, gt.g2⟩
      · exact ⟨p3, _, t.l3, t3, rfl, s8 _ _ (s7 _ _ f3), upT s08 e3, rfl, gt.g3⟩
      · exact ⟨p4, _, t.l4, t4, rfl, s8 _ _ f4, upT s08 e4, rfl, gt.g4⟩
    have esu : (listsW t).take (i + 1) = (listsW t).take i ++ [(ti, l)] := by rw [List.take_add_one, hl]; rfl
    have hg := gl.le
    refine z_gtup z' (SqT.of (s' _ _ hp)) rfl ?_
    repeat (walk_at "z")
    refine z_newT z' (by simp) fun p6 G9 H9 z9 s9 f6 => ?_
    repeat (walk_at "z")
    refine z_neD z9 (d := strsP l) (e := .tuple []) (.tup (upT (s'.trans s9) hq) (dts_str _)) (.tup (SqT.of f6) .nil) (strs_sh gl) (by decide +kernel) ?_
    rw [eqv_nil]
    repeat (walk_at "z")
    by_cases c : l = []
    · rw [decide_eq_true c]
      repeat (walk_at "z")
      refine ⟨G9, _, z9, _, _, ?_, s'.trans s9, rfl⟩
      rw [esu, List.flatMap_append]
      simp [namesW, c]
    · rw [decide_eq_false c]
      repeat (walk_at "z")
      refine z_tyO z9 M.length last_at ?_
      repeat (walk_at "z")
      refine z_stT (z9.seqT (upT (s'.trans s9) hq)) ?_
      repeat (walk_at "z")
      refine z_newL z9 (by simp; omega) fun l7 G10 H10 z10 s10 f7 => ?_
      repeat (walk_at "z")
      refine z_extLast z10 (z10.sub _ _ f7) (by rw [List.length_map]; simp; simp at hle; omega) fun H11 z11 => ?_
      repeat (walk_at "z")
      refine ⟨G10, _, z11, _, _, ?_, (s'.trans s9).trans s10, rfl⟩
      rw [esu, List.flatMap_append]
      simp [namesW, c]
  · rintro σ G' M' H' ⟨k4, k5, rfl, s', rfl⟩ z'
    have hle := accW_len (nm := nm) gt 4
    have e4' : (listsW t).take 4 = listsW t := rfl
    rw [e4'] at hle
    have z2' : Zp G' (M ++ [(wl, .lst ((lineW nm t).map V.str))]) H' := z'
    have hsum := sum_le (len8 gt h3 hn)
    have hle2 : (lineW nm t).length ≤ 250 := hle
    repeat (walk_at "z")
    have zf := z2'.fix
    have fr : G' wl = none := (z2'.own M.length _ _ last_at).2
    refine z_join zf (SqL.of upd_same) (by have e : ((" " : Str)).length = 1 := rfl; rw [e]; omega) ?_
    exact q _ _ zf ((s08.trans s').trans (Same.new fr))
end
end LW
namespace LW
open PySem PySem.Spec PyProof.Rows L2 Ys

/-! ### a book's text -/
def kindW (q : Str × List Str) : List Str := "kind" :: q.1 :: q.2
def kindP (q : Str × List Str) : Str := Txt.join " " (kindW q)
def linesP (B : BkD) : List Str := B.kinds.map kindP ++ B.tasks.map fun q => lineP q.1 q.2
def planP (p : Pl) : Str := "plan " ++ txt p
def bookP (B : BkD) : Str := Txt.join "\n" (linesP B ++ [planP B.plan])
structure GoodB (B : BkD) : Prop where
  k3 : B.kinds.length ≤ 3
  kn : (B.kinds.map (·.1)).Nodup
  kw : ∀ q ∈ B.kinds, wordS q.1 = true ∧ q.2.length ≤ 4 ∧ ∀ s ∈ q.2, wordS s = true
  t8 : B.tasks.length ≤ 8
  tn : (B.tasks.map (·.1)).Nodup
  tw : ∀ q ∈ B.tasks, wordS q.1 = true ∧ GoodT q.2 ∧ q.2.many ≤ 3
theorem join_len (s : Str) : ∀ ts : List Str, (Txt.join s ts).length ≤ (ts.map (·.length)).sum + ts.length * s.length
  | [] => Nat.zero_le _
  | [x] => by
    show (Txt.join s [x]).length ≤ _
    rw [TL.join_eq]
    show x.length ≤ _
    simp
  | x :: y :: r => by
    have ih := join_len s (y :: r)
    rw [TL.join_eq] at ih ⊢
    show (x ++ s ++ Str.join s (y :: r)).length ≤ _
    rw [PySem.Str.length_append, PySem.Str.length_append]
    simp only [List.map_cons, List.sum_cons, List.length_cons, Nat.add_mul, Nat.one_mul] at ih ⊢
    omega
theorem sp1 : ((" " : Str)).length = 1 := rfl
theorem nl1 : (("\n" : Str)).length = 1 := by decide +kernel
theorem kindW_sum {q : Str × List Str} (h : wordS q.1 = true ∧ q.2.length ≤ 4 ∧ ∀ s ∈ q.2, wordS s = true) : ((kindW q).map (·.length)).sum ≤ 48 ∧ (kindW q).length ≤ 6 := by
  obtain ⟨h1, h2, h3⟩ := h
  have hl : (kindW q).length ≤ 6 := by unfold kindW; rw [List.length_cons, List.length_cons]; omega
  refine ⟨Nat.le_trans (sum_le (n := 8) fun s hs => ?_) (Nat.mul_le_mul_right 8 hl), hl⟩
  rcases List.mem_cons.mp hs with rfl | hs
  · decide +kernel
  rcases List.mem_cons.mp hs with rfl | hs
  · exact wordS_len h1
  · exact wordS_len (h3 s hs)
theorem kindP_len {q : Str × List Str} (h : wordS q.1 = true ∧ q.2.length ≤ 4 ∧ ∀ s ∈ q.2, wordS s = true) : (kindP q).length ≤ 54 := by
  obtain ⟨h1, h2⟩ := kindW_sum h
  have := join_len " " (kindW q)
  rw [sp1] at this
  unfold kindP
  omega
theorem lineP_len {nm : Str} {t : TkD} (hn : wordS nm = true) (g : GoodT t) (h3 : t.many ≤ 3) : (lineP nm t).length ≤ 2250 := by
  have h1 := sum_le (len8 g h3 hn)
  have h2 : (lineW nm t).length ≤ 250 := accW_len (nm := nm) g 4
  have := join_len " " (lineW nm t)
  rw [sp1] at this
  unfold lineP
  omega
theorem linesP_len (B : BkD) (g : GoodB B) : (∀ s ∈ linesP B, s.length ≤ 2250) ∧ (linesP B).length ≤ 11 := by
  refine ⟨fun s hs => ?_, ?_⟩
  · rcases List.mem_append.mp hs with hs | hs
    · obtain ⟨q, hq, rfl⟩ := List.mem_map.mp hs
      have := kindP_len (g.kw q hq)
      omega
    · obtain ⟨q, hq, rfl⟩ := List.mem_map.mp hs
      obtain ⟨h1, h2, h3⟩ := g.tw q hq
      exact lineP_len h1 h2 h3
  · unfold linesP
    rw [List.length_append, List.length_map, List.length_map]
    have := g.k3
    have := g.t8
    omega
theorem planP_len {p : Pl} (h : Nms p) (hs : p.sz ≤ 600) : (planP p).length ≤ 7300 := by
  have := txt_len p h
  have e : (("plan " : Str)).length = 5 := rfl
  unfold planP
  rw [len_app]
  omega
theorem kd_at {K : PySem.W.Frag} {G : Hp} {kvs : List (Key × V)} {kn : List (Str × List Str)} {i : Nat} (h : Kdt K G kvs kn) (hi : i < kvs.length) : ∃ nm l a, kvs[i]? = some (.inr nm, .ref a) ∧ kn[i]? = some (nm, l) ∧ SqT K G a (l.map V.str) := by
  obtain ⟨⟨pk, pv'⟩, ⟨qk, qt⟩, h1, h2, e1, a, e2, h3⟩ := pair_at h hi
  have e1 : pk = .inr qk := e1
  have e2 : pv' = .ref a := e2
  subst e1 e2
  exact ⟨qk, qt, a, h1, h2, h3⟩
theorem k_joinG {X : Cx} {K : PySem.W.Frag} {o e : Expr} {to te : TE} {apos pos : Pos} (ho : PE X o to) (he : PE X e te) (q : X.K = K := by rfl) (hs : starEach [e] X.env = [(false, eval e X.env)] := by rfl) (hbase : attributeBase o "join" X.env (eval o X.env) = eval o X.env := by rfl) (hline : (apos.endLine == pos.line) = true := by rfl) :
    PE X (.Call (.Attribute o "join" apos) [e] [] pos) (tM1 (Ys.rJoin K) to te) := q ▸ pe_joinG ho he hs hbase hline
section
variable {P : Program} {w : World} {K : PySem.W.Frag} {mg : Str → Option Value} {base : Heap} {f : Addr} {fd : FuncData} {C CB : Addr}
def spBText (K : PySem.W.Frag) (C CB : Addr) : Sp := fun vs H Q _ => ∃ G M x B, vs = [.ref x] ∧ Zp G M H ∧ BkI K G C CB x B ∧ GoodB B ∧ ∀ G1 H1, Zp G1 M H1 → Same G G1 → Q (.str (bookP B)) H1
theorem ok_btext (T : Nm K mg) (BC : BookC K CB) (C_task_line : Own P w K mg base CX0 3 "task_line" ["name", "task"] (spLine K C)) (C_plan_text : Own P w K mg base CX0 18 "plan_text" ["plan"] (spText K 17))
    (F : FunD K "text" "Book.text" (defArgs s_Book_text) (defBody s_Book_text) (defScope s_Book_text) [] [] f fd) : FnOk P w K mg base CX0 19 f fd ["self"] (spBText K C CB) := by
  have nd : N_Book_text.Nodup := sc_Book_text.nd
  refine F.ok sc_Book_text (fun vs H Q E h => ?_) (fun cdv A outer s H vs Q E hr h => ?_)
  · obtain ⟨G, M, x, B, rfl, _⟩ := h
    rfl
  have hu := hr.units
  refine ⟨_, PSs.nox   (pss_cons (ps_setLc (i := 1) (own := [("kind", 2)]) (tt := tYes) rfl nd rfl rfl (sw_true rfl rfl rfl (by decide +kernel)) (pi_keys (k_fld (K := K) (pv 0) rfl)) (blkOk_by (N := N_Book_text) (sc := defScope s_Book_text) (by decide +kernel)) (fun _ _ _ _ _ => (pg_name (i := 2) nd rfl (by first | exact .inl rfl | exact .inr rfl))) (fun _ _ _ _ _ => pts_nil) (fun _ _ _ _ _ => (k_joinG (K := K) pe_str (pe_op (k_add (K := K)) (pe_tup (pa_cons pe_str (pa_cons (pv 2) pa_nil))) (pe_dget (hu_of hr) (k_fld (K := K) (pv 0) rfl) (pv 2) (fun _ _ => rfl))))))
    (pss_cons (ps_expr (pe_bm PySem.F.plainAttrs_list PySem.F.slot_list_extend PySem.F.type_list_extend (mt_ext2 (K := K)) (pv 1) (pa_cons (pe_lc (own := [("name", 3)]) (tt := tYes) rfl nd (pi_keys (k_fld (K := K) (pv 0) rfl)) (blkOk_by (N := N_Book_text) (sc := defScope s_Book_text) (by decide +kernel)) (fun _ _ _ _ _ => (pg_name (i := 3) nd rfl (by first | exact .inl rfl | exact .inr rfl))) (fun _ _ _ _ _ => pts_nil) (fun _ _ _ _ _ => (pe_own C_task_line (hr.mono (by omega)) (by rfl) pass0 (pa_cons (pv 3) (pa_cons (pe_dget (hu_of hr) (k_fld (K := K) (pv 0) rfl) (pv 3) (fun _ _ => rfl)) pa_nil))))) pa_nil)))
    (pss_one (ps_ret (pe_joinG pe_str (pe_lst (k_star (K := K) (pv 1) (pa_cons (pe_op (k_add (K := K)) pe_str (pe_own C_plan_text (hr.mono (by omega)) (by rfl) pass0 (pa_cons (k_fld (K := K) (pv 0) rfl) pa_nil))) pa_nil)))))))), ?_⟩
  obtain ⟨G, M, x, B, rfl, z, ⟨dx, vp, dk, dt, kk, kt, h0, hp, ⟨ok, hok⟩, hkn, ⟨ot, hot⟩, htn⟩, g, q⟩ := h
  have hlk : kk.length = B.kinds.length := keys_len hkn
  have hlt : kt.length = B.tasks.length := keys_len htn
  have g3 := g.k3
  have g8 := g.t8
  have hkd : (kk.map (·.1)).Nodup := by rw [hkn.keys]; exact inr_nodup g.kn
  have htd : (kt.map (·.1)).Nodup := by rw [htn.keys]; exact inr_nodup g.tn
  repeat (walk_at "z")
  refine z_flI z h0 BC.cl BC.n2 (by rfl) ?_
  refine z_itK z hok ?_
  refine lc_srcO src_K (fun i G' M' acc => M' = M ∧ Same G G' ∧ acc = ((B.kinds.take i).map kindP).map V.str) z ⟨rfl, Same.refl G, by simp⟩ (fun i G' M' M1 acc H' ⟨_, s', _⟩ z' => z'.sub _ _ (s' _ _ hok)) ?_ ?_
  · rintro i y G1 M1 acc Dl H1 hx ⟨rfl, s1, rfl⟩ z1
    have hi : i < kk.length := by
      have := (List.getElem?_eq_some_iff.mp hx).1
      simpa using this
    obtain ⟨nm, l, a, h1, h2, h3⟩ := kd_at hkn hi
    obtain ⟨p, h4, rfl⟩ := key_at hx
    rw [h1] at h4
    obtain rfl := Option.some.inj h4
    have hw := g.kw _ (List.mem_of_getElem? h2)
    obtain ⟨w1, w2⟩ := kindW_sum hw
    have hl4 : l.length ≤ 4 := hw.2.1
    repeat (walk_at "z")
    refine ⟨by rfl, ?_⟩
    repeat (walk_at "z")
    refine z_newT z1 (by simp) fun p2 G2 H2 z2 s2 e2 => ?_
    repeat (walk_at "z")
    refine z_flI z2 ((s1.trans s2) _ _ h0) BC.cl BC.n2 (by rfl) ?_
    repeat (walk_at "z")
    refine z_dgS z2 (FzD.up ⟨ok, hok⟩ (s1.trans s2)) (valV_ix hkd h1) ?_
    refine z_addT z2 (SqT.of e2) (upT (s1.trans s2) h3) (by simp; omega) fun p3 G3 H3 z3 s3 e3 => ?_
    have e3' : SqT K G3 p3 ((kindW (nm, l)).map V.str) := e3
    refine ⟨" ", p3, kindW (nm, l), rfl, rfl, .inr (z3.seqT e3'), by rw [sp1]; exact Nat.le_trans (show _ ≤ 100000 by omega) (by decide), ?_⟩
    refine z_laid z3 (by rw [List.length_map, List.length_map, List.length_take]; omega) ⟨rfl, (s1.trans s2).trans s3, ?_⟩
    rw [List.take_add_one, h2]
    simp [kindP]
  · rintro pl G1 M1 acc H1 ⟨rfl, s1, rfl⟩ z1
    rw [List.length_map, hlk, List.take_length] at z1
    repeat (walk_at "z")
    refine z_tyO z1 M1.length last_at ?_
    repeat (walk_at "z")
    refine z_flI z1 (s1 _ _ h0) BC.cl BC.n3 (by rfl) ?_
    refine z_itK z1 (s1 _ _ hot) ?_
    refine lc_src src_K (fun i G' M' acc => M' = M1 ++ [(pl, .lst ((B.kinds.map kindP).map V.str))] ∧ Same G1 G' ∧ acc = ((B.tasks.take i).map fun q => lineP q.1 q.2).map V.str) z1 ⟨rfl, Same.refl _, by simp⟩ (fun i G' M' M2 acc H' ⟨_, s', _⟩ z' => z'.sub _ _ (s' _ _ (s1 _ _ hot))) ?_ ?_
    · rintro i y G2 M2 acc Dl H2 hx ⟨rfl, s2, rfl⟩ z2
      have hi : i < kt.length := by
        have := (List.getElem?_eq_some_iff.mp hx).1
        simpa using this
      obtain ⟨nm, t, a, h1, h2, h3⟩ := tk_at htn hi
      obtain ⟨p, h4, rfl⟩ := key_at hx
      rw [h1] at h4
      obtain rfl := Option.some.inj h4
      obtain ⟨w1, w2, w3⟩ := g.tw _ (List.mem_of_getElem? h2)
      repeat (walk_at "z")
      refine ⟨by rfl, ?_⟩
      repeat (walk_at "z")
      refine z_flI z2 ((s1.trans s2) _ _ h0) BC.cl BC.n3 (by rfl) ?_
      repeat (walk_at "z")
      refine z_dgS z2 (FzD.up ⟨ot, hot⟩ (s1.trans s2)) (valV_ix htd h1) ?_
      repeat (walk_at "z")
      refine ⟨G2, _, nm, a, t, rfl, z2, h3.up (s1.trans s2), w2, w1, w3, fun G3 H3 z3 s3 => ?_⟩
      refine z_laid z3 (by rw [List.length_map, List.length_map, List.length_take]; omega) ⟨rfl, s2.trans s3, ?_⟩
      rw [List.take_add_one, h2]
      simp
    · rintro p2 G2 M2 acc G3 H3 ⟨rfl, s2, rfl⟩ s3 z3 e3
      rw [List.length_map, hlt, List.take_length] at e3
      repeat (walk_at "z")
      refine z_extLast z3 (z3.sub _ _ e3) (by rw [List.length_map, List.length_map, List.length_map, List.length_map]; omega) fun H4 z4 => ?_
      rw [← List.map_append] at z4
      have z4 : Zp G3 (M1 ++ [(pl, .lst ((linesP B).map V.str))]) H4 := z4
      have s13 := (s1.trans s2).trans s3
      obtain ⟨l1, l2⟩ := linesP_len B g
      have l3 := planP_len (Ok.nms _ _ hp.ok) hp.sz
      repeat (walk_at "z")
      refine z_stL (SqL.of (z4.at_ M1.length last_at)) ?_
      repeat (walk_at "z")
      refine z_flI z4 (s13 _ _ h0) BC.cl BC.n1 (by rfl) ?_
      repeat (walk_at "z")
      refine c_text (hp.up s13) z4 fun G5 H5 z5 s5 => ?_
      refine z_addS (by have e : (("plan " : Str)).length = 5 := rfl; unfold planP at l3; rw [len_app] at l3; exact Nat.le_trans l3 (by decide)) ?_
      repeat (walk_at "z")
      refine z_newL z5 (by simp; omega) fun p6 G6 H6 z6 s6 e6 => ?_
      repeat (walk_at "z")
      have e6' : G6 p6 = some (.lst ((linesP B ++ [planP B.plan]).map V.str)) := by rw [List.map_append]; exact e6
      refine z_join z6 (SqL.of e6') ?_ ?_
      · have h1 := sum_le l1
        rw [List.map_append, List.sum_append, List.length_append, nl1]
        simp only [List.map_cons, List.map_nil, List.sum_cons, List.sum_nil, List.length_cons, List.length_nil]
        have h2 := Nat.mul_le_mul_right 2250 l2
        omega
      · have z7 : Zp G6 (M1 ++ [(pl, .lst ((linesP B).map V.str))]) H6 := z6
        exact q _ _ z7.cut ((s13.trans s5).trans s6)
end
end LW
namespace LW
open PySem PySem.Spec PyProof.Rows L2 Ys

/-! ### an own == -/
structure EqC (P : Program) (w : World) (K : PySem.W.Frag) (mg : Str → Option Value) (base : Heap) (CX : CXT) (k : Nat) (C : Addr) (sp : Sp) : Prop where
  ex : ∃ f fd ps, FnOk P w K mg base CX k f fd ps sp ∧ PySem.W.findIn K (.ref C) "__eq__" = some (some (.ref f)) ∧ PySem.W.isFn K (.ref f) = true ∧ Binds K fd ps []
  ne : PySem.W.findIn K (.ref C) "__ne__" = some (some (.builtin "object.__ne__"))
  hm : PySem.W.mroIn K C (.type "object") = some true
section
variable {X : Cx} {K : PySem.W.Frag} {CX : CXT} {k : Nat} {C : Addr} {sp : Sp} {E : XK}
def rEq2 (K : PySem.W.Frag) (C : Addr) (sp : Sp) (E : XK) : R2 := fun x y H Q => Ys.rEqG K x y H Q ∨ rEqI K C sp E x y H Q
def rNe2 (K : PySem.W.Frag) (C : Addr) (sp : Sp) (E : XK) : R2 := fun x y H Q => rNeG K x y H Q ∨ rNeI K C sp E x y H Q
theorem e_eq (EQ : EqC X.prog X.w X.K X.mg X.base CX k C sp) (hu : X.A.units + 64 < cLine) (hr : Room k X.A) (hx : Passes CX X E) (e : X.K = K := by rfl) : OpR X (compareOp .Eq) (rEq2 K C sp E) := by
  subst e
  obtain ⟨f, fd, ps, F, h1, h2, h3⟩ := EQ.ex
  exact (k_eq hu).or (op_eqI F h1 h2 h3 hx hr)
theorem e_ne (EQ : EqC X.prog X.w X.K X.mg X.base CX k C sp) (hu : X.A.units + 64 < cLine) (hr : Room (k + 1) X.A) (hx : Passes CX X E) (e : X.K = K := by rfl) : OpR X (compareOp .NotEq) (rNe2 K C sp E) := by
  subst e
  obtain ⟨f, fd, ps, F, h1, h2, h3⟩ := EQ.ex
  exact (k_ne hu).or (op_neI F h1 EQ.ne EQ.hm h2 h3 hx hr)
end
/-! ### == of books -/
def RTk (K : PySem.W.Frag) (C : Addr) : Addr → Addr → Hp → Prop := fun a b H => ∃ t, TkI K H C a t ∧ TkI K H C b t ∧ GoodT t
theorem rtk_mon {K : PySem.W.Frag} {C : Addr} : ∀ a b H H', Ext H H' → RTk K C a b H → RTk K C a b H' := fun a b H H' e ⟨t, h1, h2, g⟩ => ⟨t, TkI.up e h1, TkI.up e h2, g⟩
theorem zp_self (H : Hp) : Zp H [] H := ⟨fun _ _ h => h, fun i p o e => by simp at e, List.nodup_nil⟩
theorem spEq_task {K : PySem.W.Frag} {C : Addr} {vs : List V} {H : Hp} {Q : VK} {E : XK} (h : spEq (RTk K C) vs H Q E) : spEqT K C vs H Q E := by
  obtain ⟨a, b, rfl, ⟨t, h1, h2, g⟩, q⟩ := h
  refine ⟨H, [], a, t, .ref b, rfl, zp_self H, h1, g, .inl ⟨b, t, rfl, h2, g, fun G1 H1 z1 s1 => ?_⟩⟩
  rw [SeqAt.eqv_refl _ (SeqAt.canLay_of_shaped ((fin_like g).sh (by decide)))]
  exact q H1 fun x o e => z1.sub x o (s1 x o e)
theorem task_eq {X : Cx} {C : Addr} (EQ : EqC X.prog X.w X.K X.mg X.base CX0 2 C (spEqT X.K C)) : EqG X 2 (DIns C (RTk X.K C)) := by
  obtain ⟨f, fd, ps, F, h1, h2, h3⟩ := EQ.ex
  exact eqG_ins (F.imp fun vs H Q E h => spEq_task h) h1 h2 h3 (pass0 : Passes CX0 X E0)
def D3 (K : PySem.W.Frag) (C : Addr) : Eqv := fun x y H => (DDict (DData K) x y H ∨ DDict (DIns C (RTk K C)) x y H) ∨ DData K x y H
theorem rc_book {X : Cx} {C : Addr} (EQ : EqC X.prog X.w X.K X.mg X.base CX0 2 C (spEqT X.K C)) : RcG X 4 (DTup X.K (D3 X.K C)) := by
  have m1 : Mon (DDict (DData X.K)) := mon_dict mon_data
  have m2 : Mon (DDict (DIns C (RTk X.K C))) := mon_dict (mon_ins rtk_mon)
  exact rcG_tup (D := D3 X.K C) (Mon.or (Mon.or m1 m2) mon_data) (EqG.or (EqG.or ((eqG_dict mon_data eqG_data).mono (by omega)) (eqG_dict (mon_ins rtk_mon) (task_eq EQ))) (eqG_data.mono (by omega)))
theorem k_eqBk {X : Cx} {K : PySem.W.Frag} {C : Addr} (EQ : EqC X.prog X.w X.K X.mg X.base CX0 2 C (spEqT X.K C)) (hr : Room 4 X.A) (e : X.K = K := by rfl) : OpR X (compareOp .Eq) (L2.rEqG (DTup K (D3 K C))) := by
  subst e
  exact L2.op_eqG (rc_book EQ) hr
theorem dk_kinds {K : PySem.W.Frag} {G G' H : Hp} {M : List (Addr × HO)} {a b : Addr} {ks ls : List (Key × V)} {kn : List (Str × List Str)} (z : Zp G M H) (h1 : FzD G a ks) (h2 : Kdt K G ks kn) (h3 : FzD G b ls) (h4 : Kdt K G ls kn) (nd : (kn.map (·.1)).Nodup) (gl : ∀ q ∈ kn, GoodL q.2) : DDict (DData K) (.ref a) (.ref b) H := by
  obtain ⟨oa, ea⟩ := h1
  obtain ⟨ob, eb⟩ := h3
  have l1 : ks.length = kn.length := keys_len h2
  have l2 : ls.length = kn.length := keys_len h4
  refine ⟨a, b, oa, ob, ks, ls, rfl, rfl, z.sub _ _ ea, z.sub _ _ eb, by omega, fun i p hp => ?_⟩
  have hi : i < ks.length := (List.getElem?_eq_some_iff.mp hp).1
  obtain ⟨nm, l, x, e1, e2, e3⟩ := kd_at h2 hi
  obtain ⟨nm', l', x', f1, f2, f3⟩ := kd_at h4 (show i < ls.length by omega)
  rw [e2] at f2
  obtain ⟨rfl, rfl⟩ : nm = nm' ∧ l = l' := by simpa using f2
  rw [e1] at hp
  obtain rfl := Option.some.inj hp
  have g := strs_sh (gl _ (List.mem_of_getElem? e2))
  refine ⟨.ref x', valV_ix (by rw [h4.keys]; exact inr_nodup nd) f1, strsP l, ?_, ?_, g, SeqAt.eqv_refl _ (SeqAt.canLay_of_shaped g)⟩
  · exact Dt.dp _ _ (SeqAt.canLay_of_shaped g) (z.dt (.tup e3 (dts_str _)))
  · exact Dt.dp _ _ (SeqAt.canLay_of_shaped g) (z.dt (.tup f3 (dts_str _)))
theorem dk_tasks {K : PySem.W.Frag} {G H : Hp} {M : List (Addr × HO)} {a b C : Addr} {ks ls : List (Key × V)} {tn : List (Str × TkD)} (z : Zp G M H) (h1 : FzD G a ks) (h2 : Tks K G C ks tn) (h3 : FzD G b ls) (h4 : Tks K G C ls tn) (nd : (tn.map (·.1)).Nodup) (gl : ∀ q ∈ tn, GoodT q.2) : DDict (DIns C (RTk K C)) (.ref a) (.ref b) H := by
  obtain ⟨oa, ea⟩ := h1
  obtain ⟨ob, eb⟩ := h3
  have l1 : ks.length = tn.length := keys_len h2
  have l2 : ls.length = tn.length := keys_len h4
  refine ⟨a, b, oa, ob, ks, ls, rfl, rfl, z.sub _ _ ea, z.sub _ _ eb, by omega, fun i p hp => ?_⟩
  have hi : i < ks.length := (List.getElem?_eq_some_iff.mp hp).1
  obtain ⟨nm, t, x, e1, e2, e3⟩ := tk_at h2 hi
  obtain ⟨nm', t', x', f1, f2, f3⟩ := tk_at h4 (show i < ls.length by omega)
  rw [e2] at f2
  obtain ⟨rfl, rfl⟩ : nm = nm' ∧ t = t' := by simpa using f2
  rw [e1] at hp
  obtain rfl := Option.some.inj hp
  obtain ⟨dx, fs, ex⟩ := e3.obj
  obtain ⟨dy, gs, ey⟩ := f3.obj
  exact ⟨.ref x', valV_ix (by rw [h4.keys]; exact inr_nodup nd) f1, x, x', dx, dy, fs, gs, rfl, rfl, z.sub _ _ ex, z.sub _ _ ey, t, TkI.up z.sub e3, TkI.up z.sub f3, gl _ (List.mem_of_getElem? e2)⟩
theorem good_kl {B : BkD} (g : GoodB B) : ∀ q ∈ B.kinds, GoodL q.2 := fun q hq => ⟨(fun s hs => (g.kw q hq).2.2 s hs), by have := (g.kw q hq).2.1; omega⟩
section
variable {P : Program} {w : World} {K : PySem.W.Frag} {mg : Str → Option Value} {base : Heap} {f : Addr} {fd : FuncData} {C CB CI : Addr}
def spBEq (K : PySem.W.Frag) (C CB : Addr) : Sp := fun vs H Q _ => ∃ G M x y B, vs = [.ref x, .ref y] ∧ Zp G M H ∧ BkI K G C CB x B ∧ BkI K G C CB y B ∧ GoodB B ∧ ∀ G1 H1, Zp G1 M H1 → Same G G1 → Q (.bl true) H1
theorem ok_beq (T : Nm K mg) (BC : BookC K CB) (TT : TaskT K CB) (g_Book : mg "Book" = some (.ref CB)) (EQ : EqC P w K mg base CX0 2 C (spEqT K C)) (F : FunD K "__eq__" "Book.__eq__" (defArgs s_Book_eq) (defBody s_Book_eq) (defScope s_Book_eq) [] [] f fd) :
    FnOk P w K mg base CX0 5 f fd ["self", "other"] (spBEq K C CB) := by
  have nd : N_Book_eq.Nodup := sc_Book_eq.nd
  refine F.ok sc_Book_eq (fun vs H Q E h => ?_) (fun cdv A outer s H vs Q E hr h => ?_)
  · obtain ⟨G, M, x, y, B, rfl, _⟩ := h
    rfl
  have hu := hr.units
  refine ⟨_, PSs.nox   (pss_cons (ps_if (pt_not (pt_val (pe_callB (kc_isi (K := K)) (by rfl) T.b_isinstance boot_isinstance (pa_cons (pv 1) (pa_cons (pe_glob (v := .ref CB) (by rfl) g_Book rfl) pa_nil))))) (pss_one (ps_ret pe_bl)) pss_nil)
    (pss_cons (ps_asg (pe_tup (pa_cons (k_fld (K := K) (pv 0) rfl) (pa_cons (k_fld (K := K) (pv 0) rfl) (pa_cons (k_fld (K := K) (pv 0) rfl) pa_nil)))) (pg_name (i := 2) nd rfl (by first | exact .inl rfl | exact .inr rfl)))
    (pss_one (ps_ret (pe_cmpR (k_eqBk EQ (hr.mono (by omega))) (pv 2) (pe_tup (pa_cons (k_fld (K := K) (pv 1) rfl) (pa_cons (k_fld (K := K) (pv 1) rfl) (pa_cons (k_fld (K := K) (pv 1) rfl) pa_nil)))) (nomark _)))))), ?_⟩
  obtain ⟨G, M, x, y, B, rfl, z, ⟨dx, vp, dk, dt, kk, kt, h0, hp, hok, hkn, hot, htn⟩, ⟨dx', vp', dk', dt', kk', kt', h0', hp', hok', hkn', hot', htn'⟩, g, q⟩ := h
  repeat (walk_at "z")
  refine z_isi (.own CB) (TT.ty (z.sub _ _ h0')) (if_pos (by simp)) ?_
  repeat (walk_at "z")
  refine z_flI z h0 BC.cl BC.n2 (by rfl) ?_
  repeat (walk_at "z")
  refine z_flI z h0 BC.cl BC.n3 (by rfl) ?_
  repeat (walk_at "z")
  refine z_flI z h0 BC.cl BC.n1 (by rfl) ?_
  repeat (walk_at "z")
  refine z_newT z (by simp) fun p1 G1 H1 z1 s1 e1 => ?_
  repeat (walk_at "z")
  refine z_flI z1 (s1 _ _ h0') BC.cl BC.n2 (by rfl) ?_
  repeat (walk_at "z")
  refine z_flI z1 (s1 _ _ h0') BC.cl BC.n3 (by rfl) ?_
  repeat (walk_at "z")
  refine z_flI z1 (s1 _ _ h0') BC.cl BC.n1 (by rfl) ?_
  repeat (walk_at "z")
  refine z_newT z1 (by simp) fun p2 G2 H2 z2 s2 e2 => ?_
  have s02 := s1.trans s2
  have nms := Ok.nms _ _ hp.ok
  have sh := pd_shaped nms (by have := hp.dp; omega)
  have dd := SeqAt.canLay_of_shaped sh
  refine ⟨⟨p1, p2, _, _, rfl, rfl, z2.seqT (SqT.of (s2 _ _ e1)), z2.seqT (SqT.of e2), Prs.cons (.inl (.inl (dk_kinds (G' := G) z2 (hok.up s02) (hkn.up s02) (hok'.up s02) (hkn'.up s02) g.kn (good_kl g)))) (Prs.cons (.inl (.inr (dk_tasks z2 (hot.up s02) (htn.up s02) (hot'.up s02) (htn'.up s02) g.tn fun q hq => (g.tw q hq).2.1))) (Prs.cons (.inr ⟨_, Dt.dp _ _ dd (z2.dt (hp.dt.up s02)), Dt.dp _ _ dd (z2.dt (hp'.dt.up s02)), sh, SeqAt.eqv_refl _ dd⟩) Prs.nil))⟩, fun H3 e3 => ?_⟩
  exact q G2 H3 (z2.ext e3) s02
end
end LW
namespace LW
open PySem PySem.Spec PyProof.Rows L2 Ys

/-! ### what books tell -/
theorem z_notInT {K : PySem.W.Frag} {G H : Hp} {M : List (Addr × HO)} {a : Addr} {x : Str} {l : List Str} {Q : VK} (z : Zp G M H) (h : SqT K G a (l.map V.str)) (q : Q (.bl (!decide (x ∈ l))) H) : rInG K true (.str x) (.ref a) H Q :=
  .inr ⟨a, _, rfl, .inr (z.seqT h), rfl, flat_strs l, by rw [inV_strs]; exact q⟩
theorem z_flL {K : PySem.W.Frag} {G H : Hp} {M : List (Addr × HO)} {a C dx : Addr} {fs : List (Str × V)} {fl : Str} {v : V} {Q : VK} (z : Zp G (M ++ [(a, .ins C dx fs)]) H) (c : Cls K C) (n : NoAttr K C fl) (l : fs.lookup fl = some v) (q : Q v H) : FlW K fl (.ref a) H Q := ⟨a, C, dx, fs, v, rfl, z.at_ M.length last_at, c, n, l, q⟩
theorem len_putK (kvs : List (Key × V)) (k : Key) (v : V) : (putK kvs k v).length ≤ kvs.length + 1 := by
  unfold putK
  split
  · rw [List.length_map]; omega
  · rw [List.length_append]; simp
def PsetW (C : Addr) (sp : Sp) (E : XK) (D : Ends) (σ : L2.St) (y x : V) (H2 : Hp) : Prop := ∃ c dx fs, x = .ref c ∧ H2 c = some (.ins C dx fs) ∧ sp [x, y] H2 (fun _ H3 => D.nx σ H3) E
theorem z_pset {C : Addr} {sp : Sp} {E : XK} {ta tv : TE} {D : Ends} {σ : L2.St} {H : Hp} (h : tv σ H fun y H1 => ta σ H1 fun x H2 => PsetW C sp E D σ y x H2) : sPset C sp E ta tv D σ H := h
def ItW (C : Addr) (sp : Sp) (E : XK) (x y : V) (H : Hp) (Q : VK) : Prop := rItI C sp E x y H Q
section
variable {P : Program} {w : World} {K : PySem.W.Frag} {mg : Str → Option Value} {base : Heap} {f : Addr} {fd : FuncData} {C CB CS CI : Addr}
def spBPlan (K : PySem.W.Frag) (C CB : Addr) : Sp := fun vs H Q _ => ∃ G M x B, vs = [.ref x] ∧ Zp G M H ∧ BkI K G C CB x B ∧ ∀ v, PV K G (B.tasks.map (·.1)) v B.plan → Q v H
theorem ok_bplan (BC : BookC K CB) (F : FunD K "plan" "Book.plan" (defArgs s_Book_plan) (defBody s_Book_plan) (defScope s_Book_plan) [] [] f fd) :
    FnOk P w K mg base CX0 1 f fd ["self"] (spBPlan K C CB) := by
  have nd : N_Book_plan.Nodup := sc_Book_plan.nd
  refine F.ok sc_Book_plan (fun vs H Q E h => ?_) (fun cdv A outer s H vs Q E hr h => ?_)
  · obtain ⟨G, M, x, B, rfl, _⟩ := h
    rfl
  refine ⟨_, PSs.nox   (pss_one (ps_ret (k_fld (K := K) (pv 0) rfl))), ?_⟩
  obtain ⟨G, M, x, B, rfl, z, ⟨dx, vp, dk, dt, kk, kt, h0, hp, hok, hkn, hot, htn⟩, q⟩ := h
  repeat (walk_at "z")
  refine z_flI z h0 BC.cl BC.n1 (by rfl) ?_
  exact q vp hp
def spBKinds (K : PySem.W.Frag) (C CB : Addr) : Sp := fun vs H Q _ => ∃ G M x B, vs = [.ref x] ∧ Zp G M H ∧ BkI K G C CB x B ∧ ∀ p kk G1 H1, Zp G1 M H1 → Same G G1 → FzD G1 p kk → Kdt K G1 kk B.kinds → Q (.ref p) H1
theorem ok_bkinds (T : Nm K mg) (BC : BookC K CB) (F : FunD K "kinds" "Book.kinds" (defArgs s_Book_kinds) (defBody s_Book_kinds) (defScope s_Book_kinds) [] [] f fd) :
    FnOk P w K mg base CX0 1 f fd ["self"] (spBKinds K C CB) := by
  have nd : N_Book_kinds.Nodup := sc_Book_kinds.nd
  refine F.ok sc_Book_kinds (fun vs H Q E h => ?_) (fun cdv A outer s H vs Q E hr h => ?_)
  · obtain ⟨G, M, x, B, rfl, _⟩ := h
    rfl
  refine ⟨_, PSs.nox   (pss_one (ps_ret (pe_frz (pe_callTy c_dictD (by rfl) T.b_dict boot_dict (pa_cons (k_fld (K := K) (pv 0) rfl) pa_nil))))), ?_⟩
  obtain ⟨G, M, x, B, rfl, z, ⟨dx, vp, dk, dt, kk, kt, h0, hp, hok, hkn, hot, htn⟩, q⟩ := h
  repeat (walk_at "z")
  refine z_flI z h0 BC.cl BC.n2 (by rfl) ?_
  repeat (walk_at "z")
  refine z_dictD z hok fun p H1 z1 => ?_
  refine z_frzL z1 fun G2 H2 z2 s2 f2 => ?_
  exact q p kk G2 H2 z2 s2 f2 (hkn.up s2)
def spBNames (K : PySem.W.Frag) (C CB : Addr) : Sp := fun vs H Q _ => ∃ G M x B, vs = [.ref x] ∧ Zp G M H ∧ BkI K G C CB x B ∧ ∀ p G1 H1, Zp G1 M H1 → Same G G1 → SqT K G1 p ((B.tasks.map (·.1)).map V.str) → Q (.ref p) H1
theorem keys_str {kt : List (Key × V)} {l : List Str} (h : kt.map (·.1) = l.map .inr) : (kt.map fun q => kV q.1) = l.map V.str := by
  have e : (kt.map fun q => kV q.1) = (kt.map (·.1)).map kV := by rw [List.map_map]; rfl
  rw [e, h, List.map_map]
  rfl
theorem ok_bnames (T : Nm K mg) (BC : BookC K CB) (F : FunD K "names" "Book.names" (defArgs s_Book_names) (defBody s_Book_names) (defScope s_Book_names) [] [] f fd) :
    FnOk P w K mg base CX0 1 f fd ["self"] (spBNames K C CB) := by
  have nd : N_Book_names.Nodup := sc_Book_names.nd
  refine F.ok sc_Book_names (fun vs H Q E h => ?_) (fun cdv A outer s H vs Q E hr h => ?_)
  · obtain ⟨G, M, x, B, rfl, _⟩ := h
    rfl
  refine ⟨_, PSs.nox   (pss_one (ps_ret (pe_callTy (kc_tupK (K := K) rfl) (by rfl) T.b_tuple boot_tuple (pa_cons (k_fld (K := K) (pv 0) rfl) pa_nil)))), ?_⟩
  obtain ⟨G, M, x, B, rfl, z, ⟨dx, vp, dk, dt, kk, kt, h0, hp, hok, hkn, hot, htn⟩, q⟩ := h
  repeat (walk_at "z")
  refine z_flI z h0 BC.cl BC.n3 (by rfl) ?_
  refine z_tupK z hot fun p G1 H1 z1 s1 e1 => ?_
  rw [keys_str htn.keys] at e1
  exact q p G1 H1 z1 s1 e1
def spBRem (K : PySem.W.Frag) (C CB : Addr) : Sp := fun vs H Q _ => ∃ G M x B, vs = [.ref x] ∧ Zp G M H ∧ BkI K G C CB x B ∧ (condL B.tasks).length < 64 ∧ ∀ p G1 H1, Zp G1 M H1 → Same G G1 → SqT K G1 p ((remP B.tasks).map V.str) → Q (.ref p) H1
theorem ok_brem (T : Nm K mg) (BC : BookC K CB) (C_remembered_in : Own P w K mg base CX0 3 "remembered_in" ["tasks"] (spRem K C)) (F : FunD K "remembered" "Book.remembered" (defArgs s_Book_remembered) (defBody s_Book_remembered) (defScope s_Book_remembered) [] [] f fd) :
    FnOk P w K mg base CX0 4 f fd ["self"] (spBRem K C CB) := by
  have nd : N_Book_remembered.Nodup := sc_Book_remembered.nd
  refine F.ok sc_Book_remembered (fun vs H Q E h => ?_) (fun cdv A outer s H vs Q E hr h => ?_)
  · obtain ⟨G, M, x, B, rfl, _⟩ := h
    rfl
  refine ⟨_, PSs.nox   (pss_one (ps_ret (pe_own C_remembered_in (hr.mono (by omega)) (by rfl) pass0 (pa_cons (k_fld (K := K) (pv 0) rfl) pa_nil)))), ?_⟩
  obtain ⟨G, M, x, B, rfl, z, ⟨dx, vp, dk, dt, kk, kt, h0, hp, hok, hkn, hot, htn⟩, hc, q⟩ := h
  repeat (walk_at "z")
  refine z_flI z h0 BC.cl BC.n3 (by rfl) ?_
  repeat (walk_at "z")
  exact ⟨G, M, dt, kt, B.tasks, rfl, z, hot, htn, hc, q⟩
def spBItem (K : PySem.W.Frag) (C CB : Addr) : Sp := fun vs H Q _ => ∃ G M x B nm t, vs = [.ref x, .str nm] ∧ Zp G M H ∧ BkI K G C CB x B ∧ (nm, t) ∈ B.tasks ∧ (B.tasks.map (·.1)).Nodup ∧ ∀ a G1 H1, Zp G1 M H1 → Same G G1 → TkI K G1 C a t → Q (.ref a) H1
theorem ok_bitem (T : Nm K mg) (BC : BookC K CB) (R_names : Prp P w K mg base CX0 1 CB "names" (spBNames K C CB)) (F : FunD K "__getitem__" "Book.__getitem__" (defArgs s_Book_getitem) (defBody s_Book_getitem) (defScope s_Book_getitem) [] [] f fd) :
    FnOk P w K mg base CX0 3 f fd ["self", "name"] (spBItem K C CB) := by
  have nd : N_Book_getitem.Nodup := sc_Book_getitem.nd
  refine F.ok sc_Book_getitem (fun vs H Q E h => ?_) (fun cdv A outer s H vs Q E hr h => ?_)
  · obtain ⟨G, M, x, B, nm, t, rfl, _⟩ := h
    rfl
  refine ⟨_, PSs.nox   (pss_cons (ps_if (pt_cmpR (k_notIn (K := K)) (pv 1) (pe_pr R_names (hr.mono (by decide)) pass0 (pv 0)) (by rfl)) (pss_one ps_never) pss_nil)
    (pss_one (ps_ret (pe_dget (hu_of hr) (k_fld (K := K) (pv 0) rfl) (pv 1) (fun _ _ => rfl))))), ?_⟩
  obtain ⟨G, M, x, B, nm, t, rfl, z, hB, hm, hnd, q⟩ := h
  obtain ⟨dx, vp, dk, dt, kk, kt, h0, hp, hok, hkn, hot, htn⟩ := id hB
  repeat (walk_at "z")
  refine z_prI z h0 ?_
  refine ⟨G, M, x, B, rfl, z, hB, fun p G1 H1 z1 s1 e1 => ?_⟩
  repeat (walk_at "z")
  refine z_notInT z1 e1 ?_
  rw [decide_eq_true (List.mem_map.mpr ⟨(nm, t), hm, rfl⟩)]
  repeat (walk_at "z")
  refine z_flI z1 (s1 _ _ h0) BC.cl BC.n3 (by rfl) ?_
  obtain ⟨i, hi, ei⟩ := List.getElem_of_mem hm
  have ei : B.tasks[i]? = some (nm, t) := by rw [List.getElem?_eq_getElem hi, ei]
  have hl : kt.length = B.tasks.length := keys_len htn
  obtain ⟨nm', t', a, f1, f2, f3⟩ := tk_at htn (show i < kt.length by omega)
  rw [ei] at f2
  obtain ⟨rfl, rfl⟩ : nm = nm' ∧ t = t' := by simpa using f2
  repeat (walk_at "z")
  refine z_dgS z1 (hot.up s1) (valV_ix (by rw [htn.keys]; exact inr_nodup hnd) f1) ?_
  exact q a G1 H1 z1 s1 (f3.up s1)
/-! ### set_plan -/
def spPSet (K : PySem.W.Frag) (C CB : Addr) : Sp := fun vs H Q _ => ∃ G M x dx fs B v p, vs = [.ref x, v] ∧ Zp G (M ++ [(x, .ins CB dx fs)]) H ∧ BkF K G C fs B ∧ PV K G (B.tasks.map (·.1)) v p ∧
  ∀ fs' G1 H1, Zp G1 (M ++ [(x, .ins CB dx fs')]) H1 → Same G G1 → BkF K G1 C fs' ⟨B.kinds, B.tasks, nf p⟩ → Q .non H1
theorem ok_pset (T : Nm K mg) (BC : BookC K CB) (C_plan_for : Own P w K mg base CX0 21 "plan_for" ["plan", "tasks"] (spPlanFor K)) (F : FunD K "plan" "Book.plan" (defArgs s_Book_plan_set) (defBody s_Book_plan_set) (defScope s_Book_plan_set) [] [] f fd) :
    FnOk P w K mg base CX0 22 f fd ["self", "plan"] (spPSet K C CB) := by
  have nd : N_Book_plan_set.Nodup := sc_Book_plan_set.nd
  refine F.ok sc_Book_plan_set (fun vs H Q E h => ?_) (fun cdv A outer s H vs Q E hr h => ?_)
  · obtain ⟨G, M, x, dx, fs, B, v, p, rfl, _⟩ := h
    rfl
  refine ⟨_, PSs.nox   (pss_one (ps_fld (pv 0) (pe_own C_plan_for (hr.mono (by omega)) (by rfl) pass0 (pa_cons (pv 1) (pa_cons (k_fld (K := K) (pv 0) rfl) pa_nil))) rfl)), ?_⟩
  obtain ⟨G, M, x, dx, fs, B, v, p, rfl, z, ⟨vp, dk, dt, kk, kt, rfl, hp, hok, hkn, hot, htn⟩, hv, q⟩ := h
  repeat (walk_at "z")
  refine z_flL z BC.cl BC.n3 (by rfl) ?_
  repeat (walk_at "z")
  refine ⟨G, _, v, dt, kt, B.tasks.map (·.1), p, rfl, z, hv, hot, htn.keys, fun v' G1 H1 z1 s1 hv1 => ?_⟩
  repeat (walk_at "z")
  refine z_fsL z1 BC.cl BC.n1 (by simp) fun H2 z2 => ?_
  repeat (walk_at "z")
  exact q _ G1 H2 z2 s1 ⟨v', dk, dt, kk, kt, rfl, hv1, hok.up s1, hkn.up s1, hot.up s1, htn.up s1⟩
structure PSetC (P : Program) (w : World) (K : PySem.W.Frag) (mg : Str → Option Value) (base : Heap) (C CB : Addr) : Prop where
  ex : ∃ g fd, PropSet K CB "plan" g ∧ FnOk P w K mg base CX0 22 g fd ["self", "plan"] (spPSet K C CB) ∧ Binds K fd ["self", "plan"] []
/-! ### the first stand -/
structure SceneC (K : PySem.W.Frag) (C : Addr) : Prop where
  cl : Cls K C
  n1 : NoAttr K C "own_plan"
  n2 : NoAttr K C "own_roles"
  n3 : NoAttr K C "own_kinds"
  n4 : NoAttr K C "own_remembered"
  n5 : NoAttr K C "own_tasks"
structure ItemC (P : Program) (w : World) (K : PySem.W.Frag) (mg : Str → Option Value) (base : Heap) (C CB : Addr) : Prop where
  ex : ∃ f fd, FnOk P w K mg base CX0 3 f fd ["self", "name"] (spBItem K C CB) ∧ PySem.W.findIn K (.ref CB) "__getitem__" = some (some (.ref f)) ∧ PySem.W.fnIn K f = true ∧ PySem.W.isFn K (.ref f) = true ∧ Binds K fd ["self", "name"] []
def spScene (K : PySem.W.Frag) (C CB CS : Addr) : Sp := fun vs H Q _ => ∃ G M x dx y B, vs = [.ref x, .ref y] ∧ Zp G (M ++ [(x, .ins CS dx [])]) H ∧ BkI K G C CB y B ∧ (condL B.tasks).length < 64 ∧ (B.tasks.map (·.1)).Nodup ∧ B.tasks.length ≤ 60 ∧
  ∀ vp fs G1 H1, List.lookup ("first" : Str) ((("own_plan" : Str), vp) :: fs) = none → Zp G1 (M ++ [(x, .ins CS dx (("own_plan", vp) :: fs))]) H1 → Same G G1 → PV K G1 (B.tasks.map (·.1)) vp B.plan → Q .non H1
def standD (p : Pl) : PyData := .tuple [p.d, .tuple []]
def spFirst (K : PySem.W.Frag) (CS : Addr) : Sp := fun vs H Q _ => ∃ G M x dx ns vp fs p, vs = [.ref x] ∧ Zp G M H ∧ G x = some (.ins CS dx (("own_plan", vp) :: fs)) ∧ PV K G ns vp p ∧ ∀ l G1 H1, Zp G1 M H1 → Same G G1 → Dt K G1 (.ref l) (standD p) → Q (.ref l) H1
def spFst (K : PySem.W.Frag) (C CB : Addr) : Sp := fun vs H Q _ => ∃ G M y B, vs = [.ref y] ∧ Zp G M H ∧ BkI K G C CB y B ∧ (condL B.tasks).length < 64 ∧ (B.tasks.map (·.1)).Nodup ∧ B.tasks.length ≤ 60 ∧ ∀ l G1 H1, Zp G1 M H1 → Same G G1 → Dt K G1 (.ref l) (standD B.plan) → Q (.ref l) H1
end
end LW
namespace LW
open PySem PySem.Spec PyProof.Rows L2 Ys

/-! ### books whose dicts are new -/
theorem none_of {G G1 : Hp} {a : Addr} (s : Same G G1) (h : G1 a = none) : G a = none := by
  cases e : G a with
  | none => rfl
  | some o => rw [s _ _ e] at h; cases h
def BkN (K : PySem.W.Frag) (G0 G : Hp) (C : Addr) (fs : List (Str × V)) (B : BkD) : Prop := ∃ vp dk dt kk kt, fs = [(("own_plan" : Str), vp), (("own_kinds" : Str), V.ref dk), (("own_tasks" : Str), V.ref dt)] ∧ G0 dk = none ∧ G0 dt = none ∧ PV K G (B.tasks.map (·.1)) vp B.plan ∧ FzD G dk kk ∧ Kdt K G kk B.kinds ∧ FzD G dt kt ∧ Tks K G C kt B.tasks
theorem BkN.bk {K : PySem.W.Frag} {G0 G : Hp} {C : Addr} {fs : List (Str × V)} {B : BkD} (h : BkN K G0 G C fs B) : BkF K G C fs B := by
  obtain ⟨vp, dk, dt, kk, kt, h0, _, _, h1, h2, h3, h4, h5⟩ := h
  exact ⟨vp, dk, dt, kk, kt, h0, h1, h2, h3, h4, h5⟩
theorem sqT_keep {K : PySem.W.Frag} {G G1 : Hp} {a : Addr} {xs : List V} (s : ∀ a xs, Rd G a (.tup xs) → Rd G1 a (.tup xs)) (h : SqT K G a xs) : SqT K G1 a xs := h.elim (fun h => .inl (s _ _ h)) .inr
mutual
theorem dt_keep {K : PySem.W.Frag} {G G1 : Hp} (s : ∀ a xs, Rd G a (.tup xs) → Rd G1 a (.tup xs)) : ∀ (p : Pl) (v : V), Dt K G v p.d → Dt K G1 v p.d
  | .nm t, v, h => by
    rw [Pl.d] at h ⊢
    cases h
    exact .str _
  | .nd hh ps, v, h => by
    rw [Pl.d] at h ⊢
    cases h with
    | tup hS hR =>
      cases hR with
      | cons h1 h2 =>
        cases h1
        exact .tup (sqT_keep s hS) (.cons (.str _) (dts_keep s ps _ h2))
theorem dts_keep {K : PySem.W.Frag} {G G1 : Hp} (s : ∀ a xs, Rd G a (.tup xs) → Rd G1 a (.tup xs)) : ∀ (ps : List Pl) (vs : List V), Dts K G vs (Pl.dl ps) → Dts K G1 vs (Pl.dl ps)
  | [], vs, h => by
    rw [Pl.dl] at h ⊢
    cases h
    exact .nil
  | p :: ps, vs, h => by
    rw [Pl.dl] at h ⊢
    cases h with
    | cons h1 h2 => exact .cons (dt_keep s p _ h1) (dts_keep s ps _ h2)
end
theorem BkN.out {K : PySem.W.Frag} {G0 G G1 : Hp} {C dg : Addr} {fs : List (Str × V)} {B : BkD} (h : BkN K G0 G C fs B) (hg : G0 dg ≠ none) (s : ∀ a o, G a = some o → (∀ xs, o ≠ .lst xs) → a ≠ dg → G1 a = some o) (hd : ∀ xs, ¬ Rd G dg (.tup xs)) (hi : ∀ D dx fs, G dg ≠ some (.ins D dx fs)) : BkF K G1 C fs B := by
  obtain ⟨vp, dk, dt, kk, kt, h0, n1, n2, h1, ⟨o2, h2⟩, h3, ⟨o4, h4⟩, h5⟩ := h
  have st : ∀ a xs, Rd G a (.tup xs) → Rd G1 a (.tup xs) := fun a xs r => r.elim (fun e => .inl (s a _ e (fun _ z => nomatch z) (fun z => hd xs (z ▸ r)))) fun ⟨od, e⟩ => .inr ⟨od, s a _ e (fun _ z => nomatch z) (fun z => hd xs (z ▸ r))⟩
  have kd : dk ≠ dg := fun z => hg (z ▸ n1)
  have kt' : dt ≠ dg := fun z => hg (z ▸ n2)
  refine ⟨vp, dk, dt, kk, kt, h0, ⟨dt_keep st _ _ h1.dt, h1.ok, h1.dp, h1.sz, h1.ndp, h1.nm, h1.mem⟩, ⟨o2, s _ _ h2 (fun _ z => nomatch z) kd⟩, L2.Paired.mapP h3 fun _ _ ⟨e, a, e1, e2⟩ => ⟨e, a, e1, sqT_keep st e2⟩, ⟨o4, s _ _ h4 (fun _ z => nomatch z) kt'⟩, L2.Paired.mapP h5 fun _ _ ⟨e, a, e1, e2⟩ => ⟨e, a, e1, ?_⟩⟩
  obtain ⟨dx, t1, t2, t3, t4, g0, g1, g2, g3, g4⟩ := e2
  exact ⟨dx, t1, t2, t3, t4, s _ _ g0 (fun _ z => nomatch z) (fun z => hi _ _ _ (z ▸ g0)), sqT_keep st g1, sqT_keep st g2, sqT_keep st g3, sqT_keep st g4⟩
section
variable {P : Program} {w : World} {K : PySem.W.Frag} {mg : Str → Option Value} {base : Heap} {f : Addr} {fd : FuncData} {C CB CU : Addr}
def spOrdN (K : PySem.W.Frag) (C : Addr) : Sp := fun vs H Q _ => ∃ G M d kvs tn, vs = [.ref d] ∧ Zp G M H ∧ FzD G d kvs ∧ Tks K G C kvs tn ∧ (tn.map (·.1)).Nodup ∧ tn.length ≤ 60 ∧ ∀ p kvs' G1 H1, Zp G1 M H1 → Same G G1 → G p = none → FzD G1 p kvs' → Tks K G1 C kvs' (ordT tn) → Q (.ref p) H1
theorem ok_orderN (T : Nm K mg) (C_ascendingD : Own P w K mg base CX0 1 "ascending" ["words"] (spAscD K)) (F : FnP K "in_order" s_in_order f fd) : FnOk P w K mg base CX0 2 f fd ["pairs"] (spOrdN K C) := by
  have nd : N_in_order.Nodup := sc_in_order.nd
  refine F.ok sc_in_order (fun vs H Q E h => ?_) (fun cdv A outer s H vs Q E hr h => ?_)
  · obtain ⟨G, M, d, kvs, tn, rfl, _⟩ := h
    rfl
  have hu := hr.units
  refine ⟨_, PSs.nox   (pss_one (ps_ret (pe_frz (pe_dc (own := [("key", 1)]) (tt := tYes) rfl nd (k_any (K := K) (pe_own C_ascendingD (hr.mono (by omega)) (by rfl) pass0 (pa_cons (pv 0) pa_nil))) (blkOk_by (N := N_in_order) (sc := defScope s_in_order) (by decide +kernel)) (fun _ _ _ _ _ => (pg_name (i := 1) nd rfl (by first | exact .inl rfl | exact .inr rfl))) (fun _ _ _ _ _ => pts_nil) (fun _ _ _ _ _ => (pv 1)) (fun _ _ _ _ _ => (pe_dget (hu_of hr) (pv 0) (pv 1) (fun _ _ => rfl))))))), ?_⟩
  obtain ⟨G, M, d, kvs, tn, rfl, z, hd, hk, hnd, hl, q⟩ := h
  have hkn : (kvs.map (·.1)).Nodup := by rw [hk.keys]; exact inr_nodup hnd
  repeat (walk_at "z")
  refine z_anyT ?_
  repeat (walk_at "z")
  refine ⟨G, M, d, kvs, tn.map (·.1), rfl, z, hd, hk.keys, by rw [List.length_map]; omega, fun p1 G1 H1 z1 s1 e1 => ?_⟩
  refine z_itT z1 e1 ?_
  have hal := asc_len_le (tn.map (·.1))
  rw [List.length_map] at hal
  refine dc_src src_T (fun i G' M' acc => M' = M ∧ Same G1 G' ∧ Tks K G' C acc ((ordT tn).take i)) z1 ⟨rfl, Same.refl _, by rw [List.take_zero]; exact .nil⟩ (fun i G' M' M1 acc H' ⟨_, s', _⟩ z' => z'.seqT (upT s' e1)) ?_ ?_
  · rintro i x G2 M2 acc Dl H2 hx ⟨rfl, s2, hA⟩ z2
    rw [List.getElem?_map] at hx
    obtain ⟨k, hki, rfl⟩ := Option.map_eq_some_iff.mp hx
    have hm : k ∈ tn.map (·.1) := asc_mem.mp (List.mem_of_getElem? hki)
    obtain ⟨j, t, hj⟩ := find_at hm
    have hlen : kvs.length = tn.length := keys_len hk
    obtain ⟨nm, t', a, h1, h2, h3⟩ := tk_at hk (i := j) (by rw [hlen]; exact (List.getElem?_eq_some_iff.mp hj).1)
    rw [hj] at h2
    obtain ⟨rfl, rfl⟩ : k = nm ∧ t = t' := by simpa using h2
    have hoi : (ordT tn)[i]? = some (k, t) := by
      unfold ordT
      rw [List.getElem?_map, hki, Option.map_some, lookT_of hnd (List.mem_of_getElem? hj)]
    have hi := (List.getElem?_eq_some_iff.mp hki).1
    have hal2 := keys_len hA
    rw [List.length_take] at hal2
    repeat (walk_at "z")
    refine ⟨by rfl, ?_⟩
    repeat (walk_at "z")
    refine z_dgF z2 (hd.up (s1.trans s2)) (valV_ix hkn h1) ?_
    refine z_laidD (k := .inr k) z2 (by omega) ⟨rfl, s2, ?_⟩
    rw [putK_new _ (key_new (asc_nodup _) hki (by rw [hA.keys, List.map_take, ordT_keys])), List.take_add_one, hoi]
    exact paired_snoc ⟨rfl, a, rfl, h3.up (s1.trans s2)⟩ hA
  · rintro p G2 M2 acc H2 ⟨rfl, s2, hA⟩ z2
    rw [List.length_map] at hA
    have e : (ordT tn).length = (asc (tn.map (·.1))).length := by unfold ordT; rw [List.length_map]
    rw [← e, List.take_length] at hA
    exact z_frzL z2 fun G3 H3 z3 s3 f3 => q p acc G3 H3 z3 ((s1.trans s2).trans s3) (none_of (s1.trans s2) (z2.own M2.length _ _ last_at).2) f3 (hA.up s3)

def spBookN (K : PySem.W.Frag) (C CB : Addr) : Sp := fun vs H Q _ => ∃ G M x dx dk dt v kk kn kt tn p, vs = [.ref x, .ref dk, .ref dt, v] ∧ Zp G (M ++ [(x, .ins CB dx [])]) H ∧ FzD G dk kk ∧ Kds K G kk kn ∧ GoodK kn ∧ FzD G dt kt ∧ Tks K G C kt tn ∧ GoodTs tn ∧ NeedOk tn ∧ PV K G (tn.map (·.1)) v p ∧
  ∀ fs G1 H1, Zp G1 (M ++ [(x, .ins CB dx fs)]) H1 → Same G G1 → BkN K G G1 C fs ⟨ordK kn, ordT tn, nf p⟩ → Q .non H1
theorem ok_bookN (T : Nm K mg) (BC : BookC K CB) (C_are_kinds : Own P w K mg base CX0 4 "are_kinds" ["value"] (spKinds K)) (C_are_tasks : Own P w K mg base CX0 2 "are_tasks" ["value"] (spTasks K C)) (C_plan_for : Own P w K mg base CX0 21 "plan_for" ["plan", "tasks"] (spPlanFor K))
    (C_need_tasks : Own P w K mg base CX0 5 "need_tasks" ["tasks"] (spNeed K C)) (C_ascendingD : Own P w K mg base CX0 1 "ascending" ["words"] (spAscD K)) (C_ascendingA : Own P w K mg base CX0 1 "ascending" ["words"] (spAscA K)) (C_in_order : Own P w K mg base CX0 2 "in_order" ["pairs"] (spOrdN K C))
    (F : FunD K "__init__" "Book.__init__" (defArgs s_Book_init) (defBody s_Book_init) (defScope s_Book_init) [] [] f fd) : FnOk P w K mg base CX0 22 f fd ["self", "kinds", "tasks", "plan"] (spBookN K C CB) := by
  have nd : N_Book_init.Nodup := sc_Book_init.nd
  refine F.ok sc_Book_init (fun vs H Q E h => ?_) (fun cdv A outer s H vs Q E hr h => ?_)
  · obtain ⟨G, M, x, dx, dk, dt, v, kk, kn, kt, tn, p, rfl, _⟩ := h
    rfl
  have hu := hr.units
  refine ⟨_, PSs.nox   (pss_cons (ps_if (pt_not (pt_val (pe_own C_are_kinds (hr.mono (by omega)) (by rfl) pass0 (pa_cons (pv 1) pa_nil)))) (pss_one ps_never) pss_nil)
    (pss_cons (ps_if (pt_not (pt_val (pe_own C_are_tasks (hr.mono (by omega)) (by rfl) pass0 (pa_cons (pv 2) pa_nil)))) (pss_one ps_never) pss_nil)
    (pss_cons (ps_if (pt_cmpR o_gt (pe_callB c_lenD (by rfl) T.b_len PySem.boot_len (pa_cons (pv 2) pa_nil)) (pe_gC T.g_TASKS (by rfl)) (nomark _)) (pss_one ps_never) pss_nil)
    (pss_cons (ps_fld (pv 0) (pe_own C_plan_for (hr.mono (by omega)) (by rfl) pass0 (pa_cons (pv 3) (pa_cons (pv 2) pa_nil))) rfl)
    (pss_cons (ps_expr (pe_own C_need_tasks (hr.mono (by omega)) (by rfl) pass0 (pa_cons (pv 2) pa_nil)))
    (pss_cons (ps_fld (pv 0) (pe_frz (pe_dc (own := [("kind", 4)]) (tt := tYes) rfl nd (k_any (K := K) (pe_own C_ascendingD (hr.mono (by omega)) (by rfl) pass0 (pa_cons (pv 1) pa_nil))) (blkOk_by (N := N_Book_init) (sc := defScope s_Book_init) (by decide +kernel)) (fun _ _ _ _ _ => (pg_name (i := 4) nd rfl (by first | exact .inl rfl | exact .inr rfl))) (fun _ _ _ _ _ => pts_nil) (fun _ _ _ _ _ => (pv 4)) (fun _ _ _ _ _ => (pe_own C_ascendingA (hr.mono (by omega)) (by rfl) pass0 (pa_cons (pe_dget (hu_of hr) (pv 1) (pv 4) (fun _ _ => rfl)) pa_nil))))) rfl)
    (pss_one (ps_fld (pv 0) (pe_own C_in_order (hr.mono (by omega)) (by rfl) pass0 (pa_cons (pv 2) pa_nil)) rfl)))))))), ?_⟩
  obtain ⟨G, M, x, dx, dk, dt, v, kk, kn, kt, tn, p, rfl, z, hdk, hkn, gk, hdt, htn, gt, hnd, hp, q⟩ := h
  have hlt : kt.length = tn.length := keys_len htn
  have g8 := gt.l8
  have g3 := gk.l3
  repeat (walk_at "z")
  refine ⟨G, _, dk, kk, kn, rfl, z, hdk, hkn, gk, fun G1 H1 z1 s1 => ?_⟩
  repeat (walk_at "z")
  refine ⟨G1, _, dt, kt, tn, rfl, z1, hdt.up s1, htn.up s1, gt, fun G2 H2 z2 s2 => ?_⟩
  repeat (walk_at "z")
  refine z_lenD z2 (hdt.up (s1.trans s2)) ?_
  repeat (walk_at "z")
  refine z_bF' (decide_eq_false (by omega)) ?_
  repeat (walk_at "z")
  refine ⟨G2, _, v, dt, kt, tn.map (·.1), p, rfl, z2, hp.up (s1.trans s2), hdt.up (s1.trans s2), htn.keys, fun v' G3 H3 z3 s3 hp3 => ?_⟩
  have s13 := (s1.trans s2).trans s3
  repeat (walk_at "z")
  refine z_fsL z3 BC.cl BC.n1 (by decide) fun H4 z4 => ?_
  repeat (walk_at "z")
  refine ⟨G3, _, dt, kt, tn, rfl, z4, hdt.up s13, htn.up s13, hnd, by omega, fun G5 H5 z5 s5 => ?_⟩
  have s15 := s13.trans s5
  repeat (walk_at "z")
  refine z_anyT ?_
  repeat (walk_at "z")
  refine ⟨G5, _, dk, kk, kn.map (·.1), rfl, z5, hdk.up s15, hkn.keys, by rw [List.length_map]; omega, fun p6 G6 H6 z6 s6 e6 => ?_⟩
  refine z_itT z6 e6 ?_
  have s16 := s15.trans s6
  have hknd : (kk.map (·.1)).Nodup := by rw [hkn.keys]; exact inr_nodup gk.nd
  have hal := asc_len_le (kn.map (·.1))
  rw [List.length_map] at hal
  refine dc_src src_T (fun i G' M' acc => M' = M ++ [(x, .ins CB dx [("own_plan", v')])] ∧ Same G6 G' ∧ Kdt K G' acc ((ordK kn).take i)) z6 ⟨rfl, Same.refl _, by rw [List.take_zero]; exact .nil⟩ (fun i G' M' M1 acc H' ⟨_, s', _⟩ z' => z'.seqT (upT s' e6)) ?_ ?_
  · rintro i y G7 M7 acc Dl H7 hx ⟨rfl, s7, hA⟩ z7
    rw [List.getElem?_map] at hx
    obtain ⟨k, hki, rfl⟩ := Option.map_eq_some_iff.mp hx
    have hm : k ∈ kn.map (·.1) := asc_mem.mp (List.mem_of_getElem? hki)
    obtain ⟨j, rs, hj⟩ := find_at hm
    have hlen : kk.length = kn.length := keys_len hkn
    obtain ⟨⟨pk, pv'⟩, ⟨qk, qr⟩, h1, h2, hpk, d', hdd, hli, hit⟩ := pair_at hkn (i := j) (by rw [hlen]; exact (List.getElem?_eq_some_iff.mp hj).1)
    rw [hj] at h2
    obtain ⟨rfl, rfl⟩ : k = qk ∧ rs = qr := by simpa using h2
    have hpk : pk = .inr k := hpk
    subst hpk
    have hit : itemsD d' = rs.map PyData.str := hit
    have hrs : rs.length ≤ 4 := (gk.rs (k, rs) (List.mem_of_getElem? hj)).1
    have hoi : (ordK kn)[i]? = some (k, asc rs) := by
      unfold ordK
      rw [List.getElem?_map, hki, Option.map_some, lookK_of gk.nd (List.mem_of_getElem? hj)]
    have hal2 := keys_len hA
    rw [List.length_take] at hal2
    have hi := (List.getElem?_eq_some_iff.mp hki).1
    repeat (walk_at "z")
    refine ⟨by rfl, ?_⟩
    repeat (walk_at "z")
    refine z_dgS z7 (hdk.up (s16.trans s7)) (valV_ix hknd h1) ?_
    repeat (walk_at "z")
    refine ⟨G7, _, pv', d', rs, rfl, z7, .inl (hdd.up (s16.trans s7)), hli, hit, by omega, fun p8 G8 H8 z8 s8 e8 => ?_⟩
    refine z_laidD (k := .inr k) z8 (by omega) ⟨rfl, s7.trans s8, ?_⟩
    rw [putK_new _ (key_new (asc_nodup _) hki (by rw [hA.keys, List.map_take, ordK_keys])), List.take_add_one, hoi]
    exact paired_snoc ⟨rfl, p8, rfl, e8⟩ (hA.up s8)
  · rintro p7 G7 M7 acc H7 ⟨rfl, s7, hA⟩ z7
    have n7 := none_of (s16.trans s7) (z7.own _ _ _ last_at).2
    rw [List.length_map] at hA
    have e : (ordK kn).length = (asc (kn.map (·.1))).length := by unfold ordK; rw [List.length_map]
    rw [← e, List.take_length] at hA
    refine z_frzL z7 fun G8 H8 z8 s8 f8 => ?_
    have s18 := (s16.trans s7).trans s8
    repeat (walk_at "z")
    refine z_fsL z8 BC.cl BC.n2 (by simp) fun H9 z9 => ?_
    repeat (walk_at "z")
    refine ⟨G8, _, dt, kt, tn, rfl, z9, hdt.up s18, htn.up s18, gt.nd, by omega, fun p10 kt' G10 H10 z10 s10 n10 f10 t10 => ?_⟩
    repeat (walk_at "z")
    refine z_fsL z10 BC.cl BC.n3 (putF_lt (n := 999) (by simp)) fun H11 z11 => ?_
    exact q _ G10 H11 z11 (s18.trans s10) ⟨v', p7, p10, acc, kt', rfl, n7, none_of s18 n10, PV.of_mem (hp3.up ((((s5.trans s6).trans s7).trans s8).trans s10)) (fun s hs => by
      show s ∈ (ordT tn).map (·.1)
      rw [ordT_keys]
      exact asc_mem.mpr hs), f8.up s10, (hA.up s8).up s10, f10, t10⟩

theorem spBookM_of {vs : List V} {H : Hp} {Q : VK} {E : XK} (h : spBookM K C CB vs H Q E) : spBookN K C CB vs H Q E := by
  obtain ⟨G, M, x, dx, dk, dt, v, kk, kn, kt, tn, p, h0, z, h1, h2, h3, h4, h5, h6, h7, h8, q⟩ := h
  exact ⟨G, M, x, dx, dk, dt, v, kk, kn, kt, tn, p, h0, z, h1, h2, h3, h4, h5, h6, h7, h8, fun fs G1 H1 z1 s1 hb => q fs G1 H1 z1 s1 hb.bk⟩
def spBKindsM (K : PySem.W.Frag) (C CB : Addr) : Sp := fun vs H Q _ => ∃ G M x B, vs = [.ref x] ∧ Zp G M H ∧ BkI K G C CB x B ∧ ∀ p kk H1, Zp G (M ++ [(p, .dK kk)]) H1 → Kdt K G kk B.kinds → Q (.ref p) H1
theorem ok_bkindsM (T : Nm K mg) (BC : BookC K CB) (F : FunD K "kinds" "Book.kinds" (defArgs s_Book_kinds) (defBody s_Book_kinds) (defScope s_Book_kinds) [] [] f fd) :
    FnOk P w K mg base CX0 1 f fd ["self"] (spBKindsM K C CB) := by
  have nd : N_Book_kinds.Nodup := sc_Book_kinds.nd
  refine F.ok sc_Book_kinds (fun vs H Q E h => ?_) (fun cdv A outer s H vs Q E hr h => ?_)
  · obtain ⟨G, M, x, B, rfl, _⟩ := h
    rfl
  refine ⟨_, PSs.nox   (pss_one (ps_ret (pe_callTy c_dictD (by rfl) T.b_dict boot_dict (pa_cons (k_fld (K := K) (pv 0) rfl) pa_nil)))), ?_⟩
  obtain ⟨G, M, x, B, rfl, z, ⟨dx, vp, dk, dt, kk, kt, h0, hp, hok, hkn, hot, htn⟩, q⟩ := h
  repeat (walk_at "z")
  refine z_flI z h0 BC.cl BC.n2 (by rfl) ?_
  repeat (walk_at "z")
  exact z_dictD z hok fun p H1 z1 => q p kk H1 z1 hkn
def spBWid (K : PySem.W.Frag) (C CB : Addr) : Sp := fun vs H Q _ => ∃ G M x B, vs = [.ref x] ∧ Zp G M H ∧ BkI K G C CB x B ∧ (condL B.tasks).length < 64 ∧ B.tasks.length ≤ 1000 ∧ ∀ G1 H1, Zp G1 M H1 → Same G G1 → Q (.int (widP B.tasks)) H1
theorem ok_bwid (T : Nm K mg) (BC : BookC K CB) (C_width_of : Own P w K mg base CX0 4 "width_of" ["tasks"] (spWid K C)) (F : FunD K "width" "Book.width" (defArgs s_Book_width) (defBody s_Book_width) (defScope s_Book_width) [] [] f fd) :
    FnOk P w K mg base CX0 5 f fd ["self"] (spBWid K C CB) := by
  have nd : N_Book_width.Nodup := sc_Book_width.nd
  refine F.ok sc_Book_width (fun vs H Q E h => ?_) (fun cdv A outer s H vs Q E hr h => ?_)
  · obtain ⟨G, M, x, B, rfl, _⟩ := h
    rfl
  refine ⟨_, PSs.nox   (pss_one (ps_ret (pe_own C_width_of (hr.mono (by omega)) (by rfl) pass0 (pa_cons (k_fld (K := K) (pv 0) rfl) pa_nil)))), ?_⟩
  obtain ⟨G, M, x, B, rfl, z, ⟨dx, vp, dk, dt, kk, kt, h0, hp, hok, hkn, hot, htn⟩, hc, hl, q⟩ := h
  repeat (walk_at "z")
  refine z_flI z h0 BC.cl BC.n3 (by rfl) ?_
  repeat (walk_at "z")
  exact ⟨G, M, dt, kt, B.tasks, rfl, z, hot, htn, hc, hl, q⟩
theorem kdt_kds {G : Hp} {kk : List (Key × V)} {kn : List (Str × List Str)} (h : Kdt K G kk kn) : Kds K G kk kn := L2.Paired.mapP h fun p q ⟨e, a, e1, e2⟩ => ⟨e, .tuple (q.2.map PyData.str), by rw [e1]; exact .tup e2 (dts_str _), rfl, rfl⟩
def spBCopy (K : PySem.W.Frag) (C CB : Addr) : Sp := fun vs H Q _ => ∃ G M x B, vs = [.ref x] ∧ Zp G M H ∧ BkI K G C CB x B ∧ GoodK B.kinds ∧ GoodTs B.tasks ∧ NeedOk B.tasks ∧ ∀ y G1 H1, Zp G1 M H1 → Same G G1 → BkI K G1 C CB y ⟨ordK B.kinds, ordT B.tasks, nf B.plan⟩ → Q (.ref y) H1
theorem ok_bcopy (T : Nm K mg) (BC : BookC K CB) (B_Book_3_ : MkS P w K mg base CX0 22 CB "Book" 3 [] (fun vs zs => vs ++ zs) (spBookN K C CB)) (F : FunD K "copied" "Book.copied" (defArgs s_Book_copied) (defBody s_Book_copied) (defScope s_Book_copied) [] [] f fd) :
    FnOk P w K mg base CX0 25 f fd ["self"] (spBCopy K C CB) := by
  have nd : N_Book_copied.Nodup := sc_Book_copied.nd
  refine F.ok sc_Book_copied (fun vs H Q E h => ?_) (fun cdv A outer s H vs Q E hr h => ?_)
  · obtain ⟨G, M, x, B, rfl, _⟩ := h
    rfl
  refine ⟨_, PSs.nox   (pss_one (ps_ret (pe_mk B_Book_3_ (hr.mono (by decide)) (by rfl) pass0 (pa_cons (k_fld (K := K) (pv 0) rfl) (pa_cons (k_fld (K := K) (pv 0) rfl) (pa_cons (k_fld (K := K) (pv 0) rfl) pa_nil))) pk_nil))), ?_⟩
  obtain ⟨G, M, x, B, rfl, z, ⟨dx, vp, dk, dt, kk, kt, h0, hp, hok, hkn, hot, htn⟩, gk, gt, nO, q⟩ := h
  repeat (walk_at "z")
  refine z_flI z h0 BC.cl BC.n2 (by rfl) ?_
  repeat (walk_at "z")
  refine z_flI z h0 BC.cl BC.n3 (by rfl) ?_
  repeat (walk_at "z")
  refine z_flI z h0 BC.cl BC.n1 (by rfl) ?_
  repeat (walk_at "z")
  refine z_mkI z rfl rfl fun y dy H7 z7 s7 => ?_
  refine ⟨_, _, y, dy, dk, dt, vp, kk, B.kinds, kt, B.tasks, B.plan, rfl, z7, hok.up s7, (kdt_kds hkn).up s7, gk, hot.up s7, htn.up s7, gt, nO, hp.up s7, fun fs G8 H8 z8 s8 h8 => ?_⟩
  have fr : G8 y = none := (z8.own M.length _ _ last_at).2
  have sN := Same.new (o := HO.ins CB dy fs) fr
  have z9 := z8.fix
  exact ⟨rfl, q y _ _ z9 (s7.trans (s8.trans sN)) ((h8.bk.up sN).at_ upd_same)⟩
def spBLen (K : PySem.W.Frag) (C CB : Addr) : Sp := fun vs H Q _ => ∃ G M x B, vs = [.ref x] ∧ Zp G M H ∧ BkI K G C CB x B ∧ Q (.int B.tasks.length) H
theorem ok_blen (T : Nm K mg) (BC : BookC K CB) (F : FunD K "__len__" "Book.__len__" (defArgs s_Book_len) (defBody s_Book_len) (defScope s_Book_len) [] [] f fd) :
    FnOk P w K mg base CX0 1 f fd ["self"] (spBLen K C CB) := by
  have nd : N_Book_len.Nodup := sc_Book_len.nd
  refine F.ok sc_Book_len (fun vs H Q E h => ?_) (fun cdv A outer s H vs Q E hr h => ?_)
  · obtain ⟨G, M, x, B, rfl, _⟩ := h
    rfl
  refine ⟨_, PSs.nox   (pss_one (ps_ret (pe_callB c_lenD (by rfl) T.b_len PySem.boot_len (pa_cons (k_fld (K := K) (pv 0) rfl) pa_nil)))), ?_⟩
  obtain ⟨G, M, x, B, rfl, z, ⟨dx, vp, dk, dt, kk, kt, h0, hp, hok, hkn, hot, htn⟩, q⟩ := h
  repeat (walk_at "z")
  refine z_flI z h0 BC.cl BC.n3 (by rfl) ?_
  repeat (walk_at "z")
  refine z_lenD z hot ?_
  rw [keys_len htn]
  exact q
def spBIn (K : PySem.W.Frag) (C CB : Addr) : Sp := fun vs H Q _ => ∃ G M x B v d, vs = [.ref x, v] ∧ Zp G M H ∧ BkI K G C CB x B ∧ Dt K G v d ∧ Q (.bl (hitD d (B.tasks.map (·.1)))) H
theorem ok_bin (T : Nm K mg) (BC : BookC K CB) (F : FunD K "__contains__" "Book.__contains__" (defArgs s_Book_contains) (defBody s_Book_contains) (defScope s_Book_contains) [] [] f fd) :
    FnOk P w K mg base CX0 1 f fd ["self", "value"] (spBIn K C CB) := by
  have nd : N_Book_contains.Nodup := sc_Book_contains.nd
  refine F.ok sc_Book_contains (fun vs H Q E h => ?_) (fun cdv A outer s H vs Q E hr h => ?_)
  · obtain ⟨G, M, x, B, v, d, rfl, _⟩ := h
    rfl
  refine ⟨_, PSs.nox   (pss_one (ps_ret (pe_and (pe_callB (kc_isi (K := K)) (by rfl) T.b_isinstance boot_isinstance (pa_cons (pv 1) (pa_cons (pe_bltn (v := .ty "str") (by rfl) T.b_str boot_str rfl) pa_nil))) (pe_one (pe_cmp (pc_din (hu_of hr) (pv 1) (k_fld (K := K) (pv 0) rfl))))))), ?_⟩
  obtain ⟨G, M, x, B, v, d, rfl, z, ⟨dx, vp, dk, dt, kk, kt, h0, hp, hok, hkn, hot, htn⟩, hd, q⟩ := h
  repeat (walk_at "z")
  refine z_isi (.ty "str") (hd.up z.sub).ty (kit_ty (kit_str d)) ?_
  cases hd with
  | str t =>
    repeat (walk_at "z")
    refine z_bT' rfl ?_
    repeat (walk_at "z")
    refine z_flI z h0 BC.cl BC.n3 (by rfl) ?_
    refine z_diF (k := .inr t) z hot ?_
    have e : (valV kt (.inr t)).isSome = hitD (.str t) (B.tasks.map (·.1)) := by
      show _ = decide (t ∈ B.tasks.map (·.1))
      by_cases c : t ∈ B.tasks.map (·.1)
      · rw [decide_eq_true c]
        exact valV_isin (by rw [htn.keys]; exact List.mem_map.mpr ⟨t, c, rfl⟩)
      · rw [decide_eq_false c, valV_out (by
          rw [htn.keys]
          intro h
          obtain ⟨y, hy, e⟩ := List.mem_map.mp h
          cases e
          exact c hy)]
        rfl
    rw [← e] at q
    exact q
  | _ =>
    repeat (walk_at "z")
    refine z_bF' rfl ?_
    exact q
/-! ### items -/
variable {X : Cx} {n : Nat} {g : Addr} {gd : FuncData} {ps : List Str} {sp : Sp} {ea eb : Expr} {ta tb : TE} {pos : Pos} {W : WX}
def tItX (C : Addr) (sp : Sp) (W : WX) (ta tb : TE) : TE := fun σ H Q => ta σ H fun x H1 => tb σ H1 fun y H2 => rItI C sp (WE W σ) x y H2 Q
theorem z_itX {σ : L2.St} {H : Hp} {Q : VK} (h : ta σ H fun x H1 => tb σ H1 fun y H2 => rItI C sp (WE W σ) x y H2 Q) : tItX C sp W ta tb σ H Q := h
theorem pe_itX (F : FnOk X.prog X.w X.K X.mg X.base (L2.CX X.prog X.w) n g gd ps sp) (ha : PE X ea ta) (hb : PE X eb tb) (hs : PySem.W.findIn X.K (.ref C) "__getitem__" = some (some (.ref g))) (hf : PySem.W.fnIn X.K g = true) (hfn : PySem.W.isFn X.K (.ref g) = true) (hbd : Binds X.K gd ps []) (tk : Takes X W) (hr : Room (n + 1) X.A)
    (hsl : ∀ c i, subscripted eb true (.ref c) i = runValue (.builtin "lifetime.subscript" ⟨[.ref c, i], []⟩) := by intro c i; with_unfolding_all rfl) : PE X (.Subscript ea eb pos) (tItX C sp W ta tb) := by
  refine ⟨fun pins s σ H Q I h => ?_⟩
  refine Subscript_ (binT ha hb I h fun v u s2 x y H2 I2 rx ry q => ?_)
  obtain ⟨c, dx, fs, rfl, ea, q⟩ := q
  cases rx
  obtain ⟨mA, J, _⟩ := ins_get I2.hok ea
  obtain ⟨od, J, _⟩ := J.look
  obtain ⟨m, hF⟩ := I2.fr
  refine PySem.W.sub_K hF I2.ok.mod.kin J hs hf hfn ?_ (hsl _ _)
  have hl := F.len _ _ _ _ q
  refine wpAny_call (codeAny_mono (F.run X.A.in1 X.stack s2 H2 ⟨[.ref c, u], []⟩ [.ref c, u] [.ref c, y] _ (WE W σ) hr.in1 I2.env0.in1 (by
    have := hbd s2 [.ref c, u] I2.kIn (by simpa using hl)
    simpa using this) (.cons rfl (.cons ry .nil)) q) fun r s' hq => ?_)
  match r, hq with
  | .error e, hq => exact passAt tk σ pins H2 s2 e s' I2 hq
  | .ok (.ret w), hq => exact I2.after hq
  | .ok .next, hq => exact False.elim hq
  | .ok .brk, hq => exact False.elim hq
  | .ok .cont, hq => exact False.elim hq
def spBItX (K : PySem.W.Frag) (C CB CU : Addr) : Sp := fun vs H Q E => ∃ G M x B v d, vs = [.ref x, v] ∧ Zp G M H ∧ BkI K G C CB x B ∧ Dt K G v d ∧ (SeqAt.shaped d = true ∨ dictD d = true) ∧ (∀ s ∈ B.tasks.map (·.1), PyData.strOk s = true) ∧ (B.tasks.map (·.1)).Nodup ∧
  (∀ nm t, d = .str nm → (nm, t) ∈ B.tasks → ∀ a G1 H1, Zp G1 M H1 → Same G G1 → TkI K G1 C a t → Q (.ref a) H1) ∧
  (hitD d (B.tasks.map (·.1)) = false → ∀ dd G1 H1, Zp G1 M H1 → Same G G1 → G1 dd = some (.xd [("value", v)]) → E (.ref CU) (some dd) H1)
theorem ok_bitX (T : Nm K mg) (BC : BookC K CB) (S_UnknownTask : ExcG P w K mg base CU "UnknownTask" "value") (R_names : Prp P w K mg base CX0 1 CB "names" (spBNames K C CB)) (F : FunD K "__getitem__" "Book.__getitem__" (defArgs s_Book_getitem) (defBody s_Book_getitem) (defScope s_Book_getitem) [] [] f fd) :
    FnOk P w K mg base (L2.CX P w) 3 f fd ["self", "name"] (spBItX K C CB CU) := by
  have nd : N_Book_getitem.Nodup := sc_Book_getitem.nd
  refine F.ok sc_Book_getitem (fun vs H Q E h => ?_) (fun cdv A outer s H vs Q E hr h => ?_)
  · obtain ⟨G, M, x, B, v, d, rfl, _⟩ := h
    rfl
  refine ⟨_,   (pss_cons (ps_if (pt_cmpR (k_notInS (K := K) T.sys (room128 hr)) (pv 1) (pe_pr R_names (hr.mono (by decide)) pass0 (pv 0)) (by rfl)) (pss_one (ps_rsG S_UnknownTask rfl (takes_of rfl rfl rfl rfl) (hr.mono (by omega)) (by rfl) (pv 1))) pss_nil)
    (pss_one (ps_ret (pe_dget (hu_of hr) (k_fld (K := K) (pv 0) rfl) (pv 1) (fun _ _ => rfl))))), ?_⟩
  obtain ⟨G, M, x, B, v, d, rfl, z, hB, hd, hs, hst, hnd, q, qx⟩ := h
  obtain ⟨dx, vp, dk, dt, kk, kt, h0, hp, hok, hkn, hot, htn⟩ := id hB
  repeat (walk_at "z")
  refine z_prI z h0 ?_
  refine ⟨G, M, x, B, rfl, z, hB, fun p G1 H1 z1 s1 e1 => ?_⟩
  repeat (walk_at "z")
  refine ⟨d, p, B.tasks.map (·.1), rfl, (hd.up s1).up z1.sub, z1.seqT e1, hst, hs, ?_⟩
  cases c : hitD d (B.tasks.map (·.1)) with
  | false =>
    repeat (walk_at "z")
    exact z_rsI fun dd hdd => qx c dd _ _ (z1.new hdd _) (s1.trans (Same.new (z1.free hdd))) upd_same
  | true =>
    obtain ⟨nm, rfl, hm⟩ : ∃ nm, d = .str nm ∧ nm ∈ B.tasks.map (·.1) := by
      cases d with
      | str nm => exact ⟨nm, rfl, of_decide_eq_true c⟩
      | _ => cases c
    obtain ⟨⟨nm', t⟩, hm2, rfl⟩ := List.mem_map.mp hm
    cases hd
    repeat (walk_at "z")
    refine z_flI z1 (s1 _ _ h0) BC.cl BC.n3 (by rfl) ?_
    obtain ⟨i, hi, ei⟩ := List.getElem_of_mem hm2
    have ei : B.tasks[i]? = some (nm', t) := by rw [List.getElem?_eq_getElem hi, ei]
    have hl : kt.length = B.tasks.length := keys_len htn
    obtain ⟨nm2, t2, a, f1, f2, f3⟩ := tk_at htn (show i < kt.length by omega)
    rw [ei] at f2
    obtain ⟨rfl, rfl⟩ : nm' = nm2 ∧ t = t2 := by simpa using f2
    repeat (walk_at "z")
    refine z_dgS z1 (hot.up s1) (valV_ix (by rw [htn.keys]; exact inr_nodup hnd) f1) ?_
    exact q _ _ rfl hm2 a G1 H1 z1 s1 (f3.up s1)
end
end LW
namespace LW
open PySem PySem.Spec PyProof.Rows L2 Ys

def itemsT (t : TkD) : List PyData := [rP t.role, .int t.many, strsP t.l1, strsP t.l2, strsP t.l3, strsP t.l4]
structure SL (l : List Str) : Prop where
  wd : ∀ s ∈ l, wordS s = true
  as : asc l = l
  le : l.length ≤ 20
theorem asc_len (xs : List Str) : (asc xs).length ≤ xs.length := by
  have e : (asc xs).length = (dd xs).length := dd_lenV (fun x => asc_mem) (asc_nodup xs)
  rw [e]
  have : ∀ l : List Str, (dd l).length ≤ l.length := by
    intro l
    induction l with
    | nil => exact Nat.le_refl _
    | cons y r ih =>
      unfold dd
      split
      · rw [List.length_cons]; omega
      · rw [List.length_cons, List.length_cons]; omega
  exact this xs
theorem SL.of {xs : List Str} (h : ∀ s ∈ xs, wordS s = true) (hl : xs.length ≤ 20) : SL (asc xs) :=
  ⟨fun s hs => h s (asc_mem.mp hs), asc_congr fun x => asc_mem, Nat.le_trans (asc_len xs) hl⟩
theorem SL.nd {l : List Str} (h : SL l) : l.Nodup := by rw [← h.as]; exact asc_nodup l
theorem SL.perm {l m : List Str} (h : SL l) (p : m.Perm l) : asc m = l := by rw [asc_congr (ys := l) fun x => p.mem_iff]; exact h.as
structure PlT (t : TkD) : Prop where
  ro : OkRole t.role
  m0 : 1 ≤ t.many
  m1 : t.many ≤ 3
  g1 : SL t.l1
  g2 : SL t.l2
  g3 : SL t.l3
  g4 : SL t.l4
theorem PlT.good {t : TkD} (h : PlT t) : GoodT t := ⟨h.ro, ⟨h.g1.wd, by have := h.g1.le; omega⟩, ⟨h.g2.wd, by have := h.g2.le; omega⟩, ⟨h.g3.wd, by have := h.g3.le; omega⟩, ⟨h.g4.wd, by have := h.g4.le; omega⟩⟩
section
variable {P : Program} {w : World} {K : PySem.W.Frag} {mg : Str → Option Value} {base : Heap} {f : Addr} {fd : FuncData} {C : Addr}
abbrev OwnSh (P : Program) (w : World) (K : PySem.W.Frag) (mg : Str → Option Value) (base : Heap) : Prop := Own P w K mg base CX0 2 "_law_shuffled" ["_law_pen_here", "_law_items"] (spShuf K)
theorem el_wds {G : Hp} {ns : List Str} (h : ∀ s ∈ ns, Wd s) : ∀ v ∈ ns.map V.str, El K G v := fun v hv => by
  obtain ⟨s, hs, rfl⟩ := List.mem_map.mp hv
  exact El.str (h s hs).2.2.ok
theorem role_of {G : Hp} {rs : List Str} (h : ∀ s ∈ rs, Wd s) {v : V} (hv : v ∈ rs.map V.str ++ [V.non]) : ∃ r, v = rV r ∧ OkRole r := by
  rcases List.mem_append.mp hv with hv | hv
  · obtain ⟨s, hs, rfl⟩ := List.mem_map.mp hv
    exact ⟨some s, rfl, fun s' e => by cases e; exact wd_word (h s hs)⟩
  · obtain rfl : v = V.non := by simpa using hv
    exact ⟨none, rfl, fun s' e => by cases e⟩
def spTask (K : PySem.W.Frag) : Sp := fun vs H Q _ => ∃ p o G M b a1 a2, ∃ ns rs : List Str, vs = [.ref p, .ref a1, .ref a2] ∧ Zp G ((p, o) :: M) H ∧ Pen K G b o ∧ b ≤ 100000000000 ∧ G a1 = some (.lst (ns.map V.str)) ∧ G a2 = some (.lst (rs.map V.str)) ∧
  ns.length ≤ 10 ∧ rs.length ≤ 10 ∧ (∀ s ∈ ns, Wd s) ∧ (∀ s ∈ rs, Wd s) ∧
  ∀ a t G1 H1 o1, Zp G1 ((p, o1) :: M) H1 → Same G G1 → Pen K G1 (b + 100) o1 → Dt K G1 (.ref a) (plainP t) → PlT t → (t.l1.length ≤ ns.length ∧ t.l2.length ≤ ns.length ∧ t.l3.length ≤ ns.length ∧ t.l4.length ≤ ns.length) → Q (.ref a) H1
theorem ok_task (T : Nm K mg) (C_law_pick : OwnP P w K mg base) (C_law_shuffled : OwnSh P w K mg base) (F : FnP K "_law_task" s_law_task f fd) : FnOk P w K mg base CX0 3 f fd ["_law_pen_here", "_law_names", "_law_roles"] (spTask K) := by
  have nd : N_law_task.Nodup := sc_law_task.nd
  refine F.ok sc_law_task (fun vs H Q E h => ?_) (fun cdv A outer s H vs Q E hr h => ?_)
  · obtain ⟨p, o, G, M, b, a1, a2, ns, rs, rfl, _⟩ := h
    rfl
  have hu := hr.units
  refine ⟨_, PSs.nox   (pss_cons (ps_asg (pe_lst (pa_cons (pe_own C_law_pick (hr.mono (by omega)) (by rfl) pass0 (pa_cons (pv 0) (pa_cons (pe_op (k_add (K := K)) (pv 2) (pe_lst (pa_cons pe_non pa_nil))) pa_nil))) (pa_cons (pe_own C_law_pick (hr.mono (by omega)) (by rfl) pass0 (pa_cons (pv 0) (pa_cons (pe_lst (pa_cons pe_int (pa_cons pe_int (pa_cons pe_int (pa_cons pe_int (pa_cons pe_int pa_nil)))))) pa_nil))) pa_nil))) (pg_name (i := 3) nd rfl (by first | exact .inl rfl | exact .inr rfl)))
    (pss_cons (ps_for PassesOwn.never rfl (pi_range1 (by rfl) (T.b_range) (pa_cons pe_int pa_nil)) (pg_name (i := 4) nd rfl (by first | exact .inl rfl | exact .inr rfl)) (pss_cons (ps_asg (pe_slice (k_sl (K := K)) (pe_own C_law_shuffled (hr.mono (by omega)) (by rfl) pass0 (pa_cons (pv 0) (pa_cons (pv 1) pa_nil))) po_none (po_some (pe_own C_law_pick (hr.mono (by omega)) (by rfl) pass0 (pa_cons (pv 0) (pa_cons (pe_lst (pa_cons pe_int (pa_cons pe_int (pa_cons pe_int (pa_cons pe_int (pa_cons pe_int (pa_cons pe_int pa_nil))))))) pa_nil))))) (pg_name (i := 5) nd rfl (by first | exact .inl rfl | exact .inr rfl)))
    (pss_one (ps_expr (pe_bm PySem.F.plainAttrs_list PySem.F.slot_list_append PySem.F.type_list_append mt_append (pv 3) (pa_cons (pe_callTy (kc_tuple (K := K)) (by rfl) T.b_tuple boot_tuple (pa_cons (pe_callB (kc_sorted (K := K) (P := P) (w := w) rfl) (by rfl) T.b_sorted boot_sorted (pa_cons (pe_callTy (kc_set (K := K) (P := P) (w := w) rfl) (by rfl) T.b_set boot_set (pa_cons (pv 5) pa_nil)) pa_nil)) pa_nil)) pa_nil))))))
    (pss_one (ps_ret (pe_callTy (kc_tuple (K := K)) (by rfl) T.b_tuple boot_tuple (pa_cons (pv 3) pa_nil)))))), ?_⟩
  obtain ⟨p, o, G, M, b, a1, a2, ns, rs, rfl, z, hp, hb, e1, e2, hn, hr2, wn, wr, q⟩ := h
  repeat (walk_at "z")
  refine z_newL z (by simp) fun q1 G1 H1 z1 s1 f1 => ?_
  repeat (walk_at "z")
  refine z_addL z1 (s1 _ _ e2) f1 (by rw [List.length_map]; simp; omega) fun q2 G2 H2 z2 s2 f2 => ?_
  repeat (walk_at "z")
  refine ⟨p, o, G2, _, b, _, rfl, z2, hp.up (s1.trans s2), by omega, .inl ⟨q2, _, rfl, .inl (SqL.of f2), by simp, by simp; omega, fun v G3 H3 o3 hv z3 s3 hp3 => ?_⟩⟩
  obtain ⟨r, rfl, okr⟩ := role_of (G := G) wr hv
  repeat (walk_at "z")
  refine z_newL z3 (by simp) fun q4 G4 H4 z4 s4 f4 => ?_
  repeat (walk_at "z")
  refine ⟨p, o3, G4, _, b + 1, _, rfl, z4, hp3.up s4, by omega, .inl ⟨q4, _, rfl, .inl (SqL.of f4), by simp, by simp, fun v G5 H5 o5 hv z5 s5 hp5 => ?_⟩⟩
  obtain ⟨m, rfl, m0, m1⟩ : ∃ i, v = V.int i ∧ 1 ≤ i ∧ i ≤ 3 := by
    simp at hv
    rcases hv with rfl | rfl | rfl <;> exact ⟨_, rfl, by decide, by decide⟩
  repeat (walk_at "z")
  refine z_ownP z5 (by simp) fun fa H6 z6 => ?_
  repeat (walk_at "z")
  have sA : Same G G5 := s1.trans (s2.trans (s3.trans (s4.trans s5)))
  refine z_itR (by omega) (by omega) ?_
  refine for_src src_R (fun i σ G' M' => ∃ o' ts k4 k5, ∃ ls : List (List Str), M' = (p, o') :: (fa, .lst (rV r :: .int m :: ts)) :: M ∧ Same G5 G' ∧ Pen K G' (b + 2 + 12 * i) o' ∧ Dts K G' ts (ls.map strsP) ∧ ls.length = i ∧ (∀ l ∈ ls, SL l ∧ l.length ≤ ns.length) ∧
    σ = [some (.ref p), some (.ref a1), some (.ref a2), some (.ref fa), k4, k5]) z6 ⟨o5, [], _, _, [], rfl, Same.refl _, hp5, .nil, rfl, by simp, rfl⟩ (fun _ _ _ _ _ _ _ => trivial) ?_ ?_
  · rintro i x σ G' M' H' hx ⟨o', ts, k4, k5, ls, rfl, s', hp', hd', rfl, hls, rfl⟩ z'
    obtain ⟨hi, rfl⟩ := rng_at hx
    have hi4 : ls.length < 4 := hi
    have htl : ts.length = ls.length := by rw [hd'.len (ds := []), List.length_map]
    repeat (walk_at "z")
    refine ⟨p, o', G', _, _, a1, ns.map V.str, rfl, z', hp', by rw [List.length_map]; omega, .inl (SqL.of (s' _ _ (sA _ _ e1))), el_wds wn, by rw [List.length_map]; omega, fun l ys G7 H7 o7 z7 s7 hp7 pm => ?_⟩
    obtain ⟨ts', rfl, pm'⟩ := perm_strs pm
    rw [List.length_map] at hp7
    repeat (walk_at "z")
    refine z_newL z7 (by simp) fun q8 G8 H8 z8 s8 f8 => ?_
    repeat (walk_at "z")
    refine ⟨p, o7, G8, _, _, _, rfl, z8, hp7.up s8, by omega, .inl ⟨q8, _, rfl, .inl (SqL.of f8), by simp, by simp, fun v G9 H9 o9 hv z9 s9 hp9 => ?_⟩⟩
    obtain ⟨k, rfl, k0, k1⟩ : ∃ i, v = V.int i ∧ 0 ≤ i ∧ i ≤ 2 := by
      simp at hv
      rcases hv with rfl | rfl | rfl <;> exact ⟨_, rfl, by decide, by decide⟩
    repeat (walk_at "z")
    refine z_slO z9 1 rfl fun q10 G10 H10 z10 s10 f10 => ?_
    rw [cut_map] at f10
    generalize hc : (List.take _ _ : List Str) = cs at f10
    have hcs : ∀ s ∈ cs, s ∈ ns := fun s hs => by
      rw [← hc] at hs
      exact pm'.mem_iff.mp (List.mem_of_mem_drop (List.mem_of_mem_take hs))
    have hcl : cs.length ≤ ns.length := by
      rw [← hc, List.length_take, List.length_drop]
      have := pm'.length_eq
      omega
    repeat (walk_at "z")
    refine z_tyO z10 2 rfl ?_
    repeat (walk_at "z")
    refine z_set z10 (.inl (SqL.of f10)) (by omega) fun q11 l11 G11 H11 z11 s11 f11 m11 n11 le11 => ?_
    repeat (walk_at "z")
    refine z_sortX z11 f11 m11 n11 (by omega) fun q12 G12 H12 z12 s12 f12 => ?_
    repeat (walk_at "z")
    refine z_tupL z12 (SqL.of f12) fun q13 G13 H13 z13 s13 h13 => ?_
    repeat (walk_at "z")
    refine z_append z13 2 rfl (by simp; omega) fun H14 z14 => ?_
    repeat (walk_at "z")
    have sZ : Same G7 G13 := s8.trans (s9.trans (s10.trans (s11.trans (s12.trans s13))))
    have z15 := z14.keep (M1 := (p, o9) :: (fa, .lst (rV r :: .int m :: ts ++ [V.ref q13])) :: M) (.cons_cons _ (.cons _ (List.Sublist.refl _)))
    refine ⟨_, _, z15, o9, ts ++ [.ref q13], _, _, ls ++ [asc cs], rfl, s'.trans (s7.trans sZ), (hp9.up (s10.trans (s11.trans (s12.trans s13)))).mono ?_, ?_, ?_, ?_, rfl⟩
    · omega
    · rw [List.map_append]
      exact (hd'.up (s7.trans sZ)).snoc (.tup h13 (dts_str _))
    · simp
    · intro l' hl'
      rcases List.mem_append.mp hl' with hl' | hl'
      · exact hls l' hl'
      · obtain rfl : l' = asc cs := by simpa using hl'
        exact ⟨SL.of (fun s hs => wd_word (wn s (hcs s hs))) (by omega), Nat.le_trans (asc_len cs) hcl⟩
  · rintro σ G' M' H' ⟨o', ts, k4, k5, ls, rfl, s', hp', hd', hlen, hls, rfl⟩ z'
    rw [rngV_len] at hlen hp'
    have hlen : ls.length = 4 := hlen
    obtain ⟨l1, l2, l3, l4, rfl⟩ : ∃ l1 l2 l3 l4, ls = [l1, l2, l3, l4] := by
      match ls, hlen with
      | [l1, l2, l3, l4], _ => exact ⟨l1, l2, l3, l4, rfl⟩
    repeat (walk_at "z")
    refine z_tupO z' 1 rfl fun q2 G2 H2 z2 s2 h2 => ?_
    have z3 := z2.keep (M1 := (p, o') :: M) (.cons_cons _ (.cons _ (List.Sublist.refl _)))
    refine q q2 ⟨r, m, l1, l2, l3, l4⟩ G2 _ o' z3 (sA.trans (s'.trans s2)) ((hp'.up s2).mono ?_) (.tup h2 (.cons (rDt _) (.cons (.int _) (hd'.up s2)))) ⟨okr, m0, m1, (hls _ (by simp)).1, (hls _ (by simp)).1, (hls _ (by simp)).1, (hls _ (by simp)).1⟩ ⟨(hls _ (by simp)).2, (hls _ (by simp)).2, (hls _ (by simp)).2, (hls _ (by simp)).2⟩
    show _ ≤ b + 100
    have : (4 : Int).toNat = 4 := rfl
    omega
end
end LW
namespace LW
open PySem PySem.Spec PyProof.Rows L2 Ys

/-! ### drawn tasks, in a dict -/
def Pts (K : PySem.W.Frag) (G : Hp) : List (Key × V) → List (Str × TkD) → Prop := Paired fun p q => p.1 = .inr q.1 ∧ ∃ a, p.2 = .ref a ∧ Dt K G (.ref a) (plainP q.2)
theorem Pts.up {K : PySem.W.Frag} {G G1 : Hp} {kvs tn} (h : Pts K G kvs tn) (s : Same G G1) : Pts K G1 kvs tn := L2.Paired.mapP h fun _ _ ⟨e, a, h1, h2⟩ => ⟨e, a, h1, h2.up s⟩
theorem Pts.keys {K : PySem.W.Frag} {G : Hp} : ∀ {kvs : List (Key × V)} {tn : List (Str × TkD)}, Pts K G kvs tn → kvs.map (·.1) = (tn.map (·.1)).map .inr
  | _, _, .nil => rfl
  | _, _, .cons h t => by rw [List.map_cons, List.map_cons, List.map_cons, h.1, Pts.keys t]
theorem pts_at {K : PySem.W.Frag} {G : Hp} {kvs : List (Key × V)} {tn : List (Str × TkD)} {i : Nat} (h : Pts K G kvs tn) (hi : i < kvs.length) : ∃ nm t a, kvs[i]? = some (.inr nm, .ref a) ∧ tn[i]? = some (nm, t) ∧ Dt K G (.ref a) (plainP t) := by
  obtain ⟨⟨pk, pv'⟩, ⟨qk, qt⟩, h1, h2, e1, a, e2, h3⟩ := pair_at h hi
  have e1 : pk = .inr qk := e1
  have e2 : pv' = .ref a := e2
  subst e1 e2
  exact ⟨qk, qt, a, h1, h2, h3⟩
theorem strs_dts {K : PySem.W.Frag} {G : Hp} : ∀ {xs : List V} {l : List Str}, Dts K G xs (l.map PyData.str) → xs = l.map V.str
  | _, [], h => by cases h; rfl
  | _, s :: l, h => by
    cases h with
    | cons a b =>
      cases a
      rw [strs_dts b]
      rfl
theorem strs_at {K : PySem.W.Frag} {G : Hp} {v : V} {l : List Str} (h : Dt K G v (strsP l)) : ∃ a, v = .ref a ∧ SqT K G a (l.map V.str) := by
  unfold strsP at h
  cases h with
  | tup hS hR => exact ⟨_, rfl, by rw [← strs_dts hR]; exact hS⟩
theorem role_at {K : PySem.W.Frag} {G : Hp} {v : V} {r : Option Str} (h : Dt K G v (rP r)) : v = rV r := by
  cases r with
  | none => cases h; rfl
  | some s => cases h; rfl
theorem plain_at {K : PySem.W.Frag} {G : Hp} {a : Addr} {t : TkD} (h : Dt K G (.ref a) (plainP t)) : ∃ a1 a2 a3 a4, SqT K G a [rV t.role, .int t.many, .ref a1, .ref a2, .ref a3, .ref a4] ∧ SqT K G a1 (t.l1.map V.str) ∧ SqT K G a2 (t.l2.map V.str) ∧ SqT K G a3 (t.l3.map V.str) ∧ SqT K G a4 (t.l4.map V.str) := by
  unfold plainP at h
  cases h with
  | tup hS hR =>
    cases hR with
    | cons h0 hR => cases hR with
      | cons h1 hR => cases hR with
        | cons h2 hR => cases hR with
          | cons h3 hR => cases hR with
            | cons h4 hR => cases hR with
              | cons h5 hR =>
                cases hR
                cases h1
                obtain ⟨a1, rfl, e1⟩ := strs_at h2
                obtain ⟨a2, rfl, e2⟩ := strs_at h3
                obtain ⟨a3, rfl, e3⟩ := strs_at h4
                obtain ⟨a4, rfl, e4⟩ := strs_at h5
                rw [role_at h0] at hS
                exact ⟨a1, a2, a3, a4, hS, e1, e2, e3, e4⟩
section
variable {P : Program} {w : World} {K : PySem.W.Frag} {mg : Str → Option Value} {base : Heap} {f : Addr} {fd : FuncData} {C CB : Addr}
def spLRem (K : PySem.W.Frag) : Sp := fun vs H Q _ => ∃ G M d kvs tn, vs = [.ref d] ∧ Zp G M H ∧ FzD G d kvs ∧ Pts K G kvs tn ∧ (tn.map (·.1)).Nodup ∧ (condL tn).length < 64 ∧ ∀ p G1 H1, Zp G1 M H1 → Same G G1 → SqT K G1 p ((remP tn).map V.str) → Q (.ref p) H1
theorem ok_law_rem (T : Nm K mg) (F : FnP K "_law_remembered" s_law_remembered f fd) : FnOk P w K mg base CX0 3 f fd ["_law_tasks"] (spLRem K) := by
  have nd : N_law_remembered.Nodup := sc_law_remembered.nd
  refine F.ok sc_law_remembered (fun vs H Q E h => ?_) (fun cdv A outer s H vs Q E hr h => ?_)
  · obtain ⟨G, M, d, kvs, tn, rfl, _⟩ := h
    rfl
  have hu := hr.units
  refine ⟨_, PSs.nox   (pss_cons (ps_asg (pe_lst pa_nil) (pg_name (i := 1) nd rfl (by first | exact .inl rfl | exact .inr rfl)))
    (pss_cons (ps_for PassesOwn.never rfl (pi_keys (pv 0)) (pg_name (i := 2) nd rfl (by first | exact .inl rfl | exact .inr rfl)) (pss_one (ps_asg (pe_op (k_add (K := K)) (pe_op (k_add (K := K)) (pv 1) (pe_callTy (kc_list (K := K)) (by rfl) T.b_list boot_list (pa_cons (pe_ix (k_ix (K := K)) (pe_dget (hu_of hr) (pv 0) (pv 2) (fun _ _ => rfl)) pe_int (fun _ _ => rfl)) pa_nil))) (pe_callTy (kc_list (K := K)) (by rfl) T.b_list boot_list (pa_cons (pe_ix (k_ix (K := K)) (pe_dget (hu_of hr) (pv 0) (pv 2) (fun _ _ => rfl)) pe_int (fun _ _ => rfl)) pa_nil))) (pg_name (i := 1) nd rfl (by first | exact .inl rfl | exact .inr rfl)))))
    (pss_one (ps_ret (pe_callTy (kc_tuple (K := K)) (by rfl) T.b_tuple boot_tuple (pa_cons (pe_callB (kc_sorted (K := K) (P := P) (w := w) rfl) (by rfl) T.b_sorted boot_sorted (pa_cons (pe_callTy (kc_set (K := K) (P := P) (w := w) rfl) (by rfl) T.b_set boot_set (pa_cons (pv 1) pa_nil)) pa_nil)) pa_nil)))))), ?_⟩
  obtain ⟨G, M, d, kvs, tn, rfl, z, ⟨od, hod⟩, hk, hnd, hc, q⟩ := h
  have hl : kvs.length = tn.length := keys_len hk
  have hkn : (kvs.map (·.1)).Nodup := by rw [hk.keys]; exact inr_nodup hnd
  repeat (walk_at "z")
  refine z_newL z (by simp) fun l0 G0 H0 z0 s0 e0 => ?_
  repeat (walk_at "z")
  refine z_itK z0 (s0 _ _ hod) ?_
  refine for_src src_K (fun i σ G' M' => ∃ fa k2, M' = M ∧ Same G0 G' ∧ G' fa = some (.lst ((condL (tn.take i)).map V.str)) ∧ σ = [some (.ref d), some (.ref fa), k2]) z0 ⟨l0, _, rfl, Same.refl _, by simpa [condL] using e0, rfl⟩ (fun i σ G' M' H' ⟨_, _, _, s', _⟩ z' => z'.sub _ _ (s' _ _ (s0 _ _ hod))) ?_ ?_
  · rintro i x σ G' M' H' hx ⟨fa, k2, rfl, s', ef, rfl⟩ z'
    have hi : i < kvs.length := by
      have := (List.getElem?_eq_some_iff.mp hx).1
      simpa using this
    obtain ⟨nm, t, a, h1, h2, h3⟩ := pts_at hk hi
    obtain ⟨p, h4, rfl⟩ := key_at hx
    rw [h1] at h4
    obtain rfl := Option.some.inj h4
    have h0' := s0.trans s'
    obtain ⟨a1, a2, a3, a4, hS, e1, e2, _⟩ := plain_at (h3.up h0')
    have hle := cond_le tn (i + 1)
    have hcd : condL (tn.take (i + 1)) = condL (tn.take i) ++ (t.l1 ++ t.l2) := take_cond h2
    rw [hcd, List.length_append, List.length_append] at hle
    repeat (walk_at "z")
    refine z_dgS z' (FzD.up ⟨od, hod⟩ h0') (valV_ix hkn h1) ?_
    repeat (walk_at "z")
    refine z_ixT z' hS (by rfl) ?_
    repeat (walk_at "z")
    refine z_listG z' (.inr e1) fun q2 G2 H2 z2 s2 f2 => ?_
    refine z_addL z2 (s2 _ _ ef) f2 (by rw [List.length_map, List.length_map]; omega) fun q3 G3 H3 z3 s3 f3 => ?_
    have s23 := s2.trans s3
    repeat (walk_at "z")
    refine z_dgS z3 (FzD.up ⟨od, hod⟩ (h0'.trans s23)) (valV_ix hkn h1) ?_
    repeat (walk_at "z")
    refine z_ixT z3 (upT s23 hS) (by rfl) ?_
    repeat (walk_at "z")
    refine z_listG z3 (.inr (upT s23 e2)) fun q4 G4 H4 z4 s4 f4 => ?_
    refine z_addL z4 (s4 _ _ f3) f4 (by rw [List.length_append, List.length_map, List.length_map, List.length_map]; omega) fun q5 G5 H5 z5 s5 f5 => ?_
    repeat (walk_at "z")
    refine ⟨G5, _, z5, q5, _, rfl, s'.trans (s23.trans (s4.trans s5)), ?_, rfl⟩
    rw [hcd, List.map_append, List.map_append, ← List.append_assoc]
    exact f5
  · rintro σ G3 M3 H3 ⟨fa, k2, rfl, s3, ef, rfl⟩ z3
    rw [List.length_map, hl, List.take_length] at ef
    repeat (walk_at "z")
    refine z_set z3 (.inl (SqL.of ef)) (by omega) fun p4 l4 G4 H4 z4 s4 e4 m4 nd4 l4' => ?_
    repeat (walk_at "z")
    refine z_sortX z4 e4 m4 nd4 (by omega) fun p5 G5 H5 z5 s5 e5 => ?_
    repeat (walk_at "z")
    exact z_tupL z5 (SqL.of e5) fun p6 G6 H6 z6 s6 h6 => q p6 G6 H6 z6 ((s0.trans s3).trans (s4.trans (s5.trans s6))) h6
def spLWid (K : PySem.W.Frag) : Sp := fun vs H Q _ => ∃ G M d kvs tn, vs = [.ref d] ∧ Zp G M H ∧ FzD G d kvs ∧ Pts K G kvs tn ∧ (tn.map (·.1)).Nodup ∧ (condL tn).length < 64 ∧ tn.length ≤ 1000 ∧ ∀ G1 H1, Zp G1 M H1 → Same G G1 → Q (.int (widP tn)) H1
theorem nums_succ {tn : List (Str × TkD)} {nm : Str} {j : Nat} {q : Str × TkD} (h : tn[j]? = some q) : ((tn.take (j + 1)).filter (hitP nm)).map (·.2.many) = if hitP nm q = true then ((tn.take j).filter (hitP nm)).map (·.2.many) ++ [q.2.many] else ((tn.take j).filter (hitP nm)).map (·.2.many) := by
  have := numsJ_succ (nm := nm) h
  unfold numsJ at this
  split at this
  · rename_i c
    rw [if_pos c]
    simpa using this
  · rename_i c
    rw [if_neg c]
    simpa using this
theorem ok_law_wid (T : Nm K mg) (C_law_remembered : Own P w K mg base CX0 3 "_law_remembered" ["_law_tasks"] (spLRem K)) (F : FnP K "_law_width" s_law_width f fd) : FnOk P w K mg base CX0 4 f fd ["_law_tasks"] (spLWid K) := by
  have nd : N_law_width.Nodup := sc_law_width.nd
  refine F.ok sc_law_width (fun vs H Q E h => ?_) (fun cdv A outer s H vs Q E hr h => ?_)
  · obtain ⟨G, M, d, kvs, tn, rfl, _⟩ := h
    rfl
  have hu := hr.units
  refine ⟨_, PSs.nox   (pss_cons (ps_asg pe_int (pg_name (i := 1) nd rfl (by first | exact .inl rfl | exact .inr rfl)))
    (pss_cons (ps_for PassesOwn.never rfl (k_any (K := K) (pe_own C_law_remembered (hr.mono (by omega)) (by rfl) pass0 (pa_cons (pv 0) pa_nil))) (pg_name (i := 2) nd rfl (by first | exact .inl rfl | exact .inr rfl)) (pss_cons (ps_setLc (i := 3) (own := [("_law_title", 4)]) rfl nd rfl rfl (sw_true rfl rfl rfl (by decide +kernel)) (pi_keys (pv 0)) (blkOk_by (N := N_law_width) (sc := defScope s_law_width) (by decide +kernel)) (fun _ _ _ _ _ => (pg_name (i := 4) nd rfl (by first | exact .inl rfl | exact .inr rfl))) (fun _ _ _ _ _ => pts_one (PW.pt (pw_or (pt_cmpR (k_eq (K := K) hu) (pv 4) (pv 2) (nomark _)) (pw_or1 (pt_cmpR (k_in (K := K)) (pv 2) (pe_ix (k_ix (K := K)) (pe_dget (hu_of hr) (pv 0) (pv 4) (fun _ _ => rfl)) pe_int (fun _ _ => rfl)) (by rfl)))))) (fun _ _ _ _ _ => (pe_ix (k_ix (K := K)) (pe_dget (hu_of hr) (pv 0) (pv 4) (fun _ _ => rfl)) pe_int (fun _ _ => rfl))))
    (pss_one (ps_asg (pe_op (k_add (K := K)) (pv 1) (pe_callB (kc_max (K := K) rfl) (by rfl) T.b_max boot_max (pa_cons (pe_op (k_add (K := K)) (pe_lst (pa_cons pe_int pa_nil)) (pe_lc (own := [("_law_size", 5)]) (tt := tYes) rfl nd (k_any (K := K) (pv 3)) (blkOk_by (N := N_law_width) (sc := defScope s_law_width) (by decide +kernel)) (fun _ _ _ _ _ => (pg_name (i := 5) nd rfl (by first | exact .inl rfl | exact .inr rfl))) (fun _ _ _ _ _ => pts_nil) (fun _ _ _ _ _ => (pe_callTy c_int (by rfl) T.b_int boot_int (pa_cons (pv 5) pa_nil))))) pa_nil))) (pg_name (i := 1) nd rfl (by first | exact .inl rfl | exact .inr rfl))))))
    (pss_one (ps_ret (pv 1))))), ?_⟩
  obtain ⟨G, M, d, kvs, tn, rfl, z, ⟨od, hod⟩, hk, hnd, hc, ht, q⟩ := h
  have hl : kvs.length = tn.length := keys_len hk
  have hkn : (kvs.map (·.1)).Nodup := by rw [hk.keys]; exact inr_nodup hnd
  repeat (walk_at "z")
  refine z_anyT ?_
  repeat (walk_at "z")
  refine ⟨G, M, d, kvs, tn, rfl, z, ⟨od, hod⟩, hk, hnd, hc, fun l1 G1 H1 z1 s1 e1 => ?_⟩
  refine z_itT z1 e1 ?_
  refine for_src src_T (fun i σ G' M' => ∃ k2 k3 k4 k5, M' = M ∧ Same G1 G' ∧ σ = [some (.ref d), some (.int (((remP tn).take i).map fun nm => maxI (numsP tn nm)).sum), k2, k3, k4, k5]) z1 ⟨_, _, _, _, rfl, Same.refl _, rfl⟩ (fun i σ G' M' H' ⟨_, _, _, _, _, s', _⟩ z' => z'.seqT (upT s' e1)) ?_ ?_
  · rintro i x σ G' M' H' hx ⟨k2, k3, k4, k5, rfl, s', rfl⟩ z'
    rw [List.getElem?_map] at hx
    obtain ⟨nm, hnm, rfl⟩ := Option.map_eq_some_iff.mp hx
    have s1' := s1.trans s'
    repeat (walk_at "z")
    refine z_itK z' (s1' _ _ hod) ?_
    refine lc_src src_K (fun j G2 M2 acc => M2 = M' ∧ Same G' G2 ∧ acc = (((tn.take j).filter (hitP nm)).map (·.2.many)).map V.int) z' ⟨rfl, Same.refl _, rfl⟩ (fun j G2 M2 M3 acc H2 ⟨_, s2, _⟩ z2 => z2.sub _ _ ((s1'.trans s2) _ _ hod)) ?_ ?_
    · rintro j y G2 M2 acc Dl H2 hy ⟨rfl, s2, rfl⟩ z2
      have hj : j < kvs.length := by
        have := (List.getElem?_eq_some_iff.mp hy).1
        simpa using this
      obtain ⟨nm', t, a, h1, h2, h3⟩ := pts_at hk hj
      obtain ⟨p, h4, rfl⟩ := key_at hy
      rw [h1] at h4
      obtain rfl := Option.some.inj h4
      have s12 := s1'.trans s2
      obtain ⟨a1, a2, a3, a4, hS, _, _, e3, _⟩ := plain_at (h3.up s12)
      have hsu := nums_succ (nm := nm) h2
      have hfl := List.length_filter_le (hitP nm) (tn.take j)
      rw [List.length_take] at hfl
      repeat (walk_at "z")
      refine ⟨by rfl, ?_⟩
      repeat (walk_at "z")
      refine z_eqS rfl ?_
      by_cases c : nm' = nm
      · rw [decide_eq_true (show kV (.inr nm') = V.str nm by rw [c]; rfl)]
        repeat (walk_at "z")
        refine z_dgS z2 (FzD.up ⟨od, hod⟩ s12) (valV_ix hkn h1) ?_
        repeat (walk_at "z")
        refine z_ixT z2 hS (by rfl) ?_
        refine z_laid z2 (by rw [List.length_map, List.length_map]; omega) ⟨rfl, s2, ?_⟩
        rw [hsu, if_pos (by unfold hitP; rw [decide_eq_true c]; rfl), List.map_append]
        rfl
      · rw [decide_eq_false (show ¬ kV (.inr nm') = V.str nm from fun e => c (V.str.inj e))]
        repeat (walk_at "z")
        refine z_dgS z2 (FzD.up ⟨od, hod⟩ s12) (valV_ix hkn h1) ?_
        repeat (walk_at "z")
        refine z_ixT z2 hS (by rfl) ?_
        refine z_inT z2 e3 ?_
        by_cases c2 : nm ∈ t.l3
        · rw [decide_eq_true c2]
          repeat (walk_at "z")
          refine z_dgS z2 (FzD.up ⟨od, hod⟩ s12) (valV_ix hkn h1) ?_
          repeat (walk_at "z")
          refine z_ixT z2 hS (by rfl) ?_
          refine z_laid z2 (by rw [List.length_map, List.length_map]; omega) ⟨rfl, s2, ?_⟩
          rw [hsu, if_pos (by unfold hitP; rw [decide_eq_true c2, Bool.or_true]), List.map_append]
          rfl
        · rw [decide_eq_false c2]
          repeat (walk_at "z")
          refine z_left z2 ⟨rfl, s2, ?_⟩
          rw [hsu, if_neg (by unfold hitP; rw [decide_eq_false c, decide_eq_false c2]; simp)]
    rintro p2 G2 M2 acc G3 H3 ⟨rfl, s2, rfl⟩ s3 z3 e3
    rw [List.length_map, hl, List.take_length] at e3
    have hfl := List.length_filter_le (hitP nm) tn
    repeat (walk_at "z")
    refine z_newL z3 (by simp) fun p4 G4 H4 z4 s4 e4 => ?_
    repeat (walk_at "z")
    refine z_anyL ?_
    repeat (walk_at "z")
    refine z_itL z4 (SqL.of (s4 _ _ e3)) ?_
    refine lc_src src_L (fun j G5 M5 acc => M5 = M2 ∧ Same G4 G5 ∧ acc = (((tn.filter (hitP nm)).map (·.2.many)).take j).map V.int) z4 ⟨rfl, Same.refl _, rfl⟩ (fun j G5 M5 M1 acc H5 ⟨_, s5, _⟩ z5 => z5.seqL (upL s5 (SqL.of (s4 _ _ e3)))) ?_ ?_
    · rintro j y G5 M5 acc Dl H5 hy ⟨rfl, s5, rfl⟩ z5
      rw [List.getElem?_map] at hy
      obtain ⟨n, hn, rfl⟩ := Option.map_eq_some_iff.mp hy
      repeat (walk_at "z")
      refine ⟨by rfl, ?_⟩
      repeat (walk_at "z")
      refine z_laid z5 (by rw [List.length_map, List.length_take, List.length_map]; omega) ⟨rfl, s5, ?_⟩
      rw [List.take_add_one, hn]
      simp
    rintro p5 G5 M5 acc G6 H6 ⟨rfl, s5, rfl⟩ s6 z6 e6
    rw [List.length_map, List.take_length] at e6
    refine z_addL z6 ((s5.trans s6) _ _ e4) e6 (by rw [List.length_map, List.length_map]; simp; omega) fun p7 G7 H7 z7 s7 e7 => ?_
    have e7 : G7 p7 = some (.lst ((numsP tn nm).map V.int)) := e7
    repeat (walk_at "z")
    refine z_max z7 (SqL.of e7) (maxI_num tn nm) (fun y hy => maxI_ub y hy) ?_
    repeat (walk_at "z")
    refine ⟨G7, _, z7, some (.str nm), some (.ref p2), k4, k5, rfl, s'.trans (s2.trans (s3.trans (s4.trans (s5.trans (s6.trans s7))))), ?_⟩
    rw [List.take_add_one, hnm]
    simp
  · rintro σ G' M' H' ⟨k2, k3, k4, k5, rfl, s', rfl⟩ z'
    repeat (walk_at "z")
    have := q G' H' z' (s1.trans s')
    unfold widP at this
    rw [List.length_map, List.take_length]
    exact this
end
end LW
namespace LW
open PySem PySem.Spec PyProof.Rows L2 Ys
/-! ### how long a plan is when shown -/
theorem rc_one {q c : Nat} (hq : q = 34 ∨ q = 39) (h1 : 97 ≤ c) (h2 : c ≤ 122) : (Builtin.Str.reprChar q c).length = 1 := by
  have h : (List.range 26).all (fun k => decide ((Builtin.Str.reprChar 34 (97 + k)).length = 1) && decide ((Builtin.Str.reprChar 39 (97 + k)).length = 1)) = true := by decide +kernel
  have := List.all_eq_true.mp h (c - 97) (List.mem_range.mpr (by omega))
  have e : 97 + (c - 97) = c := by omega
  rw [e] at this
  obtain ⟨a, b⟩ := Bool.and_eq_true_iff.mp this
  rcases hq with rfl | rfl
  · exact of_decide_eq_true a
  · exact of_decide_eq_true b
theorem fold_one {q : Nat} (hq : q = 34 ∨ q = 39) : ∀ (l : List Nat) (n : Nat), (∀ c ∈ l, 97 ≤ c ∧ c ≤ 122) → l.foldl (fun n c => n + (Builtin.Str.reprChar q c).length) n = n + l.length
  | [], n, _ => rfl
  | c :: r, n, h => by
    have hc := h c (List.mem_cons_self ..)
    rw [List.foldl_cons, rc_one hq hc.1 hc.2, fold_one hq r _ fun d hd => h d (List.mem_cons_of_mem _ hd), List.length_cons]
    omega
theorem rt_len {s : Str} (h : Lt s) : (reprText s).length = s.length + 2 := by
  have hq : reprQuote s = 34 ∨ reprQuote s = 39 := by
    unfold reprQuote
    split
    · exact .inl rfl
    · exact .inr rfl
  rw [← reprLen_eq, ← Array.foldl_toList, fold_one hq _ _ h]
  have e : s.cps.toList.length = s.length := by simp [Str.length]
  omega
theorem joinP : ∀ ts : List Str, (Str.join ", " ts).length ≤ piled ts
  | [] => Nat.zero_le _
  | t :: ts => by
    have := join_length_add (t :: ts) (by simp)
    omega
theorem tup_len (ts : List Str) : (tupleText ts).length ≤ piled ts + 3 := by
  have h1 := joinP ts
  unfold tupleText
  have e1 : ((",)" : String) : Str).length = 2 := rfl
  have e2 : ((")" : String) : Str).length = 1 := rfl
  have e3 : ((if (ts.length == 1) = true then ",)" else ")" : String) : Str).length ≤ 2 := by
    split
    · exact Nat.le_of_eq e1
    · rw [e2]; decide
  rw [PySem.Str.length_append, PySem.Str.length_append]
  have e4 : (("(" : Str)).length = 1 := rfl
  rw [e4]
  omega
theorem tf_len : ∀ (ts : List Str) (k : Nat) (acc : Str), (textFrom k acc ts).length ≤ acc.length + piled ts
  | [], k, acc => by show acc.length ≤ _; exact Nat.le_add_right _ _
  | t :: r, k, acc => by
    have ih := tf_len r (k + 1) (acc ++ (if k > 0 then ", " else "" : String) ++ t)
    have e : (acc ++ (if k > 0 then ", " else "" : String) ++ t).length ≤ acc.length + 2 + t.length := by
      rw [PySem.Str.length_append, PySem.Str.length_append]
      have : ((if k > 0 then ", " else "" : String) : Str).length ≤ 2 := by split <;> decide
      omega
    show (textFrom (k + 1) _ r).length ≤ _
    rw [piled_cons]
    omega
theorem lst_len (ts : List Str) : (listText ts).length ≤ piled ts + 2 := by
  have h := tf_len ts 0 "["
  have e1 : (("[" : String) : Str).length = 1 := rfl
  have e2 : (("]" : String) : Str).length = 1 := rfl
  unfold listText
  rw [PySem.Str.length_append, e2]
  rw [e1] at h
  omega
theorem sAll_map : ∀ ds : List PyData, PyData.shownAll ds = ds.map PyData.shown
  | [] => rfl
  | d :: ds => congrArg (PyData.shown d :: ·) (sAll_map ds)
theorem sAll_ok : ∀ {ds : List PyData}, (∀ d ∈ ds, d.showable = true) → PyData.showableAll ds = true
  | [], _ => rfl
  | d :: ds, h => by
    show (d.showable && PyData.showableAll ds) = true
    rw [h d (List.mem_cons_self ..), sAll_ok fun e he => h e (List.mem_cons_of_mem _ he)]
    rfl
theorem hd_lt (h : Hd) : Lt h.s ∧ h.s.length ≤ 6 := by
  have e : ∀ s : Str, (s.cps.toList.all fun c => decide (97 ≤ c) && decide (c ≤ 122)) = true → Lt s := fun s k c hc => by
    have := List.all_eq_true.mp k c hc
    simpa using this
  cases h <;> exact ⟨e _ (by decide +kernel), by decide +kernel⟩
structure Shw (d : PyData) (n : Nat) : Prop where
  ok : d.showable = true
  le : d.shown.length ≤ n
theorem Shw.mono {n m : Nat} {d : PyData} (h : Shw d n) (hn : n ≤ m) : Shw d m := ⟨h.ok, Nat.le_trans h.le hn⟩
theorem shw_wd {s : Str} (h : Wd s) : Shw (.str s) 10 := ⟨rfl, by
  show (reprText s).length ≤ 10
  rw [rt_len h.2.2]
  have := h.2.1
  omega⟩
theorem piled_pls {ps : List Pl} (h : ∀ p ∈ ps, (Pl.d p).shown.length + 2 ≤ 16 * p.sz) : piled (PyData.shownAll (Pl.dl ps)) ≤ 16 * Pl.szl ps := by
  induction ps with
  | nil => exact Nat.zero_le _
  | cons p ps ih =>
    have h1 := h p (by simp)
    have h2 := ih fun q hq => h q (List.mem_cons_of_mem _ hq)
    rw [Pl.dl]
    show piled (PyData.shown (Pl.d p) :: PyData.shownAll (Pl.dl ps)) ≤ _
    rw [piled_cons, Pl.szl]
    omega
theorem shw_pl0 : ∀ p, Nms p → (Pl.d p).showable = true ∧ (Pl.d p).shown.length + 2 ≤ 16 * p.sz := Pl.ind (fun s k => by
    cases k with
    | nm k =>
      rw [Pl.d, Pl.sz]
      have := (shw_wd k).le
      exact ⟨rfl, by omega⟩) fun h ps ih k => by
  have hk := fun p hp => ih p hp (k.kids p hp)
  have h1 := piled_pls fun p hp => (hk p hp).2
  rw [Pl.d, Pl.sz]
  refine ⟨?_, ?_⟩
  · show (true && PyData.showableAll (Pl.dl ps)) = true
    rw [Bool.true_and]
    refine sAll_ok fun d hd => ?_
    rw [dl_map] at hd
    obtain ⟨p, hp, rfl⟩ := List.mem_map.mp hd
    exact (hk p hp).1
  · show (tupleText (reprText h.s :: PyData.shownAll (Pl.dl ps))).length + 2 ≤ _
    have h2 := tup_len (reprText h.s :: PyData.shownAll (Pl.dl ps))
    rw [piled_cons, rt_len (hd_lt h).1] at h2
    have := (hd_lt h).2
    omega
theorem shw_pl {p : Pl} (k : Nms p) : Shw p.d (16 * p.sz) := ⟨(shw_pl0 p k).1, by have := (shw_pl0 p k).2; omega⟩
theorem shw_pls {ps : List Pl} (k : ∀ p ∈ ps, Nms p) : Shw (.list (Pl.dl ps)) (16 * Pl.szl ps + 2) := by
  refine ⟨?_, ?_⟩
  · show PyData.showableAll (Pl.dl ps) = true
    refine sAll_ok fun d hd => ?_
    rw [dl_map] at hd
    obtain ⟨p, hp, rfl⟩ := List.mem_map.mp hd
    exact (shw_pl (k p hp)).ok
  · show (listText (PyData.shownAll (Pl.dl ps))).length ≤ _
    have h1 := lst_len (PyData.shownAll (Pl.dl ps))
    have h2 := piled_pls fun p hp => (shw_pl0 p (k p hp)).2
    omega
theorem piled_le {n : Nat} : ∀ {ts : List Str}, (∀ t ∈ ts, t.length ≤ n) → piled ts ≤ (n + 2) * ts.length
  | [], _ => Nat.zero_le _
  | t :: ts, h => by
    have h1 := h t (List.mem_cons_self ..)
    have h2 := piled_le (ts := ts) fun u hu => h u (List.mem_cons_of_mem _ hu)
    rw [piled_cons, List.length_cons, Nat.mul_add, Nat.mul_one]
    omega
theorem shw_tup {n : Nat} {ds : List PyData} (h : ∀ d ∈ ds, Shw d n) : Shw (.tuple ds) ((n + 2) * ds.length + 3) := by
  refine ⟨sAll_ok fun d hd => (h d hd).ok, ?_⟩
  show (tupleText (PyData.shownAll ds)).length ≤ _
  have h1 := tup_len (PyData.shownAll ds)
  have h2 := piled_le (n := n) (ts := PyData.shownAll ds) fun t ht => by
    rw [sAll_map] at ht
    obtain ⟨d, hd, rfl⟩ := List.mem_map.mp ht
    exact (h d hd).le
  rw [sAll_map, List.length_map] at h2
  rw [sAll_map] at h1 ⊢
  omega
theorem shw_lst {n : Nat} {ds : List PyData} (h : ∀ d ∈ ds, Shw d n) : Shw (.list ds) ((n + 2) * ds.length + 2) := by
  refine ⟨sAll_ok fun d hd => (h d hd).ok, ?_⟩
  show (listText (PyData.shownAll ds)).length ≤ _
  have h1 := lst_len (PyData.shownAll ds)
  have h2 := piled_le (n := n) (ts := PyData.shownAll ds) fun t ht => by
    rw [sAll_map] at ht
    obtain ⟨d, hd, rfl⟩ := List.mem_map.mp ht
    exact (h d hd).le
  rw [sAll_map, List.length_map] at h2
  rw [sAll_map] at h1 ⊢
  omega
end LW
namespace LW
open PySem PySem.Spec PyProof.Rows L2 Ys

/-! ### what is in normal form -/
def isTh : Pl → Bool
  | .nd .th _ => true
  | _ => false
inductive Nfm : Pl → Prop
  | nm {s : Str} : Nfm (.nm s)
  | nd {h : Hd} {ps : List Pl} : (∀ q ∈ ps, Nfm q) → (h = .th → (∀ q ∈ ps, isTh q = false) ∧ ps.length ≠ 1) → (h = .be → ∀ q ∈ ps, isDone q = false) → Nfm (.nd h ps)
theorem Nfm.kids {h : Hd} {ps : List Pl} (k : Nfm (.nd h ps)) : ∀ q ∈ ps, Nfm q := by cases k with | nd a b c => exact a
theorem Nfm.th {ps : List Pl} (k : Nfm (.nd .th ps)) : (∀ q ∈ ps, isTh q = false) ∧ ps.length ≠ 1 := by cases k with | nd a b c => exact b rfl
theorem Nfm.be {ps : List Pl} (k : Nfm (.nd .be ps)) : ∀ q ∈ ps, isDone q = false := by cases k with | nd a b c => exact c rfl
theorem Nfm.done : Nfm done := .nd (fun q h => by cases h) (fun _ => ⟨(fun q h => by cases h), by decide⟩) (fun h => by cases h)
theorem parts1_other {p : Pl} (h : isTh p = false) : parts1 p = [p] := by
  cases p with
  | nm s => rfl
  | nd hd ps =>
    cases hd with
    | th => exact Bool.noConfusion (show true = false from h)
    | _ => rfl
theorem flat_none : ∀ {l : List Pl}, (∀ q ∈ l, isTh q = false) → flat l = l
  | [], _ => rfl
  | a :: r, h => by
    show parts1 a ++ flat r = a :: r
    rw [parts1_other (h a (by simp)), flat_none fun q hq => h q (List.mem_cons_of_mem _ hq)]
    rfl
theorem parts1_nfm {p : Pl} (k : Nfm p) : ∀ q ∈ parts1 p, Nfm q ∧ isTh q = false := by
  cases hp : isTh p with
  | false =>
    rw [parts1_other hp]
    intro q hq
    rw [List.mem_singleton.mp hq]
    exact ⟨k, hp⟩
  | true =>
    cases p with
    | nm s => cases hp
    | nd h ps =>
      cases h with
      | th => exact fun q hq => ⟨k.kids q hq, k.th.1 q hq⟩
      | _ => cases hp
theorem flat_nfm : ∀ {l : List Pl}, (∀ x ∈ l, Nfm x) → ∀ q ∈ flat l, Nfm q ∧ isTh q = false
  | [], _, q, hq => by cases hq
  | a :: r, h, q, hq => by
    rcases List.mem_append.mp (show q ∈ parts1 a ++ flat r from hq) with z | z
    · exact parts1_nfm (h a (by simp)) q z
    · exact flat_nfm (fun x hx => h x (List.mem_cons_of_mem _ hx)) q z
theorem wrap_nfm {l : List Pl} (h : ∀ q ∈ l, Nfm q ∧ isTh q = false) : Nfm (wrap l) := by
  rcases wrap_cases l with ⟨x, e1, e2⟩ | e
  · rw [e2]
    exact (h x (by rw [e1]; simp)).1
  · rw [e]
    by_cases hl : l.length = 1
    · match l, hl, e, h with
      | [x], _, e, h => 
        have : wrap [x] = x := rfl
        rw [← e, this]
        exact (h x (by simp)).1
    · exact .nd (fun q hq => (h q hq).1) (fun _ => ⟨fun q hq => (h q hq).2, hl⟩) (fun h => by cases h)
theorem seqn_nfm {l : List Pl} (h : ∀ x ∈ l, Nfm x) : Nfm (seqn l) := wrap_nfm (flat_nfm h)
theorem along_nfm {a b : Pl} (h1 : Nfm a) (h2 : Nfm b) : Nfm (along a b) := by
  unfold along
  split
  · exact h2
  · split
    · exact h1
    · rename_i c1 c2
      exact .nd (fun q hq => by
        rcases List.mem_cons.mp hq with rfl | hq
        · exact h1
        · rw [List.mem_singleton.mp hq]; exact h2) (fun h => by cases h) fun _ q hq => by
        rcases List.mem_cons.mp hq with rfl | hq
        · exact Bool.eq_false_iff.mpr c1
        · rw [List.mem_singleton.mp hq]; exact Bool.eq_false_iff.mpr c2
theorem mk_nfm {h : Hd} {ps : List Pl} (k : ∀ x ∈ ps, Nfm x) (hf : h.fit ps.length = true) : Nfm (mk h ps) := by
  cases h with
  | th => exact seqn_nfm k
  | be =>
    match ps, (of_decide_eq_true hf : ps.length = 2), k with
    | [a, b], _, k => exact along_nfm (k a (by simp)) (k b (by simp))
  | ei => exact .nd k (fun h => by cases h) (fun h => by cases h)
  | an => exact .nd k (fun h => by cases h) (fun h => by cases h)
  | ag => exact .nd k (fun h => by cases h) (fun h => by cases h)
theorem nf_nfm : ∀ p b, Ok b p → Nfm (nf p) := Pl.ind (fun s b k => by rw [nf]; exact .nm) fun h ps ih b k => by
  rw [nf, nfl_map]
  refine mk_nfm (fun x hx => ?_) (by rw [List.length_map]; exact k.fit)
  obtain ⟨q, hq, rfl⟩ := List.mem_map.mp hx
  exact ih q hq _ (k.kids q hq)
theorem nfm_nf : ∀ p b, Ok b p → Nfm p → nf p = p := Pl.ind (fun s b _ _ => by rw [nf]) fun h ps ih b k n => by
  have e : ps.map nf = ps := by
    have : ps.map nf = ps.map id := List.map_congr_left fun q hq => ih q hq _ (k.kids q hq) (n.kids q hq)
    rw [this, List.map_id]
  rw [nf, nfl_map, e]
  cases h with
  | th =>
    obtain ⟨h1, h2⟩ := n.th
    show wrap (flat ps) = _
    rw [flat_none h1]
    rcases wrap_cases ps with ⟨x, e1, _⟩ | e
    · rw [e1] at h2; exact absurd rfl h2
    · exact e
  | be =>
    have nb := n.be
    match ps, (of_decide_eq_true k.fit : ps.length = 2), nb with
    | [a, b], _, nb =>
      show along a b = _
      unfold along
      rw [nb a (by simp), nb b (by simp)]
      rfl
  | ei => rfl
  | an => rfl
  | ag => rfl
theorem wc_nfm : ∀ p b, Ok b p → Nfm p → ∀ c ∈ wc p, Nfm c := Pl.ind (fun s b _ _ c hc => by rw [wc] at hc; cases hc) fun h ps ih b k n c hc => by
  have hk := k.kids
  cases h with
  | ei => rw [wc] at hc; exact n.kids c hc
  | an => rw [wc] at hc; cases hc
  | ag =>
    rw [wc] at hc
    rcases List.mem_cons.mp hc with rfl | hc
    · exact .done
    · rw [List.mem_singleton.mp hc]
      match ps, (of_decide_eq_true k.fit : ps.length = 1), n with
      | [a], _, n =>
        refine seqn_nfm fun x hx => ?_
        rcases List.mem_cons.mp hx with rfl | hx
        · exact n.kids _ (by simp)
        · rw [List.mem_singleton.mp hx]; exact n
  | th =>
    rw [wc] at hc
    cases ps with
    | nil => cases hc
    | cons a r =>
      rw [wcT] at hc
      obtain ⟨x, hx, rfl⟩ := List.mem_map.mp hc
      refine seqn_nfm fun y hy => ?_
      rcases List.mem_cons.mp hy with rfl | hy
      · exact ih a (by simp) _ (hk a (by simp)) (n.kids a (by simp)) _ hx
      · exact n.kids y (by simp [hy])
  | be =>
    rw [wc] at hc
    match ps, (of_decide_eq_true k.fit : ps.length = 2), n, ih, hk with
    | [a, b2], _, n, ih, hk =>
      have na := n.kids a (by simp)
      have nb := n.kids b2 (by simp)
      rw [wcB] at hc
      split at hc
      · rw [wcC] at hc
        obtain ⟨x, hx, rfl⟩ := List.mem_map.mp hc
        exact along_nfm na (ih b2 (by simp) _ (hk b2 (by simp)) nb x hx)
      · rename_i l _ 
        obtain ⟨x, hx, rfl⟩ := List.mem_map.mp hc
        exact along_nfm (ih a (by simp) _ (hk a (by simp)) na x hx) nb
/-! ### the places, by the law -/
mutual
def frt : Pl → List Pl
  | .nm s => [.nm s]
  | .nd .an ps => [.nd .an ps]
  | .nd .th ps => frtT ps
  | .nd .be ps => frtB ps
  | .nd .ei _ => []
  | .nd .ag _ => []
def frtT : List Pl → List Pl
  | [] => []
  | a :: _ => frt a
def frtB : List Pl → List Pl
  | [] => []
  | a :: r => frt a ++ frtB r
end
theorem frt_spl : ∀ p b, Ok b p → wc p = [] → frt p = spl p := Pl.ind (fun s b _ _ => by rw [frt, spl]) fun h ps ih b k e => by
  have hk := k.kids
  cases h with
  | ei => exact absurd e fun e => (wc_ei k e).elim
  | ag => exact absurd e fun e => (wc_ag e).elim
  | an => rw [frt, spl]
  | th =>
    rw [frt, spl]
    cases ps with
    | nil => rw [frtT, splT]
    | cons a r => rw [frtT, splT]; exact ih a (by simp) _ (hk a (by simp)) (wc_th e)
  | be =>
    match ps, (of_decide_eq_true k.fit : ps.length = 2), ih, hk, e with
    | [a, b2], _, ih, hk, e =>
      obtain ⟨e1, e2⟩ := wc_be e
      have s1 : spl (.nd .be [a, b2]) = spl a ++ (spl b2 ++ []) := by rw [spl, splB, splB, splB] <;> exact fun h => by cases h
      rw [s1, frt, frtB, frtB, frtB, ih a (by simp) _ (hk a (by simp)) e1, ih b2 (by simp) _ (hk b2 (by simp)) e2]
theorem frt_sz : ∀ p, Pl.szl (frt p) ≤ p.sz := Pl.ind (fun s => by rw [frt]; simp [Pl.szl]) fun h ps ih => by
  cases h with
  | ei => rw [frt]; simp [Pl.szl]
  | ag => rw [frt]; simp [Pl.szl]
  | an => rw [frt]; simp [Pl.szl]
  | th =>
    rw [frt]
    cases ps with
    | nil => rw [frtT]; simp [Pl.szl]
    | cons a r =>
      rw [frtT, Pl.sz, Pl.szl]
      have := ih a (by simp)
      omega
  | be =>
    rw [frt, Pl.sz]
    have go : ∀ l : List Pl, (∀ p ∈ l, p ∈ ps) → Pl.szl (frtB l) ≤ Pl.szl l := by
      intro l
      induction l with
      | nil => intro _; rw [frtB]; exact Nat.le_refl _
      | cons a r ihr =>
        intro hl
        have h1 := ih a (hl a (by simp))
        have h2 := ihr fun p hp => hl p (List.mem_cons_of_mem _ hp)
        rw [frtB, Pl.szl, szl_app]
        omega
    have := go ps fun _ h => h
    omega
theorem frt_nms : ∀ p, Nms p → ∀ q ∈ frt p, Nms q := Pl.ind (fun s k q hq => by rw [frt] at hq; rw [List.mem_singleton.mp hq]; exact k) fun h ps ih k q hq => by
  cases h with
  | ei => rw [frt] at hq; cases hq
  | ag => rw [frt] at hq; cases hq
  | an => rw [frt] at hq; rw [List.mem_singleton.mp hq]; exact k
  | th =>
    rw [frt] at hq
    cases ps with
    | nil => rw [frtT] at hq; cases hq
    | cons a r => rw [frtT] at hq; exact ih a (by simp) (k.kids a (by simp)) q hq
  | be =>
    rw [frt] at hq
    have go : ∀ l : List Pl, (∀ p ∈ l, p ∈ ps) → q ∈ frtB l → Nms q := by
      intro l
      induction l with
      | nil => intro _ h; rw [frtB] at h; cases h
      | cons a r ihr =>
        intro hl h
        rw [frtB] at h
        rcases List.mem_append.mp h with h | h
        · exact ih a (hl a (by simp)) (k.kids a (hl a (by simp))) q h
        · exact ihr (fun p hp => hl p (List.mem_cons_of_mem _ hp)) h
    exact go ps (fun _ h => h) hq
/-! ### how much the choices show -/
theorem wc_few : ∀ p b, Ok b p → (wc p).length ≤ 2 ∨ ∀ c ∈ wc p, c.sz + (wc p).length ≤ p.sz := Pl.ind (fun s b _ => .inl (by rw [wc]; exact Nat.zero_le _)) fun h ps ih b k => by
  have hk := k.kids
  have seq_le : ∀ (x : Pl) (r : List Pl), (seqn (x :: r)).sz ≤ 1 + x.sz + Pl.szl r := fun x r => by
    have h1 := flat_sz (x :: r)
    rw [Pl.szl] at h1
    unfold seqn
    rcases wrap_cases (flat (x :: r)) with ⟨y, e1, e2⟩ | e
    · rw [e2]
      rw [e1, Pl.szl, Pl.szl] at h1
      omega
    · rw [e, Pl.sz]
      omega
  have al_le : ∀ x y : Pl, (along x y).sz ≤ 1 + x.sz + y.sz := fun x y => by
    unfold along
    split
    · omega
    · split
      · omega
      · simp only [Pl.sz, Pl.szl]; omega
  cases h with
  | ei =>
    refine .inr fun c hc => ?_
    rw [wc] at hc ⊢
    rw [Pl.sz]
    have go : ∀ l : List Pl, c ∈ l → c.sz + l.length ≤ 1 + Pl.szl l := by
      intro l
      induction l with
      | nil => intro h; cases h
      | cons a r ihr =>
        intro h
        rw [Pl.szl, List.length_cons]
        rcases List.mem_cons.mp h with rfl | h
        · have := len_szl r
          omega
        · have := ihr h
          have := sz_pos a
          omega
    have := go ps hc
    omega
  | an => exact .inl (by rw [wc]; exact Nat.zero_le _)
  | ag => exact .inl (by rw [wc]; exact Nat.le_refl _)
  | th =>
    cases ps with
    | nil => exact .inl (by rw [wc, wcT]; exact Nat.zero_le _)
    | cons a r =>
      have e : wc (.nd .th (a :: r)) = (wc a).map fun x => seqn (x :: r) := by rw [wc, wcT]
      rcases ih a (by simp) _ (hk a (by simp)) with h1 | h1
      · exact .inl (by rw [e, List.length_map]; exact h1)
      · refine .inr fun c hc => ?_
        rw [e] at hc ⊢
        obtain ⟨x, hx, rfl⟩ := List.mem_map.mp hc
        have := h1 x hx
        have := seq_le x r
        rw [List.length_map, Pl.sz, Pl.szl]
        omega
  | be =>
    match ps, (of_decide_eq_true k.fit : ps.length = 2), ih, hk with
    | [a, b2], _, ih, hk =>
      rcases hw : (wc a).map (fun x => along x b2) with _ | ⟨y, ys⟩
      · have e : wc (.nd .be [a, b2]) = (wc b2).map fun x => along a x := by
          rw [wc, wcB]
          have : (wc a).map (fun x => along x ([b2].headD done)) = [] := hw
          rw [this, wcC]
        rcases ih b2 (by simp) _ (hk b2 (by simp)) with h1 | h1
        · exact .inl (by rw [e, List.length_map]; exact h1)
        · refine .inr fun c hc => ?_
          rw [e] at hc ⊢
          obtain ⟨x, hx, rfl⟩ := List.mem_map.mp hc
          have := h1 x hx
          have := al_le a x
          rw [List.length_map]
          simp only [Pl.sz, Pl.szl]
          omega
      · have e : wc (.nd .be [a, b2]) = (wc a).map fun x => along x b2 := by
          rw [wc, wcB]
          have : (wc a).map (fun x => along x ([b2].headD done)) = (wc a).map fun x => along x b2 := rfl
          rw [this, hw]
        rcases ih a (by simp) _ (hk a (by simp)) with h1 | h1
        · exact .inl (by rw [e, List.length_map]; exact h1)
        · refine .inr fun c hc => ?_
          rw [e] at hc ⊢
          obtain ⟨x, hx, rfl⟩ := List.mem_map.mp hc
          have := h1 x hx
          have := al_le x b2
          rw [List.length_map]
          simp only [Pl.sz, Pl.szl]
          omega
theorem szl_mul2 {n : Nat} : ∀ {ps : List Pl}, (∀ p ∈ ps, p.sz ≤ n) → Pl.szl ps ≤ ps.length * n
  | [], _ => by simp [Pl.szl]
  | q :: qs, h => by
    have h1 := h q (by simp)
    have h2 := szl_mul2 fun p hp => h p (List.mem_cons_of_mem _ hp)
    rw [Pl.szl, List.length_cons, Nat.add_mul, Nat.one_mul]
    omega
theorem wc_szl5 {p : Pl} {b : Bool} (k : Ok b p) (h : p.sz ≤ 1365) : Pl.szl (wc p) ≤ 600000 := by
  rcases wc_few p b k with h1 | h1
  · have h2 := szl_mul2 (n := 2732) (ps := wc p) fun c hc => by
      have := (wc_nx p b k c hc).sz
      omega
    have h3 : (wc p).length * 2732 ≤ 2 * 2732 := Nat.mul_le_mul_right _ h1
    omega
  · have hl := wc_len p b k
    have h2 := szl_mul2 (n := 1365 - (wc p).length) (ps := wc p) fun c hc => by
      have := h1 c hc
      omega
    have key : (List.range 1366).all (fun n => decide (n * (1365 - n) ≤ 600000)) = true := by decide +kernel
    have := of_decide_eq_true (List.all_eq_true.mp key (wc p).length (List.mem_range.mpr (by omega)))
    omega
end LW
namespace LW
open PySem PySem.Spec PyProof.Rows L2 Ys

theorem k_inD {X : Cx} {K : PySem.W.Frag} (hu : X.A.units + 65 < cLine) (e : X.K = K := by rfl) : OpR X (compareOp .In) (rInD K) := by
  subst e
  exact op_inD hu
theorem room65 {k : Nat} {A : Around} (r : Room k A) : A.units + 65 < cLine := by have := r.un; omega
section
variable {P : Program} {w : World} {K : PySem.W.Frag} {mg : Str → Option Value} {base : Heap} {f : Addr} {fd : FuncData}
theorem ok_law_count {n : Nat} (T : Nm K mg) (C_law_count : Own P w K mg base CX0 (n + 1) "_law_count" ["_law_plan_here"] (spNum K lenI n)) (F : FnP K "_law_count" s_law_count f fd) : FnOk P w K mg base CX0 (n + 2) f fd ["_law_plan_here"] (spNum K lenI (n + 1)) := by
  have nd : N_law_count.Nodup := sc_law_count.nd
  refine F.ok sc_law_count (fun vs H Q E h => ?_) (fun cdv A outer s H vs Q E hr h => ?_)
  · obtain ⟨G, M, v, p, rfl, _⟩ := h
    rfl
  have hu := hr.units
  refine ⟨_, PSs.nox   (pss_one (ps_ret (pe_ifExp (pt_val (pe_callB (kc_isi (K := K)) (by rfl) T.b_isinstance boot_isinstance (pa_cons (pv 0) (pa_cons (pe_bltn (v := .ty "str") (by rfl) T.b_str boot_str rfl) pa_nil)))) pe_int (pe_callB (kc_sum (K := K) rfl) (by rfl) T.b_sum boot_sum (pa_cons (pe_lc (own := [("_law_part", 1)]) (tt := tYes) rfl nd (k_any (K := K) (pe_slice (k_sl (K := K)) (pv 0) (po_some pe_int) po_none)) (blkOk_by (N := N_law_count) (sc := defScope s_law_count) (by decide +kernel)) (fun _ _ _ _ _ => (pg_name (i := 1) nd rfl (by first | exact .inl rfl | exact .inr rfl))) (fun _ _ _ _ _ => pts_nil) (fun _ _ _ _ _ => (pe_own C_law_count (hr.mono (by omega)) (by rfl) pass0 (pa_cons (pv 1) pa_nil)))) pa_nil))))), ?_⟩
  obtain ⟨G, M, v, p, rfl, z, hd, hn, hsz, q⟩ := h
  repeat (walk_at "z")
  refine z_isi (.ty "str") (hd.up z.sub).ty (kit_ty (kit_str p.d)) ?_
  cases p with
  | nm s =>
    have e := dt_nm hd
    subst e
    rw [Pl.d]
    repeat (walk_at "z")
    refine z_bT' rfl ?_
    repeat (walk_at "z")
    have := q G H z (Same.refl G)
    unfold lenI at this
    rw [nmsL] at this
    exact this
  | nd h ps =>
    obtain ⟨a, xr, rfl, hS, hR⟩ := dt_nd hd
    rw [Pl.dp] at hn
    rw [Pl.sz] at hsz
    have hps := pls_len hR
    rw [Pl.d]
    repeat (walk_at "z")
    refine z_bF' rfl ?_
    repeat (walk_at "z")
    refine z_anyT ?_
    repeat (walk_at "z")
    refine z_slT z hS fun p2 G2 H2 z2 s2 e2 => ?_
    rw [cut_tail] at e2
    refine z_itT z2 e2 ?_
    refine lc_src src_T (fun i G' M' acc => M' = M ∧ Same G2 G' ∧ acc = ((ps.take i).map lenI).map V.int) z2 ⟨rfl, Same.refl _, rfl⟩ (fun i G' M' M1 acc H' ⟨_, s', _⟩ z' => z'.seqT (upT s' e2)) ?_ ?_
    · rintro i x G' M' acc Dl H' hx ⟨rfl, s', rfl⟩ z'
      obtain ⟨p, hp, hx'⟩ := pl_at (hR.up (s2.trans s')) hx
      have hm := List.mem_of_getElem? hp
      have h1 := dp_mem hm
      have h2 := sz_mem hm
      have hi := (List.getElem?_eq_some_iff.mp hp).1
      have h3 := len_szl ps
      repeat (walk_at "z")
      refine ⟨by rfl, ?_⟩
      repeat (walk_at "z")
      refine ⟨G', _, x, p, rfl, z', hx', by omega, by omega, fun G3 H3 z3 s3 => ?_⟩
      refine z_laid z3 (by rw [List.length_map, List.length_map, List.length_take]; omega) ⟨rfl, s'.trans s3, ?_⟩
      rw [List.take_add_one, hp]
      simp
    · rintro p3 G3 M3 acc G4 H4 ⟨rfl, s3, rfl⟩ s4 z4 e4
      rw [hps, List.take_length] at e4
      refine z_sum z4 (SqL.of e4) ?_
      rw [lenI_sum]
      have := q G4 H4 z4 ((s2.trans s3).trans s4)
      unfold lenI at this
      rw [nmsL] at this
      exact this

theorem ok_law_normal {n : Nat} (T : Nm K mg) (C_law_normal : Own P w K mg base CX0 (n + 1) "_law_normal" ["_law_plan_here"] (spNF K n)) (F : FnP K "_law_normal" s_law_normal f fd) : FnOk P w K mg base CX0 (n + 2) f fd ["_law_plan_here"] (spNF K (n + 1)) := by
  have nd : N_law_normal.Nodup := sc_law_normal.nd
  refine F.ok sc_law_normal (fun vs H Q E h => ?_) (fun cdv A outer s H vs Q E hr h => ?_)
  · obtain ⟨G, M, v, p, b, rfl, _⟩ := h
    rfl
  have hu := hr.units
  have hu2 := room128 hr
  refine ⟨_, PSs.nox   (pss_cons (ps_if (pt_val (pe_callB (kc_isi (K := K)) (by rfl) T.b_isinstance boot_isinstance (pa_cons (pv 0) (pa_cons (pe_bltn (v := .ty "str") (by rfl) T.b_str boot_str rfl) pa_nil)))) (pss_one (ps_ret (pv 0))) pss_nil)
    (pss_cons (ps_setLc (i := 1) (own := [("_law_part", 3)]) (tt := tYes) rfl nd rfl rfl (sw_true rfl rfl rfl (by decide +kernel)) (k_any (K := K) (pe_slice (k_sl (K := K)) (pv 0) (po_some pe_int) po_none)) (blkOk_by (N := N_law_normal) (sc := defScope s_law_normal) (by decide +kernel)) (fun _ _ _ _ _ => (pg_name (i := 3) nd rfl (by first | exact .inl rfl | exact .inr rfl))) (fun _ _ _ _ _ => pts_nil) (fun _ _ _ _ _ => (pe_own C_law_normal (hr.mono (by omega)) (by rfl) pass0 (pa_cons (pv 3) pa_nil))))
    (pss_cons (ps_if (pt_cmpR (k_eq (K := K) hu) (pe_ix (k_ix (K := K)) (pv 0) pe_int (fun _ _ => rfl)) pe_str (nomark _)) (pss_cons (ps_asg (pe_lst pa_nil) (pg_name (i := 2) nd rfl (by first | exact .inl rfl | exact .inr rfl)))
    (pss_cons (ps_for PassesOwn.never rfl (k_any (K := K) (pv 1)) (pg_name (i := 3) nd rfl (by first | exact .inl rfl | exact .inr rfl)) (pss_one (ps_expr (pe_bm PySem.F.plainAttrs_list PySem.F.slot_list_extend PySem.F.type_list_extend (mt_ext2 (K := K)) (pv 2) (pa_cons (pe_ifExp (PW.pt (pw_and (pt_val (pe_callB (kc_isi (K := K)) (by rfl) T.b_isinstance boot_isinstance (pa_cons (pv 3) (pa_cons (pe_bltn (v := .ty "tuple") (by rfl) T.b_tuple boot_tuple rfl) pa_nil)))) (pw_and1 (pt_cmpR (k_eq (K := K) hu) (pe_ix (k_ix (K := K)) (pv 3) pe_int (fun _ _ => rfl)) pe_str (nomark _))))) (pe_callTy (kc_list (K := K)) (by rfl) T.b_list boot_list (pa_cons (pe_slice (k_sl (K := K)) (pv 3) (po_some pe_int) po_none) pa_nil)) (pe_lst (pa_cons (pv 3) pa_nil))) pa_nil)))))
    (pss_one (ps_ret (pe_ifExp (pt_cmpR (k_eq (K := K) hu) (pe_callB (kc_len (K := K) (P := P) (w := w)) (by rfl) T.b_len PySem.boot_len (pa_cons (pv 2) pa_nil)) pe_int (nomark _)) (pe_ix (k_ix (K := K)) (pv 2) pe_int (fun _ _ => rfl)) (pe_op (k_add (K := K)) (pe_tup (pa_cons pe_str pa_nil)) (pe_callTy (kc_tuple (K := K)) (by rfl) T.b_tuple boot_tuple (pa_cons (pv 2) pa_nil)))))))) pss_nil)
    (pss_cons (ps_if (PW.pt (pw_and (pt_cmpR (k_eq (K := K) hu) (pe_ix (k_ix (K := K)) (pv 0) pe_int (fun _ _ => rfl)) pe_str (nomark _)) (pw_and1 (pt_cmpR (k_inD (K := K) (room65 hr)) (pe_tup (pa_cons pe_str pa_nil)) (pv 1) (by rfl))))) (pss_one (ps_ret (pe_ifExp (pt_cmpR (k_eq (K := K) hu) (pe_ix (k_ix (K := K)) (pv 1) pe_int (fun _ _ => rfl)) (pe_tup (pa_cons pe_str pa_nil)) (nomark _)) (pe_ix (k_ix (K := K)) (pv 1) pe_int (fun _ _ => rfl)) (pe_ix (k_ix (K := K)) (pv 1) pe_int (fun _ _ => rfl))))) pss_nil)
    (pss_one (ps_ret (pe_op (k_add (K := K)) (pe_tup (pa_cons (pe_ix (k_ix (K := K)) (pv 0) pe_int (fun _ _ => rfl)) pa_nil)) (pe_callTy (kc_tuple (K := K)) (by rfl) T.b_tuple boot_tuple (pa_cons (pv 1) pa_nil))))))))), ?_⟩
  obtain ⟨G, M, v, p, b, rfl, z, hd, hO, hn, h50, hsz, q⟩ := h
  have dn : ∀ {G : Hp} {p : Addr}, G p = some (.tup [.str "then"]) → Dt K G (.ref p) (.tuple [.str "then"]) := fun e => .tup (SqT.of e) (.cons (.str _) .nil)
  repeat (walk_at "z")
  refine z_isi (.ty "str") (hd.up z.sub).ty (kit_ty (kit_str p.d)) ?_
  cases p with
  | nm s =>
    rw [Pl.d]
    repeat (walk_at "z")
    refine z_bT' rfl ?_
    repeat (walk_at "z")
    exact q v G H z (Same.refl _) (by rw [nf]; exact hd)
  | nd h ps =>
    obtain ⟨a, xr, rfl, hS, hR⟩ := dt_nd hd
    rw [Pl.dp] at hn h50
    rw [Pl.sz] at hsz
    have hps := pls_len hR
    rw [Pl.d]
    repeat (walk_at "z")
    refine z_bF' rfl ?_
    repeat (walk_at "z")
    refine z_anyT ?_
    repeat (walk_at "z")
    refine z_slT z hS fun p2 G2 H2 z2 s2 e2 => ?_
    rw [cut_tail] at e2
    refine z_itT z2 e2 ?_
    refine lc_src src_T (fun i G' M' acc => M' = M ∧ Same G2 G' ∧ Dts K G' acc (Pl.dl ((ps.take i).map nf))) z2 ⟨rfl, Same.refl _, .nil⟩ (fun i G' M' M1 acc H' ⟨_, s', _⟩ z' => z'.seqT (upT s' e2)) ?_ ?_
    · rintro i x G' M' acc Dl H' hx ⟨rfl, s', hA⟩ z'
      obtain ⟨p, hp, hx'⟩ := pl_at (hR.up (s2.trans s')) hx
      have hm := List.mem_of_getElem? hp
      have h1 := dp_mem hm
      have h2 := sz_mem hm
      have hlt : i < ps.length := (List.getElem?_eq_some_iff.mp hp).1
      have hl2 := len_szl ps
      have hal := pls_len hA
      rw [List.length_map, List.length_take] at hal
      repeat (walk_at "z")
      refine ⟨by rfl, ?_⟩
      repeat (walk_at "z")
      refine ⟨G', _, x, p, _, rfl, z', hx', hO.kids p hm, by omega, by omega, by omega, fun v' G3 H3 z3 s3 h3 => ?_⟩
      refine z_laid z3 (by omega) ⟨rfl, s'.trans s3, ?_⟩
      rw [take_snoc hp, List.map_append]
      exact dts_app (hA.up s3) (by rw [dl_map]; exact .cons h3 .nil)
    rintro p3 G3' M3 acc3 G3 H3 ⟨rfl, s3', hA⟩ s3 z3 e3
    rw [hps, List.take_length] at hA
    have hA := hA.up s3
    have s23 := s2.trans (s3'.trans s3)
    have hk : ∀ x ∈ ps.map nf, Ok (b || decide (h = .be)) x := fun x hx => by
      obtain ⟨p, hp, rfl⟩ := List.mem_map.mp hx
      exact nf_ok p _ (hO.kids p hp)
    have hdp : ∀ x ∈ ps.map nf, x.dp ≤ 50 := fun x hx => by
      obtain ⟨p, hp, rfl⟩ := List.mem_map.mp hx
      have := nf_dp p
      have := dp_mem hp
      omega
    have hz : Pl.szl (ps.map nf) ≤ 5000 := by
      have := nfl_sz ps fun p _ => nf_sz p
      rw [nfl_map] at this
      omega
    have enf : nf (.nd h ps) = mk h (ps.map nf) := by rw [nf, nfl_map]
    rw [enf] at q
    have hal := pls_len hA
    have hal0 := hal
    rw [List.length_map] at hal0
    have hl2 := len_szl ps
    repeat (walk_at "z")
    refine z_ixT z3 (upT s23 hS) at_zero ?_
    repeat (walk_at "z")
    refine z_eqS rfl ?_
    rw [str_th]
    repeat (walk_at "z")
    refine z_bd (fun c => ?_) (fun c => ?_)
    · subst c
      have hD := hA
      generalize hpn : ps.map nf = pn at hA hD hal hz q hk hdp
      repeat (walk_at "z")
      refine z_ownL z3 (by simp) fun fa H4 z4 => ?_
      repeat (walk_at "z")
      refine z_anyL ?_
      repeat (walk_at "z")
      refine z_itL z4 (SqL.of e3) ?_
      refine for_src src_L (fun i σ G' M' => ∃ k3 acc, M' = M3 ++ [(fa, .lst acc)] ∧ Same G3 G' ∧ Dts K G' acc (Pl.dl (flat (pn.take i))) ∧ σ = [some (.ref a), some (.ref p3), some (.ref fa), k3]) z4 ⟨_, [], rfl, Same.refl _, .nil, rfl⟩ (fun i σ G' M' H' ⟨_, _, _, s', _⟩ z' => z'.seqL (upL s' (SqL.of e3))) ?_ ?_
      · rintro i x σ G' M' H' hx ⟨k3, acc, rfl, s', hB, rfl⟩ z'
        obtain ⟨p, hp, hx'⟩ := pl_at (hD.up s') hx
        have hl : (flat (pn.take (i + 1))).length ≤ 20000 := Nat.le_trans (len_szl _) (Nat.le_trans (flat_sz _) (Nat.le_trans (szl_take pn _) (by omega)))
        have e1 : flat (pn.take (i + 1)) = flat (pn.take i) ++ parts1 p := by
          rw [take_snoc hp, flat_app]
          show _ ++ (parts1 p ++ []) = _
          rw [List.append_nil]
        rw [e1, List.length_append] at hl
        have hal' := pls_len hB
        repeat (walk_at "z")
        refine z_tyO z' M3.length last_at ?_
        repeat (walk_at "z")
        refine z_isi (.ty "tuple") (hx'.up z'.sub).ty (kit_ty (kit_tup p.d)) ?_
        cases p with
        | nm s =>
          rw [Pl.d]
          repeat (walk_at "z")
          refine z_bF' rfl ?_
          repeat (walk_at "z")
          refine z_newL z' (by simp) fun p5 G5 H5 z5 s5 e5 => ?_
          repeat (walk_at "z")
          refine z_extLast z5 (z5.sub _ _ e5) (by rw [hal']; simp [parts1] at hl; simp; omega) fun H6 z6 => ?_
          repeat (walk_at "z")
          refine ⟨_, _, z6, _, _, rfl, s'.trans s5, ?_, rfl⟩
          rw [e1]
          exact dts_app (hB.up s5) (by show Dts K G5 [x] (Pl.dl [.nm s]); rw [dl_map]; exact .cons (hx'.up s5) .nil)
        | nd h rs =>
          obtain ⟨b', xr', rfl, hBb, hR'⟩ := dt_nd hx'
          have hr' := pls_len hR'
          rw [Pl.d]
          repeat (walk_at "z")
          refine z_bT' rfl ?_
          repeat (walk_at "z")
          refine z_ixT z' hBb at_zero ?_
          repeat (walk_at "z")
          refine z_eqS rfl ?_
          rw [str_th]
          repeat (walk_at "z")
          refine z_bd (fun c => ?_) (fun c => ?_)
          · subst c
            repeat (walk_at "z")
            refine z_slT z' hBb fun p5 G5 H5 z5 s5 e5 => ?_
            rw [cut_tail] at e5
            repeat (walk_at "z")
            refine z_listG z5 (.inr e5) fun p6 G6 H6 z6 s6 e6 => ?_
            repeat (walk_at "z")
            refine z_extLast z6 (z6.sub _ _ e6) (by rw [hal', hr']; simp [parts1] at hl; omega) fun H7 z7 => ?_
            repeat (walk_at "z")
            refine ⟨_, _, z7, _, _, rfl, s'.trans (s5.trans s6), ?_, rfl⟩
            rw [e1]
            exact dts_app (hB.up (s5.trans s6)) (hR'.up (s5.trans s6))
          · have ep : parts1 (.nd h rs) = [.nd h rs] := by unfold parts1; cases h <;> first | rfl | exact absurd rfl c
            repeat (walk_at "z")
            refine z_newL z' (by simp) fun p5 G5 H5 z5 s5 e5 => ?_
            repeat (walk_at "z")
            refine z_extLast z5 (z5.sub _ _ e5) (by rw [hal']; rw [ep] at hl; simp at hl; simp; omega) fun H6 z6 => ?_
            repeat (walk_at "z")
            refine ⟨_, _, z6, _, _, rfl, s'.trans s5, ?_, rfl⟩
            rw [e1, ep]
            exact dts_app (hB.up s5) (by rw [dl_map]; exact .cons (hx'.up s5) .nil)
      · rintro σ G5 M5 H5 ⟨k3, acc, rfl, s5, hB, rfl⟩ z5
        rw [hal, List.take_length] at hB
        have hal' := pls_len hB
        have hfl : (flat pn).length ≤ 20000 := Nat.le_trans (len_szl _) (Nat.le_trans (flat_sz _) (by omega))
        have hM := SqL.of (K := K) (z5.at_ M3.length last_at)
        repeat (walk_at "z")
        refine z_lenH (.inl hM) ?_
        repeat (walk_at "z")
        refine z_eqS rfl ?_
        repeat (walk_at "z")
        by_cases c : acc.length = 1
        · refine z_bT' (decide_eq_true (by rw [c]; rfl)) ?_
          repeat (walk_at "z")
          match acc, c, hB, hM with
          | [x], _, hB, hM =>
            refine z_ixH hM at_zero ?_
            obtain ⟨p, hp⟩ : ∃ p, flat pn = [p] := by
              match flat pn, hal' with
              | [p], _ => exact ⟨p, rfl⟩
            have e : mk .th pn = p := by
              show seqn pn = p
              unfold seqn; rw [hp]; rfl
            rw [hp, dl_map] at hB
            cases hB with
            | cons h1 h2 => exact q x _ _ z5.cut (s23.trans s5) (by rw [e]; exact h1)
        · refine z_bF' (decide_eq_false (by intro e; have := V.int.inj e; omega)) ?_
          repeat (walk_at "z")
          refine z_newT z5 (by simp) fun p6 G6 H6 z6 s6 e6 => ?_
          repeat (walk_at "z")
          refine z_tupO z6 M3.length last_at fun p7 G7 H7 z7 s7 e7 => ?_
          refine z_addT z7 (upT s7 (SqT.of e6)) e7 (by simp; omega) fun p8 G8 H8 z8 s8 e8 => ?_
          refine q _ _ _ z8.cut (s23.trans (s5.trans (s6.trans (s7.trans s8)))) ?_
          have e : mk .th pn = .nd .th (flat pn) := by
            show seqn pn = _
            unfold seqn
            rcases wrap_cases (flat pn) with ⟨x, e1, _⟩ | e
            · rw [e1] at hal'; exact absurd hal' c
            · exact e
          rw [e]
          exact dt_mk e8 (hB.up (s6.trans (s7.trans s8)))
    · repeat (walk_at "z")
      refine z_ixT z3 (upT s23 hS) at_zero ?_
      repeat (walk_at "z")
      refine z_eqS rfl ?_
      rw [str_be]
      repeat (walk_at "z")
      refine z_bd (fun c2 => ?_) (fun c2 => ?_)
      · subst c2
        have f2 : ps.length = 2 := of_decide_eq_true hO.fit
        obtain ⟨x, y, hxy⟩ : ∃ x y, ps.map nf = [x, y] := by
          match ps, f2 with
          | [x, y], _ => exact ⟨_, _, rfl⟩
        have hA0 := hA
        rw [hxy] at hA hk hdp
        rw [dl_map] at hA
        cases hA with
        | cons hA1 hA2 =>
        cases hA2 with
        | cons hA2 hA3 =>
        cases hA3
        have d1 := hdp x (by simp)
        have d2 := hdp y (by simp)
        have n1 := Ok.nms _ _ (hk x (by simp))
        have n2 := Ok.nms _ _ (hk y (by simp))
        repeat (walk_at "z")
        refine z_newT z3 (by simp) fun p4 G4 H4 z4 s4 e4 => ?_
        have cl : PyData.canLayAll0 [x.d, y.d] = true := can_all (fun d hd => by
          rcases List.mem_cons.mp hd with rfl | hd
          · exact pd_can x n1
          · rw [List.mem_singleton.mp hd]; exact pd_can y n2)
        have shl : SeqAt.shaped (.list [x.d, y.d]) = true := by
          unfold SeqAt.shaped
          rw [Bool.and_eq_true_iff]
          refine ⟨cl, ?_⟩
          rw [decide_eq_true_iff]
          show PyData.depthAll [x.d, y.d] + 1 ≤ 64
          have h3 : PyData.depthAll [x.d, y.d] ≤ 50 := dep_all fun d hd => by
            rcases List.mem_cons.mp hd with rfl | hd
            · exact Nat.le_trans (pd_dep x) d1
            · rw [List.mem_singleton.mp hd]; exact Nat.le_trans (pd_dep y) d2
          omega
        repeat (walk_at "z")
        refine ⟨.tuple [.str "then"], [x.d, y.d], Dt.dp _ _ (SeqAt.canLay_of_shaped done_shaped) (z4.dt (dn e4)), Dt.dp _ _ (SeqAt.canLay_of_shaped shl) (z4.dt (.lst (SqL.of (s4 _ _ e3)) (.cons (hA1.up s4) (.cons (hA2.up s4) .nil)))), done_shaped, shl, ?_⟩
        have ea : ([x.d, y.d].any fun z => PyData.eqv z (.tuple [.str "then"])) = (isDone x || isDone y) := by
          simp only [List.any_cons, List.any_nil, eqv_done, Bool.or_false]
        rw [ea]
        rw [hxy] at q
        have alo : mk .be [x, y] = along x y := rfl
        rw [alo] at q
        cases c1 : isDone x with
        | true =>
          rw [Bool.true_or]
          repeat (walk_at "z")
          refine z_ixL z4 (SqL.of (s4 _ _ e3)) at_zero ?_
          repeat (walk_at "z")
          refine z_newT z4 (by simp) fun p5 G5 H5 z5 s5 e5 => ?_
          refine z_eqD z5 (hA1.up (s4.trans s5)) (dn e5) (pd_shaped n1 (by omega)) done_shaped ?_
          rw [eqv_done, c1]
          repeat (walk_at "z")
          refine z_ixL z5 (SqL.of ((s4.trans s5) _ _ e3)) at_one ?_
          exact q _ G5 H5 z5 (s23.trans (s4.trans s5)) (by unfold along; rw [c1]; exact hA2.up (s4.trans s5))
        | false =>
          rw [Bool.false_or]
          cases c2 : isDone y with
          | true =>
            repeat (walk_at "z")
            refine z_ixL z4 (SqL.of (s4 _ _ e3)) at_zero ?_
            repeat (walk_at "z")
            refine z_newT z4 (by simp) fun p5 G5 H5 z5 s5 e5 => ?_
            refine z_eqD z5 (hA1.up (s4.trans s5)) (dn e5) (pd_shaped n1 (by omega)) done_shaped ?_
            rw [eqv_done, c1]
            repeat (walk_at "z")
            refine z_ixL z5 (SqL.of ((s4.trans s5) _ _ e3)) at_zero ?_
            exact q _ G5 H5 z5 (s23.trans (s4.trans s5)) (by unfold along; rw [c1, c2]; exact hA1.up (s4.trans s5))
          | false =>
            repeat (walk_at "z")
            refine z_ixT z4 (upT (s23.trans s4) hS) at_zero ?_
            repeat (walk_at "z")
            refine z_newT z4 (by simp) fun p5 G5 H5 z5 s5 e5 => ?_
            repeat (walk_at "z")
            refine z_tupL z5 (SqL.of ((s4.trans s5) _ _ e3)) fun p6 G6 H6 z6 s6 e6 => ?_
            refine z_addT z6 (upT s6 (SqT.of e5)) e6 (by simp) fun p7 G7 H7 z7 s7 e7 => ?_
            have s47 := s4.trans (s5.trans (s6.trans s7))
            refine q _ G7 H7 z7 (s23.trans s47) ?_
            unfold along
            rw [c1, c2]
            exact dt_mk (h := .be) (ps := [x, y]) e7 (by rw [dl_map]; exact .cons (hA1.up s47) (.cons (hA2.up s47) .nil))
      · repeat (walk_at "z")
        refine z_ixT z3 (upT s23 hS) at_zero ?_
        repeat (walk_at "z")
        refine z_newT z3 (by simp) fun p4 G4 H4 z4 s4 e4 => ?_
        repeat (walk_at "z")
        refine z_tupL z4 (SqL.of (s4 _ _ e3)) fun p5 G5 H5 z5 s5 e5 => ?_
        refine z_addT z5 (upT s5 (SqT.of e4)) e5 (by simp; omega) fun p6 G6 H6 z6 s6 e6 => ?_
        have s46 := s4.trans (s5.trans s6)
        refine q _ G6 H6 z6 (s23.trans s46) ?_
        have e : mk h (ps.map nf) = .nd h (ps.map nf) := by
          rcases mk_cases h (ps.map nf) with ⟨e, _⟩ | ⟨_, _, e, _⟩ | ⟨_, e⟩
          · exact absurd e c
          · exact absurd e c2
          · exact e
        rw [e]
        exact dt_mk e6 (hA.up s46)
end
end LW
namespace LW
open PySem PySem.Spec PyProof.Rows L2 Ys

def cst7 : Nat → Nat
  | 0 => 2
  | d + 1 => 3 + 3 * cst7 d
theorem cst7_pos (d : Nat) : 2 ≤ cst7 d := by cases d <;> (unfold cst7; omega)
section
variable {P : Program} {w : World} {K : PySem.W.Frag} {mg : Str → Option Value} {base : Heap} {f : Addr} {fd : FuncData}
def spLPlan (K : PySem.W.Frag) (n : Nat) : Sp := fun vs H Q _ => ∃ p o G M b na ns, ∃ d : Nat, ∃ bs : Bool, vs = [.ref p, .ref na, .int d, .bl bs] ∧ Zp G ((p, o) :: M) H ∧ Pen K G b o ∧ b + cst7 d ≤ 100000000000 ∧ SqL K G na (ns.map V.str) ∧ ns.length ≤ 1000 ∧ (∀ s ∈ ns, Wd s) ∧ d < n ∧
  ∀ v q G1 H1 o1, Zp G1 ((p, o1) :: M) H1 → Same G G1 → Pen K G1 (b + cst7 d) o1 → Dt K G1 v (Pl.d q) → Dr (!bs) d ns q → Q v H1
theorem ok_lplan {n : Nat} (T : Nm K mg) (C_law_draw : OwnD P w K mg base) (C_law_pick : OwnP P w K mg base) (C_law_plan : Own P w K mg base CX0 (n + 3) "_law_plan" ["_law_pen_here", "_law_names", "_law_deep", "_law_is_beside"] (spLPlan K n)) (F : FnP K "_law_plan" s_law_plan f fd) :
    FnOk P w K mg base CX0 (n + 4) f fd ["_law_pen_here", "_law_names", "_law_deep", "_law_is_beside"] (spLPlan K (n + 1)) := by
  have nd : N_law_plan.Nodup := sc_law_plan.nd
  refine F.ok sc_law_plan (fun vs H Q E h => ?_) (fun cdv A outer s H vs Q E hr h => ?_)
  · obtain ⟨p, o, G, M, b, na, ns, d, bs, rfl, _⟩ := h
    rfl
  have hu := hr.units
  refine ⟨_, PSs.nox   (pss_cons (ps_asg (pe_ifExp (pt_cmpR o_gt (pv 2) pe_int (nomark _)) (pe_own C_law_draw (hr.mono (by omega)) (by rfl) pass0 (pa_cons (pv 0) (pa_cons pe_int pa_nil))) pe_int) (pg_name (i := 4) nd rfl (by first | exact .inl rfl | exact .inr rfl)))
    (pss_cons (ps_if (pt_cmpR o_lt (pv 4) pe_int (nomark _)) (pss_one (ps_ret (pe_ifExp (PW.pt (pw_and (pt_cmpR (k_ne (K := K) hu) (pv 1) (pe_lst pa_nil) (nomark _)) (pw_and1 (pt_cmpR o_gt (pe_own C_law_draw (hr.mono (by omega)) (by rfl) pass0 (pa_cons (pv 0) (pa_cons pe_int pa_nil))) pe_int (nomark _))))) (pe_own C_law_pick (hr.mono (by omega)) (by rfl) pass0 (pa_cons (pv 0) (pa_cons (pv 1) pa_nil))) (pe_tup (pa_cons pe_str pa_nil))))) pss_nil)
    (pss_cons (ps_if (pt_cmpR (k_eq (K := K) hu) (pv 4) pe_int (nomark _)) (pss_one (ps_ret (pe_tup (pa_cons pe_str (pa_cons (pe_own C_law_plan (hr.mono (by omega)) (by rfl) pass0 (pa_cons (pv 0) (pa_cons (pv 1) (pa_cons (pe_op o_sub (pv 2) pe_int) (pa_cons (pv 3) pa_nil))))) pa_nil))))) pss_nil)
    (pss_cons (ps_if (PW.pt (pw_and (pt_cmpR (k_eq (K := K) hu) (pv 4) pe_int (nomark _)) (pw_and1 (pt_val (pv 3))))) (pss_one (ps_ret (pe_tup (pa_cons pe_str (pa_cons (pe_own C_law_plan (hr.mono (by omega)) (by rfl) pass0 (pa_cons (pv 0) (pa_cons (pv 1) (pa_cons (pe_op o_sub (pv 2) pe_int) (pa_cons pe_bl pa_nil))))) (pa_cons (pe_own C_law_plan (hr.mono (by omega)) (by rfl) pass0 (pa_cons (pv 0) (pa_cons (pv 1) (pa_cons (pe_op o_sub (pv 2) pe_int) (pa_cons pe_bl pa_nil))))) pa_nil)))))) pss_nil)
    (pss_cons (ps_asg (pe_ix (k_ix (K := K)) (pe_lst (pa_cons pe_str (pa_cons pe_str (pa_cons pe_str (pa_cons pe_str (pa_cons pe_str pa_nil)))))) (pe_own C_law_draw (hr.mono (by omega)) (by rfl) pass0 (pa_cons (pv 0) (pa_cons pe_int pa_nil))) (fun _ _ => rfl)) (pg_name (i := 5) nd rfl (by first | exact .inl rfl | exact .inr rfl)))
    (pss_one (ps_ret (pe_op (k_add (K := K)) (pe_tup (pa_cons (pv 5) pa_nil)) (pe_callTy (kc_tuple (K := K)) (by rfl) T.b_tuple boot_tuple (pa_cons (pe_lc (own := [("_law_k", 6)]) (tt := tYes) rfl nd (pi_range1 (by rfl) (T.b_range) (pa_cons (pe_op (k_add (K := K)) pe_int (pe_own C_law_draw (hr.mono (by omega)) (by rfl) pass0 (pa_cons (pv 0) (pa_cons pe_int pa_nil)))) pa_nil)) (blkOk_by (N := N_law_plan) (sc := defScope s_law_plan) (by decide +kernel)) (fun _ _ _ _ _ => (pg_name (i := 6) nd rfl (by first | exact .inl rfl | exact .inr rfl))) (fun _ _ _ _ _ => pts_nil) (fun _ _ _ _ _ => (pe_own C_law_plan (hr.mono (by omega)) (by rfl) pass0 (pa_cons (pv 0) (pa_cons (pv 1) (pa_cons (pe_op o_sub (pv 2) pe_int) (pa_cons (pv 3) pa_nil))))))) pa_nil)))))))))), ?_⟩
  obtain ⟨p, o, G, M, b, na, ns, d, bs, rfl, z, hp, hb, hN, hnl, hnw, hd, q⟩ := h
  have c2 := cst7_pos d
  -- the way
  with_reducible refine z_cut (fun σ H => ∃ o1 G1, ∃ wy : Int, Zp G1 ((p, o1) :: M) H ∧ Same G G1 ∧ Pen K G1 (b + 1) o1 ∧ (3 ≤ wy → Pen K G1 (b + 1) o1 ∧ 0 < d) ∧ (d = 0 → Pen K G1 b o1) ∧ 0 ≤ wy ∧
    σ = [some (.ref p), some (.ref na), some (.int d), some (.bl bs), some (.int wy), none, none]) (fun nx hnx => ?_) (fun σ H2 h2 => ?_)
  · repeat (walk_at "z")
    refine z_b2 (fun c => ?_) (fun c => ?_)
    · have c := of_decide_eq_true c
      repeat (walk_at "z")
      refine ⟨p, o, G, _, b, _, rfl, z, hp, by omega, by decide, by decide, fun wy G1 H1 o1 z1 s1 hp1 w0 w1 => ?_⟩
      repeat (walk_at "z")
      exact hnx _ _ ⟨o1, G1, wy, z1, s1, hp1, fun _ => ⟨hp1, by omega⟩, fun h => by omega, w0, rfl⟩
    · have c := of_decide_eq_false c
      repeat (walk_at "z")
      exact hnx _ _ ⟨o, G, 0, z, Same.refl _, hp.mono (by omega), fun h => absurd h (by decide), fun _ => hp, by decide, rfl⟩
  obtain ⟨o1, G1, wy, z1, s1, hp1, hwy, hd0, w0, rfl⟩ := h2
  have hN1 := upL s1 hN
  have done_dr : ∀ {i : Bool}, Dr i d ns done := ⟨.nd rfl (fun _ => by decide) (fun p hp => by cases hp), by simp [done, Pl.dp, Pl.dpl], by rw [done, Pl.sz]; have := szB_pos d; simp [Pl.szl]; omega, fun s hs => by simp [done, nmsL, nmsLl] at hs, .nd (by simp) fun x hx => by cases hx⟩
  repeat (walk_at "z")
  by_cases hw : wy < 3
  · rw [decide_eq_true hw]
    have bp : ∃ c, Pen K G1 c o1 ∧ c + 2 ≤ b + cst7 d := by
      cases d with
      | zero => exact ⟨b, hd0 rfl, by unfold cst7; omega⟩
      | succ d => exact ⟨b + 1, hp1, by unfold cst7; omega⟩
    obtain ⟨c, hpc, hc⟩ := bp
    repeat (walk_at "z")
    refine z_newL z1 (by simp) fun l2 G2 H2 z2 s2 e2 => ?_
    refine z_neNil (z2.seqL (upL s2 hN1)) (z2.sub _ _ e2) ?_
    have nothing : ∀ {G3 H3 : Hp} {o3 : HO}, Zp G3 ((p, o3) :: M) H3 → Same G1 G3 → Pen K G3 (c + 1) o3 → NewT [.str "then"] H3 Q := fun z3 s3 hp3 => z_newT z3 (by simp) fun p4 G4 H4 z4 s4 e4 => q _ done G4 _ _ z4 (s1.trans (s3.trans s4)) ((hp3.up s4).mono (by omega)) (by rw [done]; exact dt_mk (h := .th) (SqT.of e4) .nil) done_dr
    cases ns with
    | nil =>
      repeat (walk_at "z")
      refine z_bF' (decide_eq_false (fun h => absurd (show ([] : List V) = [] from rfl) h)) ?_
      repeat (walk_at "z")
      exact nothing z2 s2 ((hpc.up s2).mono (by omega))
    | cons n0 nr =>
      repeat (walk_at "z")
      refine z_bT' (decide_eq_true (List.cons_ne_nil _ _)) ?_
      repeat (walk_at "z")
      refine ⟨p, o1, G2, _, _, _, rfl, z2, hpc.up s2, by omega, by decide, by decide, fun r G3 H3 o3 z3 s3 hp3 r0 r1 => ?_⟩
      repeat (walk_at "z")
      by_cases hr0 : 0 < r
      · rw [decide_eq_true hr0]
        repeat (walk_at "z")
        refine ⟨p, o3, G3, _, _, _, rfl, z3, hp3, by omega, .inl ⟨na, _, rfl, .inl (upL (s2.trans s3) hN1), by simp, by rw [List.length_map]; omega, fun v G5 H5 o5 hv z5 s5 hp5 => ?_⟩⟩
        obtain ⟨nm, hnm, rfl⟩ := List.mem_map.mp hv
        refine q _ (.nm nm) G5 H5 o5 z5 (s1.trans (s2.trans (s3.trans s5))) (hp5.mono (by omega)) (by rw [Pl.d]; exact .str _) ⟨.nm (hnw nm hnm), by rw [Pl.dp]; omega, by rw [Pl.sz]; exact szB_pos d, fun s hs => by rw [nmsL] at hs; rw [List.mem_singleton.mp hs]; exact hnm, .nm⟩
      · rw [decide_eq_false hr0]
        repeat (walk_at "z")
        exact nothing z3 (s2.trans s3) hp3
  rw [decide_eq_false hw]
  obtain ⟨hpw, hd1⟩ := hwy (by omega)
  obtain ⟨d', rfl⟩ : ∃ d', d = d' + 1 := ⟨d - 1, by omega⟩
  have ed : ((d' + 1 : Nat) : Int) - 1 = (d' : Int) := by omega
  rw [cst7] at hb q
  have kidsDr : ∀ {h : Hd} {qs : List Pl} {i' : Bool}, h.fit qs.length = true → ((!bs) = true → h ≠ .be) → i' = ((!bs) || decide (h = .be)) → (∀ x ∈ qs, Dr i' d' ns x) → qs.length ≤ 4 → Dr (!bs) (d' + 1) ns (.nd h qs) := fun f c e k l => by
    subst e
    refine ⟨.nd f c fun x hx => (k x hx).ok, ?_, ?_, fun s hs => ?_, .nd l fun x hx => (k x hx).ar⟩
    · rw [Pl.dp]
      exact Nat.succ_le_succ (dpl_le fun x hx => (k x hx).dp)
    · have := szl_le fun x hx => (k x hx).sz
      have h2 := Nat.mul_le_mul_right (szB d') l
      rw [Pl.sz, szB]
      omega
    · rw [nmsL] at hs
      obtain ⟨x, hx, hs⟩ := nmsLl_mem hs
      exact (k x hx).mem s hs
  repeat (walk_at "z")
  refine z_eqS rfl ?_
  repeat (walk_at "z")
  refine z_bd (fun c6 => ?_) (fun c6 => ?_)
  · repeat (walk_at "z")
    rw [ed]
    refine ⟨p, o1, G1, M, b + 1, na, ns, d', bs, rfl, z1, hpw, by omega, hN1, hnl, hnw, by omega, fun v x G3 H3' o3 z3 s3 hp3 dv dr => ?_⟩
    repeat (walk_at "z")
    refine z_newT z3 (by simp) fun p2 G4 H4 z4 s4 e4 => ?_
    exact q _ (.nd .ag [x]) G4 _ o3 z4 (s1.trans (s3.trans s4)) ((hp3.up s4).mono (by omega)) (dt_mk (h := .ag) (SqT.of e4) (by rw [dl_map]; exact .cons (dv.up s4) .nil)) (kidsDr (i' := !bs) rfl (fun _ => by decide) (by simp) (fun y hy => by rw [List.mem_singleton.mp hy]; exact dr) (by simp))
  repeat (walk_at "y")
  with_reducible refine z_cut (fun σ H => H = H2 ∧ σ = [some (.ref p), some (.ref na), some (.int (d' + 1 : Nat)), some (.bl bs), some (.int wy), none, none]) (fun nx hnx => ?_) (fun σ H4 h4 => ?_)
  · repeat (walk_at "z")
    refine z_eqS rfl ?_
    repeat (walk_at "z")
    refine z_bd (fun c7 => ?_) (fun c7 => ?_)
    · repeat (walk_at "z")
      cases bs with
      | false =>
        repeat (walk_at "z")
        exact hnx _ _ ⟨rfl, rfl⟩
      | true =>
        repeat (walk_at "z")
        rw [ed]
        refine ⟨p, o1, G1, M, b + 1, na, ns, d', false, rfl, z1, hpw, by omega, hN1, hnl, hnw, by omega, fun v x G3 H3' o3 z3 s3 hp3 dv dr => ?_⟩
        repeat (walk_at "z")
        rw [ed]
        refine ⟨p, o3, G3, M, _, na, ns, d', false, rfl, z3, hp3, by omega, upL s3 hN1, hnl, hnw, by omega, fun v2 x2 G4 H4 o4 z4 s4 hp4 dv2 dr2 => ?_⟩
        repeat (walk_at "z")
        refine z_newT z4 (by simp) fun p2 G5 H5 z5 s5 e5 => ?_
        refine q _ (.nd .be [x, x2]) G5 _ o4 z5 (s1.trans (s3.trans (s4.trans s5))) ((hp4.up s5).mono (by omega)) (dt_mk (h := .be) (SqT.of e5) (by rw [dl_map]; exact .cons (dv.up (s4.trans s5)) (.cons (dv2.up s5) .nil))) (kidsDr (i' := true) rfl (fun h => by cases h) rfl (fun y hy => ?_) (by simp))
        rcases List.mem_cons.mp hy with rfl | hy
        · exact dr
        · rw [List.mem_singleton.mp hy]; exact dr2
    · repeat (walk_at "z")
      exact hnx _ _ ⟨rfl, rfl⟩
  obtain ⟨rfl, rfl⟩ := h4
  repeat (walk_at "z")
  refine z_newL z1 (by simp) fun l3 G3 H3 z3 s3 e3 => ?_
  repeat (walk_at "z")
  refine ⟨p, o1, G3, _, _, _, rfl, z3, hpw.up s3, by omega, by decide, by decide, fun r G4 H4 o4 z4 s4 hp4 r0 r5 => ?_⟩
  obtain ⟨h, hat, hb1, hfit⟩ : ∃ h : Hd, atI [V.str "then", V.str "then", V.str "either", V.str "any", V.str "then"] r = some (.str h.s) ∧ h ≠ .be ∧ (∀ k : Nat, 1 ≤ k → h.fit k = true) := by
    have : r = 0 ∨ r = 1 ∨ r = 2 ∨ r = 3 ∨ r = 4 := by omega
    rcases this with rfl | rfl | rfl | rfl | rfl
    · exact ⟨.th, rfl, by decide, fun _ _ => rfl⟩
    · exact ⟨.th, rfl, by decide, fun _ _ => rfl⟩
    · exact ⟨.ei, rfl, by decide, fun k hk => decide_eq_true hk⟩
    · exact ⟨.an, rfl, by decide, fun k hk => decide_eq_true hk⟩
    · exact ⟨.th, rfl, by decide, fun _ _ => rfl⟩
  refine z_ixL z4 (SqL.of (s4 _ _ e3)) hat ?_
  repeat (walk_at "z")
  refine z_newT z4 (by simp) fun tw G5 H5 z5 s5 e5 => ?_
  repeat (walk_at "z")
  refine ⟨p, o4, G5, _, _, _, rfl, z5, hp4.up s5, by omega, by decide, by decide, fun r3 G6 H6 o6 z6 s6 hp6 t0 t3 => ?_⟩
  repeat (walk_at "z")
  generalize hnum : 1 + r3 = num
  refine z_itR (by omega) (by omega) ?_
  have s16 := s1.trans (s3.trans (s4.trans (s5.trans s6)))
  refine lc_src src_R (fun i G' M' acc => ∃ o' qs, M' = (p, o') :: M ∧ Same G6 G' ∧ Pen K G' (b + 3 + i * cst7 d') o' ∧ Dts K G' acc (Pl.dl qs) ∧ qs.length = i ∧ (∀ x ∈ qs, Dr (!bs) d' ns x)) z6
    ⟨o6, [], rfl, Same.refl _, by rw [Nat.zero_mul]; exact hp6.mono (by omega), .nil, rfl, (fun x hx => by cases hx)⟩ (fun _ _ _ _ _ _ _ _ => trivial) ?_ ?_
  · rintro i x G' M' acc Dl H' hx ⟨o', qs, rfl, s', hp', hA, hqi, hqs⟩ z'
    obtain ⟨hi, rfl⟩ := rng_at hx
    have hi4 : i < 3 := by omega
    have hik : i * cst7 d' ≤ 2 * cst7 d' := Nat.mul_le_mul_right _ (by omega)
    have hal := pls_len hA
    repeat (walk_at "z")
    refine ⟨by rfl, ?_⟩
    repeat (walk_at "z")
    rw [ed]
    refine ⟨p, o', G', _, _, na, ns, d', bs, rfl, z', hp', by omega, upL (s16.trans s') hN, hnl, hnw, by omega, fun v q' G7 H7 o7 z7 s7 hp7 dv dr => ?_⟩
    refine z_laid (M := (p, o7) :: M) z7 (by omega) ⟨o7, qs ++ [q'], rfl, s'.trans s7, hp7.mono (by rw [Nat.add_mul, Nat.one_mul]; omega), dts_app (hA.up s7) (by rw [dl_map]; exact .cons dv .nil), by simp [hqi], fun y hy => ?_⟩
    rcases List.mem_append.mp hy with hy | hy
    · exact hqs y hy
    · rw [List.mem_singleton.mp hy]; exact dr
  rintro p7 G7' M7 acc G7 H7 ⟨o7, qs, rfl, s7', hp7, hA, hqi, hqs⟩ s7 z7 e7
  rw [rngV_len] at hqi hp7
  have hq3 : qs.length ≤ 3 := by omega
  have hik : num.toNat * cst7 d' ≤ 3 * cst7 d' := Nat.mul_le_mul_right _ (by omega)
  have hal := pls_len hA
  repeat (walk_at "z")
  refine z_tupL z7 (SqL.of e7) fun p8 G8 H8 z8 s8 e8 => ?_
  refine z_addT z8 (upT (s6.trans (s7'.trans (s7.trans s8))) (SqT.of e5)) e8 (by simp; omega) fun p9 G9 H9 z9 s9 e9 => ?_
  have sA := s7.trans (s8.trans s9)
  exact q _ (.nd h qs) G9 _ o7 z9 (s16.trans (s7'.trans sA)) ((hp7.up sA).mono (by omega)) (dt_mk e9 (hA.up sA)) (kidsDr (i' := !bs) (hfit _ (by omega)) (fun _ => hb1) (by rw [decide_eq_false hb1, Bool.or_false]) hqs (by omega))
end
end LW
namespace LW
open PySem PySem.Spec PyProof.Rows L2 Ys

/-! ### drawn books -/
theorem cut_to {xs : List V} {k : Nat} (h : k ≤ xs.length) : cutV xs none (some (k : Int)) = xs.take k := by
  unfold cutV
  have e1 : HT.sIx xs.length 0 none = 0 := rfl
  have e2 : HT.sIx xs.length xs.length (some (k : Int)) = min k xs.length := HT.sIx_nat xs.length xs.length k
  rw [e1, e2, List.drop_zero, Nat.sub_zero, Nat.min_eq_left h]
theorem cut_from {xs : List V} {k : Nat} (h : k ≤ xs.length) : cutV xs (some (k : Int)) none = xs.drop k := by
  unfold cutV
  have e1 : HT.sIx xs.length xs.length none = xs.length := rfl
  have e2 : HT.sIx xs.length 0 (some (k : Int)) = min k xs.length := HT.sIx_nat xs.length 0 k
  rw [e1, e2, Nat.min_eq_left h]
  exact List.take_of_length_le (by rw [List.length_drop]; exact Nat.le_refl _)
theorem cut_mid {xs : List V} {j k : Nat} (h : k ≤ xs.length) (hj : j ≤ k) : cutV xs (some (j : Int)) (some (k : Int)) = (xs.drop j).take (k - j) := by
  unfold cutV
  have e1 : HT.sIx xs.length xs.length (some (k : Int)) = min k xs.length := HT.sIx_nat xs.length xs.length k
  have e2 : HT.sIx xs.length 0 (some (j : Int)) = min j xs.length := HT.sIx_nat xs.length 0 j
  rw [e1, e2, Nat.min_eq_left h, Nat.min_eq_left (Nat.le_trans hj h)]
def KdL (K : PySem.W.Frag) (G : Hp) : List (Key × V) → List (Str × List Str) → Prop := Paired fun p q => p.1 = .inr q.1 ∧ ∃ a, p.2 = .ref a ∧ G a = some (.lst (q.2.map V.str))
theorem KdL.up {K : PySem.W.Frag} {G G1 : Hp} {kvs kn} (h : KdL K G kvs kn) (s : Same G G1) : KdL K G1 kvs kn := L2.Paired.mapP h fun _ _ ⟨e, a, h1, h2⟩ => ⟨e, a, h1, s _ _ h2⟩
theorem KdL.keys {K : PySem.W.Frag} {G : Hp} {kvs kn} (h : KdL K G kvs kn) : kvs.map (·.1) = (kn.map (·.1)).map .inr := paired_keys (fun _ _ h => h.1) h
theorem put_new {kvs : List (Key × V)} {k : Key} {v : V} (h : k ∉ kvs.map (·.1)) : putK kvs k v = kvs ++ [(k, v)] := by
  unfold putK
  rw [if_neg]
  intro c
  obtain ⟨p, hp, e⟩ := List.any_eq_true.mp c
  exact h (List.mem_map.mpr ⟨p, hp, of_decide_eq_true e⟩)
theorem z_dputL {G H : Hp} {M : List (Addr × HO)} {d : Addr} {kvs : List (Key × V)} {k : Str} {v : V} {R : Hp → Prop} (z : Zp G M H) (i : Nat) (e : M[i]? = some (d, .dK kvs)) (hk : (.inr k : Key) ∉ kvs.map (·.1)) (hl : kvs.length < 1000)
    (q : ∀ H1, Zp G (M.set i (d, .dK (kvs ++ [(.inr k, v)]))) H1 → R H1) : DpW (.ref d) (.str k) v H R := by
  have z1 := z.put i e (.dK (kvs ++ [(.inr k, v)]))
  refine ⟨d, _, rfl, ?_, q _ z1⟩
  have := DPut.k (k := .inr k) (v := v) (z.at_ i e) (Nat.lt_of_lt_of_le hl (by decide))
  rw [put_new hk] at this
  exact this
theorem z_dputE {G H : Hp} {M : List (Addr × HO)} {d : Addr} {kvs : List (Key × V)} {k : Str} {v : V} {R : Hp → Prop} (z : Zp G (M ++ [(d, .dK kvs)]) H) (hk : (.inr k : Key) ∉ kvs.map (·.1)) (hl : kvs.length < 1000)
    (q : ∀ H1, Zp G (M ++ [(d, .dK (kvs ++ [(.inr k, v)]))]) H1 → R H1) : DpW (.ref d) (.str k) v H R := by
  refine z_dputL z M.length last_at hk hl fun H1 z1 => q H1 ?_
  rw [List.set_append_right _ _ (Nat.le_refl _), Nat.sub_self] at z1
  exact z1
theorem z_frz2 {G H : Hp} {M : List (Addr × HO)} {u : Addr × HO} {d : Addr} {kvs : List (Key × V)} {Q : VK} (z : Zp G (u :: (d, .dK kvs) :: M) H) (q : ∀ G1 H1, Zp G1 (u :: M) H1 → Same G G1 → FzD G1 d kvs → Q (.ref d) H1) : FrzW (.ref d) H Q := by
  refine ⟨d, _, rfl, z.at_ 1 rfl, trivial, fun od => ?_⟩
  have z1 : Zp G (u :: (d, .frz od (.dK kvs)) :: M) _ := z.put 1 rfl (.frz od (.dK kvs))
  obtain ⟨z2, fr⟩ := z1.fix2
  exact q _ _ z2 (Same.new fr) ⟨od, upd_same⟩
def Par3W (i j l : Nat) (D : Ends) (σ : L2.St) (vs : List V) (H : Hp) : Prop := ∃ u v w, vs = [u, v, w] ∧ D.nx (((σ.set i (some u)).set j (some v)).set l (some w)) H
theorem z_par3 {i j l : Nat} {ta : TA} {D : Ends} {σ : L2.St} {H : Hp} (h : ta σ H fun vs H1 => Par3W i j l D σ vs H1) : tPar3 i j l ta D σ H := h
theorem z_dnewK {σ : L2.St} {H : Hp} {Q : VK} (h : ∀ p, H p = none → Q (.ref p) (upd H p (.dK []))) : tDNewK σ H Q := h
theorem rem_nil : remP [] = [] := by simp [remP, condL, asc, dd]
theorem wid_nil : widP [] = 0 := by unfold widP; rw [rem_nil]; rfl
structure BkT (kn : List (Str × List Str)) (tn : List (Str × TkD)) (p : Pl) : Prop where
  gk : GoodK kn
  gt : GoodTs tn
  wt : ∀ q ∈ tn, Wd q.1
  pt : ∀ q ∈ tn, PlT q.2
  nd : NeedOk tn
  ok : Ok false p
  dp : p.dp ≤ 4
  sz : p.sz ≤ 85
  nm : (nmsL p).length ≤ 16
  mem : ∀ s ∈ nmsL p, s ∈ tn.map (·.1)
theorem cond_small : ∀ {tn : List (Str × TkD)}, (∀ q ∈ tn, q.2.l1.length ≤ 4 ∧ q.2.l2.length ≤ 4) → (condL tn).length ≤ 8 * tn.length
  | [], _ => by simp [condL]
  | q :: r, h => by
    have e : condL (q :: r) = (q.2.l1 ++ q.2.l2) ++ condL r := by simp [condL]
    have h1 := h q (by simp)
    have h2 := cond_small (tn := r) fun x hx => h x (List.mem_cons_of_mem _ hx)
    rw [e, List.length_append, List.length_append, List.length_cons]
    omega
section
variable {P : Program} {w : World} {K : PySem.W.Frag} {mg : Str → Option Value} {base : Heap} {f : Addr} {fd : FuncData}
def spLBook (K : PySem.W.Frag) : Sp := fun vs H Q _ => ∃ p o G M b, vs = [.ref p] ∧ Zp G ((p, o) :: M) H ∧ Pen K G b o ∧ b ≤ 50000000000 ∧
  ∀ a dk dt vp kk kt kn tn pl G1 H1 o1, Zp G1 ((p, o1) :: M) H1 → Same G G1 → Pen K G1 (b + 600) o1 → SqT K G1 a [.ref dk, .ref dt, vp] → FzD G1 dk kk → KdL K G1 kk kn → FzD G1 dt kt → Pts K G1 kt tn → Dt K G1 vp (Pl.d pl) → BkT kn tn pl → Q (.ref a) H1
theorem ok_lbook (T : Nm K mg) (C_law_draw : OwnD P w K mg base) (C_law_words : Own P w K mg base CX0 3 "_law_words" ["_law_pen_here", "_law_count_here"] (spWords K)) (C_law_shuffled : OwnSh P w K mg base)
    (C_law_task : Own P w K mg base CX0 3 "_law_task" ["_law_pen_here", "_law_names", "_law_roles"] (spTask K)) (C_law_remembered : Own P w K mg base CX0 3 "_law_remembered" ["_law_tasks"] (spLRem K)) (C_law_width : Own P w K mg base CX0 4 "_law_width" ["_law_tasks"] (spLWid K))
    (C_law_plan : Own P w K mg base CX0 7 "_law_plan" ["_law_pen_here", "_law_names", "_law_deep", "_law_is_beside"] (spLPlan K 4)) (C_law_count : Own P w K mg base CX0 18 "_law_count" ["_law_plan_here"] (spNum K lenI 17)) (F : FnP K "_law_book" s_law_book f fd) :
    FnOk P w K mg base CX0 19 f fd ["_law_pen_here"] (spLBook K) := by
  have nd : N_law_book.Nodup := sc_law_book.nd
  refine F.ok sc_law_book (fun vs H Q E h => ?_) (fun cdv A outer s H vs Q E hr h => ?_)
  · obtain ⟨p, o, G, M, b, rfl, _⟩ := h
    rfl
  have hu := hr.units
  refine ⟨_, PSs.nox   (pss_cons (ps_par3 (i := 4) (j := 5) (l := 6) (by rfl) nd rfl rfl rfl (by decide) (by decide) (by decide) rfl rfl rfl (pa_cons (pe_own C_law_words (hr.mono (by omega)) (by rfl) pass0 (pa_cons (pv 0) (pa_cons pe_int pa_nil))) (pa_cons (pe_frz pe_dnewK) (pa_cons pe_dnewK pa_nil))) (by rfl))
    (pss_cons (ps_for PassesOwn.never rfl (k_any (K := K) (pe_slice (k_sl (K := K)) (pv 4) po_none (po_some (pe_op (k_add (K := K)) pe_int (pe_own C_law_draw (hr.mono (by omega)) (by rfl) pass0 (pa_cons (pv 0) (pa_cons pe_int pa_nil))))))) (pg_name (i := 1) nd rfl (by first | exact .inl rfl | exact .inr rfl)) (pss_one (ps_dput (hu_of hr) (pv 6) (pv 1) (pe_slice (k_sl (K := K)) (pe_own C_law_shuffled (hr.mono (by omega)) (by rfl) pass0 (pa_cons (pv 0) (pa_cons (pe_slice (k_sl (K := K)) (pv 4) (po_some pe_int) po_none) pa_nil))) po_none (po_some (pe_own C_law_draw (hr.mono (by omega)) (by rfl) pass0 (pa_cons (pv 0) (pa_cons pe_int pa_nil))))) rfl)))
    (pss_cons (ps_for PassesOwn.never rfl (k_any (K := K) (pe_slice (k_sl (K := K)) (pe_own C_law_shuffled (hr.mono (by omega)) (by rfl) pass0 (pa_cons (pv 0) (pa_cons (pe_slice (k_sl (K := K)) (pv 4) (po_some pe_int) po_none) pa_nil))) po_none (po_some (pe_op (k_add (K := K)) pe_int (pe_own C_law_draw (hr.mono (by omega)) (by rfl) pass0 (pa_cons (pv 0) (pa_cons pe_int pa_nil))))))) (pg_name (i := 2) nd rfl (by first | exact .inl rfl | exact .inr rfl)) (pss_cons (ps_asg (pe_callTy c_dictD (by rfl) T.b_dict boot_dict (pa_cons (pv 5) pa_nil)) (pg_name (i := 7) nd rfl (by first | exact .inl rfl | exact .inr rfl)))
    (pss_cons (ps_dput (hu_of hr) (pv 7) (pv 2) (pe_own C_law_task (hr.mono (by omega)) (by rfl) pass0 (pa_cons (pv 0) (pa_cons (pe_slice (k_sl (K := K)) (pv 4) (po_some pe_int) (po_some pe_int)) (pa_cons (pe_slice (k_sl (K := K)) (pv 4) (po_some pe_int) po_none) pa_nil)))) rfl)
    (pss_one (ps_if (PW.pt (pw_and (pt_cmpR o_le (pe_callB (kc_len (K := K) (P := P) (w := w)) (by rfl) T.b_len PySem.boot_len (pa_cons (pe_own C_law_remembered (hr.mono (by omega)) (by rfl) pass0 (pa_cons (pe_frz (pv 7)) pa_nil)) pa_nil)) pe_int (nomark _)) (pw_and1 (pt_cmpR o_le (pe_own C_law_width (hr.mono (by omega)) (by rfl) pass0 (pa_cons (pv 7) pa_nil)) pe_int (nomark _))))) (pss_one (ps_asg (pv 7) (pg_name (i := 5) nd rfl (by first | exact .inl rfl | exact .inr rfl)))) pss_nil)))))
    (pss_cons (ps_asg (pe_own C_law_plan (hr.mono (by omega)) (by rfl) pass0 (pa_cons (pv 0) (pa_cons (pe_callB (kc_sorted (K := K) (P := P) (w := w) rfl) (by rfl) T.b_sorted boot_sorted (pa_cons (pe_callTy (kc_setD (P := P) (w := w) rfl) (by rfl) T.b_set boot_set (pa_cons (pv 5) pa_nil)) pa_nil)) (pa_cons pe_int (pa_cons pe_bl pa_nil))))) (pg_name (i := 3) nd rfl (by first | exact .inl rfl | exact .inr rfl)))
    (pss_one (ps_ret (pe_tup (pa_cons (pe_frz (pv 6)) (pa_cons (pv 5) (pa_cons (pe_ifExp (pt_cmpR o_le (pe_own C_law_count (hr.mono (by omega)) (by rfl) pass0 (pa_cons (pv 3) pa_nil)) pe_int (nomark _)) (pv 3) (pe_tup (pa_cons pe_str pa_nil))) pa_nil)))))))))), ?_⟩
  obtain ⟨p, o, G, M, b, rfl, z, hp, hb, q⟩ := h
  repeat (walk_at "z")
  refine z_par3 ?_
  repeat (walk_at "z")
  refine ⟨p, o, G, M, b, 8, rfl, z, hp, by omega, by decide, fun l0 G1 H1 o1 ss z1 s1 hp1 e1 hl1 hw1 hn1 => ?_⟩
  repeat (walk_at "z")
  refine z_dnewK fun td htd => ?_
  refine z_frzL (z1.add htd _) fun G2 H2 z2 s2 f2 => ?_
  repeat (walk_at "z")
  refine z_dnewK fun kd hkd => ?_
  have z3 := z2.addP hkd (.dK [])
  generalize upd H2 kd (HO.dK []) = H3 at z3
  repeat (walk_at "z")
  refine ⟨_, _, _, rfl, ?_⟩
  repeat (walk_at "z")
  refine z_anyL ?_
  repeat (walk_at "z")
  refine ⟨p, o1, G2, _, _, 3, rfl, z3, hp1.up s2, by omega, by decide, by decide, fun r1 G4 H4 o4 z4 s4 hp4 r10 r13 => ?_⟩
  repeat (walk_at "z")
  have s24 := s2.trans s4
  obtain ⟨k1, hk1⟩ : ∃ k : Nat, 1 + r1 = (k : Int) := ⟨(1 + r1).toNat, by omega⟩
  rw [hk1]
  refine z_slL z4 (SqL.of (s24 _ _ e1)) fun l5 G5 H5 z5 s5 e5 => ?_
  rw [cut_to (by rw [List.length_map]; omega), ← List.map_take] at e5
  generalize hcs : ss.take k1 = cs at e5
  have cS : cs.Sublist ss := hcs ▸ List.take_sublist _ _
  have cL : cs.length = k1 := by rw [← hcs, List.length_take]; omega
  have cN := hn1.sublist cS
  have cW : ∀ s ∈ cs, Wd s := fun s hs => hw1 s (cS.subset hs)
  have s25 := s24.trans s5
  refine z_itL z5 (SqL.of e5) ?_
  refine for_src src_L (fun i σ G' M' => ∃ o' kk kn k1, M' = (p, o') :: (kd, .dK kk) :: M ∧ Same G5 G' ∧ Pen K G' (b + 11 + 4 * i) o' ∧ KdL K G' kk kn ∧ kn.map (·.1) = cs.take i ∧ (∀ q ∈ kn, q.2.length ≤ 4 ∧ q.2.Nodup ∧ ∀ s ∈ q.2, wordS s = true) ∧
    σ = [some (.ref p), k1, none, none, some (.ref l0), some (.ref td), some (.ref kd), none]) z5 ⟨o4, [], [], _, rfl, Same.refl _, (hp4.up s5).mono (by omega), .nil, rfl, (fun q hq => by cases hq), rfl⟩ (fun i σ G' M' H' ⟨_, _, _, _, _, s', _⟩ z' => z'.seqL (upL s' (SqL.of e5))) ?_ ?_
  · rintro i x σ G' M' H' hx ⟨o', kk, kn, k1', rfl, s', hp', hK, hkn, hkg, rfl⟩ z'
    rw [List.getElem?_map] at hx
    obtain ⟨nm, hnm, rfl⟩ := Option.map_eq_some_iff.mp hx
    have hi : i < cs.length := (List.getElem?_eq_some_iff.mp hnm).1
    have e1' := (s25.trans s') _ _ e1
    repeat (walk_at "z")
    refine z_slL z' (SqL.of e1') fun l6 G6 H6 z6 s6 e6 => ?_
    rw [show (5 : Int) = ((5 : Nat) : Int) from rfl, cut_from (by rw [List.length_map]; omega), ← List.map_drop] at e6
    repeat (walk_at "z")
    refine ⟨p, o', G6, _, _, l6, (ss.drop 5).map V.str, rfl, z6, hp'.up s6, by rw [List.length_map, List.length_drop]; omega, .inl (SqL.of e6), el_wds (fun s hs => hw1 s (List.mem_of_mem_drop hs)), by rw [List.length_map, List.length_drop]; omega, fun l7 ys G7 H7 o7 z7 s7 hp7 pm => ?_⟩
    obtain ⟨ts, rfl, pm'⟩ := perm_strs pm
    rw [List.length_map, List.length_drop, hl1] at hp7
    have tl : ts.length = 3 := by rw [pm'.length_eq, List.length_drop, hl1]
    repeat (walk_at "z")
    refine ⟨p, o7, G7, _, _, 4, rfl, z7, hp7, by omega, by decide, by decide, fun r8 G8 H8 o8 z8 s8 hp8 r80 r84 => ?_⟩
    repeat (walk_at "z")
    refine z_slO z8 1 rfl fun q9 G9 H9 z9 s9 f9 => ?_
    obtain ⟨k8, rfl⟩ : ∃ k : Nat, r8 = (k : Int) := ⟨r8.toNat, by omega⟩
    rw [cut_to (by rw [List.length_map]; omega), ← List.map_take] at f9
    have tS : ∀ s ∈ ts.take k8, s ∈ ss := fun s hs => List.mem_of_mem_drop (pm'.mem_iff.mp (List.mem_of_mem_take hs))
    have tN : (ts.take k8).Nodup := (pm'.nodup_iff.mpr (hn1.sublist (List.drop_sublist _ _))).sublist (List.take_sublist _ _)
    have z10 := z9.keep (M1 := (p, o8) :: (kd, .dK kk) :: M) (.cons_cons _ (.cons _ (List.Sublist.refl _)))
    repeat (walk_at "z")
    have new : (.inr nm : Key) ∉ kk.map (·.1) := by
      rw [hK.keys, hkn]
      intro h
      obtain ⟨s, hs, e⟩ := List.mem_map.mp h
      obtain rfl : s = nm := Sum.inr.inj e
      obtain ⟨j, hj⟩ := List.getElem?_of_mem hs
      have hji := (List.getElem?_eq_some_iff.mp hj).1
      rw [List.length_take] at hji
      rw [List.getElem?_take] at hj
      split at hj
      · rename_i c
        have := (List.getElem?_inj (by omega) cN).mp (hj.trans hnm.symm)
        omega
      · cases hj
    have kl : kk.length = i := by
      have := congrArg List.length hK.keys
      rw [List.length_map, List.length_map, hkn, List.length_take] at this
      omega
    refine z_dputL z10 1 rfl new (by omega) fun H11 z11 => ?_
    repeat (walk_at "z")
    have s69 := s6.trans (s7.trans (s8.trans s9))
    refine ⟨G9, _, z11, o8, _, kn ++ [(nm, ts.take k8)], _, rfl, s'.trans s69, (hp8.up s9).mono (by omega), ?_, ?_, ?_, rfl⟩
    · exact Paired.snoc (hK.up s69) ⟨rfl, _, rfl, f9⟩
    · rw [List.map_append, hkn, List.take_add_one, hnm]
      rfl
    · intro q' hq
      rcases List.mem_append.mp hq with hq | hq
      · exact hkg q' hq
      · obtain rfl : q' = (nm, ts.take k8) := by simpa using hq
        exact ⟨by show (ts.take k8).length ≤ 4; rw [List.length_take]; omega, tN, fun s hs => wd_word (hw1 s (tS s hs))⟩
  rintro σ G6 M6 H6 ⟨o6, kk, kn, k1', rfl, s6, hp6, hK, hkn, hkg, rfl⟩ z6
  rw [List.length_map] at hp6
  rw [List.length_map, List.take_length] at hkn
  have gk : GoodK kn := ⟨by have := congrArg List.length hkn; rw [List.length_map] at this; omega, by have := congrArg List.length hkn; rw [List.length_map] at this; omega, by rw [hkn]; exact cN, fun q' hq => wd_word (cW _ (by rw [← hkn]; exact List.mem_map.mpr ⟨q', hq, rfl⟩)), hkg⟩
  have s26 := s25.trans s6
  -- the tasks
  repeat (walk_at "z")
  refine z_anyL ?_
  repeat (walk_at "z")
  refine z_slL z6 (SqL.of (s26 _ _ e1)) fun l7 G7 H7 z7 s7 e7 => ?_
  rw [show (2 : Int) = ((2 : Nat) : Int) from rfl, cut_from (by rw [List.length_map]; omega), ← List.map_drop] at e7
  repeat (walk_at "z")
  refine ⟨p, o6, G7, _, _, l7, (ss.drop 2).map V.str, rfl, z7, hp6.up s7, by rw [List.length_map, List.length_drop]; omega, .inl (SqL.of e7), el_wds (fun s hs => hw1 s (List.mem_of_mem_drop hs)), by rw [List.length_map, List.length_drop]; omega, fun l8 ys G8 H8 o8 z8 s8 hp8 pm => ?_⟩
  obtain ⟨ts, rfl, pm'⟩ := perm_strs pm
  rw [List.length_map, List.length_drop, hl1] at hp8
  have tl : ts.length = 6 := by rw [pm'.length_eq, List.length_drop, hl1]
  repeat (walk_at "z")
  refine ⟨p, o8, G8, _, _, 4, rfl, z8, hp8, by omega, by decide, by decide, fun r9 G9 H9 o9 z9 s9 hp9 r90 r94 => ?_⟩
  repeat (walk_at "z")
  obtain ⟨k9, hk9⟩ : ∃ k : Nat, 1 + r9 = (k : Int) := ⟨(1 + r9).toNat, by omega⟩
  rw [hk9]
  refine z_slO z9 1 rfl fun q10 G10 H10 z10 s10 f10 => ?_
  rw [cut_to (by rw [List.length_map]; omega), ← List.map_take] at f10
  generalize hds : ts.take k9 = ds at f10
  have dS : ∀ s ∈ ds, s ∈ ss := fun s hs => List.mem_of_mem_drop (pm'.mem_iff.mp (List.mem_of_mem_take (hds ▸ hs)))
  have dL : ds.length = k9 := by rw [← hds, List.length_take]; omega
  have dN : ds.Nodup := hds ▸ (pm'.nodup_iff.mpr (hn1.sublist (List.drop_sublist _ _))).sublist (List.take_sublist _ _)
  have z10 := z10.keep (M1 := (p, o9) :: (kd, .dK kk) :: M) (.cons_cons _ (.cons _ (List.Sublist.refl _)))
  have s7a := s7.trans (s8.trans (s9.trans s10))
  have f2' := f2.up (s4.trans (s5.trans (s6.trans s7a)))
  refine z_itL z10 (SqL.of f10) ?_
  refine for_src src_L (fun i σ G' M' => ∃ o' td kt tn k2 k7, M' = (p, o') :: (kd, .dK kk) :: M ∧ Same G10 G' ∧ Pen K G' (b + 40 + 100 * i) o' ∧ FzD G' td kt ∧ Pts K G' kt tn ∧ (tn.map (·.1)).Nodup ∧ (∀ q ∈ tn, q.1 ∈ ds.take i) ∧ tn.length ≤ i ∧
    (∀ q ∈ tn, PlT q.2 ∧ q.2.l1.length ≤ 4 ∧ q.2.l2.length ≤ 4) ∧ (remP tn).length ≤ 3 ∧ widP tn ≤ 5 ∧
    σ = [some (.ref p), k1', k2, none, some (.ref l0), some (.ref td), some (.ref kd), k7]) z10 ⟨o9, td, [], [], _, _, rfl, Same.refl _, (hp9.up s10).mono (by omega), f2', .nil, .nil, (fun q hq => by cases hq), Nat.zero_le _, (fun q hq => by cases hq), by rw [rem_nil]; decide, by rw [wid_nil]; decide, rfl⟩ (fun i σ G' M' H' ⟨_, _, _, _, _, _, _, s', _⟩ z' => z'.seqL (upL s' (SqL.of f10))) ?_ ?_
  · rintro i x σ G' M' H' hx ⟨o', td, kt, tn, k2, k7, rfl, s', hp', hF, hT, hnd, hmem, hlen, hpt, hrm, hwd, rfl⟩ z'
    rw [List.getElem?_map] at hx
    obtain ⟨nm, hnm, rfl⟩ := Option.map_eq_some_iff.mp hx
    have hi : i < ds.length := (List.getElem?_eq_some_iff.mp hnm).1
    have sI := s26.trans (s7a.trans s')
    have e1' := sI _ _ e1
    have ktl : kt.length = tn.length := keys_len hT
    repeat (walk_at "z")
    refine z_dictD z' hF fun ld H11 z11 => ?_
    repeat (walk_at "z")
    refine z_slL z11 (SqL.of e1') fun l12 G12 H12 z12 s12 e12 => ?_
    rw [show (2 : Int) = ((2 : Nat) : Int) from rfl, show (6 : Int) = ((6 : Nat) : Int) from rfl, cut_mid (by rw [List.length_map]; omega) (by decide), ← List.map_drop, ← List.map_take] at e12
    repeat (walk_at "z")
    refine z_slL z12 (SqL.of (s12 _ _ e1')) fun l13 G13 H13 z13 s13 e13 => ?_
    rw [show (5 : Int) = ((5 : Nat) : Int) from rfl, cut_from (by rw [List.length_map]; omega), ← List.map_drop] at e13
    repeat (walk_at "z")
    have s123 := s12.trans s13
    refine ⟨p, o', G13, (kd, .dK kk) :: M ++ [(ld, .dK kt)], _, l12, l13, _, _, rfl, (show Zp G13 ((p, o') :: ((kd, .dK kk) :: M ++ [(ld, .dK kt)])) H13 from z13), hp'.up s123, by omega, s13 _ _ e12, e13, by rw [List.length_take, List.length_drop]; omega, by rw [List.length_drop]; omega, fun s hs => hw1 s (List.mem_of_mem_drop (List.mem_of_mem_take hs)), fun s hs => hw1 s (List.mem_of_mem_drop hs), fun at' t G14 H14 o14 z14 s14 hp14 d14 pt14 len14 => ?_⟩
    rw [List.length_take, List.length_drop, hl1] at len14
    have z14 : Zp G14 (((p, o14) :: (kd, .dK kk) :: M) ++ [(ld, .dK kt)]) H14 := z14
    have nin : nm ∉ tn.map (·.1) := by
      intro h
      obtain ⟨q', hq, e⟩ := List.mem_map.mp h
      have hs := hmem q' hq
      rw [e] at hs
      obtain ⟨j, hj⟩ := List.getElem?_of_mem hs
      have hji := (List.getElem?_eq_some_iff.mp hj).1
      rw [List.length_take] at hji
      rw [List.getElem?_take] at hj
      split at hj
      · rename_i c
        have := (List.getElem?_inj (by omega) dN).mp (hj.trans hnm.symm)
        omega
      · cases hj
    have new : (.inr nm : Key) ∉ kt.map (·.1) := by
      rw [hT.keys]
      intro h
      obtain ⟨s, hs, e⟩ := List.mem_map.mp h
      exact nin (Sum.inr.inj e ▸ hs)
    repeat (walk_at "z")
    refine z_dputE z14 new (by omega) fun H15 z15 => ?_
    have sT := s12.trans (s13.trans s14)
    have hT' : Pts K G14 (kt ++ [(.inr nm, .ref at')]) (tn ++ [(nm, t)]) := Paired.snoc (hT.up sT) ⟨rfl, at', rfl, d14⟩
    have nd' : ((tn ++ [(nm, t)]).map (·.1)).Nodup := by
      rw [List.map_append, List.nodup_append]
      refine ⟨hnd, by simp, fun a ha c hc => ?_⟩
      obtain rfl : c = nm := by simpa using hc
      rintro rfl
      exact nin ha
    have pt' : ∀ q ∈ tn ++ [(nm, t)], PlT q.2 ∧ q.2.l1.length ≤ 4 ∧ q.2.l2.length ≤ 4 := fun q' hq => by
      rcases List.mem_append.mp hq with hq | hq
      · exact hpt q' hq
      · obtain rfl : q' = (nm, t) := by simpa using hq
        exact ⟨pt14, by show t.l1.length ≤ 4; omega, by show t.l2.length ≤ 4; omega⟩
    have cl' := cond_small (fun q' hq => (pt' q' hq).2)
    have ln' : (tn ++ [(nm, t)]).length = tn.length + 1 := by simp
    rw [ln'] at cl'
    have c64 : (condL (tn ++ [(nm, t)])).length < 64 := by omega
    repeat (walk_at "z")
    refine z_frzL z15 fun G16 H16 z16 s16 f16 => ?_
    repeat (walk_at "z")
    refine ⟨G16, _, ld, _, tn ++ [(nm, t)], rfl, z16, f16, hT'.up s16, nd', c64, fun l17 G17 H17 z17 s17 e17 => ?_⟩
    repeat (walk_at "z")
    refine z_lenT z17 e17 ?_
    repeat (walk_at "z")
    have sE := s'.trans (sT.trans (s16.trans s17))
    have keepF : ∀ {G18 H18 : Hp} {k2 k7 : Option V}, Zp G18 ((p, o14) :: (kd, .dK kk) :: M) H18 → Same G17 G18 → ∃ G2 M2, Zp G2 M2 H18 ∧ ∃ o' td' kt tn k2' k7', M2 = (p, o') :: (kd, .dK kk) :: M ∧ Same G10 G2 ∧ Pen K G2 (b + 40 + 100 * (i + 1)) o' ∧ FzD G2 td' kt ∧ Pts K G2 kt tn ∧ (tn.map (·.1)).Nodup ∧ (∀ q ∈ tn, q.1 ∈ ds.take (i + 1)) ∧ tn.length ≤ i + 1 ∧
      (∀ q ∈ tn, PlT q.2 ∧ q.2.l1.length ≤ 4 ∧ q.2.l2.length ≤ 4) ∧ (remP tn).length ≤ 3 ∧ widP tn ≤ 5 ∧
      [some (.ref p), k1', k2, none, some (.ref l0), some (.ref td), some (.ref kd), k7] = [some (.ref p), k1', k2', none, some (.ref l0), some (.ref td'), some (.ref kd), k7'] := fun z18 s18 =>
      have sF := sT.trans (s16.trans (s17.trans s18))
      ⟨_, _, z18, o14, td, kt, tn, _, _, rfl, sE.trans s18, (hp14.up (s16.trans (s17.trans s18))).mono (by omega), hF.up sF, hT.up sF, hnd, fun q' hq => (List.take_subset_take_left _ (Nat.le_succ i)) (hmem q' hq), by omega, hpt, hrm, hwd, rfl⟩
    refine z_bd (fun c1 => ?_) (fun c1 => ?_)
    · repeat (walk_at "z")
      refine ⟨G17, _, ld, _, tn ++ [(nm, t)], rfl, z17, f16.up s17, hT'.up (s16.trans s17), nd', c64, by omega, fun G18 H18 z18 s18 => ?_⟩
      repeat (walk_at "z")
      refine z_bd (fun c2 => ?_) (fun c2 => ?_)
      · repeat (walk_at "z")
        refine ⟨_, _, z18, o14, ld, _, tn ++ [(nm, t)], _, _, rfl, sE.trans s18, (hp14.up (s16.trans (s17.trans s18))).mono (by omega), f16.up (s17.trans s18), hT'.up (s16.trans (s17.trans s18)), nd', fun q' hq => ?_, by omega, pt', ?_, c2, rfl⟩
        · rcases List.mem_append.mp hq with hq | hq
          · exact (List.take_subset_take_left _ (Nat.le_succ i)) (hmem q' hq)
          · obtain rfl : q' = (nm, t) := by simpa using hq
            rw [List.take_add_one, hnm]
            simp
        · rw [List.length_map] at c1
          omega
      · repeat (walk_at "z")
        exact keepF z18 s18
    · repeat (walk_at "z")
      exact keepF z17 (Same.refl _)
  rintro σ G11 M11 H11 ⟨o11, td, kt, tn, k2, k7, rfl, s11, hp11, hF, hT, hnd, hmem, hlen, hpt, hrm, hwd, rfl⟩ z11
  rw [List.length_map] at hp11 hlen
  have sI := s26.trans (s7a.trans s11)
  have hmem' : ∀ q ∈ tn, q.1 ∈ ss := fun q' hq => dS _ (List.mem_of_mem_take (hmem q' hq))
  repeat (walk_at "z")
  refine z_setD z11 hF hT.keys (by rw [List.length_map]; omega) fun p12 l12 G12 H12 z12 s12 e12 m12 nd12 l12' => ?_
  rw [List.length_map] at l12'
  repeat (walk_at "z")
  refine z_sortX z12 e12 m12 nd12 (by omega) fun p13 G13 H13 z13 s13 e13 => ?_
  repeat (walk_at "z")
  have c7 : cst7 3 = 93 := rfl
  have al := asc_len (tn.map (·.1))
  rw [List.length_map] at al
  refine ⟨p, o11, G13, (kd, .dK kk) :: M, _, p13, asc (tn.map (·.1)), 3, true, rfl, z13, hp11.up (s12.trans s13), by omega, SqL.of e13, by omega, fun s hs => ?_, by decide, fun v pl G14 H14 o14 z14 s14 hp14 d14 dr14 => ?_⟩
  · obtain ⟨q', hq, rfl⟩ := List.mem_map.mp (asc_mem.mp hs)
    exact hw1 _ (hmem' q' hq)
  repeat (walk_at "z")
  refine z_frz2 z14 fun G15 H15 z15 s15 f15 => ?_
  repeat (walk_at "z")
  have h4 := dr14.dp
  have h5 := dr14.sz
  have s3B : szB 3 = 85 := rfl
  refine ⟨G15, _, v, pl, rfl, z15, d14.up s15, by omega, by omega, fun G16 H16 z16 s16 => ?_⟩
  have s1g := s12.trans (s13.trans (s14.trans (s15.trans s16)))
  have sK := s7a.trans (s11.trans s1g)
  have sAll := s1.trans (sI.trans s1g)
  have c64 := cond_small (fun q' hq => (hpt q' hq).2)
  have gt : GoodTs tn := ⟨by omega, hnd, fun q' hq => wd_word (hw1 _ (hmem' q' hq))⟩
  have wt : ∀ q ∈ tn, Wd q.1 := fun q' hq => hw1 _ (hmem' q' hq)
  have nO : NeedOk tn := ⟨by omega, hrm, hwd⟩
  have pO := fun q' hq => (hpt q' hq).1
  have hp16 := (hp14.up (s15.trans s16))
  repeat (walk_at "z")
  refine z_bd (fun c3 => ?_) (fun c3 => ?_)
  · repeat (walk_at "z")
    refine z_newT z16 (by simp) fun a17 G17 H17 z17 s17 e17 => ?_
    exact q a17 kd td v kk kt kn tn pl G17 _ o14 z17 (sAll.trans s17) ((hp16.up s17).mono (by omega)) (SqT.of e17) (f15.up (s16.trans s17)) (hK.up (sK.trans s17)) (hF.up (s1g.trans s17)) (hT.up (s1g.trans s17)) (d14.up (s15.trans (s16.trans s17)))
      ⟨gk, gt, wt, pO, nO, dr14.ok, h4, by omega, by unfold lenI at c3; omega, fun s hs => asc_mem.mp (dr14.mem s hs)⟩
  · repeat (walk_at "z")
    refine z_newT z16 (by simp) fun a17 G17 H17 z17 s17 e17 => ?_
    repeat (walk_at "z")
    refine z_newT z17 (by simp) fun a18 G18 H18 z18 s18 e18 => ?_
    have s178 := s17.trans s18
    exact q a18 kd td (.ref a17) kk kt kn tn done G18 _ o14 z18 (sAll.trans s178) ((hp16.up s178).mono (by omega)) (SqT.of e18) (f15.up (s16.trans s178)) (hK.up (sK.trans s178)) (hF.up (s1g.trans s178)) (hT.up (s1g.trans s178)) (by rw [done]; exact dt_mk (h := .th) (SqT.of (s18 _ _ e17)) .nil)
      ⟨gk, gt, wt, pO, nO, .nd rfl (fun h => by cases h) (fun p hp => by cases hp), by simp [done, Pl.dp, Pl.dpl], by simp [done, Pl.sz, Pl.szl], by simp [done, nmsL, nmsLl], fun s hs => by simp [done, nmsL, nmsLl] at hs⟩
end
end LW
namespace LW
open PySem PySem.Spec PyProof.Rows L2 Ys

/-! ### tasks made, shown; values of any kind -/
def dT (x : String) : PyData := .tuple [.str x]
def any1 : List PyData := [.none, .bool true, .bool false, .int 0, .int 1, .int 2, .int 3, .int 4, .int (-1), .int (10 ^ (60 : Int).toNat), .str "", .str "a", .str "A", .str "ab", .str "abcdefghi", .str "a b", .tuple [], dT "a"]
def any2 : List PyData := [.list [], .list [.str "a"], .list [.int 1], .dict [], .dict [(.str "a", .int 1)], .tuple [.int 1, .int 2], dT "then", .tuple [.none], .tuple [.str "a", .int 1], .list [.list [.str "a"]], .tuple [dT "a"]]
def any3 : List PyData := [.str "then", .dict [(.str "p", .list [])], .list [.str "a", .str "a"], dT "either"]
def shortB : PyData → Bool
  | .str s => decide (s.length ≤ 100000)
  | _ => true
def okAB (d : PyData) : Bool := shortB d && (decide ((itemsD d).length ≤ 20) && (itemsD d).all shortB)
theorem shortB_ok {d : PyData} (h : shortB d = true) : ShortD d := fun s e => by
  subst e
  exact of_decide_eq_true h

theorem okl_list {l y : List Str} (h : SL l) (p : y.Perm l) : OkL (.list (y.map PyData.str)) y := ⟨rfl, rfl, fun s hs => h.wd s (p.mem_iff.mp hs), p.nodup_iff.mpr h.nd, by have := p.length_eq; have := h.le; omega⟩
def gV1 (vs zs : List V) : List V := vs ++ zs
section
variable {P : Program} {w : World} {K : PySem.W.Frag} {mg : Str → Option Value} {base : Heap} {f : Addr} {fd : FuncData} {C : Addr}
def spAny (K : PySem.W.Frag) : Sp := fun vs H Q _ => ∃ p o G M b, vs = [.ref p] ∧ Zp G ((p, o) :: M) H ∧ Pen K G b o ∧ b ≤ 100000000000 ∧
  ∀ v d G1 H1 o1, Zp G1 ((p, o1) :: M) H1 → Same G G1 → Pen K G1 (b + 1) o1 → Dt K G1 v d → d ∈ any1 ++ any2 ++ any3 → Q v H1
theorem ok_any (T : Nm K mg) (C_law_pick : OwnP P w K mg base) (F : FnP K "_law_any_value" s_law_any_value f fd) : FnOk P w K mg base CX0 3 f fd ["_law_pen_here"] (spAny K) := by
  have nd : N_law_any_value.Nodup := sc_law_any_value.nd
  refine F.ok sc_law_any_value (fun vs H Q E h => ?_) (fun cdv A outer s H vs Q E hr h => ?_)
  · obtain ⟨p, o, G, M, b, rfl, _⟩ := h
    rfl
  have hu := hr.units
  refine ⟨_, PSs.nox   (pss_cons (ps_asg (pe_lst (pa_cons pe_non (pa_cons pe_bl (pa_cons pe_bl (pa_cons pe_int (pa_cons pe_int (pa_cons pe_int (pa_cons pe_int (pa_cons pe_int (pa_cons (pe_un un_neg pe_int) (pa_cons (pe_op o_pow pe_int pe_int) (pa_cons pe_str (pa_cons pe_str (pa_cons pe_str (pa_cons pe_str (pa_cons pe_str (pa_cons pe_str (pa_cons (pe_tup pa_nil) (pa_cons (pe_tup (pa_cons pe_str pa_nil)) pa_nil))))))))))))))))))) (pg_name (i := 1) nd rfl (by first | exact .inl rfl | exact .inr rfl)))
    (pss_cons (ps_asg (pe_op (k_add (K := K)) (pv 1) (pe_lst (pa_cons (pe_lst pa_nil) (pa_cons (pe_lst (pa_cons pe_str pa_nil)) (pa_cons (pe_lst (pa_cons pe_int pa_nil)) (pa_cons pe_dnewK (pa_cons (pe_disp (pps_cons pe_str pe_int pps_nil) (by rfl) (by rfl) (fun z => by cases z) (by decide)) (pa_cons (pe_tup (pa_cons pe_int (pa_cons pe_int pa_nil))) (pa_cons (pe_tup (pa_cons pe_str pa_nil)) (pa_cons (pe_tup (pa_cons pe_non pa_nil)) (pa_cons (pe_tup (pa_cons pe_str (pa_cons pe_int pa_nil))) (pa_cons (pe_lst (pa_cons (pe_lst (pa_cons pe_str pa_nil)) pa_nil)) (pa_cons (pe_tup (pa_cons (pe_tup (pa_cons pe_str pa_nil)) pa_nil)) pa_nil))))))))))))) (pg_name (i := 1) nd rfl (by first | exact .inl rfl | exact .inr rfl)))
    (pss_cons (ps_asg (pe_op (k_add (K := K)) (pv 1) (pe_lst (pa_cons pe_str (pa_cons (pe_disp (pps_cons pe_str (pe_lst pa_nil) pps_nil) (by rfl) (by rfl) (fun z => by cases z) (by decide)) (pa_cons (pe_lst (pa_cons pe_str (pa_cons pe_str pa_nil))) (pa_cons (pe_tup (pa_cons pe_str pa_nil)) pa_nil)))))) (pg_name (i := 1) nd rfl (by first | exact .inl rfl | exact .inr rfl)))
    (pss_one (ps_ret (pe_own C_law_pick (hr.mono (by omega)) (by rfl) pass0 (pa_cons (pv 0) (pa_cons (pv 1) pa_nil)))))))), ?_⟩
  obtain ⟨p, o, G, M, b, rfl, z, hp, hb, q⟩ := h
  with_reducible refine z_seq ?_
  with_reducible refine z_asg ?_
  refine lit_list (ds := any1) (K := K) (by
    refine lit_cons lit_non (lit_cons (lit_bl _) (lit_cons (lit_bl _) (lit_cons (lit_int _) (lit_cons (lit_int _) (lit_cons (lit_int _) (lit_cons (lit_int _) (lit_cons (lit_int _) (lit_cons (lit_neg (lit_int 1)) (lit_cons (lit_pow 10 60 ⟨by decide, by decide, by decide⟩) ?_)))))))))
    exact lit_cons (lit_str _) (lit_cons (lit_str _) (lit_cons (lit_str _) (lit_cons (lit_str _) (lit_cons (lit_str _) (lit_cons (lit_str _) (lit_cons (lit_tup lit_nil (by decide)) (lit_cons (lit_tup (lit_cons (lit_str _) lit_nil) (by decide)) lit_nil)))))))) (by decide) z fun p1 x1 G1 H1 z1 s1 e1 d1 => ?_
  with_reducible refine z_name ?_
  with_reducible refine z_seq ?_
  with_reducible refine z_asg ?_
  with_reducible refine z_op ?_
  (with_reducible apply z_var); (focus rfl)
  refine lit_list (ds := any2) (K := K) (by
    exact lit_cons (lit_lst lit_nil (by decide)) (lit_cons (lit_lst (lit_cons (lit_str _) lit_nil) (by decide)) (lit_cons (lit_lst (lit_cons (lit_int _) lit_nil) (by decide)) (lit_cons lit_dict0 (lit_cons (lit_dict1 (lit_int _)) (lit_cons (lit_tup (lit_cons (lit_int _) (lit_cons (lit_int _) lit_nil)) (by decide)) (lit_cons (lit_tup (lit_cons (lit_str _) lit_nil) (by decide)) (lit_cons (lit_tup (lit_cons lit_non lit_nil) (by decide)) (lit_cons (lit_tup (lit_cons (lit_str _) (lit_cons (lit_int _) lit_nil)) (by decide)) (lit_cons (lit_lst (lit_cons (lit_lst (lit_cons (lit_str _) lit_nil) (by decide)) lit_nil) (by decide)) (lit_cons (lit_tup (lit_cons (lit_tup (lit_cons (lit_str _) lit_nil) (by decide)) lit_nil) (by decide)) lit_nil))))))))))) (by decide) z1 fun p2 x2 G2 H2 z2 s2 e2 d2 => ?_
  have l1 : x1.length = 18 := d1.len (ds := [])
  have l2 : x2.length = 11 := d2.len (ds := [])
  refine z_addL z2 (s2 _ _ e1) e2 (by omega) fun p3 G3 H3 z3 s3 e3 => ?_
  with_reducible refine z_name ?_
  with_reducible refine z_seq ?_
  with_reducible refine z_asg ?_
  with_reducible refine z_op ?_
  (with_reducible apply z_var); (focus rfl)
  refine lit_list (ds := any3) (K := K) (by
    exact lit_cons (lit_str _) (lit_cons (lit_dict1 (lit_lst lit_nil (by decide))) (lit_cons (lit_lst (lit_cons (lit_str _) (lit_cons (lit_str _) lit_nil)) (by decide)) (lit_cons (lit_tup (lit_cons (lit_str _) lit_nil) (by decide)) lit_nil)))) (by decide) z3 fun p4 x4 G4 H4 z4 s4 e4 d4 => ?_
  have l4 : x4.length = 4 := d4.len (ds := [])
  have l3 : (x1 ++ x2).length = 29 := by rw [List.length_append, l1, l2]
  refine z_addL z4 (s4 _ _ e3) e4 (by omega) fun p5 G5 H5 z5 s5 e5 => ?_
  repeat (walk_at "z")
  have s15 := s1.trans (s2.trans (s3.trans (s4.trans s5)))
  have l5 : (x1 ++ x2 ++ x4).length = 33 := by rw [List.length_append, l3, l4]
  refine ⟨p, o, G5, M, b, _, rfl, z5, hp.up s15, by omega, .inl ⟨p5, _, rfl, .inl (SqL.of e5), (fun e => by rw [e] at l5; cases l5), by omega, fun v G6 H6 o6 hv z6 s6 hp6 => ?_⟩⟩
  have dd : Dts K G5 (x1 ++ x2 ++ x4) (any1 ++ any2 ++ any3) := ((d1.up (s2.trans (s3.trans (s4.trans s5)))).app (d2.up (s3.trans (s4.trans s5)))).app (d4.up s5)
  obtain ⟨d, hd, hv⟩ := dd.mem hv
  exact q v d G6 H6 o6 z6 (s15.trans s6) hp6 (hv.up s6) hd

def spShown (K : PySem.W.Frag) (C : Addr) : Sp := fun vs H Q _ => ∃ G M a t, vs = [.ref a] ∧ Zp G M H ∧ TkI K G C a t ∧ ∀ p G1 H1, Zp G1 M H1 → Same G G1 → Dt K G1 (.ref p) (plainP t) → Q (.ref p) H1
theorem ok_shown (R_role : PrpT P w K mg base C "role" "own_role") (R_many : PrpT P w K mg base C "many" "own_many") (R_other : PrpT P w K mg base C "other" "own_other") (R_same : PrpT P w K mg base C "same" "own_same") (R_takes : PrpT P w K mg base C "takes" "own_takes") (R_forgets : PrpT P w K mg base C "forgets" "own_forgets")
    (F : FnP K "_law_shown" s_law_shown f fd) : FnOk P w K mg base CX0 3 f fd ["_law_one"] (spShown K C) := by
  have nd : N_law_shown.Nodup := sc_law_shown.nd
  refine F.ok sc_law_shown (fun vs H Q E h => ?_) (fun cdv A outer s H vs Q E hr h => ?_)
  · obtain ⟨G, M, a, t, rfl, _⟩ := h
    rfl
  have hu := hr.units
  refine ⟨_, PSs.nox   (pss_one (ps_ret (pe_tup (pa_cons (pe_pr R_role (hr.mono (by decide)) pass0 (pv 0)) (pa_cons (pe_pr R_many (hr.mono (by decide)) pass0 (pv 0)) (pa_cons (pe_pr R_other (hr.mono (by decide)) pass0 (pv 0)) (pa_cons (pe_pr R_same (hr.mono (by decide)) pass0 (pv 0)) (pa_cons (pe_pr R_takes (hr.mono (by decide)) pass0 (pv 0)) (pa_cons (pe_pr R_forgets (hr.mono (by decide)) pass0 (pv 0)) pa_nil))))))))), ?_⟩
  obtain ⟨G, M, a, t, rfl, z, ⟨dx, t1, t2, t3, t4, h0, h1, h2, h3, h4⟩, q⟩ := h
  repeat (walk_at "z")
  refine z_prI z h0 ⟨a, dx, _, _, rfl, z.sub _ _ h0, (by rfl), ?_⟩
  repeat (walk_at "z")
  refine z_prI z h0 ⟨a, dx, _, _, rfl, z.sub _ _ h0, (by rfl), ?_⟩
  repeat (walk_at "z")
  refine z_prI z h0 ⟨a, dx, _, _, rfl, z.sub _ _ h0, (by rfl), ?_⟩
  repeat (walk_at "z")
  refine z_prI z h0 ⟨a, dx, _, _, rfl, z.sub _ _ h0, (by rfl), ?_⟩
  repeat (walk_at "z")
  refine z_prI z h0 ⟨a, dx, _, _, rfl, z.sub _ _ h0, (by rfl), ?_⟩
  repeat (walk_at "z")
  refine z_prI z h0 ⟨a, dx, _, _, rfl, z.sub _ _ h0, (by rfl), ?_⟩
  repeat (walk_at "z")
  refine z_newT z (by simp) fun p2 G2 H2 z2 s2 e2 => ?_
  exact q p2 G2 _ z2 s2 (.tup (SqT.of e2) (.cons (rDt _) (.cons (.int _) (.cons (.tup (upT s2 h1) (dts_str _)) (.cons (.tup (upT s2 h2) (dts_str _)) (.cons (.tup (upT s2 h3) (dts_str _)) (.cons (.tup (upT s2 h4) (dts_str _)) .nil)))))))

def spMade (K : PySem.W.Frag) (C : Addr) : Sp := fun vs H Q _ => ∃ G M a t, vs = [.ref a] ∧ Zp G M H ∧ Dt K G (.ref a) (plainP t) ∧ PlT t ∧ ∀ x G1 H1, Zp G1 M H1 → Same G G1 → TkI K G1 C x t → Q (.ref x) H1
theorem ok_made (T : Nm K mg) (B_Task_1_many_other_same_takes_forgets : MkS P w K mg base CX0 4 C "Task" 1 ["many", "other", "same", "takes", "forgets"] gV1 (spInit K C)) (F : FnP K "_law_made_task" s_law_made_task f fd) : FnOk P w K mg base CX0 7 f fd ["_law_one"] (spMade K C) := by
  have nd : N_law_made_task.Nodup := sc_law_made_task.nd
  refine F.ok sc_law_made_task (fun vs H Q E h => ?_) (fun cdv A outer s H vs Q E hr h => ?_)
  · obtain ⟨G, M, a, t, rfl, _⟩ := h
    rfl
  have hu := hr.units
  refine ⟨_, PSs.nox   (pss_cons (ps_asg (pv 0) (kg_tup (K := K) (n := 6) rfl (pgs_cons (pg_name (i := 1) nd rfl (by first | exact .inl rfl | exact .inr rfl)) (pgs_cons (pg_name (i := 2) nd rfl (by first | exact .inl rfl | exact .inr rfl)) (pgs_cons (pg_name (i := 3) nd rfl (by first | exact .inl rfl | exact .inr rfl)) (pgs_cons (pg_name (i := 4) nd rfl (by first | exact .inl rfl | exact .inr rfl)) (pgs_cons (pg_name (i := 5) nd rfl (by first | exact .inl rfl | exact .inr rfl)) (pgs_cons (pg_name (i := 6) nd rfl (by first | exact .inl rfl | exact .inr rfl)) pgs_nil))))))))
    (pss_one (ps_ret (pe_mk B_Task_1_many_other_same_takes_forgets (hr.mono (by decide)) (by rfl) pass0 (pa_cons (pv 1) pa_nil) (pk_cons (pv 2) (pk_cons (pe_callTy (kc_list (K := K)) (by rfl) T.b_list boot_list (pa_cons (pv 3) pa_nil)) (pk_cons (pe_callTy (kc_list (K := K)) (by rfl) T.b_list boot_list (pa_cons (pv 4) pa_nil)) (pk_cons (pe_callTy (kc_list (K := K)) (by rfl) T.b_list boot_list (pa_cons (pv 5) pa_nil)) (pk_cons (pe_callTy (kc_list (K := K)) (by rfl) T.b_list boot_list (pa_cons (pv 6) pa_nil)) pk_nil))))))))), ?_⟩
  obtain ⟨G, M, a, t, rfl, z, hd, pt, q⟩ := h
  obtain ⟨a1, a2, a3, a4, hS, e1, e2, e3, e4⟩ := plain_at hd
  repeat (walk_at "z")
  refine z_gtup z hS rfl ?_
  repeat (walk_at "z")
  refine z_listG z (.inr e1) fun q2 G2 H2 z2 s2 f2 => ?_
  repeat (walk_at "z")
  refine z_listG z2 (.inr (upT s2 e2)) fun q3 G3 H3 z3 s3 f3 => ?_
  repeat (walk_at "z")
  refine z_listG z3 (.inr (upT (s2.trans s3) e3)) fun q4 G4 H4 z4 s4 f4 => ?_
  repeat (walk_at "z")
  refine z_listG z4 (.inr (upT (s2.trans (s3.trans s4)) e4)) fun q5 G5 H5 z5 s5 f5 => ?_
  repeat (walk_at "z")
  refine z_mkI z5 rfl rfl fun x dx H7 z7 s7 => ?_
  refine ⟨x, dx, _, _, t.role, t.many, _, _, _, _, _, _, _, _, t.l1, t.l2, t.l3, t.l4, rfl, z7, pt.ro, pt.m0, pt.m1, ⟨.inl (.lst (SqL.of (s7 _ _ (s5 _ _ (s4 _ _ (s3 _ _ f2))))) (dts_str _)), okl_list pt.g1 (.refl _)⟩, ⟨.inl (.lst (SqL.of (s7 _ _ (s5 _ _ (s4 _ _ f3)))) (dts_str _)), okl_list pt.g2 (.refl _)⟩, ⟨.inl (.lst (SqL.of (s7 _ _ (s5 _ _ f4))) (dts_str _)), okl_list pt.g3 (.refl _)⟩, ⟨.inl (.lst (SqL.of (s7 _ _ f5)) (dts_str _)), okl_list pt.g4 (.refl _)⟩, fun G8 H8 z8 s8 k8 => ⟨rfl, ?_⟩⟩
  rw [pt.g1.perm (.refl _), pt.g2.perm (.refl _), pt.g3.perm (.refl _), pt.g4.perm (.refl _)] at k8
  exact q x G8 H8 z8 (s2.trans (s3.trans (s4.trans (s5.trans (s7.trans s8))))) k8
end
end LW
namespace LW
open PySem PySem.Spec PyProof.Rows L2 Ys

structure ItX (P : Program) (w : World) (K : PySem.W.Frag) (mg : Str → Option Value) (base : Heap) (C CB CU : Addr) : Prop where
  ex : ∃ f fd, FnOk P w K mg base (L2.CX P w) 3 f fd ["self", "name"] (spBItX K C CB CU) ∧ PySem.W.findIn K (.ref CB) "__getitem__" = some (some (.ref f)) ∧ PySem.W.fnIn K f = true ∧ PySem.W.isFn K (.ref f) = true ∧ Binds K fd ["self", "name"] []
section
variable {P : Program} {w : World} {K : PySem.W.Frag} {mg : Str → Option Value} {base : Heap} {f : Addr} {fd : FuncData} {C CB CU : Addr}
structure OkV (d : PyData) : Prop where
  sh : SeqAt.shaped d = true ∨ dictD d = true
  s1 : d.showable = true
  s2 : d.depth ≤ 60
  s3 : d.shown.length ≤ 100000
def spLItem (K : PySem.W.Frag) (C CB : Addr) : Sp := fun vs H Q _ => ∃ G M x B v d, vs = [.ref x, v] ∧ Zp G M H ∧ BkI K G C CB x B ∧ Dt K G v d ∧ OkV d ∧ (∀ s ∈ B.tasks.map (·.1), PyData.strOk s = true) ∧ (B.tasks.map (·.1)).Nodup ∧
  (∀ nm t, d = .str nm → (nm, t) ∈ B.tasks → ∀ p G1 H1, Zp G1 M H1 → Same G G1 → Dt K G1 (.ref p) (plainP t) → Q (.ref p) H1) ∧
  (hitD d (B.tasks.map (·.1)) = false → ∀ p G1 H1, Zp G1 M H1 → Same G G1 → SqT K G1 p [.str "unknown", .str d.shown, .bl true] → Q (.ref p) H1)
theorem ok_item (T : Nm K mg) (hLE : mg "LookupError" = none) (S_UnknownTask : ExcG P w K mg base CU "UnknownTask" "value") (XC : ExcC K CU) (XF : XfC K CU) (hno : PySem.W.findIn K (.ref CU) "value" = some none) (hex : PySem.W.exmOne K (.ref CU) (.ref CU) = some true) (hkt : PySem.W.kitOne K (.ref CU) (.type "LookupError") = some true)
    (IT : ItX P w K mg base C CB CU) (C_law_shown : Own P w K mg base CX0 3 "_law_shown" ["_law_one"] (spShown K C)) (F : FnP K "_law_item" s_law_item f fd) : FnG P w K mg base CX0 8 f fd ["_law_book_here", "_law_value"] (spLItem K C CB) := by
  have nd : N_law_item.Nodup := sc_law_item.nd
  obtain ⟨fI, fdI, FI, hI1, hI2, hI3, hI4⟩ := IT.ex
  refine okG F sc_law_item (fun vs H Q E h => ?_) (fun cdv A outer s H vs Q E hg hr h => ?_)
  · obtain ⟨G, M, x, B, v, d, rfl, _⟩ := h
    rfl
  have hu := hr.units
  refine ⟨_, PSs.nox (pss_one (ps_try_as (x := "UnknownTask") (n := "e") (c := .ref CU) (i := 2) (Wout := fun _ _ _ _ => False) rfl rfl nd rfl rfl ⟨by rfl, by decide, .inl S_UnknownTask.gC⟩ takes0
    (fun W pn xe tW pW => pss_one (ps_ret (pe_own C_law_shown (hr.mono (by omega)) (by rfl) pass0 (pa_cons (pe_itX FI (pv 0) (pv 1) hI1 hI2 hI3 hI4 tW (hr.mono (by omega))) pa_nil))))
    (fun a oe cls d pn hz hf => pss_one (ps_ret (pe_tup (pa_cons pe_str (pa_cons (pe_callB (kc_repr (K := K) hg T.sys hu) (by rfl) T.b_repr boot_repr (pa_cons (pe_xf XF hno hz hf (pv 2)) pa_nil)) (pa_cons (pe_callB (call_isX XC hz hf) (by rfl) T.b_isinstance boot_isinstance (pa_cons (pv 2) (pa_cons (pe_bltn (v := .ty "LookupError") (by rfl) hLE PyProof.Rows.Boot.«LookupError» rfl) pa_nil))) pa_nil)))))))), ?_⟩
  obtain ⟨G, M, x, B, v, d, rfl, z, hB, hd, ov, hst, hnd, q, qx⟩ := h
  obtain ⟨dx, vp, dk, dt, kk, kt, h0, hp, hok, hkn, hot, htn⟩ := id hB
  repeat (walk_at "z")
  refine z_itX ?_
  repeat (walk_at "z")
  refine ⟨x, dx, _, rfl, z.sub _ _ h0, G, M, x, B, v, d, rfl, z, hB, hd, ov.sh, hst, hnd, fun nm t e hm a G1 H1 z1 s1 ht => ?_, fun hh dd G1 H1 z1 s1 hx => ?_⟩
  · refine ⟨G1, M, a, t, rfl, z1, ht, fun p G2 H2 z2 s2 hp2 => ?_⟩
    repeat (walk_at "z")
    exact q nm t e hm p G2 H2 z2 (s1.trans s2) hp2
  · refine ⟨true, hex, fun _ e he => ?_, fun z => by cases z⟩
    repeat (walk_at "z")
    refine ⟨_, rfl, rfl, rfl, dd, _, _, rfl, z1.sub _ _ hx, rfl, ?_⟩
    repeat (walk_at "z")
    refine z_repr z1 (hd.up s1) ov.s1 ov.s2 ov.s3 ?_
    repeat (walk_at "z")
    refine ⟨.ty "LookupError", .type "LookupError", true, dd, _, rfl, rfl, .ty _, hkt, rfl, z1.sub _ _ hx, ?_⟩
    repeat (walk_at "z")
    exact z_newT z1 (by simp) fun p G2 H2 z2 s2 e2 => qx hh p G2 H2 z2 (s1.trans s2) (SqT.of e2)
end
end LW
namespace LW
open PySem PySem.Spec PyProof.Rows L2 Ys
/-! ### the law -/
def gVd (ds mz : List V) (vs zs : List V) : List V := vs ++ (ds ++ mz)
def tk0 : TkD := ⟨none, 1, [], [], [], []⟩
theorem gl0 : GoodL [] := ⟨(fun s h => by cases h), Nat.zero_le _⟩
theorem gt0 : GoodT tk0 := ⟨(fun s h => by cases h), gl0, gl0, gl0, gl0⟩
theorem okl0 : OkL (strsP []) [] := ⟨rfl, rfl, (fun s h => by cases h), List.nodup_nil, Nat.zero_le _⟩
theorem asc0 : asc [] = [] := by simp [asc, dd]
structure All0 (tn : List (Str × TkD)) (ts : List Str) : Prop where
  nd : (tn.map (·.1)).Nodup
  mem : ∀ x, x ∈ tn.map (·.1) ↔ x ∈ ts
  t0 : ∀ q ∈ tn, q.2 = tk0
  le : tn.length ≤ ts.length
theorem put_tks {K : PySem.W.Frag} {G : Hp} {C a : Addr} {acc : List (Key × V)} {tn : List (Str × TkD)} {ts : List Str} {s : Str} (h : Tks K G C acc tn) (h0 : All0 tn ts) (ha : TkI K G C a tk0) :
    ∃ tn', Tks K G C (putK acc (.inr s) (.ref a)) tn' ∧ All0 tn' (ts ++ [s]) := by
  by_cases c : s ∈ tn.map (·.1)
  · refine ⟨tn, ?_, h0.nd, fun x => ?_, h0.t0, by rw [List.length_append]; have := h0.le; omega⟩
    · have hk : (.inr s : Key) ∈ acc.map (·.1) := by rw [h.keys]; exact List.mem_map.mpr ⟨s, c, rfl⟩
      have hs := valV_isin hk
      unfold putK
      rw [valV_any, hs, if_pos rfl]
      have t0 := h0.t0
      clear hk hs c h0
      induction h with
      | nil => exact .nil
      | cons e r ih =>
        rw [List.map_cons]
        refine .cons ?_ (ih fun q hq => t0 q (List.mem_cons_of_mem _ hq))
        obtain ⟨e1, b, e2, e3⟩ := e
        split
        · exact ⟨e1, a, rfl, by rw [t0 _ (List.mem_cons_self ..)]; exact ha⟩
        · exact ⟨e1, b, e2, e3⟩
    · rw [h0.mem x, List.mem_append, List.mem_singleton]
      exact ⟨.inl, fun h => h.elim id fun e => (h0.mem x).mp (by rw [e]; exact c)⟩
  · have hn : valV acc (.inr s) = none := valV_out (by
      rw [h.keys]
      intro hm
      obtain ⟨y, hy, e⟩ := List.mem_map.mp hm
      obtain rfl : y = s := Sum.inr.inj e
      exact c hy)
    refine ⟨tn ++ [(s, tk0)], by rw [putK_new _ hn]; exact paired_snoc ⟨rfl, a, rfl, ha⟩ h, ?_, fun x => ?_, fun q hq => ?_, by rw [List.length_append, List.length_append]; have := h0.le; simp; omega⟩
    · rw [List.map_append, List.nodup_append]
      refine ⟨h0.nd, by simp, fun x hx y hy => ?_⟩
      obtain rfl : y = s := by simpa using hy
      exact fun e => c (by rw [← e]; exact hx)
    · rw [List.map_append, List.mem_append, List.mem_append, h0.mem x]
      simp
    · rcases List.mem_append.mp hq with hq | hq
      · exact h0.t0 q hq
      · rw [List.mem_singleton.mp hq]
theorem prs_up {K : PySem.W.Frag} {G G1 : Hp} : ∀ {ps : List Addr} {kvs : List (Key × V)}, Paired (fun p (kv : Key × V) => SqT K G p [kV kv.1, kv.2]) ps kvs → Same G G1 → Paired (fun p (kv : Key × V) => SqT K G1 p [kV kv.1, kv.2]) ps kvs
  | _, _, .nil, _ => .nil
  | _, _, .cons h r, s => .cons (upT s h) (prs_up r s)
def Kv0 (K : PySem.W.Frag) (G : Hp) (C : Addr) : List (Key × V) → List Str → Prop := Paired fun kv s => kv.1 = .inr s ∧ ∃ a, kv.2 = .ref a ∧ TkI K G C a tk0
theorem Kv0.up {K : PySem.W.Frag} {G G1 : Hp} {C : Addr} {kvs ts} (h : Kv0 K G C kvs ts) (s : Same G G1) : Kv0 K G1 C kvs ts := L2.Paired.mapP h fun _ _ ⟨e, a, h1, h2⟩ => ⟨e, a, h1, h2.up s⟩
theorem merge_tks {K : PySem.W.Frag} {G : Hp} {C : Addr} : ∀ {kvs : List (Key × V)} {us : List Str} {acc : List (Key × V)} {tn : List (Str × TkD)} {ts : List Str}, Kv0 K G C kvs us → Tks K G C acc tn → All0 tn ts → ∃ tn', Tks K G C (mergeK acc kvs) tn' ∧ All0 tn' (ts ++ us)
  | _, _, acc, tn, ts, .nil, h, h0 => ⟨tn, h, by rw [List.append_nil]; exact h0⟩
  | kv :: kvs, s :: us, acc, tn, ts, .cons e r, h, h0 => by
    obtain ⟨e1, a, e2, e3⟩ := e
    obtain ⟨k, v⟩ := kv
    have e1 : k = .inr s := e1
    have e2 : v = .ref a := e2
    subst e1 e2
    obtain ⟨tn1, h1, h2⟩ := put_tks h h0 e3 (s := s)
    obtain ⟨tn2, h3, h4⟩ := merge_tks r h1 h2
    exact ⟨tn2, h3, by rw [List.append_assoc] at h4; exact h4⟩
theorem All0.cond {tn : List (Str × TkD)} {ts : List Str} (h : All0 tn ts) : condL tn = [] := by
  unfold condL
  rw [List.flatMap_eq_nil_iff]
  intro q hq
  rw [h.t0 q hq]
  rfl
theorem All0.need {tn : List (Str × TkD)} {ts : List Str} (h : All0 tn ts) : NeedOk tn := by
  have e : remP tn = [] := by unfold remP; rw [h.cond, asc0]
  refine ⟨by rw [h.cond]; decide, by rw [e]; decide, by unfold widP; rw [e]; exact (by decide : (0 : Int) ≤ 5)⟩
theorem lookT_mem {tn : List (Str × TkD)} {k : Str} (h : k ∈ tn.map (·.1)) (nd : (tn.map (·.1)).Nodup) : (k, lookT tn k) ∈ tn := by
  obtain ⟨i, t, hi⟩ := find_at h
  have hm := List.mem_of_getElem? hi
  rw [lookT_of nd hm]
  exact hm
theorem lookK_mem {kn : List (Str × List Str)} {k : Str} (h : k ∈ kn.map (·.1)) (nd : (kn.map (·.1)).Nodup) : (k, lookK kn k) ∈ kn := by
  obtain ⟨i, t, hi⟩ := find_at h
  have hm := List.mem_of_getElem? hi
  rw [lookK_of nd hm]
  exact hm
section
variable {P : Program} {w : World} {K : PySem.W.Frag} {mg : Str → Option Value} {base : Heap} {f : Addr} {fd : FuncData} {C CB CI CT : Addr}
theorem PV.showP {G H : Hp} {M : List (Addr × HO)} {ns : List Str} {v : V} {p : Pl} {Q : VK} (h : PV K G ns v p) (z : Zp G M H) (q : Q (.str p.d.shown) H) : Ys.rRepr K [v] H Q := by
  have s := shw_pl (Ok.nms _ _ h.ok)
  have := pd_dep p
  have h1 := h.dp
  have h2 := h.sz
  exact z_repr z h.dt s.ok (by omega) (Nat.le_trans s.le (by omega)) q
theorem nf_nf {p : Pl} (h : Ok false p) : nf (nf p) = nf p := nfm_nf _ _ (nf_ok p false h) (nf_nfm p false h)
end
end LW
namespace LW
open PySem PySem.Spec PyProof.Rows L2 Ys

theorem good_book {kn : List (Str × List Str)} {tn : List (Str × TkD)} {p : Pl} (gk : GoodK kn) (gt : GoodTs tn) (ht : ∀ q ∈ tn, GoodT q.2 ∧ q.2.many ≤ 3) : GoodB ⟨ordK kn, ordT tn, p⟩ where
  k3 := by
    show (ordK kn).length ≤ 3
    unfold ordK
    rw [List.length_map]
    have := asc_len_le (kn.map (·.1))
    rw [List.length_map] at this
    have := gk.l3
    omega
  kn := by rw [ordK_keys]; exact asc_nodup _
  kw := fun q hq => by
    obtain ⟨k, hk, rfl⟩ := List.mem_map.mp hq
    have hm := lookK_mem (asc_mem.mp hk) gk.nd
    obtain ⟨h1, h2, h3⟩ := gk.rs _ hm
    refine ⟨gk.wd (k, lookK kn k) hm, Nat.le_trans (asc_len_le _) h1, fun s hs => h3 s (asc_mem.mp hs)⟩
  t8 := by
    show (ordT tn).length ≤ 8
    unfold ordT
    rw [List.length_map]
    have := asc_len_le (tn.map (·.1))
    rw [List.length_map] at this
    have := gt.l8
    omega
  tn := by rw [ordT_keys]; exact asc_nodup _
  tw := fun q hq => by
    obtain ⟨k, hk, rfl⟩ := List.mem_map.mp hq
    have hm := lookT_mem (asc_mem.mp hk) gt.nd
    exact ⟨gt.wd (k, lookT tn k) hm, ht (k, lookT tn k) hm⟩

theorem mergeK_nd : ∀ {more acc : List (Key × V)}, ((acc ++ more).map (·.1)).Nodup → mergeK acc more = acc ++ more
  | [], acc, _ => by show acc = acc ++ []; rw [List.append_nil]
  | (k, v) :: r, acc, h => by
    have hk : k ∉ acc.map (·.1) := by
      rw [List.map_append, List.nodup_append] at h
      exact fun hm => h.2.2 k hm k (by simp) rfl
    show mergeK (putK acc k v) r = _
    rw [put_new hk, mergeK_nd (by rw [List.append_assoc]; exact h), List.append_assoc]
    rfl
theorem asc_asc (l : List Str) : asc (asc l) = asc l := asc_congr fun x => asc_mem
theorem nodup_of_keys {β : Type} {l : List (Str × β)} (h : (l.map (·.1)).Nodup) : l.Nodup := (List.pairwise_map.mp h).imp fun hne e => hne (congrArg _ e)
theorem ordT_perm {tn : List (Str × TkD)} (nd : (tn.map (·.1)).Nodup) : (ordT tn).Perm tn := by
  refine (List.perm_ext_iff_of_nodup (nodup_of_keys (by rw [ordT_keys]; exact asc_nodup _)) (nodup_of_keys nd)).mpr fun x => ⟨fun h => ?_, fun h => ?_⟩
  · obtain ⟨k, hk, rfl⟩ := List.mem_map.mp h
    exact lookT_mem (asc_mem.mp hk) nd
  · obtain ⟨k, t⟩ := x
    refine List.mem_map.mpr ⟨k, asc_mem.mpr (List.mem_map.mpr ⟨(k, t), h, rfl⟩), ?_⟩
    rw [lookT_of nd h]
theorem ordT_congr {tn tn' : List (Str × TkD)} (p : tn.Perm tn') (nd : (tn.map (·.1)).Nodup) : ordT tn = ordT tn' := by
  have nd' : (tn'.map (·.1)).Nodup := ((p.map _).nodup_iff).mp nd
  unfold ordT
  rw [asc_congr (xs := tn.map (·.1)) (ys := tn'.map (·.1)) fun x => (p.map _).mem_iff]
  refine List.map_congr_left fun k hk => ?_
  have hm := lookT_mem (asc_mem.mp hk) nd'
  rw [lookT_of nd (p.mem_iff.mpr hm)]
theorem ordK_congr {kn kn' : List (Str × List Str)} (p : kn.Perm kn') (nd : (kn.map (·.1)).Nodup) : ordK kn = ordK kn' := by
  have nd' : (kn'.map (·.1)).Nodup := ((p.map _).nodup_iff).mp nd
  unfold ordK
  rw [asc_congr (xs := kn.map (·.1)) (ys := kn'.map (·.1)) fun x => (p.map _).mem_iff]
  refine List.map_congr_left fun k hk => ?_
  have hm := lookK_mem (asc_mem.mp hk) nd'
  rw [lookK_of nd (p.mem_iff.mpr hm)]
theorem ordT_idem {tn : List (Str × TkD)} (nd : (tn.map (·.1)).Nodup) : ordT (ordT tn) = ordT tn := ordT_congr (ordT_perm nd) (by rw [ordT_keys]; exact asc_nodup _)
theorem ordK_idem {kn : List (Str × List Str)} (nd : (kn.map (·.1)).Nodup) : ordK (ordK kn) = ordK kn := by
  have e : ∀ k, k ∈ kn.map (·.1) → lookK (ordK kn) k = asc (lookK kn k) := fun k hk => lookK_of (by rw [ordK_keys]; exact asc_nodup _) (List.mem_map.mpr ⟨k, asc_mem.mpr hk, rfl⟩)
  have e2 : ordK (ordK kn) = (asc ((ordK kn).map (·.1))).map fun k => (k, asc (lookK (ordK kn) k)) := rfl
  rw [e2, ordK_keys, asc_asc]
  unfold ordK
  refine List.map_congr_left fun k hk => ?_
  have := e k (asc_mem.mp hk)
  unfold ordK at this
  rw [this, asc_asc]
theorem cond_perm {tn tn' : List (Str × TkD)} (p : tn.Perm tn') : (condL tn).Perm (condL tn') := by
  unfold condL
  exact p.flatMap_right _
theorem rem_perm {tn tn' : List (Str × TkD)} (p : tn.Perm tn') : remP tn = remP tn' := by
  unfold remP
  exact asc_congr fun x => (cond_perm p).mem_iff
theorem max_perm {l l' : List Int} (p : l.Perm l') : maxI l = maxI l' := by
  unfold maxI
  exact p.foldr_eq' (fun x _ y _ z => by omega) 0
theorem wid_perm {tn tn' : List (Str × TkD)} (p : tn.Perm tn') : widP tn = widP tn' := by
  unfold widP
  rw [rem_perm p]
  congr 1
  refine List.map_congr_left fun nm _ => max_perm ?_
  unfold numsP
  exact ((p.filter _).map _).cons _
theorem need_ord {tn : List (Str × TkD)} (nd : (tn.map (·.1)).Nodup) (h : NeedOk tn) : NeedOk (ordT tn) := by
  have p := ordT_perm nd
  exact ⟨by rw [(cond_perm p).length_eq]; exact h.cl, by rw [rem_perm p]; exact h.rm, by rw [wid_perm p]; exact h.wd⟩
theorem goodT_ord {tn : List (Str × TkD)} (g : GoodTs tn) : GoodTs (ordT tn) := by
  have p := ordT_perm g.nd
  exact ⟨by rw [p.length_eq]; exact g.l8, by rw [ordT_keys]; exact asc_nodup _, fun q hq => g.wd q (p.mem_iff.mp hq)⟩
theorem goodK_ord {kn : List (Str × List Str)} (g : GoodK kn) : GoodK (ordK kn) := by
  have hl : (ordK kn).length = kn.length := by
    have e : (ordK kn).length = (asc (kn.map (·.1))).length := by unfold ordK; rw [List.length_map]
    have p : (asc (kn.map (·.1))).Perm (kn.map (·.1)) := (List.perm_ext_iff_of_nodup (asc_nodup _) g.nd).mpr fun x => asc_mem
    rw [e, p.length_eq, List.length_map]
  refine ⟨by rw [hl]; exact g.l1, by rw [hl]; exact g.l3, by rw [ordK_keys]; exact asc_nodup _, fun q hq => ?_, fun q hq => ?_⟩
  · obtain ⟨k, hk, rfl⟩ := List.mem_map.mp hq
    exact g.wd (k, lookK kn k) (lookK_mem (asc_mem.mp hk) g.nd)
  · obtain ⟨k, hk, rfl⟩ := List.mem_map.mp hq
    obtain ⟨h1, h2, h3⟩ := g.rs _ (lookK_mem (asc_mem.mp hk) g.nd)
    exact ⟨Nat.le_trans (asc_len_le _) h1, asc_nodup _, fun s hs => h3 s (asc_mem.mp hs)⟩
/-! ### what is shown -/
def kindsD (kn : List (Str × List Str)) : PyData := .dict (kn.map fun q => (.str q.1, strsP q.2))
def dueD7 (kn : List (Str × List Str)) (tn : List (Str × TkD)) (p : Pl) : PyData := .list [kindsD kn, strsP (asc (tn.map (·.1))), strsP (remP tn), .int (widP tn), p.d]
theorem word_wd {s : Str} (h : wordS s = true) : Wd s := by
  obtain ⟨h1, h2⟩ := Bool.and_eq_true_iff.mp h
  obtain ⟨h3, h4⟩ := Bool.and_eq_true_iff.mp h2
  refine ⟨of_decide_eq_true h1, of_decide_eq_true h3, fun c hc => ?_⟩
  have hm := of_decide_eq_true (List.all_eq_true.mp h4 c hc)
  have e : abcL = (List.range 26).map (· + 97) := by decide +kernel
  rw [e] at hm
  obtain ⟨k, hk, rfl⟩ := List.mem_map.mp hm
  have := List.mem_range.mp hk
  omega
theorem shw_word {s : Str} (h : wordS s = true) : Shw (.str s) 10 := shw_wd (word_wd h)
theorem shw_strs {l : List Str} (h : ∀ s ∈ l, wordS s = true) : Shw (strsP l) (12 * l.length + 3) := by
  have := shw_tup (n := 10) (ds := l.map PyData.str) fun d hd => by
    obtain ⟨s, hs, rfl⟩ := List.mem_map.mp hd
    exact shw_word (h s hs)
  rw [List.length_map] at this
  exact this
theorem kv_ok : ∀ {kn : List (Str × List Str)}, (∀ q ∈ kn, ∀ s ∈ q.2, wordS s = true) → PyData.showableKv (kn.map fun q => (PyData.str q.1, strsP q.2)) = true
  | [], _ => rfl
  | q :: r, h => by
    rw [List.map_cons, PyData.showableKv, (shw_strs (h q (by simp))).ok, kv_ok (kn := r) fun x hx => h x (List.mem_cons_of_mem _ hx)]
    rfl
theorem kv_piled : ∀ {kn : List (Str × List Str)}, (∀ q ∈ kn, wordS q.1 = true ∧ q.2.length ≤ 4 ∧ ∀ s ∈ q.2, wordS s = true) → piled (PyData.shownKv (kn.map fun q => (PyData.str q.1, strsP q.2))) ≤ 80 * kn.length
  | [], _ => Nat.zero_le _
  | q :: r, h => by
    obtain ⟨h1, h2, h3⟩ := h q (by simp)
    have ih := kv_piled (kn := r) fun x hx => h x (List.mem_cons_of_mem _ hx)
    have a1 := (shw_word h1).le
    have a2 := (shw_strs h3).le
    rw [List.map_cons, PyData.shownKv, piled_cons, List.length_cons, PySem.Str.length_append, PySem.Str.length_append]
    have e : ((": " : Str)).length = 2 := rfl
    rw [e]
    omega
theorem dict_len (ts : List Str) : (dictText ts).length ≤ piled ts + 2 := by
  have h1 := joinP ts
  unfold dictText
  rw [PySem.Str.length_append, PySem.Str.length_append]
  have e1 : (("{" : Str)).length = 1 := rfl
  have e2 : (("}" : Str)).length = 1 := rfl
  rw [e1, e2]
  omega
theorem shw_kinds {kn : List (Str × List Str)} (h3 : kn.length ≤ 3) (h : ∀ q ∈ kn, wordS q.1 = true ∧ q.2.length ≤ 4 ∧ ∀ s ∈ q.2, wordS s = true) : Shw (kindsD kn) 300 := by
  refine ⟨kv_ok fun q hq => (h q hq).2.2, ?_⟩
  have h1 := dict_len (PyData.shownKv (kn.map fun q => (PyData.str q.1, strsP q.2)))
  have h2 := kv_piled h
  show (dictText _).length ≤ _
  omega
theorem maxI_nn (l : List Int) : 0 ≤ maxI l := by
  unfold maxI
  induction l with
  | nil => exact Int.le_refl _
  | cons x r ih => rw [List.foldr_cons]; omega
theorem sum_nn : ∀ {l : List Int}, (∀ x ∈ l, 0 ≤ x) → 0 ≤ l.sum
  | [], _ => Int.le_refl _
  | x :: r, h => by
    rw [List.sum_cons]
    have := h x (by simp)
    have := sum_nn (l := r) fun y hy => h y (List.mem_cons_of_mem _ hy)
    omega
theorem wid_nn (tn : List (Str × TkD)) : 0 ≤ widP tn := sum_nn fun x hx => by
  obtain ⟨nm, _, rfl⟩ := List.mem_map.mp hx
  exact maxI_nn _
theorem shw_small {i : Int} (h0 : 0 ≤ i) (h1 : i ≤ 5) : Shw (.int i) 10 := by
  have : i = 0 ∨ i = 1 ∨ i = 2 ∨ i = 3 ∨ i = 4 ∨ i = 5 := by omega
  rcases this with rfl | rfl | rfl | rfl | rfl | rfl <;> exact ⟨by decide, by decide +kernel⟩
theorem shw_due {kn : List (Str × List Str)} {tn : List (Str × TkD)} {p : Pl} (h3 : kn.length ≤ 3) (h : ∀ q ∈ kn, wordS q.1 = true ∧ q.2.length ≤ 4 ∧ ∀ s ∈ q.2, wordS s = true) (gt : GoodTs tn) (hn : NeedOk tn) (hr : ∀ s ∈ remP tn, wordS s = true) (ok : Ok false p) (hs : p.sz ≤ 600) : Shw (dueD7 kn tn p) 60000 := by
  have a1 := shw_kinds h3 h
  have a2 := shw_strs (l := asc (tn.map (·.1))) fun s hs => by
    obtain ⟨q, hq, rfl⟩ := List.mem_map.mp (asc_mem.mp hs)
    exact gt.wd q hq
  have a3 := shw_strs hr
  have a4 := shw_small (wid_nn tn) hn.wd
  have a5 := shw_pl (Ok.nms _ _ ok)
  have l2 := asc_len_le (tn.map (·.1))
  rw [List.length_map] at l2
  have := gt.l8
  have := hn.rm
  have := shw_lst (n := 10000) (ds := [kindsD kn, strsP (asc (tn.map (·.1))), strsP (remP tn), .int (widP tn), p.d]) fun d hd => by
    simp only [List.mem_cons, List.not_mem_nil, or_false] at hd
    rcases hd with rfl | rfl | rfl | rfl | rfl
    · exact a1.mono (by omega)
    · exact a2.mono (by omega)
    · exact a3.mono (by omega)
    · exact a4.mono (by omega)
    · exact a5.mono (by omega)
  exact this.mono (by simp only [List.length_cons, List.length_nil]; omega)
theorem dep_strs (l : List Str) : (strsP l).depth ≤ 2 := by
  have : PyData.depthAll (l.map PyData.str) ≤ 1 := by
    induction l with
    | nil => exact Nat.zero_le _
    | cons x r ih => rw [List.map_cons, PyData.depthAll]; exact Nat.max_le.mpr ⟨(by decide : 0 ≤ 1), ih⟩
  show _ + 1 ≤ 2
  omega
theorem any_okv : ∀ d ∈ any1 ++ any2 ++ any3, OkV d := by
  have h : (any1 ++ any2 ++ any3).all (fun d => (SeqAt.shaped d || dictD d) && (d.showable && (decide (d.depth ≤ 60) && decide (d.shown.length ≤ 100000)))) = true := by decide +kernel
  intro d hd
  have := List.all_eq_true.mp h d hd
  obtain ⟨h1, h2⟩ := Bool.and_eq_true_iff.mp this
  obtain ⟨h3, h4⟩ := Bool.and_eq_true_iff.mp h2
  obtain ⟨h5, h6⟩ := Bool.and_eq_true_iff.mp h4
  exact ⟨Bool.or_eq_true_iff.mp h1, h3, of_decide_eq_true h5, of_decide_eq_true h6⟩
theorem any_sho : ∀ d ∈ any1 ++ any2 ++ any3, PyData.strOk d.shown = true := by
  have h : (any1 ++ any2 ++ any3).all (fun d => PyData.strOk d.shown) = true := by decide +kernel
  exact fun d hd => List.all_eq_true.mp h d hd
end LW
namespace LW
open PySem PySem.Spec PyProof.Rows L2 Ys

theorem Zp.fixs {H : Hp} {u : Addr × HO} {M : List (Addr × HO)} : ∀ {ls : List (Addr × HO)} {G : Hp}, Zp G (u :: (ls ++ M)) H → ∃ G2, Zp G2 (u :: M) H ∧ Same G G2 ∧ (∀ e ∈ ls, G2 e.1 = some e.2) ∧ ∀ e ∈ ls, G e.1 = none
  | [], G, z => ⟨G, z, Same.refl _, (fun e h => by cases h), (fun e h => by cases h)⟩
  | e :: ls, G, z => by
    have z : Zp G (u :: (e.1, e.2) :: (ls ++ M)) H := z
    obtain ⟨z1, fr⟩ := z.fix2
    obtain ⟨G2, z2, s2, h2, n2⟩ := Zp.fixs z1
    refine ⟨G2, z2, (Same.new fr).trans s2, fun x hx => ?_, fun x hx => ?_⟩
    · rcases List.mem_cons.mp hx with rfl | hx
      · exact s2 _ _ upd_same
      · exact h2 x hx
    · rcases List.mem_cons.mp hx with rfl | hx
      · exact fr
      · exact none_of (Same.new fr) (n2 x hx)
def outG (G : Hp) (as : List Addr) : Hp := fun b => if b ∈ as then none else G b
theorem Zp.looses {G H : Hp} {M ls : List (Addr × HO)} (z : Zp G M H) (h : ∀ e ∈ ls, G e.1 = some e.2) (nd : (ls.map (·.1)).Nodup) : Zp (outG G (ls.map (·.1))) (M ++ ls) H where
  sub := fun a o e => by
    unfold outG at e
    split at e
    · cases e
    · exact z.sub a o e
  own := fun i p o e => by
    by_cases c : i < M.length
    · rw [List.getElem?_append_left c] at e
      obtain ⟨h1, h2⟩ := z.own i p o e
      refine ⟨h1, ?_⟩
      unfold outG
      split
      · rfl
      · exact h2
    · rw [List.getElem?_append_right (by omega)] at e
      have hm := List.mem_of_getElem? e
      refine ⟨z.sub _ _ (h _ hm), ?_⟩
      unfold outG
      rw [if_pos (List.mem_map.mpr ⟨_, hm, rfl⟩)]
  nd := by
    rw [List.map_append, List.nodup_append]
    refine ⟨z.nd, nd, fun x hx y hy e => ?_⟩
    subst e
    obtain ⟨⟨p, o⟩, hp, rfl⟩ := List.mem_map.mp hx
    obtain ⟨⟨p2, o2⟩, hp2, e2⟩ := List.mem_map.mp hy
    obtain ⟨i, hi⟩ := List.getElem?_of_mem hp
    have n := (z.own i p o hi).2
    have e2 : p2 = p := e2
    subst e2
    rw [h _ hp2] at n
    cases n
theorem Zp.unlock {G H : Hp} {M : List (Addr × HO)} {d : Addr} {od : Obj} {u : HO} (z : Zp G M H) (h : G d = some (.frz od u)) : Zp (outG G [d]) (M ++ [(d, u)]) (upd H d u) := by
  have z1 := Zp.looses z (ls := [(d, .frz od u)]) (fun e he => by rw [List.mem_singleton.mp he]; exact h) (by simp)
  have z2 := z1.put M.length last_at u
  rw [List.set_append_right _ _ (Nat.le_refl _), Nat.sub_self] at z2
  exact z2
theorem z_lockE {G H : Hp} {M : List (Addr × HO)} {d : Addr} {kvs : List (Key × V)} {t : TE} {σ : L2.St} {Q : VK} (z : Zp G (M ++ [(d, .dK kvs)]) H) (q : ∀ od H1, Zp (upd G d (.frz od (.dK kvs))) M H1 → t σ H1 fun x H2 => H2 d = some (.frz od (.dK kvs)) ∧ Q x (upd H2 d (.dK kvs))) : tLockE t σ H Q := by
  refine ⟨d, _, z.at_ M.length last_at, trivial, fun od => ?_⟩
  have z1 := z.put M.length last_at (.frz od (.dK kvs))
  rw [List.set_append_right _ _ (Nat.le_refl _), Nat.sub_self] at z1
  exact q od _ z1.fix
def rListD : List V → Hp → VK → Prop := fun xs H Q => ∃ (a : Addr) (kvs : List (Key × V)), xs = [.ref a] ∧ Rd H a (.dK kvs) ∧ ∀ p, H p = none → Q (.ref p) (upd H p (.lst (kvs.map fun kv => kV kv.1)))
theorem c_listD {X : Cx} (hc : X.calm = true) : CallR X (.type "list") rListD := call_listD hc
theorem z_listD {G H : Hp} {M : List (Addr × HO)} {d : Addr} {kvs : List (Key × V)} {l : List Str} {Q : VK} (z : Zp G M H) (h : FzD G d kvs) (hk : kvs.map (·.1) = l.map .inr) (q : ∀ p G1 H1, Zp G1 M H1 → Same G G1 → G1 p = some (.lst (l.map V.str)) → Q (.ref p) H1) : rListD [.ref d] H Q := by
  refine ⟨d, kvs, rfl, h.rd z, fun p hp => ?_⟩
  rw [keys_str hk]
  exact q p _ _ (z.new hp _) (Same.new (z.free hp)) upd_same
def rSortD : List V → Hp → VK → Prop := fun xs H Q => ∃ (a : Addr) (kvs : List (Key × V)) (ks : List Str), xs = [.ref a] ∧ Rd H a (.dK kvs) ∧ kvs.map (·.1) = ks.map Sum.inr ∧ ks.length < 64 ∧ ∀ ys p, ys.Perm ks → sortedS ys = true → H p = none → Q (.ref p) (upd H p (.lst (ys.map V.str)))
theorem c_sortD {X : Cx} (hc : X.calm = true) : CallR X (.builtin "sorted") rSortD := call_sortedD hc
theorem z_sortD {G H : Hp} {M : List (Addr × HO)} {d : Addr} {kvs : List (Key × V)} {l : List Str} {Q : VK} (z : Zp G M H) (h : FzD G d kvs) (hk : kvs.map (·.1) = l.map .inr) (nd : l.Nodup) (hl : l.length < 64) (q : ∀ p G1 H1, Zp G1 M H1 → Same G G1 → G1 p = some (.lst ((asc l).map V.str)) → Q (.ref p) H1) : rSortD [.ref d] H Q := by
  refine ⟨d, kvs, l, rfl, h.rd z, hk, hl, fun ys p pm so hp => ?_⟩
  rw [asc_is pm so nd fun x => Iff.rfl]
  exact q p _ _ (z.new hp _) (Same.new (z.free hp)) upd_same
theorem z_sortN {P : Program} {w : World} {K : PySem.W.Frag} {G H : Hp} {M : List (Addr × HO)} {a : Addr} {l : List Str} {Q : VK} (z : Zp G M H) (h : SqL K G a (l.map V.str)) (nd : l.Nodup) (hl : l.length < 64) (q : ∀ p G1 H1, Zp G1 M H1 → Same G G1 → G1 p = some (.lst ((asc l).map V.str)) → Q (.ref p) H1) : rSortG K P w [.ref a] H Q := .inr ⟨a, l, rfl, z.seqL h, hl, fun ys p pm so hp => by
  rw [asc_is pm so nd fun x => Iff.rfl]
  exact q p _ _ (z.new hp _) (Same.new (z.free hp)) upd_same⟩
theorem z_dputG {G H : Hp} {M : List (Addr × HO)} {d : Addr} {kvs : List (Key × V)} {k : Str} {v : V} {R : Hp → Prop} (z : Zp G M H) (i : Nat) (e : M[i]? = some (d, .dK kvs)) (hl : kvs.length < 1000)
    (q : ∀ H1, Zp G (M.set i (d, .dK (putK kvs (.inr k) v))) H1 → R H1) : DpW (.ref d) (.str k) v H R :=
  ⟨d, _, rfl, DPut.k (k := .inr k) (v := v) (z.at_ i e) (Nat.lt_of_lt_of_le hl (by decide)), q _ (z.put i e (.dK (putK kvs (.inr k) v)))⟩
/-! ### the lists of the kinds that are given to a book -/
def DutK (ls : List (Addr × HO)) : List (Key × V) → List (Str × List Str) → Prop := Paired fun pr q => pr.1 = .inr q.1 ∧ ∃ a, pr.2 = .ref a ∧ (a, HO.lst (q.2.map V.str)) ∈ ls
theorem DutK.more {ls ls' : List (Addr × HO)} {kvs dn} (h : DutK ls kvs dn) (m : ∀ e ∈ ls, e ∈ ls') : DutK ls' kvs dn := L2.Paired.mapP h fun _ _ ⟨e, a, h1, h2⟩ => ⟨e, a, h1, m _ h2⟩
theorem DutK.keys {ls : List (Addr × HO)} {kvs dn} (h : DutK ls kvs dn) : kvs.map (·.1) = (dn.map (·.1)).map .inr := paired_keys (fun _ _ h => h.1) h
theorem DutK.kds {K : PySem.W.Frag} {G : Hp} {ls : List (Addr × HO)} {kvs dn} (h : DutK ls kvs dn) (m : ∀ e ∈ ls, G e.1 = some e.2) : Kds K G kvs dn := L2.Paired.mapP h fun p q ⟨e, a, h1, h2⟩ => ⟨e, .list (q.2.map PyData.str), by rw [h1]; exact .lst (SqL.of (m _ h2)) (dts_str _), rfl, rfl⟩
theorem perm_look {β : Type} {l : List (Str × β)} {ts : List Str} {look : Str → β} (p : ts.Perm (l.map (·.1))) (h : ∀ q ∈ l, look q.1 = q.2) : (ts.map fun k => (k, look k)).Perm l := by
  refine (p.map _).trans ?_
  rw [List.map_map]
  have : l.map ((fun k => (k, look k)) ∘ fun x => x.1) = l := by
    conv => rhs; rw [← List.map_id l]
    refine List.map_congr_left fun q hq => ?_
    show (q.1, look q.1) = q
    rw [h q hq]
  rw [this]
section
variable {P : Program} {w : World} {K : PySem.W.Frag} {mg : Str → Option Value} {base : Heap} {f : Addr} {fd : FuncData} {C CB : Addr}
def spBNe (K : PySem.W.Frag) (C CB : Addr) : Sp := fun vs H Q _ => ∃ G M x y B d, vs = [.ref x, y] ∧ Zp G M H ∧ BkI K G C CB x B ∧ Dt K G y d ∧ Q (.bl false) H
def spBEqL (K : PySem.W.Frag) (C CB : Addr) : Sp := fun vs H Q E => spBEq K C CB vs H Q E ∨ spBNe K C CB vs H Q E
theorem ok_bne (T : Nm K mg) (TT : TaskT K CB) (g_Book : mg "Book" = some (.ref CB)) (F : FunD K "__eq__" "Book.__eq__" (defArgs s_Book_eq) (defBody s_Book_eq) (defScope s_Book_eq) [] [] f fd) :
    FnOk P w K mg base CX0 5 f fd ["self", "other"] (spBNe K C CB) := by
  have nd : N_Book_eq.Nodup := sc_Book_eq.nd
  refine F.ok sc_Book_eq (fun vs H Q E h => ?_) (fun cdv A outer s H vs Q E hr h => ?_)
  · obtain ⟨G, M, x, y, B, d, rfl, _⟩ := h
    rfl
  have hu := hr.units
  refine ⟨_, PSs.nox   (pss_cons (ps_if (pt_not (pt_val (pe_callB (kc_isi (K := K)) (by rfl) T.b_isinstance boot_isinstance (pa_cons (pv 1) (pa_cons (pe_glob (v := .ref CB) (by rfl) g_Book rfl) pa_nil))))) (pss_one (ps_ret pe_bl)) pss_nil)
    (pss_cons (ps_asg (pe_tup (pa_cons (k_fld (K := K) (pv 0) rfl) (pa_cons (k_fld (K := K) (pv 0) rfl) (pa_cons (k_fld (K := K) (pv 0) rfl) pa_nil)))) (pg_name (i := 2) nd rfl (by first | exact .inl rfl | exact .inr rfl)))
    (pss_one (ps_ret (pe_cmpR (k_eq (K := K) hu) (pv 2) (pe_tup (pa_cons (k_fld (K := K) (pv 1) rfl) (pa_cons (k_fld (K := K) (pv 1) rfl) (pa_cons (k_fld (K := K) (pv 1) rfl) pa_nil)))) (nomark _)))))), ?_⟩
  obtain ⟨G, M, x, y, B, d, rfl, z, hB, hd, q⟩ := h
  repeat (walk_at "z")
  refine z_isi (.own CB) (hd.up z.sub).ty (kit_own TT.own d) ?_
  repeat (walk_at "z")
  exact q
theorem ok_beqL {k : Nat} (h1 : FnOk P w K mg base CX0 k f fd ["self", "other"] (spBEq K C CB)) (h2 : FnOk P w K mg base CX0 k f fd ["self", "other"] (spBNe K C CB)) : FnOk P w K mg base CX0 k f fd ["self", "other"] (spBEqL K C CB) :=
  ⟨fun vs H Q E h => h.elim (h1.len vs H Q E) (h2.len vs H Q E), fun A outer s H args us vs Q E hr he hb hv hs => hs.elim (h1.run A outer s H args us vs Q E hr he hb hv) (h2.run A outer s H args us vs Q E hr he hb hv)⟩
theorem ne_bkL {x y : Addr} {B : BkD} {G H : Hp} {M : List (Addr × HO)} {Q : VK} (TT : TaskT K CB) (z : Zp G M H) (h1 : BkI K G C CB x B) (h2 : BkI K G C CB y B) (g : GoodB B) (q : ∀ G1 H1, Zp G1 M H1 → Same G G1 → Q (.bl false) H1) : rNe2 K CB (spBEqL K C CB) E0 (.ref x) (.ref y) H Q := by
  obtain ⟨dx, vp, dk, dt, kk, kt, e1, _⟩ := id h1
  obtain ⟨dy, vp', dk', dt', kk', kt', e2, _⟩ := id h2
  exact .inr ⟨x, dx, _, .ref CB, rfl, z.sub _ _ e1, TT.ty (z.sub _ _ e2), by simp [PySem.W.notFirst], .inl ⟨G, M, x, y, B, rfl, z, h1, h2, g, fun G1 H1 z1 s1 => ⟨true, rfl, q G1 H1 z1 s1⟩⟩⟩
theorem eq_bkL {x : Addr} {y : V} {t : Value} {d : PyData} {B : BkD} {G H : Hp} {M : List (Addr × HO)} {Q : VK} (z : Zp G M H) (h1 : BkI K G C CB x B) (hd : Dt K G y d) (ty : TyX K H y t) (nf : PySem.W.notFirst K CB t = true) (q : Q (.bl false) H) : rEq2 K CB (spBEqL K C CB) E0 (.ref x) y H Q := by
  obtain ⟨dx, vp, dk, dt, kk, kt, e1, _⟩ := id h1
  exact .inr ⟨x, dx, _, t, rfl, z.sub _ _ e1, ty, nf, .inr ⟨G, M, x, y, B, d, rfl, z, h1, hd, false, rfl, q⟩⟩
end
end LW
namespace LW
open PySem PySem.Spec PyProof.Rows L2 Ys

theorem keep_out {G H : Hp} {p dg : Addr} {o u : HO} {od : Obj} {ls : List (Addr × HO)} (z : Zp G [(p, o)] H) (hd : G dg = some (.frz od u)) (h : ∀ e ∈ ls, G e.1 = some e.2) (hl : ∀ e ∈ ls, ∃ xs, e.2 = .lst xs) (nd : (ls.map (·.1)).Nodup) :
    ∃ G1, Zp G1 ((p, o) :: (dg, u) :: ls) (upd H dg u) ∧ ∀ a x, G a = some x → a ≠ dg → a ∉ ls.map (·.1) → G1 a = some x := by
  have z1 := Zp.unlock z hd
  have ne : ∀ e ∈ ls, e.1 ≠ dg := fun e he c => by
    have q := h e he
    obtain ⟨xs, ex⟩ := hl e he
    rw [c, hd, ex] at q
    cases q
  have z2 := Zp.looses z1 (ls := ls) (fun e he => by
    unfold outG
    rw [if_neg (by simpa using ne e he)]
    exact h e he) nd
  refine ⟨_, z2, fun a x e n1 n2 => ?_⟩
  unfold outG
  rw [if_neg n2, if_neg (by simpa using n1)]
  exact e
theorem BkN.up {K : PySem.W.Frag} {G0 G G1 : Hp} {C : Addr} {fs : List (Str × V)} {B : BkD} (h : BkN K G0 G C fs B) (s : Same G G1) : BkN K G0 G1 C fs B := by
  obtain ⟨vp, dk, dt, kk, kt, h0, n1, n2, h1, h2, h3, h4, h5⟩ := h
  exact ⟨vp, dk, dt, kk, kt, h0, n1, n2, h1.up s, h2.up s, h3.up s, h4.up s, h5.up s⟩
theorem goodK_perm {kn dn : List (Str × List Str)} (p : dn.Perm kn) (g : GoodK kn) : GoodK dn :=
  ⟨by rw [p.length_eq]; exact g.l1, by rw [p.length_eq]; exact g.l3, ((p.map _).nodup_iff).mpr g.nd, fun q hq => g.wd q (p.mem_iff.mp hq), fun q hq => g.rs q (p.mem_iff.mp hq)⟩
theorem goodT_perm {tn dn : List (Str × TkD)} (p : dn.Perm tn) (g : GoodTs tn) : GoodTs dn :=
  ⟨by rw [p.length_eq]; exact g.l8, ((p.map _).nodup_iff).mpr g.nd, fun q hq => g.wd q (p.mem_iff.mp hq)⟩
theorem need_perm {tn dn : List (Str × TkD)} (p : dn.Perm tn) (h : NeedOk tn) : NeedOk dn :=
  ⟨by rw [(cond_perm p).length_eq]; exact h.cl, by rw [rem_perm p]; exact h.rm, by rw [wid_perm p]; exact h.wd⟩
theorem BkT.pv {K : PySem.W.Frag} {G : Hp} {kn : List (Str × List Str)} {tn dn : List (Str × TkD)} {p : Pl} {v : V} (h : BkT kn tn p) (pm : dn.Perm tn) (d : Dt K G v p.d) : PV K G (dn.map (·.1)) v p :=
  ⟨d, h.ok, by have := h.dp; omega, by have := h.sz; omega, by have := nf_dp p; have := h.dp; omega, h.nm, fun s hs => ((pm.map _).mem_iff).mpr (h.mem s hs)⟩
theorem BkT.good {kn : List (Str × List Str)} {tn : List (Str × TkD)} {p : Pl} (h : BkT kn tn p) (q : Pl) : GoodB ⟨ordK kn, ordT tn, q⟩ := good_book h.gk h.gt fun x hx => ⟨(h.pt x hx).good, (h.pt x hx).m1⟩
end LW
namespace LW
open PySem PySem.Spec PyProof.Rows L2 Ys

theorem set_keys {ls : List (Addr × HO)} {j : Nat} {a : Addr} {o o' : HO} (h : ls[j]? = some (a, o)) : (ls.set j (a, o')).map (·.1) = ls.map (·.1) := by
  apply List.ext_getElem?
  intro k
  rw [List.map_set]
  by_cases c : k = j
  · subst c
    rw [List.getElem?_set_self (by rw [List.length_map]; exact (List.getElem?_eq_some_iff.mp h).1), List.getElem?_map, h]
    rfl
  · rw [List.getElem?_set_ne (fun e => c e.symm)]
section
variable {K : PySem.W.Frag} {G H : Hp}
theorem kd_vals : ∀ {kvx : List (Key × V)} {kn : List (Str × List Str)}, Kdt K H kvx kn → Dts K H (kvx.map (·.2)) ((kn.map fun q => (PyData.str q.1, strsP q.2)).map (·.2))
  | _, _, .nil => .nil
  | p :: r, q :: s, .cons h t => by
    obtain ⟨e, a, e1, e2⟩ := h
    rw [List.map_cons, List.map_cons, List.map_cons]
    refine .cons ?_ (kd_vals t)
    rw [e1]
    exact .tup e2 (dts_str _)
theorem kd_keys : ∀ {kvx : List (Key × V)} {kn : List (Str × List Str)}, Kdt K H kvx kn → (kn.map fun q => (PyData.str q.1, strsP q.2)).map (·.1) = kvx.map fun p => kD p.1
  | _, _, .nil => rfl
  | p :: r, q :: s, .cons h t => by
    have e : p.1 = .inr q.1 := h.1
    rw [List.map_cons, List.map_cons, List.map_cons, kd_keys t, e]
    rfl
theorem dt_kinds {d : Addr} {kvx : List (Key × V)} {kn : List (Str × List Str)} (h : Rd H d (.dK kvx)) (hk : Kdt K H kvx kn) : Dt K H (.ref d) (kindsD kn) := .dct h (kd_keys hk) (kd_vals hk)
theorem FzD.rdG {d : Addr} {kvs : List (Key × V)} (h : FzD G d kvs) : Rd G d (.dK kvs) := let ⟨o, e⟩ := h; .inr ⟨o, e⟩
theorem dt_due {due d : Addr} {tt rr vn : V} {kvx : List (Key × V)} {kn : List (Str × List Str)} {tn : List (Str × TkD)} {p : Pl} (hL : SqL K H due [.ref d, tt, rr, .int (widP tn), vn]) (h1 : Rd H d (.dK kvx)) (hk : Kdt K H kvx kn) (h2 : Dt K H tt (strsP (asc (tn.map (·.1))))) (h3 : Dt K H rr (strsP (remP tn))) (h5 : Dt K H vn p.d) : Dt K H (.ref due) (dueD7 kn tn p) :=
  .lst hL (.cons (dt_kinds h1 hk) (.cons h2 (.cons h3 (.cons (.int _) (.cons h5 .nil)))))
theorem dt_strs {a : Addr} {l : List Str} (h : SqT K H a (l.map V.str)) : Dt K H (.ref a) (strsP l) := .tup h (dts_str _)
theorem kdl_kds : ∀ {kvs kn}, KdL K G kvs kn → Kds K G kvs kn := fun h => L2.Paired.mapP h fun p q ⟨e, a, h1, h2⟩ => ⟨e, .list (q.2.map PyData.str), by rw [h1]; exact .lst (SqL.of h2) (dts_str _), rfl, rfl⟩
theorem z_reprM {x : V} {d : PyData} {Q : VK} (hd : Dt K H x d) (sw : Shw d 60000) (dp : d.depth ≤ 60) (q : Q (.str d.shown) H) : Ys.rRepr K [x] H Q := ⟨x, d, rfl, hd, sw.ok, dp, Nat.le_trans sw.le (by decide), q⟩
end
theorem kinds_dep (kn : List (Str × List Str)) : (kindsD kn).depth ≤ 4 := by
  have : ∀ kn : List (Str × List Str), PyData.depthKv (kn.map fun q => (PyData.str q.1, strsP q.2)) ≤ 3 := by
    intro kn
    induction kn with
    | nil => exact Nat.zero_le _
    | cons q r ih =>
      rw [List.map_cons, PyData.depthKv]
      have := dep_strs q.2
      have e : (PyData.str q.1).depth = 0 := rfl
      omega
  have := this kn
  show _ + 1 ≤ 4
  omega
theorem due_dep {kn : List (Str × List Str)} {tn : List (Str × TkD)} {p : Pl} (h : p.dp ≤ 20) : (dueD7 kn tn p).depth ≤ 60 := by
  have := pd_dep p
  refine Nat.le_trans (Nat.succ_le_succ (dep_all (n := 20) fun d hd => ?_)) (by decide : 20 + 1 ≤ 60)
  simp only [List.mem_cons, List.not_mem_nil, or_false] at hd
  rcases hd with rfl | rfl | rfl | rfl | rfl
  · exact Nat.le_trans (kinds_dep _) (by decide)
  · exact Nat.le_trans (dep_strs _) (by decide)
  · exact Nat.le_trans (dep_strs _) (by decide)
  · exact Nat.zero_le _
  · omega
theorem okv_wd {s : Str} (h : Wd s) : OkV (.str s) := ⟨.inl (by unfold SeqAt.shaped; rw [PyData.canLay0, h.2.2.ok]; rfl), rfl, Nat.zero_le _, Nat.le_trans (shw_wd h).le (by decide)⟩
theorem can_strs {l : List Str} (h : ∀ s ∈ l, wordS s = true) : (strsP l).canLay0 = true := canLay_strs fun s hs => (word_wd (h s hs)).2.2.ok
theorem can_plain {t : TkD} (h : PlT t) : (plainP t).canLay0 = true := by
  have e : (rP t.role).canLay0 = true := by
    have r := h.ro
    cases hr : t.role with
    | none => rfl
    | some s => exact (word_wd (r s hr)).2.2.ok
  show PyData.canLayAll0 [rP t.role, .int t.many, strsP t.l1, strsP t.l2, strsP t.l3, strsP t.l4] = true
  simp only [PyData.canLayAll0, e, can_strs h.g1.wd, can_strs h.g2.wd, can_strs h.g3.wd, can_strs h.g4.wd, PyData.canLay0, Bool.and_self]
theorem plain_dep (t : TkD) : (plainP t).depth ≤ 3 := by
  refine Nat.le_trans (Nat.succ_le_succ (dep_all (n := 2) fun d hd => ?_)) (Nat.le_refl _)
  simp only [List.mem_cons, List.not_mem_nil, or_false] at hd
  rcases hd with rfl | rfl | rfl | rfl | rfl | rfl
  · cases t.role <;> exact Nat.zero_le _
  · exact Nat.zero_le _
  · exact dep_strs _
  · exact dep_strs _
  · exact dep_strs _
  · exact dep_strs _
theorem shaped_plains {ts : List TkD} (h : ∀ t ∈ ts, PlT t) : SeqAt.shaped (.list (ts.map plainP)) = true := by
  have c : ∀ {ts : List TkD}, (∀ t ∈ ts, PlT t) → PyData.canLayAll0 (ts.map plainP) = true := by
    intro ts
    induction ts with
    | nil => intro _; rfl
    | cons t r ih =>
      intro h
      rw [List.map_cons, PyData.canLayAll0, can_plain (h t (by simp)), ih fun x hx => h x (List.mem_cons_of_mem _ hx)]
      rfl
  unfold SeqAt.shaped
  rw [show (PyData.list (ts.map plainP)).canLay0 = true from c h, decide_eq_true]
  · rfl
  · refine Nat.le_trans (Nat.succ_le_succ (dep_all (n := 3) fun d hd => ?_)) (by decide : 3 + 1 ≤ 64)
    obtain ⟨t, _, rfl⟩ := List.mem_map.mp hd
    exact plain_dep t
theorem shaped_unk {s : Str} (h : PyData.strOk s = true) : SeqAt.shaped (.tuple [.str "unknown", .str s, .bool true]) = true := by
  have e : PyData.strOk ("unknown" : Str) = true := by decide +kernel
  unfold SeqAt.shaped
  rw [show (PyData.tuple [.str "unknown", .str s, .bool true]).canLay0 = true from by simp [PyData.canLay0, PyData.canLayAll0, h, e]]
  rfl
theorem BkT.shw {kn : List (Str × List Str)} {tn : List (Str × TkD)} {p : Pl} (h : BkT kn tn p) : Shw (dueD7 (ordK kn) tn (nf p)) 60000 := by
  have g := goodK_ord h.gk
  refine shw_due g.l3 (fun q hq => ⟨g.wd q hq, (g.rs q hq).1, (g.rs q hq).2.2⟩) h.gt h.nd (fun s hs => ?_) (nf_ok p false h.ok) (by have := nf_sz p; have := h.sz; omega)
  have hs := asc_mem.mp hs
  obtain ⟨q, hq, hs⟩ := List.mem_flatMap.mp hs
  rcases List.mem_append.mp hs with hs | hs
  · exact (h.pt q hq).g1.wd s hs
  · exact (h.pt q hq).g2.wd s hs
theorem BkT.kshw {kn : List (Str × List Str)} {tn : List (Str × TkD)} {p : Pl} (h : BkT kn tn p) : Shw (kindsD (ordK kn)) 60000 := by
  have g := goodK_ord h.gk
  exact (shw_kinds g.l3 fun q hq => ⟨g.wd q hq, (g.rs q hq).1, (g.rs q hq).2.2⟩).mono (by decide)
theorem BkT.strOk {kn : List (Str × List Str)} {tn : List (Str × TkD)} {p : Pl} (h : BkT kn tn p) : ∀ s ∈ (ordT tn).map (·.1), PyData.strOk s = true := fun s hs => by
  rw [ordT_keys] at hs
  obtain ⟨q, hq, rfl⟩ := List.mem_map.mp (asc_mem.mp hs)
  exact (h.wt q hq).2.2.ok
theorem hit_valV {kt : List (Key × V)} {l : List Str} {t : Str} (hk : kt.map (·.1) = l.map .inr) : (valV kt (.inr t)).isSome = hitD (.str t) l := by
  show _ = decide (t ∈ l)
  by_cases c : t ∈ l
  · rw [decide_eq_true c]
    exact valV_isin (by rw [hk]; exact List.mem_map.mpr ⟨t, c, rfl⟩)
  · rw [decide_eq_false c, valV_out (by
      rw [hk]
      intro h
      obtain ⟨y, hy, e⟩ := List.mem_map.mp h
      cases e
      exact c hy)]
    rfl
theorem shw_bool (b : Bool) : Shw (.bool b) 60000 := ⟨rfl, by cases b <;> decide⟩
theorem hit_congr {d : PyData} {l m : List Str} (h : ∀ x, x ∈ l ↔ x ∈ m) : hitD d l = hitD d m := by
  cases d with
  | str s => show decide (s ∈ l) = decide (s ∈ m); rw [decide_eq_decide]; exact h s
  | _ => rfl
end LW
namespace LW
open PySem PySem.Spec PyProof.Rows L2 Ys

def spLaw (K : PySem.W.Frag) : Sp := fun vs H Q _ => ∃ a, ∃ ns : List Int, vs = [.ref a] ∧ SqL K H a (ns.map V.int) ∧ ns.length ≤ 63 ∧ ∀ H1, Q (.bl true) H1
structure OwnM (P : Program) (w : World) (K : PySem.W.Frag) (mg : Str → Option Value) (base : Heap) (C : Addr) (m : Str) (k : Nat) (ps : List Str) (sp : Sp) : Prop where
  ex : ∃ f fd, FnOk P w K mg base CX0 k f fd ps sp ∧ PySem.W.findIn K (.ref C) m = some (some (.ref f)) ∧ PySem.W.isFn K (.ref f) = true ∧ Binds K fd ps []
structure LawC (P : Program) (w : World) (K : PySem.W.Frag) (mg : Str → Option Value) (base : Heap) (C CB : Addr) : Prop where
  pen : Own P w K mg base CX0 1 "_law_pen" ["_law_script"] (spPen K)
  book : Own P w K mg base CX0 19 "_law_book" ["_law_pen_here"] (spLBook K)
  made : Own P w K mg base CX0 7 "_law_made_task" ["_law_one"] (spMade K C)
  shuf : OwnSh P w K mg base
  anyv : Own P w K mg base CX0 3 "_law_any_value" ["_law_pen_here"] (spAny K)
  rem : Own P w K mg base CX0 3 "_law_remembered" ["_law_tasks"] (spLRem K)
  wid : Own P w K mg base CX0 4 "_law_width" ["_law_tasks"] (spLWid K)
  nor : Own P w K mg base CX0 18 "_law_normal" ["_law_plan_here"] (spNF K 17)
  item : OwnG P w K mg base CX0 8 "_law_item" ["_law_book_here", "_law_value"] (spLItem K C CB)
  bmk : MkS P w K mg base CX0 22 CB "Book" 3 [] (fun vs zs => vs ++ zs) (spBookN K C CB)
  kinds : Prp P w K mg base CX0 1 CB "kinds" (spBKindsM K C CB)
  names : Prp P w K mg base CX0 1 CB "names" (spBNames K C CB)
  remb : Prp P w K mg base CX0 4 CB "remembered" (spBRem K C CB)
  width : Prp P w K mg base CX0 5 CB "width" (spBWid K C CB)
  plan : Prp P w K mg base CX0 1 CB "plan" (spBPlan K C CB)
  copied : Mth P w K mg base CX0 25 CB "copied" ["self"] [] (spBCopy K C CB)
  eq : EqC P w K mg base CX0 5 CB (spBEqL K C CB)
  len : OwnM P w K mg base CB "__len__" 1 ["self"] (spBLen K C CB)
  con : OwnM P w K mg base CB "__contains__" 1 ["self", "value"] (spBIn K C CB)
  bt : TaskT K CB
section
variable {P : Program} {w : World} {K : PySem.W.Frag} {mg : Str → Option Value} {base : Heap} {f : Addr} {fd : FuncData} {C CB : Addr}
theorem ok_law (T : Nm K mg) (L : LawC P w K mg base C CB) (F : FnP K "law" s_law f fd) : FnG P w K mg base CX0 30 f fd ["_law_script"] (spLaw K) := by
  have nd : N_law.Nodup := sc_law.nd
  have C_law_pen := L.pen
  have C_law_book := L.book
  have C_law_made_task := L.made
  have C_law_shuffled := L.shuf
  have C_law_any_value := L.anyv
  have C_law_remembered := L.rem
  have C_law_width := L.wid
  have C_law_normal := L.nor
  have C_law_item := L.item
  have B_Book_3_ := L.bmk
  have R_kinds := L.kinds
  have R_names := L.names
  have R_remembered := L.remb
  have R_width := L.width
  have R_plan := L.plan
  have M_copied := L.copied
  obtain ⟨fL, fdL, FL, hL1, hL2, hL3⟩ := L.len.ex
  obtain ⟨fC, fdC, FC, hC1, hC2, hC3⟩ := L.con.ex
  refine okG F sc_law (fun vs H Q E h => ?_) (fun cdv A outer s H vs Q E hg hr h => ?_)
  · obtain ⟨a, ns, rfl, _⟩ := h
    rfl
  have hu := hr.units
  refine ⟨_, PSs.nox (  (pss_cons (ps_asg (pe_own C_law_pen (hr.mono (by omega)) (by rfl) pass0 (pa_cons (pv 0) pa_nil)) (pg_name (i := 1) nd rfl (by first | exact .inl rfl | exact .inr rfl)))
    (pss_cons (ps_for PassesOwn.never rfl (pi_range1 (by rfl) (T.b_range) (pa_cons (pe_op (k_add (K := K)) pe_int (pe_callB (c_min2 rfl) (by rfl) T.b_min boot_min (pa_cons pe_int (pa_cons (pe_callB (kc_len (K := K) (P := P) (w := w)) (by rfl) T.b_len PySem.boot_len (pa_cons (pv 0) pa_nil)) pa_nil)))) pa_nil)) (pg_name (i := 2) nd rfl (by first | exact .inl rfl | exact .inr rfl)) (pss_cons (ps_asg (pe_own C_law_book (hr.mono (by omega)) (by rfl) pass0 (pa_cons (pv 1) pa_nil)) (kg_tup (K := K) (n := 3) rfl (pgs_cons (pg_name (i := 11) nd rfl (by first | exact .inl rfl | exact .inr rfl)) (pgs_cons (pg_name (i := 12) nd rfl (by first | exact .inl rfl | exact .inr rfl)) (pgs_cons (pg_name (i := 13) nd rfl (by first | exact .inl rfl | exact .inr rfl)) pgs_nil)))))
    (pss_cons (ps_asg (pe_callTy (c_dictP (K := K) rfl) (by rfl) T.b_dict boot_dict (pa_cons (pe_lc (own := [("_law_title", 14)]) (tt := tYes) rfl nd (k_any (K := K) (pe_own C_law_shuffled (hr.mono (by omega)) (by rfl) pass0 (pa_cons (pv 1) (pa_cons (pe_callTy (c_listD rfl) (by rfl) T.b_list boot_list (pa_cons (pv 12) pa_nil)) pa_nil)))) (blkOk_by (N := N_law) (sc := defScope s_law) (by decide +kernel)) (fun _ _ _ _ _ => (pg_name (i := 14) nd rfl (by first | exact .inl rfl | exact .inr rfl))) (fun _ _ _ _ _ => pts_nil) (fun _ _ _ _ _ => (pe_tup (pa_cons (pv 14) (pa_cons (pe_own C_law_made_task (hr.mono (by omega)) (by rfl) pass0 (pa_cons (pe_dget (hu_of hr) (pv 12) (pv 14) (fun _ _ => rfl)) pa_nil)) pa_nil))))) pa_nil)) (pg_name (i := 3) nd rfl (by first | exact .inl rfl | exact .inr rfl)))
    (pss_cons (ps_asg (pe_frz (pe_callTy (c_dictP (K := K) rfl) (by rfl) T.b_dict boot_dict (pa_cons (pe_lc (own := [("_law_word", 6)]) (tt := tYes) rfl nd (k_any (K := K) (pe_own C_law_shuffled (hr.mono (by omega)) (by rfl) pass0 (pa_cons (pv 1) (pa_cons (pe_callTy (c_listD rfl) (by rfl) T.b_list boot_list (pa_cons (pv 11) pa_nil)) pa_nil)))) (blkOk_by (N := N_law) (sc := defScope s_law) (by decide +kernel)) (fun _ _ _ _ _ => (pg_name (i := 6) nd rfl (by first | exact .inl rfl | exact .inr rfl))) (fun _ _ _ _ _ => pts_nil) (fun _ _ _ _ _ => (pe_tup (pa_cons (pv 6) (pa_cons (pe_callTy (kc_list (K := K)) (by rfl) T.b_list boot_list (pa_cons (pe_dget (hu_of hr) (pv 11) (pv 6) (fun _ _ => rfl)) pa_nil)) pa_nil))))) pa_nil))) (pg_name (i := 4) nd rfl (by first | exact .inl rfl | exact .inr rfl)))
    (pss_cons (ps_asg (pe_lock (pe_mk B_Book_3_ (hr.mono (by decide)) (by rfl) pass0 (pa_cons (pv 4) (pa_cons (pv 3) (pa_cons (pv 13) pa_nil))) pk_nil)) (pg_name (i := 5) nd rfl (by first | exact .inl rfl | exact .inr rfl)))
    (pss_cons (ps_for PassesOwn.never rfl (pi_keys (pv 4)) (pg_name (i := 6) nd rfl (by first | exact .inl rfl | exact .inr rfl)) (pss_one (ps_expr (pe_bm PySem.F.plainAttrs_list PySem.F.slot_list_append PySem.F.type_list_append mt_append (pe_dget (hu_of hr) (pv 4) (pv 6) (fun _ _ => rfl)) (pa_cons pe_str pa_nil)))))
    (pss_cons (ps_expr (pe_dclear (pv 3)))
    (pss_cons (ps_asg (pe_lst (pa_cons (pe_frz (pe_callTy (c_dictP (K := K) rfl) (by rfl) T.b_dict boot_dict (pa_cons (pe_lc (own := [("_law_word", 6)]) (tt := tYes) rfl nd (k_any (K := K) (pe_callB (c_sortD rfl) (by rfl) T.b_sorted boot_sorted (pa_cons (pv 11) pa_nil))) (blkOk_by (N := N_law) (sc := defScope s_law) (by decide +kernel)) (fun _ _ _ _ _ => (pg_name (i := 6) nd rfl (by first | exact .inl rfl | exact .inr rfl))) (fun _ _ _ _ _ => pts_nil) (fun _ _ _ _ _ => (pe_tup (pa_cons (pv 6) (pa_cons (pe_callTy (kc_tuple (K := K)) (by rfl) T.b_tuple boot_tuple (pa_cons (pe_callB (kc_sorted (K := K) (P := P) (w := w) rfl) (by rfl) T.b_sorted boot_sorted (pa_cons (pe_dget (hu_of hr) (pv 11) (pv 6) (fun _ _ => rfl)) pa_nil)) pa_nil)) pa_nil))))) pa_nil))) (pa_cons (pe_callTy (kc_tuple (K := K)) (by rfl) T.b_tuple boot_tuple (pa_cons (pe_callB (c_sortD rfl) (by rfl) T.b_sorted boot_sorted (pa_cons (pv 12) pa_nil)) pa_nil)) pa_nil))) (pg_name (i := 7) nd rfl (by first | exact .inl rfl | exact .inr rfl)))
    (pss_cons (ps_asg (pe_op (k_add (K := K)) (pv 7) (pe_lst (pa_cons (pe_own C_law_remembered (hr.mono (by omega)) (by rfl) pass0 (pa_cons (pv 12) pa_nil)) (pa_cons (pe_own C_law_width (hr.mono (by omega)) (by rfl) pass0 (pa_cons (pv 12) pa_nil)) (pa_cons (pe_own C_law_normal (hr.mono (by omega)) (by rfl) pass0 (pa_cons (pv 13) pa_nil)) pa_nil))))) (pg_name (i := 7) nd rfl (by first | exact .inl rfl | exact .inr rfl)))
    (pss_cons (ps_asg (pe_pr R_kinds (hr.mono (by decide)) pass0 (pv 5)) (pg_name (i := 8) nd rfl (by first | exact .inl rfl | exact .inr rfl)))
    (pss_cons (ps_if (pt_cmpR (k_ne (K := K) hu) (pe_callB (kc_repr (K := K) hg T.sys hu) (by rfl) T.b_repr boot_repr (pa_cons (pe_lst (pa_cons (pv 8) (pa_cons (pe_pr R_names (hr.mono (by decide)) pass0 (pv 5)) (pa_cons (pe_pr R_remembered (hr.mono (by decide)) pass0 (pv 5)) (pa_cons (pe_pr R_width (hr.mono (by decide)) pass0 (pv 5)) (pa_cons (pe_pr R_plan (hr.mono (by decide)) pass0 (pv 5)) pa_nil)))))) pa_nil)) (pe_callB (kc_repr (K := K) hg T.sys hu) (by rfl) T.b_repr boot_repr (pa_cons (pv 7) pa_nil)) (nomark _)) (pss_one (ps_ret pe_bl)) pss_nil)
    (pss_cons (ps_if (pt_cmpR (k_ne (K := K) hu) (pe_callB (c_lenI FL hL1 hL2 hL3 pass0 (hr.mono (by omega))) (by rfl) T.b_len PySem.boot_len (pa_cons (pv 5) pa_nil)) (pe_callB c_lenD (by rfl) T.b_len PySem.boot_len (pa_cons (pv 12) pa_nil)) (nomark _)) (pss_one (ps_ret pe_bl)) pss_nil)
    (pss_cons (ps_dput (hu_of hr) (pv 8) pe_str (pe_tup pa_nil) rfl)
    (pss_cons (ps_if (PW.pt (pw_or (pt_cmpR (k_ne (K := K) hu) (pe_callB (kc_repr (K := K) hg T.sys hu) (by rfl) T.b_repr boot_repr (pa_cons (pe_pr R_kinds (hr.mono (by decide)) pass0 (pv 5)) pa_nil)) (pe_callB (kc_repr (K := K) hg T.sys hu) (by rfl) T.b_repr boot_repr (pa_cons (pe_ix (k_ix (K := K)) (pv 7) pe_int (fun _ _ => rfl)) pa_nil)) (nomark _)) (pw_or (pt_cmpR (e_ne (K := K) L.eq hu (hr.mono (by omega)) pass0) (pv 5) (pe_mt0 M_copied (hr.mono (by omega)) pass0 (pv 5)) (nomark _)) (pw_or1 (pt_cmpR (e_eq (K := K) L.eq hu (hr.mono (by omega)) pass0) (pv 5) (pv 7) (nomark _)))))) (pss_one (ps_ret pe_bl)) pss_nil)
    (pss_cons (ps_if (pt_cmpR (k_ne (K := K) hu) (pe_lc (own := [("_law_title", 14)]) (tt := tYes) rfl nd (k_any (K := K) (pe_callB (c_sortD rfl) (by rfl) T.b_sorted boot_sorted (pa_cons (pv 12) pa_nil))) (blkOk_by (N := N_law) (sc := defScope s_law) (by decide +kernel)) (fun _ _ _ _ _ => (pg_name (i := 14) nd rfl (by first | exact .inl rfl | exact .inr rfl))) (fun _ _ _ _ _ => pts_nil) (fun _ _ _ _ _ => (pe_ownG C_law_item hg (hr.mono (by omega)) (by rfl) pass0 (pa_cons (pv 5) (pa_cons (pv 14) pa_nil))))) (pe_lc (own := [("_law_title", 14)]) (tt := tYes) rfl nd (k_any (K := K) (pe_callB (c_sortD rfl) (by rfl) T.b_sorted boot_sorted (pa_cons (pv 12) pa_nil))) (blkOk_by (N := N_law) (sc := defScope s_law) (by decide +kernel)) (fun _ _ _ _ _ => (pg_name (i := 14) nd rfl (by first | exact .inl rfl | exact .inr rfl))) (fun _ _ _ _ _ => pts_nil) (fun _ _ _ _ _ => (pe_dget (hu_of hr) (pv 12) (pv 14) (fun _ _ => rfl)))) (nomark _)) (pss_one (ps_ret pe_bl)) pss_nil)
    (pss_cons (ps_asg (pe_own C_law_any_value (hr.mono (by omega)) (by rfl) pass0 (pa_cons (pv 1) pa_nil)) (pg_name (i := 9) nd rfl (by first | exact .inl rfl | exact .inr rfl)))
    (pss_cons (ps_asg (pe_and (pe_callB (kc_isi (K := K)) (by rfl) T.b_isinstance boot_isinstance (pa_cons (pv 9) (pa_cons (pe_bltn (v := .ty "str") (by rfl) T.b_str boot_str rfl) pa_nil))) (pe_one (pe_cmp (pc_din (hu_of hr) (pv 9) (pv 12))))) (pg_name (i := 10) nd rfl (by first | exact .inl rfl | exact .inr rfl)))
    (pss_cons (ps_if (PW.pt (pw_or (pt_cmpR (k_ne (K := K) hu) (pe_callB (kc_repr (K := K) hg T.sys hu) (by rfl) T.b_repr boot_repr (pa_cons (pe_cmpR (op_inI FC hC1 hC2 hC3 pass0 (hr.mono (by omega))) (pv 9) (pv 5) (by rfl)) pa_nil)) (pe_callB (kc_repr (K := K) hg T.sys hu) (by rfl) T.b_repr boot_repr (pa_cons (pv 10) pa_nil)) (nomark _)) (pw_or1 (pt_cmpR (k_ne (K := K) hu) (pe_lc (own := [("_law_title", 14)]) rfl nd (pi_keys (pv 12)) (blkOk_by (N := N_law) (sc := defScope s_law) (by decide +kernel)) (fun _ _ _ _ _ => (pg_name (i := 14) nd rfl (by first | exact .inl rfl | exact .inr rfl))) (fun _ _ _ _ _ => pts_one (pt_cmpR (op_notInI FC hC1 hC2 hC3 pass0 (hr.mono (by omega))) (pv 14) (pv 5) (by rfl))) (fun _ _ _ _ _ => (pv 14))) (pe_lst pa_nil) (nomark _))))) (pss_one (ps_ret pe_bl)) pss_nil)
    (pss_cons (ps_if (PW.pt (pw_and (pt_not (pt_val (pv 10))) (pw_and1 (pt_cmpR (k_ne (K := K) hu) (pe_ownG C_law_item hg (hr.mono (by omega)) (by rfl) pass0 (pa_cons (pv 5) (pa_cons (pv 9) pa_nil))) (pe_tup (pa_cons pe_str (pa_cons (pe_callB (kc_repr (K := K) hg T.sys hu) (by rfl) T.b_repr boot_repr (pa_cons (pv 9) pa_nil)) (pa_cons pe_bl pa_nil)))) (nomark _))))) (pss_one (ps_ret pe_bl)) pss_nil)
    (pss_cons (ps_asg (pe_frz (pe_callTy (c_dictP (K := K) rfl) (by rfl) T.b_dict boot_dict (pa_cons (pe_lc (own := [("_law_title", 14)]) (tt := tYes) rfl nd (pi_keys (pv 12)) (blkOk_by (N := N_law) (sc := defScope s_law) (by decide +kernel)) (fun _ _ _ _ _ => (pg_name (i := 14) nd rfl (by first | exact .inl rfl | exact .inr rfl))) (fun _ _ _ _ _ => pts_nil) (fun _ _ _ _ _ => (pe_tup (pa_cons (pv 14) (pa_cons (pe_own C_law_made_task (hr.mono (by omega)) (by rfl) pass0 (pa_cons (pe_dget (hu_of hr) (pv 12) (pv 14) (fun _ _ => rfl)) pa_nil)) pa_nil))))) pa_nil))) (pg_name (i := 3) nd rfl (by first | exact .inl rfl | exact .inr rfl)))
    (pss_one (ps_if (pt_cmpR (e_ne (K := K) L.eq hu (hr.mono (by omega)) pass0) (pe_mk B_Book_3_ (hr.mono (by decide)) (by rfl) pass0 (pa_cons (pv 11) (pa_cons (pv 3) (pa_cons (pe_own C_law_normal (hr.mono (by omega)) (by rfl) pass0 (pa_cons (pv 13) pa_nil)) pa_nil))) pk_nil) (pv 5) (nomark _)) (pss_one (ps_ret pe_bl)) pss_nil))))))))))))))))))))))
    (pss_one (ps_ret pe_bl))))), ?_⟩
  obtain ⟨a, ns, rfl, hS, hn, q⟩ := h
  have z : Zp H [] H := ⟨fun _ _ h => h, fun i p o e => by simp at e, List.nodup_nil⟩
  repeat (walk_at "z")
  refine ⟨a, H, ns, rfl, z, hS, fun p G1 H1 o1 z1 s1 hp1 => ?_⟩
  repeat (walk_at "z")
  refine z_lenH (.inl (z1.seqL (upL s1 hS))) ?_
  rw [List.length_map]
  repeat (walk_at "z")
  refine z_min2 ?_
  generalize hn8 : (if (ns.length : Int) < 5 then (ns.length : Int) else 5) = n8
  have n80 : 0 ≤ n8 ∧ n8 ≤ 5 := by rw [← hn8]; split <;> omega
  repeat (walk_at "z")
  refine z_itR (by omega) (by omega) ?_
  refine for_src src_R (fun i σ G' M' => ∃ o' k2 k3 k4 k5 k6 k7 k8 k9 k10 k11 k12 k13 k14, M' = [(p, o')] ∧ Pen K G' (1000 * i) o' ∧ σ = [some (.ref a), some (.ref p), k2, k3, k4, k5, k6, k7, k8, k9, k10, k11, k12, k13, k14])
    z1 ⟨o1, _, _, _, _, _, _, _, _, _, _, _, _, _, rfl, hp1, rfl⟩ (fun _ _ _ _ _ _ _ => trivial) ?_ ?_
  · rintro i x σ G0 M0 H0 hx ⟨o0, k2, k3, k4, k5, k6, k7, k8, k9, k10, k11, k12, k13, k14, rfl, hp0, rfl⟩ z0
    obtain ⟨hi, rfl⟩ := rng_at hx
    have hb : 1000 * i ≤ 100000 := by omega
    have hbi : 1000 * (i + 1) = 1000 * i + 1000 := by omega
    rw [hbi]
    generalize hbb : 1000 * i = b at hp0 hb
    generalize hlap : V.int (0 + (i : Int)) = lap
    repeat (walk_at "z")
    refine ⟨p, o0, G0, [], b, rfl, z0, hp0, by omega, fun a0 dk dt vp kk kt kn tn pl G1 H1 o1 z1 s1 hp1 e1 fk hK ft hT hd hB => ?_⟩
    clear z0 hp0 s1
    repeat (walk_at "z")
    refine z_gtup z1 e1 rfl ?_
    have ktl : kt.length = tn.length := keys_len hT
    have kkl : kk.length = kn.length := keys_len hK
    have t8 := hB.gt.l8
    have k3' := hB.gk.l3
    have hkt : (kt.map (·.1)).Nodup := by rw [hT.keys]; exact inr_nodup hB.gt.nd
    have hkk : (kk.map (·.1)).Nodup := by rw [hK.keys]; exact inr_nodup hB.gk.nd
    repeat (walk_at "z")
    -- the tasks given
    refine z_anyL ?_
    repeat (walk_at "z")
    refine z_listD z1 ft hT.keys fun l2 G2 H2 z2 s2 e2 => ?_
    repeat (walk_at "z")
    refine ⟨p, o1, G2, [], _, l2, (tn.map (·.1)).map V.str, rfl, z2, hp1.up s2, by rw [List.length_map, List.length_map]; omega, .inl (SqL.of e2), el_wds (fun s hs => by obtain ⟨q, hq, rfl⟩ := List.mem_map.mp hs; exact hB.wt q hq), by rw [List.length_map, List.length_map]; omega, fun l3 ys G3 H3 o3 z3 s3 hp3 pm => ?_⟩
    obtain ⟨ts, rfl, pm'⟩ := perm_strs pm
    rw [List.length_map, List.length_map] at hp3
    have tsl : ts.length = tn.length := by rw [pm'.length_eq, List.length_map]
    obtain ⟨G4, z4, s4, e4⟩ : ∃ G4, Zp G4 [(p, o3)] H3 ∧ Same G3 G4 ∧ G4 l3 = some (.lst (ts.map V.str)) := let ⟨z', fr⟩ := z3.fix2; ⟨_, z', Same.new fr, upd_same⟩
    have s14 := s2.trans (s3.trans s4)
    refine z_itL z4 (SqL.of e4) ?_
    refine lc_src src_L (fun i G' M' acc => M' = [(p, o3)] ∧ Same G4 G' ∧ ∃ ps kvs, acc = ps.map V.ref ∧ Paired (fun p (kv : Key × V) => SqT K G' p [kV kv.1, kv.2]) ps kvs ∧ Tks K G' C kvs ((ts.take i).map fun k => (k, lookT tn k))) z4 ⟨rfl, Same.refl _, [], [], rfl, .nil, .nil⟩ (fun i G' M' M1 acc H' ⟨_, s', _⟩ z' => z'.seqL (upL s' (SqL.of e4))) ?_ ?_
    · rintro j x G' M' acc Dl H' hx ⟨rfl, s', ps, kvs, rfl, hps, hkv⟩ z'
      rw [List.getElem?_map] at hx
      obtain ⟨nm, hnm, rfl⟩ := Option.map_eq_some_iff.mp hx
      have hm : nm ∈ tn.map (·.1) := pm'.mem_iff.mp (List.mem_of_getElem? hnm)
      obtain ⟨j2, t, hj⟩ := find_at hm
      have hj2 := (List.getElem?_eq_some_iff.mp hj).1
      obtain ⟨nm2, t2, at', h1, h2, h3⟩ := pts_at hT (i := j2) (by omega)
      rw [hj] at h2
      obtain ⟨rfl, rfl⟩ : nm = nm2 ∧ t = t2 := by simpa using h2
      have hlt : lookT tn nm = t := lookT_of hB.gt.nd (List.mem_of_getElem? hj)
      have hpl : ps.length ≤ 8 := by
        have e1 := Paired.length hps
        have e2 := keys_len hkv
        rw [List.length_map, List.length_take] at e2
        omega
      repeat (walk_at "z")
      refine ⟨by rfl, ?_⟩
      repeat (walk_at "z")
      refine z_dgS z' (ft.up (s14.trans s')) (valV_ix hkt h1) ?_
      repeat (walk_at "z")
      refine ⟨G', _, at', t, rfl, z', h3.up (s14.trans s'), hB.pt _ (List.mem_of_getElem? hj), fun x5 G5 H5 z5 s5 k5 => ?_⟩
      repeat (walk_at "z")
      refine z_newT z5 (by simp) fun q6 G6 H6 z6 s6 e6 => ?_
      refine z_laid (M := [(p, o3)]) z6 (by rw [List.length_map]; omega) ⟨rfl, s'.trans (s5.trans s6), ps ++ [q6], kvs ++ [(.inr nm, .ref x5)], by rw [List.map_append]; rfl, paired_snoc (R := fun p (kv : Key × V) => SqT K G6 p [kV kv.1, kv.2]) (SqT.of e6) (prs_up hps (s5.trans s6)), ?_⟩
      rw [List.take_add_one, hnm, List.map_append]
      exact paired_snoc ⟨rfl, x5, rfl, by show TkI K G6 C x5 (lookT tn nm); rw [hlt]; exact k5.up s6⟩ (hkv.up (s5.trans s6))
    rintro p7 G7 M7 acc G8 H8 ⟨rfl, s7, ps, kvs, rfl, hps, hkv⟩ s8 z8 e8
    rw [List.length_map, List.take_length] at hkv
    have hkv := hkv.up s8
    have pg : (ts.map fun k => (k, lookT tn k)).Perm tn := perm_look pm' fun q hq => lookT_of hB.gt.nd hq
    generalize htg : (ts.map fun k => (k, lookT tn k)) = tg at hkv pg
    have gtg := goodT_perm pg hB.gt
    repeat (walk_at "z")
    refine z_dictP z8 (SqL.of e8) (prs_up hps s8) fun dg H9 z9 => ?_
    rw [mergeK_nd (by rw [List.nil_append, hkv.keys]; exact inr_nodup gtg.nd), List.nil_append] at z9
    have z9 : Zp G8 [(p, o3), (dg, .dK kvs)] H9 := z9
    have s18 := s14.trans (s7.trans s8)
    have hp8 := (hp3.up (s4.trans (s7.trans s8)))
    -- the kinds given
    repeat (walk_at "z")
    refine z_anyL ?_
    repeat (walk_at "z")
    refine z_listD z9 (fk.up s18) hK.keys fun l10 G10 H10 z10 s10 e10 => ?_
    repeat (walk_at "z")
    refine ⟨p, o3, G10, [(dg, .dK kvs)], _, l10, (kn.map (·.1)).map V.str, rfl, z10, hp8.up s10, by rw [List.length_map, List.length_map]; omega, .inl (SqL.of e10), el_wds (fun s hs => by obtain ⟨q, hq, rfl⟩ := List.mem_map.mp hs; exact word_wd (hB.gk.wd q hq)), by rw [List.length_map, List.length_map]; omega, fun l11 ys G11 H11 o11 z11 s11 hp11 pm2 => ?_⟩
    obtain ⟨us, rfl, pm2'⟩ := perm_strs pm2
    rw [List.length_map, List.length_map] at hp11
    have usl : us.length = kn.length := by rw [pm2'.length_eq, List.length_map]
    obtain ⟨G12, z12, s12, e12⟩ : ∃ G12, Zp G12 [(p, o11), (dg, .dK kvs)] H11 ∧ Same G11 G12 ∧ G12 l11 = some (.lst (us.map V.str)) := let ⟨z', fr⟩ := z11.fix2; ⟨_, z', Same.new fr, upd_same⟩
    have s812 := s10.trans (s11.trans s12)
    have s112 := s18.trans s812
    refine z_itL z12 (SqL.of e12) ?_
    refine lc_src src_L (fun i G' M' acc => ∃ ls ps kvd, M' = (p, o11) :: (ls ++ [(dg, .dK kvs)]) ∧ Same G12 G' ∧ acc = ps.map V.ref ∧ Paired (fun p (kv : Key × V) => SqT K G' p [kV kv.1, kv.2]) ps kvd ∧ DutK ls kvd ((us.take i).map fun k => (k, lookK kn k)) ∧ ∀ e ∈ ls, ∃ xs : List V, e.2 = .lst xs ∧ xs.length ≤ 4) z12 ⟨[], [], [], rfl, Same.refl _, rfl, .nil, .nil, fun e he => by cases he⟩ (fun i G' M' M1 acc H' ⟨_, _, _, _, s', _⟩ z' => z'.seqL (upL s' (SqL.of e12))) ?_ ?_
    · rintro j x G' M' acc Dl H' hx ⟨ls, ps2, kvd, rfl, s', rfl, hps2, hD, hls⟩ z'
      rw [List.getElem?_map] at hx
      obtain ⟨nm, hnm, rfl⟩ := Option.map_eq_some_iff.mp hx
      have hm : nm ∈ kn.map (·.1) := pm2'.mem_iff.mp (List.mem_of_getElem? hnm)
      obtain ⟨j2, rs, hj⟩ := find_at hm
      have hj2 := (List.getElem?_eq_some_iff.mp hj).1
      obtain ⟨⟨pk, pv'⟩, ⟨qk, qr⟩, h1, h2, hpk, aw, hpv, haw⟩ := pair_at hK (i := j2) (by omega)
      rw [hj] at h2
      obtain ⟨rfl, rfl⟩ : nm = qk ∧ rs = qr := by simpa using h2
      have hpk : pk = .inr nm := hpk
      have hpv : pv' = .ref aw := hpv
      subst hpk hpv
      have hlk : lookK kn nm = rs := lookK_of hB.gk.nd (List.mem_of_getElem? hj)
      have hr4 : rs.length ≤ 4 := (hB.gk.rs (nm, rs) (List.mem_of_getElem? hj)).1
      have hpl : ps2.length ≤ 8 := by
        have e1 := Paired.length hps2
        have e2 := keys_len hD
        rw [List.length_map, List.length_take] at e2
        omega
      repeat (walk_at "z")
      refine ⟨by rfl, ?_⟩
      repeat (walk_at "z")
      refine z_dgS z' (fk.up (s112.trans s')) (valV_ix hkk h1) ?_
      repeat (walk_at "z")
      refine z_listP (show Zp G' ((p, o11) :: ((ls ++ [(dg, .dK kvs)]) ++ [(Dl, .lst (ps2.map V.ref))])) H' from z') (.inl (SqL.of ((s112.trans s') _ _ haw))) fun l13 H13 z13 => ?_
      repeat (walk_at "z")
      refine z_newT z13 (by simp) fun q14 G14 H14 z14 s14' e14 => ?_
      refine z_laid (M := (p, o11) :: (((l13, .lst (rs.map V.str)) :: ls) ++ [(dg, .dK kvs)])) z14 (by rw [List.length_map]; omega) ⟨(l13, .lst (rs.map V.str)) :: ls, ps2 ++ [q14], kvd ++ [(.inr nm, .ref l13)], rfl, s'.trans s14', by rw [List.map_append]; rfl, paired_snoc (R := fun p (kv : Key × V) => SqT K G14 p [kV kv.1, kv.2]) (SqT.of e14) (prs_up hps2 s14'), ?_, fun e he => ?_⟩
      · rw [List.take_add_one, hnm, List.map_append]
        exact paired_snoc ⟨rfl, l13, rfl, by show (l13, HO.lst ((lookK kn nm).map V.str)) ∈ _; rw [hlk]; exact List.mem_cons_self⟩ (hD.more fun e he => List.mem_cons_of_mem _ he)
      · rcases List.mem_cons.mp he with rfl | he
        · exact ⟨_, rfl, by rw [List.length_map]; exact hr4⟩
        · exact hls e he
    rintro p15 G15 M15 acc G16 H16 ⟨ls, ps2, kvd, rfl, s15, rfl, hps2, hD, hls⟩ s16 z16 e16
    rw [List.length_map, List.take_length] at hD
    have pd : (us.map fun k => (k, lookK kn k)).Perm kn := perm_look pm2' fun q hq => lookK_of hB.gk.nd hq
    generalize hdn : (us.map fun k => (k, lookK kn k)) = dn at hD pd
    have gkd := goodK_perm pd hB.gk
    repeat (walk_at "z")
    refine z_dictP z16 (SqL.of e16) (prs_up hps2 s16) fun dd H17 z17 => ?_
    rw [mergeK_nd (by rw [List.nil_append, hD.keys]; exact inr_nodup gkd.nd), List.nil_append] at z17
    refine z_frzL z17 fun G18 H18 z18 s18' f18 => ?_
    have z18 : Zp G18 (((p, o11) :: ls) ++ [(dg, .dK kvs)]) H18 := z18
    have ndg : G18 dg = none := (z18.own ((p, o11) :: ls).length _ _ last_at).2
    have s1218 := s15.trans (s16.trans s18')
    have ndl : (ls.map (·.1)).Nodup := by
      have := z18.nd
      rw [List.map_append, List.map_cons, List.nodup_append] at this
      exact (List.nodup_cons.mp this.1).2
    -- the book
    repeat (walk_at "z")
    refine z_lockE z18 fun od H19 z19 => ?_
    have s19 : Same G18 (upd G18 dg (.frz od (.dK kvs))) := Same.new ndg
    have f19 : upd G18 dg (HO.frz od (.dK kvs)) dg = some (.frz od (.dK kvs)) := upd_same
    generalize upd G18 dg (HO.frz od (.dK kvs)) = G19 at z19 s19 f19
    obtain ⟨G20, z20, s20, h20, n20⟩ := Zp.fixs (M := []) (show Zp G19 ((p, o11) :: (ls ++ [])) H19 from by rw [List.append_nil]; exact z19)
    repeat (walk_at "z")
    refine z_mkI z20 rfl rfl fun x dx H21 z21 s21 => ?_
    have s1821 := s19.trans (s20.trans s21)
    have s821 := s812.trans (s1218.trans s1821)
    refine ⟨_, [(p, o11)], x, dx, dd, dg, vp, kvd, dn, kvs, tg, pl, rfl, z21, f18.up s1821, hD.kds (fun e he => s21 _ _ (h20 e he)), gkd, ⟨od, s21 _ _ (s20 _ _ f19)⟩, hkv.up s821, gtg, need_perm pg hB.nd, hB.pv pg (hd.up (s18.trans s821)), fun fs G22 H22 z22 s22 h22 => ⟨rfl, ?_⟩⟩
    have s23 : Same G22 (upd G22 x (.ins CB dx fs)) := Same.new (z22.own 1 _ _ rfl).2
    have f23 : upd G22 x (HO.ins CB dx fs) x = some (.ins CB dx fs) := upd_same
    have z23 : Zp (upd G22 x (.ins CB dx fs)) [(p, o11)] H22 := Zp.fix (M := [(p, o11)]) z22
    have h23 := h22.up s23
    generalize upd G22 x (HO.ins CB dx fs) = G23 at z23 s23 f23 h23
    have s2023 := s21.trans (s22.trans s23)
    have hdg := s2023 _ _ (s20 _ _ f19)
    have hlg := fun e he => s2023 _ _ (h20 e he)
    have hlst : ∀ e ∈ ls, ∃ xs, e.2 = .lst xs := fun e he => let ⟨xs, h, _⟩ := hls e he; ⟨xs, h⟩
    refine ⟨z23.sub _ _ hdg, ?_⟩
    obtain ⟨G25, z25, keep⟩ := keep_out z23 hdg hlg hlst ndl
    have s1223 := s1218.trans (s19.trans (s20.trans s2023))
    have ndl12 : ∀ e ∈ ls, G12 e.1 = none := fun e he => none_of (s1218.trans s19) (n20 e he)
    have s1225 : Same G12 G25 := fun b o e => keep b o (s1223 _ _ e) (fun c => by rw [c, none_of s1218 ndg] at e; cases e) (fun hm => by
      obtain ⟨e', he', c⟩ := List.mem_map.mp hm
      rw [← c, ndl12 e' he'] at e
      cases e)
    have hBk : BkI K G25 C CB x ⟨ordK dn, ordT tg, nf pl⟩ := by
      have notl : ∀ {b : Addr} {o : HO}, G23 b = some o → (∀ xs, o ≠ .lst xs) → b ∉ ls.map (·.1) := fun {b o} e n hm => by
        obtain ⟨e', he', c⟩ := List.mem_map.mp hm
        obtain ⟨xs, hx⟩ := hlst e' he'
        rw [← c, hlg e' he', hx] at e
        exact n xs (Option.some.inj e).symm
      refine BkF.at_ (BkN.out (dg := dg) h23 (by rw [s21 _ _ (s20 _ _ f19)]; exact fun z => by cases z) (fun b o e n1 n2 => keep b o e n2 (notl e n1)) (fun xs r => ?_) (fun D dx fs c => ?_)) (keep _ _ f23 (fun c => by rw [c, hdg] at f23; cases f23) (notl f23 fun xs c => nomatch c))
      · rcases r with r | ⟨_, r⟩
        · rw [hdg] at r; cases r
        · rw [hdg] at r; cases r
      · rw [hdg] at c; cases c
    obtain ⟨od2, f18'⟩ := f18
    have fdd : FzD G25 dd kvd := ⟨od2, keep _ _ ((s1821.trans (s22.trans s23)) _ _ f18') (fun c => by rw [c, ndg] at f18'; cases f18') (fun hm => by
      obtain ⟨e', he', c⟩ := List.mem_map.mp hm
      rw [← c, none_of s19 (n20 e' he')] at f18'
      cases f18')⟩
    have sG := s112.trans s1225
    have hp25 := (hp11.up (s12.trans s1225)).mono (c := b + 700) (by omega)
    have fk := fk.up sG
    have hK := hK.up sG
    have ft := ft.up sG
    have hT := hT.up sG
    have hd := hd.up sG
    have hdk : (kvd.map (·.1)).Nodup := by rw [hD.keys]; exact inr_nodup gkd.nd
    have kdl : kvd.length = dn.length := keys_len hD
    rw [ordK_congr pd gkd.nd, ordT_congr pg gtg.nd] at hBk
    generalize upd H22 dg (HO.dK kvs) = H25 at z25 ⊢
    clear z1 z2 z3 z4 z8 z9 z10 z11 z12 z16 z17 z18 z19 z20 z21 z22 z23 h22 h23 hp1 hp3 hp8 hp11 e1 e2 e4 e8 e10 e12 e16 hps hps2 pm pm2 hlg hdg keep f23 f19 h20 n20 ndl12 f18' hkv
    obtain ⟨od3, fdd⟩ := fdd
    repeat (walk_at "z")
    refine z_itK z25 fdd ?_
    refine for_src src_K (fun i σ G' M' => ∃ ls' k6 k7 k8 k9 k10 k14, M' = (p, o11) :: (dg, .dK kvs) :: ls' ∧ G' = G25 ∧ ls'.map (·.1) = ls.map (·.1) ∧ (∀ e ∈ ls', ∃ xs : List V, e.2 = .lst xs ∧ xs.length ≤ 4 + i) ∧ σ = [some (.ref a), some (.ref p), some lap, some (.ref dg), some (.ref dd), some (.ref x), k6, k7, k8, k9, k10, some (.ref dk), some (.ref dt), some vp, k14]) z25 ⟨ls, _, _, _, _, _, _, rfl, rfl, rfl, hls, rfl⟩ (fun i σ G' M' H' ⟨_, _, _, _, _, _, _, _, e, _⟩ z' => z'.sub _ _ (e ▸ fdd)) ?_ ?_
    · rintro j y σ G' M' H' hy ⟨ls', k6, k7, k8, k9, k10, k14, rfl, rfl, hkeys, hls', rfl⟩ z'
      have hj : j < kvd.length := by
        have := (List.getElem?_eq_some_iff.mp hy).1
        simpa using this
      obtain ⟨pr, hpr, rfl⟩ := key_at hy
      obtain ⟨⟨pk, pv'⟩, ⟨qk, qr⟩, h1, h2, hpk, a2, hpv, ha2⟩ := pair_at hD (i := j) hj
      have hpk : pk = .inr qk := hpk
      have hpv : pv' = .ref a2 := hpv
      subst hpk hpv
      rw [h1] at hpr
      obtain rfl := Option.some.inj hpr
      obtain ⟨e2, he2, hea⟩ : ∃ e ∈ ls', e.1 = a2 := by
        have hm : a2 ∈ ls'.map (·.1) := by rw [hkeys]; exact List.mem_map.mpr ⟨_, ha2, rfl⟩
        obtain ⟨e, he, h⟩ := List.mem_map.mp hm
        exact ⟨e, he, h⟩
      obtain ⟨j3, hj3⟩ := List.getElem?_of_mem he2
      obtain ⟨xs, hx2, hxl⟩ := hls' e2 he2
      obtain ⟨e21, e22⟩ := e2
      have hea : e21 = a2 := hea
      have hx2 : e22 = .lst xs := hx2
      subst hea hx2
      have hM : ((p, o11) :: (dg, HO.dK kvs) :: ls')[j3 + 2]? = some (e21, .lst xs) := hj3
      repeat (walk_at "z")
      refine z_dgS z' ⟨od3, fdd⟩ (valV_ix hdk h1) ?_
      repeat (walk_at "z")
      refine z_tyO z' (j3 + 2) hM ?_
      repeat (walk_at "z")
      refine z_append z' (j3 + 2) hM (by have := gkd.l3; omega) fun H'' z'' => ?_
      repeat (walk_at "z")
      refine ⟨G', _, z'', ls'.set j3 (e21, .lst (xs ++ [.str "zzzzzzzz"])), _, _, _, _, _, _, rfl, rfl, by rw [set_keys hj3]; exact hkeys, fun e he => ?_, rfl⟩
      rcases List.mem_or_eq_of_mem_set he with he | rfl
      · obtain ⟨ys, h5, h6⟩ := hls' e he
        exact ⟨ys, h5, by omega⟩
      · exact ⟨_, rfl, by rw [List.length_append]; simp; omega⟩
    rintro σ G' M' H' ⟨ls', k6, k7, k8, k9, k10, k14, rfl, rfl, hkeys, hls', rfl⟩ z26
    repeat (walk_at "z")
    refine ⟨.inr (.inr (.inl ⟨rfl, .inl ⟨kvs, z26.at_ 1 rfl⟩⟩)), dg, kvs, rfl, rfl, z26.at_ 1 rfl, ?_⟩
    have z27 := (z26.put 1 rfl (.dK [])).keep (M1 := [(p, o11)]) (.cons_cons _ (List.nil_sublist _))
    generalize upd H' dg (HO.dK []) = H27 at z27 ⊢
    clear z26 z25 hls hls' hkeys ndl hlst hD pd pg gkd gtg
    -- what is due
    repeat (walk_at "z")
    refine z_anyL ?_
    repeat (walk_at "z")
    refine z_sortD z27 fk hK.keys hB.gk.nd (by rw [List.length_map]; omega) fun l28 G28 H28 z28 s28 e28 => ?_
    refine z_itL z28 (SqL.of e28) ?_
    refine lc_src src_L (fun i G' M' acc => M' = [(p, o11)] ∧ Same G28 G' ∧ ∃ ps kvx, acc = ps.map V.ref ∧ Paired (fun p (kv : Key × V) => SqT K G' p [kV kv.1, kv.2]) ps kvx ∧ Kdt K G' kvx ((ordK kn).take i)) z28 ⟨rfl, Same.refl _, [], [], rfl, .nil, .nil⟩ (fun i G' M' M1 acc H' ⟨_, s', _⟩ z' => z'.seqL (upL s' (SqL.of e28))) ?_ ?_
    · rintro j y G' M' acc Dl H' hy ⟨rfl, s', ps, kvx, rfl, hps, hkx⟩ z'
      rw [List.getElem?_map] at hy
      obtain ⟨nm, hnm, rfl⟩ := Option.map_eq_some_iff.mp hy
      have hm : nm ∈ kn.map (·.1) := asc_mem.mp (List.mem_of_getElem? hnm)
      obtain ⟨j2, rs, hj⟩ := find_at hm
      have hj2 := (List.getElem?_eq_some_iff.mp hj).1
      obtain ⟨⟨pk, pv'⟩, ⟨qk, qr⟩, h1, h2, hpk, aw, hpv, haw⟩ := pair_at hK (i := j2) (by omega)
      rw [hj] at h2
      obtain ⟨rfl, rfl⟩ : nm = qk ∧ rs = qr := by simpa using h2
      have hpk : pk = .inr nm := hpk
      have hpv : pv' = .ref aw := hpv
      subst hpk hpv
      have hlk : lookK kn nm = rs := lookK_of hB.gk.nd (List.mem_of_getElem? hj)
      obtain ⟨hr4, hrn, _⟩ := hB.gk.rs (nm, rs) (List.mem_of_getElem? hj)
      have hr4 : rs.length ≤ 4 := hr4
      have hpl : ps.length ≤ 8 := by
        have e1 := Paired.length hps
        have e2 := keys_len hkx
        have e3 : (ordK kn).length ≤ kn.length := by unfold ordK; rw [List.length_map]; have := asc_len_le (kn.map (·.1)); rw [List.length_map] at this; exact this
        rw [List.length_take] at e2
        omega
      repeat (walk_at "z")
      refine ⟨by rfl, ?_⟩
      repeat (walk_at "z")
      refine z_dgS z' (fk.up (s28.trans s')) (valV_ix hkk h1) ?_
      repeat (walk_at "z")
      refine z_sortN z' (SqL.of ((s28.trans s') _ _ haw)) hrn (by omega) fun l3 G3 H3 z3 s3 e3 => ?_
      repeat (walk_at "z")
      refine z_tupL z3 (SqL.of e3) fun p4 G4 H4 z4 s4 e4 => ?_
      repeat (walk_at "z")
      refine z_newT z4 (by simp) fun q6 G6 H6 z6 s6 e6 => ?_
      have s36 := s3.trans (s4.trans s6)
      refine z_laid (M := [(p, o11)]) z6 (by rw [List.length_map]; omega) ⟨rfl, s'.trans s36, ps ++ [q6], kvx ++ [(.inr nm, .ref p4)], by rw [List.map_append]; rfl, paired_snoc (R := fun p (kv : Key × V) => SqT K G6 p [kV kv.1, kv.2]) (SqT.of e6) (prs_up hps s36), ?_⟩
      have hoi : (ordK kn)[j]? = some (nm, asc rs) := by
        unfold ordK
        rw [List.getElem?_map, hnm, Option.map_some, hlk]
      rw [List.take_add_one, hoi]
      exact paired_snoc ⟨rfl, p4, rfl, upT s6 e4⟩ (hkx.up s36)
    rintro p29 G29 M29 acc G30 H30 ⟨rfl, s29, ps, kvx, rfl, hps, hkx⟩ s30 z30 e30
    rw [List.length_map] at hkx
    have eo : (ordK kn).length = (asc (kn.map (·.1))).length := by unfold ordK; rw [List.length_map]
    rw [← eo, List.take_length] at hkx
    have gko := goodK_ord hB.gk
    repeat (walk_at "z")
    refine z_dictP z30 (SqL.of e30) (prs_up hps s30) fun d31 H31 z31 => ?_
    rw [mergeK_nd (by rw [List.nil_append, paired_keys (fun _ _ h => h.1) hkx]; exact inr_nodup gko.nd), List.nil_append] at z31
    refine z_frzL z31 fun G32 H32 z32 s32 f32 => ?_
    have hkx := hkx.up (s30.trans s32)
    have s2532 := s28.trans (s29.trans (s30.trans s32))
    have ftn := hT.keys
    repeat (walk_at "z")
    refine z_sortD z32 (ft.up s2532) ftn hB.gt.nd (by rw [List.length_map]; omega) fun l33 G33 H33 z33 s33 e33 => ?_
    repeat (walk_at "z")
    refine z_tupL z33 (SqL.of e33) fun t34 G34 H34 z34 s34 e34 => ?_
    repeat (walk_at "z")
    refine z_newL z34 (by simp) fun l35 G35 H35 z35 s35 e35 => ?_
    have s2535 := s2532.trans (s33.trans (s34.trans s35))
    have cl := hB.nd.cl
    repeat (walk_at "z")
    refine ⟨G35, _, dt, kt, tn, rfl, z35, ft.up s2535, hT.up s2535, hB.gt.nd, cl, fun r36 G36 H36 z36 s36 e36 => ?_⟩
    repeat (walk_at "z")
    have s2536 := s2535.trans s36
    refine ⟨G36, _, dt, kt, tn, rfl, z36, ft.up s2536, hT.up s2536, hB.gt.nd, cl, by omega, fun G37 H37 z37 s37 => ?_⟩
    repeat (walk_at "z")
    have s2537 := s2536.trans s37
    have dp4 := hB.dp
    have sz85 := hB.sz
    refine ⟨G37, _, vp, pl, false, rfl, z37, hd.up s2537, hB.ok, by omega, by omega, by omega, fun v38 G38 H38 z38 s38 d38 => ?_⟩
    repeat (walk_at "z")
    refine z_newL z38 (by simp) fun l39 G39 H39 z39 s39 e39 => ?_
    have s3539 := s36.trans (s37.trans (s38.trans s39))
    refine z_addL z39 (s3539 _ _ e35) e39 (by simp) fun due G40 H40 z40 s40 e40 => ?_
    have e40 : G40 due = some (.lst [.ref d31, .ref t34, .ref r36, .int (widP tn), v38]) := e40
    have s3540 := s3539.trans s40
    have s2540 := s2535.trans s3540
    have f40 := f32.up (s33.trans (s34.trans (s35.trans s3540)))
    have hkx := hkx.up (s33.trans (s34.trans (s35.trans s3540)))
    have dDue : Dt K G40 (.ref due) (dueD7 (ordK kn) tn (nf pl)) := dt_due (SqL.of e40) (FzD.rdG f40) hkx (dt_strs (upT (s35.trans s3540) e34)) (dt_strs (upT (s37.trans (s38.trans (s39.trans s40))) e36)) (d38.up (s39.trans s40))
    have hBk := hBk.up s2540
    have hp40 := hp25.up s2540
    have fk := fk.up s2540
    have hK := hK.up s2540
    have ft := ft.up s2540
    have hT := hT.up s2540
    have hd := hd.up s2540
    clear z27 z28 z30 z31 z32 z33 z34 z35 z36 z37 z38 z39 e28 e30 e33 e34 e35 e36 e39 hps f32 hp25 d38
    obtain ⟨dx0, vp0, dk0, dt0, kk0, kt0, hx0, _⟩ := id hBk
    -- the kinds told
    repeat (walk_at "z")
    refine z_prI z40 hx0 ?_
    refine ⟨G40, _, x, _, rfl, z40, hBk, fun pt kt2 H41 z41 hk2 => ?_⟩
    have z41 : Zp G40 [(p, o11), (pt, .dK kt2)] H41 := z41
    repeat (walk_at "z")
    have pT := ordT_perm hB.gt.nd
    have clO : (condL (ordT tn)).length < 64 := (need_ord hB.gt.nd hB.nd).cl
    have lnO : (ordT tn).length = tn.length := pT.length_eq
    have gB := hB.good (nf pl)
    have dueD := due_dep (kn := ordK kn) (tn := tn) (p := nf pl) (by have := nf_dp pl; omega)
    refine z_prI z41 hx0 ?_
    refine ⟨G40, _, x, _, rfl, z41, hBk, fun n42 G42 H42 z42 s42 e42 => ?_⟩
    repeat (walk_at "z")
    refine z_prI z42 (s42 _ _ hx0) ?_
    refine ⟨G42, _, x, _, rfl, z42, hBk.up s42, clO, fun r43 G43 H43 z43 s43 e43 => ?_⟩
    repeat (walk_at "z")
    refine z_prI z43 ((s42.trans s43) _ _ hx0) ?_
    refine ⟨G43, _, x, _, rfl, z43, hBk.up (s42.trans s43), clO, by show (ordT tn).length ≤ 1000; omega, fun G44 H44 z44 s44 => ?_⟩
    have s4044 := s42.trans (s43.trans s44)
    repeat (walk_at "z")
    refine z_prI z44 (s4044 _ _ hx0) ?_
    refine ⟨G44, _, x, _, rfl, z44, hBk.up s4044, fun v45 hp45 => ?_⟩
    repeat (walk_at "z")
    refine z_newL z44 (by simp) fun l46 G46 H46 z46 s46 e46 => ?_
    have e42 : SqT K G42 n42 (((ordT tn).map (·.1)).map V.str) := e42
    have e43 : SqT K G43 r43 ((remP (ordT tn)).map V.str) := e43
    have e46 : G46 l46 = some (.lst [.ref pt, .ref n42, .ref r43, .int (widP (ordT tn)), v45]) := e46
    rw [ordT_keys] at e42
    rw [rem_perm pT] at e43
    rw [wid_perm pT] at e46
    have s4046 := s4044.trans s46
    repeat (walk_at "z")
    refine z_reprM (d := dueD7 (ordK kn) tn (nf pl)) (dt_due (z46.seqL (SqL.of e46)) (.inl (z46.at_ 1 rfl)) ((hk2.up s4046).up z46.sub) (((dt_strs e42).up (s43.trans (s44.trans s46))).up z46.sub) (((dt_strs e43).up (s44.trans s46)).up z46.sub) ((hp45.dt.up s46).up z46.sub)) hB.shw dueD ?_
    repeat (walk_at "z")
    refine z_reprM ((dDue.up s4046).up z46.sub) hB.shw dueD ?_
    refine z_neS rfl ?_
    rw [decide_eq_true rfl]
    repeat (walk_at "z")
    refine ⟨x, dx0, _, rfl, z46.sub _ _ (s4046 _ _ hx0), G46, _, x, _, rfl, z46, hBk.up s4046, (ordT tn).length, rfl, by omega, ?_⟩
    repeat (walk_at "z")
    refine z_lenD z46 (ft.up s4046) ?_
    refine z_neS rfl ?_
    rw [lnO, ktl, decide_eq_true rfl]
    repeat (walk_at "z")
    refine z_newT z46 (by simp) fun e47 G47 H47 z47 s47 f47 => ?_
    repeat (walk_at "z")
    refine z_dputG z47 1 rfl (by have e1 := keys_len hk2; have e2 := (goodK_ord hB.gk).l3; have e1 : kt2.length = (ordK kn).length := e1; omega) fun H48 z48 => ?_
    have z48 : Zp G47 [(p, o11)] H48 := z48.keep (.cons_cons _ (List.nil_sublist _))
    have s4047 := s4046.trans s47
    clear z41 z42 z43 z44 z46 z47 hk2 hp45 e46 e42 e43
    repeat (walk_at "z")
    refine z_prI z48 (s4047 _ _ hx0) ?_
    refine ⟨G47, _, x, _, rfl, z48, hBk.up s4047, fun pt3 kt3 H49 z49 hk3 => ?_⟩
    have z49 : Zp G47 [(p, o11), (pt3, .dK kt3)] H49 := z49
    repeat (walk_at "z")
    refine z_reprM (d := kindsD (ordK kn)) (dt_kinds (.inl (z49.at_ 1 rfl)) (hk3.up z49.sub)) hB.kshw (Nat.le_trans (kinds_dep _) (by decide)) ?_
    repeat (walk_at "z")
    refine z_ixL z49 (SqL.of (s4047 _ _ e40)) at_zero ?_
    repeat (walk_at "z")
    refine z_reprM (d := kindsD (ordK kn)) (((dt_kinds (FzD.rdG f40) hkx).up s4047).up z49.sub) hB.kshw (Nat.le_trans (kinds_dep _) (by decide)) ?_
    refine z_neS rfl ?_
    rw [decide_eq_true rfl]
    repeat (walk_at "z")
    refine z_mtI z49 (s4047 _ _ hx0) (by rfl) ?_
    repeat (walk_at "z")
    refine ⟨G47, _, x, _, rfl, z49, hBk.up s4047, goodK_ord hB.gk, goodT_ord hB.gt, need_ord hB.gt.nd hB.nd, fun y50 G50 H50 z50 s50 hB50 => ?_⟩
    have hB50 : BkI K G50 C CB y50 ⟨ordK (ordK kn), ordT (ordT tn), nf (nf pl)⟩ := hB50
    rw [ordK_idem hB.gk.nd, ordT_idem hB.gt.nd, nf_nf hB.ok] at hB50
    have s4050 := s4047.trans s50
    refine ne_bkL L.bt z50 (hBk.up s4050) hB50 gB fun G51 H51 z51 s51 => ?_
    have s4051 := s4050.trans s51
    repeat (walk_at "z")
    refine eq_bkL z51 (hBk.up s4051) (dDue.up s4051) ((dDue.up s4051).up z51.sub).ty (nf_own K CB _) ?_
    repeat (walk_at "z")
    have z51 : Zp G51 [(p, o11)] H51 := z51.keep (.cons_cons _ (List.nil_sublist _))
    have hBk := hBk.up s4051
    have hp51 := hp40.up s4051
    have fk := fk.up s4051
    have hK := hK.up s4051
    have ft := ft.up s4051
    have hT := hT.up s4051
    have hd := hd.up s4051
    have hx0 := s4051 _ _ hx0
    clear z48 z49 z50 hk3 hB50 hp40 dDue f40 hkx e40
    have sOk := hB.strOk
    have ndO : ((ordT tn).map (·.1)).Nodup := by rw [ordT_keys]; exact asc_nodup _
    -- items
    refine z_anyL ?_
    repeat (walk_at "z")
    refine z_sortD z51 ft hT.keys hB.gt.nd (by rw [List.length_map]; omega) fun l52 G52 H52 z52 s52 e52 => ?_
    refine z_itL z52 (SqL.of e52) ?_
    have hasl := asc_len_le (tn.map (·.1))
    rw [List.length_map] at hasl
    refine lc_src src_L (fun i G' M' acc => M' = [(p, o11)] ∧ Same G52 G' ∧ Dts K G' acc (((asc (tn.map (·.1))).take i).map fun k => plainP (lookT tn k))) z52 ⟨rfl, Same.refl _, .nil⟩ (fun i G' M' M1 acc H' ⟨_, s', _⟩ z' => z'.seqL (upL s' (SqL.of e52))) ?_ ?_
    · rintro j y G' M' acc Dl H' hy ⟨rfl, s', hA⟩ z'
      rw [List.getElem?_map] at hy
      obtain ⟨nm, hnm, rfl⟩ := Option.map_eq_some_iff.mp hy
      have hm : nm ∈ tn.map (·.1) := asc_mem.mp (List.mem_of_getElem? hnm)
      have hmt := lookT_mem hm hB.gt.nd
      have hmo : (nm, lookT tn nm) ∈ ordT tn := pT.mem_iff.mpr hmt
      have hal := hA.len (ds := [])
      rw [List.length_map, List.length_take] at hal
      repeat (walk_at "z")
      refine ⟨by rfl, ?_⟩
      repeat (walk_at "z")
      refine ⟨G', _, x, _, .str nm, .str nm, rfl, z', hBk.up (s52.trans s'), .str nm, okv_wd (hB.wt _ hmt), sOk, ndO, fun nm' t e hm' p3 G3 H3 z3 s3 d3 => ?_, fun hh => ?_⟩
      · obtain rfl : nm = nm' := PyData.str.inj e
        obtain rfl : lookT tn nm = t := lookT_of hB.gt.nd (pT.mem_iff.mp hm')
        refine z_laid (M := [(p, o11)]) z3 (by omega) ⟨rfl, s'.trans s3, ?_⟩
        rw [List.take_add_one, hnm, List.map_append]
        exact (hA.up s3).snoc d3
      · have hh : decide (nm ∈ (ordT tn).map (·.1)) = false := hh
        rw [decide_eq_true (List.mem_map.mpr ⟨_, hmo, rfl⟩)] at hh
        cases hh
    rintro p53 G53 M53 acc1 G54 H54 ⟨rfl, s53, hA1⟩ s54 z54 e54
    rw [List.length_map, List.take_length] at hA1
    have hA1 := hA1.up s54
    have s5154 := s52.trans (s53.trans s54)
    repeat (walk_at "z")
    refine z_anyL ?_
    repeat (walk_at "z")
    refine z_sortD z54 (ft.up s5154) hT.keys hB.gt.nd (by rw [List.length_map]; omega) fun l55 G55 H55 z55 s55 e55 => ?_
    refine z_itL z55 (SqL.of e55) ?_
    refine lc_src src_L (fun i G' M' acc => M' = [(p, o11)] ∧ Same G55 G' ∧ Dts K G' acc (((asc (tn.map (·.1))).take i).map fun k => plainP (lookT tn k))) z55 ⟨rfl, Same.refl _, .nil⟩ (fun i G' M' M1 acc H' ⟨_, s', _⟩ z' => z'.seqL (upL s' (SqL.of e55))) ?_ ?_
    · rintro j y G' M' acc Dl H' hy ⟨rfl, s', hA⟩ z'
      rw [List.getElem?_map] at hy
      obtain ⟨nm, hnm, rfl⟩ := Option.map_eq_some_iff.mp hy
      have hm : nm ∈ tn.map (·.1) := asc_mem.mp (List.mem_of_getElem? hnm)
      obtain ⟨j2, t, hj⟩ := find_at hm
      have hj2 := (List.getElem?_eq_some_iff.mp hj).1
      obtain ⟨nm2, t2, at', h1, h2, h3⟩ := pts_at hT (i := j2) (by omega)
      rw [hj] at h2
      obtain ⟨rfl, rfl⟩ : nm = nm2 ∧ t = t2 := by simpa using h2
      have hlt : lookT tn nm = t := lookT_of hB.gt.nd (List.mem_of_getElem? hj)
      have hal := hA.len (ds := [])
      rw [List.length_map, List.length_take] at hal
      repeat (walk_at "z")
      refine ⟨by rfl, ?_⟩
      repeat (walk_at "z")
      refine z_dgS z' (ft.up (s5154.trans (s55.trans s'))) (valV_ix hkt h1) ?_
      refine z_laid (M := [(p, o11)]) z' (by omega) ⟨rfl, s', ?_⟩
      rw [List.take_add_one, hnm, List.map_append]
      refine hA.snoc ?_
      show Dt K G' (.ref at') (plainP (lookT tn nm))
      rw [hlt]
      exact h3.up (s5154.trans (s55.trans s'))
    rintro p56 G56 M56 acc2 G57 H57 ⟨rfl, s56, hA2⟩ s57 z57 e57
    rw [List.length_map, List.take_length] at hA2
    have hA2 := hA2.up s57
    have s5457 := s55.trans (s56.trans s57)
    have s5157 := s5154.trans s5457
    have shP : SeqAt.shaped (.list ((asc (tn.map (·.1))).map fun k => plainP (lookT tn k))) = true := by
      have e : ((asc (tn.map (·.1))).map fun k => plainP (lookT tn k)) = ((asc (tn.map (·.1))).map (lookT tn)).map plainP := by rw [List.map_map]; rfl
      rw [e]
      exact shaped_plains fun t ht => by
        obtain ⟨k, hk, rfl⟩ := List.mem_map.mp ht
        exact hB.pt _ (lookT_mem (asc_mem.mp hk) hB.gt.nd)
    refine z_neD z57 (.lst (SqL.of (s5457 _ _ e54)) (hA1.up s5457)) (.lst (SqL.of e57) hA2) shP shP ?_
    rw [SeqAt.eqv_refl _ (SeqAt.canLay_of_shaped shP)]
    have hBk := hBk.up s5157
    have hp57 := hp51.up s5157
    have fk := fk.up s5157
    have hK := hK.up s5157
    have ft := ft.up s5157
    have hT := hT.up s5157
    have hd := hd.up s5157
    have hx0 := s5157 _ _ hx0
    clear z51 z52 z54 z55 e52 e54 e55 e57 hA1 hA2 hp51
    -- any value
    repeat (walk_at "z")
    refine ⟨p, o11, G57, [], b + 700, rfl, z57, hp57, by omega, fun v60 d60 G60 H60 o60 z60 s60 hp60 hd60 hm60 => ?_⟩
    have hBk := hBk.up s60
    have fk := fk.up s60
    have hK := hK.up s60
    have ft := ft.up s60
    have hT := hT.up s60
    have hd := hd.up s60
    have hx0 := s60 _ _ hx0
    have hhc : hitD d60 ((ordT tn).map (·.1)) = hitD d60 (tn.map (·.1)) := hit_congr fun x => by rw [ordT_keys, asc_mem]
    clear z57 hp57
    repeat (walk_at "y")
    with_reducible refine z_cut (fun σ H => ∃ k6 k7 k8 k14, H = H60 ∧ σ = [some (.ref a), some (.ref p), some lap, some (.ref dg), some (.ref dd), some (.ref x), k6, k7, k8, some v60, some (.bl (hitD d60 (tn.map (·.1)))), some (.ref dk), some (.ref dt), some vp, k14]) (fun nx hnx => ?_) (fun σ H61 h61 => ?_)
    · repeat (walk_at "z")
      refine z_isi (.ty "str") (hd60.up z60.sub).ty (kit_ty (kit_str d60)) ?_
      clear hm60 hhc
      cases hd60 with
      | str t =>
        repeat (walk_at "z")
        refine z_bT' rfl ?_
        repeat (walk_at "z")
        refine z_diF (k := .inr t) z60 ft ?_
        rw [if_neg (by decide), hit_valV hT.keys]
        repeat (walk_at "z")
        exact hnx _ _ ⟨_, _, _, _, rfl, rfl⟩
      | _ =>
        repeat (walk_at "z")
        refine z_bF' rfl ?_
        repeat (walk_at "z")
        exact hnx _ _ ⟨_, _, _, _, rfl, rfl⟩
    obtain ⟨k6, k7, k8, k14, rfl, rfl⟩ := h61
    repeat (walk_at "z")
    refine ⟨x, dx0, _, rfl, z60.sub _ _ hx0, G60, _, x, _, v60, d60, rfl, z60, hBk, hd60, _, rfl, ?_⟩
    rw [Bool.false_xor]
    have hhc' : hitD d60 (List.map (fun x => x.1) (BkD.tasks ⟨ordK kn, ordT tn, nf pl⟩)) = hitD d60 (tn.map (·.1)) := hhc
    rw [hhc']
    repeat (walk_at "z")
    refine z_reprM (.bl _) (shw_bool _) (Nat.zero_le _) ?_
    repeat (walk_at "z")
    refine z_reprM (.bl _) (shw_bool _) (Nat.zero_le _) ?_
    refine z_neS rfl ?_
    rw [decide_eq_true rfl]
    repeat (walk_at "z")
    obtain ⟨odt, eft⟩ := id ft
    refine z_itK z60 eft ?_
    refine lc_src src_K (fun i G' M' acc => M' = [(p, o60)] ∧ Same G60 G' ∧ acc = []) z60 ⟨rfl, Same.refl _, rfl⟩ (fun i G' M' M1 acc H' ⟨_, s', _⟩ z' => z'.sub _ _ (s' _ _ eft)) ?_ ?_
    · rintro j y G' M' acc Dl H' hy ⟨rfl, s', rfl⟩ z'
      have hj : j < kt.length := by
        have := (List.getElem?_eq_some_iff.mp hy).1
        simpa using this
      obtain ⟨nm, t, at', h1, h2, h3⟩ := pts_at hT hj
      obtain ⟨pr, hpr, rfl⟩ := key_at hy
      rw [h1] at hpr
      obtain rfl := Option.some.inj hpr
      repeat (walk_at "z")
      refine ⟨by rfl, ?_⟩
      repeat (walk_at "z")
      refine ⟨x, dx0, _, rfl, z'.sub _ _ (s' _ _ hx0), G', _, x, _, .str nm, .str nm, rfl, z', hBk.up s', .str nm, _, rfl, ?_⟩
      have hin : hitD (.str nm) (List.map (fun x => x.1) (BkD.tasks ⟨ordK kn, ordT tn, nf pl⟩)) = true := by
        show decide (nm ∈ (ordT tn).map (·.1)) = true
        rw [ordT_keys]
        exact decide_eq_true (asc_mem.mpr (List.mem_map.mpr ⟨(nm, t), List.mem_of_getElem? h2, rfl⟩))
      rw [hin]
      repeat (walk_at "z")
      exact z_left (M := [(p, o60)]) z' ⟨rfl, s', rfl⟩
    rintro p62 G62 M62 acc G63 H63 ⟨rfl, s62, rfl⟩ s63 z63 e63
    repeat (walk_at "z")
    refine z_newL z63 (by simp) fun l64 G64 H64 z64 s64 e64 => ?_
    refine z_neNil (z64.seqL (upL s64 (SqL.of e63))) (z64.sub _ _ e64) ?_
    repeat (walk_at "z")
    refine z_bF' (decide_eq_false (fun h => absurd (show ([] : List V) = [] from rfl) h)) ?_
    have s6064 := s62.trans (s63.trans s64)
    have hBk := hBk.up s6064
    have hp64 := hp60.up s6064
    have fk := fk.up s6064
    have hK := hK.up s6064
    have ft := ft.up s6064
    have hT := hT.up s6064
    have hd := hd.up s6064
    have hd64 := hd60.up s6064
    clear z60 z63 e63 e64 eft hp60 hd60
    repeat (walk_at "y")
    with_reducible refine z_cut (fun σ H => ∃ G1 k6 k7 k8 k14, Zp G1 [(p, o60)] H ∧ Same G64 G1 ∧ σ = [some (.ref a), some (.ref p), some lap, some (.ref dg), some (.ref dd), some (.ref x), k6, k7, k8, some v60, some (.bl (hitD d60 (tn.map (·.1)))), some (.ref dk), some (.ref dt), some vp, k14]) (fun nx hnx => ?_) (fun σ H65 h65 => ?_)
    · repeat (walk_at "z")
      cases hh : hitD d60 (tn.map (·.1)) with
      | true =>
        repeat (walk_at "z")
        exact hnx _ _ ⟨G64, _, _, _, _, z64, Same.refl _, by rw [hh]⟩
      | false =>
        have ov := any_okv _ hm60
        repeat (walk_at "z")
        refine ⟨G64, _, x, _, v60, d60, rfl, z64, hBk, hd64, ov, sOk, ndO, fun nm t e hm => ?_, fun _ p3 G3 H3 z3 s3 e3 => ?_⟩
        · exfalso
          rw [e] at hhc
          have h1 : hitD (.str nm) ((ordT tn).map (·.1)) = true := decide_eq_true (List.mem_map.mpr ⟨_, hm, rfl⟩)
          rw [h1, ← e, hh] at hhc
          cases hhc
        repeat (walk_at "z")
        refine z_repr z3 (hd64.up s3) ov.s1 ov.s2 ov.s3 ?_
        repeat (walk_at "z")
        refine z_newT z3 (by simp) fun q4 G4 H4 z4 s4 e4 => ?_
        have shU := shaped_unk (any_sho _ hm60)
        have dU : ∀ {G : Hp} {a : Addr}, SqT K G a [.str "unknown", .str d60.shown, .bl true] → Dt K G (.ref a) (.tuple [.str "unknown", .str d60.shown, .bool true]) := fun h => .tup h (.cons (.str _) (.cons (.str _) (.cons (.bl _) .nil)))
        refine z_neD z4 (dU (upT s4 e3)) (dU (SqT.of e4)) shU shU ?_
        rw [SeqAt.eqv_refl _ (SeqAt.canLay_of_shaped shU)]
        repeat (walk_at "z")
        exact hnx _ _ ⟨G4, _, _, _, _, z4, s3.trans s4, by rw [hh]⟩
    obtain ⟨G65, k6, k7, k8, k14, z65, s65, rfl⟩ := h65
    have hBk := hBk.up s65
    have hp65 := hp64.up s65
    have fk := fk.up s65
    have hK := hK.up s65
    have ft := ft.up s65
    have hT := hT.up s65
    have hd := hd.up s65
    clear z64 hp64 hd64
    -- the book once more
    obtain ⟨odt, eft⟩ := id ft
    repeat (walk_at "z")
    refine z_itK z65 eft ?_
    refine lc_src src_K (fun i G' M' acc => M' = [(p, o60)] ∧ Same G65 G' ∧ ∃ ps kvs, acc = ps.map V.ref ∧ Paired (fun p (kv : Key × V) => SqT K G' p [kV kv.1, kv.2]) ps kvs ∧ Tks K G' C kvs (tn.take i)) z65 ⟨rfl, Same.refl _, [], [], rfl, .nil, .nil⟩ (fun i G' M' M1 acc H' ⟨_, s', _⟩ z' => z'.sub _ _ (s' _ _ eft)) ?_ ?_
    · rintro j y G' M' acc Dl H' hy ⟨rfl, s', ps, kvs, rfl, hps, hkv⟩ z'
      have hj : j < kt.length := by
        have := (List.getElem?_eq_some_iff.mp hy).1
        simpa using this
      obtain ⟨nm, t, at', h1, h2, h3⟩ := pts_at hT hj
      obtain ⟨pr, hpr, rfl⟩ := key_at hy
      rw [h1] at hpr
      obtain rfl := Option.some.inj hpr
      have hpl : ps.length ≤ 8 := by
        have e1 := Paired.length hps
        have e2 := keys_len hkv
        rw [List.length_take] at e2
        omega
      repeat (walk_at "z")
      refine ⟨by rfl, ?_⟩
      repeat (walk_at "z")
      refine z_dgS z' (ft.up s') (valV_ix hkt h1) ?_
      repeat (walk_at "z")
      refine ⟨G', _, at', t, rfl, z', h3.up s', hB.pt _ (List.mem_of_getElem? h2), fun x5 G5 H5 z5 s5 k5 => ?_⟩
      repeat (walk_at "z")
      refine z_newT z5 (by simp) fun q6 G6 H6 z6 s6 e6 => ?_
      refine z_laid (M := [(p, o60)]) z6 (by rw [List.length_map]; omega) ⟨rfl, s'.trans (s5.trans s6), ps ++ [q6], kvs ++ [(.inr nm, .ref x5)], by rw [List.map_append]; rfl, paired_snoc (R := fun p (kv : Key × V) => SqT K G6 p [kV kv.1, kv.2]) (SqT.of e6) (prs_up hps (s5.trans s6)), ?_⟩
      rw [List.take_add_one, h2]
      exact paired_snoc ⟨rfl, x5, rfl, k5.up s6⟩ (hkv.up (s5.trans s6))
    rintro p66 G66 M66 acc G67 H67 ⟨rfl, s66, ps, kvs2, rfl, hps, hkv2⟩ s67 z67 e67
    rw [List.length_map, ktl, List.take_length] at hkv2
    repeat (walk_at "z")
    refine z_dictP z67 (SqL.of e67) (prs_up hps s67) fun d68 H68 z68 => ?_
    rw [mergeK_nd (by rw [List.nil_append, hkv2.keys]; exact inr_nodup hB.gt.nd), List.nil_append] at z68
    refine z_frzL z68 fun G69 H69 z69 s69 f69 => ?_
    have s6569 := s66.trans (s67.trans s69)
    have hkv2 := hkv2.up (s67.trans s69)
    repeat (walk_at "z")
    refine ⟨G69, _, vp, pl, false, rfl, z69, hd.up s6569, hB.ok, by omega, by omega, by omega, fun v70 G70 H70 z70 s70 d70 => ?_⟩
    have s6570 := s6569.trans s70
    repeat (walk_at "z")
    refine z_mkI z70 rfl rfl fun y dy H71 z71 s71 => ?_
    have s6571 := s6570.trans s71
    have hpv : PV K _ (tn.map (·.1)) v70 (nf pl) := ⟨d70.up s71, nf_ok pl false hB.ok, by have := nf_dp pl; omega, by have := nf_sz pl; omega, by have := nf_dp pl; have := nf_dp (nf pl); omega, by rw [nms_nf]; exact hB.nm, by rw [nms_nf]; exact hB.mem⟩
    refine ⟨_, [(p, o60)], y, dy, dk, d68, v70, kk, kn, kvs2, tn, nf pl, rfl, z71, fk.up s6571, kdl_kds (hK.up s6571), hB.gk, f69.up (s70.trans s71), hkv2.up (s70.trans s71), hB.gt, hB.nd, hpv, fun fs G72 H72 z72 s72 h72 => ⟨rfl, ?_⟩⟩
    have s73 : Same G72 (upd G72 y (.ins CB dy fs)) := Same.new (z72.own 1 _ _ rfl).2
    have hNew := (h72.bk.up s73).at_ (x := y) (dx := dy) upd_same
    have z73 := Zp.fix (M := [(p, o60)]) z72
    rw [nf_nf hB.ok] at hNew
    repeat (walk_at "z")
    refine ne_bkL L.bt z73 hNew (hBk.up (s6571.trans (s72.trans s73))) gB fun G74 H74 z74 s74 => ?_
    repeat (walk_at "z")
    exact ⟨G74, _, z74, o60, _, _, _, _, _, _, _, _, _, _, _, _, _, rfl, (hp65.up (s6571.trans (s72.trans (s73.trans s74)))).mono (by omega), rfl⟩
  rintro σ G' M' H' ⟨o', k2, k3, k4, k5, k6, k7, k8, k9, k10, k11, k12, k13, k14, rfl, _, rfl⟩ z'
  repeat (walk_at "z")
  exact q _
end
end LW
namespace LW
open PySem PySem.Spec PyProof.Rows L2 Ys

section
variable {K : PySem.W.Frag} {f : Addr} {fd : FuncData}
theorem bd_words2 (F : FunD K "are_words" "are_words" (defArgs s_are_words) (defBody s_are_words) (defScope s_are_words) [.non] [] f fd) : Binds K fd ["value", "most"] [] := by
  obtain ⟨ds, hv, hb⟩ := F.binds1 (ps := ["value", "most"]) 2 1 (by simp) rfl (fun T kV doc pm an cdv ct us its l1 l2 => by
    match us, its, l1, l2 with
    | [u1, u2], [i1], _, _ => exact ⟨_, rfl, rfl⟩)
  cases hv
  exact hb
theorem bd_diff1 (F : FunD K "are_different_words" "are_different_words" (defArgs s_are_different_words) (defBody s_are_different_words) (defScope s_are_different_words) [.non] [] f fd) : ∃ ds, Vals [V.non] ds ∧ Binds K fd ["value", "most"] ds :=
  F.binds1 (ps := ["value", "most"]) 1 0 (by simp) rfl (fun T kV doc pm an cdv ct us its l1 l2 => by
    match us, its, l1, l2 with
    | [u1], [i1], _, _ => exact ⟨_, rfl, rfl⟩)

theorem bd_diff2 (F : FunD K "are_different_words" "are_different_words" (defArgs s_are_different_words) (defBody s_are_different_words) (defScope s_are_different_words) [.non] [] f fd) : Binds K fd ["value", "most"] [] := by
  obtain ⟨ds, hv, hb⟩ := F.binds1 (ps := ["value", "most"]) 2 1 (by simp) rfl (fun T kV doc pm an cdv ct us its l1 l2 => by
    match us, its, l1, l2 with
    | [u1, u2], [i1], _, _ => exact ⟨_, rfl, rfl⟩)
  cases hv
  exact hb
theorem kbindsN {x qual : Str} {params : Arguments} {body : List Stmt} {scope : Scope} {ps : List Str} (F : FunD K x qual params body scope [] [] f fd) (n : Nat) (ks : List Str)
    (h : ∀ (kV doc pm : Value) (an : Option Addr) (cdv ct : Value) (us ws : List Value), us.length = n → ws.length = ks.length → bindArgs (PySem.W.fnOf x qual params body scope .none kV doc pm an cdv ct) ⟨us, ks.zip ws⟩ = pure (ps.zip (us ++ ws))) : KBn K fd ps n ks (fun us ws => us ++ ws) fun vs zs => vs ++ zs := by
  obtain ⟨oc, od, dV, kV, doc, pm, an, cdv, ct, osl, rfl, lk, hcd, hD, hK⟩ := F.ex
  rcases hD with ⟨_, rfl⟩ | ⟨e, _⟩
  · exact ⟨fun s us ws _ l1 l2 => .of_eq (h kV doc pm an cdv ct us ws l1 l2), fun r1 r2 => r1.append r2⟩
  · exact absurd rfl e

end
section
variable {K : PySem.W.Frag} {f : Addr} {fd : FuncData} {e1 e2 e3 e4 : V}
abbrev psI : List Str := ["self", "role", "many", "other", "same", "takes", "forgets"]
abbrev kwI (e1 e2 e3 e4 : V) : List (Str × V) := [("many", .int 1), ("other", e1), ("same", e2), ("takes", e3), ("forgets", e4)]
abbrev FI (K : PySem.W.Frag) (e1 e2 e3 e4 : V) (f : Addr) (fd : FuncData) : Prop := FunD K "__init__" "Task.__init__" (defArgs s_Task_init) (defBody s_Task_init) (defScope s_Task_init) [.non] (kwI e1 e2 e3 e4) f fd
theorem kb1 (F : FI K e1 e2 e3 e4 f fd) : ∃ g, KBn K fd psI 2 ["many", "other", "same", "takes", "forgets"] g gV1 := by
  obtain ⟨its, mv, hb⟩ := F.kbinds (ps := psI) 2 ["many", "other", "same", "takes", "forgets"] [] (fun us its mv ws => us ++ ws) (by simp) (by simp) (by simp) (fun a _ _ d => a.append d)
    (fun T D doc pm an cdv ct us its mv ws l1 l2 l3 l4 => by
      match us, its, mv, ws, l1, l2, l3, l4 with
      | [u1, u2], [i1], [], [w1, w2, w3, w4, w5], _, _, _, _ => exact ⟨_, rfl, rfl⟩)
  exact ⟨_, hb⟩

abbrev FBI (K : PySem.W.Frag) (f : Addr) (fd : FuncData) : Prop := FunD K "__init__" "Book.__init__" (defArgs s_Book_init) (defBody s_Book_init) (defScope s_Book_init) [] [] f fd
theorem kb_book (F : FBI K f fd) : KBn K fd ["self", "kinds", "tasks", "plan"] 4 [] (fun us ws => us ++ ws) fun vs zs => vs ++ zs :=
  kbindsN F 4 [] fun _ _ _ _ _ _ us ws l1 l2 => match us, ws, l1, l2 with | [_, _, _, _], [], _, _ => rfl
theorem no_num {g : Pl → Int} : ∀ vs H Q E, ¬ spNum K g 0 vs H Q E := fun _ _ _ _ ⟨_, _, _, _, _, _, _, h, _⟩ => absurd h (Nat.not_lt_zero _)
theorem no_lplan : ∀ vs H Q E, ¬ spLPlan K 0 vs H Q E := fun _ _ _ _ ⟨_, _, _, _, _, _, _, _, _, _, _, _, _, _, _, _, h, _⟩ => absurd h (Nat.not_lt_zero _)
end
section
variable {P : Program} {w : World} {K : PySem.W.Frag} {mg : Str → Option Value} {base : Heap} {f : Addr} {fd : FuncData}
theorem fn_none {CX : CXT} {k : Nat} {ps : List Str} {sp : Sp} (v : ∀ vs H Q E, ¬ sp vs H Q E) : FnOk P w K mg base CX k f fd ps sp :=
  ⟨fun vs H Q E h => absurd h (v vs H Q E), fun _ _ _ H _ _ vs Q E _ _ _ _ h => absurd h (v vs H Q E)⟩
theorem rec_at {x : Str} {k : Nat} {ps : List Str} {sp : Nat → Sp} (v : ∀ vs H Q E, ¬ sp 0 vs H Q E) (step : ∀ n, Own P w K mg base CX0 (n + k) x ps (sp n) → FnOk P w K mg base CX0 (n + k + 1) f fd ps (sp (n + 1))) (hm : mg x = some (.ref f)) (hk : PySem.W.keepIn K (.ref f) = true) (hb : Binds K fd ps []) : ∀ n, Own P w K mg base CX0 (n + k) x ps (sp n)
  | 0 => ⟨⟨f, fd, fn_none v, hm, hk, hb⟩⟩
  | n + 1 => ⟨⟨f, fd, by
      have := step n (rec_at v step hm hk hb n)
      rwa [Nat.add_right_comm] at this, hm, hk, hb⟩⟩
theorem no_wrong : ∀ vs H Q E, ¬ spWrong K 0 vs H Q E := fun _ _ _ _ ⟨_, _, _, _, _, _, _, _, _, h, _⟩ => absurd h (Nat.not_lt_zero _)
theorem no_names : ∀ vs H Q E, ¬ spNames K 0 vs H Q E := fun _ _ _ _ ⟨_, _, _, _, _, _, _, h, _⟩ => absurd h (Nat.not_lt_zero _)
theorem no_nf : ∀ vs H Q E, ¬ spNF K 0 vs H Q E := fun _ _ _ _ ⟨_, _, _, _, _, _, _, _, _, h, _⟩ => absurd h (Nat.not_lt_zero _)
end
end LW
namespace LW
open PySem PySem.Spec PyProof.Rows L2 Ys

theorem okSup0 {w : World} {K : PySem.W.Frag} {mg : Str → Option Value} {base : Heap} {C fI : Addr} {fd : FuncData} (S : SupF PR K C fI "value" "InvalidPlan.__init__" (defArgs s_x0) (defBody s_x0) (defScope s_x0) fd) (T : OexC K C) : FnOk PR w K mg base CX0 1 fI fd ["self", "value"] (spSup K C "value") :=
  ok_sup (x := "value") S ⟨by decide +kernel, by rfl, by rfl, by rfl, by rfl, rfl, rfl, rfl, ⟨_, rfl, rfl⟩, by decide, by decide⟩ T (fun env h => by cases env; subst h; exact ⟨_, rfl⟩) (fun env h => by cases env; subst h; rfl) (fun env h => by cases env; subst h; rfl) (fun env h => by cases env; subst h; rfl) (by decide +kernel)
theorem okSup1 {w : World} {K : PySem.W.Frag} {mg : Str → Option Value} {base : Heap} {C fI : Addr} {fd : FuncData} (S : SupE PR K C fI "LookupError" "LookupError.__init__" ["value"] "UnknownTask.__init__" (defArgs s_x1) (defBody s_x1) (defScope s_x1) fd) (T : OexE K C "LookupError.__new__" [.type "LookupError", .type "Exception", .type "BaseException", .type "object"]) : FnOk PR w K mg base CX0 1 fI fd ["self", "value"] (spSup K C "value") :=
  ok_supE (x := "value") S ⟨by decide +kernel, by rfl, by rfl, by decide +kernel, by rfl, rfl, rfl, ⟨_, rfl, rfl⟩⟩ (by decide +kernel) (by decide +kernel) bLookup T (fun env h => by cases env; subst h; exact ⟨_, rfl⟩) (fun env h => by cases env; subst h; rfl) (fun env h => by cases env; subst h; rfl) (fun env h => by cases env; subst h; rfl) (by decide +kernel)
abbrev esK (K : PySem.W.Frag) : List V := [.ref (kA "Task" "__init__" "other" K), .ref (kA "Task" "__init__" "same" K), .ref (kA "Task" "__init__" "takes" K), .ref (kA "Task" "__init__" "forgets" K)]
theorem facts {w : World} {K : PySem.W.Frag} {h : Heap} {mg : Str → Option Value} {f : Addr} (X : K.In h) (G : h.Ns mainGlobals mg) (hfa : mg ("law" : Str) = some (.ref f)) (ct0 : SaysCT fb fn fc ts w K) :
    ∃ fd : FuncData, (∀ (s : Shared) (v : Value), BindsTo s fd ⟨[v], []⟩ [("_law_script", v)]) ∧ ∀ base : Heap, K.In base → base.Ns mainGlobals mg → FnG PR w K mg base CX0 30 f fd ["_law_script"] (spLaw K) := by
  have cc0 := ct0.c
  have c := cc0.both.1
  obtain ⟨fd_is_word, F_is_word⟩ : ∃ fd, FnP K "is_word" s_is_word (gA "is_word" K) fd := c.def_ 0
  obtain ⟨fd_is_integer, F_is_integer⟩ : ∃ fd, FnP K "is_integer" s_is_integer (gA "is_integer" K) fd := c.def_ 1
  obtain ⟨fd_is_within, F_is_within⟩ : ∃ fd, FnP K "is_within" s_is_within (gA "is_within" K) fd := c.def_ 2
  obtain ⟨fd_is_list, F_is_list⟩ : ∃ fd, FnP K "is_list" s_is_list (gA "is_list" K) fd := c.def_ 3
  obtain ⟨fd_are_words, F_are_words⟩ : ∃ fd, FunD K "are_words" "are_words" (defArgs s_are_words) (defBody s_are_words) (defScope s_are_words) [.non] [] (gA "are_words" K) fd := c.def_ 4
  obtain ⟨fd_are_different_words, F_are_different_words⟩ : ∃ fd, FunD K "are_different_words" "are_different_words" (defArgs s_are_different_words) (defBody s_are_different_words) (defScope s_are_different_words) [.non] [] (gA "are_different_words" K) fd := c.def_ 5
  obtain ⟨fd_ascending, F_ascending⟩ : ∃ fd, FnP K "ascending" s_ascending (gA "ascending" K) fd := c.def_ 6
  obtain ⟨fd_is_formed, F_is_formed⟩ : ∃ fd, FnP K "is_formed" s_is_formed (gA "is_formed" K) fd := c.def_ 7
  obtain ⟨fd_wrong_part, F_wrong_part⟩ : ∃ fd, FnP K "wrong_part" s_wrong_part (gA "wrong_part" K) fd := c.def_ 8
  obtain ⟨fd_sequence, F_sequence⟩ : ∃ fd, FnP K "sequence" s_sequence (gA "sequence" K) fd := c.def_ 9
  obtain ⟨fd_alongside, F_alongside⟩ : ∃ fd, FnP K "alongside" s_alongside (gA "alongside" K) fd := c.def_ 10
  obtain ⟨fd_normal_form, F_normal_form⟩ : ∃ fd, FnP K "normal_form" s_normal_form (gA "normal_form" K) fd := c.def_ 11
  obtain ⟨fd_normal, F_normal⟩ : ∃ fd, FnP K "normal" s_normal (gA "normal" K) fd := c.def_ 12
  obtain ⟨fd_name_list, F_name_list⟩ : ∃ fd, FnP K "name_list" s_name_list (gA "name_list" K) fd := c.def_ 13
  obtain ⟨fd_names_in, F_names_in⟩ : ∃ fd, FnP K "names_in" s_names_in (gA "names_in" K) fd := c.def_ 14
  obtain ⟨fd_remembered_in, F_remembered_in⟩ : ∃ fd, FnP K "remembered_in" s_remembered_in (gA "remembered_in" K) fd := c.def_ 15
  obtain ⟨fd_width_of, F_width_of⟩ : ∃ fd, FnP K "width_of" s_width_of (gA "width_of" K) fd := c.def_ 16
  obtain ⟨fd_need_tasks, F_need_tasks⟩ : ∃ fd, FnP K "need_tasks" s_need_tasks (gA "need_tasks" K) fd := c.def_ 17
  obtain ⟨fd_are_kinds, F_are_kinds⟩ : ∃ fd, FnP K "are_kinds" s_are_kinds (gA "are_kinds" K) fd := c.def_ 18
  obtain ⟨fd_are_tasks, F_are_tasks⟩ : ∃ fd, FnP K "are_tasks" s_are_tasks (gA "are_tasks" K) fd := c.def_ 19
  obtain ⟨fd_count_names, F_count_names⟩ : ∃ fd, FnP K "count_names" s_count_names (gA "count_names" K) fd := c.def_ 20
  obtain ⟨fd_levels_of, F_levels_of⟩ : ∃ fd, FnP K "levels_of" s_levels_of (gA "levels_of" K) fd := c.def_ 21
  obtain ⟨fd_plan_for, F_plan_for⟩ : ∃ fd, FnP K "plan_for" s_plan_for (gA "plan_for" K) fd := c.def_ 22
  obtain ⟨fd_in_order, F_in_order⟩ : ∃ fd, FnP K "in_order" s_in_order (gA "in_order" K) fd := c.def_ 23
  obtain ⟨fd_law_pen, F_law_pen⟩ : ∃ fd, FnP K "_law_pen" s_law_pen (gA "_law_pen" K) fd := c.def_ 24
  obtain ⟨fd_law_draw, F_law_draw⟩ : ∃ fd, FnP K "_law_draw" s_law_draw (gA "_law_draw" K) fd := c.def_ 25
  obtain ⟨fd_law_pick, F_law_pick⟩ : ∃ fd, FnP K "_law_pick" s_law_pick (gA "_law_pick" K) fd := c.def_ 26
  obtain ⟨fd_law_shuffled, F_law_shuffled⟩ : ∃ fd, FnP K "_law_shuffled" s_law_shuffled (gA "_law_shuffled" K) fd := c.def_ 27
  obtain ⟨fd_law_words, F_law_words⟩ : ∃ fd, FnP K "_law_words" s_law_words (gA "_law_words" K) fd := c.def_ 28
  obtain ⟨fd_law_any_value, F_law_any_value⟩ : ∃ fd, FnP K "_law_any_value" s_law_any_value (gA "_law_any_value" K) fd := c.def_ 29
  obtain ⟨fd_law_task, F_law_task⟩ : ∃ fd, FnP K "_law_task" s_law_task (gA "_law_task" K) fd := c.def_ 30
  obtain ⟨fd_law_made_task, F_law_made_task⟩ : ∃ fd, FnP K "_law_made_task" s_law_made_task (gA "_law_made_task" K) fd := c.def_ 31
  obtain ⟨fd_law_shown, F_law_shown⟩ : ∃ fd, FnP K "_law_shown" s_law_shown (gA "_law_shown" K) fd := c.def_ 32
  obtain ⟨fd_law_remembered, F_law_remembered⟩ : ∃ fd, FnP K "_law_remembered" s_law_remembered (gA "_law_remembered" K) fd := c.def_ 33
  obtain ⟨fd_law_width, F_law_width⟩ : ∃ fd, FnP K "_law_width" s_law_width (gA "_law_width" K) fd := c.def_ 34
  obtain ⟨fd_law_plan, F_law_plan⟩ : ∃ fd, FnP K "_law_plan" s_law_plan (gA "_law_plan" K) fd := c.def_ 35
  obtain ⟨fd_law_normal, F_law_normal⟩ : ∃ fd, FnP K "_law_normal" s_law_normal (gA "_law_normal" K) fd := c.def_ 36
  obtain ⟨fd_law_count, F_law_count⟩ : ∃ fd, FnP K "_law_count" s_law_count (gA "_law_count" K) fd := c.def_ 37
  obtain ⟨fd_law_book, F_law_book⟩ : ∃ fd, FnP K "_law_book" s_law_book (gA "_law_book" K) fd := c.def_ 38
  obtain ⟨fd_law_item, F_law_item⟩ : ∃ fd, FnP K "_law_item" s_law_item (gA "_law_item" K) fd := c.def_ 39
  obtain ⟨fd_law, F_law⟩ : ∃ fd, FnP K "law" s_law (gA "law" K) fd := c.def_ 40
  obtain ⟨fd_t_like, F_t_like⟩ : ∃ fd, FunD K "likeness" "Task.likeness" (defArgs s_Task_likeness) (defBody s_Task_likeness) (defScope s_Task_likeness) [] [] (cA "Task" "likeness" K) fd := c.def_ 49
  obtain ⟨fd_t_eq, F_t_eq⟩ : ∃ fd, FunD K "__eq__" "Task.__eq__" (defArgs s_Task_eq) (defBody s_Task_eq) (defScope s_Task_eq) [] [] (cA "Task" "__eq__" K) fd := c.def_ 50
  obtain ⟨fd_b_eq, F_b_eq⟩ : ∃ fd, FunD K "__eq__" "Book.__eq__" (defArgs s_Book_eq) (defBody s_Book_eq) (defScope s_Book_eq) [] [] (cA "Book" "__eq__" K) fd := c.def_ 51
  obtain ⟨fd_b_item, F_b_item⟩ : ∃ fd, FunD K "__getitem__" "Book.__getitem__" (defArgs s_Book_getitem) (defBody s_Book_getitem) (defScope s_Book_getitem) [] [] (cA "Book" "__getitem__" K) fd := c.def_ 52
  obtain ⟨fd_b_copied, F_b_copied⟩ : ∃ fd, FunD K "copied" "Book.copied" (defArgs s_Book_copied) (defBody s_Book_copied) (defScope s_Book_copied) [] [] (cA "Book" "copied" K) fd := c.def_ 53
  obtain ⟨fd_b_len, F_b_len⟩ : ∃ fd, FunD K "__len__" "Book.__len__" (defArgs s_Book_len) (defBody s_Book_len) (defScope s_Book_len) [] [] (cA "Book" "__len__" K) fd := c.def_ 54
  obtain ⟨fd_b_con, F_b_con⟩ : ∃ fd, FunD K "__contains__" "Book.__contains__" (defArgs s_Book_contains) (defBody s_Book_contains) (defScope s_Book_contains) [] [] (cA "Book" "__contains__" K) fd := c.def_ 55
  obtain ⟨fd_bp_plan, F_bp_plan⟩ : ∃ fd, FunD K "plan" "Book.plan" (defArgs s_Book_plan) (defBody s_Book_plan) (defScope s_Book_plan) [] [] (pA "Book" "plan" K) fd := c.def_ 56
  obtain ⟨fd_bp_kinds, F_bp_kinds⟩ : ∃ fd, FunD K "kinds" "Book.kinds" (defArgs s_Book_kinds) (defBody s_Book_kinds) (defScope s_Book_kinds) [] [] (pA "Book" "kinds" K) fd := c.def_ 57
  obtain ⟨fd_bp_names, F_bp_names⟩ : ∃ fd, FunD K "names" "Book.names" (defArgs s_Book_names) (defBody s_Book_names) (defScope s_Book_names) [] [] (pA "Book" "names" K) fd := c.def_ 58
  obtain ⟨fd_bp_remembered, F_bp_remembered⟩ : ∃ fd, FunD K "remembered" "Book.remembered" (defArgs s_Book_remembered) (defBody s_Book_remembered) (defScope s_Book_remembered) [] [] (pA "Book" "remembered" K) fd := c.def_ 59
  obtain ⟨fd_bp_width, F_bp_width⟩ : ∃ fd, FunD K "width" "Book.width" (defArgs s_Book_width) (defBody s_Book_width) (defScope s_Book_width) [] [] (pA "Book" "width" K) fd := c.def_ 60
  obtain ⟨fd_tinit, F_tinit⟩ : ∃ fd, FI K (.ref (kA "Task" "__init__" "other" K)) (.ref (kA "Task" "__init__" "same" K)) (.ref (kA "Task" "__init__" "takes" K)) (.ref (kA "Task" "__init__" "forgets" K)) (cA "Task" "__init__" K) fd := c.def_ 41
  obtain ⟨fd_g_role, F_g_role⟩ : ∃ fd, FunD K "role" "Task.role" (defArgs s_Task_role) (defBody s_Task_role) (defScope s_Task_role) [] [] (pA "Task" "role" K) fd := c.def_ 42
  obtain ⟨fd_g_many, F_g_many⟩ : ∃ fd, FunD K "many" "Task.many" (defArgs s_Task_many) (defBody s_Task_many) (defScope s_Task_many) [] [] (pA "Task" "many" K) fd := c.def_ 43
  obtain ⟨fd_g_other, F_g_other⟩ : ∃ fd, FunD K "other" "Task.other" (defArgs s_Task_other) (defBody s_Task_other) (defScope s_Task_other) [] [] (pA "Task" "other" K) fd := c.def_ 44
  obtain ⟨fd_g_same, F_g_same⟩ : ∃ fd, FunD K "same" "Task.same" (defArgs s_Task_same) (defBody s_Task_same) (defScope s_Task_same) [] [] (pA "Task" "same" K) fd := c.def_ 45
  obtain ⟨fd_g_takes, F_g_takes⟩ : ∃ fd, FunD K "takes" "Task.takes" (defArgs s_Task_takes) (defBody s_Task_takes) (defScope s_Task_takes) [] [] (pA "Task" "takes" K) fd := c.def_ 46
  obtain ⟨fd_g_forgets, F_g_forgets⟩ : ∃ fd, FunD K "forgets" "Task.forgets" (defArgs s_Task_forgets) (defBody s_Task_forgets) (defScope s_Task_forgets) [] [] (pA "Task" "forgets" K) fd := c.def_ 47
  obtain ⟨fd_binit, F_binit⟩ : ∃ fd, FBI K (cA "Book" "__init__" K) fd := c.def_ 48
  have T : Nm K mg := ⟨sysB_ok (c.at_ 0), He.free_ok X G (c.at_ 49), He.free_ok X G (c.at_ 50), He.free_ok X G (c.at_ 51), He.free_ok X G (c.at_ 52), He.free_ok X G (c.at_ 53), He.free_ok X G (c.at_ 54), He.free_ok X G (c.at_ 55), He.free_ok X G (c.at_ 56), He.free_ok X G (c.at_ 57), He.free_ok X G (c.at_ 58), He.free_ok X G (c.at_ 59), He.free_ok X G (c.at_ 60), He.free_ok X G (c.at_ 61), He.free_ok X G (c.at_ 62), He.free_ok X G (c.at_ 63), He.free_ok X G (c.at_ 64), He.free_ok X G (c.at_ 65), let ⟨t, e⟩ := He.str_ok X G (c.at_ 67); ⟨_, e, t, rfl⟩, let ⟨t, e⟩ := He.int_ok X G (c.at_ 68); ⟨_, e, t, rfl⟩, ⟨_, He.glo_ok X G (c.at_ 44), rfl⟩, ⟨_, He.glo_ok X G (c.at_ 45), rfl⟩, ⟨_, He.glo_ok X G (c.at_ 46), rfl⟩, fun H => He.tupB_ok (c.at_ 77) H, let ⟨t, e⟩ := He.int_ok X G (c.at_ 69); ⟨_, e, t, rfl⟩, let ⟨t, e⟩ := He.int_ok X G (c.at_ 70); ⟨_, e, t, rfl⟩, let ⟨t, e⟩ := He.int_ok X G (c.at_ 71); ⟨_, e, t, rfl⟩, let ⟨t, e⟩ := He.int_ok X G (c.at_ 72); ⟨_, e, t, rfl⟩, let ⟨t, e⟩ := He.int_ok X G (c.at_ 73); ⟨_, e, t, rfl⟩, let ⟨t, e⟩ := He.int_ok X G (c.at_ 74); ⟨_, e, t, rfl⟩, let ⟨t, e⟩ := He.int_ok X G (c.at_ 75); ⟨_, e, t, rfl⟩, let ⟨t, e⟩ := He.int_ok X G (c.at_ 76); ⟨_, e, t, rfl⟩⟩
  have e := hfa.symm.trans (He.glo_ok X G (c.at_ 41))
  cases e
  have TB : PTab K w := ⟨tabD_of (ct0.tab 0) (c.at_ 78), tabD_of (ct0.tab 1) (c.at_ 79)⟩
  have TC : TaskC K (gA "Task" K) := ⟨He.cls_ok (c.at_ 80), He.noat_ok (c.at_ 82), He.noat_ok (c.at_ 83), He.noat_ok (c.at_ 84), He.noat_ok (c.at_ 85), He.noat_ok (c.at_ 86), He.noat_ok (c.at_ 87)⟩
  have BC : BookC K (gA "Book" K) := ⟨He.cls_ok (c.at_ 81), He.noat_ok (c.at_ 88), He.noat_ok (c.at_ 89), He.noat_ok (c.at_ 90)⟩
  have TT : TaskT K (gA "Task" K) := by
    obtain ⟨h1, h2⟩ := Bool.and_eq_true_iff.mp (c.at_ 99)
    obtain ⟨h3, h4⟩ := Bool.and_eq_true_iff.mp h2
    obtain ⟨h5, h6⟩ := Bool.and_eq_true_iff.mp h4
    obtain ⟨h7, h8⟩ := Bool.and_eq_true_iff.mp h6
    exact ⟨TC.cl, of_decide_eq_true h1, of_decide_eq_true h3, of_decide_eq_true h5, of_decide_eq_true h7, h8⟩
  have BT : TaskT K (gA "Book" K) := by
    obtain ⟨h1, h2⟩ := Bool.and_eq_true_iff.mp (c.at_ 113)
    obtain ⟨h3, h4⟩ := Bool.and_eq_true_iff.mp h2
    obtain ⟨h5, h6⟩ := Bool.and_eq_true_iff.mp h4
    obtain ⟨h7, h8⟩ := Bool.and_eq_true_iff.mp h6
    exact ⟨BC.cl, of_decide_eq_true h1, of_decide_eq_true h3, of_decide_eq_true h5, of_decide_eq_true h7, h8⟩
  have b := FunD.bindsA (ps := ["_law_script"]) F_law fun _ _ _ _ _ _ us hl => match us, hl with | [_], _ => rfl
  refine ⟨fd_law, fun s v => b s [v] rfl, fun base _ _ => ?_⟩
  have L : LawC PR w K mg base (gA "Task" K) (gA "Book" K) := by
    have S_InvalidPlan : ExcS PR w K mg base (gA "InvalidPlan" K) "InvalidPlan" "value" := by
      obtain ⟨fd_x, S_x, ⟨kV, doc, pm, an, cdv, ct, cc, e_x⟩, iC, tI⟩ := supA_ok (P := PR) (x := "InvalidPlan") (fld := "value") (d := dSup0) rfl rfl (cc0.sup 0) (c.at_ 106)
      have O_x := oexA_ok (c.at_ 105)
      exact ⟨O_x, ⟨_, fd_x, "value", iC, tI, okSup0 S_x O_x, by
        rw [e_x]
        exact .all fun us hl => match us, hl with | [_, _], _ => rfl⟩, He.glo_ok X G (c.at_ 42)⟩
    have S_UnknownTask : ExcG PR w K mg base (gA "UnknownTask" K) "UnknownTask" "value" := by
      obtain ⟨fd_x, S_x, ⟨kV, doc, pm, an, cdv, ct, cc, e_x⟩, iC, tI⟩ := supEA_ok (P := PR) (x := "UnknownTask") (flds := ["value"]) (B := "LookupError") (initId := "LookupError.__init__") (d := dSup1) rfl rfl (cc0.sup 1) (c.at_ 109)
      have O_x := oexEA_ok (c.at_ 108)
      exact ⟨⟨_, _, _, _, bLookup, O_x⟩, ⟨_, fd_x, "value", iC, tI, okSup1 S_x O_x, by
        rw [e_x]
        exact .all fun us hl => match us, hl with | [_, _], _ => rfl⟩, He.glo_ok X G (c.at_ 43)⟩
    have C_is_word : Own PR w K mg base CX0 1 "is_word" ["value"] (spWord K) := ⟨⟨_, _, ok_is_word T F_is_word, He.glo_ok X G (c.at_ 1), F_is_word.kp, F_is_word.bindsN fun _ _ _ _ _ _ us hl => match us, hl with | [_], _ => rfl⟩⟩
    have C_ascending : Own PR w K mg base CX0 1 "ascending" ["words"] (spAsc K) := ⟨⟨_, _, ok_asc T F_ascending, He.glo_ok X G (c.at_ 7), F_ascending.kp, F_ascending.bindsN fun _ _ _ _ _ _ us hl => match us, hl with | [_], _ => rfl⟩⟩
    have C_ascendingA : Own PR w K mg base CX0 1 "ascending" ["words"] (spAscA K) := ⟨⟨_, _, ok_ascA T F_ascending, He.glo_ok X G (c.at_ 7), F_ascending.kp, F_ascending.bindsN fun _ _ _ _ _ _ us hl => match us, hl with | [_], _ => rfl⟩⟩
    have C_ascendingD : Own PR w K mg base CX0 1 "ascending" ["words"] (spAscD K) := ⟨⟨_, _, ok_ascD T F_ascending, He.glo_ok X G (c.at_ 7), F_ascending.kp, F_ascending.bindsN fun _ _ _ _ _ _ us hl => match us, hl with | [_], _ => rfl⟩⟩
    have C_is_integer : Own PR w K mg base CX0 1 "is_integer" ["value"] (spInt K) := ⟨⟨_, _, ok_is_integer T F_is_integer, He.glo_ok X G (c.at_ 2), F_is_integer.kp, F_is_integer.bindsN fun _ _ _ _ _ _ us hl => match us, hl with | [_], _ => rfl⟩⟩
    have C_is_within : Own PR w K mg base CX0 2 "is_within" ["value", "least", "most"] (spWithin K) := ⟨⟨_, _, ok_is_within T C_is_integer F_is_within, He.glo_ok X G (c.at_ 3), F_is_within.kp, F_is_within.bindsN fun _ _ _ _ _ _ us hl => match us, hl with | [_, _, _], _ => rfl⟩⟩
    have C_is_list : Own PR w K mg base CX0 1 "is_list" ["value"] (spIsList K) := ⟨⟨_, _, ok_is_list T F_is_list, He.glo_ok X G (c.at_ 4), F_is_list.kp, F_is_list.bindsN fun _ _ _ _ _ _ us hl => match us, hl with | [_], _ => rfl⟩⟩
    have C_are_words : Own PR w K mg base CX0 2 "are_words" ["value", "most"] (spAreWords K) := ⟨⟨_, _, ok_are_words T C_is_word C_is_list F_are_words, He.glo_ok X G (c.at_ 5), F_are_words.kp, bd_words2 F_are_words⟩⟩
    have C_are_different_words : Own PR w K mg base CX0 3 "are_different_words" ["value", "most"] (spDiff K) := ⟨⟨_, _, ok_diff T C_are_words F_are_different_words, He.glo_ok X G (c.at_ 6), F_are_different_words.kp, bd_diff2 F_are_different_words⟩⟩
    have C_diff1 : OwnA PR w K mg base CX0 3 "are_different_words" ["value", "most"] [.non] (spDiff K) := by
      obtain ⟨ds, hv, hb⟩ := bd_diff1 F_are_different_words
      exact ⟨⟨_, _, ds, ok_diff T C_are_words F_are_different_words, He.glo_ok X G (c.at_ 6), F_are_different_words.kp, hb, hv⟩⟩
    have C_is_formed : Own PR w K mg base CX0 1 "is_formed" ["value"] (spFormed K) := ⟨⟨_, _, ok_is_formed T TB F_is_formed, He.glo_ok X G (c.at_ 8), F_is_formed.kp, F_is_formed.bindsN fun _ _ _ _ _ _ us hl => match us, hl with | [_], _ => rfl⟩⟩
    have C_wrong_part : ∀ n, Own PR w K mg base CX0 (n + 1) "wrong_part" ["value", "is_beside"] (spWrong K n) := rec_at no_wrong (fun n C => ok_wrong T C_is_word C_is_formed C F_wrong_part) (He.glo_ok X G (c.at_ 9)) F_wrong_part.kp (F_wrong_part.bindsN fun _ _ _ _ _ _ us hl => match us, hl with | [_, _], _ => rfl)
    have C_sequence : Own PR w K mg base CX0 1 "sequence" ["parts"] (spSeq K) := ⟨⟨_, _, ok_sequence T F_sequence, He.glo_ok X G (c.at_ 10), F_sequence.kp, F_sequence.bindsN fun _ _ _ _ _ _ us hl => match us, hl with | [_], _ => rfl⟩⟩
    have C_alongside : Own PR w K mg base CX0 1 "alongside" ["one", "other"] (spAlong K) := ⟨⟨_, _, ok_alongside T F_alongside, He.glo_ok X G (c.at_ 11), F_alongside.kp, F_alongside.bindsN fun _ _ _ _ _ _ us hl => match us, hl with | [_, _], _ => rfl⟩⟩
    have C_normal_form : ∀ n, Own PR w K mg base CX0 (n + 1) "normal_form" ["plan"] (spNF K n) := rec_at no_nf (fun n C => ok_normal_form T C_sequence C_alongside C F_normal_form) (He.glo_ok X G (c.at_ 12)) F_normal_form.kp (F_normal_form.bindsN fun _ _ _ _ _ _ us hl => match us, hl with | [_], _ => rfl)
    have C_name_list : ∀ n, Own PR w K mg base CX0 (n + 1) "name_list" ["plan"] (spNames K n) := rec_at no_names (fun n C => ok_name_list T C F_name_list) (He.glo_ok X G (c.at_ 14)) F_name_list.kp (F_name_list.bindsN fun _ _ _ _ _ _ us hl => match us, hl with | [_], _ => rfl)
    have C_names_in : Own PR w K mg base CX0 19 "names_in" ["plan"] (spNamesIn K 17) := ⟨⟨_, _, ok_names_in T (C_name_list 17) C_ascending F_names_in, He.glo_ok X G (c.at_ 15), F_names_in.kp, F_names_in.bindsN fun _ _ _ _ _ _ us hl => match us, hl with | [_], _ => rfl⟩⟩
    have C_normal : Own PR w K mg base (L2.CX PR w) 20 "normal" ["plan"] (spNormal K (gA "InvalidPlan" K) 17) := ⟨⟨_, _, ok_normal T S_InvalidPlan (C_wrong_part 17) (C_normal_form 17) F_normal, He.glo_ok X G (c.at_ 13), F_normal.kp, F_normal.bindsN fun _ _ _ _ _ _ us hl => match us, hl with | [_], _ => rfl⟩⟩
    have R_role : PrpT PR w K mg base (gA "Task" K) "role" "own_role" := ⟨⟨_, _, _, fProp_ok (c.at_ 93), ok_g1 TC F_g_role, F_g_role.bindsN fun _ _ _ _ _ _ us hl => match us, hl with | [_], _ => rfl⟩, TC.cl⟩
    have R_many : PrpT PR w K mg base (gA "Task" K) "many" "own_many" := ⟨⟨_, _, _, fProp_ok (c.at_ 94), ok_g2 TC F_g_many, F_g_many.bindsN fun _ _ _ _ _ _ us hl => match us, hl with | [_], _ => rfl⟩, TC.cl⟩
    have R_other : PrpT PR w K mg base (gA "Task" K) "other" "own_other" := ⟨⟨_, _, _, fProp_ok (c.at_ 95), ok_g3 TC F_g_other, F_g_other.bindsN fun _ _ _ _ _ _ us hl => match us, hl with | [_], _ => rfl⟩, TC.cl⟩
    have R_same : PrpT PR w K mg base (gA "Task" K) "same" "own_same" := ⟨⟨_, _, _, fProp_ok (c.at_ 96), ok_g4 TC F_g_same, F_g_same.bindsN fun _ _ _ _ _ _ us hl => match us, hl with | [_], _ => rfl⟩, TC.cl⟩
    have R_takes : PrpT PR w K mg base (gA "Task" K) "takes" "own_takes" := ⟨⟨_, _, _, fProp_ok (c.at_ 97), ok_g5 TC F_g_takes, F_g_takes.bindsN fun _ _ _ _ _ _ us hl => match us, hl with | [_], _ => rfl⟩, TC.cl⟩
    have R_forgets : PrpT PR w K mg base (gA "Task" K) "forgets" "own_forgets" := ⟨⟨_, _, _, fProp_ok (c.at_ 98), ok_g6 TC F_g_forgets, F_g_forgets.bindsN fun _ _ _ _ _ _ us hl => match us, hl with | [_], _ => rfl⟩, TC.cl⟩
    have gT := He.glo_ok X G (c.at_ 47)
    have gBk := He.glo_ok X G (c.at_ 48)
    have B_Task : MkS PR w K mg base CX0 4 (gA "Task" K) "Task" 1 ["many", "other", "same", "takes", "forgets"] gV1 (spInit K (gA "Task" K)) := by
      obtain ⟨g, hb⟩ := kb1 F_tinit
      exact ⟨⟨_, _, _, g, He.mkr_ok (c.at_ 91), ok_init T TC C_is_word C_is_within C_diff1 C_ascendingA F_tinit, gT, hb⟩⟩
    have C_remembered_in : Own PR w K mg base CX0 3 "remembered_in" ["tasks"] (spRem K (gA "Task" K)) := ⟨⟨_, _, ok_rem T R_other R_same C_ascending F_remembered_in, He.glo_ok X G (c.at_ 16), F_remembered_in.kp, F_remembered_in.bindsN fun _ _ _ _ _ _ us hl => match us, hl with | [_], _ => rfl⟩⟩
    have C_width_of : Own PR w K mg base CX0 4 "width_of" ["tasks"] (spWid K (gA "Task" K)) := ⟨⟨_, _, ok_wid T R_takes R_many C_remembered_in F_width_of, He.glo_ok X G (c.at_ 17), F_width_of.kp, F_width_of.bindsN fun _ _ _ _ _ _ us hl => match us, hl with | [_], _ => rfl⟩⟩
    have C_need_tasks : Own PR w K mg base CX0 5 "need_tasks" ["tasks"] (spNeed K (gA "Task" K)) := ⟨⟨_, _, ok_need T C_remembered_in C_width_of F_need_tasks, He.glo_ok X G (c.at_ 18), F_need_tasks.kp, F_need_tasks.bindsN fun _ _ _ _ _ _ us hl => match us, hl with | [_], _ => rfl⟩⟩
    have C_are_kinds : Own PR w K mg base CX0 4 "are_kinds" ["value"] (spKinds K) := ⟨⟨_, _, ok_are_kinds T C_is_word C_are_different_words F_are_kinds, He.glo_ok X G (c.at_ 19), F_are_kinds.kp, F_are_kinds.bindsN fun _ _ _ _ _ _ us hl => match us, hl with | [_], _ => rfl⟩⟩
    have C_are_tasks : Own PR w K mg base CX0 2 "are_tasks" ["value"] (spTasks K (gA "Task" K)) := ⟨⟨_, _, ok_are_tasks T TT gT C_is_word F_are_tasks, He.glo_ok X G (c.at_ 20), F_are_tasks.kp, F_are_tasks.bindsN fun _ _ _ _ _ _ us hl => match us, hl with | [_], _ => rfl⟩⟩
    have C_count_names : ∀ n, Own PR w K mg base CX0 (n + 1) "count_names" ["plan"] (spNum K lenI n) := rec_at no_num (fun n C => ok_count T C F_count_names) (He.glo_ok X G (c.at_ 21)) F_count_names.kp (F_count_names.bindsN fun _ _ _ _ _ _ us hl => match us, hl with | [_], _ => rfl)
    have C_levels_of : ∀ n, Own PR w K mg base CX0 (n + 1) "levels_of" ["plan"] (spNum K dpI n) := rec_at no_num (fun n C => ok_levels T C F_levels_of) (He.glo_ok X G (c.at_ 22)) F_levels_of.kp (F_levels_of.bindsN fun _ _ _ _ _ _ us hl => match us, hl with | [_], _ => rfl)
    have C_plan_for : Own PR w K mg base CX0 21 "plan_for" ["plan", "tasks"] (spPlanFor K) := ⟨⟨_, _, ok_plan_for T C_normal (C_count_names 17) (C_levels_of 17) C_names_in F_plan_for, He.glo_ok X G (c.at_ 23), F_plan_for.kp, F_plan_for.bindsN fun _ _ _ _ _ _ us hl => match us, hl with | [_, _], _ => rfl⟩⟩
    have C_in_order : Own PR w K mg base CX0 2 "in_order" ["pairs"] (spOrdN K (gA "Task" K)) := ⟨⟨_, _, ok_orderN T C_ascendingD F_in_order, He.glo_ok X G (c.at_ 24), F_in_order.kp, F_in_order.bindsN fun _ _ _ _ _ _ us hl => match us, hl with | [_], _ => rfl⟩⟩
    have B_Book : MkS PR w K mg base CX0 22 (gA "Book" K) "Book" 3 [] (fun vs zs => vs ++ zs) (spBookN K (gA "Task" K) (gA "Book" K)) := ⟨⟨_, _, _, _, He.mkr_ok (c.at_ 92), ok_bookN T BC C_are_kinds C_are_tasks C_plan_for C_need_tasks C_ascendingD C_ascendingA C_in_order F_binit, gBk, kb_book F_binit⟩⟩
    have M_t_like : Mth PR w K mg base CX0 1 (gA "Task" K) "likeness" ["self"] [] (spLike K (gA "Task" K)) := ⟨⟨_, _, [], He.meth_ok (c.at_ 116), ok_like TC F_t_like, F_t_like.bindsN fun _ _ _ _ _ _ us hl => match us, hl with | [_], _ => rfl, .nil⟩, TC.cl⟩
    have me_t_eq := He.meth_ok (c.at_ 117)
    have EQ_t_eq : EqC PR w K mg base CX0 2 (gA "Task" K) (spEqT K (gA "Task" K)) := ⟨⟨_, _, _, ok_eq T TT gT M_t_like F_t_eq, me_t_eq.at_, me_t_eq.fn, F_t_eq.bindsN fun _ _ _ _ _ _ us hl => match us, hl with | [_, _], _ => rfl⟩, of_decide_eq_true (c.at_ 114), TT.hm⟩
    have me_b_eq := He.meth_ok (c.at_ 118)
    have EQ_b_eq : EqC PR w K mg base CX0 5 (gA "Book" K) (spBEqL K (gA "Task" K) (gA "Book" K)) := ⟨⟨_, _, _, ok_beqL (ok_beq T BC BT gBk EQ_t_eq F_b_eq) (ok_bne T BT gBk F_b_eq), me_b_eq.at_, me_b_eq.fn, F_b_eq.bindsN fun _ _ _ _ _ _ us hl => match us, hl with | [_, _], _ => rfl⟩, of_decide_eq_true (c.at_ 115), BT.hm⟩
    have R_bplan : Prp PR w K mg base CX0 1 (gA "Book" K) "plan" (spBPlan K (gA "Task" K) (gA "Book" K)) := ⟨⟨_, _, _, fProp_ok (c.at_ 124), ok_bplan BC F_bp_plan, F_bp_plan.bindsN fun _ _ _ _ _ _ us hl => match us, hl with | [_], _ => rfl⟩, BC.cl⟩
    have R_bkinds : Prp PR w K mg base CX0 1 (gA "Book" K) "kinds" (spBKindsM K (gA "Task" K) (gA "Book" K)) := ⟨⟨_, _, _, fProp_ok (c.at_ 125), ok_bkindsM T BC F_bp_kinds, F_bp_kinds.bindsN fun _ _ _ _ _ _ us hl => match us, hl with | [_], _ => rfl⟩, BC.cl⟩
    have R_bnames : Prp PR w K mg base CX0 1 (gA "Book" K) "names" (spBNames K (gA "Task" K) (gA "Book" K)) := ⟨⟨_, _, _, fProp_ok (c.at_ 126), ok_bnames T BC F_bp_names, F_bp_names.bindsN fun _ _ _ _ _ _ us hl => match us, hl with | [_], _ => rfl⟩, BC.cl⟩
    have R_bremembered : Prp PR w K mg base CX0 4 (gA "Book" K) "remembered" (spBRem K (gA "Task" K) (gA "Book" K)) := ⟨⟨_, _, _, fProp_ok (c.at_ 127), ok_brem T BC C_remembered_in F_bp_remembered, F_bp_remembered.bindsN fun _ _ _ _ _ _ us hl => match us, hl with | [_], _ => rfl⟩, BC.cl⟩
    have R_bwidth : Prp PR w K mg base CX0 5 (gA "Book" K) "width" (spBWid K (gA "Task" K) (gA "Book" K)) := ⟨⟨_, _, _, fProp_ok (c.at_ 128), ok_bwid T BC C_width_of F_bp_width, F_bp_width.bindsN fun _ _ _ _ _ _ us hl => match us, hl with | [_], _ => rfl⟩, BC.cl⟩
    have M_b_copied : Mth PR w K mg base CX0 25 (gA "Book" K) "copied" ["self"] [] (spBCopy K (gA "Task" K) (gA "Book" K)) := ⟨⟨_, _, [], He.meth_ok (c.at_ 121), ok_bcopy T BC B_Book F_b_copied, F_b_copied.bindsN fun _ _ _ _ _ _ us hl => match us, hl with | [_], _ => rfl, .nil⟩, BC.cl⟩
    have me_len := He.meth_ok (c.at_ 122)
    have O_len : OwnM PR w K mg base (gA "Book" K) "__len__" 1 ["self"] (spBLen K (gA "Task" K) (gA "Book" K)) := ⟨⟨_, _, ok_blen T BC F_b_len, me_len.at_, me_len.fn, F_b_len.bindsN fun _ _ _ _ _ _ us hl => match us, hl with | [_], _ => rfl⟩⟩
    have me_con := He.meth_ok (c.at_ 123)
    have O_con : OwnM PR w K mg base (gA "Book" K) "__contains__" 1 ["self", "value"] (spBIn K (gA "Task" K) (gA "Book" K)) := ⟨⟨_, _, ok_bin T BC F_b_con, me_con.at_, me_con.fn, F_b_con.bindsN fun _ _ _ _ _ _ us hl => match us, hl with | [_, _], _ => rfl⟩⟩
    have me_it := He.meth_ok (c.at_ 119)
    have IT : ItX PR w K mg base (gA "Task" K) (gA "Book" K) (gA "UnknownTask" K) := ⟨⟨_, _, ok_bitX T BC S_UnknownTask R_bnames F_b_item, me_it.at_, c.at_ 120, me_it.fn, F_b_item.bindsN fun _ _ _ _ _ _ us hl => match us, hl with | [_, _], _ => rfl⟩⟩
    have XU := excX_ok (c.at_ 107)
    have C_law_pen : Own PR w K mg base CX0 1 "_law_pen" ["_law_script"] (spPen K) := ⟨⟨_, _, ok_pen T F_law_pen, He.glo_ok X G (c.at_ 25), F_law_pen.kp, F_law_pen.bindsN fun _ _ _ _ _ _ us hl => match us, hl with | [_], _ => rfl⟩⟩
    have C_law_draw : Own PR w K mg base CX0 1 "_law_draw" ["_law_pen_here", "_law_size"] (spDraw K) := ⟨⟨_, _, ok_draw T F_law_draw, He.glo_ok X G (c.at_ 26), F_law_draw.kp, F_law_draw.bindsN fun _ _ _ _ _ _ us hl => match us, hl with | [_, _], _ => rfl⟩⟩
    have C_law_pick : Own PR w K mg base CX0 2 "_law_pick" ["_law_pen_here", "_law_items"] (spPick K) := ⟨⟨_, _, ok_pick T C_law_draw F_law_pick, He.glo_ok X G (c.at_ 27), F_law_pick.kp, F_law_pick.bindsN fun _ _ _ _ _ _ us hl => match us, hl with | [_, _], _ => rfl⟩⟩
    have C_law_shuffled : Own PR w K mg base CX0 2 "_law_shuffled" ["_law_pen_here", "_law_items"] (spShuf K) := ⟨⟨_, _, ok_shuf T C_law_draw F_law_shuffled, He.glo_ok X G (c.at_ 28), F_law_shuffled.kp, F_law_shuffled.bindsN fun _ _ _ _ _ _ us hl => match us, hl with | [_, _], _ => rfl⟩⟩
    have C_law_words : Own PR w K mg base CX0 3 "_law_words" ["_law_pen_here", "_law_count_here"] (spWords K) := ⟨⟨_, _, ok_words T C_law_draw C_law_pick F_law_words, He.glo_ok X G (c.at_ 29), F_law_words.kp, F_law_words.bindsN fun _ _ _ _ _ _ us hl => match us, hl with | [_, _], _ => rfl⟩⟩
    have C_law_any_value : Own PR w K mg base CX0 3 "_law_any_value" ["_law_pen_here"] (spAny K) := ⟨⟨_, _, ok_any T C_law_pick F_law_any_value, He.glo_ok X G (c.at_ 30), F_law_any_value.kp, F_law_any_value.bindsN fun _ _ _ _ _ _ us hl => match us, hl with | [_], _ => rfl⟩⟩
    have C_law_task : Own PR w K mg base CX0 3 "_law_task" ["_law_pen_here", "_law_names", "_law_roles"] (spTask K) := ⟨⟨_, _, ok_task T C_law_pick C_law_shuffled F_law_task, He.glo_ok X G (c.at_ 31), F_law_task.kp, F_law_task.bindsN fun _ _ _ _ _ _ us hl => match us, hl with | [_, _, _], _ => rfl⟩⟩
    have C_law_made_task : Own PR w K mg base CX0 7 "_law_made_task" ["_law_one"] (spMade K (gA "Task" K)) := ⟨⟨_, _, ok_made T B_Task F_law_made_task, He.glo_ok X G (c.at_ 32), F_law_made_task.kp, F_law_made_task.bindsN fun _ _ _ _ _ _ us hl => match us, hl with | [_], _ => rfl⟩⟩
    have C_law_shown : Own PR w K mg base CX0 3 "_law_shown" ["_law_one"] (spShown K (gA "Task" K)) := ⟨⟨_, _, ok_shown R_role R_many R_other R_same R_takes R_forgets F_law_shown, He.glo_ok X G (c.at_ 33), F_law_shown.kp, F_law_shown.bindsN fun _ _ _ _ _ _ us hl => match us, hl with | [_], _ => rfl⟩⟩
    have C_law_remembered : Own PR w K mg base CX0 3 "_law_remembered" ["_law_tasks"] (spLRem K) := ⟨⟨_, _, ok_law_rem T F_law_remembered, He.glo_ok X G (c.at_ 34), F_law_remembered.kp, F_law_remembered.bindsN fun _ _ _ _ _ _ us hl => match us, hl with | [_], _ => rfl⟩⟩
    have C_law_width : Own PR w K mg base CX0 4 "_law_width" ["_law_tasks"] (spLWid K) := ⟨⟨_, _, ok_law_wid T C_law_remembered F_law_width, He.glo_ok X G (c.at_ 35), F_law_width.kp, F_law_width.bindsN fun _ _ _ _ _ _ us hl => match us, hl with | [_], _ => rfl⟩⟩
    have C_law_plan : ∀ n, Own PR w K mg base CX0 (n + 3) "_law_plan" ["_law_pen_here", "_law_names", "_law_deep", "_law_is_beside"] (spLPlan K n) := rec_at no_lplan (fun n C => ok_lplan T C_law_draw C_law_pick C F_law_plan) (He.glo_ok X G (c.at_ 36)) F_law_plan.kp (F_law_plan.bindsN fun _ _ _ _ _ _ us hl => match us, hl with | [_, _, _, _], _ => rfl)
    have C_law_normal : ∀ n, Own PR w K mg base CX0 (n + 1) "_law_normal" ["_law_plan_here"] (spNF K n) := rec_at no_nf (fun n C => ok_law_normal T C F_law_normal) (He.glo_ok X G (c.at_ 37)) F_law_normal.kp (F_law_normal.bindsN fun _ _ _ _ _ _ us hl => match us, hl with | [_], _ => rfl)
    have C_law_count : ∀ n, Own PR w K mg base CX0 (n + 1) "_law_count" ["_law_plan_here"] (spNum K lenI n) := rec_at no_num (fun n C => ok_law_count T C F_law_count) (He.glo_ok X G (c.at_ 38)) F_law_count.kp (F_law_count.bindsN fun _ _ _ _ _ _ us hl => match us, hl with | [_], _ => rfl)
    have C_law_book : Own PR w K mg base CX0 19 "_law_book" ["_law_pen_here"] (spLBook K) := ⟨⟨_, _, ok_lbook T C_law_draw C_law_words C_law_shuffled C_law_task C_law_remembered C_law_width (C_law_plan 4) (C_law_count 17) F_law_book, He.glo_ok X G (c.at_ 39), F_law_book.kp, F_law_book.bindsN fun _ _ _ _ _ _ us hl => match us, hl with | [_], _ => rfl⟩⟩
    have C_law_item : OwnG PR w K mg base CX0 8 "_law_item" ["_law_book_here", "_law_value"] (spLItem K (gA "Task" K) (gA "Book" K)) := ⟨⟨_, _, ok_item T (He.free_ok X G (c.at_ 66)) S_UnknownTask XU.2 XU.1 (of_decide_eq_true (c.at_ 110)) (of_decide_eq_true (c.at_ 112)) (of_decide_eq_true (c.at_ 111)) IT C_law_shown F_law_item, He.glo_ok X G (c.at_ 40), F_law_item.kp, F_law_item.bindsN fun _ _ _ _ _ _ us hl => match us, hl with | [_, _], _ => rfl⟩⟩
    exact ⟨C_law_pen, C_law_book, C_law_made_task, C_law_shuffled, C_law_any_value, C_law_remembered, C_law_width, C_law_normal 17, C_law_item, B_Book, R_bkinds, R_bnames, R_bremembered, R_bwidth, R_bplan, M_b_copied, EQ_b_eq, O_len, O_con, BT⟩
  exact ok_law T L F_law
end LW
open PySem PySem.W PySem.Calls PyProof.Rows
theorem PySem.Challenge.cw_fewhands_k07_books_made_holds : PySem.Challenge.rw_fewhands_k07_books_made.Holds := by
  w_on; o_law
  refine HandSHeadRun.head_any (r := OpenLaw.row PySem.Challenge.rw_fewhands_k07_books_made) (q := view (OpenLaw.row PySem.Challenge.rw_fewhands_k07_books_made).prog [89]) (H := LW.hk) (ob := Ys.obRT 3000 LW.fb LW.fn LW.fc LW.ts) (M := 14000) (loose := LW.loose) (d := HandSHeadRun.topDef (OpenLaw.row PySem.Challenge.rw_fewhands_k07_books_made).prog 89) (kwd := []) Ys.obRT_eq
    (by kernel_rfl) (fun s => by kernel_rfl) LW.run (by kernel_rfl) (by kernel_rfl) (by kernel_rfl) (by rfl) (by first | assumption | decide +kernel) (by decide +kernel) ⟨rfl, rfl, rfl, rfl, rfl, by decide +kernel⟩ ?hw ?hc
  case hw => w_witness2
  case hc =>
    refine Ys.walk_ofG (l := PySem.Challenge.rw_fewhands_k07_books_made) (n := 63) (k := 30) (x := "_law_script") (CX := fun _ => L2.CX0) rfl (by decide) (by kernel_rfl) ⟨rfl, by decide, by decide⟩ ?F (fun _ _ _ _ _ z => z)
    intro w mg fa h Y G hmg0
    obtain ⟨K, KX, c⟩ := Y
    have hmg : mg ("law" : PySem.Str) = some (.ref fa) := by
      have e : (HandSHeadRun.topDef (OpenLaw.row PySem.Challenge.rw_fewhands_k07_books_made).prog 89).name = ("law" : PySem.Str) := by kernel_rfl
      rw [← e]
      exact hmg0
    obtain ⟨fd, hb, hF⟩ := LW.facts (w := w) KX G hmg c
    exact ⟨K, fd, LW.spLaw K, KX, hb, fun H a ns hl _ hS => ⟨a, ns, rfl, hS, hl, fun _ => rfl⟩, hF⟩
