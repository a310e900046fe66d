import PyProof.Rows.All
import Wide.All
import OpenK.AllK
import Wide.FinOn
import HandS.ForMost
import HandS.SetTxt0
import HandS.Set
import HandS.SetFor
import HandS.Strs
import HandS.More
import PyProof.ReprRoads
import PyProof.CallFns
import KE.KStateDown
import HandS.Defaults
import HandS.Head0
import HandS.Head1
import HandS.Head2
import HandS.HeadEnd
import HandS.HeadHook1
import HandS.HeadHook2
import HandS.Conv
import HandS.TupAny
import HandS.Wide
import HandS.Flow
import HandS.NoneIn
import HandS.IsInst
import HandS.Text
import HandS.Property
import HandS.OwnEq
import HandS.MakeKwOnly
import HandS.MakeKw
import KE.KExcSuper
import KE.RegKSuper
import HandS.Exc
import HandS.ExcInit
import HandS.ExcField
import HandS.ExcIs
import HandS.ExcSuper
import KE.KIsAll
import KE.KTryMore
import HandS.WordsExc
import HandS.RaiseMore
import HandS.ExcOwn
import HandS.Star
import HandS.Style
import HandS.AnyAll
import HandS.HeadHook3
import PyProof.AutoSeq1
import PyProof.Rows.ExtendIn
import PyProof.Runs
import PyProof.Logic
import HandS.Replace
import PyProof.ListStr
import PyProof.StrReplace2
import PySem.Challenge.RW_fewhands_k24_whole_texts_of_plans_bent
import HandS.ReplaceList
import HandS.ReplaceDef
set_option Elab.async false
set_option linter.all false
set_option maxRecDepth 100000
set_option maxHeartbeats 40000000
namespace Ys
open PySem PySem.Spec PyProof.Rows L2
def sysB (K : PySem.W.Frag) : Bool := match K.lookup sysModules with
  | some o => o.cls == .type "dict"
  | none => false
structure DefY where
  ad : PySem.W.Frag → Addr
  name : Str
  qual : Str
  params : Arguments
  body : List Stmt
  scope : Scope
  dfl : List He.Dv := []
  kwd : List (Str × He.Dv) := []
def fnY (K : PySem.W.Frag) (a : Addr) : He.FnW := (K.lookup a).bind fun o => match o.data with
  | .func fd => some (fd.name, fd.qualname, fd.params, fd.body, fd.scope, fd.globals, fd.closure, fd.builtins)
  | _ => none
def DefY.val (d : DefY) : He.FnW := some (d.name, d.qual, d.params, .stmts d.body, d.scope, mainGlobals, [], builtinsNs)
def DefY.dvs (K : PySem.W.Frag) (d : DefY) : List V := d.dfl.map (He.Dv.v K)
def DefY.kws (K : PySem.W.Frag) (d : DefY) : List (Str × V) := d.kwd.map fun q => (q.1, q.2.v K)
def DefY.ok (K : PySem.W.Frag) (d : DefY) : Bool := PySem.W.keepIn K (.ref (d.ad K)) && ((K.lookup (d.ad K)).elim false fun o => match o.data with
  | .func fd => PySem.W.codeIn K fd.code d.qual && (He.dflB K fd.defaults (d.dvs K) && He.kwdB K fd.kwdefaults (d.kws K))
  | _ => false)
def obsZ (fb : List (PySem.W.Frag → Bool)) (fn : List DefY) (K : PySem.W.Frag) : He.AlD := ((fb.all fun f => f K) && fn.all fun d => d.ok K, fn.map fun d => fnY K (d.ad K))
def valZ (fn : List DefY) : He.AlD := (true, fn.map DefY.val)
def SaysZ (fb : List (PySem.W.Frag → Bool)) (fn : List DefY) (K : PySem.W.Frag) : Prop := obsZ fb fn K = valZ fn
def frZ (n : Nat) (g : Addr → Option Obj) : PySem.W.Frag := He.frG g (sysModules :: He.asD g n)
def hookZ (n : Nat) (fb : List (PySem.W.Frag → Bool)) (fn : List DefY) : PySem.W.Hook where
  α := He.AlD
  obs := fun s => obsZ fb fn (frZ n s.heap.get?)
  val := fun _ => valZ fn
  says := fun _ h => ∃ K : PySem.W.Frag, K.In h ∧ SaysZ fb fn K
  of := fun _ _ e => ⟨_, He.frG_in, e⟩
  keeps := fun _ _ _ ⟨K, hK, c⟩ k => ⟨K, PySem.W.Frag.In.keeps hK k, c⟩
def obZ (n : Nat) (fb : List (PySem.W.Frag → Bool)) (fn : List DefY) (s : PySem.W.SharedT) : He.AlD := obsZ fb fn (frZ n (HandSHeadRun.getT s))
def gA (x : Str) (K : PySem.W.Frag) : Addr := He.ga K x
def cA (x m : Str) (K : PySem.W.Frag) : Addr := He.ma K (He.ga K x) m
def pA (x m : Str) (K : PySem.W.Frag) : Addr := match PySem.W.recIn K (cA x m K) "property" with
  | some (.ref g :: _) => g
  | _ => 0
def kA (x f m : Str) (K : PySem.W.Frag) : Addr := match K.lookup (cA x f K) with
  | some ⟨_, _, .func fd, _⟩ => (match fd.kwdefaults with
    | .ref D => (match PySem.W.nsIn K D m with
      | some (some (.ref a)) => a
      | _ => 0)
    | _ => 0)
  | _ => 0
def fProp (x m : Str) (K : PySem.W.Frag) : Bool := decide (PySem.W.findIn K (.ref (He.ga K x)) m = some (some (.ref (cA x m K)))) && (decide (PySem.W.specialIn K (.ref (cA x m K)) "__get__" = some (some (.builtin "property.__get__"))) &&
  (decide (PySem.W.takesIn K (.ref (cA x m K)) = some true) && (match PySem.W.recIn K (cA x m K) "property" with
    | some (.ref g :: _) => decide (g = pA x m K)
    | _ => false)))
def fTy (x : Str) (K : PySem.W.Frag) : Bool := decide (PySem.W.findIn K (.ref (He.ga K x)) "__class__" = some (some (.builtin "object.__class__"))) && (decide (PySem.W.specialIn K (.builtin "object.__class__") "__get__" = some (some (.builtin "getset_descriptor.__get__"))) &&
  (decide (PySem.W.takesIn K (.builtin "object.__class__") = some true) && (decide (PySem.W.mroIn K (He.ga K x) (.type "object") = some true) && ((PySem.W.clsIn K (He.ga K x)).isSome && PySem.W.typeIn K (.ref (He.ga K x)) == some (.type "type")))))
def fNe (x : Str) (K : PySem.W.Frag) : Bool := decide (PySem.W.findIn K (.ref (He.ga K x)) "__ne__" = some (some (.builtin "object.__ne__")))
def fNil (a : PySem.W.Frag → Addr) (K : PySem.W.Frag) : Bool := match K.lookup (a K) with
  | some ⟨.type c, _, .seq its _, _⟩ => decide (c = "tuple") && decide (its.size = 0)
  | _ => false
def fnC (K : PySem.W.Frag) (a : Addr) : He.FnW := (K.lookup a).bind fun o => match o.data with
  | .func g => some (g.name, g.qualname, g.params, g.body, g.scope, g.globals, [], g.builtins)
  | _ => none
def obsC (fb : List (PySem.W.Frag → Bool)) (fn fc : List DefY) (K : PySem.W.Frag) : He.AlD := ((fb.all fun f => f K) && fn.all fun d => d.ok K, (fn.map fun d => fnY K (d.ad K)) ++ fc.map fun d => fnC K (d.ad K))
def valC (fn fc : List DefY) : He.AlD := (true, fn.map DefY.val ++ fc.map DefY.val)
def SaysC (fb : List (PySem.W.Frag → Bool)) (fn fc : List DefY) (K : PySem.W.Frag) : Prop := obsC fb fn fc K = valC fn fc
def frC (n : Nat) (g : Addr → Option Obj) : PySem.W.Frag := He.frG g (cStatics :: sysModules :: He.asD g n)
def hookC (n : Nat) (fb : List (PySem.W.Frag → Bool)) (fn fc : List DefY) : PySem.W.Hook where
  α := He.AlD
  val := fun _ => valC fn fc
  obs := fun t => obsC fb fn fc (frC n t.heap.get?)
  says := fun _ h => ∃ K : PySem.W.Frag, K.In h ∧ SaysC fb fn fc K
  keeps := fun _ _ _ ⟨K, i, c⟩ k => ⟨K, i.keeps k, c⟩
  of := fun _ _ e => ⟨_, He.frG_in, e⟩
def obC (n : Nat) (fb : List (PySem.W.Frag → Bool)) (fn fc : List DefY) (s : PySem.W.SharedT) : He.AlD := obsC fb fn fc (frC n (HandSHeadRun.getT s))
def oexB (K : PySem.W.Frag) (C : Addr) : Bool := match K.lookup C with
  | some ⟨.type t, _, .cls c, sl⟩ => (match c.mro, sl.toList with
    | .ref D :: bm, [_, _, _, _, some (.builtin m), _] => (decide (t = "type") && (decide (D = C) && decide (m = "ValueError.__new__"))) && (PySem.HandSPX.refsVE bm && (c.hasDict && !c.hasDel))
    | _, _ => false)
  | _ => false
def oexA (x : Str) (K : PySem.W.Frag) : Bool := oexB K (He.ga K x) && (decide (PySem.W.findIn K (.ref (He.ga K x)) "__setattr__" = some (some (.builtin "object.__setattr__"))) && (decide (PySem.W.subIn K (.ref (He.ga K x)) (.type "BaseException") = some true) &&
  (decide (PySem.W.typeIn K (.ref (He.ga K x)) = some (.type "type")) && PySem.W.keepIn K (.ref (He.ga K x)))))
def excA (x fld : Str) (K : PySem.W.Frag) : Bool := xfB K (He.ga K x) && (decide (PySem.W.findIn K (.ref (He.ga K x)) "__class__" = some (some (.builtin "object.__class__"))) && (decide (PySem.W.specialIn K (.builtin "object.__class__") "__get__" = some (some (.builtin "getset_descriptor.__get__"))) &&
  (decide (PySem.W.takesIn K (.builtin "object.__class__") = some true) && (decide (PySem.W.mroIn K (He.ga K x) (.type "object") = some true) && (decide (PySem.W.findIn K (.ref (He.ga K x)) fld = some none) &&
  (decide (PySem.W.exmOne K (.ref (He.ga K x)) (.ref (He.ga K x)) = some true) && decide (PySem.W.kitOne K (.ref (He.ga K x)) (.type "ValueError") = some true)))))))
def fileB (K : PySem.W.Frag) (cd : Value) (file : Str) : Bool := match cd with
  | .ref a => (match K.lookup a with
    | some ⟨_, _, .fields vs, _⟩ => (match (vs[2]? : Option Value) with
      | some (.str z _) => file == z
      | _ => false)
    | _ => false)
  | _ => false
def cloB (K : PySem.W.Frag) (clo : List (Str × Addr)) (C : Addr) : Bool := match clo with
  | [(n, c)] => decide (n = "__class__") && (match K.lookup c with
    | some ⟨_, _, .cell (some (.ref D)), _⟩ => decide (D = C)
    | _ => false)
  | _ => false
def supA (x qual fld file : Str) (K : PySem.W.Frag) : Bool := (match K.lookup (cA x "__init__" K) with
    | some ⟨_, _, .func g, _⟩ => PySem.W.codeIn K g.code qual && (fileB K g.code file && (cloB K g.closure (gA x K) && decide (g.defaults = .none)))
    | _ => false) &&
  (decide (PySem.W.ks_superIn K (gA x K) (gA x K) "__init__" = some (some (.builtin "ValueError.__init__"))) && (decide (PySem.W.subIn K (.ref (gA x K)) (.type "ValueError") = some true) && (decide (PySem.W.nsIn K cStatics "thirdparty.any" = some none) &&
  (decide (PySem.W.nsIn K mainGlobals "super" = some none) && (decide (PySem.W.findIn K (.ref (gA x K)) fld = some none) && (decide (PySem.W.mroIn K (gA x K) (.ref (gA x K)) = some true) &&
  (decide (PySem.W.findIn K (.ref (gA x K)) "__init__" = some (some (.ref (cA x "__init__" K)))) && decide (PySem.W.typeIn K (.ref (cA x "__init__" K)) = some (.type "function")))))))))
abbrev AlCT : Type := He.AlD × List (Option (List (Option (Str × Int))))
def obsCT (fb : List (PySem.W.Frag → Bool)) (fn fc : List DefY) (ts : List He.Tab) (K : PySem.W.Frag) : AlCT := (obsC fb fn fc K, ts.map fun t => He.dicW K (t.1 K))
def valCT (fn fc : List DefY) (ts : List He.Tab) (w : World) : AlCT := (valC fn fc, ts.map fun t => some (He.keysIn w.params t.2))
def SaysCT (fb : List (PySem.W.Frag → Bool)) (fn fc : List DefY) (ts : List He.Tab) (w : World) (K : PySem.W.Frag) : Prop := obsCT fb fn fc ts K = valCT fn fc ts w
def hookCT (n : Nat) (fb : List (PySem.W.Frag → Bool)) (fn fc : List DefY) (ts : List He.Tab) : PySem.W.Hook where
  α := AlCT
  val := fun w => valCT fn fc ts w
  obs := fun t => obsCT fb fn fc ts (frC n t.heap.get?)
  says := fun w h => ∃ K : PySem.W.Frag, K.In h ∧ SaysCT fb fn fc ts w K
  keeps := fun _ _ _ ⟨K, i, c⟩ k => ⟨K, i.keeps k, c⟩
  of := fun _ _ e => ⟨_, He.frG_in, e⟩
def obCT (n : Nat) (fb : List (PySem.W.Frag → Bool)) (fn fc : List DefY) (ts : List He.Tab) (s : PySem.W.SharedT) : AlCT := obsCT fb fn fc ts (frC n (HandSHeadRun.getT s))
def valsV (kvs : List (Str × V)) (a : PySem.W.Frag → Addr) (K : PySem.W.Frag) : Bool := kvs.all fun q => match PySem.W.nsIn K (a K) q.1 with
  | some (some u) => He.relB q.2 u
  | _ => false
end Ys
namespace LW
open PySem PySem.Spec PyProof.Rows L2 Ys
abbrev P0 : Program := PySem.Challenge.pw_fewhands_k24_whole_texts_of_plans_bent
def top (i : Nat) : Stmt := P0.main.body.getD i (.Pass ⟨0, 0, 0, 0⟩)
def inner : Stmt → Nat → Stmt
  | .ClassDef _ _ _ body _ _ _ _ _ _ _, j => (body.filter fun y => match y with | .FunctionDef .. => true | _ => false).getD j (.Pass ⟨0, 0, 0, 0⟩)
  | s, _ => s
abbrev s_is_word : Stmt := top 5
abbrev s_is_formed : Stmt := top 9
abbrev s_wrong_part : Stmt := top 10
abbrev s_is_plan : Stmt := top 11
abbrev s_plan_text : Stmt := top 12
abbrev s_PlanReader_init : Stmt := (inner (top 13) 0)
abbrev s_PlanReader_sign : Stmt := (inner (top 13) 1)
abbrev s_PlanReader_mark : Stmt := (inner (top 13) 2)
abbrev s_PlanReader_word : Stmt := (inner (top 13) 3)
abbrev s_PlanReader_begin : Stmt := (inner (top 13) 4)
abbrev s_PlanReader_close : Stmt := (inner (top 13) 5)
abbrev s_PlanReader_go_on : Stmt := (inner (top 13) 6)
abbrev s_PlanReader_whole : Stmt := (inner (top 13) 7)
abbrev s_read_plan : Stmt := top 14
abbrev s_law_pen : Stmt := top 16
abbrev s_law_draw : Stmt := top 17
abbrev s_law_pick : Stmt := top 18
abbrev s_law_words : Stmt := top 19
abbrev s_law_plan : Stmt := top 20
abbrev s_law_text : Stmt := top 21
abbrev s_law_read : Stmt := top 22
abbrev s_law_bent : Stmt := top 23
abbrev s_law : Stmt := top 24
def leastL : List (Str × V) := [("then", .int 0), ("either", .int 1), ("any", .int 1), ("again", .int 1), ("beside", .int 2)]
def mostL : List (Str × V) := [("then", .non), ("either", .non), ("any", .non), ("again", .int 1), ("beside", .int 2)]
abbrev PR : Program := (PySem.Challenge.rw_fewhands_k24_whole_texts_of_plans_bent).prog
abbrev s_x0 : Stmt := inner (top 1) 0
def dSup0 : DefY := ⟨cA "InvalidText" "__init__", "__init__", "InvalidText.__init__", defArgs s_x0, defBody s_x0, defScope s_x0, [], []⟩
def fb : List (PySem.W.Frag → Bool) := [sysB, fun K => He.Fa.ok K (.glo "is_word"), fun K => He.Fa.ok K (.glo "is_formed"), fun K => He.Fa.ok K (.glo "wrong_part"), fun K => He.Fa.ok K (.glo "is_plan"), fun K => He.Fa.ok K (.glo "plan_text"), fun K => He.Fa.ok K (.glo "read_plan"), fun K => He.Fa.ok K (.glo "_law_pen"), fun K => He.Fa.ok K (.glo "_law_draw"), fun K => He.Fa.ok K (.glo "_law_pick"), fun K => He.Fa.ok K (.glo "_law_words"), fun K => He.Fa.ok K (.glo "_law_plan"), fun K => He.Fa.ok K (.glo "_law_text"), fun K => He.Fa.ok K (.glo "_law_read"), fun K => He.Fa.ok K (.glo "_law_bent"), fun K => He.Fa.ok K (.glo "law"), fun K => He.Fa.ok K (.glo "PlanReader"), fun K => He.Fa.ok K (.glo "InvalidText"), fun K => He.Fa.ok K (.glo "LEAST"), fun K => He.Fa.ok K (.glo "MOST"), fun K => He.Fa.ok K (.free "len"), fun K => He.Fa.ok K (.free "int"), fun K => He.Fa.ok K (.free "list"), fun K => He.Fa.ok K (.free "tuple"), fun K => He.Fa.ok K (.free "set"), fun K => He.Fa.ok K (.free "dict"), fun K => He.Fa.ok K (.free "str"), fun K => He.Fa.ok K (.free "bool"), fun K => He.Fa.ok K (.free "sorted"), fun K => He.Fa.ok K (.free "min"), fun K => He.Fa.ok K (.free "max"), fun K => He.Fa.ok K (.free "sum"), fun K => He.Fa.ok K (.free "all"), fun K => He.Fa.ok K (.free "any"), fun K => He.Fa.ok K (.free "repr"), fun K => He.Fa.ok K (.free "range"), fun K => He.Fa.ok K (.free "isinstance"), fun K => He.Fa.ok K (.free "ValueError"), fun K => He.Fa.ok K (.str "LETTERS" "abcdefghijklmnopqrstuvwxyz"), fun K => He.Fa.ok K (.int "LONGEST_WORD" 8), valsV leastL (gA "LEAST"), valsV mostL (gA "MOST"), fun K => He.Fa.ok K (.cls "PlanReader"), fun K => He.Fa.ok K (.noat "PlanReader" "own_text"), fun K => He.Fa.ok K (.noat "PlanReader" "own_place"), fun K => He.Fa.ok K (.noat "PlanReader" "own_parts"), fun K => He.Fa.ok K (.meth "PlanReader" "sign"), fun K => He.Fa.ok K (.meth "PlanReader" "mark"), fun K => He.Fa.ok K (.meth "PlanReader" "word"), fun K => He.Fa.ok K (.meth "PlanReader" "begin"), fun K => He.Fa.ok K (.meth "PlanReader" "close"), fun K => He.Fa.ok K (.meth "PlanReader" "go_on"), fun K => He.Fa.ok K (.meth "PlanReader" "whole"), fun K => He.Fa.ok K (.mkr "PlanReader"), excA "InvalidText" "index", oexA "InvalidText", supA "InvalidText" "InvalidText.__init__" "index" PR.main.file, fun K => decide (PySem.W.nsIn K cStatics sharingNotToldKey = some none)]
def fn : List DefY := [⟨gA "is_word", "is_word", "is_word", defArgs s_is_word, defBody s_is_word, defScope s_is_word, [], []⟩, ⟨gA "is_formed", "is_formed", "is_formed", defArgs s_is_formed, defBody s_is_formed, defScope s_is_formed, [], []⟩, ⟨gA "wrong_part", "wrong_part", "wrong_part", defArgs s_wrong_part, defBody s_wrong_part, defScope s_wrong_part, [], []⟩, ⟨gA "is_plan", "is_plan", "is_plan", defArgs s_is_plan, defBody s_is_plan, defScope s_is_plan, [], []⟩, ⟨gA "plan_text", "plan_text", "plan_text", defArgs s_plan_text, defBody s_plan_text, defScope s_plan_text, [], []⟩, ⟨gA "read_plan", "read_plan", "read_plan", defArgs s_read_plan, defBody s_read_plan, defScope s_read_plan, [], []⟩, ⟨gA "_law_pen", "_law_pen", "_law_pen", defArgs s_law_pen, defBody s_law_pen, defScope s_law_pen, [], []⟩, ⟨gA "_law_draw", "_law_draw", "_law_draw", defArgs s_law_draw, defBody s_law_draw, defScope s_law_draw, [], []⟩, ⟨gA "_law_pick", "_law_pick", "_law_pick", defArgs s_law_pick, defBody s_law_pick, defScope s_law_pick, [], []⟩, ⟨gA "_law_words", "_law_words", "_law_words", defArgs s_law_words, defBody s_law_words, defScope s_law_words, [], []⟩, ⟨gA "_law_plan", "_law_plan", "_law_plan", defArgs s_law_plan, defBody s_law_plan, defScope s_law_plan, [], []⟩, ⟨gA "_law_text", "_law_text", "_law_text", defArgs s_law_text, defBody s_law_text, defScope s_law_text, [], []⟩, ⟨gA "_law_read", "_law_read", "_law_read", defArgs s_law_read, defBody s_law_read, defScope s_law_read, [], []⟩, ⟨gA "_law_bent", "_law_bent", "_law_bent", defArgs s_law_bent, defBody s_law_bent, defScope s_law_bent, [], []⟩, ⟨gA "law", "law", "law", defArgs s_law, defBody s_law, defScope s_law, [], []⟩, ⟨cA "PlanReader" "sign", "sign", "PlanReader.sign", defArgs s_PlanReader_sign, defBody s_PlanReader_sign, defScope s_PlanReader_sign, [], []⟩, ⟨cA "PlanReader" "mark", "mark", "PlanReader.mark", defArgs s_PlanReader_mark, defBody s_PlanReader_mark, defScope s_PlanReader_mark, [], []⟩, ⟨cA "PlanReader" "word", "word", "PlanReader.word", defArgs s_PlanReader_word, defBody s_PlanReader_word, defScope s_PlanReader_word, [], []⟩, ⟨cA "PlanReader" "begin", "begin", "PlanReader.begin", defArgs s_PlanReader_begin, defBody s_PlanReader_begin, defScope s_PlanReader_begin, [], []⟩, ⟨cA "PlanReader" "close", "close", "PlanReader.close", defArgs s_PlanReader_close, defBody s_PlanReader_close, defScope s_PlanReader_close, [], []⟩, ⟨cA "PlanReader" "go_on", "go_on", "PlanReader.go_on", defArgs s_PlanReader_go_on, defBody s_PlanReader_go_on, defScope s_PlanReader_go_on, [], []⟩, ⟨cA "PlanReader" "whole", "whole", "PlanReader.whole", defArgs s_PlanReader_whole, defBody s_PlanReader_whole, defScope s_PlanReader_whole, [], []⟩, ⟨cA "PlanReader" "__init__", "__init__", "PlanReader.__init__", defArgs s_PlanReader_init, defBody s_PlanReader_init, defScope s_PlanReader_init, [], []⟩]
def fc : List DefY := [dSup0]
def ts : List He.Tab := [(gA "LEAST", leastL.map (·.1)), (gA "MOST", mostL.map (·.1))]
abbrev R : PySem.W.OpenRow := PySem.W.OpenLaw.row PySem.Challenge.rw_fewhands_k24_whole_texts_of_plans_bent
abbrev hk : PySem.W.Hook := hookCT 6 fb fn fc ts
def loose : List Str := (["InvalidText", "LETTERS", "LONGEST_WORD", "is_word", "LEAST", "MOST", "is_formed", "wrong_part", "is_plan", "plan_text", "PlanReader", "read_plan", "_law_pen", "_law_draw", "_law_pick", "_law_words", "_law_plan", "_law_text", "_law_read", "_law_bent"] : List Str)
theorem runF (w : World) : HandSHeadRun.RunEq R (PySem.W.view R.prog [24]) hk (obCT 6 fb fn fc ts) 8000 loose (w.withFollow "special-get-raises" false) := by
  intro os
  kernel_rfl
theorem runT (w : World) : HandSHeadRun.RunEq R (PySem.W.view R.prog [24]) hk (obCT 6 fb fn fc ts) 8000 loose (w.withFollow "special-get-raises" true) := by
  intro os
  kernel_rfl
theorem run (w : World) : HandSHeadRun.RunEq R (PySem.W.view R.prog [24]) hk (obCT 6 fb fn fc ts) 8000 loose w := PySem.W.byRow2 "special-get-raises" runF runT w
end LW
/-! sets of texts: made of a list or a tuple, counted, sorted -/
namespace Ys
open PySem PySem.Spec PyProof.Rows L2

def TxSet (P : Program) (w : World) (h : Heap) (a : Addr) (l : List Str) : Prop :=
  ∃ D : Froz.SD, h.get? a = some (Froz.sObj "set" D) ∧ Froz.TxOk P w D l ∧ l.Nodup ∧ Ris D.2.2.place.toList ∧ (w.params.followText "set-order" = true ∨ D.2.2.led = true)

section
variable {P : Program} {w : World} {A : Around} {E : Value → Shared → Prop} {s : Shared}

theorem TxSet.same {h h' : Heap} {a : Addr} {l : List Str} (R : TxSet P w h a l) (k : ∀ o, h.get? a = some o → h'.get? a = some o) : TxSet P w h' a l :=
  let ⟨D, e, r⟩ := R
  ⟨D, k _ e, r⟩

theorem tail_tab (ep : Nat) (es : Array (Int × Value)) (t : SetTable) (b : Bool) (r : Ris t.place.toList) : Ris (Froz.tailTx ep es t b).2.2.place.toList ∧ (Froz.tailTx ep es t b).2.2.led = t.led := by
  unfold Froz.tailTx
  by_cases c : (!b && t.tooFull) = true
  · rw [if_pos c]
    exact ⟨relayAll_ris _ _ _, relayAll_led _ _ _⟩
  · rw [if_neg c]
    exact ⟨r, rfl⟩
theorem add_tab (hs : Int) (v : Value) (D : Froz.SD) (r : Ris D.2.2.place.toList) : Ris (Froz.addTx hs v D).2.2.place.toList ∧ (Froz.addTx hs v D).2.2.led = D.2.2.led := by
  have r1 := layNew_ris D.2.2 D.1 hs v r
  have l1 := layNew_led D.2.2 D.1 hs v
  unfold Froz.addTx
  have core : ∀ t : SetTable, Ris t.place.toList → t.led = D.2.2.led → ∀ ep es b, Ris (Froz.tailTx ep es t b).2.2.place.toList ∧ (Froz.tailTx ep es t b).2.2.led = D.2.2.led := fun t h1 h2 ep es b =>
    ⟨(tail_tab ep es t b h1).1, (tail_tab ep es t b h1).2.trans h2⟩
  refine core _ ?_ ?_ _ _ _
  · split
    · exact r1
    · exact r1
  · split
    · exact l1
    · exact l1

theorem add_there {a : Addr} {D : Froz.SD} {l : List Str} {k : Str} {u : Tok} {Q : Bool → Shared → Prop} (ho : s.heap.get? a = some (Froz.sObj "set" D)) (F : Froz.TxOk P w D l) (hk : k ∈ l) (hb : l.length < scanBound)
    (h : Q false s) : wpAny (model P w) A (setAddHashed a (.str k u) (hashStr w k)) Q E s := by
  obtain ⟨es, ep, t⟩ := D
  have e1 : (Froz.sObj "set" (es, ep, t)).data = .set es ep t := rfl
  have e2 : t.fits es.size = true := F.fit
  have e3 : ElemsOf (PySem.strKind P w) es.toList := F.el
  have e4 : es.size < scanBound := by
    have z : es.size = l.length := F.sz
    rw [z]
    exact hb
  have e5 : (PySem.strKind P w).is k (.str k u) = true := Froz.is_str k u
  unfold setAddHashed setAddHashedIn
  refine wpAny_holding (wpAny_bind (wpAny_setState_of ho e1 e2 ?_))
  dsimp only
  rw [byScan_of rfl e4 e3]
  simp only [↓reduceIte]
  unfold setAddByScan
  refine wpAny_bind (wpAny_bind (wpAny_rule (wpAny_bind (wpAny_setScan_of (knd := PySem.strKind P w) (k := k) e5 ho e1 e2 e3 ?_))))
  cases q : List.findIdx? (fun e => (PySem.strKind P w).is k e.2) es.toList with
  | some j =>
    dsimp only
    exact wpAny_pure (wpAny_pure h)
  | none =>
    obtain ⟨e, he, z⟩ := (F.mem k).mp hk
    have y := List.findIdx?_eq_none_iff.mp q e he
    rw [z] at y
    cases y
theorem add_txt {a : Addr} {l : List Str} {k : Str} {u : Tok} {Q : Bool → Shared → Prop} (R : TxSet P w s.heap a l) (hb : l.length + 1 < scanBound)
    (h : ∀ (b : Bool) (h' : Heap) (l' : List Str), Heap.SameBut a s.heap h' → TxSet P w h' a l' → (∀ x, x ∈ l' ↔ x ∈ l ∨ x = k) → l'.length ≤ l.length + 1 → Q b { s with heap := h' }) :
    wpAny (model P w) A (setAddHashed a (.str k u) (hashStr w k)) Q E s := by
  obtain ⟨D, ho, F, nd, r, ld⟩ := R
  by_cases hk : k ∈ l
  · refine add_there ho F hk (by omega) ?_
    refine h false s.heap l (Heap.SameBut.refl a s.heap) ⟨D, ho, F, nd, r, ld⟩ (fun x => ⟨.inl, fun z => z.elim id fun e => e ▸ hk⟩) (Nat.le_succ _)
  · refine Froz.add_x ho F hk hb ?_
    have ex : (s.heap.update a (fun _ => Froz.sObj "set" (Froz.addTx (hashStr w k) (.str k u) D))).get? a = some (Froz.sObj "set" (Froz.addTx (hashStr w k) (.str k u) D)) := Froz.get_upd _ ho rfl
    obtain ⟨t1, t2⟩ := add_tab (hashStr w k) (.str k u) D r
    refine h true _ (k :: l) (Heap.SameBut.update s.heap a _) ⟨_, ex, Froz.add_ok u F, List.nodup_cons.mpr ⟨hk, nd⟩, t1, ?_⟩ (fun x => ?_) (Nat.le_refl _)
    · rw [t2]
      exact ld
    · rw [List.mem_cons]
      exact Or.comm

theorem fill_txt {I : Addr} {fp wr : List Addr} {G : Array GenState → Array GenState → Prop} {n : Nat} {Pv : Nat → Value → Prop} {St : Nat → Shared → Prop} {R : Result → Shared → Prop}
    (W : WalksS P w A.in1 I fp wr G n Pv St) (S : Addr) (hS : S ∉ fp) (xs : List Str) (hn : xs.length = n) (hfew : n + 1 < scanBound) (hval : ∀ i v, Pv i v → ∃ t, v = .str (xs.getD i Str.empty) t) :
    ∀ (k i : Nat) (s : Shared), n - i = k → i ≤ n → St i s → (∃ l, TxSet P w s.heap S l ∧ (∀ x, x ∈ l ↔ x ∈ xs.take i) ∧ l.length ≤ i) →
      (∀ s' l, Moved (S :: wr) G s s' → TxSet P w s'.heap S l → (∀ x, x ∈ l ↔ x ∈ xs) → l.length ≤ n → R (.ok (.ret .none)) s') →
      codeAny (model P w) A (.builtin "set.update.loop" ⟨[.ref S, .ref I], []⟩) R s := by
  have nw : S ∉ wr := fun z => hS (W.sub _ z)
  have sub : ∀ b ∈ wr, b ∈ S :: wr := fun b hb => List.mem_cons_of_mem _ hb
  intro k
  induction k with
  | zero =>
    intro i s hk hi st ⟨l, T, m, len⟩ hR
    obtain rfl : i = n := by omega
    refine codeAny_builtin PyProof.Rows.F.entry_set_update_loop ?_
    rw [Around.under_plainId PyProof.Rows.F.plain_set_update_loop _]
    refine wpAny_bind (W.done s _ _ st fun s' mv => ?_)
    refine wpAny_pure (hR s' l (mv.mono sub) (T.same fun o e => mv.heap S o nw e) (fun x => ?_) len)
    rw [m x, ← hn, List.take_length]
  | succ k ih =>
    intro i s hk hi st ⟨l, T, m, len⟩ hR
    have hlt : i < n := by omega
    refine codeAny_builtin PyProof.Rows.F.entry_set_update_loop ?_
    rw [Around.under_plainId PyProof.Rows.F.plain_set_update_loop _]
    refine wpAny_bind (W.item i s _ _ hlt st fun v s' hv st' mv => ?_)
    obtain ⟨t, rfl⟩ := hval i v hv
    have T' : TxSet P w s'.heap S l := T.same fun o e => mv.heap S o nw e
    refine wpAny_bind (wpAny_holding ?_)
    unfold setAdd
    refine wpAny_holding (wpAny_bind ((PySem.strKind P w).pyHash (k := xs.getD i Str.empty) (strKind_is _ _ _ _) ?_))
    refine add_txt (s := { s' with toks := s'.toks + 1 }) T' (by omega) fun b h' l' hsb T2 m2 len2 => ?_
    have hg : xs[i]? = some (xs.getD i Str.empty) := by
      have : i < xs.length := by omega
      rw [List.getD_eq_getElem?_getD, List.getElem?_eq_getElem this]
      rfl
    refine wpAny_pure ⟨plainId_quiet PyProof.Rows.F.plain_set_update_loop _, ih (i + 1) _ (by omega) hlt (W.frame _ s' _ _ st' (Nat.le_succ _) fun b hb o e => ?_) ⟨l', T2, fun x => ?_, by omega⟩ fun s'' l2 mv'' T'' m'' len'' => ?_⟩
    · rw [hsb.2 b (fun z : b = S => hS (by rw [← z]; exact hb))]
      exact e
    · rw [m2 x, m x, List.take_succ, hg, List.mem_append]
      simp
    · refine hR s'' l2 (Moved.trans W.gtrans ((mv.mono sub).then_heap (Nat.le_succ _) fun b o hb e => ?_) mv'') T'' m'' len''
      rw [hsb.2 b (fun z : b = S => hb (by rw [z]; exact List.mem_cons_self))]
      exact e
end
end Ys
namespace Ys
open PySem PySem.Spec PyProof.Rows L2
section
variable {P : Program} {w : World} {A : Around} {E : Value → Shared → Prop} {s : Shared}
abbrev bare (w : World) : Obj := { cls := .type "set", dict := none, data := .set #[] 0 (.fresh 0 0 (!w.params.followText "set-order")) }
theorem none_from {h : Heap} {b : Addr} (z : h.objs.size ≤ b) : h.get? b = none := by
  cases q : h.get? b with
  | none => rfl
  | some o => exact absurd (Nat.lt_of_lt_of_le (Heap.lt_size q) z) (Nat.lt_irrefl _)
theorem bare_txt {h : Heap} {a : Addr} (e : h.get? a = some (bare w)) : TxSet P w h a [] := by
  refine ⟨(#[], 0, .fresh 0 0 (!w.params.followText "set-order")), e, Froz.TxOk.nil rfl, List.nodup_nil, List.Pairwise.nil, ?_⟩
  show _ ∨ (!w.params.followText "set-order") = true
  cases w.params.followText "set-order"
  · exact .inr rfl
  · exact .inl rfl
structure TxSrc (P : Program) (w : World) (T : String) (l : Addr) (xs : List Str) (h : Heap) : Prop where
  type : ∀ s' : Shared, (∀ b o, h.get? b = some o → s'.heap.get? b = some o) → s'.TypeIs (.ref l) T
  set : isSubtype (.type T) (.type "set") = pure false
  froz : isSubtype (.type T) (.type "frozenset") = pure false
  nd : (Value.type T == Value.type "dict") = false
  lt : l < h.objs.size
  iter : ∀ (A : Around) (s' : Shared) (E : Value → Shared → Prop) (Q : Value → Shared → Prop), (∀ b o, h.get? b = some o → s'.heap.get? b = some o) →
    (∀ it : Obj, (∀ A' : Around, A'.handled = none → l ≠ s'.heap.objs.size → ∃ (Pv : Nat → Value → Prop) (St : Nat → Heap → Prop),
        Walks P w A' s'.heap.objs.size [s'.heap.objs.size, l] [s'.heap.objs.size] xs.length Pv St ∧ (∀ i v, Pv i v → ∃ t, v = .str (xs.getD i Str.empty) t) ∧ St 0 (s'.heap.push it)) →
      Q (.ref s'.heap.objs.size) { s' with heap := s'.heap.push it }) →
    wpAny (model P w) A (pyIter (.ref l)) Q E s'
theorem src_list {l : Addr} {items : Array Value} {xs : List Str} {h : Heap} (hl : h.IsList l items) (hi : StrsAre items.toList xs) : TxSrc P w "list" l xs h where
  type := fun s' k => by
    obtain ⟨o, e, c, _⟩ := hl
    exact ⟨o, k _ _ e, c⟩
  set := F.sub_list_set
  froz := F.sub_list_frozenset
  nd := by decide
  lt := by
    obtain ⟨o, e, _⟩ := hl
    exact Heap.lt_size e
  iter := fun A s' E Q k hQ => by
    have hl' : s'.heap.IsList l items := by
      obtain ⟨o, e, r⟩ := hl
      exact ⟨o, k _ _ e, r⟩
    refine wpAny_pyIter_list hl' (hQ _ fun A' hA ne => ⟨fun i v => items[i]? = some v, fun i z => z.IsListIter s'.heap.objs.size l i ∧ z.IsList l items, ?_, fun i v hv => SS.strs_at hi i v (by rw [Array.getElem?_toList]; exact hv), ⟨⟨_, Heap.get?_push_size _ rfl, rfl, rfl⟩, hl'.push _⟩⟩)
    have e : xs.length = items.size := by rw [← StrsAre.len_eq hi, Array.length_toList]
    rw [e]
    exact Walks.list hA _ l ne items
theorem src_tuple {l : Addr} {items : Array Value} {xs : List Str} {h : Heap} (hl : h.IsTuple l items) (hi : StrsAre items.toList xs) : TxSrc P w "tuple" l xs h where
  type := fun s' k => by
    obtain ⟨o, e, c, _⟩ := hl
    exact ⟨o, k _ _ e, c⟩
  set := F.sub_tuple_set
  froz := F.sub_tuple_frozenset
  nd := by decide
  lt := by
    obtain ⟨o, e, _⟩ := hl
    exact Heap.lt_size e
  iter := fun A s' E Q k hQ => by
    have hl' : s'.heap.IsTuple l items := by
      obtain ⟨o, e, r⟩ := hl
      exact ⟨o, k _ _ e, r⟩
    refine wpAny_pyIter_tuple hl' (hQ _ fun A' hA ne => ⟨fun i v => items[i]? = some v, fun i z => z.IsTupleIter s'.heap.objs.size l i ∧ z.IsTuple l items, ?_, fun i v hv => SS.strs_at hi i v (by rw [Array.getElem?_toList]; exact hv), ⟨⟨_, Heap.get?_push_size _ rfl, rfl, rfl⟩, hl'.push _⟩⟩)
    have e : xs.length = items.size := by rw [← StrsAre.len_eq hi, Array.length_toList]
    rw [e]
    exact Walks.tuple hA _ l ne items

theorem make_txt {T : String} {l : Addr} {xs : List Str} {Q : Value → Shared → Prop} (hh : A.handled = none) (S : TxSrc P w T l xs s.heap) (few : xs.length + 1 < scanBound)
    (h : ∀ (h' : Heap) (tk : Nat) (l' : List Str), TxSet P w h' s.heap.objs.size l' → (∀ x, x ∈ l' ↔ x ∈ xs) → l'.length ≤ xs.length → (∀ b o, s.heap.get? b = some o → h'.get? b = some o) →
      Q (.ref s.heap.objs.size) { s with heap := h', toks := tk }) : wpAny (model P w) A (call (.type "set") [.ref l]) Q E s := by
  have a1 := F.called_set.made
  have a2 := F.called_set.sub
  have a3 := F.called_set.notType
  have a4 := F.called_set.canCreate
  have a5 := F.typeCall_set_1 (.ref l)
  obtain ⟨c, tl, a6⟩ := F.called_set.mro
  refine wpAny_call (codeAny_of_tree ?_)
  show wpAny _ _ (callAny (.type "set") _) _ _ _
  refine wpAny_pure ⟨Code.quiet_builtin _ (by decide +kernel), codeAny_builtin F.entry_type_call ?_⟩
  rw [Around.under_plain (weight_type_call_type "set" [.ref l] []) rfl]
  repeat (any_goals (first | assumption | wp_step))
  refine codeAny_mono (L2.code_set_led1 (.ref l) (E := E) (Q₁ := fun v z => v = .ref s.heap.objs.size ∧ z = { s with heap := s.heap.push (bare w) }) ⟨rfl, rfl⟩) fun r s1 hr => ?_
  cases r with
  | error e => exact hr
  | ok fl =>
    cases fl with
    | next => exact hr.elim
    | brk => exact hr.elim
    | cont => exact hr.elim
    | ret v =>
      obtain ⟨rfl, rfl⟩ := hr
      have b0 : (s.heap.push (bare w)).get? s.heap.objs.size = some (bare w) := Heap.get?_push_size _ rfl
      have b1 : Shared.TypeIs { s with heap := s.heap.push (bare w) } (.ref s.heap.objs.size) "set" := ⟨_, b0, rfl⟩
      have b2 := F.called_set.init.lookup
      have b3 := F.called_set.init.bind (.ref s.heap.objs.size)
      repeat (any_goals (first | assumption | wp_step))
      refine codeAny_mono (codeAny_call_builtin (R := wants (fun r z => r = .none ∧ ∃ h' tk l', z = { s with heap := h', toks := tk } ∧ TxSet P w h' s.heap.objs.size l' ∧ (∀ x, x ∈ l' ↔ x ∈ xs) ∧ l'.length ≤ xs.length ∧
          (∀ b o, s.heap.get? b = some o → h'.get? b = some o)) E) F.called_set.init.plain F.entry_set_init (check_set_init_1 b1 ?_)) fun r2 s2 hr2 => ?_
      · have k1 : ∀ b o, s.heap.get? b = some o → (s.heap.push (bare w)).get? b = some o := fun b o e => Heap.get?_push_of_some _ e
        have c1 : Shared.TypeIs { s with heap := s.heap.push (bare w) } (.ref l) T := S.type _ k1
        have c2 := S.set
        have c3 := S.froz
        have c4 := S.nd
        unfold Builtin.«set.__init__» noKeywords Builtin.Frozenset.updateFrom
        generalize hPI : pyIter = PI
        wp_walk
        subst hPI
        have hsz : (s.heap.push (bare w)).objs.size = s.heap.objs.size + 1 := Heap.size_push ..
        have lt := S.lt
        refine S.iter _ _ _ _ k1 fun it hit => ?_
        refine wpAny_bind (wpAny_runValue ?_)
        obtain ⟨Pv, St, W, hv, st⟩ := hit A.in1.in1.in1 (by simp [hh]) (by show l ≠ (s.heap.push (bare w)).objs.size; rw [hsz]; exact Nat.ne_of_lt (Nat.lt_succ_of_lt lt))
        have ns : s.heap.objs.size ∉ [(s.heap.push (bare w)).objs.size, l] := by
          rw [hsz]
          simp only [List.mem_cons, List.not_mem_nil, or_false, not_or]
          exact ⟨Nat.ne_of_lt (Nat.lt_succ_self _), Nat.ne_of_gt lt⟩
        refine fill_txt W.toS s.heap.objs.size ns xs rfl few hv (xs.length - 0) 0 _ (by omega) (Nat.zero_le _) st ⟨[], ?_, (fun x => by simp), Nat.zero_le _⟩ fun s' l' mv T' m len => ?_
        · exact bare_txt (Heap.get?_push_of_some _ b0)
        · obtain ⟨h', g', d', tk', os'⟩ := s'
          obtain rfl : g' = s.gens := mv.gens
          obtain rfl : d' = s.drawn := mv.drawn
          obtain rfl : os' = s.os := mv.os
          refine wpAny_pure (wpAny_pure ⟨rfl, h', tk', l', rfl, T', m, len, fun b o e => ?_⟩)
          have hb : b < s.heap.objs.size := Heap.lt_size e
          refine mv.heap b o ?_ (Heap.get?_push_of_some _ (Heap.get?_push_of_some _ e))
          simp only [List.mem_cons, List.not_mem_nil, or_false, not_or]
          refine ⟨Nat.ne_of_lt hb, ?_⟩
          show b ≠ (s.heap.push (bare w)).objs.size
          rw [hsz]
          exact Nat.ne_of_lt (Nat.lt_succ_of_lt hb)
      · cases r2 with
        | error e => exact hr2
        | ok f2 =>
          cases f2 with
          | next => exact hr2.elim
          | brk => exact hr2.elim
          | cont => exact hr2.elim
          | ret r =>
            obtain ⟨rfl, h', tk, l', rfl, T', m, len, k⟩ := hr2
            repeat (any_goals (first | assumption | wp_step))
            exact h _ _ _ T' m len k
end
end Ys
namespace Ys
open PySem PySem.Spec PyProof.Rows L2
section
variable {P : Program} {w : World} {A : Around} {E : Value → Shared → Prop} {s : Shared}
theorem txt_vals {es : List (Int × Value)} (h : ElemsOf (PySem.strKind P w) es) : ∀ e ∈ es, ∃ (x : Str) (t : Tok), e.2 = .str x t := fun e he => by
  obtain ⟨⟨k, hk, _⟩, _⟩ := h e he
  obtain ⟨t, q⟩ := Value.isStrOf_shape (x := k) (v := e.2) hk
  exact ⟨k, t, q⟩
def txtOf : Value → Str
  | .str x _ => x
  | _ => Str.empty
theorem strsAre_txt : ∀ {us : List Value}, (∀ u ∈ us, ∃ (x : Str) (t : Tok), u = .str x t) → StrsAre us (us.map txtOf)
  | [], _ => .nil
  | u :: us, h => by
    obtain ⟨x, t, rfl⟩ := h u List.mem_cons_self
    exact .cons x t (strsAre_txt fun v hv => h v (List.mem_cons_of_mem _ hv))
theorem perm_len : ∀ (l m : List Str), l.Nodup → (∀ x ∈ l, x ∈ m) → m.length ≤ l.length → m.Perm l
  | [], m, _, _, h => by
    have e : m = [] := List.length_eq_zero_iff.mp (Nat.le_zero.mp h)
    rw [e]
  | x :: l, m, nd, h, hl => by
    obtain ⟨n1, n2⟩ := List.nodup_cons.mp nd
    have hx : x ∈ m := h x List.mem_cons_self
    have p := List.perm_cons_erase hx
    have e : m.length = (m.erase x).length + 1 := by rw [p.length_eq, List.length_cons]
    refine p.trans (.cons x (perm_len l (m.erase x) n2 (fun y hy => ?_) (by rw [List.length_cons] at hl; omega)))
    have ne : y ≠ x := fun z => n1 (z ▸ hy)
    exact (List.mem_erase_of_ne ne).mpr (h y (List.mem_cons_of_mem _ hy))
theorem sort_txt {a : Addr} {l : List Str} {Q : Value → Shared → Prop} (hh : A.handled = none) (T : TxSet P w s.heap a l) (few : l.length < 64)
    (hQ : ∀ s' p (out : List Value) (c : Nat) (ys : List Str), (∀ b o, s.heap.get? b = some o → s'.heap.get? b = some o) → s'.gens = s.gens → s'.os = s.os → s.heap.objs.size ≤ p →
      s'.heap.get? p = some { cls := .type "list", data := .seq out.toArray c } → StrsAre out ys → ys.Perm l → sortedS ys = true → Q (.ref p) s') :
    wpAny (model P w) A (call (.builtin "sorted") [.ref a]) Q E s := by
  obtain ⟨⟨es, ep, t⟩, ho, F, nd, r, ld⟩ := T
  have fit : t.fits es.size = true := F.fit
  have sz : es.size = l.length := F.sz
  have el : ElemsOf (PySem.strKind P w) es.toList := F.el
  have vals := txt_vals el
  refine Calls.call_function_entry kind_sorted plain_sorted entry_sorted (args_sorted1 _) ?_
  unfold Builtin.«sorted»
  refine wpAny_bind (m := checkCount "sorted" 1 1 _) (wpAny_pure ?_)
  refine wpAny_bind (collect_set (A := A.in1) hh ⟨_, ho, rfl, rfl⟩ fit (by rw [sz]; unfold scanBound; omega) r ld fun s1 vs k1 hz g1 o1 pm => ?_)
  have hv : ∀ v ∈ vs, ∃ (x : Str) (t : Tok), v = .str x t := fun v hv => by
    obtain ⟨e, he, q⟩ := List.mem_map.mp (pm.mem_iff.mp hv)
    obtain ⟨x, t, z⟩ := vals e he
    exact ⟨x, t, by rw [← q, z]⟩
  have hS := strsAre_txt hv
  have hlen : vs.length = l.length := by rw [pm.length_eq, List.length_map, Array.length_toList, sz]
  -- the texts of the set's entries are l, in some order
  have pl : (vs.map txtOf).Perm l := by
    have p1 : (vs.map txtOf).Perm ((es.toList.map (·.2)).map txtOf) := pm.map txtOf
    have mem : ∀ x, x ∈ (es.toList.map (·.2)).map txtOf ↔ x ∈ l := fun x => by
      rw [F.mem x, List.map_map, List.mem_map]
      constructor
      · rintro ⟨e, he, q⟩
        obtain ⟨y, t, z⟩ := vals e he
        refine ⟨e, he, ?_⟩
        have : y = x := by
          have q' : txtOf e.2 = x := q
          rw [z] at q'
          exact q'
        rw [z, this]
        exact Froz.is_str x t
      · rintro ⟨e, he, q⟩
        obtain ⟨t, z⟩ := Value.isStrOf_shape (x := x) (v := e.2) q
        exact ⟨e, he, by show txtOf e.2 = x; rw [z]; rfl⟩
    have len : ((es.toList.map (·.2)).map txtOf).length = l.length := by rw [List.length_map, List.length_map, Array.length_toList, sz]
    refine p1.trans ?_
    exact perm_len l _ nd (fun x hx => (mem x).mpr hx) (Nat.le_of_eq len)
  refine wpAny_bind (wpAny_newList ?_ (by rw [hlen, sizeLine_eq]; omega))
  have hoL : (s1.heap.push (seqObj "list" vs.toArray 0)).get? s1.heap.objs.size = some (seqObj "list" vs.toArray 0) := Heap.get?_push_size _ rfl
  show wpAny _ _ _ _ _ { s1 with heap := s1.heap.push (seqObj "list" vs.toArray 0) }
  refine wpAny_bind (wpAny_holding (wpAny_call_entry slot_list_sort ⟨_, hoL, rfl⟩ entry_list_sort
    (list_sort_treeK strKind_oneLt (s := { s1 with heap := s1.heap.push (seqObj "list" vs.toArray 0) }) hoL hS.keysOf (fun v1 v2 rest e => keyKind_strs (by rw [← e]; exact hS)) (by rw [hlen]; exact few) fun st' hp hs => ⟨_, rfl, ?_⟩)
    (args_list_sort _)))
  obtain ⟨ys, b1, b2, b3⟩ := sorted_out_str hS hp hs
  obtain ⟨c, hc⟩ := sortedHeap_at (vs := vs) (out := (arrOf st').map (·.2)) hoL
  refine wpAny_pure ⟨_, rfl, hQ _ s1.heap.objs.size ((arrOf st').map (·.2)).toList c ys (fun b u e => ?_) g1 o1 hz (by rw [Array.toArray_toList]; exact hc) b1 (b2.trans pl) b3⟩
  have q := k1 b u e
  have hlt := Heap.lt_size q
  show (sortedHeap (s1.heap.push (seqObj "list" vs.toArray 0)) s1.heap.objs.size vs ((arrOf st').map (·.2))).get? b = some u
  rw [sortedHeap_old (Nat.ne_of_lt hlt) (by rw [size_push']; exact Nat.lt_succ_of_lt hlt)]
  exact Heap.get?_push_of_some _ q
end

/-! ### over the abstract heap -/
def TxO (P : Program) (w : World) (a : Addr) (l : List Str) : HO := .ext fun h => TxSet P w h a l
section
variable {X : Cx}
theorem txO_ok {P : Program} {w : World} {H : Hp} {h : Heap} {a : Addr} {l : List Str} (T : TxSet P w h a l) : ObjOk P w H h a (TxO P w a l) := by
  have ⟨D, e, _⟩ := T
  exact ⟨T, ⟨_, e⟩, fun h1 h2 p k => TxSet.same p k⟩
def rSetTx (K : PySem.W.Frag) (P : Program) (w : World) : List V → Hp → VK → Prop := fun vs H Q => ∃ (p : Addr) (xs : List Str), vs = [V.ref p] ∧ (SqL K H p (xs.map V.str) ∨ SqT K H p (xs.map V.str)) ∧ xs.length < 1000 ∧
  ∀ a l, (∀ x, x ∈ l ↔ x ∈ xs) → l.Nodup → l.length ≤ xs.length → H a = none → Q (.ref a) (upd H a (TxO P w a l))
theorem cr_setTx (hc : X.calm = true) : CallR X (.type "set") (rSetTx X.K X.prog X.w) := by
  intro pins s σ H vs us Q I r h
  obtain ⟨p, xs, rfl, hq, few, q⟩ := h
  rw [Vals.ref1 r]
  have fin : ∀ T, TxSrc X.prog X.w T p xs s.heap → wpAny (model X.prog X.w) X.A (call (.type "set") [.ref p]) (EP X pins σ Q) X.xe s := fun T S => by
    refine make_txt (I.ok.hd hc) S (by unfold scanBound; omega) fun h' tk l' T' m len k => ?_
    have nd : l'.Nodup := let ⟨_, _, _, nd, _⟩ := T'; nd
    exact ⟨.ref s.heap.objs.size, upd H s.heap.objs.size (TxO X.prog X.w s.heap.objs.size l'), I.laid (t' := tk) k (Nat.le_refl _) (txO_ok T'), rfl, q _ l' m nd len (I.hok.fresh (Nat.le_refl _))⟩
  rcases hq with hq | hq
  · obtain ⟨its, rv, pl, hz⟩ := I.list hq
    exact fin "list" (src_list pl.isList (by simpa using rv.strs))
  · obtain ⟨its, rv, pl, hz⟩ := I.tuple hq
    exact fin "tuple" (src_tuple pl (by simpa using rv.strs))
def rSortTx (P : Program) (w : World) : List V → Hp → VK → Prop := fun vs H Q => ∃ (a : Addr) (l : List Str), vs = [V.ref a] ∧ H a = some (TxO P w a l) ∧ l.length < 64 ∧
  ∀ (ys : List Str) (p : Addr), ys.Perm l → sortedS ys = true → H p = none → Q (.ref p) (upd H p (.lst (ys.map V.str)))
theorem cr_sortTx (hc : X.calm = true) : CallR X (.builtin "sorted") (rSortTx X.prog X.w) := by
  intro pins s σ H vs us Q I r h
  obtain ⟨a, l, rfl, ha, few, q⟩ := h
  rw [Vals.ref1 r]
  have T : TxSet X.prog X.w s.heap a l := (I.hok a _ ha).1
  refine sort_txt (I.ok.hd hc) T few fun s' p out c ys k g o hp hg hS pm so => ?_
  have hn : H p = none := I.hok.fresh hp
  have hlen : (ys.map V.str).length ≤ sizeLine := by rw [List.length_map, pm.length_eq, sizeLine_eq]; omega
  obtain ⟨h', g', d', tk', os'⟩ := s'
  obtain rfl : os' = s.os := o
  refine ⟨.ref p, upd H p (.lst (ys.map V.str)), I.call (h' := h') (g' := g') (d' := d') (t' := tk') (ch := []) (Un.laid k hp hn) (I.hok.laid k hp ⟨hlen, out, c, vals_of_strs hS, hg⟩) ?_ (fun _ z => nomatch z), rfl, q ys p pm so hn⟩
  obtain rfl : g' = s.gens := g
  exact I.bare
def rLenTx (P : Program) (w : World) : List V → Hp → VK → Prop := fun vs H Q => ∃ (a : Addr) (l : List Str), vs = [V.ref a] ∧ H a = some (TxO P w a l) ∧ l.length < 1000 ∧ Q (.int l.length) H
theorem cr_lenTx : CallR X (.builtin "len") (rLenTx X.prog X.w) := by
  intro pins s σ H vs us Q I r h
  obtain ⟨a, l, rfl, ha, few, q⟩ := h
  rw [Vals.ref1 r]
  have T : TxSet X.prog X.w s.heap a l := (I.hok a _ ha).1
  obtain ⟨⟨es, ep, t⟩, ho, F, nd, rs, ld⟩ := T
  have sz : es.size = l.length := F.sz
  refine call_len_set ho ⟨rfl, rfl, rfl⟩ rfl F.fit (by rw [sz]; omega) ⟨.int l.length, H, I.tok _, ⟨_, by rw [sz]⟩, q⟩
end

end Ys
namespace Ys
open PySem PySem.Spec PyProof.Rows L2
/-! ### data, dicts too -/
def kD : Key → PyData
  | .inl i => .int i
  | .inr x => .str x
mutual
inductive Dt (K : PySem.W.Frag) (H : Hp) : V → PyData → Prop
  | non : Dt K H .non .none
  | bl (b : Bool) : Dt K H (.bl b) (.bool b)
  | int (i : Int) : Dt K H (.int i) (.int i)
  | str (x : Str) : Dt K H (.str x) (.str x)
  | lst {a : Addr} {xs : List V} {ds : List PyData} : SqL K H a xs → Dts K H xs ds → Dt K H (.ref a) (.list ds)
  | tup {a : Addr} {xs : List V} {ds : List PyData} : SqT K H a xs → Dts K H xs ds → Dt K H (.ref a) (.tuple ds)
  | dct {a : Addr} {kvs : List (Key × V)} {ds : List (PyData × PyData)} : Rd H a (.dK kvs) → ds.map (·.1) = kvs.map (fun p => kD p.1) → Dts K H (kvs.map (·.2)) (ds.map (·.2)) → Dt K H (.ref a) (.dict ds)
inductive Dts (K : PySem.W.Frag) (H : Hp) : List V → List PyData → Prop
  | nil : Dts K H [] []
  | cons {v : V} {vs : List V} {d : PyData} {ds : List PyData} : Dt K H v d → Dts K H vs ds → Dts K H (v :: vs) (d :: ds)
end
section
variable {X : Cx} {pins : List (Addr × Obj)} {σ : L2.St} {H : Hp} {s : Shared}
def SysIn (K : PySem.W.Frag) : Prop := ∃ o, K.lookup sysModules = some o ∧ o.cls = .type "dict"
theorem sys_ne (I : Inv X pins σ H s) (S : SysIn X.K) {a : Addr} {u : HO} (h : Rd H a u) : a ≠ sysModules := by
  rintro rfl
  obtain ⟨o, e, _⟩ := S
  have n := (I.bs _ _ (I.mod.kin _ _ e)).2
  rcases h with h | ⟨_, h⟩
  · rw [n] at h; cases h
  · rw [n] at h; cases h
theorem sys_neL (I : Inv X pins σ H s) (S : SysIn X.K) {a : Addr} {xs : List V} (h : SqL X.K H a xs) : a ≠ sysModules := by
  rcases h with h | ⟨o, its, n, hk, hc, _⟩
  · exact sys_ne I S h
  · rintro rfl
    obtain ⟨o', e, c⟩ := S
    rw [hk] at e
    cases e
    rw [hc] at c
    exact absurd c (by decide)
theorem kD_reads {h : Heap} {k : Key} {v : Value} (e : keyIs k v = true) : Reads h v (kD k) [] := by
  rcases keyIs_shape e with ⟨i, t, rfl, rfl⟩ | ⟨x, t, rfl, rfl⟩
  · exact .int i t
  · exact .str x t
theorem keys_reads {h : Heap} : ∀ {es : List DictEntry} {kvs : List (Key × Value)} {ks : List PyData}, Pairs (mixKind X.prog X.w) es kvs → ks = kvs.map (fun p => kD p.1) → ReadsAll h (es.map (·.key)) ks []
  | _, _, _, .nil, e => by subst e; exact .nil
  | _, _, _, .cons a b r, e => by
    subst e
    exact .cons (kD_reads a) (keys_reads r rfl)
theorem pairs_vals : ∀ {es : List DictEntry} {kvs : List (Key × Value)}, Pairs (mixKind X.prog X.w) es kvs → es.map (·.val) = kvs.map (·.2)
  | _, _, .nil => rfl
  | _, _, .cons a b r => by rw [List.map_cons, List.map_cons, b, pairs_vals r]
theorem kv_vals : ∀ {kvs : List (Key × V)} {vs : List (Key × Value)}, KV kvs vs → Vals (kvs.map (·.2)) (vs.map (·.2))
  | _, _, .nil => .nil
  | _, _, .cons r t => .cons r.2 (kv_vals t)
theorem kv_keys : ∀ {kvs : List (Key × V)} {vs : List (Key × Value)}, KV kvs vs → kvs.map (fun p => kD p.1) = vs.map (fun p => kD p.1)
  | _, _, .nil => rfl
  | _, _, .cons r t => by rw [List.map_cons, List.map_cons, r.1, kv_keys t]
theorem size_snd : ∀ ds : List (PyData × PyData), sizeOf (ds.map (·.2)) ≤ sizeOf ds
  | [] => Nat.le_refl _
  | (k, v) :: ds => by
    have ih := size_snd ds
    simp only [List.map_cons, List.cons.sizeOf_spec, Prod.mk.sizeOf_spec]
    omega
mutual
theorem Dt.reads (I : Inv X pins σ H s) (S : SysIn X.K) : ∀ (d : PyData) (v : V) (u : Value), Dt X.K H v d → RelV v u → ∃ as, Reads s.heap u d as ∧ sysModules ∉ as
  | .none, _, _, h, r => by
    cases h
    cases r
    exact ⟨_, .none, by simp⟩
  | .bool b, _, _, h, r => by
    cases h
    cases r
    exact ⟨_, .bool b, by simp⟩
  | .int i, _, _, h, r => by
    cases h
    obtain ⟨t, rfl⟩ := r
    exact ⟨_, .int i t, by simp⟩
  | .str x, _, _, h, r => by
    cases h
    obtain ⟨t, rfl⟩ := r
    exact ⟨_, .str x t, by simp⟩
  | .list ds, _, _, h, r => by
    cases h with
    | lst hs ha =>
      cases r
      have ne := sys_neL I S hs
      obtain ⟨its, rv, ⟨o, n, ho, hc, _, hd⟩, _⟩ := I.list hs
      obtain ⟨as, hr, na⟩ := Dts.reads I S ds _ its ha rv
      exact ⟨_, .list ho hc hd hr, fun z => (List.mem_cons.mp z).elim (fun e => ne e.symm) na⟩
  | .tuple ds, _, _, h, r => by
    cases h with
    | tup hs ha =>
      cases r
      obtain ⟨its, rv, ⟨o, ho, hc, n, hd⟩, _⟩ := I.tuple hs
      obtain ⟨as, hr, na⟩ := Dts.reads I S ds _ its ha rv
      exact ⟨_, .tuple ho hc hd hr, na⟩
  | .dict ds, _, _, h, r => by
    cases h with
    | dct hs hk ha =>
      cases r
      have ne := sys_ne I S hs
      obtain ⟨_, _, vs, rel, o, es, ep, ho, hx, hd, _, hp, _⟩ := dk_rd I.hok hs
      obtain ⟨as, hr, na⟩ := Dts.reads I S (ds.map (·.2)) _ (vs.map (·.2)) ha (kv_vals rel)
      refine ⟨_, .dict ho hx.1 hd (keys_reads hp (hk.trans (kv_keys rel))) (by rw [pairs_vals hp]; exact hr), fun z => ?_⟩
      exact (List.mem_append.mp z).elim (fun e => ne (List.mem_singleton.mp e).symm) na
termination_by d => sizeOf d
decreasing_by
  · simp only [PyData.list.sizeOf_spec]; omega
  · simp only [PyData.tuple.sizeOf_spec]; omega
  · have := size_snd ds
    simp only [PyData.dict.sizeOf_spec]; omega
theorem Dts.reads (I : Inv X pins σ H s) (S : SysIn X.K) : ∀ (ds : List PyData) (vs : List V) (us : List Value), Dts X.K H vs ds → Vals vs us → ∃ as, ReadsAll s.heap us ds as ∧ sysModules ∉ as
  | [], _, _, h, r => by
    cases h
    cases r
    exact ⟨_, .nil, by simp⟩
  | d :: ds, _, _, h, r => by
    cases h with
    | cons h1 h2 =>
      cases r with
      | cons r1 r2 =>
        obtain ⟨as, q1, n1⟩ := Dt.reads I S d _ _ h1 r1
        obtain ⟨bs, q2, n2⟩ := Dts.reads I S ds _ _ h2 r2
        exact ⟨_, .cons q1 q2, fun z => (List.mem_append.mp z).elim n1 n2⟩
termination_by ds => sizeOf ds
decreasing_by
  · simp only [List.cons.sizeOf_spec]; omega
  · simp only [List.cons.sizeOf_spec]; omega
end
/-! data without dicts -/
mutual
theorem Dt.dp {K : PySem.W.Frag} : ∀ (d : PyData) (v : V), d.canLay0 = true → Dt K H v d → Dp K H v d
  | .none, _, _, h => by cases h; exact .non
  | .bool b, _, _, h => by cases h; exact .bl b
  | .int i, _, _, h => by cases h; exact .int i
  | .str x, _, _, h => by cases h; exact .str x
  | .list ds, _, c, h => by
    cases h with
    | lst hs ha => exact .lst hs (Dts.dp ds _ (by simpa only [PyData.canLay0] using c) ha)
  | .tuple ds, _, c, h => by
    cases h with
    | tup hs ha => exact .tup hs (Dts.dp ds _ (by simpa only [PyData.canLay0] using c) ha)
  | .dict _, _, c, _ => by simp [PyData.canLay0] at c
theorem Dts.dp {K : PySem.W.Frag} : ∀ (ds : List PyData) (vs : List V), PyData.canLayAll0 ds = true → Dts K H vs ds → DpAll K H vs ds
  | [], _, _, h => by cases h; exact .nil
  | d :: ds, _, c, h => by
    cases h with
    | cons h1 h2 =>
      have c' : (d.canLay0 && PyData.canLayAll0 ds) = true := by simpa only [PyData.canLayAll0] using c
      obtain ⟨c1, c2⟩ := Bool.and_eq_true_iff.mp c'
      exact .cons (Dt.dp d _ c1 h1) (Dts.dp ds _ c2 h2)
end
end

/-! ### repr -/
section
variable {X : Cx}
def rRepr (K : PySem.W.Frag) : List V → Hp → VK → Prop := fun vs H Q => ∃ (x : V) (d : PyData), vs = [x] ∧ Dt K H x d ∧ d.showable = true ∧ d.depth ≤ 60 ∧ d.shown.length ≤ sizeLine ∧ Q (.str d.shown) H
theorem cr_repr (hg : X.A.guards = some []) (S : SysIn X.K) (hu : X.A.units + 64 < cLine) : CallR X (.builtin "repr") (rRepr X.K) := by
  intro pins s σ H vs us Q I r h
  obtain ⟨x, d, rfl, hd, sh, dp, sz, q⟩ := h
  obtain ⟨u, rfl, rx⟩ := vals1 r
  obtain ⟨as, hr, na⟩ := Dt.reads I S d x u hd rx
  cases x with
  | non =>
    cases rx; cases hd
    simp only [PyData.shown] at q
    exact PySem.P.repr_of_none ⟨.str _, H, I.tok _, ⟨_, rfl⟩, q⟩
  | bl b =>
    cases rx; cases hd
    simp only [PyData.shown] at q
    exact PySem.P.repr_of_bool ⟨.str _, H, I.tok _, ⟨_, rfl⟩, q⟩
  | int i =>
    obtain ⟨t, rfl⟩ := rx; cases hd
    simp only [PyData.shown] at q
    have hz : i.natAbs.log2 < 1920 := by simpa [PyData.showable] using sh
    exact PySem.P.repr_of_int hz ⟨.str _, H, I.tok _, ⟨_, rfl⟩, q⟩
  | str z =>
    obtain ⟨t, rfl⟩ := rx; cases hd
    simp only [PyData.shown] at q sz
    exact PySem.P.repr_of_str ⟨.str _, H, I.tok _, ⟨_, rfl⟩, q⟩ sz
  | byt _ => cases hd
  | flt _ => cases hd
  | ty _ => cases hd
  | ref a =>
    cases rx
    refine repr_of_reads' hr sh (fun _ => na) hg (by omega) (fun _ _ e => e) (fun h' u tk k => ?_) sz
    exact ⟨.str _, H, I.kept (t' := tk) k, ⟨_, rfl⟩, q⟩
end

/-! ### a def that is told that nothing is being shown -/
structure FnG (P : Program) (w : World) (K : PySem.W.Frag) (mg : Str → Option Value) (base : Heap) (CX : CXT) (k : Nat) (f : Addr) (fd : FuncData) (ps : List Str) (sp : Sp) : Prop where
  len : ∀ vs H Q E, sp vs H Q E → vs.length = ps.length
  run : ∀ (A : Around) (outer : List Env) (s : Shared) (H : Hp) (args : Args) (us : List Value) (vs : List V) (Q : VK) (E : XK), A.guards = some [] → Room k A → Env0 P w K mg base A outer s H → BindsTo s fd args (ps.zip us) → Vals vs us → sp vs H Q E →
    codeAny (model P w) A (.call (.ref f) args) (CR CX outer P w H s Q E) s
theorem FnOk.g {P : Program} {w : World} {K : PySem.W.Frag} {mg : Str → Option Value} {base : Heap} {CX : CXT} {k : Nat} {f : Addr} {fd : FuncData} {ps : List Str} {sp : Sp} (F : FnOk P w K mg base CX k f fd ps sp) : FnG P w K mg base CX k f fd ps sp :=
  ⟨F.len, fun A outer s H args us vs Q E _ => F.run A outer s H args us vs Q E⟩
end Ys
namespace Ys
open PySem PySem.Spec PyProof.Rows L2
section
variable {P : Program} {w : World} {K : PySem.W.Frag} {mg : Str → Option Value} {base : Heap} {x qual : Str} {params : Arguments} {body : List Stmt} {scope : Scope} {dvs : List V} {kws : List (Str × V)} {f : Addr} {fd : FuncData}
theorem okG {CX : CXT} {N ps : List Str} {k : Nat} {sp : Sp} (F : FunD K x qual params body scope dvs kws f fd) (S : FnScope N ps scope) (len : ∀ vs H Q E, sp vs H Q E → vs.length = ps.length)
    (hb : ∀ (cdv : Value) (A : Around) (outer : List Env) (s : Shared) (H : Hp) (vs : List V) (Q : VK) (E : XK), A.guards = some [] → Room k (A.deeper (envOfC qual scope s.heap.objs.size f cdv)) → sp vs H Q E →
      ∃ t, PSs (cxOf CX P w K mg base N qual scope f cdv A outer s H E) body t ∧ t { nx := fun _ H' => Q .non H', rt := Q } (start N vs) H) : FnG P w K mg base CX (k + 1) f fd ps sp := by
  obtain ⟨oc, od, dV, kV, doc, pm, an, cdv, ct, osl, rfl, lk, hcd, _, _⟩ := F.ex
  refine ⟨len, fun A outer s H args us vs Q E hg hr e0 hbd r hsp => ?_⟩
  have KX : K.In s.heap := e0.mod.kin.keeps fun b o e => (e0.bs b o e).1
  have lim : s.heap.NoLimit := e0.mod.nolimit.keeps fun b o e => (e0.bs b o e).1
  refine codeAny_call_function hr.depth (KX _ _ lk) rfl S.co S.gen rfl (PySem.W.codeRec_of KX hcd) (hbd _ _ _ _ (wpAny_newFunctionEnv_cells S.kind (fun y hy => ?_) fun env he s1 z => ?_))
  · rcases S.par y.1 (List.of_mem_zip (show (y.1, y.2) ∈ ps.zip us from hy)).1 with q | q
    · exact .inl q
    · exact .inr ⟨q, PySem.W.cellsFrom_some _ _ _ (.inl q)⟩
  · subst he
    refine ⟨lim.keeps z.toInCall.keep, codeAny_func ?_⟩
    obtain ⟨t, ht, hq⟩ := hb cdv A outer s H vs Q E hg (hr.deeper _) hsp
    have I : Inv (cxOf CX P w K mg base N qual scope f cdv A outer s H E) [] (start N vs) H s1 := inv_start S hr.hd e0 (len _ _ _ _ hsp) r z
    refine wpAny_mono (ht.run [] s1 (start N vs) H _ I hq) (fun fl s' hs => ?_) fun e s' hs => hs
    cases fl with
    | ret u => exact let ⟨v, σ', H', J, rv, q⟩ := hs; ⟨v, H', J.os, J.bare, J.base, J.hok, rv, q⟩
    | next => exact let ⟨σ', H', J, q⟩ := hs; ⟨.non, H', J.os, J.bare, J.base, J.hok, rfl, q⟩
    | brk => exact let ⟨_, _, _, q⟩ := hs; q.elim
    | cont => exact let ⟨_, _, _, q⟩ := hs; q.elim
end

theorem law_callG {P : Program} {w : World} {K : PySem.W.Frag} {mg mb : Str → Option Value} {CX : CXT} {k : Nat} {fa a : Addr} {fd : FuncData} {x : Str} {sp : Sp} {s1 : Shared} {vs : List Value} {ns : List Int}
    (KX : K.In s1.heap) (hns : s1.heap.Ns mainGlobals mg) (hb : s1.heap.Ns builtinsNs mb) (hbb : ∀ x : Str, x ≠ "__name__" → mb x = bootBuiltins x) (hlim : s1.heap.NoLimit) (hg : s1.gens = #[])
    (ha : s1.heap.get? a = some { cls := .type "list", data := .seq vs.toArray }) (hi : IntsAre vs ns) (hl : ns.length ≤ sizeLine) (hr : Room k callerA)
    (F : ∀ base : Heap, K.In base → base.Ns mainGlobals mg → FnG P w K mg base CX k fa fd [x] sp) (hbind : ∀ (s : Shared) (u : Value), BindsTo s fd ⟨[u], []⟩ [(x, u)])
    (hsp : ∀ H : Hp, Only H → SqL K H a (ns.map V.int) → sp [.ref a] H (fun v _ => v = .bl true) fun _ _ _ => False) (hCX : ∀ H e s', CX [] H s1 (fun _ _ _ => False) e s' → False) :
    codeAny (model P w) callerA (.call (.ref fa) ⟨[.ref a], []⟩) (fun r s' => r = .ok (.ret (.bool true)) ∧ OldK s1.heap s'.heap ∧ s'.os = s1.os ∧ AllBare s'.gens) s1 := by
  have rv := vals_ints hi
  have len := hi.length
  -- what is tracked: the script, where the written part does not hold it
  obtain ⟨H, hO, hS, hok, hA, hK⟩ : ∃ H : Hp, Only H ∧ SqL K H a (ns.map V.int) ∧ HOk P w H s1.heap ∧ (∀ b u, H b = some u → b = a) ∧ (∀ u, H a = some u → K.lookup a = none) := by
    cases hk : K.lookup a with
    | some o =>
      have e := KX a o hk
      rw [ha] at e
      cases e
      exact ⟨fun _ => none, fun _ => .inl rfl, .inr ⟨_, vs.toArray, _, hk, rfl, rfl, rfl, by rw [List.size_toArray, len]; exact hl, by simpa using rv⟩, (fun b u (z : (none : Option HO) = some u) => by cases z), (fun b u (z : (none : Option HO) = some u) => by cases z), (fun u (z : (none : Option HO) = some u) => by cases z)⟩
    | none =>
      have at_ : ∀ b u, (if b = a then some (HO.frz { cls := .type "list", data := .seq vs.toArray } (.lst (ns.map V.int))) else none) = some u → b = a ∧ u = .frz { cls := .type "list", data := .seq vs.toArray } (.lst (ns.map V.int)) := fun b u z => by
        by_cases c : b = a
        · rw [if_pos c] at z
          exact ⟨c, (Option.some.inj z).symm⟩
        · rw [if_neg c] at z
          cases z
      refine ⟨fun b => if b = a then some (.frz { cls := .type "list", data := .seq vs.toArray } (.lst (ns.map V.int))) else none, fun b => ?_, .inl (.inr ⟨_, if_pos rfl⟩), fun b u z => ?_, fun b u z => (at_ b u z).1, fun _ _ => rfl⟩
      · by_cases c : b = a
        · exact .inr ⟨_, _, if_pos c⟩
        · exact .inl (if_neg c)
      · obtain ⟨rfl, rfl⟩ := at_ b u z
        exact ⟨ha, by rw [List.length_map]; exact hl, vs, _, rv, ha⟩
  have free : ∀ {b : Addr} {o : Obj} {es : Array DictEntry} {ep : Nat}, s1.heap.get? b = some o → o.data = .dict es ep → H b = none := fun {b o es ep} e d => by
    cases q : H b with
    | none => rfl
    | some u =>
      obtain rfl := hA b u q
      rw [ha] at e
      cases e
      exact nomatch (show Data.seq vs.toArray _ = Data.dict es ep from d)
  have ns_ : ∀ {b : Addr} {m : Str → Option Value}, s1.heap.Ns b m → (hidT s1.heap H).Ns b m := fun {b m} ⟨o, es, ep, e, d, r⟩ => ⟨o, es, ep, hidT_get e (free e d), d, r⟩
  have kb : K.In (hidT s1.heap H) := fun b o e => hidT_get (KX b o e) (by
    cases q : H b with
    | none => rfl
    | some u =>
      obtain rfl := hA b u q
      rw [hK u q] at e
      cases e)
  have md : Mod K mg (hidT s1.heap H) := ⟨kb, ns_ hns, ⟨mb, ns_ hb, hbb⟩, let ⟨mc, h1, h2⟩ := hlim; ⟨mc, ns_ h1, h2⟩⟩
  have e0 : Env0 P w K mg (hidT s1.heap H) callerA [] s1 H := ⟨rfl, md, fun b o e => of_hidT e, Nat.le_of_eq (hidT_size _ _), trivial, fun b hb => absurd (show b ∈ ([] : List Addr) from hb) (by simp), hok, .of_eq hg⟩
  refine codeAny_mono ((F _ kb (ns_ hns)).run callerA [] s1 H ⟨[.ref a], []⟩ [.ref a] [.ref a] _ _ rfl hr e0 (hbind s1 (.ref a)) (.cons rfl .nil) (hsp H hO hS)) fun r s' h => ?_
  cases r with
  | error e => exact (hCX H e s' h).elim
  | ok fl =>
    cases fl with
    | next => exact False.elim h
    | brk => exact False.elim h
    | cont => exact False.elim h
    | ret u =>
      obtain ⟨v, H', os, bare, un, hok', r', q⟩ := h
      obtain rfl : v = .bl true := q
      obtain rfl : u = Value.bool true := r'
      refine ⟨rfl, OldK.of_keep fun b o e => ?_, os, bare⟩
      cases q : H b with
      | none => exact un.keep b o e q (fun z => absurd (show b ∈ ([] : List Addr) from z) (by simp)) (by simp)
      | some u =>
        rcases hO b with z | ⟨ob, xs, z⟩
        · rw [q] at z; cases z
        · obtain ⟨e1, _⟩ := hok b _ z
          obtain ⟨e2, _⟩ := hok' b _ (un.frzs b ob _ z)
          rw [e] at e1
          cases e1
          exact e2

theorem walk_ofG {l : PySem.W.OpenLaw} {n k : Nat} {q : Program} {loose : List Str} {XP : (Str → Option Value) → Heap → Prop} {YP : World → Heap → Prop} {d : DefRec} {CX : World → CXT} {x : Str}
    (hn : l.most = some n) (hn2 : n ≤ sizeLine) (hdf : d.params.defaults = []) (hr : Room k callerA)
    (F : ∀ (w : World) (mg : Str → Option Value) (fa : Addr) (h : Heap), YP w h → h.Ns mainGlobals mg → mg d.name = some (.ref fa) →
      ∃ (K : PySem.W.Frag) (fd : FuncData) (sp : Sp), K.In h ∧ (∀ (s : Shared) (u : Value), BindsTo s fd ⟨[u], []⟩ [(x, u)]) ∧
        (∀ (H : Hp) (a : Addr) (ns : List Int), ns.length ≤ n → Only H → SqL K H a (ns.map V.int) → sp [.ref a] H (fun v _ => v = .bl true) fun _ _ _ => False) ∧
        ∀ base : Heap, K.In base → base.Ns mainGlobals mg → FnG l.prog w K mg base (CX w) k fa fd [x] sp)
    (hCX : ∀ (w : World) (H : Hp) (s : Shared) (e : Value) (s' : Shared), CX w [] H s (fun _ _ _ => False) e s' → False) :
    PySem.W.WalkO q loose XP YP l.row.toRowW d [] (fun f vs => PySem.call f vs) := by
  refine Att.attach_call hn hdf fun w s0 s1 mg mb fa o pm cd doc a vs ns G Y ho hd hcd hmg hobj hints hlen hg => ?_
  obtain ⟨K, fd, sp, KX, hb, hsp, hF⟩ := F w mg fa _ Y G.T.g hmg
  exact law_callG KX G.T.g G.T.b G.T.builtins G.T.nolimit hg hobj hints (Nat.le_trans hlen hn2) hr hF hb (fun H hO hS => hsp H a ns hlen hO hS) fun H e s' => hCX w H s1 e s'

/-! ### the Hook: any look at the written part, which holds the table of modules too -/
def obsY (fb : PySem.W.Frag → Bool) (fn : List He.DefD) (K : PySem.W.Frag) : He.AlD := (fb K && fn.all fun d => d.ok K, fn.map fun d => He.fnW K d.at_)
def SaysY (fb : PySem.W.Frag → Bool) (fn : List He.DefD) (K : PySem.W.Frag) : Prop := obsY fb fn K = He.valD fn
def frY (n : Nat) (g : Addr → Option Obj) : PySem.W.Frag := He.frG g (sysModules :: He.asD g n)
def hookY (n : Nat) (fb : PySem.W.Frag → Bool) (fn : List He.DefD) : PySem.W.Hook where
  α := He.AlD
  obs := fun s => obsY fb fn (frY n s.heap.get?)
  val := fun _ => He.valD fn
  says := fun _ h => ∃ K : PySem.W.Frag, K.In h ∧ SaysY fb fn K
  of := fun _ _ e => ⟨_, He.frG_in, e⟩
  keeps := fun _ _ _ ⟨K, hK, c⟩ k => ⟨K, PySem.W.Frag.In.keeps hK k, c⟩
def obY (n : Nat) (fb : PySem.W.Frag → Bool) (fn : List He.DefD) (s : PySem.W.SharedT) : He.AlD := obsY fb fn (frY n (HandSHeadRun.getT s))
theorem obY_eq {n : Nat} {fb : PySem.W.Frag → Bool} {fn : List He.DefD} (s : PySem.W.SharedT) : obY n fb fn s = (hookY n fb fn).obs s.abs := by
  have e : HandSHeadRun.getT s = s.abs.heap.get? := funext (HandSHeadRun.getT_eq s)
  unfold obY
  rw [e]
  rfl
section
variable {fb : PySem.W.Frag → Bool} {fn : List He.DefD} {K : PySem.W.Frag}
theorem SaysY.look (c : SaysY fb fn K) : fb K = true := (He.ba (show (fb K && fn.all fun d => d.ok K) = true from congrArg (fun z : He.AlD => z.1) c)).1
theorem SaysY.def_ (c : SaysY fb fn K) (i : Nat) {d : He.DefD} (h : fn[i]? = some d := by rfl) : ∃ fd, FunD K d.name d.qual d.params d.body d.scope (d.dvs K) (d.kws K) (He.fAd K d.at_) fd := by
  have c2 := (He.ba (show (fb K && fn.all fun d => d.ok K) = true from congrArg (fun z : He.AlD => z.1) c)).2
  have e : (fn.map fun d => He.fnW K d.at_)[i]? = (fn.map He.DefD.val)[i]? := by rw [show fn.map (fun d => He.fnW K d.at_) = fn.map He.DefD.val from congrArg (fun z : He.AlD => z.2) c]
  rw [List.getElem?_map, List.getElem?_map, h] at e
  exact He.DefD.funD (Option.some.inj e) (List.all_eq_true.mp c2 d (List.mem_of_getElem? h))
theorem sysB_ok (h : sysB K = true) : SysIn K := by
  unfold sysB at h
  cases q : K.lookup sysModules with
  | none => rw [q] at h; cases h
  | some o =>
    rw [q] at h
    exact ⟨o, q, eq_of_beq h⟩
end
end Ys
namespace Ys
open PySem PySem.Spec PyProof.Rows L2
/-! ### the state: G is known and stays, M may change -/
structure Zp (G : Hp) (M : List (Addr × HO)) (H : Hp) : Prop where
  sub : ∀ a o, G a = some o → H a = some o
  own : ∀ (i : Nat) p o, M[i]? = some (p, o) → H p = some o ∧ G p = none
  nd : (M.map (·.1)).Nodup
section
variable {G G0 G1 H H1 : Hp} {M M1 : List (Addr × HO)} {p a : Addr} {o o1 : HO} {K : PySem.W.Frag} {v : V} {d : PyData} {xs vs : List V} {ds : List PyData}
theorem Zp.free (z : Zp G M H) (h : H p = none) : G p = none := by
  cases q : G p with
  | none => rfl
  | some o => rw [z.sub p o q] at h; cases h
theorem Zp.ne (z : Zp G M H) (h : H p = none) {i : Nat} {q : Addr} (e : M[i]? = some (q, o)) : q ≠ p := by
  rintro rfl
  rw [(z.own i q o e).1] at h
  cases h
theorem Same.new (h : G p = none) : Same G (upd G p o) := fun b u e => by
  rw [upd_ne (ne_of_none e h)]
  exact e
theorem Zp.new (z : Zp G M H) (h : H p = none) (o : HO) : Zp (upd G p o) M (upd H p o) where
  sub := fun a u e => by
    by_cases c : a = p
    · subst c
      rw [upd_same] at e ⊢
      exact e
    · rw [upd_ne c] at e ⊢
      exact z.sub a u e
  own := fun i q u e => by
    have ne := z.ne h e
    rw [upd_ne ne, upd_ne ne]
    exact z.own i q u e
  nd := z.nd
theorem Zp.add (z : Zp G M H) (h : H p = none) (o : HO) : Zp G (M ++ [(p, o)]) (upd H p o) where
  sub := fun a u e => by
    rw [upd_ne (ne_of_none (z.sub a u e) h)]
    exact z.sub a u e
  own := fun i q u e => by
    by_cases c : i < M.length
    · rw [List.getElem?_append_left c] at e
      rw [upd_ne (z.ne h e)]
      exact z.own i q u e
    · rw [List.getElem?_append_right (by omega)] at e
      have e0 : i - M.length = 0 := by
        cases n : i - M.length with
        | zero => rfl
        | succ k => rw [n] at e; simp at e
      rw [e0] at e
      obtain ⟨rfl, rfl⟩ : p = q ∧ o = u := by simpa using e
      exact ⟨upd_same, z.free h⟩
  nd := by
    rw [List.map_append, List.nodup_append]
    refine ⟨z.nd, by simp, fun x hx y hy => ?_⟩
    obtain ⟨⟨q, u⟩, hq, rfl⟩ := List.mem_map.mp hx
    obtain rfl : y = p := by simpa using hy
    obtain ⟨i, hi⟩ := List.getElem?_of_mem hq
    exact z.ne h hi
theorem Zp.at_ (z : Zp G M H) (i : Nat) (e : M[i]? = some (p, o)) : H p = some o := (z.own i p o e).1
theorem Zp.put (z : Zp G M H) (i : Nat) (e : M[i]? = some (p, o)) (o1 : HO) : Zp G (M.set i (p, o1)) (upd H p o1) where
  sub := fun a u q => by
    have n := (z.own i p o e).2
    rw [upd_ne (ne_of_none q n)]
    exact z.sub a u q
  own := fun j q u ej => by
    by_cases c : j = i
    · subst c
      rw [List.getElem?_set_self (List.getElem?_eq_some_iff.mp e).1] at ej
      obtain ⟨rfl, rfl⟩ : p = q ∧ o1 = u := by simpa using ej
      exact ⟨upd_same, (z.own j p o e).2⟩
    · rw [List.getElem?_set_ne (fun h => c h.symm)] at ej
      have ne : q ≠ p := by
        rintro rfl
        have hi := (List.getElem?_eq_some_iff.mp e).1
        have hj := (List.getElem?_eq_some_iff.mp ej).1
        have e1 : (M.map (·.1))[i]? = some q := by rw [List.getElem?_map, e]; rfl
        have e2 : (M.map (·.1))[j]? = some q := by rw [List.getElem?_map, ej]; rfl
        exact c ((List.getElem?_inj (by simpa using hj) z.nd).mp (e2.trans e1.symm))
      rw [upd_ne ne]
      exact z.own j q u ej
  nd := by
    have e1 : ((M.set i (p, o1)).map (·.1)) = M.map (·.1) := by
      rw [List.map_set]
      apply List.ext_getElem?
      intro j
      by_cases c : j = i
      · subst c
        have hi := (List.getElem?_eq_some_iff.mp e).1
        rw [List.getElem?_set_self (by simpa using hi), List.getElem?_map, e]
        rfl
      · rw [List.getElem?_set_ne (fun h => c h.symm)]
    rw [e1]
    exact z.nd
theorem Zp.fix (z : Zp G (M ++ [(p, o)]) H) : Zp (upd G p o) M H := by
  have e : (M ++ [(p, o)])[M.length]? = some (p, o) := by simp
  obtain ⟨h1, h2⟩ := z.own _ p o e
  have nd := z.nd
  rw [List.map_append, List.nodup_append] at nd
  refine ⟨fun a u q => ?_, fun i q u ei => ?_, nd.1⟩
  · by_cases c : a = p
    · subst c
      rw [upd_same] at q
      rw [h1]
      exact q
    · rw [upd_ne c] at q
      exact z.sub a u q
  · have hi := (List.getElem?_eq_some_iff.mp ei).1
    have ne : q ≠ p := by
      have := nd.2.2 q (List.mem_map.mpr ⟨(q, u), List.mem_of_getElem? ei, rfl⟩) p (by simp)
      exact this
    rw [upd_ne ne]
    exact z.own i q u (by rw [List.getElem?_append_left hi]; exact ei)
theorem Zp.cut (z : Zp G (M ++ M1) H) : Zp G M H where
  sub := z.sub
  own := fun i q u e => z.own i q u (by rw [List.getElem?_append_left (List.getElem?_eq_some_iff.mp e).1]; exact e)
  nd := by
    have nd := z.nd
    rw [List.map_append, List.nodup_append] at nd
    exact nd.1
theorem Zp.seqL (z : Zp G M H) (h : SqL K G a xs) : SqL K H a xs := by
  rcases h with (h | ⟨o, h⟩) | h
  · exact .inl (.inl (z.sub _ _ h))
  · exact .inl (.inr ⟨o, z.sub _ _ h⟩)
  · exact .inr h
theorem Zp.seqT (z : Zp G M H) (h : SqT K G a xs) : SqT K H a xs := by
  rcases h with (h | ⟨o, h⟩) | h
  · exact .inl (.inl (z.sub _ _ h))
  · exact .inl (.inr ⟨o, z.sub _ _ h⟩)
  · exact .inr h
theorem upL (s : Same G G1) (h : SqL K G a xs) : SqL K G1 a xs := s.seq h
theorem upT (s : Same G G1) (h : SqT K G a xs) : SqT K G1 a xs := by
  rcases h with (h | ⟨o, h⟩) | h
  · exact .inl (.inl (s _ _ h))
  · exact .inl (.inr ⟨o, s _ _ h⟩)
  · exact .inr h
theorem upR (s : Same G G1) (h : Rd G a o) : Rd G1 a o := by
  rcases h with h | ⟨o, h⟩
  · exact .inl (s _ _ h)
  · exact .inr ⟨o, s _ _ h⟩
end
mutual
theorem Dt.up {K : PySem.W.Frag} {G G1 : Hp} (s : Same G G1) : ∀ {v : V} {d : PyData}, Dt K G v d → Dt K G1 v d
  | _, _, .non => .non
  | _, _, .bl b => .bl b
  | _, _, .int i => .int i
  | _, _, .str x => .str x
  | _, _, .lst h a => .lst (upL s h) (Dts.up s a)
  | _, _, .tup h a => .tup (upT s h) (Dts.up s a)
  | _, _, .dct h k a => .dct (upR s h) k (Dts.up s a)
theorem Dts.up {K : PySem.W.Frag} {G G1 : Hp} (s : Same G G1) : ∀ {v : List V} {d : List PyData}, Dts K G v d → Dts K G1 v d
  | _, _, .nil => .nil
  | _, _, .cons h a => .cons (Dt.up s h) (Dts.up s a)
end
theorem Zp.dt {K : PySem.W.Frag} {G H : Hp} {M : List (Addr × HO)} {v : V} {d : PyData} (z : Zp G M H) (h : Dt K G v d) : Dt K H v d := h.up z.sub
end Ys
namespace Ys
open PySem PySem.Spec PyProof.Rows L2
/-! ### operators over any values -/
section
variable {X : Cx}
def rCatL (K : PySem.W.Frag) : R2 := fun x y H Q => ∃ l b xs zs, x = .ref l ∧ y = .ref b ∧ H l = some (.lst xs) ∧ H b = some (.lst zs) ∧ xs.length + zs.length ≤ sizeLine ∧ ∀ p, H p = none → Q (.ref p) (upd H p (.lst (xs ++ zs)))
def rStr2 : R2 := fun x y H Q => ∃ i j, x = .str i ∧ y = .str j ∧ i.length + j.length ≤ sizeLine ∧ Q (.str (i ++ j)) H
def rAddG (K : PySem.W.Frag) : R2 := fun x y H Q => rI0 (fun i j => .int (i + j)) x y H Q ∨ rStr2 x y H Q ∨ rCat x y H Q ∨ rCatA K x y H Q
theorem op_addG : OpR X (binaryOp .Add) (rAddG X.K) := op_add.or ((show OpR X (binaryOp .Add) rStr2 from op_add_str).or (op_cat.or op_catA))
def rEqLen (K : PySem.W.Frag) (r : Bool) : R2 := fun x y H Q => ∃ a b xs ys, x = V.ref a ∧ y = V.ref b ∧ SqL K H a xs ∧ SqL K H b ys ∧ xs.length ≠ ys.length ∧ Q (.bl r) H
theorem isl {X : Cx} {pins : List (Addr × Obj)} {σ : L2.St} {H : Hp} {s : Shared} {a : Addr} {xs : List V} (I : Inv X pins σ H s) (h : SqL X.K H a xs) : ∃ its : List Value, its.length = xs.length ∧ s.heap.IsList a its.toArray := by
  obtain ⟨its, rv, ⟨o, n, ho, hc, hx, hd⟩, _⟩ := I.list h
  exact ⟨its, rv.length.symm, o, ho, hc, n, hd⟩
theorem op_eqLen (hu : X.A.units + 64 < cLine) : OpR X (compareOp .Eq) (rEqLen X.K false) := by
  intro pins s σ H x y v u Q I rx ry ⟨a, b, xs, ys, e1, e2, h1, h2, hne, q⟩
  subst e1 e2
  cases rx
  cases ry
  obtain ⟨i1, l1, j1⟩ := isl I h1
  obtain ⟨i2, l2, j2⟩ := isl I h2
  exact PySem.SeqAt.RcAt.lists_lengths j1 j2 (by rw [List.size_toArray, List.size_toArray, l1, l2]; exact bne_iff_ne.mpr hne) (by omega) X.prog X.w X.xe _ ⟨.bl false, H, I, rfl, q⟩
theorem op_neLen (hu : X.A.units + 64 < cLine) : OpR X (compareOp .NotEq) (rEqLen X.K true) := by
  intro pins s σ H x y v u Q I rx ry ⟨a, b, xs, ys, e1, e2, h1, h2, hne, q⟩
  subst e1 e2
  cases rx
  cases ry
  obtain ⟨i1, l1, j1⟩ := isl I h1
  obtain ⟨i2, l2, j2⟩ := isl I h2
  exact PySem.SeqAt.RcNeAt.lists_lengths j1 j2 (by rw [List.size_toArray, List.size_toArray, l1, l2]; exact bne_iff_ne.mpr hne) (by omega) X.prog X.w X.xe _ ⟨.bl true, H, I, rfl, q⟩
def rEqG (K : PySem.W.Frag) : R2 := fun x y H Q => rEq x y H Q ∨ rEqD K x y H Q ∨ rEqLen K false x y H Q
def rNeG (K : PySem.W.Frag) : R2 := fun x y H Q => rNe x y H Q ∨ rNeD K x y H Q ∨ rEqLen K true x y H Q
theorem op_eqG (hu : X.A.units + 64 < cLine) : OpR X (compareOp .Eq) (rEqG X.K) := op_eq.or ((op_eqD hu).or (op_eqLen hu))
theorem op_neG (hu : X.A.units + 64 < cLine) : OpR X (compareOp .NotEq) (rNeG X.K) := op_ne.or ((op_neD hu).or (op_neLen hu))
def rSlG (K : PySem.W.Frag) : V → Option Int → Option Int → Hp → VK → Prop := fun x lo hi H Q => rSlL K x lo hi H Q ∨ rSlA K x lo hi H Q ∨ rSlS x lo hi H Q
theorem sl_any : SlR X (rSlG X.K) := sl_list.or (sl_tupA.or sl_str)
abbrev rMulG : R2 := rI CMulW fun i j => .int (i * j)
abbrev rDivG : R2 := rI CDivW fun i j => .int (i / j)
abbrev rModG : R2 := rI (fun _ j => 0 < j) fun i j => .int (i % j)
abbrev rPowG : R2 := rI CPow fun i j => .int (i ^ j.toNat)
abbrev rSubG : R2 := rI0 fun i j => .int (i - j)
abbrev rLtG : R2 := rI0 fun i j => .bl (decide (i < j))
abbrev rLeG : R2 := rI0 fun i j => .bl (decide (i ≤ j))
abbrev rGtG : R2 := rI0 fun i j => .bl (decide (j < i))
abbrev rGeG : R2 := rI0 fun i j => .bl (decide (j ≤ i))
theorem o_sub : OpR X (binaryOp .Sub) rSubG := op_sub
theorem o_mul : OpR X (binaryOp .Mult) rMulG := op_mulW
theorem o_div : OpR X (binaryOp .FloorDiv) rDivG := op_fdivW
theorem o_mod : OpR X (binaryOp .Mod) rModG := op_mod
theorem o_pow : OpR X (binaryOp .Pow) rPowG := op_pow
theorem o_lt : OpR X (compareOp .Lt) rLtG := op_lt
theorem o_le : OpR X (compareOp .LtE) rLeG := op_le
theorem o_gt : OpR X (compareOp .Gt) rGtG := op_gt
theorem o_ge : OpR X (compareOp .GtE) rGeG := op_ge
abbrev rIsNon : R2 := fun x y H Q => y = .non ∧ Q (.bl (decide (x = .non))) H
abbrev rNotNon : R2 := fun x y H Q => y = .non ∧ Q (.bl (!decide (x = .non))) H
theorem o_isN : OpR X (compareOp .Is) rIsNon := op_isN
theorem o_notN : OpR X (compareOp .IsNot) rNotNon := op_notN
def rInG (K : PySem.W.Frag) (neg : Bool) : R2 := fun x y H Q => (∃ c z, x = V.str ⟨#[c]⟩ ∧ y = V.str z ∧ Q (.bl (if neg then !decide (c ∈ z.cps.toList) else decide (c ∈ z.cps.toList))) H) ∨ rIn K neg x y H Q
theorem o_in : OpR X (compareOp .In) (rInG X.K false) := by
  refine OpR.or ?_ op_in_seq
  intro pins s σ H x y v u Q I rx ry ⟨c, z, e1, e2, q⟩
  exact op_in_sign pins s σ H x y v u Q I rx ry ⟨c, z, e1, e2, by simpa using q⟩
theorem o_notIn : OpR X (compareOp .NotIn) (rInG X.K true) := by
  refine OpR.or ?_ op_notIn_seq
  intro pins s σ H x y v u Q I rx ry ⟨c, z, e1, e2, q⟩
  exact op_notIn_sign pins s σ H x y v u Q I rx ry ⟨c, z, e1, e2, by simpa using q⟩
def rIntG : List V → Hp → VK → Prop := fun xs H Q => (∃ i, xs = [.int i] ∧ Q (.int i) H) ∨ ∃ k, xs = [.bl k] ∧ Q (.int (if k then 1 else 0)) H
theorem c_int : CallR X (.type "int") rIntG := call_int1
def rLenG (K : PySem.W.Frag) (P : Program) (w : World) : List V → Hp → VK → Prop := fun xs H Q => (∃ x n, xs = [x] ∧ LenV K x H n ∧ Q (.int n) H) ∨ rLenTx P w xs H Q
theorem c_len : CallR X (.builtin "len") (rLenG X.K X.prog X.w) := CallR.or call_len cr_lenTx
def rListG (K : PySem.W.Frag) : List V → Hp → VK → Prop := fun xs H Q => ∃ p ys, xs = [V.ref p] ∧ (SqL K H p ys ∨ SqT K H p ys) ∧ ∀ l, H l = none → Q (.ref l) (upd H l (.lst ys))
theorem c_list : CallR X (.type "list") (rListG X.K) := call_list_of
def rTupG (K : PySem.W.Frag) : List V → Hp → VK → Prop := fun xs H Q => ∃ p ys, xs = [V.ref p] ∧ ((SqL K H p ys ∧ ∀ l, H l = none → Q (.ref l) (upd H l (.tup ys))) ∨ (SqT K H p ys ∧ Q (.ref p) H))
theorem c_tuple : CallR X (.type "tuple") (rTupG X.K) := call_tuple_of
def rMin2 : List V → Hp → VK → Prop := fun xs H Q => ∃ i j, xs = [V.int i, V.int j] ∧ Q (.int (if j < i then j else i)) H
theorem c_min2 (hc : X.calm = true) : CallR X (.builtin "min") rMin2 := call_min2 hc
def rAllG (K : PySem.W.Frag) : List V → Hp → VK → Prop := fun vs H Q => ∃ (a : Addr) (bs : List Bool), vs = [V.ref a] ∧ SqL K H a (bs.map V.bl) ∧ Q (.bl (bs.all id)) H
theorem c_all (hc : X.calm = true) : CallR X (.builtin "all") (rAllG X.K) := cr_all hc
def rSortG (K : PySem.W.Frag) (P : Program) (w : World) : List V → Hp → VK → Prop := fun vs H Q => rSortTx P w vs H Q ∨ rSortedS K vs H Q
theorem c_sorted (hc : X.calm = true) : CallR X (.builtin "sorted") (rSortG X.K X.prog X.w) := CallR.or (cr_sortTx hc) cr_sortedS
end

/-! ### the steps of a reading -/
def Bif (c : Bool) (A B : Prop) : Prop := if c = true then A else B
def IsB (x : V) (H : Hp) (Q : Bool → Hp → Prop) : Prop := ∃ k, x = .bl k ∧ Q k H
def IsP (x : V) (H : Hp) (Q : Option Int → Hp → Prop) : Prop := ∃ i, x = .int i ∧ Q (some i) H
def NewT (xs : List V) (H : Hp) (Q : VK) : Prop := xs.length ≤ sizeLine ∧ ∀ p, H p = none → Q (.ref p) (upd H p (.tup xs))
def NewL (xs : List V) (H : Hp) (Q : VK) : Prop := xs.length ≤ sizeLine ∧ ∀ p, H p = none → Q (.ref p) (upd H p (.lst xs))
section
variable {K : PySem.W.Frag} {G H : Hp} {M : List (Addr × HO)} {σ : L2.St} {Q : VK} {QB : Bool → Hp → Prop} {QO : Option Int → Hp → Prop} {QA : List V → Hp → Prop} {D : Ends} {ta tb te : TE} {tt uu : TT} {tr t : TA} {t1 t2 : TS} {r : R2} {A B : Prop} {c : Bool} {v x y : V} {i j : Int} {k : Nat} {p a b : Addr} {xs ys vs : List V} {sp : Sp} {E : XK} {g : TG}
theorem z_var (h : σ[k]? = some (some v)) (q : Q v H) : tVar k σ H Q := ⟨v, h, q⟩
theorem z_c (q : Q v H) : tC v σ H Q := q
theorem z_op (h : ta σ H fun x H1 => tb σ H1 fun y H2 => r x y H2 Q) : tOp r ta tb σ H Q := h
theorem z_un {r : V → Hp → VK → Prop} (h : ta σ H fun x H1 => r x H1 Q) : tUn r ta σ H Q := h
theorem z_test (h : te σ H fun x H1 => IsB x H1 QB) : tTest te σ H QB := h
theorem z_tB (h : te σ H fun x H1 => IsB x H1 QB) : tB te σ H QB := h
theorem z_isB (q : QB c H) : IsB (.bl c) H QB := ⟨c, rfl, q⟩
theorem z_bT (h : A) : Bif true A B := by unfold Bif; rw [if_pos rfl]; exact h
theorem z_bF (h : B) : Bif false A B := by unfold Bif; rw [if_neg Bool.false_ne_true]; exact h
theorem z_b2 (h1 : c = true → A) (h2 : c = false → B) : Bif c A B := by
  cases c with
  | true => exact z_bT (h1 rfl)
  | false => exact z_bF (h2 rfl)
theorem z_bN (h : Bif c B A) : Bif (!c) A B := by cases c with | true => exact h | false => exact h
theorem z_bD {p : Prop} [Decidable p] (h1 : p → A) (h2 : ¬ p → B) : Bif (decide p) A B := z_b2 (fun h => h1 (of_decide_eq_true h)) fun h => h2 (of_decide_eq_false h)
theorem z_and (h : tt σ H fun c H1 => Bif c (uu σ H1 QB) (QB false H1)) : tAnd tt uu σ H QB := h
theorem z_or (h : tt σ H fun c H1 => Bif c (QB true H1) (uu σ H1 QB)) : tOr tt uu σ H QB := h
theorem z_not (h : tt σ H fun c H1 => QB (!c) H1) : tNot tt σ H QB := h
theorem z_andV (h : ta σ H fun x H1 => IsB x H1 fun c H1 => Bif c (tb σ H1 Q) (Q (.bl false) H1)) : tAndV ta tb σ H Q := h
theorem z_orV (h : ta σ H fun x H1 => IsB x H1 fun c H1 => Bif c (Q (.bl true) H1) (tb σ H1 Q)) : tOrV ta tb σ H Q := h
theorem z_notV (h : ta σ H fun x H1 => IsB x H1 fun c H1 => Q (.bl (!c)) H1) : tNotV ta σ H Q := h
theorem z_if (h : tt σ H fun c H1 => Bif c (ta σ H1 Q) (tb σ H1 Q)) : tIf tt ta tb σ H Q := h
theorem z_nil (q : QA [] H) : tNil σ H QA := q
theorem z_cons (h : ta σ H fun x H1 => tr σ H1 fun xs H2 => QA (x :: xs) H2) : tCons ta tr σ H QA := h
theorem z_tup (h : t σ H fun xs H1 => NewT xs H1 Q) : tTup t σ H Q := h
theorem z_lst (h : t σ H fun xs H1 => NewL xs H1 Q) : tLst t σ H Q := h
theorem z_cb {r : List V → Hp → VK → Prop} (h : t σ H fun vs H1 => r vs H1 Q) : tCB r t σ H Q := h
theorem z_call {dvs : List V} (h : t σ H fun vs H1 => sp (vs ++ dvs) H1 Q E) : tCall sp dvs E t σ H Q := h
theorem z_sl {r : V → Option Int → Option Int → Hp → VK → Prop} {tl th : TO} (h : te σ H fun x H1 => tl σ H1 fun l H2 => th σ H2 fun u H3 => r x l u H3 Q) : tSl r te tl th σ H Q := h
theorem z_np (q : QO none H) : tNoPart σ H QO := q
theorem z_part (h : te σ H fun x H1 => IsP x H1 QO) : tPart te σ H QO := h
theorem z_isP (q : QO (some i) H) : IsP (.int i) H QO := ⟨i, rfl, q⟩
theorem z_seq (h : t1 ⟨t2 D, D.rt, D.bk, D.ct⟩ σ H) : tSeq t1 t2 D σ H := h
theorem z_asg (h : te σ H fun x H1 => g x σ H1 D.nx) : tAsg te g D σ H := h
theorem z_name {R : L2.St → Hp → Prop} (q : R (σ.set k (some v)) H) : gName k v σ H R := q
theorem z_ifS (h : tt σ H fun b H1 => Bif b (t1 D σ H1) (t2 D σ H1)) : tIfS tt t1 t2 D σ H := h
theorem z_ret (h : te σ H D.rt) : tRet te D σ H := h
theorem z_retN (q : D.rt .non H) : tRetN D σ H := q
theorem z_drop (h : te σ H fun _ H1 => D.nx σ H1) : tDrop te D σ H := h
theorem z_next (q : D.nx σ H) : tNext D σ H := q
theorem z_par {k l : Nat} {w : V} (h : t σ H fun vs H1 => ∃ v w, vs = [v, w] ∧ D.nx ((σ.set k (some v)).set l (some w)) H1) : tPar k l t D σ H := h
theorem z_dget (h : ta σ H fun x H1 => tb σ H1 fun y H2 => ∃ a v, x = .ref a ∧ DGet H2 a y (some v) ∧ Q v H2) : tDGet ta tb σ H Q := h

/-! new objects -/
theorem z_newT (z : Zp G M H) (hl : xs.length ≤ 4000000) (q : ∀ p G1 H1, Zp G1 M H1 → Same G G1 → G1 p = some (.tup xs) → Q (.ref p) H1) : NewT xs H Q :=
  ⟨Nat.le_trans hl (by decide), fun p hp => q p _ _ (z.new hp _) (Same.new (z.free hp)) upd_same⟩
theorem z_newL (z : Zp G M H) (hl : xs.length ≤ 4000000) (q : ∀ p G1 H1, Zp G1 M H1 → Same G G1 → G1 p = some (.lst xs) → Q (.ref p) H1) : NewL xs H Q :=
  ⟨Nat.le_trans hl (by decide), fun p hp => q p _ _ (z.new hp _) (Same.new (z.free hp)) upd_same⟩
theorem z_ownL (z : Zp G M H) (hl : xs.length ≤ 4000000) (q : ∀ p H1, Zp G (M ++ [(p, .lst xs)]) H1 → Q (.ref p) H1) : NewL xs H Q :=
  ⟨Nat.le_trans hl (by decide), fun p hp => q p _ (z.add hp _)⟩

/-! operators -/
theorem z_addI (q : Q (.int (i + j)) H) : rAddG K (.int i) (.int j) H Q := .inl ⟨i, j, rfl, rfl, q⟩
theorem z_addS {x y : Str} (hl : x.length + y.length ≤ 4000000) (q : Q (.str (x ++ y)) H) : rAddG K (.str x) (.str y) H Q := .inr (.inl ⟨x, y, rfl, rfl, Nat.le_trans hl (by decide), q⟩)
theorem z_addL (z : Zp G M H) (h1 : G a = some (.lst xs)) (h2 : G b = some (.lst ys)) (hl : xs.length + ys.length ≤ 4000000) (q : ∀ p G1 H1, Zp G1 M H1 → Same G G1 → G1 p = some (.lst (xs ++ ys)) → Q (.ref p) H1) : rAddG K (.ref a) (.ref b) H Q :=
  .inr (.inr (.inl ⟨a, b, xs, ys, rfl, rfl, z.sub _ _ h1, z.sub _ _ h2, Nat.le_trans hl (by decide), fun p hp => q p _ _ (z.new hp _) (Same.new (z.free hp)) upd_same⟩))
theorem z_addT (z : Zp G M H) (h1 : SqT K G a xs) (h2 : SqT K G b ys) (hl : xs.length + ys.length ≤ 4000000) (q : ∀ p G1 H1, Zp G1 M H1 → Same G G1 → SqT K G1 p (xs ++ ys) → Q (.ref p) H1) : rAddG K (.ref a) (.ref b) H Q := by
  refine .inr (.inr (.inr ⟨a, b, xs, ys, rfl, rfl, z.seqT h1, z.seqT h2, Nat.le_trans hl (by decide), fun e => ?_, fun _ e => ?_, fun _ _ p hp => ?_⟩))
  · subst e
    exact q b G H z (Same.refl G) h2
  · subst e
    exact q a G H z (Same.refl G) (by rw [List.append_nil]; exact h1)
  · exact q p _ _ (z.new hp _) (Same.new (z.free hp)) (SqT.of upd_same)
theorem z_I0 {f : Int → Int → V} (q : Q (f i j) H) : rI0 f (.int i) (.int j) H Q := ⟨i, j, rfl, rfl, q⟩
theorem z_I {C : Int → Int → Prop} {f : Int → Int → V} (h : C i j) (q : Q (f i j) H) : rI C f (.int i) (.int j) H Q := ⟨i, j, rfl, rfl, h, q⟩
theorem z_eqS (h : scal x y = true) (q : Q (.bl (decide (x = y))) H) : rEqG K x y H Q := .inl ⟨h, q⟩
theorem z_neS (h : scal x y = true) (q : Q (.bl (!decide (x = y))) H) : rNeG K x y H Q := .inl ⟨h, q⟩
theorem z_eqD {d e : PyData} (z : Zp G M H) (h1 : Dt K G x d) (h2 : Dt K G y e) (c1 : SeqAt.shaped d = true) (c2 : SeqAt.shaped e = true) (q : Q (.bl (PyData.eqv d e)) H) : rEqG K x y H Q :=
  .inr (.inl ⟨d, e, Dt.dp d x (SeqAt.canLay_of_shaped c1) (z.dt h1), Dt.dp e y (SeqAt.canLay_of_shaped c2) (z.dt h2), c1, c2, q⟩)
theorem z_neD {d e : PyData} (z : Zp G M H) (h1 : Dt K G x d) (h2 : Dt K G y e) (c1 : SeqAt.shaped d = true) (c2 : SeqAt.shaped e = true) (q : Q (.bl (!PyData.eqv d e)) H) : rNeG K x y H Q :=
  .inr (.inl ⟨d, e, Dt.dp d x (SeqAt.canLay_of_shaped c1) (z.dt h1), Dt.dp e y (SeqAt.canLay_of_shaped c2) (z.dt h2), c1, c2, q⟩)
theorem z_ixL (z : Zp G M H) (h : SqL K G a xs) (e : atI xs i = some v) (q : Q v H) : rIx K (.ref a) (.int i) H Q := .inl ⟨a, xs, i, v, rfl, rfl, z.seqL h, e, q⟩
theorem z_ixT (z : Zp G M H) (h : SqT K G a xs) (e : atI xs i = some v) (q : Q v H) : rIx K (.ref a) (.int i) H Q := .inr (.inl ⟨a, xs, i, v, rfl, rfl, z.seqT h, e, q⟩)
theorem z_ixS {s : Str} {ch : Nat} (hl : s.length ≤ 4000000) (e : atI s.cps.toList i = some ch) (q : Q (.str ⟨#[ch]⟩) H) : rIx K (.str s) (.int i) H Q := .inr (.inr ⟨s, i, ch, rfl, rfl, Nat.le_trans hl (by decide), e, q⟩)
theorem z_slL {lo hi : Option Int} (z : Zp G M H) (h : SqL K G a xs) (q : ∀ p G1 H1, Zp G1 M H1 → Same G G1 → G1 p = some (.lst (cutV xs lo hi)) → Q (.ref p) H1) : rSlG K (.ref a) lo hi H Q :=
  .inl ⟨a, xs, rfl, z.seqL h, fun p hp => q p _ _ (z.new hp _) (Same.new (z.free hp)) upd_same⟩
theorem sIx_all {lo hi : Option Int} (h : HT.sIx xs.length 0 lo = 0 ∧ HT.sIx xs.length xs.length hi = xs.length) : cutV xs lo hi = xs := by
  unfold cutV
  rw [h.1, h.2]
  simp
theorem z_slT {lo hi : Option Int} (z : Zp G M H) (h : SqT K G a xs) (q : ∀ p G1 H1, Zp G1 M H1 → Same G G1 → SqT K G1 p (cutV xs lo hi) → Q (.ref p) H1) : rSlG K (.ref a) lo hi H Q :=
  .inr (.inl ⟨a, xs, rfl, z.seqT h, fun e => q a G H z (Same.refl G) (by rw [sIx_all e]; exact h), fun _ p hp => q p _ _ (z.new hp _) (Same.new (z.free hp)) (SqT.of upd_same)⟩)
theorem z_slS {s : Str} {lo hi : Option Int} (hl : s.length ≤ 4000000) (q : Q (.str (cutS s lo hi)) H) : rSlG K (.str s) lo hi H Q := .inr (.inr ⟨s, rfl, Nat.le_trans hl (by decide), q⟩)
/-! calls of what is built in -/
theorem z_int (q : Q (.int i) H) : rIntG [.int i] H Q := .inl ⟨i, rfl, q⟩
theorem z_lenL {P : Program} {w : World} (z : Zp G M H) (h : SqL K G a xs) (q : Q (.int xs.length) H) : rLenG K P w [.ref a] H Q := .inl ⟨_, _, rfl, .inl ⟨xs, z.seqL h, rfl⟩, q⟩
end
end Ys
namespace Ys
open PySem PySem.Spec PyProof.Rows L2
/-! ### sorted, different texts: one list alone -/
theorem ltCps_irr : ∀ xs : List Nat, ltCps xs xs = false := fun xs => by rw [ltCps_eq]; exact decide_eq_false (fun h => List.lt_irrefl xs h)
def leS (a b : Str) : Bool := !decide (b.cps.toList < a.cps.toList)
theorem leS_total (a b : Str) : (leS a b || leS b a) = true := by
  unfold leS
  by_cases h : b.cps.toList < a.cps.toList
  · have : ¬ a.cps.toList < b.cps.toList := fun h2 => List.lt_asymm h h2
    simp [h, this]
  · simp [h]
theorem leS_trans (a b c : Str) (h1 : leS a b = true) (h2 : leS b c = true) : leS a c = true := by
  unfold leS at *
  simp only [Bool.not_eq_true', decide_eq_false_iff_not, List.not_lt] at *
  exact List.le_trans h1 h2
theorem leS_anti {a b : Str} (h1 : leS a b = true) (h2 : leS b a = true) : a = b := by
  unfold leS at *
  simp only [Bool.not_eq_true', decide_eq_false_iff_not, List.not_lt] at *
  have e := List.le_antisymm h1 h2
  obtain ⟨⟨x⟩⟩ := a
  obtain ⟨⟨y⟩⟩ := b
  simp only at e
  rw [e]
theorem sortedS_pw : ∀ l : List Str, sortedS l = true → l.Pairwise (fun a b => leS a b = true)
  | [], _ => List.Pairwise.nil
  | x :: r, h => by
    have go : ∀ (r : List Str) (x : Str), risingS x r = true → (x :: r).Pairwise (fun a b => leS a b = true) := by
      intro r
      induction r with
      | nil => intro x _; exact List.pairwise_singleton _ _
      | cons y r ih =>
        intro x h
        obtain ⟨h1, h2⟩ := Bool.and_eq_true_iff.mp (show (!ltCps y.cps.toList x.cps.toList && risingS y r) = true from h)
        have hxy : leS x y = true := by
          unfold leS
          rw [← ltCps_eq]
          exact h1
        have p := ih y h2
        refine List.pairwise_cons.mpr ⟨fun z hz => ?_, p⟩
        rcases List.mem_cons.mp hz with rfl | hz
        · exact hxy
        · exact leS_trans _ _ _ hxy (List.rel_of_pairwise_cons p hz)
    exact go r x h
theorem perm_one {l m : List Str} (p : l.Perm m) (h1 : l.Pairwise (fun a b => leS a b = true)) (h2 : m.Pairwise (fun a b => leS a b = true)) : l = m :=
  List.Perm.eq_of_pairwise (le := fun a b => leS a b = true) (fun a b _ _ x y => leS_anti x y) h1 h2 p
def dd : List Str → List Str
  | [] => []
  | x :: r => if x ∈ r then dd r else x :: dd r
theorem mem_dd {x : Str} : ∀ {xs : List Str}, x ∈ dd xs ↔ x ∈ xs
  | [] => by simp [dd]
  | y :: r => by
    have ih := mem_dd (x := x) (xs := r)
    unfold dd
    by_cases h : y ∈ r
    · rw [if_pos h, ih, List.mem_cons]
      exact ⟨.inr, fun z => z.elim (fun e => e ▸ h) id⟩
    · rw [if_neg h, List.mem_cons, List.mem_cons, ih]
theorem dd_nodup : ∀ xs : List Str, (dd xs).Nodup
  | [] => List.nodup_nil
  | y :: r => by
    unfold dd
    by_cases h : y ∈ r
    · rw [if_pos h]
      exact dd_nodup r
    · rw [if_neg h]
      exact List.nodup_cons.mpr ⟨fun z => h (mem_dd.mp z), dd_nodup r⟩
def asc (xs : List Str) : List Str := (dd xs).mergeSort leS
theorem asc_mem {x : Str} {xs : List Str} : x ∈ asc xs ↔ x ∈ xs := by
  unfold asc
  rw [(List.mergeSort_perm _ _).mem_iff]
  exact mem_dd
theorem asc_nodup (xs : List Str) : (asc xs).Nodup := (List.mergeSort_perm _ _).nodup_iff.mpr (dd_nodup xs)
theorem asc_pw (xs : List Str) : (asc xs).Pairwise (fun a b => leS a b = true) := List.pairwise_mergeSort leS_trans leS_total _
theorem asc_is {xs ys l : List Str} (h1 : ys.Perm l) (h2 : sortedS ys = true) (nd : l.Nodup) (m : ∀ x, x ∈ l ↔ x ∈ xs) : ys = asc xs := by
  refine perm_one ?_ (sortedS_pw ys h2) (asc_pw xs)
  refine (List.perm_ext_iff_of_nodup (h1.nodup_iff.mpr nd) (asc_nodup xs)).mpr fun x => ?_
  rw [h1.mem_iff, m x, asc_mem]
theorem asc_congr {xs ys : List Str} (m : ∀ x, x ∈ xs ↔ x ∈ ys) : asc xs = asc ys := by
  refine perm_one ?_ (asc_pw _) (asc_pw _)
  exact (List.perm_ext_iff_of_nodup (asc_nodup xs) (asc_nodup ys)).mpr fun x => by rw [asc_mem, asc_mem, m x]
end Ys
namespace Ys
open PySem PySem.Spec PyProof.Rows L2
section
variable {K : PySem.W.Frag} {P : Program} {w : World} {G H : Hp} {M : List (Addr × HO)} {σ : L2.St} {Q : VK} {QB : Bool → Hp → Prop} {QA : List V → Hp → Prop} {D : Ends} {ta tb te : TE} {tt : TT} {t : TA} {ts : TS} {A : Prop} {v x y : V} {i j : Int} {k : Nat} {a b : Addr} {xs ys vs : List V} {g : TG}
/-! ### calls of what is built in -/
theorem z_lenT (z : Zp G M H) (h : SqT K G a xs) (q : Q (.int xs.length) H) : rLenG K P w [.ref a] H Q := .inl ⟨_, _, rfl, .inr ⟨xs, z.seqT h, rfl⟩, q⟩
theorem z_lenO (z : Zp G M H) (k : Nat) (e : M[k]? = some (a, .lst xs)) (q : Q (.int xs.length) H) : rLenG K P w [.ref a] H Q := .inl ⟨_, _, rfl, .inl ⟨xs, SqL.of (z.at_ k e), rfl⟩, q⟩
theorem z_lenS {s : Str} (hl : s.length ≤ 4000000) (q : Q (.int s.length) H) : rLenG K P w [.str s] H Q := .inl ⟨_, _, rfl, ⟨Nat.le_trans hl (by decide), rfl⟩, q⟩
theorem z_lenX {l : List Str} (z : Zp G M H) (h : G a = some (TxO P w a l)) (hl : l.length < 1000) (q : Q (.int l.length) H) : rLenG K P w [.ref a] H Q := .inr ⟨a, l, rfl, z.sub _ _ h, hl, q⟩
theorem z_listG (z : Zp G M H) (h : SqL K G a xs ∨ SqT K G a xs) (q : ∀ p G1 H1, Zp G1 M H1 → Same G G1 → G1 p = some (.lst xs) → Q (.ref p) H1) : rListG K [.ref a] H Q :=
  ⟨a, xs, rfl, h.imp z.seqL z.seqT, fun p hp => q p _ _ (z.new hp _) (Same.new (z.free hp)) upd_same⟩
theorem z_listO (z : Zp G M H) (h : SqL K G a xs ∨ SqT K G a xs) (q : ∀ p H1, Zp G (M ++ [(p, .lst xs)]) H1 → Q (.ref p) H1) : rListG K [.ref a] H Q :=
  ⟨a, xs, rfl, h.imp z.seqL z.seqT, fun p hp => q p _ (z.add hp _)⟩
theorem z_tupL (z : Zp G M H) (h : SqL K G a xs) (q : ∀ p G1 H1, Zp G1 M H1 → Same G G1 → SqT K G1 p xs → Q (.ref p) H1) : rTupG K [.ref a] H Q :=
  ⟨a, xs, rfl, .inl ⟨z.seqL h, fun p hp => q p _ _ (z.new hp _) (Same.new (z.free hp)) (SqT.of upd_same)⟩⟩
theorem z_tupO (z : Zp G M H) (k : Nat) (e : M[k]? = some (a, .lst xs)) (q : ∀ p G1 H1, Zp G1 M H1 → Same G G1 → SqT K G1 p xs → Q (.ref p) H1) : rTupG K [.ref a] H Q :=
  ⟨a, xs, rfl, .inl ⟨SqL.of (z.at_ k e), fun p hp => q p _ _ (z.new hp _) (Same.new (z.free hp)) (SqT.of upd_same)⟩⟩
theorem z_tupT (z : Zp G M H) (h : SqT K G a xs) (q : Q (.ref a) H) : rTupG K [.ref a] H Q := ⟨a, xs, rfl, .inr ⟨z.seqT h, q⟩⟩
theorem z_set {ss : List Str} (z : Zp G M H) (h : SqL K G a (ss.map V.str) ∨ SqT K G a (ss.map V.str)) (hl : ss.length < 1000)
    (q : ∀ p l G1 H1, Zp G1 M H1 → Same G G1 → G1 p = some (TxO P w p l) → (∀ x, x ∈ l ↔ x ∈ ss) → l.Nodup → l.length ≤ ss.length → Q (.ref p) H1) : rSetTx K P w [.ref a] H Q :=
  ⟨a, ss, rfl, h.imp z.seqL z.seqT, hl, fun p l m nd len hp => q p l _ _ (z.new hp _) (Same.new (z.free hp)) upd_same m nd len⟩
theorem z_sortX {l ss : List Str} (z : Zp G M H) (h : G a = some (TxO P w a l)) (m : ∀ x, x ∈ l ↔ x ∈ ss) (nd : l.Nodup) (hl : l.length < 64) (q : ∀ p G1 H1, Zp G1 M H1 → Same G G1 → G1 p = some (.lst ((asc ss).map V.str)) → Q (.ref p) H1) :
    rSortG K P w [.ref a] H Q := .inl ⟨a, l, rfl, z.sub _ _ h, hl, fun ys p pm so hp => by
  rw [asc_is pm so nd m]
  exact q p _ _ (z.new hp _) (Same.new (z.free hp)) upd_same⟩
theorem z_all {bs : List Bool} (z : Zp G M H) (h : SqL K G a (bs.map V.bl)) (q : Q (.bl (bs.all id)) H) : rAllG K [.ref a] H Q := ⟨a, bs, rfl, z.seqL h, q⟩
theorem z_min2 (q : Q (.int (if j < i then j else i)) H) : rMin2 [.int i, .int j] H Q := ⟨i, j, rfl, q⟩
theorem z_repr {d : PyData} (z : Zp G M H) (h : Dt K G x d) (s1 : d.showable = true) (s2 : d.depth ≤ 60) (s3 : d.shown.length ≤ 4000000) (q : Q (.str d.shown) H) : rRepr K [x] H Q := ⟨x, d, rfl, z.dt h, s1, s2, Nat.le_trans s3 (by decide), q⟩
/-! methods -/
def TyV (K : PySem.W.Frag) (T : String) (x : V) (H : Hp) (A : Prop) : Prop := tyV K T x H ∧ A
theorem z_bm {T : String} {r : V → List V → Hp → VK → Prop} (h : te σ H fun x H1 => TyV K T x H1 (t σ H1 fun xs H2 => r x xs H2 Q)) : tBM K T r te t σ H Q := h
theorem z_bm0 {T : String} {r : V → List V → Hp → VK → Prop} (h : te σ H fun x H1 => TyV K T x H1 (r x [] H1 Q)) : tBM0 K T r te σ H Q := h
theorem z_tyO (z : Zp G M H) (k : Nat) (e : M[k]? = some (a, .lst xs)) (q : A) : TyV K "list" (.ref a) H A := ⟨.inl ⟨rfl, _, SqL.of (z.at_ k e)⟩, q⟩
theorem z_tyL (z : Zp G M H) (e : SqL K G a xs) (q : A) : TyV K "list" (.ref a) H A := ⟨.inl ⟨rfl, _, z.seqL e⟩, q⟩
theorem z_append (z : Zp G M H) (k : Nat) (e : M[k]? = some (a, .lst xs)) (hl : xs.length ≤ 4000000) (q : ∀ H1, Zp G (M.set k (a, .lst (xs ++ [v]))) H1 → Q .non H1) : rAppend (.ref a) [v] H Q :=
  ⟨a, xs, v, rfl, rfl, z.at_ k e, Nat.lt_of_le_of_lt hl (by decide), q _ (z.put k e _)⟩
theorem seqIx {n : Nat} {i : Int} (h0 : 0 ≤ i) (h1 : i < n) : seqIndex? i n = some i.toNat := by
  obtain ⟨k, rfl⟩ := Int.eq_ofNat_of_zero_le h0
  have := atI_get (atI_nat (xs := List.replicate n ()) (j := k) (v := ()) (by
    have : k < n := by omega
    simp [this]))
  obtain ⟨j, e1, e2, e3, _⟩ := this
  rw [List.length_replicate] at e1
  have hk : (ixN n (k : Int)) = some k := by
    unfold ixN
    rw [if_pos (by omega), if_pos h1]
    rfl
  have := (ixN_seq hk).1
  rw [this]
  rfl
theorem z_popAt (z : Zp G M H) (k : Nat) (e : M[k]? = some (a, .lst xs)) (h0 : 0 ≤ i) (h1 : i < xs.length) (hl : xs.length ≤ 4000000) (ev : xs[i.toNat]? = some v) (q : ∀ H1, Zp G (M.set k (a, .lst (xs.eraseIdx i.toNat))) H1 → Q v H1) :
    rPopAt (.ref a) [.int i] H Q := ⟨a, xs, i, i.toNat, v, rfl, rfl, z.at_ k e, by omega, by omega, seqIx h0 h1, ev, q _ (z.put k e _)⟩
theorem z_extend {b : Addr} (z : Zp G M H) (k : Nat) (e : M[k]? = some (a, .lst xs)) (h : G b = some (.lst ys)) (hl : xs.length + ys.length ≤ 4000000) (q : ∀ H1, Zp G (M.set k (a, .lst (xs ++ ys))) H1 → Q .non H1) : rExtend (.ref a) [.ref b] H Q :=
  ⟨a, b, xs, ys, rfl, rfl, z.at_ k e, z.sub _ _ h, Nat.le_trans hl (by decide), q _ (z.put k e _)⟩
def IsS (x : V) (A : Prop) : Prop := (∃ a, x = .str a) ∧ A
theorem z_m1 {r : V → List V → Hp → VK → Prop} (h : ta σ H fun x H1 => IsS x (te σ H1 fun y H2 => r x [y] H2 Q)) : tM1 r ta te σ H Q := h
theorem z_isS {s : Str} (q : A) : IsS (.str s) A := ⟨⟨s, rfl⟩, q⟩
def rJoin (K : PySem.W.Frag) : V → List V → Hp → VK → Prop := fun x xs H Q => ∃ a p, ∃ ys : List Str, x = .str a ∧ xs = [.ref p] ∧ (SqL K H p (ys.map V.str) ∨ SqT K H p (ys.map V.str)) ∧ (ys.map (·.length)).sum + ys.length * a.length ≤ 16777216 ∧ Q (.str (Txt.join a ys)) H
theorem z_join {s : Str} {ss : List Str} (z : Zp G M H) (h : SqL K G a (ss.map V.str)) (hl : (ss.map (·.length)).sum + ss.length * s.length ≤ 4000000) (q : Q (.str (Txt.join s ss)) H) : rJoin K (.str s) [.ref a] H Q :=
  ⟨s, a, ss, rfl, rfl, .inl (z.seqL h), Nat.le_trans hl (by decide), q⟩
/-! ### targets of several names -/
def UnpT (K : PySem.W.Frag) (n : Nat) (t : TGs) (v : V) (σ : L2.St) (H : Hp) (R : L2.St → Hp → Prop) : Prop := gTup K n t v σ H R
theorem z_gtup {n : Nat} {u : TGs} {R : L2.St → Hp → Prop} (z : Zp G M H) (h : SqT K G a xs) (hl : xs.length = n) (q : u xs σ H R) : gTup K n u (.ref a) σ H R := ⟨a, xs, rfl, z.seqT h, hl, q⟩
theorem z_gunl {n : Nat} {u : TGs} {R : L2.St → Hp → Prop} (z : Zp G M H) (h : SqL K G a xs) (hl : xs.length = n) (q : u xs σ H R) : gUnl K n u (.ref a) σ H R := ⟨a, xs, rfl, z.seqL h, hl, q⟩
theorem z_gnil {R : L2.St → Hp → Prop} (q : R σ H) : gNil [] σ H R := ⟨rfl, q⟩
theorem z_gcons {u : TGs} {R : L2.St → Hp → Prop} (q : g v σ H fun σ' H' => u xs σ' H' R) : gCons g u (v :: xs) σ H R := ⟨v, xs, rfl, q⟩
/-! ### what is walked -/
structure Src (J : It) (xs : List V) (OK : Hp → Prop) : Prop where
  go : ∀ i H, OK H → i < xs.length → J.go i H
  stop : ∀ i H, OK H → xs.length ≤ i → J.stop i H
  yld : ∀ i H x H', OK H → i < xs.length → J.yld i H x H' → H' = H ∧ xs[i]? = some x
theorem src_L {xs : List V} : Src (Itl K a) xs (fun H => SqL K H a xs) where
  go := fun i H h hi => ⟨xs, xs[i], h, by simp [hi]⟩
  stop := fun i H h hi => ⟨xs, h, hi⟩
  yld := fun i H x H' h _ y => ⟨y.1, y.2 xs h⟩
theorem src_T {xs : List V} : Src (Itt K a) xs (fun H => SqT K H a xs) where
  go := fun i H h hi => ⟨xs, xs[i], h, by simp [hi]⟩
  stop := fun i H h hi => ⟨xs, h, hi⟩
  yld := fun i H x H' h _ y => ⟨y.1, y.2 xs h⟩
def rngV (lo : Int) (n : Nat) : List V := (List.range n).map fun (i : Nat) => V.int (lo + (i : Int))
theorem rngV_len (lo : Int) (n : Nat) : (rngV lo n).length = n := by simp [rngV]
theorem src_R {lo : Int} {n : Nat} : Src (Itr lo n) (rngV lo n) (fun _ => True) where
  go := fun i H _ hi => by rw [rngV_len] at hi; exact hi
  stop := fun i H _ hi => by rw [rngV_len] at hi; exact hi
  yld := fun i H x H' _ hi y => ⟨y.1, by
    rw [rngV_len] at hi
    rw [y.2]
    simp [rngV, hi]⟩
def chrV (s : Str) : List V := s.cps.toList.map fun c => V.str ⟨#[c]⟩
theorem chrV_len (s : Str) : (chrV s).length = s.length := by simp [chrV]; rfl
theorem src_S {s : Str} : Src (Its s) (chrV s) (fun _ => True) where
  go := fun i H _ hi => by rw [chrV_len] at hi; exact hi
  stop := fun i H _ hi => by rw [chrV_len] at hi; exact hi
  yld := fun i H x H' _ _ y => by
    obtain ⟨e, c, h1, h2⟩ := y
    refine ⟨e, ?_⟩
    unfold chrV
    rw [List.getElem?_map, Array.getElem?_toList, h1, h2]
    rfl
/-! ### for -/
def ForW (J : It) (g : TG) (tb : TS) (D : Ends) (σ : L2.St) (H : Hp) : Prop := ∃ W : Nat → Nat → L2.St → Hp → Prop, (∃ m, W 0 m σ H) ∧ ∀ i m σ H, W i m σ H →
  (J.stop i H ∧ D.nx σ H) ∨ (J.go i H ∧ ∃ N : L2.St → Hp → Prop, (∀ σ' H', N σ' H' → ∃ m', m' < m ∧ W (i + 1) m' σ' H') ∧ ∀ x H', J.yld i H x H' → g x σ H' fun σ2 H2 => tb { D with nx := N, ct := N, bk := D.nx } σ2 H2)
theorem z_for {wi : TI} {tb : TS} (h : wi σ H fun J H1 => ForW J g tb D σ H1) : tFor wi g tb D σ H := h
theorem for_src {J : It} {tb : TS} {OK : Hp → Prop} (S : Src J xs OK) (I : Nat → L2.St → Hp → List (Addr × HO) → Prop) (z : Zp G M H) (h0 : I 0 σ G M) (ok : ∀ i σ G M H, I i σ G M → Zp G M H → OK H)
    (turn : ∀ i x σ G M H, xs[i]? = some x → I i σ G M → Zp G M H → g x σ H fun σ2 H2 => tb ⟨fun σ' H' => ∃ G' M', Zp G' M' H' ∧ I (i + 1) σ' G' M', D.rt, D.nx, fun σ' H' => ∃ G' M', Zp G' M' H' ∧ I (i + 1) σ' G' M'⟩ σ2 H2)
    (done : ∀ σ G M H, I xs.length σ G M → Zp G M H → D.nx σ H) : ForW J g tb D σ H := by
  refine ⟨fun i m σ H => m = xs.length - i ∧ i ≤ xs.length ∧ ∃ G M, Zp G M H ∧ I i σ G M, ⟨xs.length, by simp, Nat.zero_le _, G, M, z, h0⟩, ?_⟩
  rintro i m σ H ⟨rfl, hi, G, M, z, h⟩
  have o := ok i σ G M H h z
  by_cases c : i < xs.length
  · refine .inr ⟨S.go i H o c, fun σ' H' => ∃ G' M', Zp G' M' H' ∧ I (i + 1) σ' G' M', fun σ' H' q => ⟨xs.length - (i + 1), by omega, rfl, c, q⟩, fun x H' y => ?_⟩
    obtain ⟨rfl, e⟩ := S.yld i H x H' o c y
    exact turn i x σ G M H' e h z
  · obtain rfl : i = xs.length := by omega
    exact .inl ⟨S.stop _ H o (Nat.le_refl _), done σ G M H h z⟩
/-! ### comprehensions -/
def LcW (J : It) (g : TG) (tt : TT) (te : TE) (ws : List Nat) (σ : L2.St) (H1 : Hp) (Q : VK) : Prop := ∀ D, H1 D = none → ∃ W : Nat → Nat → Hp → Prop, (∃ m, W 0 m (upd H1 D (.lst []))) ∧ ∀ i m H, W i m H →
  (J.stop i H ∧ Q (.ref D) H) ∨ (J.go i H ∧ ∃ Nx : Hp → Prop, (∀ H', Nx H' → ∃ m', m' < m ∧ W (i + 1) m' H') ∧ ∀ x H', J.yld i H x H' → g x (wipe σ ws) H' fun σ2 H2 => wipe σ2 ws = wipe σ ws ∧ tt σ2 H2 fun b H3 =>
    if b = true then te σ2 H3 fun y H4 => ∃ acc, H4 D = some (.lst acc) ∧ acc.length < sizeLine ∧ Nx (upd H4 D (.lst (acc ++ [y]))) else Nx H3)
theorem z_lc {wi : TI} {ws : List Nat} (h : wi σ H fun J H1 => LcW J g tt te ws σ H1 Q) : tLc wi g tt te ws σ H Q := h
def Kept (I : Hp → List (Addr × HO) → List V → Prop) (D : Addr) (H : Hp) : Prop := ∃ G M acc, Zp G (M ++ [(D, .lst acc)]) H ∧ I G M acc
def Laid (I : Hp → List (Addr × HO) → List V → Prop) (D : Addr) (y : V) (H : Hp) : Prop := ∃ acc, H D = some (.lst acc) ∧ acc.length < sizeLine ∧ Kept I D (upd H D (.lst (acc ++ [y])))
theorem last_at {M : List (Addr × HO)} {p : Addr × HO} : (M ++ [p])[M.length]? = some p := by simp
theorem z_laid {I : Hp → List (Addr × HO) → List V → Prop} {Dl : Addr} {acc : List V} (z : Zp G (M ++ [(Dl, .lst acc)]) H) (hl : acc.length ≤ 4000000) (q : I G M (acc ++ [y])) : Laid I Dl y H := by
  refine ⟨acc, z.at_ M.length last_at, Nat.lt_of_le_of_lt hl (by decide), G, M, acc ++ [y], ?_, q⟩
  have := z.put M.length last_at (.lst (acc ++ [y]))
  rw [List.set_append_right _ _ (Nat.le_refl _), Nat.sub_self] at this
  exact this
theorem z_left {I : Hp → List (Addr × HO) → List V → Prop} {Dl : Addr} {acc : List V} (z : Zp G (M ++ [(Dl, .lst acc)]) H) (q : I G M acc) : Kept I Dl H := ⟨G, M, acc, z, q⟩
theorem lc_src {J : It} {ws : List Nat} {OK : Hp → Prop} (S : Src J xs OK) (I : Nat → Hp → List (Addr × HO) → List V → Prop) (z : Zp G M H) (h0 : I 0 G M []) (ok : ∀ i G M M1 acc H, I i G M acc → Zp G (M ++ M1) H → OK H)
    (turn : ∀ i x G M acc Dl H, xs[i]? = some x → I i G M acc → Zp G (M ++ [(Dl, .lst acc)]) H → g x (wipe σ ws) H fun σ2 H2 => wipe σ2 ws = wipe σ ws ∧ tt σ2 H2 fun b H3 =>
      Bif b (te σ2 H3 fun y H4 => Laid (I (i + 1)) Dl y H4) (Kept (I (i + 1)) Dl H3))
    (done : ∀ p G M acc G1 H1, I xs.length G M acc → Same G G1 → Zp G1 M H1 → G1 p = some (.lst acc) → Q (.ref p) H1) : LcW J g tt te ws σ H Q := by
  intro Dl hD
  refine ⟨fun i m H => m = xs.length - i ∧ i ≤ xs.length ∧ Kept (I i) Dl H, ⟨xs.length, by simp, Nat.zero_le _, G, M, [], z.add hD _, h0⟩, ?_⟩
  rintro i m H ⟨rfl, hi, G, M, acc, z, h⟩
  have o := ok i G M _ acc H h z
  by_cases c : i < xs.length
  · refine .inr ⟨S.go i H o c, Kept (I (i + 1)) Dl, fun H' q => ⟨xs.length - (i + 1), by omega, rfl, c, q⟩, fun x H' y => ?_⟩
    obtain ⟨rfl, e⟩ := S.yld i H x H' o c y
    exact turn i x G M acc Dl H' e h z
  · obtain rfl : i = xs.length := by omega
    refine .inl ⟨S.stop _ H o (Nat.le_refl _), done Dl G M acc _ H h (Same.new ?_) z.fix upd_same⟩
    exact (z.own M.length _ _ last_at).2
theorem z_yes (q : QB true H) : tYes σ H QB := q
/-! what a for or a comprehension begins with -/
def ItL (K : PySem.W.Frag) (x : V) (H : Hp) (R : It → Hp → Prop) : Prop := ∃ a, x = .ref a ∧ (∃ xs, SqL K H a xs) ∧ R (Itl K a) H
def ItT (K : PySem.W.Frag) (x : V) (H : Hp) (R : It → Hp → Prop) : Prop := ∃ a, x = .ref a ∧ (∃ xs, SqT K H a xs) ∧ R (Itt K a) H
def ItS (x : V) (H : Hp) (R : It → Hp → Prop) : Prop := ∃ s, x = .str s ∧ R (Its s) H
def ItR (vs : List V) (H : Hp) (R : It → Hp → Prop) : Prop := ∃ j : Int, vs = [.int j] ∧ -(2 ^ 62) ≤ j ∧ j < 2 ^ 62 ∧ R (Itr 0 j.toNat) H
variable {R : It → Hp → Prop}
theorem z_iL (h : te σ H fun x H1 => ItL K x H1 R) : iList K te σ H R := h
theorem z_iT (h : te σ H fun x H1 => ItT K x H1 R) : iTup K te σ H R := h
theorem z_iS (h : te σ H fun x H1 => ItS x H1 R) : iStr te σ H R := h
theorem z_iR (h : t σ H fun vs H1 => ItR vs H1 R) : iRng1 t σ H R := h
theorem z_itL (z : Zp G M H) (h : SqL K G a xs) (q : R (Itl K a) H) : ItL K (.ref a) H R := ⟨a, rfl, ⟨xs, z.seqL h⟩, q⟩
theorem z_itT (z : Zp G M H) (h : SqT K G a xs) (q : R (Itt K a) H) : ItT K (.ref a) H R := ⟨a, rfl, ⟨xs, z.seqT h⟩, q⟩
theorem z_itS {s : Str} (q : R (Its s) H) : ItS (.str s) H R := ⟨s, rfl, q⟩
theorem z_itR {j : Int} (h0 : -(2 ^ 62) ≤ j) (h1 : j < 2 ^ 62) (q : R (Itr 0 j.toNat) H) : ItR [.int j] H R := ⟨j, rfl, h0, h1, q⟩
/-! ### a call of a def of the module -/
structure Own (P : Program) (w : World) (K : PySem.W.Frag) (mg : Str → Option Value) (base : Heap) (CX : CXT) (k : Nat) (x : Str) (ps : List Str) (sp : Sp) : Prop where
  ex : ∃ f fd, FnOk P w K mg base CX k f fd ps sp ∧ mg x = some (.ref f) ∧ PySem.W.keepIn K (.ref f) = true ∧ Binds K fd ps []
theorem pe_own {X : Cx} {CX : CXT} {k : Nat} {x : Str} {ps : List Str} {sp : Sp} {E : XK} {p pos : Pos} {e : Expr} {es : List Expr} {t : TA} (C : Own X.prog X.w X.K X.mg X.base CX k x ps sp) (hr : Room k X.A) (hg : Gl X x) (hx : Passes CX X E) (ha : PA X (e :: es) t)
    (hdb : (x == ("__debug__" : Str)) = false := by decide) (he : starEach (e :: es) X.env = (false, eval e X.env) :: starEach es X.env := by rfl) (hpl : (backTo pos (starEach es X.env)).any (·.1) = false := by rfl) :
    PE X (.Call (.Name x p) (e :: es) [] pos) (tCall sp [] E t) := by
  refine ⟨fun pins s σ H Q I h => ?_⟩
  obtain ⟨f, fd, F, hm, hk, hb⟩ := C.ex
  exact (pe_call F hr hg hm hk hb .nil hx ha hdb he hpl).run pins s σ H Q I h
end
end Ys
namespace Ys
open PySem PySem.Spec PyProof.Rows L2
section
variable {K : PySem.W.Frag} {P : Program} {w : World} {G G1 H : Hp} {M M1 : List (Addr × HO)} {σ : L2.St} {Q : VK} {QB : Bool → Hp → Prop} {D : Ends} {tc : TT} {tb t1 t2 : TS} {A B : Prop} {v x y : V} {i j : Int} {a b p : Addr} {xs ys vs : List V} {o : HO} {u : Addr × HO}
theorem Zp.perm (z : Zp G M H) (h : M.Perm M1) : Zp G M1 H where
  sub := z.sub
  own := fun i q o e => by
    obtain ⟨j, hj⟩ := List.getElem?_of_mem (h.mem_iff.mpr (List.mem_of_getElem? e))
    exact z.own j q o hj
  nd := (h.map _).nodup_iff.mp z.nd
theorem Zp.keep (z : Zp G M H) (h : M1.Sublist M) : Zp G M1 H where
  sub := z.sub
  own := fun i q o e => by
    obtain ⟨j, hj⟩ := List.getElem?_of_mem (h.subset (List.mem_of_getElem? e))
    exact z.own j q o hj
  nd := (h.map _).nodup z.nd
theorem Zp.addP (z : Zp G (u :: M) H) (h : H p = none) (o : HO) : Zp G (u :: (p, o) :: M) (upd H p o) :=
  (z.add h o).perm (by
    rw [List.cons_append]
    exact List.Perm.cons _ (List.perm_append_comm (l₁ := M) (l₂ := [(p, o)])))
theorem Zp.drop2 (z : Zp G (u :: (p, o) :: M) H) : Zp G (u :: M) H :=
  Zp.cut (M := u :: M) (M1 := [(p, o)]) (z.perm (by
    rw [List.cons_append]
    exact List.Perm.cons _ (List.perm_append_comm (l₁ := [(p, o)]) (l₂ := M))))
theorem Zp.fix2 (z : Zp G (u :: (p, o) :: M) H) : Zp (upd G p o) (u :: M) H ∧ G p = none :=
  have z2 : Zp G ((u :: M) ++ [(p, o)]) H := z.perm (by
    rw [List.cons_append]
    exact List.Perm.cons _ (List.perm_append_comm (l₁ := [(p, o)]) (l₂ := M)))
  ⟨z2.fix, (z2.own (u :: M).length p o (by simp)).2⟩
theorem z_listP (z : Zp G (u :: M) H) (h : SqL K G a xs ∨ SqT K G a xs) (q : ∀ p H1, Zp G (u :: (p, .lst xs) :: M) H1 → Q (.ref p) H1) : rListG K [.ref a] H Q :=
  ⟨a, xs, rfl, h.imp z.seqL z.seqT, fun p hp => q p _ (z.addP hp _)⟩
theorem z_ownP (z : Zp G (u :: M) H) (hl : xs.length ≤ 4000000) (q : ∀ p H1, Zp G (u :: (p, .lst xs) :: M) H1 → Q (.ref p) H1) : NewL xs H Q :=
  ⟨Nat.le_trans hl (by decide), fun p hp => q p _ (z.addP hp _)⟩
theorem z_bd {p : Prop} {i : Decidable p} (h1 : p → A) (h2 : ¬ p → B) : Bif (@decide p i) A B := z_bD h1 h2
theorem z_cut (I : L2.St → Hp → Prop) (h1 : ∀ nx, (∀ σ H, I σ H → nx σ H) → t1 ⟨nx, D.rt, D.bk, D.ct⟩ σ H) (h2 : ∀ σ H, I σ H → t2 D σ H) : tSeq t1 t2 D σ H := h1 (t2 D) h2
theorem mw (h1 : -18446744073709551616 < i) (h2 : i < 18446744073709551616) (h3 : -18446744073709551616 < j) (h4 : j < 18446744073709551616) : CMulW i j := wide_mul (a := 64) (b := 64) (by omega) (by omega) (by decide) (by decide) (by decide)
theorem dw (h1 : 0 < j) (h2 : j ≤ 1000000000) : CDivW i j := wide_div (b := 30) h1 (by omega) (by decide) (by decide)
def Par2 (k l : Nat) (D : Ends) (σ : L2.St) (vs : List V) (H1 : Hp) : Prop := ∃ v w, vs = [v, w] ∧ D.nx ((σ.set k (some v)).set l (some w)) H1
theorem z_pr {k l : Nat} {t : TA} (h : t σ H (Par2 k l D σ)) : tPar k l t D σ H := h
theorem z_pr2 {k l : Nat} (q : D.nx ((σ.set k (some x)).set l (some y)) H) : Par2 k l D σ [x, y] H := ⟨x, y, rfl, q⟩
theorem rng_at {lo : Int} {n k : Nat} {x : V} (h : (rngV lo n)[k]? = some x) : k < n ∧ x = .int (lo + (k : Int)) := by
  have hi := (List.getElem?_eq_some_iff.mp h).1
  rw [rngV_len] at hi
  refine ⟨hi, ?_⟩
  unfold rngV at h
  rw [List.getElem?_map, List.getElem?_range hi] at h
  exact (Option.some.inj h).symm
/-! ### while -/
def WhB (I : Nat → L2.St → Hp → List (Addr × HO) → Prop) (n : Nat) (tb : TS) (D : Ends) (σ : L2.St) (b : Bool) (H1 : Hp) : Prop :=
  if b = true then ∃ N : L2.St → Hp → Prop, (∀ σ' H', N σ' H' → ∃ m', m' < n ∧ ∃ G M, Zp G M H' ∧ I m' σ' G M) ∧ tb { D with nx := N, ct := N, bk := D.nx } σ H1 else D.nx σ H1
theorem z_while (I : Nat → L2.St → Hp → List (Addr × HO) → Prop) (n : Nat) (z : Zp G M H) (h0 : I n σ G M) (turn : ∀ n σ G M H, I n σ G M → Zp G M H → tc σ H (WhB I n tb D σ)) : tWhile tc tb D σ H :=
  ⟨fun m σ H => ∃ G M, Zp G M H ∧ I m σ G M, ⟨n, G, M, z, h0⟩, fun m σ H ⟨G, M, z, h⟩ => turn m σ G M H h z⟩
theorem z_whT {I : Nat → L2.St → Hp → List (Addr × HO) → Prop} {n : Nat} (h : tb ⟨fun σ' H' => ∃ m', m' < n ∧ ∃ G M, Zp G M H' ∧ I m' σ' G M, D.rt, D.nx, fun σ' H' => ∃ m', m' < n ∧ ∃ G M, Zp G M H' ∧ I m' σ' G M⟩ σ H) : WhB I n tb D σ true H := by
  unfold WhB
  rw [if_pos rfl]
  exact ⟨_, fun _ _ h => h, h⟩
theorem z_whF {I : Nat → L2.St → Hp → List (Addr × HO) → Prop} {n : Nat} (h : D.nx σ H) : WhB I n tb D σ false H := by
  unfold WhB
  rw [if_neg Bool.false_ne_true]
  exact h
/-! ### data -/
theorem dts_int : ∀ cells : List Int, Dts K G (cells.map V.int) (cells.map PyData.int)
  | [] => .nil
  | c :: cs => .cons (.int c) (dts_int cs)
theorem dts_str : ∀ ss : List Str, Dts K G (ss.map V.str) (ss.map PyData.str)
  | [] => .nil
  | c :: cs => .cons (.str c) (dts_str cs)
def El (K : PySem.W.Frag) (G : Hp) (v : V) : Prop := ∃ d, Dt K G v d ∧ d.canLay0 = true ∧ d.depth ≤ 60
theorem El.up (s : Same G G1) : El K G v → El K G1 v := fun ⟨d, h, c⟩ => ⟨d, h.up s, c⟩
theorem El.str {s : Str} (h : PyData.strOk s = true) : El K G (.str s) := ⟨.str s, .str s, h, Nat.zero_le _⟩
theorem El.int (i : Int) : El K G (.int i) := ⟨.int i, .int i, rfl, Nat.zero_le _⟩
theorem El.non : El K G .non := ⟨.none, .non, rfl, Nat.zero_le _⟩
theorem El.all : ∀ {xs : List V}, (∀ v ∈ xs, El K G v) → ∃ ds, Dts K G xs ds ∧ PyData.canLayAll0 ds = true ∧ PyData.depthAll ds ≤ 60 ∧ (ds = [] ↔ xs = [])
  | [], _ => ⟨[], .nil, rfl, by decide, by simp⟩
  | x :: xs, h => by
    obtain ⟨d, h1, h2, h3⟩ := h x (List.mem_cons_self ..)
    obtain ⟨ds, g1, g2, g3, _⟩ := El.all (xs := xs) fun v hv => h v (List.mem_cons_of_mem _ hv)
    refine ⟨d :: ds, .cons h1 g1, ?_, ?_, by simp⟩
    · show (d.canLay0 && PyData.canLayAll0 ds) = true
      rw [h2, g2]
      rfl
    · show max d.depth (PyData.depthAll ds) ≤ 60
      omega
theorem shp {ds : List PyData} (c : PyData.canLayAll0 ds = true) (d : PyData.depthAll ds ≤ 60) : SeqAt.shaped (.list ds) = true := by
  unfold SeqAt.shaped
  have e : PyData.canLay0 (.list ds) = true := c
  have e2 : PyData.depth (.list ds) = PyData.depthAll ds + 1 := rfl
  rw [e, e2]
  simp
  omega
theorem shpT {ds : List PyData} (c : PyData.canLayAll0 ds = true) (d : PyData.depthAll ds ≤ 60) : SeqAt.shaped (.tuple ds) = true := by
  unfold SeqAt.shaped
  have e : PyData.canLay0 (.tuple ds) = true := c
  have e2 : PyData.depth (.tuple ds) = PyData.depthAll ds + 1 := rfl
  rw [e, e2]
  simp
  omega
theorem z_neNil (hl : SqL K H a xs) (h2 : H b = some (.lst [])) (q : Q (.bl (decide (xs ≠ []))) H) : rNeG K (.ref a) (.ref b) H Q := by
  cases xs with
  | nil => exact .inr (.inl ⟨.list [], .list [], Dt.dp _ _ rfl (.lst hl .nil), Dt.dp _ _ rfl (.lst (SqL.of h2) .nil), rfl, rfl, q⟩)
  | cons x xs => exact .inr (.inr ⟨a, b, _, [], rfl, rfl, hl, SqL.of h2, by simp, q⟩)
theorem z_eqNil (hl : SqL K H a xs) (h2 : H b = some (.lst [])) (q : Q (.bl (decide (xs = []))) H) : rEqG K (.ref a) (.ref b) H Q := by
  cases xs with
  | nil => exact .inr (.inl ⟨.list [], .list [], Dt.dp _ _ rfl (.lst hl .nil), Dt.dp _ _ rfl (.lst (SqL.of h2) .nil), rfl, rfl, q⟩)
  | cons x xs => exact .inr (.inr ⟨a, b, _, [], rfl, rfl, hl, SqL.of h2, by simp, q⟩)
/-! ### a dict that is written down -/
variable {ps : List (V × V)} {tk tv : TE} {trs : List (TE × TE)} {QP : List (V × V) → Hp → Prop}
def DispE (p : Addr) (ps : List (V × V)) (H : Hp) (Q : VK) : Prop := H p = some (.dK []) ∧ ∃ kvs : List (Key × V), ps = kvs.map (fun kv => (kV kv.1, kv.2)) ∧ kvs.length ≤ 15 ∧ Q (.ref p) (upd H p (.dK (mergeK [] kvs)))
theorem z_disp (z : Zp G M H) (h : ∀ p H1, Zp G (M ++ [(p, .dK [])]) H1 → tPairs trs σ H1 fun ps H2 => DispE p ps H2 Q) : tDisp trs σ H Q := fun p hp => h p _ (z.add hp _)
theorem z_pn (q : QP [] H) : tPairs [] σ H QP := q
theorem z_pc (h : tk σ H fun x H1 => tv σ H1 fun y H2 => tPairs trs σ H2 fun ps H3 => QP ((x, y) :: ps) H3) : tPairs ((tk, tv) :: trs) σ H QP := h
theorem z_dispE (z : Zp G (M ++ [(p, .dK [])]) H) (kvs : List (Key × V)) (e : ps = kvs.map (fun kv => (kV kv.1, kv.2))) (hl : kvs.length ≤ 15) (q : ∀ H3, Zp G (M ++ [(p, .dK (mergeK [] kvs))]) H3 → Q (.ref p) H3) : DispE p ps H Q := by
  refine ⟨z.at_ M.length last_at, kvs, e, hl, q _ ?_⟩
  have := z.put M.length last_at (.dK (mergeK [] kvs))
  rw [List.set_append_right _ _ (Nat.le_refl _), Nat.sub_self] at this
  exact this
/-! ### looks into lists -/
theorem at_in {α : Type} {xs : List α} {i : Int} (h0 : 0 ≤ i) (h1 : i < xs.length) : ∃ v, v ∈ xs ∧ atI xs i = some v := by
  obtain ⟨k, rfl⟩ := Int.eq_ofNat_of_zero_le h0
  have hk : k < xs.length := by omega
  exact ⟨xs[k], List.getElem_mem hk, atI_nat (by simp [hk])⟩
theorem cut_map {α : Type} (f : α → V) (xs : List α) (lo hi : Option Int) : cutV (xs.map f) lo hi = ((xs.drop (HT.sIx xs.length 0 lo)).take (HT.sIx xs.length xs.length hi - HT.sIx xs.length 0 lo)).map f := by
  unfold cutV
  rw [List.length_map, List.map_take, List.map_drop]
end
end Ys
namespace Ys
open PySem PySem.Spec PyProof.Rows L2 TL
theorem erase_perm {α : Type} : ∀ {zs : List α} {k : Nat} (h : k < zs.length), (zs[k] :: zs.eraseIdx k).Perm zs
  | x :: xs, 0, _ => List.Perm.refl _
  | x :: xs, k + 1, h => by
    show (xs[k]'(by simpa using h) :: x :: xs.eraseIdx k).Perm (x :: xs)
    exact (List.Perm.swap _ _ _).trans (List.Perm.cons _ (erase_perm (by simpa using h)))
/-! ### words -/
def Lt (s : Str) : Prop := ∀ c ∈ s.cps.toList, 97 ≤ c ∧ c ≤ 122
def Wd (s : Str) : Prop := 1 ≤ s.length ∧ s.length ≤ 8 ∧ Lt s
theorem Lt.app {x y : Str} (hx : Lt x) (hy : Lt y) : Lt (x ++ y) := fun c hc => by
  have e : (x ++ y).cps.toList = x.cps.toList ++ y.cps.toList := by
    show (x.cps ++ y.cps).toList = _
    rw [Array.toList_append]
  rw [e] at hc
  rcases List.mem_append.mp hc with h | h
  · exact hx c h
  · exact hy c h
theorem Lt.cut {x : Str} (hx : Lt x) (lo hi : Option Int) : Lt (cutS x lo hi) := fun c hc => hx c (List.mem_of_mem_drop (List.mem_of_mem_take (by simpa [cutS] using hc)))
theorem len_app (x y : Str) : (x ++ y).length = x.length + y.length := PySem.Str.length_append x y
theorem Lt.one {c : Nat} (h : 97 ≤ c ∧ c ≤ 122) : Lt ⟨#[c]⟩ := fun d hd => by
  obtain rfl : d = c := by simpa using hd
  exact h
theorem Lt.ok {s : Str} (h : Lt s) : PyData.strOk s = true := by
  unfold PyData.strOk
  rw [Array.all_eq_true_iff_forall_mem]
  intro c hc
  have := (h c (by simpa using hc)).2
  exact decide_eq_true (by omega)
theorem abc_mem {c : Nat} (h : c ∈ (("abcdefghijklmnopqrstuvwxyz" : Str)).cps.toList) : 97 ≤ c ∧ c ≤ 122 := by
  have e : (("abcdefghijklmnopqrstuvwxyz" : Str)).cps.toList = (List.range 26).map (· + 97) := by decide +kernel
  rw [e] at h
  obtain ⟨k, hk, rfl⟩ := List.mem_map.mp h
  have := List.mem_range.mp hk
  omega
theorem abc_len : (("abcdefghijklmnopqrstuvwxyz" : Str)).length = 26 := by decide +kernel
theorem joinL0 : ∀ {ps : List (List Nat)} {c : Nat}, c ∈ joinL [] ps → ∃ p ∈ ps, c ∈ p
  | [], _, h => by simp [joinL] at h
  | [p], _, h => ⟨p, by simp, by simpa [joinL] using h⟩
  | p :: q :: r, c, h => by
    have h' : c ∈ p ++ ([] ++ joinL [] (q :: r)) := by simpa [joinL] using h
    rcases List.mem_append.mp h' with h | h
    · exact ⟨p, by simp, h⟩
    · obtain ⟨x, hx, hc⟩ := joinL0 (ps := q :: r) (by simpa using h)
      exact ⟨x, List.mem_cons_of_mem _ hx, hc⟩
theorem Lt.join {ss : List Str} (h : ∀ s ∈ ss, Lt s) : Lt (Txt.join "" ss) := fun c hc => by
  have e : (Txt.join "" ss).cps.toList = joinL (tl ("" : Str)) (ss.map tl) := by
    rw [join_eq]
    exact tl_join "" ss
  have e0 : tl ("" : Str) = [] := by decide +kernel
  rw [e, e0] at hc
  obtain ⟨p, hp, hc⟩ := joinL0 hc
  obtain ⟨s, hs, rfl⟩ := List.mem_map.mp hp
  exact h s hs c hc
theorem cutS_len (x : Str) (lo hi : Option Int) : (cutS x lo hi).length = HT.sIx x.length x.length hi - HT.sIx x.length 0 lo := by
  have h2 := HT.sIx_le x.length x.length (Nat.le_refl _) hi
  show ((((x.cps.toList.drop (HT.sIx x.length 0 lo)).take (HT.sIx x.length x.length hi - HT.sIx x.length 0 lo)).toArray).size) = _
  rw [List.size_toArray, List.length_take, List.length_drop, Array.length_toList]
  show min _ (x.length - _) = _
  omega
section
variable {X : Cx} {o e : Expr} {to te : TE}
theorem pe_joinG {apos pos : Pos} (ho : PE X o to) (he : PE X e te) (hs : starEach [e] X.env = [(false, eval e X.env)] := by rfl) (hbase : attributeBase o "join" X.env (eval o X.env) = eval o X.env := by rfl) (hline : (apos.endLine == pos.line) = true := by rfl) :
    PE X (.Call (.Attribute o "join" apos) [e] [] pos) (tM1 (rJoin X.K) to te) := pe_join ho he hs hbase hline
end
end Ys
namespace Ys
open PySem PySem.Spec PyProof.Rows L2
section
variable {M : Model} {prog : Program} {w : World} {A : Around} {E : Value → Shared → Prop} {s : Shared} {K : PySem.W.Frag} {x C f : Addr} {ox : Obj} {od : Option Obj} {b tb : Value}
theorem ifBound_objNe {args : List Value} {Q : Option Value → Shared → Prop} (X : K.In s.heap) (I : PySem.W.InstAt s.heap x ox C od) (hs : PySem.W.findIn K (.ref C) "__ne__" = some (some (.builtin "object.__ne__")))
    (h : wpAny M A (call (.builtin "object.__ne__") (.ref x :: args)) (fun v => Q (some v)) E s) : wpAny M A (callSpecialIfBound? (.ref x) "__ne__" args) Q E s := by
  simp only [callSpecialIfBound?, bindSpecialIfBound?]
  refine wpAny_holding (wpAny_bind (wpAny_bind (wpAny_bind (I.type.here ((PySem.W.looks_findIn X hs).here ?_)))))
  refine wpAny_bind (wpAny_askSetting (wpAny_ite ?_))
  have fin : wpAny M A (call (.builtin "object.__ne__") ([.ref x] ++ args) >>= fun v => pure (some v)) Q E s := wpAny_bind (wpAny_mono h (fun v s' h' => wpAny_pure h') fun _ _ h' => h')
  split
  · exact wpAny_bind (wpAny_of_eq (F.cmp_object.ne.bind _) (wpAny_pure (by exact fin)))
  · exact wpAny_tryCatch (wpAny_bind (wpAny_of_eq (F.cmp_object.ne.bind _) (wpAny_pure (by exact fin))))
def BackB (Q : Bool → Shared → Prop) (v : Value) (s' : Shared) : Prop := ∃ r, v = .bool r ∧ Q r s'
theorem ne_K {Q : Value → Shared → Prop} (hu : A.units + 1 < cLine) (X : K.In s.heap) (I : PySem.W.InstAt s.heap x ox C od) (hb : PySem.W.Looks (model prog w) s.heap (typeOf b) tb) (hn : PySem.W.notFirst K C tb = true)
    (hm : PySem.W.mroIn K C (.type "object") = some true) (hs : PySem.W.findIn K (.ref C) "__ne__" = some (some (.builtin "object.__ne__"))) (he : PySem.W.findIn K (.ref C) "__eq__" = some (some (.ref f))) (hf : PySem.W.isFn K (.ref f) = true)
    (h : wpAny (model prog w) A.in1 (call (.ref f) [.ref x, b]) (BackB fun r s' => Q (.bool (!r)) s') E s) : wpAny (model prog w) A (richCompare .NotEq (.ref x) b) Q E s := by
  have ent : wpAny (model prog w) A.in1 (Builtin.«object.__ne__» ⟨[.ref x, b], []⟩) (fun r s' => ∃ v, r = .done (.ret (.bool v)) ∧ Q (.bool v) s') E s := by
    unfold Builtin.«object.__ne__»
    repeat (first
      | with_reducible refine wpAny_cRoomFor hu ?_
      | (refine wpAny_bind (m := callSpecialIfBound? (.ref x) (Str.ofString "__eq__") [b])
          (PySem.W.ifBound_K X I he hf (wpAny_mono h (fun r s' hr => by
            obtain ⟨b, rfl, hq⟩ := hr
            repeat (first | exact ⟨_, rfl, hq⟩ | exact wpAny_pure ⟨_, rfl, hq⟩ | (refine wpAny_bind (m := truthy (.bool _)) (wpAny_truthy_bool ?_)) | wp_step)) fun _ _ e => e)))
      | wp_step)
  have one : wpAny (model prog w) A (tryCompare (.ref x) "__ne__" b) (fun r s' => ∃ v, r = some v ∧ Q v s') E s := by
    unfold tryCompare
    refine wpAny_bind (ifBound_objNe X I hs ?_)
    refine wpAny_call (codeAny_call_builtin F.cmp_object.ne.plain F.cmpEntry_ne (PySem.W.check_slot F.cmpKind_ne F.cmpSplit_ne (I.type.andThen (PySem.W.looks_mroIn X hm)) (F.cmpArgs_ne _ _) ?_))
    refine wpAny_mono ent (fun r s' hq => ?_) fun _ _ e => e
    obtain ⟨v, rfl, hq⟩ := hq
    first
      | exact wpAny_pure ⟨_, rfl, hq⟩
      | exact ⟨_, rfl, wpAny_pure ⟨_, rfl, hq⟩⟩
  unfold richCompare
  simp only [oneThing_ref]
  refine wpAny_holding (wpAny_bind (wpAny_cRoomFor (Nat.lt_of_succ_lt hu) ?_))
  refine wpAny_bind (I.type.here (wpAny_bind (hb.here ?_)))
  split
  · rename_i q
    have e : PySem.W.subIn K tb (.ref C) = some false := by
      rcases Bool.or_eq_true_iff.mp hn with e | e
      · rw [beq_iff_eq.mp e] at q; simp at q
      · exact beq_iff_eq.mp e
    refine wpAny_bind ((PySem.W.looks_subIn X e).here ?_)
    simp only [Bool.false_eq_true, if_false]
    refine wpAny_bind (wpAny_mono one (fun r s' z => ?_) fun _ _ e => e)
    obtain ⟨v, rfl, hq⟩ := z
    exact wpAny_pure hq
  · refine wpAny_bind (wpAny_pure ?_)
    simp only [Bool.false_eq_true, if_false]
    refine wpAny_bind (wpAny_mono one (fun r s' z => ?_) fun _ _ e => e)
    obtain ⟨v, rfl, hq⟩ := z
    exact wpAny_pure hq
end
section
variable {X : Cx} {CX : CXT} {n : Nat} {C f : Addr} {fd : FuncData} {ps : List Str} {sp : Sp} {E : XK}
def rEqI (K : PySem.W.Frag) (C : Addr) (sp : Sp) (E : XK) : R2 := fun x y H Q => ∃ a dx fs t, x = .ref a ∧ H a = some (.ins C dx fs) ∧ TyX K H y t ∧ PySem.W.notFirst K C t = true ∧ sp [x, y] H (fun v H' => ∃ b, v = .bl b ∧ Q (.bl b) H') E
def rNeI (K : PySem.W.Frag) (C : Addr) (sp : Sp) (E : XK) : R2 := fun x y H Q => ∃ a dx fs t, x = .ref a ∧ H a = some (.ins C dx fs) ∧ TyX K H y t ∧ PySem.W.notFirst K C t = true ∧ sp [x, y] H (fun v H' => ∃ b, v = .bl b ∧ Q (.bl (!b)) H') E
theorem op_eqI (F : FnOk X.prog X.w X.K X.mg X.base CX n f fd ps sp) (hs : PySem.W.findIn X.K (.ref C) "__eq__" = some (some (.ref f))) (hf : PySem.W.isFn X.K (.ref f) = true) (hb : Binds X.K fd ps []) (hx : Passes CX X E) (hr : Room n X.A) :
    OpR X (compareOp .Eq) (rEqI X.K C sp E) := by
  intro pins s σ H x y v u Q I rx ry ⟨a, dx, fs, t, e1, ha, ty, nf, q⟩
  subst e1
  cases rx
  obtain ⟨mA, J, _⟩ := ins_get I.hok ha
  obtain ⟨od, J, _⟩ := J.look
  obtain ⟨P, Z, p, _⟩ := kit_of I ry ty
  obtain ⟨m, hF⟩ := I.fr
  show wpAny (model X.prog X.w) X.A (richCompare .Eq (.ref a) u) (EP X pins σ Q) X.xe s
  refine PySem.W.cmp_K (op := .Eq) (tb := t) hr.units0 hF I.ok.mod.kin J (Z.ty _ _ I.kIn p) nf hs hf ?_
  have hl := F.len _ _ _ _ q
  refine wpAny_call (codeAny_mono (F.run X.A X.stack s H ⟨[.ref a, u], []⟩ [.ref a, u] [.ref a, y] _ E hr I.env0 (by
    have := hb s [.ref a, u] I.kIn (by simpa using hl)
    simpa using this) (.cons rfl (.cons ry .nil)) q) fun r s' hq => ?_)
  cases r with
  | error e => exact hx pins σ H s e s' I hq
  | ok fl =>
    cases fl with
    | ret w =>
      obtain ⟨z, H', I', rz, b, rfl, q2⟩ := I.after hq
      cases rz
      exact ⟨.bl b, H', I', rfl, q2⟩
    | next => exact False.elim hq
    | brk => exact False.elim hq
    | cont => exact False.elim hq
theorem op_neI (F : FnOk X.prog X.w X.K X.mg X.base CX n f fd ps sp) (he : PySem.W.findIn X.K (.ref C) "__eq__" = some (some (.ref f))) (hs : PySem.W.findIn X.K (.ref C) "__ne__" = some (some (.builtin "object.__ne__"))) (hm : PySem.W.mroIn X.K C (.type "object") = some true)
    (hf : PySem.W.isFn X.K (.ref f) = true) (hb : Binds X.K fd ps []) (hx : Passes CX X E) (hr : Room (n + 1) X.A) : OpR X (compareOp .NotEq) (rNeI X.K C sp E) := by
  intro pins s σ H x y v u Q I rx ry ⟨a, dx, fs, t, e1, ha, ty, nf, q⟩
  subst e1
  cases rx
  obtain ⟨mA, J, _⟩ := ins_get I.hok ha
  obtain ⟨od, J, _⟩ := J.look
  obtain ⟨P, Z, p, _⟩ := kit_of I ry ty
  show wpAny (model X.prog X.w) X.A (richCompare .NotEq (.ref a) u) (EP X pins σ Q) X.xe s
  refine ne_K (by have := hr.units; omega) I.kIn J (Z.ty _ _ I.kIn p) nf hm hs he hf ?_
  have hl := F.len _ _ _ _ q
  refine wpAny_call (codeAny_mono (F.run X.A.in1 X.stack s H ⟨[.ref a, u], []⟩ [.ref a, u] [.ref a, y] _ E hr.in1 I.env0.in1 (by
    have := hb s [.ref a, u] I.kIn (by simpa using hl)
    simpa using this) (.cons rfl (.cons ry .nil)) q) fun r s' hq => ?_)
  cases r with
  | error e => exact hx pins σ H s e s' I hq
  | ok fl =>
    cases fl with
    | ret w =>
      obtain ⟨z, H', I', rz, b, rfl, q2⟩ := I.after hq
      cases rz
      exact ⟨b, rfl, .bl (!b), H', I', rfl, q2⟩
    | next => exact False.elim hq
    | brk => exact False.elim hq
    | cont => exact False.elim hq
end
end Ys
namespace Ys
open PySem PySem.Spec PyProof.Rows L2
section
variable {X : Cx} {K : PySem.W.Frag} {P : Program} {w : World} {G G1 H : Hp} {M M1 : List (Addr × HO)} {σ : L2.St} {Q : VK} {QB : Bool → Hp → Prop} {D : Ends} {tc : TT} {ta te tb : TE} {t : TA} {A B : Prop} {v x y : V} {i j : Int} {a b p : Addr} {xs ys vs : List V} {o : HO} {d : PyData} {R : It → Hp → Prop}
/-! ### what is walked: a list, a tuple or a text -/
def iOr (i1 i2 : TI) : TI := fun σ H R => i1 σ H R ∨ i2 σ H R
theorem pi_or {tg e : Expr} {i1 i2 : TI} (h1 : PI X tg e i1) (h2 : PI X tg e i2) : PI X tg e (iOr i1 i2) := ⟨fun pins s σ H R I h => h.elim (h1.run pins s σ H R I) (h2.run pins s σ H R I)⟩
def iAny (K : PySem.W.Frag) (te : TE) : TI := iOr (iList K te) (iOr (iTup K te) (iStr te))
theorem pi_any {tg e : Expr} (h : PE X e te) : PI X tg e (iAny X.K te) := pi_or (pi_list h) (pi_or (pi_tup h) (pi_str h))
theorem z_anyL (h : te σ H fun x H1 => ItL K x H1 R) : iAny K te σ H R := .inl h
theorem z_anyT (h : te σ H fun x H1 => ItT K x H1 R) : iAny K te σ H R := .inr (.inl h)
theorem z_anyS (h : te σ H fun x H1 => ItS x H1 R) : iAny K te σ H R := .inr (.inr h)
/-! ### isinstance -/
def rIsiG (K : PySem.W.Frag) : List V → Hp → VK → Prop := fun xs H Q => rIsi K xs H Q ∨ rIsiT K xs H Q
theorem c_isi : CallR X (.builtin "isinstance") (rIsiG X.K) := CallR.or call_isi call_isiT
theorem z_isi {t u : Value} {r : Bool} {c : V} (k : ClsV c u) (ty : TyX K H x t) (e : PySem.W.kitOne K t u = some r) (q : Q (.bl r) H) : rIsiG K [x, c] H Q := .inl ⟨x, c, t, u, r, rfl, k, ty, e, q⟩
theorem z_isi2 {cs : List V} {t : Value} {us : List Value} {r : Bool} (z : Zp G M H) (h : G a = some (.tup cs)) (k : Paired ClsV cs us) (ty : TyX K H x t) (e : PySem.W.kitAny K t us = some r) (q : Q (.bl r) H) : rIsiG K [x, .ref a] H Q :=
  .inr ⟨x, a, cs, t, us, r, rfl, z.sub _ _ h, k, ty, e, q⟩
def tyD : PyData → String
  | .none => "NoneType"
  | .bool _ => "bool"
  | .int _ => "int"
  | .str _ => "str"
  | .list _ => "list"
  | .tuple _ => "tuple"
  | .dict _ => "dict"
theorem tyL (h : SqL K H a xs) : TyX K H (.ref a) (.type "list") := by
  rcases h with (h | ⟨o, h⟩) | ⟨o, its, n, hk, hc, _⟩
  · exact .base (.lst h)
  · exact .base (.frz h)
  · exact .kList hk hc
theorem tyT (h : SqT K H a xs) : TyX K H (.ref a) (.type "tuple") := by
  rcases h with (h | ⟨o, h⟩) | ⟨o, its, n, hk, hc, _⟩
  · exact .base (.tup h)
  · exact .fTuple h
  · exact .kTuple hk hc
theorem Dt.ty (h : Dt K H v d) : TyX K H v (.type (tyD d)) := by
  cases h with
  | non => exact .base .non
  | bl b => exact .base (.bl b)
  | int i => exact .base (.int i)
  | str x => exact .base (.str x)
  | lst h _ => exact tyL h
  | tup h _ => exact tyT h
  | dct h _ _ =>
    rcases h with h | ⟨o, h⟩
    · exact .base (.dK h)
    · exact .fDict h
def Ar (K : PySem.W.Frag) (G : Hp) (M : List (Addr × HO)) (v : V) (d : PyData) : Prop := Dt K G v d ∨ ∃ a xs ds, v = .ref a ∧ (a, .lst xs) ∈ M ∧ Dts K G xs ds ∧ d = .list ds
theorem Ar.up (s : Same G G1) (h : Ar K G M v d) : Ar K G1 M v d := h.imp (fun h => h.up s) fun ⟨a, xs, ds, e, m, h, e2⟩ => ⟨a, xs, ds, e, m, h.up s, e2⟩
theorem Ar.sub (s : ∀ u ∈ M, u ∈ M1) (h : Ar K G M v d) : Ar K G M1 v d := h.imp id fun ⟨a, xs, ds, e, m, h, e2⟩ => ⟨a, xs, ds, e, s _ m, h, e2⟩
theorem Zp.mem (z : Zp G M H) (h : (a, o) ∈ M) : H a = some o := by
  obtain ⟨i, hi⟩ := List.getElem?_of_mem h
  exact (z.own i a o hi).1
theorem Ar.dt (z : Zp G M H) (h : Ar K G M v d) : Dt K H v d := by
  rcases h with h | ⟨a, xs, ds, rfl, m, h, rfl⟩
  · exact z.dt h
  · exact .lst (SqL.of (z.mem m)) (h.up z.sub)
theorem Ar.ty (z : Zp G M H) (h : Ar K G M v d) : TyX K H v (.type (tyD d)) := (h.dt z).ty
theorem Ar.list {ds : List PyData} (z : Zp G M H) (h : Ar K G M v (.list ds)) : ∃ a xs, v = .ref a ∧ SqL K H a xs ∧ Dts K G xs ds ∧ ∀ G1 H1, Zp G1 M H1 → Same G G1 → SqL K H1 a xs := by
  rcases h with h | ⟨a, xs, ds', rfl, m, h, e⟩
  · cases h with
    | lst h1 h2 => exact ⟨_, _, rfl, z.seqL h1, h2, fun G1 H1 z1 s1 => z1.seqL (upL s1 h1)⟩
  · cases e
    exact ⟨a, xs, rfl, SqL.of (z.mem m), h, fun G1 H1 z1 s1 => SqL.of (z1.mem m)⟩
theorem Ar.tup {ds : List PyData} (h : Ar K G M v (.tuple ds)) : ∃ a xs, v = .ref a ∧ SqT K G a xs ∧ Dts K G xs ds := by
  rcases h with h | ⟨a, xs, ds', rfl, m, h, e⟩
  · cases h with
    | tup h1 h2 => exact ⟨_, _, rfl, h1, h2⟩
  · cases e
theorem Ar.str {s : Str} (h : Ar K G M v (.str s)) : v = .str s := by
  rcases h with h | ⟨a, xs, ds', rfl, m, h, e⟩
  · cases h; rfl
  · cases e
theorem Dts.len {ds : List PyData} : ∀ {xs : List V} {ds : List PyData}, Dts K G xs ds → xs.length = ds.length
  | _, _, .nil => rfl
  | _, _, .cons _ h => congrArg Nat.succ (Dts.len (ds := ds) h)
theorem Dts.at_ : ∀ {xs : List V} {ds : List PyData} {k : Nat} {x : V}, Dts K G xs ds → xs[k]? = some x → ∃ d, ds[k]? = some d ∧ Dt K G x d
  | _, _, 0, x, .cons h _, e => by
    simp at e
    exact ⟨_, rfl, e ▸ h⟩
  | _, _, k + 1, x, .cons _ h, e => by
    have := Dts.at_ (k := k) h (by simpa using e)
    simpa using this
/-! ### constants of the module -/
def GC (mg : Str → Option Value) (x : Str) (v : V) : Prop := ∃ u, mg x = some u ∧ RelV v u
theorem pe_gC {x : Str} {pos : Pos} (h : GC X.mg x v) (hg : Gl X x) (hd : (x == ("__debug__" : Str)) = false := by decide) : PE X (.Name x pos) (tC v) := by
  obtain ⟨u, hm, r⟩ := h
  exact ⟨fun pins s σ H Q I h => (pe_glob (v := v) hg hm r hd).run pins s σ H Q I h⟩
/-! ### calls with defaults, properties, methods, making -/
structure OwnA (P : Program) (w : World) (K : PySem.W.Frag) (mg : Str → Option Value) (base : Heap) (CX : CXT) (k : Nat) (x : Str) (ps : List Str) (dvs : List V) (sp : Sp) : Prop where
  ex : ∃ f fd ds, FnOk P w K mg base CX k f fd ps sp ∧ mg x = some (.ref f) ∧ PySem.W.keepIn K (.ref f) = true ∧ Binds K fd ps ds ∧ Vals dvs ds
theorem pe_ownA {CX : CXT} {k : Nat} {x : Str} {ps : List Str} {dvs : List V} {sp : Sp} {E : XK} {p pos : Pos} {e : Expr} {es : List Expr} {t : TA} (C : OwnA X.prog X.w X.K X.mg X.base CX k x ps dvs sp) (hr : Room k X.A) (hg : Gl X x) (hx : Passes CX X E) (ha : PA X (e :: es) t)
    (hdb : (x == ("__debug__" : Str)) = false := by decide) (he : starEach (e :: es) X.env = (false, eval e X.env) :: starEach es X.env := by rfl) (hpl : (backTo pos (starEach es X.env)).any (·.1) = false := by rfl) :
    PE X (.Call (.Name x p) (e :: es) [] pos) (tCall sp dvs E t) := by
  obtain ⟨f, fd, ds, F, hm, hk, hb, hv⟩ := C.ex
  exact ⟨fun pins s σ H Q I h => (pe_call F hr hg hm hk hb hv hx ha hdb he hpl).run pins s σ H Q I h⟩
structure Prp (P : Program) (w : World) (K : PySem.W.Frag) (mg : Str → Option Value) (base : Heap) (CX : CXT) (k : Nat) (C : Addr) (x : Str) (sp : Sp) : Prop where
  ex : ∃ p g fd, PropOf K C x p g ∧ FnOk P w K mg base CX k g fd ["self"] sp ∧ Binds K fd ["self"] []
  cl : Cls K C
theorem pe_pr {CX : CXT} {k : Nat} {C : Addr} {x : Str} {sp : Sp} {E : XK} {e : Expr} {pos : Pos} (R : Prp X.prog X.w X.K X.mg X.base CX k C x sp) (hr : Room (k + 1) X.A) (hx : Passes CX X.nox E) (he : PE X e ta) (hb : attributeBase e x X.env (eval e X.env) = eval e X.env := by rfl) :
    PE X (.Attribute e x pos) (tProp C sp [] E ta) := by
  obtain ⟨p, g, fd, hp, F, hd⟩ := R.ex
  exact ⟨fun pins s σ H Q I h => (pe_prop he R.cl hp F hr hd .nil hx hb).run pins s σ H Q I h⟩
def InsW (C : Addr) (x : V) (H : Hp) (A : Prop) : Prop := ∃ a dx fs, x = .ref a ∧ H a = some (.ins C dx fs) ∧ A
end
end Ys
namespace Ys
open PySem PySem.Spec PyProof.Rows L2
section
variable {X : Cx} {K : PySem.W.Frag} {P : Program} {w : World} {G G1 H : Hp} {M M1 : List (Addr × HO)} {σ : L2.St} {Q : VK} {QB : Bool → Hp → Prop} {QA : List V → Hp → Prop} {D : Ends} {ta te tb tv : TE} {t tk : TA} {A B : Prop} {v x y : V} {i j : Int} {a b p : Addr} {xs ys vs zs : List V} {o : HO} {d : PyData}
variable {CX : CXT} {k n m : Nat} {C dx : Addr} {nm f : Str} {ps ks : List Str} {dvs : List V} {sp : Sp} {E : XK} {fs : List (Str × V)} {gV : List V → List V → List V}
structure Mth (P : Program) (w : World) (K : PySem.W.Frag) (mg : Str → Option Value) (base : Heap) (CX : CXT) (k : Nat) (C : Addr) (m : Str) (ps : List Str) (dvs : List V) (sp : Sp) : Prop where
  ex : ∃ f fd ds, Meth K C m f ∧ FnOk P w K mg base CX k f fd ps sp ∧ Binds K fd ps ds ∧ Vals dvs ds
  cl : Cls K C
theorem pe_mt0 {m : Str} {e : Expr} {pos apos : Pos} {pl : Sem Bool} (R : Mth X.prog X.w X.K X.mg X.base CX k C m ps dvs sp) (hr : Room k X.A) (hx : Passes CX X E) (he : PE X e ta)
    (ht : eval (.Call (.Attribute e m apos) [] [] pos) X.env = (do
      let ov ← eval e X.env
      standAt apos.atName
      let (f, first) ← holding [ov] (getMethod ov m pl)
      callWith pos f first (backTo pos (starEach [] X.env)) (backToKw pos (keywordEach [] X.env))) := by rfl) : PE X (.Call (.Attribute e m apos) [] [] pos) (tMeth C m sp dvs E ta tNil) := by
  obtain ⟨f, fd, ds, hm, F, hb, hv⟩ := R.ex
  exact ⟨fun pins s σ H Q I h => (pe_meth0 he R.cl hm F hr hb hv hx ht).run pins s σ H Q I h⟩
theorem pe_mt {m : Str} {e e1 : Expr} {es : List Expr} {pos apos : Pos} {pl : Sem Bool} (R : Mth X.prog X.w X.K X.mg X.base CX k C m ps dvs sp) (hr : Room k X.A) (hx : Passes CX X E) (he : PE X e ta) (ha : PA X (e1 :: es) t)
    (hst : starEach (e1 :: es) X.env = (false, eval e1 X.env) :: starEach es X.env := by rfl) (hpl : (backTo pos (starEach es X.env)).any (·.1) = false := by rfl)
    (ht : eval (.Call (.Attribute e m apos) (e1 :: es) [] pos) X.env = (do
      let ov ← eval e X.env
      standAt apos.atName
      let (f, first) ← holding [ov] (getMethod ov m pl)
      callWith pos f first (backTo pos (starEach (e1 :: es) X.env)) (backToKw pos (keywordEach [] X.env))) := by rfl) : PE X (.Call (.Attribute e m apos) (e1 :: es) [] pos) (tMeth C m sp dvs E ta t) := by
  obtain ⟨f, fd, ds, hm, F, hb, hv⟩ := R.ex
  exact ⟨fun pins s σ H Q I h => (pe_meth he R.cl hm F hr hb hv hx ha hst hpl ht).run pins s σ H Q I h⟩
structure MkS (P : Program) (w : World) (K : PySem.W.Frag) (mg : Str → Option Value) (base : Heap) (CX : CXT) (k : Nat) (C : Addr) (x : Str) (n : Nat) (ks : List Str) (gV : List V → List V → List V) (sp : Sp) : Prop where
  ex : ∃ f fd ps g, Mk K C f ∧ FnOk P w K mg base CX k f fd ps sp ∧ mg x = some (.ref C) ∧ KBn K fd ps (n + 1) ks g gV
theorem pe_mk0 {x : Str} {p pos : Pos} {kws : List Keyword} (R : MkS X.prog X.w X.K X.mg X.base CX k C x 0 ks gV sp) (hr : Room (k + 1) X.A) (hg : Gl X x) (hx : Passes CX X E) (hkw : PK X kws tk)
    (hall : (backToKw pos (keywordEach kws X.env)).all (·.1.isSome) = true := by rfl) (hks : (backToKw pos (keywordEach kws X.env)).filterMap (·.1) = ks := by rfl) (hdb : (x == ("__debug__" : Str)) = false := by decide)
    (hpl : ((backTo pos (starEach [] X.env)).any (·.1) || (backToKw pos (keywordEach kws X.env)).any (·.1.isNone)) = false := by rfl) :
    PE X (.Call (.Name x p) [] kws pos) (tMakeK C 0 ks.length sp gV E tNil tk) := by
  obtain ⟨f, fd, ps, g, hm, F, hmg, hb⟩ := R.ex
  exact ⟨fun pins s σ H Q I h => (pe_makeK0 hm F hr hg hmg hb hx hkw hall hks hdb hpl).run pins s σ H Q I h⟩
theorem pe_mk {x : Str} {p pos : Pos} {kws : List Keyword} {e : Expr} {es : List Expr} (R : MkS X.prog X.w X.K X.mg X.base CX k C x n ks gV sp) (hr : Room (k + 1) X.A) (hg : Gl X x) (hx : Passes CX X E) (ha : PA X (e :: es) t) (hkw : PK X kws tk)
    (hall : (backToKw pos (keywordEach kws X.env)).all (·.1.isSome) = true := by rfl) (hks : (backToKw pos (keywordEach kws X.env)).filterMap (·.1) = ks := by rfl) (hdb : (x == ("__debug__" : Str)) = false := by decide)
    (he : starEach (e :: es) X.env = (false, eval e X.env) :: starEach es X.env := by rfl) (hpl : ((backTo pos (starEach (e :: es) X.env)).any (·.1) || (backToKw pos (keywordEach kws X.env)).any (·.1.isNone)) = false := by rfl) :
    PE X (.Call (.Name x p) (e :: es) kws pos) (tMakeK C n ks.length sp gV E t tk) := by
  obtain ⟨f, fd, ps, g, hm, F, hmg, hb⟩ := R.ex
  exact ⟨fun pins s σ H Q I h => (pe_makeK hm F hr hg hmg hb hx ha hkw hall hks hdb he hpl).run pins s σ H Q I h⟩
/-! the steps -/
def PrW (C : Addr) (sp : Sp) (dvs : List V) (E : XK) (x : V) (H : Hp) (Q : VK) : Prop := ∃ a dx fs, x = .ref a ∧ H a = some (.ins C dx fs) ∧ sp (.ref a :: dvs) H Q E
theorem z_prop (h : ta σ H fun x H1 => PrW C sp dvs E x H1 Q) : tProp C sp dvs E ta σ H Q := h
theorem z_prI (z : Zp G M H) (h : G a = some (.ins C dx fs)) (q : sp (.ref a :: dvs) H Q E) : PrW C sp dvs E (.ref a) H Q := ⟨a, dx, fs, rfl, z.sub _ _ h, q⟩
def MtW (C : Addr) (f : Str) (x : V) (H : Hp) (A : Prop) : Prop := ∃ a dx fs, x = .ref a ∧ H a = some (.ins C dx fs) ∧ fs.lookup f = none ∧ A
theorem z_mt (h : ta σ H fun x H1 => MtW C f x H1 (t σ H1 fun vs H2 => sp (x :: (vs ++ dvs)) H2 Q E)) : tMeth C f sp dvs E ta t σ H Q := h
theorem z_mtI (z : Zp G M H) (h : G a = some (.ins C dx fs)) (l : fs.lookup f = none) (q : A) : MtW C f (.ref a) H A := ⟨a, dx, fs, rfl, z.sub _ _ h, l, q⟩
def MkW (C : Addr) (n m : Nat) (sp : Sp) (gV : List V → List V → List V) (E : XK) (vs zs : List V) (H2 : Hp) (Q : VK) : Prop := vs.length = n ∧ zs.length = m ∧ ∀ x dx, H2 x = none → H2 dx = none → dx ≠ x →
  sp (gV (.ref x :: vs) zs) (upd (upd H2 dx (.own x)) x (.ins C dx [])) (fun v H3 => v = .non ∧ Q (.ref x) H3) E
theorem z_mk (h : t σ H fun vs H1 => tk σ H1 fun zs H2 => MkW C n m sp gV E vs zs H2 Q) : tMakeK C n m sp gV E t tk σ H Q := h
theorem z_mkI (z : Zp G M H) (l1 : vs.length = n) (l2 : zs.length = m) (q : ∀ x dx H1, Zp (upd G dx (.own x)) (M ++ [(x, .ins C dx [])]) H1 → Same G (upd G dx (.own x)) → sp (gV (.ref x :: vs) zs) H1 (fun v H3 => v = .non ∧ Q (.ref x) H3) E) : MkW C n m sp gV E vs zs H Q :=
  ⟨l1, l2, fun x dx hx hd ne => q x dx _ ((z.new hd _).add (by rw [upd_ne (Ne.symm ne)]; exact hx) _) (Same.new (z.free hd))⟩
def FlW (K : PySem.W.Frag) (f : Str) (x : V) (H : Hp) (Q : VK) : Prop := ∃ a C dx fs v, x = .ref a ∧ H a = some (.ins C dx fs) ∧ Cls K C ∧ NoAttr K C f ∧ fs.lookup f = some v ∧ Q v H
theorem z_fl (h : ta σ H fun x H1 => FlW K f x H1 Q) : tFld K ta f σ H Q := h
theorem z_flI (z : Zp G M H) (h : G a = some (.ins C dx fs)) (c : Cls K C) (n : NoAttr K C f) (l : fs.lookup f = some v) (q : Q v H) : FlW K f (.ref a) H Q := ⟨a, C, dx, fs, v, rfl, z.sub _ _ h, c, n, l, q⟩
def FsW (K : PySem.W.Frag) (f : Str) (x y : V) (H2 : Hp) (R : Hp → Prop) : Prop := ∃ a C dx fs, x = .ref a ∧ H2 a = some (.ins C dx fs) ∧ Cls K C ∧ NoAttr K C f ∧ fs.length < 1000 ∧ R (upd H2 a (.ins C dx (putF f y fs)))
theorem z_fs (h : tv σ H fun y H1 => ta σ H1 fun x H2 => FsW K f x y H2 (D.nx σ)) : sFld K ta tv f D σ H := h
theorem z_fsI {R : Hp → Prop} (z : Zp G M H) (i : Nat) (e : M[i]? = some (a, .ins C dx fs)) (c : Cls K C) (n : NoAttr K C f) (l : fs.length < 1000) (q : ∀ H1, Zp G (M.set i (a, .ins C dx (putF f y fs))) H1 → R H1) : FsW K f (.ref a) y H R :=
  ⟨a, C, dx, fs, rfl, z.at_ i e, c, n, l, q _ (z.put i e _)⟩
theorem z_nN (q : Q (.bl (!decide (x = .non))) H) : rNotNon x .non H Q := ⟨rfl, q⟩
theorem z_iN (q : Q (.bl (decide (x = .non))) H) : rIsNon x .non H Q := ⟨rfl, q⟩
theorem z_itLH {R : It → Hp → Prop} (h : SqL K H a xs) (q : R (Itl K a) H) : ItL K (.ref a) H R := ⟨a, rfl, ⟨xs, h⟩, q⟩
theorem z_itTH {R : It → Hp → Prop} (h : SqT K H a xs) (q : R (Itt K a) H) : ItT K (.ref a) H R := ⟨a, rfl, ⟨xs, h⟩, q⟩
theorem z_lenH (h : SqL K H a xs ∨ SqT K H a xs) (q : Q (.int xs.length) H) : rLenG K P w [.ref a] H Q := h.elim (fun h => .inl ⟨_, _, rfl, .inl ⟨xs, h, rfl⟩, q⟩) fun h => .inl ⟨_, _, rfl, .inr ⟨xs, h, rfl⟩, q⟩
theorem z_setH {ss : List Str} (z : Zp G M H) (h : SqL K H a (ss.map V.str) ∨ SqT K H a (ss.map V.str)) (hl : ss.length < 1000)
    (q : ∀ p l G1 H1, Zp G1 M H1 → Same G G1 → G1 p = some (TxO P w p l) → (∀ x, x ∈ l ↔ x ∈ ss) → l.Nodup → l.length ≤ ss.length → Q (.ref p) H1) : rSetTx K P w [.ref a] H Q :=
  ⟨a, ss, rfl, h, hl, fun p l m nd len hp => q p l _ _ (z.new hp _) (Same.new (z.free hp)) upd_same m nd len⟩
theorem z_tI {R : It → Hp → Prop} (h : te σ H fun x H1 => ItT K x H1 R) : iTup K te σ H R := h
theorem z_fsL {R : Hp → Prop} (z : Zp G (M ++ [(a, .ins C dx fs)]) H) (c : Cls K C) (n : NoAttr K C f) (l : fs.length < 1000) (q : ∀ H1, Zp G (M ++ [(a, .ins C dx (putF f y fs))]) H1 → R H1) : FsW K f (.ref a) y H R := by
  refine z_fsI z M.length last_at c n l fun H1 z1 => q H1 ?_
  rw [List.set_append_right _ _ (Nat.le_refl _), Nat.sub_self] at z1
  exact z1
theorem putF_lt {n : Nat} : ∀ {fs : List (Str × V)}, fs.length < n → (putF f y fs).length < n + 1
  | [], h => by show 1 < n + 1; have : 0 < n := h; omega
  | (g, v) :: r, h => by
    unfold putF
    split
    · exact Nat.lt_succ_of_lt h
    · have h' : r.length + 1 < n := h
      cases n with
      | zero => omega
      | succ n =>
        have := putF_lt (n := n) (fs := r) (by omega)
        show (putF f y r).length + 1 < n + 1 + 1
        omega
def ItR2 (vs : List V) (H : Hp) (R : It → Hp → Prop) : Prop := ∃ i j : Int, vs = [.int i, .int j] ∧ (-(2 ^ 62) ≤ i ∧ i < 2 ^ 62 ∧ -(2 ^ 62) ≤ j ∧ j < 2 ^ 62) ∧ R (Itr i (j - i).toNat) H
theorem z_iR2 {R : It → Hp → Prop} (h : t σ H fun vs H1 => ItR2 vs H1 R) : iRng2 t σ H R := h
theorem z_itR2 {R : It → Hp → Prop} (h : -(2 ^ 62) ≤ i ∧ i < 2 ^ 62 ∧ -(2 ^ 62) ≤ j ∧ j < 2 ^ 62) (q : R (Itr i (j - i).toNat) H) : ItR2 [.int i, .int j] H R := ⟨i, j, rfl, h, q⟩
theorem z_gsub {ti : TE} {ts : TSet} {R : L2.St → Hp → Prop} (h : ta σ H fun o H1 => ti σ H1 fun i H2 => ts o i v H2 fun H3 => R σ H3) : gSub ta ti ts v σ H R := h
theorem z_slO {lo hi : Option Int} (z : Zp G M H) (k : Nat) (e : M[k]? = some (a, .lst xs)) (q : ∀ p G1 H1, Zp G1 M H1 → Same G G1 → G1 p = some (.lst (cutV xs lo hi)) → Q (.ref p) H1) : rSlG K (.ref a) lo hi H Q :=
  .inl ⟨a, xs, rfl, SqL.of (z.at_ k e), fun p hp => q p _ _ (z.new hp _) (Same.new (z.free hp)) upd_same⟩
theorem z_setO {R : Hp → Prop} {j : Nat} (z : Zp G M H) (k : Nat) (e : M[k]? = some (a, .lst xs)) (hj : ixN xs.length i = some j) (q : ∀ H1, Zp G (M.set k (a, .lst (xs.set j v))) H1 → R H1) : rSetL (.ref a) (.int i) v H R :=
  ⟨a, xs, i, j, rfl, rfl, z.at_ k e, hj, q _ (z.put k e _)⟩
theorem Dts.snoc : ∀ {xs : List V} {ds : List PyData} {x : V} {d : PyData}, Dts K G xs ds → Dt K G x d → Dts K G (xs ++ [x]) (ds ++ [d])
  | _, _, _, _, .nil, h => .cons h .nil
  | _, _, _, _, .cons a b, h => .cons a (Dts.snoc b h)
theorem Dts.set : ∀ {xs : List V} {ds : List PyData} {x : V} {d : PyData} (j : Nat), Dts K G xs ds → Dt K G x d → Dts K G (xs.set j x) (ds.set j d)
  | _, _, _, _, _, .nil, _ => .nil
  | _, _, _, _, 0, .cons a b, h => .cons h b
  | _, _, _, _, j + 1, .cons a b, h => .cons a (Dts.set j b h)
theorem perm_strs {ys : List V} {ss : List Str} (h : ys.Perm (ss.map V.str)) : ∃ ts : List Str, ys = ts.map V.str ∧ ts.Perm ss := by
  let un : V → Str := fun v => match v with | .str s => s | _ => ""
  have e : (ss.map V.str).map un = ss := by rw [List.map_map]; exact List.map_id'' (fun _ => rfl) ss
  refine ⟨ys.map un, ?_, ?_⟩
  · rw [List.map_map]
    have : ∀ v ∈ ys, (V.str ∘ un) v = v := fun v hv => by
      obtain ⟨s, _, rfl⟩ := List.mem_map.mp (h.mem_iff.mp hv)
      rfl
    rw [List.map_congr_left this]
    exact (List.map_id ys).symm
  · have := h.map un
    rw [e] at this
    exact this
/-! chains -/
theorem z_chain {r r' : R2} {tc : TE} (h : ta σ H fun x H1 => tb σ H1 fun y H2 => r x y H2 fun z H3 => IsB z H3 fun k H3 => Bif k (tc σ H3 fun w' H4 => r' y w' H4 Q) (Q (.bl false) H3)) : tChain r r' ta tb tc σ H Q := h
theorem z_inS {c : Nat} {z : Str} (q : Q (.bl (decide (c ∈ z.cps.toList))) H) : rInG K false (.str ⟨#[c]⟩) (.str z) H Q := .inl ⟨c, z, rfl, rfl, by simpa using q⟩
theorem z_eqI {sp : Sp} {t : Value} (z : Zp G M H) (h : G a = some (.ins C dx fs)) (ty : TyX K H y t) (nf : PySem.W.notFirst K C t = true) (q : sp [.ref a, y] H (fun v H' => ∃ b, v = .bl b ∧ Q (.bl b) H') E) : rEqI K C sp E (.ref a) y H Q :=
  ⟨a, dx, fs, t, rfl, z.sub _ _ h, ty, nf, q⟩
theorem z_neI {sp : Sp} {t : Value} (z : Zp G M H) (h : G a = some (.ins C dx fs)) (ty : TyX K H y t) (nf : PySem.W.notFirst K C t = true) (q : sp [.ref a, y] H (fun v H' => ∃ b, v = .bl b ∧ Q (.bl (!b)) H') E) : rNeI K C sp E (.ref a) y H Q :=
  ⟨a, dx, fs, t, rfl, z.sub _ _ h, ty, nf, q⟩
end
end Ys
namespace Ys
open PySem PySem.Spec PyProof.Rows L2
/-! the rules with the written part told -/
section
variable {X : Cx} {K : PySem.W.Frag} {P : Program} {w : World}
theorem k_add (e : X.K = K := by rfl) : OpR X (binaryOp .Add) (rAddG K) := e ▸ op_addG
theorem k_eq (hu : X.A.units + 64 < cLine) (e : X.K = K := by rfl) : OpR X (compareOp .Eq) (rEqG K) := e ▸ op_eqG hu
theorem k_ne (hu : X.A.units + 64 < cLine) (e : X.K = K := by rfl) : OpR X (compareOp .NotEq) (rNeG K) := e ▸ op_neG hu
theorem k_in (e : X.K = K := by rfl) : OpR X (compareOp .In) (rInG K false) := e ▸ o_in
theorem k_notIn (e : X.K = K := by rfl) : OpR X (compareOp .NotIn) (rInG K true) := e ▸ o_notIn
theorem k_sl (e : X.K = K := by rfl) : SlR X (rSlG K) := e ▸ sl_any
theorem kc_len (e : X.K = K := by rfl) (e1 : X.prog = P := by rfl) (e2 : X.w = w := by rfl) : CallR X (.builtin "len") (rLenG K P w) := by subst e; subst e1; subst e2; exact c_len
theorem kc_list (e : X.K = K := by rfl) : CallR X (.type "list") (rListG K) := e ▸ c_list
theorem kc_tuple (e : X.K = K := by rfl) : CallR X (.type "tuple") (rTupG K) := e ▸ c_tuple
theorem kc_all (hc : X.calm = true) (e : X.K = K := by rfl) : CallR X (.builtin "all") (rAllG K) := e ▸ c_all hc
theorem kc_sorted (hc : X.calm = true) (e : X.K = K := by rfl) (e1 : X.prog = P := by rfl) (e2 : X.w = w := by rfl) : CallR X (.builtin "sorted") (rSortG K P w) := by subst e; subst e1; subst e2; exact c_sorted hc
theorem kc_set (hc : X.calm = true) (e : X.K = K := by rfl) (e1 : X.prog = P := by rfl) (e2 : X.w = w := by rfl) : CallR X (.type "set") (rSetTx K P w) := by subst e; subst e1; subst e2; exact cr_setTx hc
theorem kc_repr (hg : X.A.guards = some []) (S : SysIn X.K) (hu : X.A.units + 64 < cLine) (e : X.K = K := by rfl) : CallR X (.builtin "repr") (rRepr K) := e ▸ cr_repr hg S hu
theorem kc_isi (e : X.K = K := by rfl) : CallR X (.builtin "isinstance") (rIsiG K) := e ▸ c_isi
theorem k_any {tg e : Expr} {te : TE} (h : PE X e te) (q : X.K = K := by rfl) : PI X tg e (iAny K te) := q ▸ pi_any h
theorem k_ix (e : X.K = K := by rfl) : IxR X (rIx K) := e ▸ ix_seq
theorem k_fld {o : Expr} {f : Str} {pos : Pos} {ta : TE} (h : PE X o ta) (hb : attributeBase o f X.env (eval o X.env) = eval o X.env) (e : X.K = K := by rfl) : PE X (.Attribute o f pos) (tFld K ta f) := e ▸ pe_fld h hb
theorem kg_tup {es : List Expr} {k : Nat} {t : TGs} {n : Nat} {pos : Pos} (hc : X.calm = true) (h : PGs X es t) (e : X.K = K := by rfl)
    (hn : (assignEach es X.env).length = n := by rfl) (hst : (assignEach es X.env).findIdx? (·.1) = none := by rfl) : PG X (.Tuple es k pos) (gTup K n t) := e ▸ pg_tup hc h hn hst
theorem kg_unl {es : List Expr} {k : Nat} {t : TGs} {n : Nat} {pos : Pos} (hc : X.calm = true) (h : PGs X es t) (e : X.K = K := by rfl)
    (hn : (assignEach es X.env).length = n := by rfl) (hst : (assignEach es X.env).findIdx? (·.1) = none := by rfl) : PG X (.Tuple es k pos) (gUnl K n t) := e ▸ pg_unl hc h hn hst
theorem k_tup {tg e : Expr} {te : TE} (h : PE X e te) (q : X.K = K := by rfl) : PI X tg e (iTup K te) := q ▸ pi_tup h
end
end Ys
namespace Ys
open PySem PySem.Spec PyProof.Rows L2
/-! ### defs that stand anywhere -/
theorem DefY.funD {K : PySem.W.Frag} {d : DefY} (e : fnY K (d.ad K) = d.val) (c : d.ok K = true) : ∃ fd, FunD K d.name d.qual d.params d.body d.scope (d.dvs K) (d.kws K) (d.ad K) fd := by
  obtain ⟨kp, c2⟩ := Bool.and_eq_true_iff.mp c
  cases hq : K.lookup (d.ad K) with
  | none => rw [hq] at c2; exact absurd c2 (by simp)
  | some ob =>
    rw [hq] at c2
    unfold fnY at e
    rw [hq] at e
    obtain ⟨o1, o2, o3, o4⟩ := ob
    cases o3 with
    | func g =>
      obtain ⟨g1, g2, g3, g4, g5, g6, g7, g8, g9, g10, g11, g12, g13, g14, g15⟩ := g
      obtain ⟨i1, i2, i3, i4, i5, i6, i7, i8⟩ : g1 = d.name ∧ g2 = d.qual ∧ g3 = d.params ∧ g4 = .stmts d.body ∧ g5 = d.scope ∧ g6 = mainGlobals ∧ g7 = [] ∧ g15 = builtinsNs := by
        have e' : (some (g1, g2, g3, g4, g5, g6, g7, g15) : He.FnW) = some (d.name, d.qual, d.params, .stmts d.body, d.scope, mainGlobals, [], builtinsNs) := e
        simpa only [Option.some.injEq, Prod.mk.injEq] using e'
      subst i1 i2 i3 i4 i5 i6 i7 i8
      obtain ⟨j1, j2⟩ := Bool.and_eq_true_iff.mp (show (PySem.W.codeIn K g13 d.qual && (He.dflB K g8 (d.dvs K) && He.kwdB K g9 (d.kws K))) = true from c2)
      obtain ⟨j3, j4⟩ := Bool.and_eq_true_iff.mp j2
      exact ⟨_, ⟨o1, o2, g8, g9, g10, g11, g12, g13, g14, o4, rfl, hq, j1, He.dflB_ok j3, He.kwdB_ok j4⟩, kp⟩
    | _ => exact absurd c2 (by simp)
/-! ### the Hook over facts of any kind -/
theorem obZ_eq {n : Nat} {fb : List (PySem.W.Frag → Bool)} {fn : List DefY} (s : PySem.W.SharedT) : obZ n fb fn s = (hookZ n fb fn).obs s.abs := by
  unfold obZ
  rw [show HandSHeadRun.getT s = s.abs.heap.get? from funext (HandSHeadRun.getT_eq s)]
  rfl
section
variable {fb : List (PySem.W.Frag → Bool)} {fn : List DefY} {K : PySem.W.Frag}
theorem SaysZ.at_ (c : SaysZ fb fn K) (i : Nat) {f : PySem.W.Frag → Bool} (h : fb[i]? = some f := by rfl) : f K = true := by
  have h1 : ((fb.all fun f => f K) && fn.all fun d => d.ok K) = true := congrArg Prod.fst c
  exact List.all_eq_true.mp (Bool.and_eq_true_iff.mp h1).1 f (List.mem_of_getElem? h)
theorem SaysZ.def_ (c : SaysZ fb fn K) (i : Nat) {d : DefY} (h : fn[i]? = some d := by rfl) : ∃ fd, FunD K d.name d.qual d.params d.body d.scope (d.dvs K) (d.kws K) (d.ad K) fd := by
  have h1 : ((fb.all fun f => f K) && fn.all fun d => d.ok K) = true := congrArg Prod.fst c
  have h2 : (fn.map fun d => fnY K (d.ad K)) = fn.map DefY.val := congrArg Prod.snd c
  refine DefY.funD ?_ (List.all_eq_true.mp (Bool.and_eq_true_iff.mp h1).2 d (List.mem_of_getElem? h))
  have h3 := congrArg (fun l : List He.FnW => l[i]?) h2
  simp only [List.getElem?_map, h, Option.map_some] at h3
  exact Option.some.inj h3
end
/-! ### facts -/
theorem fProp_ok {x m : Str} {K : PySem.W.Frag} (h : fProp x m K = true) : PropOf K (He.ga K x) m (cA x m K) (pA x m K) := by
  obtain ⟨h1, h⟩ := Bool.and_eq_true_iff.mp h
  obtain ⟨h2, h⟩ := Bool.and_eq_true_iff.mp h
  obtain ⟨h3, h4⟩ := Bool.and_eq_true_iff.mp h
  refine ⟨of_decide_eq_true h1, of_decide_eq_true h2, of_decide_eq_true h3, ?_⟩
  cases q : PySem.W.recIn K (cA x m K) "property" with
  | none => rw [q] at h4; cases h4
  | some l =>
    rw [q] at h4
    cases l with
    | nil => cases h4
    | cons v r =>
      cases v with
      | ref g => exact ⟨r, by rw [of_decide_eq_true h4]⟩
      | _ => cases h4
theorem fNil_ok {a : PySem.W.Frag → Addr} {K : PySem.W.Frag} (h : fNil a K = true) (G : Hp) : SqT K G (a K) [] := by
  unfold fNil at h
  cases q : K.lookup (a K) with
  | none => rw [q] at h; cases h
  | some ob =>
    rw [q] at h
    obtain ⟨o1, o2, o3, o4⟩ := ob
    cases o1 with
    | type c =>
      cases o3 with
      | seq its n =>
        obtain ⟨h1, h2⟩ := Bool.and_eq_true_iff.mp (show (decide (c = "tuple") && decide (its.size = 0)) = true from h)
        have hz := of_decide_eq_true h2
        have he : its.toList = [] := by
          apply List.eq_nil_of_length_eq_zero
          rw [Array.length_toList]
          exact hz
        exact .inr ⟨_, its, n, q, congrArg Value.type (of_decide_eq_true h1), rfl, by rw [hz]; exact Nat.zero_le _, by rw [he]; exact .nil⟩
      | _ => cases h
    | _ => cases o3 <;> cases h
end Ys
namespace Ys
open PySem PySem.Spec PyProof.Rows L2
/-! ### an own exception's __init__ that says super().__init__(x), self.f = x -/
structure SupF (P : Program) (K : PySem.W.Frag) (C fI : Addr) (fld qual : Str) (params : Arguments) (body : List Stmt) (scope : Scope) (fd : FuncData) : Prop where
  ex : ∃ oc od osl dV kV doc pm an cda ct cc, fd = PySem.W.ksFn "__init__" qual params body scope dV kV doc pm an (.ref cda) ct cc ∧ K.lookup fI = some ⟨oc, od, .func fd, osl⟩ ∧ PySem.W.codeIn K (.ref cda) qual = true ∧
    (∃ ccl cdd vs ccs file tf, K.lookup cda = some ⟨ccl, cdd, .fields vs, ccs⟩ ∧ vs[2]? = some (.str file tf) ∧ ((P.main.file : Str) == file) = true) ∧ ∃ cl cld csl, K.lookup cc = some ⟨cl, cld, .cell (some (.ref C)), csl⟩
  sup : PySem.W.ks_superIn K C C "__init__" = some (some (.builtin "ValueError.__init__"))
  subV : PySem.W.subIn K (.ref C) (.type "ValueError") = some true
  opq : PySem.W.nsIn K cStatics "thirdparty.any" = some none
  gs : PySem.W.nsIn K mainGlobals "super" = some none
  no : PySem.W.findIn K (.ref C) fld = some none
  mro : PySem.W.mroIn K C (.ref C) = some true
structure SupS (x : Str) (params : Arguments) (scope : Scope) : Prop where
  nc : ∀ y ∈ scope.names, y.2 ≠ .cell
  ns : scope.names.lookup ("super" : Str) = some .globalImplicit
  nk : scope.names.lookup ("__class__" : Str) = some .free
  n1 : scope.names.lookup ("self" : Str) = some .local
  n2 : scope.names.lookup x = some .local
  co : scope.isCoroutine = false
  ge : scope.isGenerator = false
  ki : scope.kind = .function
  hd : ∃ ar, (params.posonlyargs ++ params.args).head? = some ar ∧ ar.arg = "self"
  ne : ("self" : Str) ≠ x
  nd : (x == ("__debug__" : Str)) = false
section
variable {P : Program} {w : World} {K : PySem.W.Frag} {C fI a t0 : Addr} {x fld qual : Str} {params : Arguments} {scope : Scope} {p0 p1 p2 p3 p4 p5 p6 p7 p8 p9 : Pos} {A : Around} {mg mb : Str → Option Value} {v : Value} {R : Result → Shared → Prop} {fd : FuncData} {hp : Heap} {g : Array GenState} {d : Drawn} {t : Nat} {os : OsState}
theorem call_mwV {mw : Addr} {us : List Value} {nm q : Str} {N : Addr} {bs bm : List Value} {hd : Bool} {sn : List Str} {sub : List Value} {ab : Bool} {col : Option Bool} {dd : Option Addr} {k0 k1 k2 k3 k5 : Option Value} {Q : Value → Shared → Prop} {E : Value → Shared → Prop}
    (hC : hp.get? C = some (excClassObj nm q C N bs bm hd sn sub ab col dd k0 k1 k2 k3 k5 "ValueError.__new__")) (_hT : ∀ Y : String, bm.contains (.type Y) = PySem.HandSPX.veTail.contains (.type Y)) (hx : hp.get? a = some (PySem.HandSPX.excO C t0)) (hu : hp.get? mw = some (PySem.W.kxs_mw "ValueError.__init__" a)) (hz : us.length ≤ sizeLine)
    (hq : ∀ h' t1, (∀ b o, b ≠ a → hp.get? b = some o → h'.get? b = some o) → h'.get? a = some (PySem.HandSPX.excO C t1) → Q .none ⟨h', g, d, t, os⟩) : wpAny (model P w) A (call (.ref mw) us) Q E ⟨hp, g, d, t, os⟩ := by
  refine wpAny_call (codeAny_of_tree ?_)
  show wpAny _ A.in1 (callAny (.ref mw) ⟨us, []⟩) _ _ _; simp only [callAny]
  refine wpAny_bind (wpAny_load hu ?_)
  have q1 : (Value.type "method-wrapper" == Value.type "method" || Value.type "method-wrapper" == Value.type "builtin_function_or_method" || Value.type "method-wrapper" == Value.type "method-wrapper") = true := by decide
  simp only [PySem.W.kxs_mw, q1, if_true]
  refine PySem.W.KFB.if_so (by decide) (wpAny_bind (PySem.W.check_bound_init F.excBase_ValueError.toExcCallFacts hC hx rfl ?_))
  refine wpAny_bind (wpAny_pure (wpAny_pure ⟨plainId_quiet F.excBase_ValueError.init.plain _, codeAny_builtin F.excBase_ValueError.initEntry ?_⟩))
  exact PySem.W.exc_init_tree (cls := .ref C) (t0 := t0) (dv := none) (c2 := .none) (c3 := .none) (b4 := .bool false) hx hz fun h' k e _ => hq h' _ k e
def supBody (x fld : Str) (p0 p1 p2 p3 p4 p5 p6 p7 p8 p9 : Pos) : List Stmt := [.Expr (.Call (.Attribute (.Call (.Name "super" p0) [] [] p1) "__init__" p2) [.Name x p3] [] p4) p5, .Assign [.Attribute (.Name "self" p6) fld p7] (.Name x p8) p9]
theorem run_sup (S : SupF P K C fI fld qual params (supBody x fld p0 p1 p2 p3 p4 p5 p6 p7 p8 p9) scope fd) (Z : SupS x params scope) (T : OexC K C) (X : K.In hp) (hg : hp.Ns mainGlobals mg) (hb : hp.Ns builtinsNs mb) (hbb : ∀ y : Str, y ≠ "__name__" → mb y = bootBuiltins y) (hlim : hp.NoLimit) (hroom : A.depth < recursionLimit) (hun : A.units + 64 < cLine)
    (hev : ∀ env : Env, env.scope = scope → ∃ pl : Sem Bool, eval (.Call (.Attribute (.Call (.Name "super" p0) [] [] p1) "__init__" p2) [.Name x p3] [] p4) env = (do
      let ov ← attributeBase (.Call (.Name "super" p0) [] [] p1) "__init__" env (eval (.Call (.Name "super" p0) [] [] p1) env)
      standAt p2.atName
      let (f, first) ← holding [ov] (getMethod ov "__init__" pl)
      callWith p4 f first (backTo p4 (starEach [.Name x p3] env)) []))
    (hint : ∀ env : Env, env.scope = scope → interactive env = false) (hsw1 : ∀ env : Env, env.scope = scope → swapsWith (.Call (.Attribute (.Call (.Name "super" p0) [] [] p1) "__init__" p2) [.Name x p3] [] p4) none p5.line env = pure false)
    (hsw2 : ∀ env : Env, env.scope = scope → swapsWith (.Name x p8) (some (.Attribute (.Name "self" p6) fld p7)) p9.line env = pure false)
    (htop : (P.main.scope.names.lookup ("super" : Str)).isSome = false)
    (haK : K.lookup a = none) (hx : hp.get? a = some (PySem.HandSPX.excO C t0)) (args : Args) (hbind : BindsTo ⟨hp, g, d, t, os⟩ fd args [("self", .ref a), (x, v)])
    (hR : ∀ h' tk dx t1, (∀ b o, b ≠ a → hp.get? b = some o → h'.get? b = some o) → hp.objs.size ≤ dx → dx ≠ a → h'.get? a = some ({ cls := .ref C, dict := some dx, data := .fields #[.ref t1, .none, .none, .none, .bool false, .none] } : Obj) →
      h'.Ns1 dx (fun y => if y = fld then some v else none) → R (.ok (.ret .none)) ⟨h', g, d, tk, os⟩) :
    codeAny (model P w) A (.call (.ref fI) args) R ⟨hp, g, d, t, os⟩ := by
  obtain ⟨oc, od, osl, dV, kV, doc, pm, an, cda, ct, cc, rfl, lk, hcd, ⟨ccl, cdd, vs, ccs, file, tf, lcd, hvs, hfile⟩, cl, cld, csl, lcc⟩ := S.ex
  obtain ⟨ar, har, hars⟩ := Z.hd
  obtain ⟨nm, q, N, bs, bm, sn, sub, ab, col, dd, k0, k1, k2, k3, k5, hC, hbm⟩ := T.cls
  have hcl : PySem.W.clsIn K C = some { name := nm, bases := bs, mro := .ref C :: bm, ns := N, qualname := q, hasDict := true, slotNames := sn, subclasses := sub, abstract := ab, collection := col, hasDel := false } := by unfold PySem.W.clsIn; rw [hC] <;> rfl
  refine ks_codeAny_call_defAt (body := supBody x fld p0 p1 p2 p3 p4 p5 p6 p7 p8 p9) (binds := [("self", .ref a), (x, v)]) hroom (X _ _ lk) rfl hlim (PySem.W.codeRec_of X hcd) rfl hbind Z.nc (fun y hy => ?_) (fun h0 hns hk => ?_) Z.co Z.ge Z.ki
  · rcases List.mem_cons.mp hy with rfl | hy
    · exact Z.n1
    · obtain rfl : y = (x, v) := by simpa using hy
      exact Z.n2
  have X0 : K.In h0 := X.keeps hk
  have ns_ : ∀ {L : Addr} {m : Str → Option Value}, hp.Ns L m → h0.Ns L m := fun ⟨o, es, ep, e, d, r⟩ => ⟨o, es, ep, hk _ _ e, d, r⟩
  have hn2 : h0.Ns hp.objs.size (fun y => [(("self" : Str), Value.ref a), (x, v)].reverse.lookup y) := hns
  have lself : ([(("self" : Str), Value.ref a), (x, v)].reverse.lookup ("self" : Str)) = some (.ref a) := by
    show List.lookup ("self" : Str) [(x, v), (("self" : Str), Value.ref a)] = _
    rw [List.lookup_cons, show (("self" : Str) == x) = false from by simpa using Z.ne]
    simp [List.lookup]
  have lx : ([(("self" : Str), Value.ref a), (x, v)].reverse.lookup x) = some v := by
    show List.lookup x [(x, v), (("self" : Str), Value.ref a)] = _
    rw [List.lookup_cons]
    simp
  obtain ⟨pl, hev⟩ := hev (callEnv (PySem.W.ksFn "__init__" qual params (supBody x fld p0 p1 p2 p3 p4 p5 p6 p7 p8 p9) scope dV kV doc pm an (.ref cda) ct cc) hp.objs.size fI) rfl
  refine ks_wpAt_execs_cons (ks_wpAt_Expr_any (ks_wpAt_MethodCall (pl := pl) ?_ hev) (hint _ rfl) (hsw1 _ rfl))
  refine ks_wpAt_super_base Z.ns Z.nk (by decide +kernel) rfl (X0 _ _ lk) rfl har rfl (X0 _ _ lcd) rfl hvs hfile htop ?_
  refine PySem.W.ks_loadName_global Z.ki Z.ns (PySem.Calls.loadGlobal_builtin (ns_ hg) (PySem.W.mg_none_of X hg S.gs) (ns_ hb) ((hbb _ (by decide +kernel)).trans (by first | rfl | kernel_rfl)) ⟨rfl, ?_⟩)
  refine wpAny_loadName_free Z.ki Z.nk rfl ⟨_, X0 _ _ lcc, rfl⟩ ?_
  rw [hars]
  refine wpAny_loadName_local Z.ki Z.n1 hn2 lself ?_
  refine ks_wpAny_isType_cls (X0 _ _ hC) rfl ⟨rfl, ?_⟩
  have hxa := hk _ _ hx
  refine ks_wpAny_call_super (X0 _ _ hC) rfl hxa rfl (fun c e => by cases e) (PySem.W.looks_mroIn X0 S.mro) (fun h1 e1 k1 => ?_)
  have X1 : K.In h1 := X0.keeps k1
  have I1 : PySem.W.InstAt h1 a (PySem.HandSPX.excO C t0) C none := ⟨k1 _ _ hxa, rfl, rfl, trivial⟩
  have hsup : PySem.W.alongIn K "__init__" ((((Value.ref C :: bm).dropWhile (· != .ref C)).drop 1)) = some (some (.builtin "ValueError.__init__")) := by
    have := S.sup
    unfold PySem.W.ks_superIn at this
    rw [hcl] at this
    exact this
  refine PySem.W.kxs_getMethod PySem.W.kxs_ValueError e1 (PySem.W.looks_opaque X1 S.opq) (l₀ := .ref C :: bm) (fun A Q E s k q => wpAny_bind ((PySem.W.looks_clsIn X1 hcl) A _ E s k (wpAny_pure q))) rfl X1 hsup (I1.type.andThen (PySem.W.looks_subIn X1 S.subV)) (PySem.W.ks_ne X1 I1 hcl) (by decide +kernel) ?_
  refine PySem.W.kxs_callWith (i := "ValueError.__init__") (x := a) (u := h1.objs.size) rfl (PySem.Calls.evalArgs_plain (PySem.Calls.spliced_cons ?_))
  show wpAny _ _ (eval (.Name x p3) _) _ _ _
  have hk1 : ∀ b o, hp.get? b = some o → h1.get? b = some o := fun b o e => k1 _ _ (hk _ _ e)
  have hn3 : h1.Ns hp.objs.size (fun y => [(("self" : Str), Value.ref a), (x, v)].reverse.lookup y) := let ⟨o, es, ep, e, d, r⟩ := hn2; ⟨o, es, ep, k1 _ _ e, d, r⟩
  refine PySem.ESX.ldL (m := fun y => [(("self" : Str), Value.ref a), (x, v)].reverse.lookup y) ?_ lx ?_ Z.ki Z.n2 Z.nd
  · let ⟨o, es, ep, e, d, r⟩ := hn3
    exact ⟨o, es, ep, Heap.get?_push_of_some _ e, d, r⟩
  refine wpAny_pure ⟨Heap.get?_push_at rfl rfl, ?_⟩
  show wpAny _ _ (call (.ref h1.objs.size) [v]) _ _ _
  have kp : ∀ b o, h1.get? b = some o → (h1.push (PySem.W.kxs_mw "ValueError.__init__" a)).get? b = some o := fun b o e => Heap.get?_push_of_some _ e
  refine call_mwV (kp _ _ (X1 _ _ hC)) (fun Y => PySem.HandSPX.refsVE_contains Y bm hbm) (kp _ _ (hk1 _ _ hx)) (Heap.get?_push_at rfl rfl) (by show 1 ≤ sizeLine; decide) (fun h2 t1 k2 hx2 => ?_)
  have k02 : ∀ b o, b ≠ a → hp.get? b = some o → h2.get? b = some o := fun b o nb e => k2 b o nb (kp _ _ (hk1 _ _ e))
  have nC : C ≠ a := fun z => by have := X _ _ hC; rw [z, hx] at this; cases this
  have X2 : K.In h2 := fun b o e => k02 b o (fun z => by rw [z, haK] at e; cases e) (X _ _ e)
  have hL : hp.objs.size ≠ a := Nat.ne_of_gt (Heap.lt_size hx)
  have hn4 : h2.Ns hp.objs.size (fun y => [(("self" : Str), Value.ref a), (x, v)].reverse.lookup y) := by
    obtain ⟨o, es, ep, e, d, r⟩ := hn3
    exact ⟨o, es, ep, k2 _ _ hL (kp _ _ e), d, r⟩
  refine ks_wpAt_execs_cons (ks_wpAt_Assign_Attr (wpAt_of_wpAny (PySem.ESX.ldL hn4 lx (PySem.ESX.ldL hn4 lself ?_ Z.ki Z.n1 (by decide)) Z.ki Z.n2 Z.nd)) (hsw2 _ rfl))
  refine PySem.W.set_plain X2 (ox := PySem.HandSPX.excO C t1) (od := none) ⟨hx2, rfl, rfl, trivial⟩ T.sa ?_
  refine PySem.HandSPX.exc_osa X2 hx2 hcl (show PySem.HandSPX.refsVE (.ref C :: bm) = true from hbm) rfl S.no (fun h3 tk3 dx k3 hd3 ne3 hx3 hn5 => ?_)
  refine wpAt_of_wpAny (wpAny_pure ?_)
  have hsz : hp.objs.size < h2.objs.size := let ⟨o, es, ep, e, d, r⟩ := hn4; Heap.lt_size e
  exact hR h3 tk3 dx t1 (fun b o nb e => k3 b o nb (k02 b o nb e)) (Nat.le_trans (Nat.le_of_lt hsz) hd3) ne3 hx3 hn5
def spSup (K : PySem.W.Frag) (C : Addr) (fld : Str) : Sp := fun vs H Q _ => ∃ a y, vs = [.ref a, y] ∧ H a = some (exo a C none) ∧ ∀ dx, H dx = none → dx ≠ a → Q .non (upd (upd H dx (exd dx [(fld, y)])) a (exo a C (some dx)))
theorem ok_sup {base : Heap} {CX : CXT} (S : SupF P K C fI fld qual params (supBody x fld p0 p1 p2 p3 p4 p5 p6 p7 p8 p9) scope fd) (Z : SupS x params scope) (T : OexC K C)
    (hev : ∀ env : Env, env.scope = scope → ∃ pl : Sem Bool, eval (.Call (.Attribute (.Call (.Name "super" p0) [] [] p1) "__init__" p2) [.Name x p3] [] p4) env = (do
      let ov ← attributeBase (.Call (.Name "super" p0) [] [] p1) "__init__" env (eval (.Call (.Name "super" p0) [] [] p1) env)
      standAt p2.atName
      let (f, first) ← holding [ov] (getMethod ov "__init__" pl)
      callWith p4 f first (backTo p4 (starEach [.Name x p3] env)) []))
    (hint : ∀ env : Env, env.scope = scope → interactive env = false) (hsw1 : ∀ env : Env, env.scope = scope → swapsWith (.Call (.Attribute (.Call (.Name "super" p0) [] [] p1) "__init__" p2) [.Name x p3] [] p4) none p5.line env = pure false)
    (hsw2 : ∀ env : Env, env.scope = scope → swapsWith (.Name x p8) (some (.Attribute (.Name "self" p6) fld p7)) p9.line env = pure false)
    (htop : (P.main.scope.names.lookup ("super" : Str)).isSome = false) : FnOk P w K mg base CX 1 fI fd ["self", x] (spSup K C fld) := by
  refine ⟨fun vs H Q E h => ?_, fun A outer s H args us vs Q E hr e0 hbd r hsp => ?_⟩
  · obtain ⟨a, y, rfl, _⟩ := h
    rfl
  obtain ⟨a, y, rfl, ha, q⟩ := hsp
  obtain ⟨u1, u2, rfl, r1, r2⟩ := vals2 r
  obtain rfl : u1 = Value.ref a := r1
  obtain ⟨t0, hx⟩ := exo_at e0.hok ha
  have KX : K.In s.heap := e0.mod.kin.keeps fun b o e => (e0.bs b o e).1
  have haK : K.lookup a = none := by
    cases z : K.lookup a with
    | none => rfl
    | some o =>
      have := (e0.bs _ _ (e0.mod.kin _ _ z)).2
      rw [ha] at this
      cases this
  obtain ⟨mb, hmb, hbb⟩ := e0.mod.blt
  have ns_ : ∀ {L : Addr} {m : Str → Option Value}, base.Ns L m → s.heap.Ns L m := fun ⟨o, es, ep, e, d, r⟩ => ⟨o, es, ep, (e0.bs _ _ e).1, d, r⟩
  have lim : s.heap.NoLimit := e0.mod.nolimit.keeps fun b o e => (e0.bs b o e).1
  obtain ⟨hp, g, d, t, os⟩ := s
  refine run_sup S Z T KX (ns_ e0.mod.glob) (ns_ hmb) hbb lim hr.depth hr.units hev hint hsw1 hsw2 htop haK hx args hbd (fun h' tk dx t1 k hd ne hx' hn => ?_)
  have nH : H dx = none := e0.hok.fresh hd
  have old : ∀ {b : Addr} {o : Obj}, hp.get? b = some o → b ≠ dx := fun e z => absurd (Heap.lt_size (z ▸ e)) (Nat.not_lt.mpr hd)
  have sep : ∀ {b : Addr}, H b = none → b ≠ a := fun n z => by rw [z, ha] at n; cases n
  refine ⟨.non, upd (upd H dx (exd dx [(fld, y)])) a (exo a C (some dx)), rfl, e0.bare, ⟨fun b o e n _ _ => k b o (sep n) e, fun b o e n _ _ => ⟨o.slots, k b o (sep n) e⟩, fun b o e n _ => ?_, fun b o e _ => ?_, fun b xs e => ?_, fun b o u e => ?_, fun b ps e => ?_⟩, fun b o e => ?_, rfl, q dx nH ne⟩
  · rw [upd_ne (sep n), upd_ne (old e)]
    exact n
  · by_cases c : b = a
    · exact ⟨_, by rw [c]; exact hx'⟩
    · exact ⟨o, k b o c e⟩
  · rw [upd_ne (at_ne ha e exo_tup), upd_ne (ne_of_none e nH)]
    exact e
  · rw [upd_ne (at_ne ha e exo_frz), upd_ne (ne_of_none e nH)]
    exact e
  · exact ⟨#[], by rw [upd_ne (at_ne ha e exo_tbl), upd_ne (ne_of_none e nH), e]; simp⟩
  · by_cases c : b = a
    · subst c
      rw [upd_same] at e
      cases e
      exact exo_ok hx'
    rw [upd_ne c] at e
    by_cases c2 : b = dx
    · subst c2
      rw [upd_same] at e
      cases e
      exact exd_ok hn (relO_put (fs := []) r2 fun _ => True.intro)
    rw [upd_ne c2] at e
    refine (e0.hok b o e).stay (fun c' v' hc z => k c' v' ?_ z) (fun c' hc => ?_) (fun c' xs hc => ?_)
    · rcases hc with hc | hc
      · rw [hc]; exact c
      · exact at_ne ha hc exo_own
    · rw [upd_ne (at_ne ha hc exo_own), upd_ne (ne_of_none hc nH)]
      exact hc
    · rw [upd_ne (at_ne ha hc exo_tup), upd_ne (ne_of_none hc nH)]
      exact hc
end
end Ys
namespace Ys
open PySem PySem.Spec PyProof.Rows L2 PySem.W PySem.Calls
section
variable {prog : Program} {w : World} {A : Around} {E : Value → Shared → Prop} {s : Shared} {K : Frag} {x D : Addr} {ox : Obj} {od : Option Obj}
theorem exc_class {Q : Option Value → Shared → Prop} (C : ExcC K D) (X : K.In s.heap) (I : InstAt s.heap x ox D od) (h : Q (some (.ref D)) { s with toks := s.toks + 1 }) : wpAny (model prog w) A (getAttr? (.ref x) "__class__") Q E s := by
  obtain ⟨hga, hgt, hsub, hdct, ha, hn, htk, hm⟩ := C
  have hc1 : (clsIn K D).isSome = true := by obtain ⟨cd, hc, _⟩ := any_some hdct; rw [hc]; rfl
  have hf : findObj K D od "__class__" = some (.bind (.builtin "getset_descriptor.__get__") (.builtin "object.__class__")) := by
    cases od with
    | none => exact findObj_dataN hc1 ha hn htk
    | some od => exact findObj_data hc1 ha hn htk
  obtain ⟨hp, g, d, t, os⟩ := s
  have M0 := I.type (M := model prog w); have M1 := looks_findIn (M := model prog w) X hga; have M2 := looks_findIn (M := model prog w) X hgt; have M3 := looks_find (M := model prog w) X I hf
  have isB : Looks (model prog w) hp (isInstance (.ref x) (.type "BaseException")) true := M0.andThen (looks_subIn X hsub)
  have n2 : (Value.builtin "BaseException.__getattribute__" == Value.builtin "object.__getattribute__") = false := by decide +kernel
  have n1 : (onTheHeap (Value.ref D) && Value.builtin "BaseException.__getattribute__" == Value.builtin "object.__getattribute__") = false := by rw [n2]; rfl
  unfold getAttr? getAttrBy? getAttrBy; refine wpAny_bind (wpAny_mkText (wpAny_bind (wpAny_attempt (wpAny_holding (wpAny_bind (M0.at (wpAny_bind (M1.at ?_))))))))
  refine (show wpAny _ _ (if (onTheHeap (Value.ref D) && Value.builtin "BaseException.__getattribute__" == Value.builtin "object.__getattribute__") = true then _ else _) _ _ _ from ?_)
  rw [n1, if_neg Bool.false_ne_true]; unfold getAttrByItsOwn hookBefore; refine wpAny_bind ?_
  rw [if_pos (show onTheHeap (Value.ref D) = true from rfl)]; refine M2.at (wpAny_bind (wpAny_attempt (wpAny_holding ?_)))
  unfold callGetattribute; rw [show (false && onTheHeap (Value.builtin "BaseException.__getattribute__")) = false from rfl, if_neg Bool.false_ne_true]
  unfold boundAndCalled; rw [PySem.F.excAttr_ValueError.ga.bind (.ref x)]; refine wpAny_bind (wpAny_pure ?_)
  refine (show wpAny _ _ (call (.builtin "BaseException.__getattribute__") [.ref x, .str "__class__" t]) _ _ _ from wpAny_call (codeAny_call_builtin PySem.F.excAttr_ValueError.ga.plain PySem.F.entry_bexc_ga ?_))
  refine @check_slot (model prog w) _ _ ⟨hp, g, d, t + 1, os⟩ "BaseException.__getattribute__" "BaseException" "__getattribute__" (.ref x) [.str "__class__" t] [] _ (by decide +kernel) (by decide +kernel) isB (PySem.F.args_bexc_ga (.ref x) (.str "__class__" t)) ?_
  unfold Builtin.«object.__getattribute__»; refine wpAny_bind (wpAny_of_eq (a := ((Value.ref x : Value), [Value.str "__class__" t])) (by first | rfl | (simp only [slotArgs]; rfl)) (wpAny_bind (wpAny_pure (wpAny_bind (M0.at (wpAny_bind (M3.at ?_)))))))
  refine (show wpAny _ _ (holding [Value.builtin "object.__class__"] (call (.builtin "getset_descriptor.__get__") [.builtin "object.__class__", .ref x, .ref D]) >>= ret) _ _ _ from wpAny_bind (wpAny_holding (wpAny_call (class_get (s := ⟨hp, g, d, t + 1, os⟩) (ox := ox) (od := od) X I hm (wpAny_pure ?_)))))
  refine (show wpAny _ _ (handedOut (.ref D)) _ _ _ from ?_)
  rw [handedOut_of (v := .ref D) rfl]
  first | exact wpAny_pure (wpAny_pure h) | exact wpAny_pure h | exact wpAny_pure (wpAny_bind (wpAny_pure (wpAny_pure h)))
theorem kitx_exc (C : ExcC K D) : KitX K (.ref x) (.ref D) (fun h => InstAt h x ox D od) :=
  ⟨fun _ _ _ I => I.type, (fun M h X _ A' Q' E' s' k q => by obtain ⟨cdD, hcD, _⟩ := any_some C.hd; unfold clsIn at hcD; split at hcD; (· rename_i ho; unfold isType loadHead; exact wpAny_bind (wpAny_loadPart (k _ _ (X _ _ ho)) (wpAny_pure q))); (· cases hcD)), (fun h tp dd its n sl X htp => by
    obtain ⟨cdD, hcD, _⟩ := any_some C.hd
    refine Bool.eq_false_iff.mpr fun q => ?_
    obtain rfl : D = tp := Value.ref.inj (beq_iff_eq.mp q)
    unfold clsIn at hcD
    split at hcD
    · rename_i ho
      have z := (X _ _ ho).symm.trans htp
      cases z
    · cases hcD), fun X I k => exc_class C X I k⟩
end
section
def rIsX (K : Frag) (D a : Addr) (cls : Value) (d : Option Addr) : List V → Hp → VK → Prop := fun xs H Q => ∃ (c : V) (cv : Value) (b : Bool) (dd : Addr) (fs : List (Str × V)), xs = [.ref a, c] ∧ cls = .ref D ∧ ClsV c cv ∧ kitOne K (.ref D) cv = some b ∧ d = some dd ∧ H dd = some (.xd fs) ∧ Q (.bl b) H
theorem call_isX {X : Cx} {a D : Addr} {cls : Value} {d : Option Addr} {oe : Obj} {pn : List (Addr × Obj)} (C : ExcC X.K D) (hz : Zc cls d oe) (hf : ∃ vs, oe.data = .fields vs) : CallR (X.suite a ((a, oe) :: pn)) (.builtin "isinstance") (rIsX X.K D a cls d) := by
  intro pins s σ H xs us Q I r ⟨c, cv, b, dd, fs, e1, e0, hc, e2, e3, hd, q⟩
  subst e1 e0
  obtain ⟨u1, u2, rfl, r1, r2⟩ := vals2 r
  obtain rfl : u1 = Value.ref a := r1
  obtain rfl := hc.eq r2
  subst e3
  obtain ⟨hget, _⟩ := I.pin (a, oe) (List.mem_append_left _ List.mem_cons_self)
  obtain ⟨mA, hns, _⟩ := (show ObjOk X.prog X.w H s.heap dd (.xd fs) from I.hok dd _ hd)
  obtain ⟨od, ho, _⟩ := lookIn_ns hns
  obtain ⟨vs, hv⟩ := hf
  have J : InstAt s.heap a oe D (some od) := ⟨hget, hz.1, (by unfold notCls; rw [hv]), by rw [hz.2]; exact ho⟩
  exact kia_one (kitx_exc (ox := oe) (od := some od) C) I.kIn J e2 (fun z => nomatch z) fun tk => ⟨.bl b, H, I.kept (t' := tk) fun _ _ z => z, rfl, q⟩
end
end Ys
namespace Ys
open PySem PySem.Spec PyProof.Rows L2
/-! ### raise C(e), C an own class with super().__init__(x), self.fld = x -/
structure ExcS (P : Program) (w : World) (K : PySem.W.Frag) (mg : Str → Option Value) (base : Heap) (C : Addr) (x fld : Str) : Prop where
  T : OexC K C
  ex : ∃ fI fd pn, PySem.W.findIn K (.ref C) "__init__" = some (some (.ref fI)) ∧ PySem.W.typeIn K (.ref fI) = some (.type "function") ∧ FnOk P w K mg base CX0 1 fI fd ["self", pn] (spSup K C fld) ∧ Binds K fd ["self", pn] []
  gC : mg x = some (.ref C)
section
variable {X : Cx} {K : PySem.W.Frag} {P : Program} {w : World} {G G1 H : Hp} {M : List (Addr × HO)} {σ : L2.St} {D : Ends} {te : TE} {C : Addr} {x fld : Str} {W : WX} {y : V} {e : Expr} {p pos pos' : Pos} {q : XK}
def RsW (K : PySem.W.Frag) (C : Addr) (fld : Str) (y : V) (H1 : Hp) (q : XK) : Prop := [y].length ≤ 1000 ∧ ∀ a, H1 a = none → spSup K C fld (.ref a :: ([y] ++ [])) (upd H1 a (exo a C none))
  (fun v H2 => v = .non ∧ ∃ (d : Addr) (fs : List (Str × V)), H2 a = some (exo a C (some d)) ∧ H2 d = some (exd d fs) ∧ H1 d = none ∧ q (.ref C) (some d) (upd (del H2 a) d (.xd fs))) (fun _ _ _ => False)
def sRs (K : PySem.W.Frag) (C : Addr) (fld : Str) (te : TE) (W : WX) : TS := fun _ σ H => te σ H fun y H1 => RsW K C fld y H1 fun cls d H' => W cls d σ H'
theorem ps_rs (S : ExcS X.prog X.w X.K X.mg X.base C x fld) (hc : X.calm = true) (tk : Takes X W) (hr : Room 2 X.A) (hg : Gl X x) (he : PE X e te)
    (hdb : (x == ("__debug__" : Str)) = false := by decide) (hst : starEach [e] X.env = (false, eval e X.env) :: starEach [] X.env := by rfl) (hpl : (backTo pos (starEach [] X.env)).any (·.1) = false := by rfl) :
    PS X (.Raise (some (.Call (.Name x p) [e] [] pos)) none pos') (sRs X.K C fld te W) := by
  obtain ⟨fI, fd, pn, iC, tI, F, hb⟩ := S.ex
  exact ps_raise hc tk (pmk_oex (ta := tCons te tNil) S.T iC tI F hr hb .nil pass0 hg S.gC (pa_cons he pa_nil hst) hdb hst hpl)
theorem z_rs (h : te σ H fun y H1 => RsW K C fld y H1 fun cls d H' => W cls d σ H') : sRs K C fld te W D σ H := h
theorem z_rsI (h : ∀ dx, H dx = none → q (.ref C) (some dx) (upd H dx (.xd [(fld, y)]))) : RsW K C fld y H q := by
  refine ⟨by show 1 ≤ 1000; decide, fun a ha => ⟨a, y, rfl, upd_same, fun dx hdx ne => ⟨rfl, dx, [(fld, y)], upd_same, ?_, ?_, ?_⟩⟩⟩
  · rw [upd_ne ne, upd_same]
  · rw [upd_ne ne] at hdx
    exact hdx
  · rw [upd_ne ne] at hdx
    have e1 : upd (del (upd (upd (upd H a (exo a C none)) dx (exd dx [(fld, y)])) a (exo a C (some dx))) a) dx (.xd [(fld, y)]) = upd H dx (.xd [(fld, y)]) := by
      funext b
      by_cases c : b = dx
      · rw [c, upd_same, upd_same]
      · rw [upd_ne c, upd_ne c]
        by_cases c2 : b = a
        · rw [c2, del_same, ha]
        · rw [del_ne c2, upd_ne c2, upd_ne c, upd_ne c2]
    rw [e1]
    exact h dx hdx
end
end Ys
namespace Ys
open PySem PySem.Spec PyProof.Rows L2
section
variable {X : Cx} {K : PySem.W.Frag} {G G1 H : Hp} {M : List (Addr × HO)} {σ : L2.St} {Q : VK} {te : TE} {t : TA} {d : PyData} {ds : List PyData} {v : V} {xs : List V} {a : Addr} {i : Int}
def rStr1 : List V → Hp → VK → Prop := fun xs H Q => ∃ s, xs = [.str s] ∧ Q (.str s) H
theorem c_str : CallR X (.type "str") rStr1 := SkE.call_str_str
theorem z_str1 {s : Str} (q : Q (.str s) H) : rStr1 [.str s] H Q := ⟨s, rfl, q⟩
theorem z_rep {n : Int} (z : Zp G M H) (h : G a = some (.lst xs)) (h0 : 0 ≤ n) (h1 : n ≤ 1000) (hl : xs.length * n.toNat ≤ 4000000) (q : ∀ p G1 H1, Zp G1 M H1 → Same G G1 → G1 p = some (.lst (List.replicate n.toNat xs).flatten) → Q (.ref p) H1) : rRep (.ref a) (.int n) H Q :=
  ⟨a, n, xs, rfl, rfl, z.sub _ _ h, by omega, by omega, Nat.le_trans hl (by decide), fun p hp => q p _ _ (z.new hp _) (Same.new (z.free hp)) upd_same⟩
theorem z_neg (q : Q (.int (-i)) H) : rU (fun i => V.int (-i)) (.int i) H Q := ⟨i, rfl, q⟩
/-! ### literals, as data -/
def LitW (K : PySem.W.Frag) (te : TE) (d : PyData) : Prop := ∀ σ G M H Q, Zp G M H → (∀ v G1 H1, Zp G1 M H1 → Same G G1 → Dt K G1 v d → Q v H1) → te σ H Q
def LitA (K : PySem.W.Frag) (t : TA) (ds : List PyData) : Prop := ∀ σ G M H Q, Zp G M H → (∀ vs G1 H1, Zp G1 M H1 → Same G G1 → Dts K G1 vs ds → Q vs H1) → t σ H Q
theorem lit_c (h : ∀ G, Dt K G v d) : LitW K (tC v) d := fun _ G _ H _ z q => q v G H z (Same.refl G) (h G)
theorem lit_int (i : Int) : LitW K (tC (.int i)) (.int i) := lit_c fun _ => .int i
theorem lit_str (s : Str) : LitW K (tC (.str s)) (.str s) := lit_c fun _ => .str s
theorem lit_bl (b : Bool) : LitW K (tC (.bl b)) (.bool b) := lit_c fun _ => .bl b
theorem lit_non : LitW K (tC .non) .none := lit_c fun _ => .non
theorem lit_nil : LitA K tNil [] := fun _ G _ H _ z q => q [] G H z (Same.refl G) .nil
theorem lit_cons (h1 : LitW K te d) (h2 : LitA K t ds) : LitA K (tCons te t) (d :: ds) := fun σ G M H Q z q =>
  h1 σ G M H _ z fun v G1 H1 z1 s1 d1 => h2 σ G1 M H1 _ z1 fun vs G2 H2 z2 s2 d2 => q (v :: vs) G2 H2 z2 (s1.trans s2) (.cons (d1.up s2) d2)
theorem lit_tup (h : LitA K t ds) (hl : ds.length ≤ 1000) : LitW K (tTup t) (.tuple ds) := fun σ G M H Q z q =>
  h σ G M H _ z fun vs G1 H1 z1 s1 d1 => z_newT z1 (by rw [d1.len (ds := [])]; omega) fun p G2 H2 z2 s2 e2 => q _ G2 H2 z2 (s1.trans s2) (.tup (SqT.of e2) (d1.up s2))
theorem lit_lst (h : LitA K t ds) (hl : ds.length ≤ 1000) : LitW K (tLst t) (.list ds) := fun σ G M H Q z q =>
  h σ G M H _ z fun vs G1 H1 z1 s1 d1 => z_newL z1 (by rw [d1.len (ds := [])]; omega) fun p G2 H2 z2 s2 e2 => q _ G2 H2 z2 (s1.trans s2) (.lst (SqL.of e2) (d1.up s2))
theorem lit_neg (h : LitW K te (.int i)) : LitW K (tUn (rU fun i => V.int (-i)) te) (.int (-i)) := fun σ G M H Q z q =>
  h σ G M H _ z fun v G1 H1 z1 s1 d1 => by cases d1; exact z_neg (q _ G1 H1 z1 s1 (.int _))
theorem lit_pow (i j : Int) (h : CPow i j) : LitW K (tOp rPowG (tC (.int i)) (tC (.int j))) (.int (i ^ j.toNat)) := fun σ G M H Q z q => z_op (z_c (z_c (z_I h (q _ G H z (Same.refl G) (.int _)))))
theorem lit_dict0 : LitW K tDNewK (.dict []) := fun σ G M H Q z q p hp => q _ _ _ (z.new hp _) (Same.new (z.free hp)) (.dct (.inl upd_same) rfl .nil)
theorem lit_dict1 {k : Str} (h : LitW K te d) : LitW K (tDisp [(tC (.str k), te)]) (.dict [(.str k, d)]) := fun σ G M H Q z q =>
  z_disp z fun p H1 z1 => z_pc (z_c (h σ G _ H1 _ z1 fun v G2 H2 z2 s2 d2 => z_pn (z_dispE z2 [(.inr k, v)] rfl (by show 1 ≤ 15; decide) fun H3 z3 => by
    have fr : G2 p = none := (z3.own M.length p _ last_at).2
    exact q _ _ H3 z3.fix (s2.trans (Same.new fr)) (.dct (.inl upd_same) rfl (.cons (d2.up (Same.new fr)) .nil)))))
theorem lit_list (h : LitA K t ds) (hl : ds.length ≤ 1000) (z : Zp G M H) (q : ∀ p xs G1 H1, Zp G1 M H1 → Same G G1 → G1 p = some (.lst xs) → Dts K G1 xs ds → Q (.ref p) H1) : tLst t σ H Q :=
  h σ G M H _ z fun vs G1 H1 z1 s1 d1 => z_newL z1 (by rw [d1.len (ds := [])]; omega) fun p G2 H2 z2 s2 e2 => q p _ G2 H2 z2 (s1.trans s2) e2 (d1.up s2)
theorem Dts.app : ∀ {xs ys : List V} {ds es : List PyData}, Dts K G xs ds → Dts K G ys es → Dts K G (xs ++ ys) (ds ++ es)
  | _, _, _, _, .nil, h => h
  | _, _, _, _, .cons a b, h => .cons a (Dts.app b h)
theorem Dts.mem : ∀ {xs : List V} {ds : List PyData} {v : V}, Dts K G xs ds → v ∈ xs → ∃ d, d ∈ ds ∧ Dt K G v d
  | _, _, _, .nil, h => by cases h
  | _, _, _, .cons a b, h => by
    rcases List.mem_cons.mp h with rfl | h
    · exact ⟨_, List.mem_cons_self .., a⟩
    · obtain ⟨d, h1, h2⟩ := Dts.mem b h
      exact ⟨d, List.mem_cons_of_mem _ h1, h2⟩
end
end Ys
namespace Ys
open PySem PySem.Spec PyProof.Rows L2
/-! ### a class made, which may raise -/
section
variable {X : Cx} {k n m : Nat} {C dx : Addr} {x : Str} {ks : List Str} {gV : List V → List V → List V} {sp : Sp} {W : WX} {t tk : TA} {p pos : Pos} {e : Expr} {es : List Expr} {kws : List Keyword} {G H : Hp} {M : List (Addr × HO)} {σ : L2.St} {Q : VK} {vs zs : List V}
def MkWS (C : Addr) (n m : Nat) (sp : Sp) (gV : List V → List V → List V) (E : XK) (vs zs : List V) (H2 : Hp) (Q : VK) : Prop := vs.length = n ∧ zs.length = m ∧ ∀ x dx, H2 x = none → H2 dx = none → dx ≠ x →
  sp (gV (.ref x :: vs) zs) (upd (upd H2 dx (.own x)) x (.ins C dx [])) (fun v H3 => v = .non ∧ Q (.ref x) H3) E
def tMkS (C : Addr) (n m : Nat) (sp : Sp) (gV : List V → List V → List V) (W : WX) (t tk : TA) : TE := fun σ H Q => t σ H fun vs H1 => tk σ H1 fun zs H2 => MkWS C n m sp gV (WE W σ) vs zs H2 Q
theorem pe_mkX (R : MkS X.prog X.w X.K X.mg X.base (L2.CX X.prog X.w) k C x n ks gV sp) (hr : Room (k + 1) X.A) (hg : Gl X x) (tx : Takes X W) (ha : PA X (e :: es) t) (hkw : PK X kws tk)
    (hall : (backToKw pos (keywordEach kws X.env)).all (·.1.isSome) = true := by rfl) (hks : (backToKw pos (keywordEach kws X.env)).filterMap (·.1) = ks := by rfl) (hdb : (x == ("__debug__" : Str)) = false := by decide)
    (he : starEach (e :: es) X.env = (false, eval e X.env) :: starEach es X.env := by rfl) (hpl : ((backTo pos (starEach (e :: es) X.env)).any (·.1) || (backToKw pos (keywordEach kws X.env)).any (·.1.isNone)) = false := by rfl) :
    PE X (.Call (.Name x p) (e :: es) kws pos) (tMkS C n ks.length sp gV W t tk) := by
  obtain ⟨f, fd, ps, g, mk, F, hm, hb⟩ := R.ex
  refine ⟨fun pins s σ H Q I h => wpAny_Call_Name_kw (ld_glob I hg hm ?_ hdb)⟩
  refine PySem.W.callWith_KW (h₀ := X.base) I.ok.mod.kin mk.kp hall (thn (ha.run pos pins s σ H _ I h) fun us s1 ⟨vs, H1, I1, r, q⟩ => ?_) hpl he
  refine thn (hkw.run pos pins s1 σ H1 _ I1 q) fun ws s2 ⟨zs, H2, I2, rz, l1, l2, q2⟩ => ⟨I2.kIn, ?_⟩
  rw [hks]
  -- the object, its dict, then __init__
  have fx := I2.hok.fresh (Nat.le_succ s2.heap.objs.size); have fd := I2.hok.fresh (Nat.le_refl s2.heap.objs.size)
  have hq := q2 (s2.heap.objs.size + 1) s2.heap.objs.size fx fd (Nat.ne_of_lt (Nat.lt_succ_self _))
  have J := Inv.made (C := C) I2
  have ra : Vals (V.ref (s2.heap.objs.size + 1) :: vs) (Value.ref (s2.heap.objs.size + 1) :: us) := .cons rfl r
  have na : (Value.ref (s2.heap.objs.size + 1) :: us).length = n + 1 := by rw [List.length_cons, ← r.length, l1]
  refine wpAny_call (make_map (f := f) I2.kIn mk.makes mk.init (beq_iff_eq.mp mk.fn) (codeAny_mono (F.run _ X.stack _ _ ⟨Value.ref (s2.heap.objs.size + 1) :: us, ks.zip ws⟩ (g (Value.ref (s2.heap.objs.size + 1) :: us) ws) _ _ (WE W σ) (hr.make C us (ks.zip ws))
    (J.env0.make C us (ks.zip ws)) (hb.to _ _ ws J.kIn na (rz.length.symm.trans l2)) (hb.rel ra rz) hq) fun rr s' hz => ?_))
  match rr, hz with
  | .error er, hz => exact passAt tx σ pins _ _ er s' J hz
  | .ok (.ret u), hz =>
    obtain ⟨v, H', I3, rv, ev, q3⟩ := J.after hz
    subst ev
    exact ⟨rv, ⟨V.ref (s2.heap.objs.size + 1), H', I3, rfl, q3⟩⟩
  | .ok .next, hz => exact hz.elim
  | .ok .brk, hz => exact hz.elim
  | .ok .cont, hz => exact hz.elim
theorem z_mkS (h : t σ H fun vs H1 => tk σ H1 fun zs H2 => MkWS C n m sp gV (WE W σ) vs zs H2 Q) : tMkS C n m sp gV W t tk σ H Q := h
theorem z_mkSI {E : XK} (z : Zp G M H) (l1 : vs.length = n) (l2 : zs.length = m) (q : ∀ x dx H1, Zp (upd G dx (.own x)) (M ++ [(x, .ins C dx [])]) H1 → Same G (upd G dx (.own x)) → sp (gV (.ref x :: vs) zs) H1 (fun v H3 => v = .non ∧ Q (.ref x) H3) E) : MkWS C n m sp gV E vs zs H Q :=
  ⟨l1, l2, fun x dx hx hd ne => q x dx _ ((z.new hd _).add (by rw [upd_ne (Ne.symm ne)]; exact hx) _) (Same.new (z.free hd))⟩
end
end Ys
namespace Ys
open PySem PySem.Spec PyProof.Rows L2 StX
section
variable {X : Cx} {K : PySem.W.Frag} {P : Program} {w : World} {G G1 H : Hp} {M M1 : List (Addr × HO)} {σ : L2.St} {Q : VK} {QB : Bool → Hp → Prop} {QA : List V → Hp → Prop} {D : Ends} {ta te tb tv : TE} {t tk : TA} {A B : Prop} {v x y : V} {i j : Int} {a b p : Addr} {xs ys vs zs : List V} {o : HO} {d : PyData}
/-! ### a list or tuple, spread -/
def StW (K : PySem.W.Frag) (x : V) (H : Hp) (R : List V → Prop) : Prop := ∃ p xs, x = V.ref p ∧ (SqT K H p xs ∨ SqL K H p xs) ∧ R xs
theorem z_star (h : te σ H fun x H1 => StW K x H1 fun xs => t σ H1 fun ys H2 => QA (xs ++ ys) H2) : tStar K te t σ H QA := h
theorem z_stL {R : List V → Prop} (h : SqL K H a xs) (q : R xs) : StW K (.ref a) H R := ⟨a, xs, rfl, .inr h, q⟩
theorem z_stT {R : List V → Prop} (h : SqT K H a xs) (q : R xs) : StW K (.ref a) H R := ⟨a, xs, rfl, .inl h, q⟩
theorem k_star {e : Expr} {pos : Pos} {es : List Expr} (he : PE X e te) (hr : PA X es t) (q : X.K = K := by rfl) (hs : starEach (.Starred e pos :: es) X.env = (true, eval e X.env) :: starEach es X.env := by rfl) : PA X (.Starred e pos :: es) (tStar K te t) := q ▸ pa_star he hr hs
/-! ### dicts of the written part, with text keys -/
structure TabD (K : PySem.W.Frag) (w : World) (a : Addr) (kvs : List (Str × V)) : Prop where
  kd : ∃ es n, KDict K w a es n
  hit : ∀ z v, kvs.lookup z = some v → ∃ u, PySem.W.nsIn K a z = some (some u) ∧ RelV v u
  miss : ∀ z, kvs.lookup z = none → PySem.W.nsIn K a z = some none
def rInKD (K : PySem.W.Frag) (w : World) (neg : Bool) : R2 := fun x y H Q => ∃ (z : Str) (a : Addr) (kvs : List (Str × V)), x = .str z ∧ y = .ref a ∧ TabD K w a kvs ∧ Q (.bl (if neg then !(kvs.lookup z).isSome else (kvs.lookup z).isSome)) H
theorem op_inKD : OpR X (compareOp .In) (rInKD X.K X.w false) := by
  intro pins s σ H x y v u Q I rx ry ⟨z, a, kvs, e1, e2, T, q⟩
  subst e1 e2
  obtain ⟨es, n, D⟩ := T.kd
  cases c : kvs.lookup z with
  | none =>
    rw [c] at q
    exact op_in_kd D pins s σ H _ _ v u Q I rx ry ⟨z, none, rfl, rfl, T.miss z c, q⟩
  | some v0 =>
    rw [c] at q
    obtain ⟨u0, e, _⟩ := T.hit z v0 c
    exact op_in_kd D pins s σ H _ _ v u Q I rx ry ⟨z, some u0, rfl, rfl, e, q⟩
theorem op_notInKD : OpR X (compareOp .NotIn) (rInKD X.K X.w true) := by
  intro pins s σ H x y v u Q I rx ry ⟨z, a, kvs, e1, e2, T, q⟩
  subst e1 e2
  obtain ⟨es, n, D⟩ := T.kd
  cases c : kvs.lookup z with
  | none =>
    rw [c] at q
    exact op_notIn_kd D pins s σ H _ _ v u Q I rx ry ⟨z, none, rfl, rfl, T.miss z c, q⟩
  | some v0 =>
    rw [c] at q
    obtain ⟨u0, e, _⟩ := T.hit z v0 c
    exact op_notIn_kd D pins s σ H _ _ v u Q I rx ry ⟨z, some u0, rfl, rfl, e, q⟩
theorem k_inD (e : X.K = K := by rfl) (e2 : X.w = w := by rfl) : OpR X (compareOp .In) (fun x y H Q => rInG K false x y H Q ∨ rInKD K w false x y H Q) := by
  subst e; subst e2
  exact o_in.or op_inKD
theorem k_notInD (e : X.K = K := by rfl) (e2 : X.w = w := by rfl) : OpR X (compareOp .NotIn) (fun x y H Q => rInG K true x y H Q ∨ rInKD K w true x y H Q) := by
  subst e; subst e2
  exact o_notIn.or op_notInKD
theorem k_ixD (e : X.K = K := by rfl) (e2 : X.w = w := by rfl) : IxR X (rIxD K w) := by
  subst e; subst e2
  exact ix_kdict
theorem z_inKD {z : Str} {kvs : List (Str × V)} (T : TabD K w a kvs) (q : Q (.bl (kvs.lookup z).isSome) H) : rInG K false (.str z) (.ref a) H Q ∨ rInKD K w false (.str z) (.ref a) H Q := .inr ⟨z, a, kvs, rfl, rfl, T, q⟩
theorem z_notInKD {z : Str} {kvs : List (Str × V)} (T : TabD K w a kvs) (q : Q (.bl (!(kvs.lookup z).isSome)) H) : rInG K true (.str z) (.ref a) H Q ∨ rInKD K w true (.str z) (.ref a) H Q := .inr ⟨z, a, kvs, rfl, rfl, T, q⟩
theorem z_ixKD {z : Str} {kvs : List (Str × V)} (T : TabD K w a kvs) (l : kvs.lookup z = some v) (q : Q v H) : rIxD K w (.ref a) (.str z) H Q := by
  obtain ⟨es, n, D⟩ := T.kd
  obtain ⟨u, e, r⟩ := T.hit z v l
  exact ⟨a, z, v, rfl, rfl, ⟨es, n, u, D.at_, D.lit, e, r⟩, q⟩
/-! ### is False -/
theorem k_isB (e : X.K = K := by rfl) : OpR X (compareOp .Is) rIsB := op_isBl
theorem k_notB (e : X.K = K := by rfl) : OpR X (compareOp .IsNot) rNotB := op_notBl
theorem z_isBl {a b : Bool} (q : Q (.bl (decide (a = b))) H) : rIsB (.bl a) (.bl b) H Q := ⟨a, b, rfl, rfl, q⟩
theorem z_notBl {a b : Bool} (q : Q (.bl (!decide (a = b))) H) : rNotB (.bl a) (.bl b) H Q := ⟨a, b, rfl, rfl, q⟩
/-! ### any -/
def rAnyG (K : PySem.W.Frag) : List V → Hp → VK → Prop := fun vs H Q => ∃ (a : Addr) (bs : List Bool), vs = [V.ref a] ∧ SqL K H a (bs.map V.bl) ∧ Q (.bl (bs.any id)) H
theorem kc_any (hc : X.calm = true) (e : X.K = K := by rfl) : CallR X (.builtin "any") (rAnyG K) := by subst e; exact cr_any hc
theorem z_any {bs : List Bool} (h : SqL K H a (bs.map V.bl)) (q : Q (.bl (bs.any id)) H) : rAnyG K [.ref a] H Q := ⟨a, bs, rfl, h, q⟩
/-! ### what may raise, called within what takes it -/
theorem passX0 : Passes (L2.CX X.prog X.w) X E0 := fun _ _ _ _ _ _ _ ⟨_, _, _, _, _, _, _, _, _, _, _, _, z⟩ => z.elim
theorem pe_ownX {k : Nat} {x : Str} {ps : List Str} {sp : Sp} {W : WX} {p pos : Pos} {e : Expr} {es : List Expr} {t : TA} (C : Own X.prog X.w X.K X.mg X.base (L2.CX X.prog X.w) k x ps sp) (hr : Room k X.A) (hg : Gl X x) (tx : Takes X W) (ha : PA X (e :: es) t)
    (hdb : (x == ("__debug__" : Str)) = false := by decide) (he : starEach (e :: es) X.env = (false, eval e X.env) :: starEach es X.env := by rfl) (hpl : (backTo pos (starEach es X.env)).any (·.1) = false := by rfl) :
    PE X (.Call (.Name x p) (e :: es) [] pos) (tCallS sp (WE W) t) := by
  obtain ⟨f, fd, F, hm, hk, hb⟩ := C.ex
  exact ⟨fun pins s σ H Q I h => (pe_callS F hr hg hm hk hb (fun σ => passAt tx σ) ha hdb he hpl).run pins s σ H Q I h⟩
theorem z_callS {sp : Sp} {E : L2.St → XK} (h : t σ H fun vs H1 => sp vs H1 Q (E σ)) : tCallS sp E t σ H Q := h
structure OwnK (P : Program) (w : World) (K : PySem.W.Frag) (mg : Str → Option Value) (base : Heap) (CX : CXT) (k : Nat) (x : Str) (ps ks : List Str) (sp : Sp) : Prop where
  ex : ∃ f fd g, FnOk P w K mg base CX k f fd ps sp ∧ mg x = some (.ref f) ∧ PySem.W.keepIn K (.ref f) = true ∧ KBn K fd ps 0 ks g fun vs zs => vs ++ zs
def tOwnK (n : Nat) (sp : Sp) (E : XK) (tk : TA) : TE := fun σ H Q => tk σ H fun zs H1 => zs.length = n ∧ sp zs H1 Q E
theorem pe_ownK0 {CX : CXT} {k : Nat} {x : Str} {ps ks : List Str} {sp : Sp} {E : XK} {p pos : Pos} {kws : List Keyword} (C : OwnK X.prog X.w X.K X.mg X.base CX k x ps ks sp) (hr : Room k X.A) (hg : Gl X x) (hx : Passes CX X E) (hkw : PK X kws tk)
    (hall : (backToKw pos (keywordEach kws X.env)).all (·.1.isSome) = true := by rfl) (hks : (backToKw pos (keywordEach kws X.env)).filterMap (·.1) = ks := by rfl) (hdb : (x == ("__debug__" : Str)) = false := by decide)
    (hpl : ((backTo pos (starEach [] X.env)).any (·.1) || (backToKw pos (keywordEach kws X.env)).any (·.1.isNone)) = false := by rfl) : PE X (.Call (.Name x p) [] kws pos) (tOwnK ks.length sp E tk) := by
  obtain ⟨f, fd, g, F, hm, hk, hb⟩ := C.ex
  refine ⟨fun pins s σ H Q I h => wpAny_Call_Name_kw (ld_glob I hg hm ?_ hdb)⟩
  refine PySem.W.callWith_KW0 (h₀ := X.base) I.ok.mod.kin hk hall ?_ hpl
  refine thn (hkw.run pos pins s σ H _ I h) fun ws s2 ⟨zs, H2, I2, rz, l2, q2⟩ => ⟨I2.kIn, ?_⟩
  rw [hks]
  refine wpAny_call (codeAny_mono (F.run X.A X.stack s2 H2 ⟨[], ks.zip ws⟩ (g [] ws) ([] ++ zs) Q E hr I2.env0 (hb.to s2 [] ws I2.kIn rfl (rz.length.symm.trans l2)) (hb.rel .nil rz) q2) fun rr s' hq => ?_)
  match rr, hq with
  | .error er, hq => exact hx pins σ H2 s2 er s' I2 hq
  | .ok (.ret u), hq => exact I2.after hq
  | .ok .next, hq => exact hq.elim
  | .ok .brk, hq => exact hq.elim
  | .ok .cont, hq => exact hq.elim
theorem z_ownK {n : Nat} {sp : Sp} {E : XK} (h : tk σ H fun zs H1 => zs.length = n ∧ sp zs H1 Q E) : tOwnK n sp E tk σ H Q := h
end
end Ys
namespace Ys
open PySem PySem.Spec PyProof.Rows L2
/-! ### a list grown by what a tuple holds -/
theorem grow_tup (l b : Addr) (xs ys : Array Value) (n m : Nat) (dd : Option Addr) (sl : Array (Option Value)) (h0 : ¬(!xs.isEmpty && Builtin.List.listTooLong (xs.size + ys.size)) = true) (h1 : xs.size ≤ sizeLine) (h2 : xs.size + ys.size ≤ sizeLine + 1) :
    Meets (Builtin.«list.extend» ⟨[.ref l, .ref b], []⟩) fun _ R s => s.heap.get? l = some { cls := .type "list", dict := none, data := .seq xs n, slots := #[] } ∧ s.heap.get? b = some { cls := .type "tuple", dict := dd, data := .seq ys m, slots := sl } ∧
      R (.ok (.ret Value.none)) { s with heap := s.heap.update l (Obj.mapSeq fun x => x ++ ys), toks := s.toks } := by
  refine .of_wp fun prog w A R s h => ?_
  obtain ⟨hp, g, d, tk, os⟩ := s
  obtain ⟨q1, q2, q3⟩ := h
  have g1 := F.sub_tuple_tuple
  have g2 := F.sub_list_list
  have g3 := F.sub_tuple_list
  have g4 := F.sub_list_tuple
  have zz : (xs ++ ys).size ≤ sizeLine + 1 := by
    rw [Array.size_append]
    exact h2
  wp_walk using (wpAny_updateSeq q1 rfl (hz := h1) (_hz' := zz)), PySem.AutoSeq1.wpAny_loadPart' q1, PySem.AutoSeq1.wpAny_loadPart' q2
  exact ⟨_, rfl, q3⟩
def rExtT (K : PySem.W.Frag) : V → List V → Hp → VK → Prop := fun x vs H Q => ∃ l b xs zs, x = .ref l ∧ vs = [.ref b] ∧ H l = some (.lst xs) ∧ SqT K H b zs ∧ xs.length + zs.length ≤ 4000000 ∧ Q .non (upd H l (.lst (xs ++ zs)))
section
variable {X : Cx} {K : PySem.W.Frag} {P : Program} {w : World} {G G1 H : Hp} {M M1 : List (Addr × HO)} {σ : L2.St} {Q : VK} {QB : Bool → Hp → Prop} {QA : List V → Hp → Prop} {D : Ends} {ta te tb tv : TE} {tt : TT} {t tk : TA} {A B : Prop} {v x y : V} {i j : Int} {a b p : Addr} {xs ys vs zs : List V} {o : HO} {d : PyData}
theorem mt_extT : MtM X "list.extend" (rExtT X.K) := by
  intro pins s σ H x vs v us Q I rx rv h
  obtain ⟨l, b, xs, zs, e1, e2, hH, hB, hz, q⟩ := h
  subst e1 e2
  cases rx
  obtain ⟨u, rfl, ru⟩ := rv.one
  cases ru
  obtain ⟨z, its, n, r, hl, e⟩ := I.lstM hH
  obtain ⟨its2, r2, ⟨ob, e3, e4, m, e5⟩, hl2⟩ := I.tuple hB
  obtain ⟨oc, od, dt, sl⟩ := ob
  simp only at e4 e5
  subst e4 e5
  have e6 : xs.length + zs.length ≤ sizeLine := Nat.le_trans hz (by decide)
  have hsz : its.toArray.size + its2.toArray.size ≤ sizeLine := by rw [List.size_toArray, List.size_toArray, ← r.length, ← r2.length]; exact e6
  refine call_meets F.slot_list_extend ⟨_, e, rfl⟩ F.entry_list_extend (F.args_list_extend_2 _ _) (grow_tup l b its.toArray its2.toArray n m od sl (extend_door hsz) (by omega) (by omega)) ⟨e, e3, ?_⟩
  refine ⟨.non, _, I.lset (its' := its ++ its2) hH e (by simp) (r.append r2) ?_, rfl, q⟩
  rw [List.length_append]
  exact e6
theorem MtM.or {m : String} {r1 r2 : V → List V → Hp → VK → Prop} (h1 : MtM X m r1) (h2 : MtM X m r2) : MtM X m (fun x vs H Q => r1 x vs H Q ∨ r2 x vs H Q) := by
  intro pins s σ H x vs v us Q I rx rv h
  rcases h with h | h
  · exact h1 pins s σ H x vs v us Q I rx rv h
  · exact h2 pins s σ H x vs v us Q I rx rv h
theorem mt_ext2 (e : X.K = K := by rfl) : MtM X "list.extend" (fun x vs H Q => rExtend x vs H Q ∨ rExtT K x vs H Q) := by subst e; exact MtM.or mt_extend mt_extT
theorem z_extL (z : Zp G M H) (k : Nat) (e : M[k]? = some (a, .lst xs)) (h : H b = some (.lst ys)) (hl : xs.length + ys.length ≤ 4000000) (q : ∀ H1, Zp G (M.set k (a, .lst (xs ++ ys))) H1 → Q .non H1) : rExtend (.ref a) [.ref b] H Q ∨ rExtT K (.ref a) [.ref b] H Q :=
  .inl ⟨a, b, xs, ys, rfl, rfl, z.at_ k e, h, Nat.le_trans hl (by decide), q _ (z.put k e _)⟩
theorem z_extT (z : Zp G M H) (k : Nat) (e : M[k]? = some (a, .lst xs)) (h : SqT K H b ys) (hl : xs.length + ys.length ≤ 4000000) (q : ∀ H1, Zp G (M.set k (a, .lst (xs ++ ys))) H1 → Q .non H1) : rExtend (.ref a) [.ref b] H Q ∨ rExtT K (.ref a) [.ref b] H Q :=
  .inr ⟨a, b, xs, ys, rfl, rfl, z.at_ k e, h, hl, q _ (z.put k e _)⟩
theorem z_pop (z : Zp G M H) (k : Nat) (e : M[k]? = some (a, .lst (xs ++ [y]))) (q : ∀ H1, Zp G (M.set k (a, .lst xs)) H1 → Q y H1) : rPop (.ref a) [] H Q :=
  ⟨a, xs ++ [y], y, rfl, rfl, z.at_ k e, by simp, by rw [List.dropLast_concat]; exact q _ (z.put k e _)⟩
theorem z_reverse (z : Zp G M H) (k : Nat) (e : M[k]? = some (a, .lst xs)) (q : ∀ H1, Zp G (M.set k (a, .lst xs.reverse)) H1 → Q .non H1) : rReverse (.ref a) [] H Q :=
  ⟨a, xs, rfl, rfl, z.at_ k e, q _ (z.put k e _)⟩
theorem z_ixH (h : SqL K H a xs) (e : atI xs i = some v) (q : Q v H) : rIx K (.ref a) (.int i) H Q := .inl ⟨a, xs, i, v, rfl, rfl, h, e, q⟩
theorem z_ixTH (h : SqT K H a xs) (e : atI xs i = some v) (q : Q v H) : rIx K (.ref a) (.int i) H Q := .inr (.inl ⟨a, xs, i, v, rfl, rfl, h, e, q⟩)
theorem z_tupH (h : SqL K H a xs) (z : Zp G M H) (q : ∀ p G1 H1, Zp G1 M H1 → Same G G1 → SqT K G1 p xs → Q (.ref p) H1) : rTupG K [.ref a] H Q :=
  ⟨a, xs, rfl, .inl ⟨h, fun p hp => q p _ _ (z.new hp _) (Same.new (z.free hp)) (SqT.of upd_same)⟩⟩
/-! ### fewer that may change -/
theorem Zp.less (z : Zp G M H) (h : M1.Sublist M) : Zp G M1 H where
  sub := z.sub
  own := fun i q u e => by
    obtain ⟨j, hj⟩ := List.getElem?_of_mem (h.subset (List.mem_of_getElem? e))
    exact z.own j q u hj
  nd := z.nd.sublist (h.map _)
/-! ### a comprehension whose list may change -/
theorem lc_srcO {J : It} {g : TG} {ws : List Nat} {OK : Hp → Prop} (S : Src J xs OK) (I : Nat → Hp → List (Addr × HO) → List V → Prop) (z : Zp G M H) (h0 : I 0 G M []) (ok : ∀ i G M M1 acc H, I i G M acc → Zp G (M ++ M1) H → OK H)
    (turn : ∀ i x G M acc Dl H, xs[i]? = some x → I i G M acc → Zp G (M ++ [(Dl, .lst acc)]) H → g x (wipe σ ws) H fun σ2 H2 => wipe σ2 ws = wipe σ ws ∧ tt σ2 H2 fun b H3 =>
      Bif b (te σ2 H3 fun y H4 => Laid (I (i + 1)) Dl y H4) (Kept (I (i + 1)) Dl H3))
    (done : ∀ p G M acc H1, I xs.length G M acc → Zp G (M ++ [(p, .lst acc)]) H1 → Q (.ref p) H1) : LcW J g tt te ws σ H Q := by
  intro Dl hD
  refine ⟨fun i m H => m = xs.length - i ∧ i ≤ xs.length ∧ Kept (I i) Dl H, ⟨xs.length, by simp, Nat.zero_le _, G, M, [], z.add hD _, h0⟩, ?_⟩
  rintro i m H ⟨rfl, hi, G, M, acc, z, h⟩
  have o := ok i G M _ acc H h z
  by_cases c : i < xs.length
  · refine .inr ⟨S.go i H o c, Kept (I (i + 1)) Dl, fun H' q => ⟨xs.length - (i + 1), by omega, rfl, c, q⟩, fun x H' y => ?_⟩
    obtain ⟨e0, e⟩ := S.yld i H x H' o c y
    subst e0
    exact turn i x G M acc Dl H' e h z
  · have e0 : i = xs.length := by omega
    subst e0
    exact .inl ⟨S.stop _ H o (Nat.le_refl _), done Dl G M acc _ h z⟩
/-! ### x.f += an int -/
def FaW (K : PySem.W.Frag) (tv : TE) (rd : V → V → Hp → VK → Prop) (f : Str) (D : Ends) (σ : L2.St) (x : V) (H1 : Hp) : Prop := ∃ a C dx fs v, x = .ref a ∧ H1 a = some (.ins C dx fs) ∧ Cls K C ∧ NoAttr K C f ∧ fs.lookup f = some v ∧
  tv σ H1 fun y H2 => rd v y H2 fun z H3 => ∃ dx' fs', H3 a = some (.ins C dx' fs') ∧ fs'.length < 1000 ∧ D.nx σ (upd H3 a (.ins C dx' (putF f z fs')))
theorem z_fa {rd : V → V → Hp → VK → Prop} {f : Str} (h : ta σ H fun x H1 => FaW K tv rd f D σ x H1) : sFldAug K ta tv rd f D σ H := h
theorem z_faI {C dx : Addr} {fs : List (Str × V)} {f : Str} (z : Zp G M H) (k : Nat) (e : M[k]? = some (a, .ins C dx fs)) (c : Cls K C) (n : NoAttr K C f) (l : fs.lookup f = some (.int i)) (hl : fs.length < 1000) (q : ∀ H1, Zp G (M.set k (a, .ins C dx (putF f (.int (i + j)) fs))) H1 → D.nx σ H1) : FaW K (tC (.int j)) L2.rAdd f D σ (.ref a) H :=
  ⟨a, C, dx, fs, .int i, rfl, z.at_ k e, c, n, l, ⟨i, j, rfl, rfl, dx, fs, z.at_ k e, hl, q _ (z.put k e _)⟩⟩
/-! ### a field of what may change -/
theorem z_flO {C dx : Addr} {fs : List (Str × V)} {f : Str} (z : Zp G M H) (k : Nat) (e : M[k]? = some (a, .ins C dx fs)) (c : Cls K C) (n : NoAttr K C f) (l : fs.lookup f = some v) (q : Q v H) : FlW K f (.ref a) H Q := ⟨a, C, dx, fs, v, rfl, z.at_ k e, c, n, l, q⟩
/-! ### methods of what may change; they may raise -/
theorem z_mtO {C dx : Addr} {fs : List (Str × V)} {f : Str} (z : Zp G M H) (k : Nat) (e : M[k]? = some (a, .ins C dx fs)) (l : fs.lookup f = none) (q : A) : MtW C f (.ref a) H A := ⟨a, dx, fs, rfl, z.at_ k e, l, q⟩
def tMethS (C : Addr) (m : Str) (sp : Sp) (W : WX) (ta : TE) (t : TA) : TE := fun σ H Q => ta σ H fun x H1 => MtW C m x H1 (t σ H1 fun vs H2 => sp (x :: vs) H2 Q (WE W σ))
theorem z_mtS {C : Addr} {m : Str} {sp : Sp} {W : WX} (h : ta σ H fun x H1 => MtW C m x H1 (t σ H1 fun vs H2 => sp (x :: vs) H2 Q (WE W σ))) : tMethS C m sp W ta t σ H Q := h
theorem pe_mtX0 {k : Nat} {C : Addr} {m : Str} {ps : List Str} {sp : Sp} {W : WX} {e : Expr} {pos apos : Pos} {pl : Sem Bool} (R : Mth X.prog X.w X.K X.mg X.base (L2.CX X.prog X.w) k C m ps [] sp) (hr : Room k X.A) (tx : Takes X W) (he : PE X e ta)
    (ht : eval (.Call (.Attribute e m apos) [] [] pos) X.env = (do
      let ov ← eval e X.env
      standAt apos.atName
      let (f, first) ← holding [ov] (getMethod ov m pl)
      callWith pos f first (backTo pos (starEach [] X.env)) (backToKw pos (keywordEach [] X.env))) := by rfl) : PE X (.Call (.Attribute e m apos) [] [] pos) (tMethS C m sp W ta tNil) := by
  obtain ⟨f, fd, ds, hm, F, hb, hv⟩ := R.ex
  cases hv
  refine ⟨fun pins s σ H Q I h => ?_⟩
  refine PySem.W.methodCall_KW (pl := pl) (thn (he.run pins s σ H _ I h) fun u s1 ⟨x, H1, I1, rx, a, dx, fs, ex, ea, l, q⟩ => ?_) ht
  subst ex
  obtain rfl : u = Value.ref a := rx
  refine getmeth_ok I1 ea R.cl hm l ?_
  exact PySem.W.callWith_K0 (first := [.ref a]) I1.kIn hm.kp (run_fnS (σ := σ) (E := WE W) (us := [.ref a]) (vs := [.ref a]) F hr hb (passAt tx σ) I1 (.cons rfl .nil) q)
theorem pe_mtX {k : Nat} {C : Addr} {m : Str} {ps : List Str} {sp : Sp} {W : WX} {e e1 : Expr} {es : List Expr} {pos apos : Pos} {pl : Sem Bool} (R : Mth X.prog X.w X.K X.mg X.base (L2.CX X.prog X.w) k C m ps [] sp) (hr : Room k X.A) (tx : Takes X W) (he : PE X e ta) (ha : PA X (e1 :: es) t)
    (hst : starEach (e1 :: es) X.env = (false, eval e1 X.env) :: starEach es X.env := by rfl) (hpl : (backTo pos (starEach es X.env)).any (·.1) = false := by rfl)
    (ht : eval (.Call (.Attribute e m apos) (e1 :: es) [] pos) X.env = (do
      let ov ← eval e X.env
      standAt apos.atName
      let (f, first) ← holding [ov] (getMethod ov m pl)
      callWith pos f first (backTo pos (starEach (e1 :: es) X.env)) (backToKw pos (keywordEach [] X.env))) := by rfl) : PE X (.Call (.Attribute e m apos) (e1 :: es) [] pos) (tMethS C m sp W ta t) := by
  obtain ⟨f, fd, ds, hm, F, hb, hv⟩ := R.ex
  cases hv
  refine ⟨fun pins s σ H Q I h => ?_⟩
  refine PySem.W.methodCall_KW (pl := pl) (thn (he.run pins s σ H _ I h) fun u s1 ⟨x, H1, I1, rx, a, dx, fs, ex, ea, l, q⟩ => ?_) ht
  subst ex
  obtain rfl : u = Value.ref a := rx
  refine getmeth_ok I1 ea R.cl hm l ?_
  exact PySem.W.callWith_K (h₀ := X.base) (first := [.ref a]) I1.ok.mod.kin hm.kp (thn (ha.run pos pins s1 σ H1 _ I1 q) fun us s2 ⟨vs, H2, I2, r, q2⟩ => ⟨I2.kIn, run_fnS (σ := σ) (E := WE W) (us := .ref a :: us) (vs := .ref a :: vs) F hr hb (passAt tx σ) I2 (.cons rfl r) q2⟩) hst hpl
end
end Ys
/-! plans, as data; plain Lean -/
namespace Ys
open PySem PySem.Spec PyProof.Rows L2
inductive Hd where
  | th | ei | an | ag | be
  deriving DecidableEq
def Hd.s : Hd → Str
  | .th => "then"
  | .ei => "either"
  | .an => "any"
  | .ag => "again"
  | .be => "beside"
inductive Pl where
  | nm (s : Str)
  | nd (h : Hd) (ps : List Pl)
theorem Pl.ind {P : Pl → Prop} (h1 : ∀ s, P (.nm s)) (h2 : ∀ h ps, (∀ p ∈ ps, P p) → P (.nd h ps)) : ∀ p, P p
  | .nm s => h1 s
  | .nd h ps => h2 h ps fun p hp => Pl.ind h1 h2 p
termination_by p => sizeOf p
decreasing_by
  have := List.sizeOf_lt_of_mem hp
  simp only [Pl.nd.sizeOf_spec]
  omega
mutual
def Pl.d : Pl → PyData
  | .nm s => .str s
  | .nd h ps => .tuple (.str h.s :: Pl.dl ps)
def Pl.dl : List Pl → List PyData
  | [] => []
  | p :: ps => Pl.d p :: Pl.dl ps
end
theorem dl_map : ∀ ps : List Pl, Pl.dl ps = ps.map Pl.d
  | [] => by simp [Pl.dl]
  | p :: ps => by simp [Pl.dl, dl_map ps]
mutual
def Pl.dp : Pl → Nat
  | .nm _ => 0
  | .nd _ ps => Pl.dpl ps + 1
def Pl.dpl : List Pl → Nat
  | [] => 0
  | p :: ps => max (Pl.dp p) (Pl.dpl ps)
end
mutual
def Pl.sz : Pl → Nat
  | .nm _ => 1
  | .nd _ ps => Pl.szl ps + 1
def Pl.szl : List Pl → Nat
  | [] => 0
  | p :: ps => Pl.sz p + Pl.szl ps
end
theorem dp_mem {p : Pl} : ∀ {ps : List Pl}, p ∈ ps → p.dp ≤ Pl.dpl ps
  | q :: ps, h => by
    rw [Pl.dpl]
    rcases List.mem_cons.mp h with rfl | h
    · exact Nat.le_max_left _ _
    · exact Nat.le_trans (dp_mem h) (Nat.le_max_right _ _)
theorem dpl_le {n : Nat} : ∀ {ps : List Pl}, (∀ p ∈ ps, p.dp ≤ n) → Pl.dpl ps ≤ n
  | [], _ => by simp [Pl.dpl]
  | p :: ps, h => by
    rw [Pl.dpl]
    exact Nat.max_le.mpr ⟨h p (List.mem_cons_self ..), dpl_le fun q hq => h q (List.mem_cons_of_mem _ hq)⟩
theorem sz_mem {p : Pl} : ∀ {ps : List Pl}, p ∈ ps → p.sz ≤ Pl.szl ps
  | q :: ps, h => by
    rw [Pl.szl]
    rcases List.mem_cons.mp h with rfl | h
    · omega
    · have := sz_mem h
      omega
theorem szl_app : ∀ xs ys : List Pl, Pl.szl (xs ++ ys) = Pl.szl xs + Pl.szl ys
  | [], ys => by simp [Pl.szl]
  | x :: xs, ys => by rw [List.cons_append, Pl.szl, Pl.szl, szl_app xs ys]; omega
theorem dpl_app : ∀ xs ys : List Pl, Pl.dpl (xs ++ ys) = max (Pl.dpl xs) (Pl.dpl ys)
  | [], ys => by simp [Pl.dpl]
  | x :: xs, ys => by rw [List.cons_append, Pl.dpl, Pl.dpl, dpl_app xs ys]; omega
theorem sz_pos (p : Pl) : 1 ≤ p.sz := by cases p <;> simp [Pl.sz]
theorem len_szl : ∀ ps : List Pl, ps.length ≤ Pl.szl ps
  | [] => Nat.le_refl _
  | p :: ps => by
    have := len_szl ps
    have := sz_pos p
    rw [Pl.szl, List.length_cons]
    omega
/-! ### names are words -/
inductive Nms : Pl → Prop where
  | nm {s : Str} : Wd s → Nms (.nm s)
  | nd {h : Hd} {ps : List Pl} : (∀ p ∈ ps, Nms p) → Nms (.nd h ps)
theorem Nms.kids {h : Hd} {ps : List Pl} : Nms (.nd h ps) → ∀ p ∈ ps, Nms p
  | .nd k => k
def Hd.fit : Hd → Nat → Bool
  | .th, _ => true
  | .ei, n => decide (1 ≤ n)
  | .an, n => decide (1 ≤ n)
  | .ag, n => decide (n = 1)
  | .be, n => decide (n = 2)
inductive Ok : Bool → Pl → Prop where
  | nm {b : Bool} {s : Str} : Wd s → Ok b (.nm s)
  | nd {b : Bool} {h : Hd} {ps : List Pl} : h.fit ps.length = true → (b = true → h ≠ .be) → (∀ p ∈ ps, Ok (b || decide (h = .be)) p) → Ok b (.nd h ps)
theorem Ok.nms : ∀ (p : Pl) (b : Bool), Ok b p → Nms p := Pl.ind (fun s b h => by cases h with | nm w => exact .nm w) fun h ps ih b k => by
  cases k with
  | nd f c q => exact .nd fun p hp => ih p hp _ (q p hp)
theorem Ok.out : ∀ (p : Pl) (b : Bool), Ok true p → Ok b p := Pl.ind (fun s b h => by cases h with | nm w => exact .nm w) fun h ps ih b k => by
  cases k with
  | nd f c q =>
    refine .nd f (fun _ => c rfl) fun p hp => ih p hp _ (by simpa using q p hp)
theorem Ok.kids {b : Bool} {h : Hd} {ps : List Pl} (k : Ok b (.nd h ps)) : ∀ p ∈ ps, Ok (b || decide (h = .be)) p := by cases k with | nd f c q => exact q
theorem Ok.fit {b : Bool} {h : Hd} {ps : List Pl} (k : Ok b (.nd h ps)) : h.fit ps.length = true := by cases k with | nd f c q => exact f
/-! ### the normal form -/
def done : Pl := .nd .th []
def isDone : Pl → Bool
  | .nd .th [] => true
  | _ => false
def parts1 : Pl → List Pl
  | .nd .th qs => qs
  | q => [q]
def flat : List Pl → List Pl
  | [] => []
  | p :: ps => parts1 p ++ flat ps
def wrap : List Pl → Pl
  | [x] => x
  | xs => .nd .th xs
def seqn (ps : List Pl) : Pl := wrap (flat ps)
def along (a b : Pl) : Pl := if isDone a then b else if isDone b then a else .nd .be [a, b]
def mk (h : Hd) (ps : List Pl) : Pl := match h, ps with
  | .th, ps => seqn ps
  | .be, [a, b] => along a b
  | h, ps => .nd h ps
mutual
def nf : Pl → Pl
  | .nm s => .nm s
  | .nd h ps => mk h (nfl ps)
def nfl : List Pl → List Pl
  | [] => []
  | p :: ps => nf p :: nfl ps
end
theorem nfl_map : ∀ ps : List Pl, nfl ps = ps.map nf
  | [] => by simp [nfl]
  | p :: ps => by simp [nfl, nfl_map ps]
/-! ### what can follow -/
mutual
def wc : Pl → List Pl
  | .nm _ => []
  | .nd .ei ps => ps
  | .nd .an _ => []
  | .nd .ag ps => [done, seqn [ps.headD done, .nd .ag ps]]
  | .nd .th ps => wcT ps
  | .nd .be ps => wcB ps
def wcT : List Pl → List Pl
  | [] => []
  | a :: r => (wc a).map fun x => seqn (x :: r)
def wcB : List Pl → List Pl
  | [] => []
  | a :: r => match (wc a).map (fun x => along x (r.headD done)) with
    | [] => wcC a r
    | l => l
def wcC (a : Pl) : List Pl → List Pl
  | [] => []
  | b :: _ => (wc b).map fun x => along a x
end
mutual
def spl : Pl → List Pl
  | .nm s => [.nm s]
  | .nd .an ps => [.nd .an ps]
  | .nd .th ps => splT ps
  | .nd _ ps => splB ps
def splT : List Pl → List Pl
  | [] => []
  | a :: _ => spl a
def splB : List Pl → List Pl
  | [] => []
  | a :: r => spl a ++ splB r
end
def turnS (p : Pl) : Str := if isDone p then "done" else if (wc p).isEmpty then "staff" else "world"
mutual
def nmsL : Pl → List Str
  | .nm s => [s]
  | .nd _ ps => nmsLl ps
def nmsLl : List Pl → List Str
  | [] => []
  | p :: ps => nmsL p ++ nmsLl ps
end
mutual
def txt : Pl → Str
  | .nm s => s
  | .nd h ps => h.s ++ "(" ++ Txt.join ", " (txtl ps) ++ ")"
def txtl : List Pl → List Str
  | [] => []
  | p :: ps => txt p :: txtl ps
end
theorem txtl_map : ∀ ps : List Pl, txtl ps = ps.map txt
  | [] => by simp [txtl]
  | p :: ps => by simp [txtl, txtl_map ps]
end Ys
namespace Ys
open PySem PySem.Spec PyProof.Rows L2
theorem eqv_done (p : Pl) : PyData.eqv p.d (.tuple [.str "then"]) = isDone p := by
  have e : ∀ h : Hd, (h.s == ("then" : Str)) = decide (h = .th) := by intro h; cases h <;> decide +kernel
  cases p with
  | nm s => simp [Pl.d, PyData.eqv, isDone]
  | nd h ps =>
    have e2 : PyData.eqv (Pl.nd h ps).d (.tuple [.str "then"]) = ((h.s == ("then" : Str)) && PyData.eqvAll (Pl.dl ps) []) := by simp [Pl.d, PyData.eqv, PyData.eqvAll]
    rw [e2, e h]
    cases ps with
    | nil => cases h <;> simp [isDone, Pl.dl, PyData.eqvAll]
    | cons p ps => cases h <;> simp [isDone, Pl.dl, PyData.eqvAll]
theorem can_all {ds : List PyData} (h : ∀ d ∈ ds, d.canLay0 = true) : PyData.canLayAll0 ds = true := by
  induction ds with
  | nil => rfl
  | cons d ds ih =>
    show (d.canLay0 && PyData.canLayAll0 ds) = true
    rw [h d (List.mem_cons_self ..), ih fun e he => h e (List.mem_cons_of_mem _ he)]
    rfl
theorem dep_all {n : Nat} {ds : List PyData} (h : ∀ d ∈ ds, d.depth ≤ n) : PyData.depthAll ds ≤ n := by
  induction ds with
  | nil => exact Nat.zero_le _
  | cons d ds ih =>
    show max d.depth (PyData.depthAll ds) ≤ n
    exact Nat.max_le.mpr ⟨h d (List.mem_cons_self ..), ih fun e he => h e (List.mem_cons_of_mem _ he)⟩
theorem hd_ok (h : Hd) : PyData.strOk h.s = true := by cases h <;> decide +kernel
theorem pd_can : ∀ p, Nms p → p.d.canLay0 = true := Pl.ind (fun s k => by
    cases k with
    | nm k => rw [Pl.d]; exact k.2.2.ok) fun h ps ih k => by
  rw [Pl.d]
  show PyData.canLayAll0 (.str h.s :: Pl.dl ps) = true
  refine can_all fun d hd => ?_
  rcases List.mem_cons.mp hd with rfl | hd
  · exact hd_ok h
  · rw [dl_map] at hd
    obtain ⟨p, hp, rfl⟩ := List.mem_map.mp hd
    exact ih p hp (k.kids p hp)
theorem pd_dep : ∀ p : Pl, p.d.depth ≤ p.dp := Pl.ind (fun s => by rw [Pl.d]; exact Nat.zero_le _) fun h ps ih => by
  rw [Pl.d, Pl.dp]
  show PyData.depthAll (.str h.s :: Pl.dl ps) + 1 ≤ _
  refine Nat.succ_le_succ (dep_all fun d hd => ?_)
  rcases List.mem_cons.mp hd with rfl | hd
  · exact Nat.zero_le _
  · rw [dl_map] at hd
    obtain ⟨p, hp, rfl⟩ := List.mem_map.mp hd
    exact Nat.le_trans (ih p hp) (dp_mem hp)
theorem pd_shaped {p : Pl} (k : Nms p) (h : p.dp ≤ 60) : SeqAt.shaped p.d = true := by
  unfold SeqAt.shaped
  rw [pd_can p k]
  have := pd_dep p
  simp
  omega
theorem done_shaped : SeqAt.shaped (.tuple [.str "then"]) = true := by decide +kernel
/-! ### sizes and depths of what is made -/
theorem done_nms : Nms done := .nd fun p hp => by cases hp
theorem parts1_dp (p : Pl) : ∀ x ∈ parts1 p, x.dp ≤ p.dp := fun x hx => by
  unfold parts1 at hx
  split at hx
  · rw [Pl.dp]; exact Nat.le_succ_of_le (dp_mem hx)
  · rw [List.mem_singleton.mp hx]; exact Nat.le_refl _
theorem parts1_sz (p : Pl) : Pl.szl (parts1 p) ≤ p.sz := by
  unfold parts1
  split
  · rw [Pl.sz]; exact Nat.le_succ _
  · simp [Pl.szl]
theorem parts1_nms {p : Pl} (k : Nms p) : ∀ x ∈ parts1 p, Nms x := fun x hx => by
  unfold parts1 at hx
  split at hx
  · exact k.kids x hx
  · rw [List.mem_singleton.mp hx]; exact k
theorem parts1_ok {b : Bool} {p : Pl} (k : Ok b p) : ∀ x ∈ parts1 p, Ok b x := fun x hx => by
  unfold parts1 at hx
  split at hx
  · have := k.kids x hx
    simpa using this
  · rw [List.mem_singleton.mp hx]; exact k
theorem flat_mem {x : Pl} : ∀ {ps : List Pl}, x ∈ flat ps → ∃ p ∈ ps, x ∈ parts1 p
  | p :: ps, h => by
    rw [flat] at h
    rcases List.mem_append.mp h with h | h
    · exact ⟨p, List.mem_cons_self .., h⟩
    · obtain ⟨q, hq, hx⟩ := flat_mem h
      exact ⟨q, List.mem_cons_of_mem _ hq, hx⟩
theorem flat_sz : ∀ ps : List Pl, Pl.szl (flat ps) ≤ Pl.szl ps
  | [] => Nat.le_refl _
  | p :: ps => by
    rw [flat, szl_app, Pl.szl]
    have := parts1_sz p
    have := flat_sz ps
    omega
theorem flat_dp (ps : List Pl) : Pl.dpl (flat ps) ≤ Pl.dpl ps := dpl_le fun x hx => by
  obtain ⟨p, hp, hx⟩ := flat_mem hx
  exact Nat.le_trans (parts1_dp p x hx) (dp_mem hp)
theorem wrap_cases (xs : List Pl) : (∃ x, xs = [x] ∧ wrap xs = x) ∨ wrap xs = .nd .th xs := by
  unfold wrap
  split
  · exact .inl ⟨_, rfl, rfl⟩
  · exact .inr rfl
theorem wrap_dp (xs : List Pl) : (wrap xs).dp ≤ Pl.dpl xs + 1 := by
  rcases wrap_cases xs with ⟨x, rfl, e⟩ | e
  · rw [e]; simp [Pl.dpl]
  · rw [e, Pl.dp]; exact Nat.le_refl _
theorem wrap_sz (xs : List Pl) : (wrap xs).sz ≤ Pl.szl xs + 1 := by
  rcases wrap_cases xs with ⟨x, rfl, e⟩ | e
  · rw [e]; simp [Pl.szl]
  · rw [e, Pl.sz]; exact Nat.le_refl _
theorem seqn_dp (ps : List Pl) : (seqn ps).dp ≤ Pl.dpl ps + 1 := Nat.le_trans (wrap_dp _) (Nat.succ_le_succ (flat_dp ps))
theorem seqn_sz (ps : List Pl) : (seqn ps).sz ≤ Pl.szl ps + 1 := Nat.le_trans (wrap_sz _) (Nat.succ_le_succ (flat_sz ps))
theorem seqn_nms {ps : List Pl} (h : ∀ p ∈ ps, Nms p) : Nms (seqn ps) := by
  have k : ∀ x ∈ flat ps, Nms x := fun x hx => by
    obtain ⟨p, hp, hx⟩ := flat_mem hx
    exact parts1_nms (h p hp) x hx
  unfold seqn
  rcases wrap_cases (flat ps) with ⟨x, e1, e⟩ | e
  · rw [e]; exact k x (by rw [e1]; exact List.mem_singleton.mpr rfl)
  · rw [e]; exact .nd k
theorem seqn_ok {b : Bool} {ps : List Pl} (h : ∀ p ∈ ps, Ok b p) : Ok b (seqn ps) := by
  have k : ∀ x ∈ flat ps, Ok b x := fun x hx => by
    obtain ⟨p, hp, hx⟩ := flat_mem hx
    exact parts1_ok (h p hp) x hx
  unfold seqn
  rcases wrap_cases (flat ps) with ⟨x, e1, e⟩ | e
  · rw [e]; exact k x (by rw [e1]; exact List.mem_singleton.mpr rfl)
  · rw [e]; exact .nd rfl (fun _ => by decide) (by simpa using k)
theorem along_cases (a b : Pl) : along a b = b ∨ along a b = a ∨ along a b = .nd .be [a, b] := by
  unfold along
  split
  · exact .inl rfl
  · split
    · exact .inr (.inl rfl)
    · exact .inr (.inr rfl)
theorem along_dp (a b : Pl) : (along a b).dp ≤ max a.dp b.dp + 1 := by
  rcases along_cases a b with e | e | e <;> rw [e]
  · omega
  · omega
  · simp [Pl.dp, Pl.dpl]
theorem along_sz (a b : Pl) : (along a b).sz ≤ a.sz + b.sz + 1 := by
  rcases along_cases a b with e | e | e <;> rw [e]
  · omega
  · omega
  · simp [Pl.sz, Pl.szl]
theorem along_nms {a b : Pl} (h1 : Nms a) (h2 : Nms b) : Nms (along a b) := by
  rcases along_cases a b with e | e | e <;> rw [e]
  · exact h2
  · exact h1
  · exact .nd fun p hp => by
      rcases List.mem_cons.mp hp with rfl | hp
      · exact h1
      · rw [List.mem_singleton.mp hp]; exact h2
theorem along_ok {a b : Pl} (h1 : Ok true a) (h2 : Ok true b) : Ok false (along a b) := by
  rcases along_cases a b with e | e | e <;> rw [e]
  · exact Ok.out _ _ h2
  · exact Ok.out _ _ h1
  · refine .nd rfl (fun h => by cases h) fun p hp => ?_
    rcases List.mem_cons.mp hp with rfl | hp
    · exact h1
    · rw [List.mem_singleton.mp hp]; exact h2
theorem mk_cases (h : Hd) (ps : List Pl) : (h = .th ∧ mk h ps = seqn ps) ∨ (∃ a b, h = .be ∧ ps = [a, b] ∧ mk h ps = along a b) ∨ (h ≠ .th ∧ mk h ps = .nd h ps) := by
  unfold mk
  split
  · exact .inl ⟨rfl, rfl⟩
  · exact .inr (.inl ⟨_, _, rfl, rfl, rfl⟩)
  · rename_i h1 h2
    refine .inr (.inr ⟨fun e => ?_, rfl⟩)
    subst e
    simp_all
theorem mk_dp (h : Hd) (ps : List Pl) : (mk h ps).dp ≤ Pl.dpl ps + 1 := by
  rcases mk_cases h ps with ⟨_, e⟩ | ⟨a, b, _, rfl, e⟩ | ⟨_, e⟩ <;> rw [e]
  · exact seqn_dp ps
  · have := along_dp a b
    simp only [Pl.dpl]
    omega
  · rw [Pl.dp]; exact Nat.le_refl _
theorem mk_sz (h : Hd) (ps : List Pl) : (mk h ps).sz ≤ Pl.szl ps + 1 := by
  rcases mk_cases h ps with ⟨_, e⟩ | ⟨a, b, _, rfl, e⟩ | ⟨_, e⟩ <;> rw [e]
  · exact seqn_sz ps
  · have := along_sz a b
    simp only [Pl.szl]
    omega
  · rw [Pl.sz]; exact Nat.le_refl _
theorem mk_ok {b : Bool} {h : Hd} {ps : List Pl} (f : h.fit ps.length = true) (c : b = true → h ≠ .be) (k : ∀ p ∈ ps, Ok (b || decide (h = .be)) p) : Ok b (mk h ps) := by
  rcases mk_cases h ps with ⟨rfl, e⟩ | ⟨x, y, rfl, rfl, e⟩ | ⟨_, e⟩ <;> rw [e]
  · exact seqn_ok (by simpa using k)
  · cases b with
    | true => exact absurd rfl (c rfl)
    | false => exact along_ok (by simpa using k x (by simp)) (by simpa using k y (by simp))
  · exact .nd f c k
theorem nf_dp : ∀ p, (nf p).dp ≤ p.dp := Pl.ind (fun s => by rw [nf]; exact Nat.le_refl _) fun h ps ih => by
  rw [nf, Pl.dp, nfl_map]
  refine Nat.le_trans (mk_dp h _) (Nat.succ_le_succ (dpl_le fun q hq => ?_))
  obtain ⟨p, hp, rfl⟩ := List.mem_map.mp hq
  exact Nat.le_trans (ih p hp) (dp_mem hp)
theorem nfl_sz : ∀ ps : List Pl, (∀ p ∈ ps, (nf p).sz ≤ p.sz) → Pl.szl (nfl ps) ≤ Pl.szl ps
  | [], _ => Nat.le_refl _
  | p :: ps, h => by
    rw [nfl, Pl.szl, Pl.szl]
    have := h p (List.mem_cons_self ..)
    have := nfl_sz ps fun q hq => h q (List.mem_cons_of_mem _ hq)
    omega
theorem nf_sz : ∀ p, (nf p).sz ≤ p.sz := Pl.ind (fun s => by rw [nf]; exact Nat.le_refl _) fun h ps ih => by
  rw [nf, Pl.sz]
  exact Nat.le_trans (mk_sz h _) (Nat.succ_le_succ (nfl_sz ps ih))
theorem nf_ok : ∀ p b, Ok b p → Ok b (nf p) := Pl.ind (fun s b k => by rw [nf]; exact k) fun h ps ih b k => by
  rw [nf, nfl_map]
  cases k with
  | nd f c q =>
    refine mk_ok (by rw [List.length_map]; exact f) c fun x hx => ?_
    obtain ⟨p, hp, rfl⟩ := List.mem_map.mp hx
    exact ih p hp _ (q p hp)
/-! ### choices -/
structure Nx (b : Bool) (n m : Nat) (c : Pl) : Prop where
  ok : Ok b c
  dp : c.dp ≤ n + 1
  sz : c.sz ≤ 2 * m + 2
theorem wc_nx : ∀ p b, Ok b p → ∀ c ∈ wc p, Nx b p.dp p.sz c := Pl.ind (fun s b k c hc => by rw [wc] at hc; cases hc) fun h ps ih b k c hc => by
  have kk := k.kids
  have kf := k.fit
  cases h with
  | th =>
    rw [wc] at hc
    cases ps with
    | nil => rw [wcT] at hc; cases hc
    | cons a r =>
      rw [wcT] at hc
      obtain ⟨x, hx, rfl⟩ := List.mem_map.mp hc
      have ka : Ok b a := by simpa using kk a (by simp)
      have n := ih a (by simp) b ka x hx
      refine ⟨seqn_ok fun p hp => ?_, ?_, ?_⟩
      · rcases List.mem_cons.mp hp with rfl | hp
        · exact n.ok
        · simpa using kk p (List.mem_cons_of_mem _ hp)
      · have := seqn_dp (x :: r)
        have := n.dp
        simp only [Pl.dp, Pl.dpl] at *
        omega
      · have := seqn_sz (x :: r)
        have := n.sz
        simp only [Pl.sz, Pl.szl] at *
        omega
  | ei =>
    rw [wc] at hc
    refine ⟨by simpa using kk c hc, ?_, ?_⟩
    · have := dp_mem hc
      rw [Pl.dp]
      omega
    · have := sz_mem hc
      rw [Pl.sz]
      omega
  | an => rw [wc] at hc; cases hc
  | ag =>
    obtain ⟨q, rfl⟩ : ∃ q, ps = [q] := by
      match ps, (of_decide_eq_true kf : ps.length = 1) with
      | [q], _ => exact ⟨q, rfl⟩
    have kq : Ok b q := by simpa using kk q (by simp)
    rw [wc] at hc
    rcases List.mem_cons.mp hc with rfl | hc
    · exact ⟨.nd rfl (fun _ => by decide) (fun p hp => by cases hp), by simp [done, Pl.dp, Pl.dpl], by simp [done, Pl.sz, Pl.szl]⟩
    · obtain rfl := List.mem_singleton.mp hc
      refine ⟨seqn_ok fun p hp => ?_, ?_, ?_⟩
      · rcases List.mem_cons.mp hp with rfl | hp
        · exact kq
        · rw [List.mem_singleton.mp hp]; exact k
      · have := seqn_dp [q, .nd .ag [q]]
        simp only [Pl.dp, Pl.dpl, List.headD_cons] at *
        omega
      · have := seqn_sz [q, .nd .ag [q]]
        simp only [Pl.sz, Pl.szl, List.headD_cons] at *
        omega
  | be =>
    obtain ⟨x, y, rfl⟩ : ∃ x y, ps = [x, y] := by
      match ps, (of_decide_eq_true kf : ps.length = 2) with
      | [x, y], _ => exact ⟨x, y, rfl⟩
    have hb : b = false := by
      cases b with
      | false => rfl
      | true => cases k with | nd f c q => exact absurd rfl (c rfl)
    subst hb
    have kx : Ok true x := by simpa using kk x (by simp)
    have ky : Ok true y := by simpa using kk y (by simp)
    rw [wc, wcB] at hc
    have one : (∃ z ∈ wc x, c = along z y) ∨ (∃ z ∈ wc y, c = along x z) := by
      split at hc
      · rw [wcC] at hc
        obtain ⟨z, hz, rfl⟩ := List.mem_map.mp hc
        exact .inr ⟨z, hz, rfl⟩
      · obtain ⟨z, hz, rfl⟩ := List.mem_map.mp hc
        exact .inl ⟨z, hz, rfl⟩
    rcases one with ⟨z, hz, rfl⟩ | ⟨z, hz, rfl⟩
    · have n := ih x (by simp) true kx z hz
      refine ⟨along_ok n.ok ky, ?_, ?_⟩
      · have := along_dp z y
        have := n.dp
        simp only [Pl.dp, Pl.dpl] at *
        omega
      · have := along_sz z y
        have := n.sz
        simp only [Pl.sz, Pl.szl] at *
        omega
    · have n := ih y (by simp) true ky z hz
      refine ⟨along_ok kx n.ok, ?_, ?_⟩
      · have := along_dp x z
        have := n.dp
        simp only [Pl.dp, Pl.dpl] at *
        omega
      · have := along_sz x z
        have := n.sz
        simp only [Pl.sz, Pl.szl] at *
        omega
theorem wc_len : ∀ p b, Ok b p → (wc p).length ≤ p.sz := Pl.ind (fun s b k => by rw [wc]; exact Nat.zero_le _) fun h ps ih b k => by
  have kk := k.kids
  have kf := k.fit
  cases h with
  | th =>
    rw [wc]
    cases ps with
    | nil => rw [wcT]; exact Nat.zero_le _
    | cons a r =>
      rw [wcT, List.length_map]
      have := ih a (by simp) b (by simpa using kk a (by simp))
      simp only [Pl.sz, Pl.szl]
      omega
  | ei =>
    rw [wc, Pl.sz]
    have := len_szl ps
    omega
  | an => rw [wc]; exact Nat.zero_le _
  | ag =>
    obtain ⟨q, rfl⟩ : ∃ q, ps = [q] := by
      match ps, (of_decide_eq_true kf : ps.length = 1) with
      | [q], _ => exact ⟨q, rfl⟩
    rw [wc]
    have := sz_pos q
    simp only [Pl.sz, Pl.szl, List.length_cons, List.length_nil]
    omega
  | be =>
    obtain ⟨x, y, rfl⟩ : ∃ x y, ps = [x, y] := by
      match ps, (of_decide_eq_true kf : ps.length = 2) with
      | [x, y], _ => exact ⟨x, y, rfl⟩
    have hx := ih x (by simp) _ (kk x (by simp))
    have hy := ih y (by simp) _ (kk y (by simp))
    rw [wc, wcB]
    simp only [Pl.sz, Pl.szl]
    split
    · rw [wcC, List.length_map]; omega
    · rw [List.length_map]; omega
/-! ### places -/
theorem spl_in : ∀ p b, Ok b p → ∀ q ∈ spl p, (∃ c, Ok c q) ∧ q.dp ≤ p.dp ∧ q.sz ≤ p.sz := Pl.ind (fun s b k q hq => by
    rw [spl] at hq
    rw [List.mem_singleton.mp hq]
    exact ⟨⟨b, k⟩, Nat.le_refl _, Nat.le_refl _⟩) fun h ps ih b k q hq => by
  have kk := k.kids
  have sub : ∀ l : List Pl, (∀ p ∈ l, p ∈ ps) → q ∈ splB l → (∃ c, Ok c q) ∧ q.dp ≤ (Pl.nd h ps).dp ∧ q.sz ≤ (Pl.nd h ps).sz := by
    intro l
    induction l with
    | nil => intro _ h; rw [splB] at h; cases h
    | cons a r ihr =>
      intro hl h
      rw [splB] at h
      rcases List.mem_append.mp h with h | h
      · obtain ⟨h1, h2, h3⟩ := ih a (hl a (by simp)) _ (kk a (hl a (by simp))) q h
        refine ⟨h1, ?_, ?_⟩
        · have := dp_mem (hl a (by simp))
          rw [Pl.dp]
          omega
        · have := sz_mem (hl a (by simp))
          rw [Pl.sz]
          omega
      · exact ihr (fun p hp => hl p (List.mem_cons_of_mem _ hp)) h
  cases h with
  | an =>
    rw [spl] at hq
    rw [List.mem_singleton.mp hq]
    exact ⟨⟨b, k⟩, Nat.le_refl _, Nat.le_refl _⟩
  | th =>
    rw [spl] at hq
    cases ps with
    | nil => rw [splT] at hq; cases hq
    | cons a r =>
      rw [splT] at hq
      obtain ⟨h1, h2, h3⟩ := ih a (by simp) _ (kk a (by simp)) q hq
      refine ⟨h1, ?_, ?_⟩
      · simp only [Pl.dp, Pl.dpl]; omega
      · simp only [Pl.sz, Pl.szl]; omega
  | ei => rw [spl] at hq <;> first | exact sub ps (fun _ h => h) hq | (intro e; cases e)
  | ag => rw [spl] at hq <;> first | exact sub ps (fun _ h => h) hq | (intro e; cases e)
  | be => rw [spl] at hq <;> first | exact sub ps (fun _ h => h) hq | (intro e; cases e)
end Ys
namespace Ys
theorem z_bT' {c : Bool} {A B : Prop} (h : c = true) (q : A) : Bif c A B := by rw [h]; exact z_bT q
theorem z_bF' {c : Bool} {A B : Prop} (h : c = false) (q : B) : Bif c A B := by rw [h]; exact z_bF q
end Ys
/-! a run has one end: two wishes of one run are one wish -/
namespace Ys
open PySem
theorem runs_one {M : Model} {Γ : Ctx} {p : Pos} {t : Sem Fin} {fs : List Frame} {s s' : Shared} {e : End} (h : Runs M Γ p t fs s e s') : ∀ e2 s2, Runs M Γ p t fs s e2 s2 → e = e2 ∧ s' = s2 := by
  induction h with
  | done => intro e2 s2 h2; cases h2; exact ⟨rfl, rfl⟩
  | raise => intro e2 s2 h2; cases h2; exact ⟨rfl, rfl⟩
  | again q _ ih => intro e2 s2 h2; cases h2 with | again q2 r2 => exact ih _ _ r2
  | rule _ ih => intro e2 s2 h2; cases h2 with | rule r2 => exact ih _ _ r2
  | «at» _ ih => intro e2 s2 h2; cases h2 with | «at» r2 => exact ih _ _ r2
  | load q _ ih => intro e2 s2 h2; cases h2 with | load q2 r2 => rw [q] at q2; cases q2; exact ih _ _ r2
  | update _ _ ih => intro e2 s2 h2; cases h2 with | update q2 r2 => exact ih _ _ r2
  | loadIfAlive _ ih => intro e2 s2 h2; cases h2 with | loadIfAlive r2 => exact ih _ _ r2
  | point _ ih => intro e2 s2 h2; cases h2 with | point r2 => exact ih _ _ r2
  | alloc _ ih => intro e2 s2 h2; cases h2 with | alloc r2 => exact ih _ _ r2
  | fresh _ ih => intro e2 s2 h2; cases h2 with | fresh r2 => exact ih _ _ r2
  | ask _ ih => intro e2 s2 h2; cases h2 with | ask r2 => exact ih _ _ r2
  | choose _ _ ih => intro e2 s2 h2; cases h2 with | choose q2 r2 => exact ih _ _ r2
  | os _ ih => intro e2 s2 h2; cases h2 with | os r2 => exact ih _ _ r2
  | handled _ ih => intro e2 s2 h2; cases h2 with | handled r2 => exact ih _ _ r2
  | genState q _ ih => intro e2 s2 h2; cases h2 with | genState q2 r2 => rw [q] at q2; cases q2; exact ih _ _ r2
  | stack _ ih => intro e2 s2 h2; cases h2 with | stack r2 => exact ih _ _ r2
  | thread _ ih => intro e2 s2 h2; cases h2 with | thread r2 => exact ih _ _ r2
  | newGen _ ih => intro e2 s2 h2; cases h2 with | newGen r2 => exact ih _ _ r2
  | call _ _ ih1 ih2 =>
    intro e2 s2 h2
    cases h2 with
    | call r1 r2 =>
      obtain ⟨a, b⟩ := ih1 _ _ r1
      cases a; cases b
      exact ih2 _ _ r2
    | callSusp r1 => exact absurd (ih1 _ _ r1).1 (fun z => by cases z)
  | callSusp _ ih1 =>
    intro e2 s2 h2
    cases h2 with
    | call r1 r2 => exact absurd (ih1 _ _ r1).1 (fun z => by cases z)
    | callSusp r1 =>
      obtain ⟨a, b⟩ := ih1 _ _ r1
      cases a; cases b
      exact ⟨rfl, rfl⟩
  | yield => intro e2 s2 h2; cases h2; exact ⟨rfl, rfl⟩
  | resumeFresh q _ _ _ ih1 ih2 =>
    intro e2 s2 h2
    cases h2 with
    | resumeFresh q2 r1 _ r2 =>
      rw [q] at q2; cases q2
      obtain ⟨a, b⟩ := ih1 _ _ r1
      subst a b
      exact ih2 _ _ r2
    | resumeSuspended q2 r1 _ r2 => rw [q] at q2; cases q2
    | resumeJustStarted q2 ne r2 => exact absurd rfl ne
    | resumeRunning q2 r2 => rw [q] at q2; cases q2
    | resumeFinished q2 r2 => rw [q] at q2; cases q2
  | resumeSuspended q _ _ _ ih1 ih2 =>
    intro e2 s2 h2
    cases h2 with
    | resumeFresh q2 r1 _ r2 => rw [q] at q2; cases q2
    | resumeSuspended q2 r1 _ r2 =>
      rw [q] at q2; cases q2
      obtain ⟨a, b⟩ := ih1 _ _ r1
      subst a b
      exact ih2 _ _ r2
    | resumeJustStarted q2 ne r2 => rw [q] at q2; cases q2
    | resumeThrowFresh q2 r2 => rw [q] at q2; cases q2
    | resumeRunning q2 r2 => rw [q] at q2; cases q2
    | resumeFinished q2 r2 => rw [q] at q2; cases q2
  | resumeJustStarted q ne _ ih =>
    intro e2 s2 h2
    cases h2 with
    | resumeFresh q2 r1 _ r2 => exact absurd rfl ne
    | resumeSuspended q2 r1 _ r2 => rw [q] at q2; cases q2
    | resumeJustStarted q2 ne r2 => exact ih _ _ r2
    | resumeRunning q2 r2 => rw [q] at q2; cases q2
    | resumeFinished q2 r2 => rw [q] at q2; cases q2
  | resumeThrowFresh q _ ih =>
    intro e2 s2 h2
    cases h2 with
    | resumeSuspended q2 r1 _ r2 => rw [q] at q2; cases q2
    | resumeThrowFresh q2 r2 => exact ih _ _ r2
    | resumeRunning q2 r2 => rw [q] at q2; cases q2
    | resumeFinished q2 r2 => rw [q] at q2; cases q2
  | resumeRunning q _ ih =>
    intro e2 s2 h2
    cases h2 with
    | resumeFresh q2 r1 _ r2 => rw [q] at q2; cases q2
    | resumeSuspended q2 r1 _ r2 => rw [q] at q2; cases q2
    | resumeJustStarted q2 ne r2 => rw [q] at q2; cases q2
    | resumeThrowFresh q2 r2 => rw [q] at q2; cases q2
    | resumeRunning q2 r2 => exact ih _ _ r2
    | resumeFinished q2 r2 => rw [q] at q2; cases q2
  | resumeFinished q _ ih =>
    intro e2 s2 h2
    cases h2 with
    | resumeFresh q2 r1 _ r2 => rw [q] at q2; cases q2
    | resumeSuspended q2 r1 _ r2 => rw [q] at q2; cases q2
    | resumeJustStarted q2 ne r2 => rw [q] at q2; cases q2
    | resumeThrowFresh q2 r2 => rw [q] at q2; cases q2
    | resumeRunning q2 r2 => rw [q] at q2; cases q2
    | resumeFinished q2 r2 => exact ih _ _ r2
  | segRet _ _ ih1 ih2 =>
    intro e2 s2 h2
    cases h2 with
    | segRet r1 r2 =>
      obtain ⟨a, b⟩ := ih1 _ _ r1
      cases a; cases b
      exact ih2 _ _ r2
    | segSuspOut q r1 => exact absurd (ih1 _ _ r1).1 (fun z => by cases z)
    | segSuspGen q r1 _ r2 => exact absurd (ih1 _ _ r1).1 (fun z => by cases z)
  | segGen _ _ ih1 ih2 =>
    intro e2 s2 h2
    cases h2 with
    | segGen r1 r2 =>
      obtain ⟨a, b⟩ := ih1 _ _ r1
      cases a; cases b
      exact ih2 _ _ r2
    | segSuspOut q r1 => exact absurd (ih1 _ _ r1).1 (fun z => by cases z)
    | segSuspGen q r1 _ r2 => exact absurd (ih1 _ _ r1).1 (fun z => by cases z)
  | segSuspOut q _ ih1 =>
    intro e2 s2 h2
    cases h2 with
    | segRet r1 r2 => exact absurd (ih1 _ _ r1).1 (fun z => by cases z)
    | segGen r1 r2 => exact absurd (ih1 _ _ r1).1 (fun z => by cases z)
    | segSuspOut q2 r1 =>
      obtain ⟨a, b⟩ := ih1 _ _ r1
      cases a; cases b
      exact ⟨rfl, rfl⟩
    | segSuspGen q2 r1 _ r2 => rw [q] at q2; cases q2
  | segSuspGen q _ _ _ ih1 ih2 =>
    intro e2 s2 h2
    cases h2 with
    | segRet r1 r2 => exact absurd (ih1 _ _ r1).1 (fun z => by cases z)
    | segGen r1 r2 => exact absurd (ih1 _ _ r1).1 (fun z => by cases z)
    | segSuspOut q2 r1 => rw [q] at q2; cases q2
    | segSuspGen q2 r1 _ r2 =>
      rw [q] at q2
      cases q2
      obtain ⟨a, b⟩ := ih1 _ _ r1
      cases a; cases b
      exact ih2 _ _ r2
theorem returns_one {M : Model} {Γ : Ctx} {p : Pos} {s s1 s2 : Shared} {r1 r2 : Result} (h1 : Returns M Γ p s r1 s1) (h2 : Returns M Γ p s r2 s2) : r1 = r2 ∧ s1 = s2 := by
  obtain ⟨a, b⟩ := runs_one h1 _ _ h2
  cases a
  exact ⟨rfl, b⟩
theorem wakes_one {M : Model} {Γ : Ctx} {p : Pos} {g : Nat} {r : Resume} {s s1 s2 : Shared} {a b : GenResult} (h1 : Wakes M Γ p g r s a s1) (h2 : Wakes M Γ p g r s b s2) : a = b ∧ s1 = s2 := by
  unfold Wakes at h1 h2
  cases hg : s.gens[g]? with
  | none => rw [hg] at h1; exact h1.elim
  | some st =>
    rw [hg] at h1 h2
    cases st with
    | fresh c =>
      cases r with
      | send v =>
        cases v
        case none =>
          obtain ⟨e, t, r1, _, rfl, rfl⟩ := h1
          obtain ⟨e', t', r2, _, rfl, rfl⟩ := h2
          obtain ⟨x, y⟩ := runs_one r1 _ _ r2
          subst x y
          exact ⟨rfl, rfl⟩
        all_goals (exact ⟨h1.1.trans h2.1.symm, h1.2.trans h2.2.symm⟩)
      | throw x => exact ⟨h1.1.trans h2.1.symm, h1.2.trans h2.2.symm⟩
    | suspended k l c p fs cl =>
      obtain ⟨e, t, r1, _, rfl, rfl⟩ := h1
      obtain ⟨e', t', r2, _, rfl, rfl⟩ := h2
      obtain ⟨x, y⟩ := runs_one r1 _ _ r2
      subst x y
      exact ⟨rfl, rfl⟩
    | running => exact ⟨h1.1.trans h2.1.symm, h1.2.trans h2.2.symm⟩
    | finished => exact ⟨h1.1.trans h2.1.symm, h1.2.trans h2.2.symm⟩
theorem wp_both {α : Type} (M : Model) (Γ : Ctx) (t : Sem α) : ∀ (Q R : α → Pos → Shared → Prop) (E F : Value → Pos → Shared → Prop) (p : Pos) (s : Shared), Sem.wp M Γ t Q E p s → Sem.wp M Γ t R F p s →
    Sem.wp M Γ t (fun a p' s' => Q a p' s' ∧ R a p' s') (fun e p' s' => E e p' s' ∧ F e p' s') p s := by
  induction t with
  | pure a => intro Q R E F p s h g; exact ⟨h, g⟩
  | raise e => intro Q R E F p s h g; exact ⟨h, g⟩
  | unsupported _ => intro Q R E F p s h g; exact h
  | finish _ => intro Q R E F p s h g; exact h
  | rule _ k ih => intro Q R E F p s h g; exact ih () Q R E F p s h g
  | «at» p' k ih => intro Q R E F p s h g; exact ih () Q R E F p' s h g
  | load a _ k ih =>
    intro Q R E F p s h g
    obtain ⟨o, ho, h⟩ := h
    obtain ⟨o', ho', g⟩ := g
    rw [ho] at ho'
    cases ho'
    exact ⟨o, ho, ih o Q R E F p s h g⟩
  | update a _ f k ih => intro Q R E F p s h g; exact ⟨h.1, ih () Q R E F p _ h.2 g.2⟩
  | loadIfAlive a k ih => intro Q R E F p s h g; exact ih _ Q R E F p s h g
  | point _ k ih => intro Q R E F p s h g; exact ih () Q R E F p s h g
  | register _ _ => intro Q R E F p s h g; exact h
  | alloc o k ih => intro Q R E F p s h g; exact ih _ Q R E F p _ h g
  | fresh k ih => intro Q R E F p s h g; exact ih _ Q R E F p _ h g
  | ask k ih => intro Q R E F p s h g; exact ih _ Q R E F p s h g
  | choose src m k ih => intro Q R E F p s h g; exact ⟨h.1, ih _ Q R E F p _ h.2 g.2⟩
  | os q _ k ih => intro Q R E F p s h g; exact ih _ Q R E F p _ h g
  | call c hd _ _ k ih =>
    intro Q R E F p s h g
    obtain ⟨r, s1, hr, h⟩ := h
    obtain ⟨r2, s2, hr2, g⟩ := g
    obtain ⟨a, b⟩ := returns_one hr hr2
    subst a b
    exact ⟨r, s1, hr, ih r Q R E F p s1 h g⟩
  | handled own k ih => intro Q R E F p s h g; exact ih _ Q R E F p s h g
  | genState g k ih =>
    intro Q R E F p s h g
    obtain ⟨st, hs, h⟩ := h
    obtain ⟨st2, hs2, g⟩ := g
    rw [hs] at hs2
    cases hs2
    exact ⟨st, hs, ih _ Q R E F p s h g⟩
  | newGen c k ih => intro Q R E F p s h g; exact ih _ Q R E F p _ h g
  | resume g r _ k ih =>
    intro Q R E F p s h g
    obtain ⟨r1, s1, hr, h⟩ := h
    obtain ⟨r2, s2, hr2, g⟩ := g
    obtain ⟨a, b⟩ := wakes_one hr hr2
    subst a b
    exact ⟨r1, s1, hr, ih r1 Q R E F p s1 h g⟩
  | yield _ _ _ _ => intro Q R E F p s h g; exact h
  | stack k ih => intro Q R E F p s h g; exact ih _ Q R E F p s h g
  | fork _ _ => intro Q R E F p s h g; exact h
  | thread k ih => intro Q R E F p s h g; exact ih _ Q R E F p s h g
  | await _ _ _ _ _ => intro Q R E F p s h g; exact h
theorem wpAny_both {α : Type} {M : Model} {A : Around} {t : Sem α} {Q R : α → Shared → Prop} {E F : Value → Shared → Prop} {s : Shared} (h : wpAny M A t Q E s) (g : wpAny M A t R F s) : wpAny M A t (fun a s' => Q a s' ∧ R a s') (fun e s' => E e s' ∧ F e s') s :=
  fun Γ p hΓ => wp_both M Γ t _ _ _ _ p s (h Γ p hΓ) (g Γ p hΓ)
theorem codeAny_both {M : Model} {A : Around} {c : Code} {Q R : Result → Shared → Prop} {s : Shared} (h : codeAny M A c Q s) (g : codeAny M A c R s) : codeAny M A c (fun r s' => Q r s' ∧ R r s') s := fun Γ p hc hΓ => by
  obtain ⟨r, s1, hr, h⟩ := h Γ p hc hΓ
  obtain ⟨r2, s2, hr2, g⟩ := g Γ p hc hΓ
  obtain ⟨a, b⟩ := returns_one hr hr2
  subst a b
  exact ⟨r, s1, hr, h, g⟩
end Ys
/-! list(text); written lists of texts, raw -/
namespace Ys
open PySem PySem.Spec PyProof.Rows L2
theorem vals_at : ∀ {xs : List V} {us : List Value}, xs.length = us.length → (∀ (j : Nat) (x : V) (u : Value), xs[j]? = some x → us[j]? = some u → RelV x u) → Vals xs us
  | [], [], _, _ => .nil
  | [], _ :: _, h, _ => by cases h
  | _ :: _, [], h, _ => by cases h
  | x :: xs, u :: us, h, q => .cons (q 0 x u rfl rfl) (vals_at (by simpa using h) fun j y w e1 e2 => q (j + 1) y w e1 e2)
def chs (x : Str) : List V := x.cps.toList.map fun c => V.str ⟨#[c]⟩
def rListS : List V → Hp → VK → Prop := fun xs H Q => ∃ x : Str, xs = [V.str x] ∧ x.length ≤ 10000 ∧ ∀ l, H l = none → Q (.ref l) (upd H l (.lst (chs x)))
theorem c_listS {X : Cx} (hc : X.calm = true) : CallR X (.type "list") rListS := by
  intro pins s σ H xs us Q I r q
  obtain ⟨x, ex, hl, q⟩ := q
  subst ex
  cases r with
  | @cons _ u _ us2 rx r2 =>
  cases r2
  obtain ⟨t, rfl⟩ := rx
  have hz : x.cps.size ≤ sizeLine := Nat.le_trans hl (by decide)
  refine call_list_str (I.ok.hd hc) x t (hn := hz) fun h' tk acc c' hk hS hacc => ?_
  have hlen : (chs x).length = x.cps.size := by unfold chs; rw [List.length_map, Array.length_toList]
  have hv : Vals (chs x) acc.toList := vals_at (by rw [hlen, Array.length_toList, hacc.1]) fun j y u e1 e2 => by
    obtain ⟨c, k, hc', rfl⟩ := hacc.2 j u (by rw [← Array.getElem?_toList]; exact e2)
    unfold chs at e1
    rw [List.getElem?_map, Array.getElem?_toList, hc'] at e1
    cases e1
    exact ⟨k, rfl⟩
  exact ⟨.ref s.heap.objs.size, upd H s.heap.objs.size (.lst (chs x)), I.laid (t' := tk) hk (Nat.le_refl _)
    (show ObjOk X.prog X.w _ _ _ (.lst (chs x)) from ⟨by rw [hlen]; exact hz, acc.toList, c', hv, by rw [Array.toArray_toList]; exact hS⟩), rfl, q _ (I.hok.fresh (Nat.le_refl _))⟩
def rListGS (K : PySem.W.Frag) : List V → Hp → VK → Prop := fun xs H Q => rListG K xs H Q ∨ rListS xs H Q
theorem kc_listS {X : Cx} {K : PySem.W.Frag} (hc : X.calm = true) (e : X.K = K := by rfl) : CallR X (.type "list") (rListGS K) := by
  subst e
  exact CallR.or c_list (c_listS hc)
/-! ### written texts, raw -/
inductive Consts : List Expr → List Str → Prop where
  | nil : Consts [] []
  | cons {y : Str} {j : Nat} {p : Pos} {es : List Expr} {ys : List Str} : Consts es ys → Consts (.Constant (.str y) j p :: es) (y :: ys)
def rawL : List Str → Nat → List Value
  | [], _ => []
  | y :: ys, t => .str y t :: rawL ys (t + 1)
theorem raw_len : ∀ (ys : List Str) (t : Nat), (rawL ys t).length = ys.length
  | [], _ => rfl
  | y :: ys, t => by
    show (rawL ys (t + 1)).length + 1 = _
    rw [raw_len]
    rfl
theorem raw_vals : ∀ (ys : List Str) (t : Nat), Vals (ys.map V.str) (rawL ys t)
  | [], _ => .nil
  | y :: ys, t => .cons ⟨t, rfl⟩ (raw_vals ys (t + 1))
theorem raw_get : ∀ {ys : List Str} {t i : Nat} {u : Value}, (rawL ys t)[i]? = some u → ∃ y ∈ ys, ∃ k : Nat, u = .str y k ∧ t ≤ k ∧ k < t + ys.length
  | [], _, i, _, h => by simp [rawL] at h
  | y :: ys, t, 0, u, h => by
    have h : some (Value.str y t) = some u := h
    cases h
    exact ⟨y, by simp, t, rfl, Nat.le_refl _, by simp⟩
  | y :: ys, t, i + 1, u, h => by
    obtain ⟨z, hz, k, e, h1, h2⟩ := raw_get (ys := ys) (t := t + 1) (i := i) (u := u) h
    exact ⟨z, List.mem_cons_of_mem _ hz, k, e, by omega, by simp only [List.length_cons]; omega⟩
section
variable {M : Model} {A : Around} {E : Value → Shared → Prop} {env : Env}
theorem spliced_raw : ∀ {es : List Expr} {ys : List Str} {pos : Pos} {s : Shared} {Q : List Value → Shared → Prop}, Consts es ys → Q (rawL ys s.toks) { s with toks := s.toks + ys.length } → wpAny M A (spliced (backTo pos (starEach es env))) Q E s
  | _, _, pos, s, Q, .nil, h => Calls.spliced_nil h
  | _, _, pos, s, Q, .cons (y := y) (j := j) (p := p) (es := es) (ys := ys) c, h => by
    show wpAny M A (spliced ((false, eval (.Constant (.str y) j p) env) :: backTo pos (starEach es env))) Q E s
    refine Calls.spliced_cons (Calls.Constant_str (spliced_raw c ?_))
    show Q (Value.str y s.toks :: rawL ys (s.toks + 1)) _
    have e : (s.toks + 1) + ys.length = s.toks + (y :: ys).length := by simp only [List.length_cons]; omega
    rw [show ({ s with toks := (s.toks + 1) + ys.length } : Shared) = { s with toks := s.toks + (y :: ys).length } by rw [e]]
    exact h
end
section
variable {X : Cx} {pins : List (Addr × Obj)} {σ : L2.St} {H : Hp} {s : Shared} {E : Value → Shared → Prop}
theorem list_raw {es : List Expr} {ys : List Str} {pos : Pos} {Q : Value → Shared → Prop} (c : Consts es ys) (hz : ys.length ≤ 1000) (I : Inv X pins σ H s)
    (q : ∀ (a : Addr) (ob : Obj) (s1 : Shared), H a = none → ob.cls = .type "list" → ob.data = .seq (rawL ys s.toks).toArray 0 → s1.toks = s.toks + ys.length → Inv X pins σ (upd H a (.frz ob (.lst (ys.map V.str)))) s1 → Q (.ref a) s1) :
    wpAny (model X.prog X.w) X.A (eval (.List es pos) X.env) Q E s := by
  have h2 : (rawL ys s.toks).length ≤ sizeLine := by rw [raw_len]; exact Nat.le_trans hz (by decide)
  refine wpAny_List_spliced (spliced_raw c ⟨h2, ?_⟩)
  refine q s.heap.objs.size { cls := .type "list", data := .seq (rawL ys s.toks).toArray 0 } _ (I.hok.fresh (Nat.le_refl _)) rfl rfl rfl ?_
  refine I.laid (t' := s.toks + ys.length) (fun b u e => Heap.get?_push_of_some _ e) (Nat.le_refl _) ⟨Heap.get?_push_size _ rfl, ?_⟩
  exact ⟨by rw [List.length_map]; rw [raw_len] at h2; exact h2, rawL ys s.toks, 0, raw_vals ys _, Heap.get?_push_size _ rfl⟩
end
end Ys
namespace Ys
open PySem PySem.Spec PyProof.Rows L2
/-! ### the Hook, with methods that say super() -/
theorem obC_eq {n : Nat} {fb : List (PySem.W.Frag → Bool)} {fn fc : List DefY} (s : PySem.W.SharedT) : obC n fb fn fc s = (hookC n fb fn fc).obs s.abs := by
  have e : HandSHeadRun.getT s = s.abs.heap.get? := funext (HandSHeadRun.getT_eq s)
  unfold obC
  rw [e]
  rfl
section
variable {fb : List (PySem.W.Frag → Bool)} {fn fc : List DefY} {K : PySem.W.Frag}
theorem SaysC.both (c : SaysC fb fn fc K) : SaysZ fb fn K ∧ (fc.map fun d => fnC K (d.ad K)) = fc.map DefY.val := by
  have h2 : (fn.map fun d => fnY K (d.ad K)) ++ (fc.map fun d => fnC K (d.ad K)) = fn.map DefY.val ++ fc.map DefY.val := congrArg Prod.snd c
  obtain ⟨h3, h4⟩ := List.append_inj h2 (by rw [List.length_map, List.length_map])
  have h1 : ((fb.all fun f => f K) && fn.all fun d => d.ok K) = true := congrArg Prod.fst c
  exact ⟨Prod.ext h1 h3, h4⟩
theorem SaysC.sup (c : SaysC fb fn fc K) (i : Nat) {d : DefY} (h : fc[i]? = some d := by rfl) : fnC K (d.ad K) = d.val := by
  have := congrArg (fun l : List He.FnW => l[i]?) c.both.2
  simp only [List.getElem?_map, h, Option.map_some] at this
  exact Option.some.inj this
end
/-! ### an own error's class -/
theorem oexB_ok {K : PySem.W.Frag} {C : Addr} (h : oexB K C = true) : ∃ nm q N bs bm sn sub ab col dd k0 k1 k2 k3 k5, K.lookup C = some (excClassObj nm q C N bs bm true sn sub ab col dd k0 k1 k2 k3 k5 "ValueError.__new__") ∧ PySem.HandSPX.refsVE bm = true := by
  unfold oexB at h
  split at h
  · rename_i t dd c sl look
    split at h
    · rename_i D bm k0 k1 k2 k3 m k5 hm hl
      obtain ⟨j, i⟩ := Bool.and_eq_true_iff.mp h
      obtain ⟨j1, j⟩ := Bool.and_eq_true_iff.mp j
      obtain ⟨j2, j3⟩ := Bool.and_eq_true_iff.mp j
      obtain ⟨i1, i⟩ := Bool.and_eq_true_iff.mp i
      obtain ⟨i2, i3⟩ := Bool.and_eq_true_iff.mp i
      have e1 := of_decide_eq_true j1
      have e2 := of_decide_eq_true j2
      have e3 := of_decide_eq_true j3
      obtain ⟨y1, y2, y3, y4, y5, y6, y7, y8, y9, y10, y11⟩ := c
      dsimp only at hm i2 i3
      have z3 : y11 = false := by cases y11 <;> simp_all
      have es : sl = #[k0, k1, k2, k3, some (.builtin m), k5] := Array.toList_inj.mp (by rw [hl])
      subst e1 e2 e3 hm es i2 z3
      exact ⟨y1, y5, y4, y2, bm, y7, y8, y9, y10, dd, k0, k1, k2, k3, k5, look, i1⟩
    · cases h
  · cases h
theorem oexA_ok {x : Str} {K : PySem.W.Frag} (h : oexA x K = true) : OexC K (He.ga K x) := by
  obtain ⟨h1, h⟩ := Bool.and_eq_true_iff.mp h
  obtain ⟨h2, h⟩ := Bool.and_eq_true_iff.mp h
  obtain ⟨h3, h⟩ := Bool.and_eq_true_iff.mp h
  obtain ⟨h4, h5⟩ := Bool.and_eq_true_iff.mp h
  exact { cls := oexB_ok h1, sa := of_decide_eq_true h2, exC := of_decide_eq_true h3, tyC := of_decide_eq_true h4, kC := h5 }
structure ExcA (K : PySem.W.Frag) (C : Addr) (fld : Str) : Prop where
  xf : XfC K C
  xc : ExcC K C
  no : PySem.W.findIn K (.ref C) fld = some none
  ex : PySem.W.exmOne K (.ref C) (.ref C) = some true
  kt : PySem.W.kitOne K (.ref C) (.type "ValueError") = some true
theorem excA_ok {x fld : Str} {K : PySem.W.Frag} (h : excA x fld K = true) : ExcA K (He.ga K x) fld := by
  obtain ⟨h1, h⟩ := Bool.and_eq_true_iff.mp h
  obtain ⟨h2, h⟩ := Bool.and_eq_true_iff.mp h
  obtain ⟨h3, h⟩ := Bool.and_eq_true_iff.mp h
  obtain ⟨h4, h⟩ := Bool.and_eq_true_iff.mp h
  obtain ⟨h5, h⟩ := Bool.and_eq_true_iff.mp h
  obtain ⟨h6, h⟩ := Bool.and_eq_true_iff.mp h
  obtain ⟨h7, h8⟩ := Bool.and_eq_true_iff.mp h
  have X := xfB_ok h1
  exact ⟨X, ⟨X.ga, X.gg, X.exC, X.hdC, of_decide_eq_true h2, of_decide_eq_true h3, of_decide_eq_true h4, of_decide_eq_true h5⟩, of_decide_eq_true h6, of_decide_eq_true h7, of_decide_eq_true h8⟩
/-! ### its __init__ -/
theorem fileB_ok {K : PySem.W.Frag} {cd : Value} {file : Str} (h : fileB K cd file = true) : ∃ a, cd = .ref a ∧ ∃ ccl cdd vs ccs z tf, K.lookup a = some ⟨ccl, cdd, .fields vs, ccs⟩ ∧ vs[2]? = some (.str z tf) ∧ (file == z) = true := by
  unfold fileB at h
  split at h
  · rename_i a
    split at h
    · rename_i c1 c2 vs c3 lk
      split at h
      · rename_i z tf hv
        exact ⟨a, rfl, c1, c2, vs, c3, z, tf, lk, hv, h⟩
      · cases h
    · cases h
  · cases h
theorem cloB_ok {K : PySem.W.Frag} {clo : List (Str × Addr)} {C : Addr} (h : cloB K clo C = true) : ∃ c, clo = [(("__class__" : Str), c)] ∧ ∃ cl cld csl, K.lookup c = some ⟨cl, cld, .cell (some (.ref C)), csl⟩ := by
  unfold cloB at h
  split at h
  · rename_i n c
    obtain ⟨h1, h2⟩ := Bool.and_eq_true_iff.mp h
    split at h2
    · rename_i c1 c2 D c3 lk
      have e1 := of_decide_eq_true h1
      have e2 := of_decide_eq_true h2
      subst e1 e2
      exact ⟨c, rfl, _, _, _, lk⟩
    · cases h2
  · cases h
theorem supA_ok {P : Program} {x fld : Str} {K : PySem.W.Frag} {d : DefY} (hf : d.ad K = cA x "__init__" K) (hn : d.name = "__init__") (e : fnC K (d.ad K) = d.val) (h : supA x d.qual fld P.main.file K = true) :
    ∃ fd, SupF P K (gA x K) (cA x "__init__" K) fld d.qual d.params d.body d.scope fd ∧ (∃ kV doc pm an cdv ct cc, fd = PySem.W.ksFn "__init__" d.qual d.params d.body d.scope .none kV doc pm an cdv ct cc) ∧
      PySem.W.findIn K (.ref (gA x K)) "__init__" = some (some (.ref (cA x "__init__" K))) ∧ PySem.W.typeIn K (.ref (cA x "__init__" K)) = some (.type "function") := by
  obtain ⟨h0, h⟩ := Bool.and_eq_true_iff.mp h
  obtain ⟨h1, h⟩ := Bool.and_eq_true_iff.mp h
  obtain ⟨h2, h⟩ := Bool.and_eq_true_iff.mp h
  obtain ⟨h3, h⟩ := Bool.and_eq_true_iff.mp h
  obtain ⟨h4, h⟩ := Bool.and_eq_true_iff.mp h
  obtain ⟨h5, h⟩ := Bool.and_eq_true_iff.mp h
  obtain ⟨h6, h⟩ := Bool.and_eq_true_iff.mp h
  obtain ⟨h7, h8⟩ := Bool.and_eq_true_iff.mp h
  rw [hf] at e
  split at h0
  · rename_i oc od g osl lk
    obtain ⟨j1, j⟩ := Bool.and_eq_true_iff.mp h0
    obtain ⟨j2, j⟩ := Bool.and_eq_true_iff.mp j
    obtain ⟨j3, j4⟩ := Bool.and_eq_true_iff.mp j
    obtain ⟨a, ha, jf⟩ := fileB_ok j2
    obtain ⟨c, hc, jc⟩ := cloB_ok j3
    have j4 := of_decide_eq_true j4
    unfold fnC at e
    rw [lk] at e
    obtain ⟨g1, g2, g3, g4, g5, g6, g7, g8, g9, g10, g11, g12, g13, g14, g15⟩ := g
    obtain ⟨i1, i2, i3, i4, i5, i6, i7⟩ : g1 = d.name ∧ g2 = d.qual ∧ g3 = d.params ∧ g4 = .stmts d.body ∧ g5 = d.scope ∧ g6 = mainGlobals ∧ g15 = builtinsNs := by
      have e' : (some (g1, g2, g3, g4, g5, g6, [], g15) : He.FnW) = some (d.name, d.qual, d.params, .stmts d.body, d.scope, mainGlobals, [], builtinsNs) := e
      simpa only [Option.some.injEq, Prod.mk.injEq, true_and] using e'
    have hc : g7 = [(("__class__" : Str), c)] := hc
    have ha : g13 = .ref a := ha
    have j4 : g8 = .none := j4
    rw [hn] at i1
    subst i1 i2 i3 i4 i5 i6 i7 hc ha j4
    exact ⟨_, ⟨⟨oc, od, osl, .none, g9, g10, g11, g12, a, g14, c, rfl, lk, j1, jf, jc⟩, of_decide_eq_true h1, of_decide_eq_true h2, of_decide_eq_true h3, of_decide_eq_true h4, of_decide_eq_true h5, of_decide_eq_true h6⟩, ⟨_, _, _, _, _, _, _, rfl⟩, of_decide_eq_true h7, of_decide_eq_true h8⟩
  · cases h0
end Ys
namespace Ys
open PySem PySem.Spec PyProof.Rows L2
/-! ### the Hook, with tables -/
theorem obCT_eq {n : Nat} {fb : List (PySem.W.Frag → Bool)} {fn fc : List DefY} {ts : List He.Tab} (s : PySem.W.SharedT) : obCT n fb fn fc ts s = (hookCT n fb fn fc ts).obs s.abs := by
  have e : HandSHeadRun.getT s = s.abs.heap.get? := funext (HandSHeadRun.getT_eq s)
  unfold obCT
  rw [e]
  rfl
section
variable {fb : List (PySem.W.Frag → Bool)} {fn fc : List DefY} {ts : List He.Tab} {w : World} {K : PySem.W.Frag}
theorem SaysCT.c (c : SaysCT fb fn fc ts w K) : SaysC fb fn fc K := congrArg (fun z : AlCT => z.1) c
theorem SaysCT.tab (c : SaysCT fb fn fc ts w K) (i : Nat) {t : He.Tab} (h : ts[i]? = some t := by rfl) : He.dicW K (t.1 K) = some (He.keysIn w.params t.2) := by
  have e : ts.map (fun t => He.dicW K (t.1 K)) = ts.map fun t => some (He.keysIn w.params t.2) := congrArg (fun z : AlCT => z.2) c
  have e2 : (ts.map fun t => He.dicW K (t.1 K))[i]? = (ts.map fun t => some (He.keysIn w.params t.2))[i]? := by rw [e]
  rw [List.getElem?_map, List.getElem?_map, h] at e2
  exact Option.some.inj e2
end
theorem lookup_mem {z : Str} {v : V} : ∀ {kvs : List (Str × V)}, kvs.lookup z = some v → (z, v) ∈ kvs
  | (k, x) :: r, h => by
    rw [List.lookup_cons] at h
    split at h
    · rename_i e
      have e := eq_of_beq e
      subst e
      rw [Option.some.inj h]
      exact List.mem_cons_self ..
    · exact List.mem_cons_of_mem _ (lookup_mem h)
theorem lookup_no {z : Str} : ∀ {kvs : List (Str × V)}, kvs.lookup z = none → z ∉ kvs.map (·.1)
  | [], _ => by simp
  | (k, x) :: r, h => by
    rw [List.lookup_cons] at h
    split at h
    · cases h
    · rename_i e
      have := lookup_no h
      simp only [List.map_cons, List.mem_cons, not_or]
      refine ⟨fun e2 => ?_, this⟩
      rw [e2, beq_self_eq_true] at e
      cases e
theorem keysLit_mem {P : Params} : ∀ {l : List DictEntry} {ks : List Str}, l.map He.keyOf = He.keysIn P ks → ∀ e ∈ l, ∃ x t, e.key = .str x t ∧ x ∈ ks
  | [], _, _, _, h => by cases h
  | e :: r, [], h, _, _ => by cases h
  | e :: r, k :: ks, h, e', he => by
    have h1 : He.keyOf e :: r.map He.keyOf = some (k, PyData.keyHash P k) :: He.keysIn P ks := h
    injection h1 with h2 h3
    rcases List.mem_cons.mp he with rfl | he
    · unfold He.keyOf at h2
      split at h2
      · rename_i x t q
        have h4 := Option.some.inj h2
        obtain ⟨h5, h6⟩ := Prod.mk.inj h4
        exact ⟨x, t, q, by rw [h5]; exact List.mem_cons_self ..⟩
      · cases h2
    · obtain ⟨x, t, q, m⟩ := keysLit_mem h3 e' he
      exact ⟨x, t, q, List.mem_cons_of_mem _ m⟩
theorem dicW_at {K : PySem.W.Frag} {w : World} {a : Addr} {ks : List Str} (h : He.dicW K a = some (He.keysIn w.params ks)) : ∃ es n, KDict K w a es n ∧ es.toList.map He.keyOf = He.keysIn w.params ks := by
  obtain ⟨es, n, D⟩ := He.dicW_ok h
  refine ⟨es, n, D, ?_⟩
  unfold He.dicW at h
  rw [D.at_] at h
  dsimp only at h
  split at h
  · exact Option.some.inj h
  · cases h
theorem tabD_of {K : PySem.W.Frag} {w : World} {a : PySem.W.Frag → Addr} {kvs : List (Str × V)} (h : He.dicW K (a K) = some (He.keysIn w.params (kvs.map (·.1)))) (hv : valsV kvs a K = true) : TabD K w (a K) kvs := by
  obtain ⟨es, n, D, hk⟩ := dicW_at h
  refine ⟨⟨es, n, D⟩, fun z v l => ?_, fun z l => ?_⟩
  · have h2 := List.all_eq_true.mp hv _ (lookup_mem l)
    cases e : PySem.W.nsIn K (a K) z with
    | none =>
      simp only [e] at h2
      cases h2
    | some r =>
      simp only [e] at h2
      cases r with
      | none => cases h2
      | some u => exact ⟨u, rfl, He.relB_ok h2⟩
  · have hn := lookup_no l
    unfold PySem.W.nsIn
    rw [D.at_]
    have f0 : es.toList.find? (·.key.isStr z) = none := by
      refine List.find?_eq_none.mpr fun e he c => ?_
      obtain ⟨x, t, q, m⟩ := keysLit_mem hk e he
      rw [q] at c
      have e2 : x = z := eq_of_beq (show (x == z) = true from c)
      exact hn (e2 ▸ m)
    have f1 : es.toList.any (·.refKey) = false := by
      refine Bool.eq_false_iff.mpr fun c => ?_
      obtain ⟨e, he, c⟩ := List.any_eq_true.mp c
      obtain ⟨x, t, q, m⟩ := keysLit_mem hk e he
      unfold DictEntry.refKey at c
      rw [q] at c
      cases c
    simp only [f0, f1]
    rfl
end Ys
namespace LW
open PySem PySem.Spec PyProof.Rows L2 Ys
/-! ### names -/
structure Nm (K : PySem.W.Frag) (mg : Str → Option Value) : Prop where
  sys : SysIn K
  b_len : mg "len" = none
  b_int : mg "int" = none
  b_list : mg "list" = none
  b_tuple : mg "tuple" = none
  b_set : mg "set" = none
  b_dict : mg "dict" = none
  b_str : mg "str" = none
  b_bool : mg "bool" = none
  b_sorted : mg "sorted" = none
  b_min : mg "min" = none
  b_max : mg "max" = none
  b_sum : mg "sum" = none
  b_all : mg "all" = none
  b_any : mg "any" = none
  b_repr : mg "repr" = none
  b_range : mg "range" = none
  b_isinstance : mg "isinstance" = none
  g_LETTERS : GC mg "LETTERS" (.str "abcdefghijklmnopqrstuvwxyz")
  g_LONGEST_WORD : GC mg "LONGEST_WORD" (.int 8)
  g_LEAST : GC mg "LEAST" (.ref (gA "LEAST" K))
  g_MOST : GC mg "MOST" (.ref (gA "MOST" K))
abbrev FnP (K : PySem.W.Frag) (x : Str) (st : Stmt) (f : Addr) (fd : FuncData) : Prop := FunD K x x (defArgs st) (defBody st) (defScope st) [] [] f fd
/-! ### the defs -/
abbrev N_is_word : List Str := ["value", "letter"]
theorem sc_is_word : FnScope N_is_word ["value"] (defScope s_is_word) := ⟨rfl, rfl, rfl, by decide +kernel, rfl, by decide +kernel, by decide +kernel⟩
abbrev N_is_formed : List Str := ["value", "most"]
theorem sc_is_formed : FnScope N_is_formed ["value"] (defScope s_is_formed) := ⟨rfl, rfl, rfl, by decide +kernel, rfl, by decide +kernel, by decide +kernel⟩
abbrev N_wrong_part : List Str := ["value", "is_beside", "part", "found"]
theorem sc_wrong_part : FnScope N_wrong_part ["value", "is_beside"] (defScope s_wrong_part) := ⟨rfl, rfl, rfl, by decide +kernel, rfl, by decide +kernel, by decide +kernel⟩
abbrev N_is_plan : List Str := ["value"]
theorem sc_is_plan : FnScope N_is_plan ["value"] (defScope s_is_plan) := ⟨rfl, rfl, rfl, by decide +kernel, rfl, by decide +kernel, by decide +kernel⟩
abbrev N_plan_text : List Str := ["plan", "part"]
theorem sc_plan_text : FnScope N_plan_text ["plan"] (defScope s_plan_text) := ⟨rfl, rfl, rfl, by decide +kernel, rfl, by decide +kernel, by decide +kernel⟩
abbrev N_PlanReader_init : List Str := ["self", "text"]
theorem sc_PlanReader_init : FnScope N_PlanReader_init ["self", "text"] (defScope s_PlanReader_init) := ⟨rfl, rfl, rfl, by decide +kernel, rfl, by decide +kernel, by decide +kernel⟩
abbrev N_PlanReader_sign : List Str := ["self"]
theorem sc_PlanReader_sign : FnScope N_PlanReader_sign ["self"] (defScope s_PlanReader_sign) := ⟨rfl, rfl, rfl, by decide +kernel, rfl, by decide +kernel, by decide +kernel⟩
abbrev N_PlanReader_mark : List Str := ["self", "sign"]
theorem sc_PlanReader_mark : FnScope N_PlanReader_mark ["self", "sign"] (defScope s_PlanReader_mark) := ⟨rfl, rfl, rfl, by decide +kernel, rfl, by decide +kernel, by decide +kernel⟩
abbrev N_PlanReader_word : List Str := ["self", "begin"]
theorem sc_PlanReader_word : FnScope N_PlanReader_word ["self"] (defScope s_PlanReader_word) := ⟨rfl, rfl, rfl, by decide +kernel, rfl, by decide +kernel, by decide +kernel⟩
abbrev N_PlanReader_begin : List Str := ["self", "word", "is_inner", "parts"]
theorem sc_PlanReader_begin : FnScope N_PlanReader_begin ["self"] (defScope s_PlanReader_begin) := ⟨rfl, rfl, rfl, by decide +kernel, rfl, by decide +kernel, by decide +kernel⟩
abbrev N_PlanReader_close : List Str := ["self"]
theorem sc_PlanReader_close : FnScope N_PlanReader_close ["self"] (defScope s_PlanReader_close) := ⟨rfl, rfl, rfl, by decide +kernel, rfl, by decide +kernel, by decide +kernel⟩
abbrev N_PlanReader_go_on : List Str := ["self", "found", "parts", "many"]
theorem sc_PlanReader_go_on : FnScope N_PlanReader_go_on ["self", "found"] (defScope s_PlanReader_go_on) := ⟨rfl, rfl, rfl, by decide +kernel, rfl, by decide +kernel, by decide +kernel⟩
abbrev N_PlanReader_whole : List Str := ["self", "found"]
theorem sc_PlanReader_whole : FnScope N_PlanReader_whole ["self"] (defScope s_PlanReader_whole) := ⟨rfl, rfl, rfl, by decide +kernel, rfl, by decide +kernel, by decide +kernel⟩
abbrev N_read_plan : List Str := ["text"]
theorem sc_read_plan : FnScope N_read_plan ["text"] (defScope s_read_plan) := ⟨rfl, rfl, rfl, by decide +kernel, rfl, by decide +kernel, by decide +kernel⟩
abbrev N_law_pen : List Str := ["_law_script"]
theorem sc_law_pen : FnScope N_law_pen ["_law_script"] (defScope s_law_pen) := ⟨rfl, rfl, rfl, by decide +kernel, rfl, by decide +kernel, by decide +kernel⟩
abbrev N_law_draw : List Str := ["_law_pen_here", "_law_number", "_law_at", "_law_cell", "_law_mixed", "_law_digit"]
theorem sc_law_draw : FnScope N_law_draw ["_law_pen_here", "_law_number"] (defScope s_law_draw) := ⟨rfl, rfl, rfl, by decide +kernel, rfl, by decide +kernel, by decide +kernel⟩
abbrev N_law_pick : List Str := ["_law_pen_here", "_law_items"]
theorem sc_law_pick : FnScope N_law_pick ["_law_pen_here", "_law_items"] (defScope s_law_pick) := ⟨rfl, rfl, rfl, by decide +kernel, rfl, by decide +kernel, by decide +kernel⟩
abbrev N_law_words : List Str := ["_law_pen_here", "_law_number", "_law_letters", "_law_stem", "_law_step", "_law_at", "_law_front", "_law_k"]
theorem sc_law_words : FnScope N_law_words ["_law_pen_here", "_law_number"] (defScope s_law_words) := ⟨rfl, rfl, rfl, by decide +kernel, rfl, by decide +kernel, by decide +kernel⟩
abbrev N_law_plan : List Str := ["_law_pen_here", "_law_names", "_law_room", "_law_deep", "_law_is_inner", "_law_way", "_law_number", "_law_one", "_law_word", "_law_least", "_law_k"]
theorem sc_law_plan : FnScope N_law_plan ["_law_pen_here", "_law_names", "_law_room", "_law_deep", "_law_is_inner"] (defScope s_law_plan) := ⟨rfl, rfl, rfl, by decide +kernel, rfl, by decide +kernel, by decide +kernel⟩
abbrev N_law_text : List Str := ["_law_plan_here", "_law_part"]
theorem sc_law_text : FnScope N_law_text ["_law_plan_here"] (defScope s_law_text) := ⟨rfl, rfl, rfl, by decide +kernel, rfl, by decide +kernel, by decide +kernel⟩
abbrev N_law_read : List Str := ["_law_line", "e"]
theorem sc_law_read : FnScope N_law_read ["_law_line"] (defScope s_law_read) := ⟨rfl, rfl, rfl, by decide +kernel, rfl, by decide +kernel, by decide +kernel⟩
abbrev N_law_bent : List Str := ["_law_pen_here", "_law_line", "_law_sign", "_law_part", "_law_way", "_law_at"]
theorem sc_law_bent : FnScope N_law_bent ["_law_pen_here", "_law_line"] (defScope s_law_bent) := ⟨rfl, rfl, rfl, by decide +kernel, rfl, by decide +kernel, by decide +kernel⟩
abbrev N_law : List Str := ["_law_script", "_law_pen_here", "_law_again", "_law_plan_here", "_law_line", "_law_once", "_law_bent_here", "_law_told"]
theorem sc_law : FnScope N_law ["_law_script"] (defScope s_law) := ⟨rfl, rfl, rfl, by decide +kernel, rfl, by decide +kernel, by decide +kernel⟩
/-! ### the pen -/
def penO (L : Addr) (spot rest : Int) : HO := .dK [(.inr ("cells" : Str), .ref L), (.inr ("place" : Str), .int spot), (.inr ("rest" : Str), .int rest)]
def Pen (K : PySem.W.Frag) (G : Hp) (b : Nat) (o : HO) : Prop := ∃ (L : Addr) (spot rest : Int) (cells : List Int), o = penO L spot rest ∧ SqL K G L (cells.map V.int) ∧ cells.length ≤ 63 ∧ 0 ≤ spot ∧ spot ≤ b ∧ 0 ≤ rest
theorem Pen.up {K : PySem.W.Frag} {G G1 : Hp} {b : Nat} {o : HO} (s : Same G G1) (p : Pen K G b o) : Pen K G1 b o := by
  obtain ⟨L, sp, r, cs, e, h, x⟩ := p
  exact ⟨L, sp, r, cs, e, upL s h, x⟩
theorem Pen.mono {K : PySem.W.Frag} {G : Hp} {b c : Nat} {o : HO} (h : b ≤ c) (p : Pen K G b o) : Pen K G c o := by
  obtain ⟨L, sp, r, cs, e, h1, h2, h3, h4, h5⟩ := p
  exact ⟨L, sp, r, cs, e, h1, h2, h3, by omega, h5⟩
theorem k_cr : ¬ (Sum.inr ("cells" : Str) : Key) = Sum.inr ("rest" : Str) := by decide +kernel
theorem k_sr : ¬ (Sum.inr ("place" : Str) : Key) = Sum.inr ("rest" : Str) := by decide +kernel
theorem k_cs : ¬ (Sum.inr ("cells" : Str) : Key) = Sum.inr ("place" : Str) := by decide +kernel
theorem k_sc : ¬ (Sum.inr ("place" : Str) : Key) = Sum.inr ("cells" : Str) := by decide +kernel
theorem k_rs : ¬ (Sum.inr ("rest" : Str) : Key) = Sum.inr ("place" : Str) := by decide +kernel
theorem k_rc : ¬ (Sum.inr ("rest" : Str) : Key) = Sum.inr ("cells" : Str) := by decide +kernel
section
variable {L : Addr} {spot rest x : Int} {H : Hp} {P : Addr} {Q : VK} {G : Hp} {M : List (Addr × HO)} {R : Hp → Prop}
abbrev pk (L : Addr) (spot rest : Int) : List (Key × V) := [(.inr ("cells" : Str), .ref L), (.inr ("place" : Str), .int spot), (.inr ("rest" : Str), .int rest)]
theorem v_cells : valV (pk L spot rest) (.inr ("cells" : Str)) = some (.ref L) := valV_pos rfl
theorem v_spot : valV (pk L spot rest) (.inr ("place" : Str)) = some (.int spot) := by rw [valV_neg k_cs]; exact valV_pos rfl
theorem v_rest : valV (pk L spot rest) (.inr ("rest" : Str)) = some (.int rest) := by rw [valV_neg k_cr, valV_neg k_sr]; exact valV_pos rfl
theorem p_spot : putK (pk L spot rest) (.inr ("place" : Str)) (.int x) = pk L x rest := by
  have e1 : ¬ Str.ofString "cells" = Str.ofString "place" := by decide +kernel
  have e2 : ¬ Str.ofString "rest" = Str.ofString "place" := by decide +kernel
  simp [putK, e1, e2]
theorem p_rest : putK (pk L spot rest) (.inr ("rest" : Str)) (.int x) = pk L spot x := by
  have e1 : ¬ Str.ofString "cells" = Str.ofString "rest" := by decide +kernel
  have e2 : ¬ Str.ofString "place" = Str.ofString "rest" := by decide +kernel
  simp [putK, e1, e2]
def DgW (x y : V) (H : Hp) (Q : VK) : Prop := ∃ a v, x = V.ref a ∧ DGet H a y (some v) ∧ Q v H
def DpW (x y v : V) (H : Hp) (R : Hp → Prop) : Prop := ∃ a H4, x = V.ref a ∧ DPut H a y v H4 ∧ R H4
theorem z_dg {ta tb : TE} {σ : L2.St} (h : ta σ H fun x H1 => tb σ H1 fun y H2 => DgW x y H2 Q) : tDGet ta tb σ H Q := h
theorem g_cells (z : Zp G ((P, penO L spot rest) :: M) H) (q : Q (.ref L) H) : DgW (.ref P) (.str ("cells" : Str)) H Q :=
  ⟨P, _, rfl, by have := DGet.k (k := .inr ("cells" : Str)) (z.at_ 0 rfl); rw [v_cells] at this; exact this, q⟩
theorem g_spot (z : Zp G ((P, penO L spot rest) :: M) H) (q : Q (.int spot) H) : DgW (.ref P) (.str ("place" : Str)) H Q :=
  ⟨P, _, rfl, by have := DGet.k (k := .inr ("place" : Str)) (z.at_ 0 rfl); rw [v_spot] at this; exact this, q⟩
theorem g_rest (z : Zp G ((P, penO L spot rest) :: M) H) (q : Q (.int rest) H) : DgW (.ref P) (.str ("rest" : Str)) H Q :=
  ⟨P, _, rfl, by have := DGet.k (k := .inr ("rest" : Str)) (z.at_ 0 rfl); rw [v_rest] at this; exact this, q⟩
theorem s_spot (z : Zp G ((P, penO L spot rest) :: M) H) (q : ∀ H1, Zp G ((P, penO L x rest) :: M) H1 → R H1) : DpW (.ref P) (.str ("place" : Str)) (.int x) H R :=
  ⟨P, _, rfl, DPut.k (k := .inr ("place" : Str)) (z.at_ 0 rfl) (by show 3 < sizeLine; decide), by rw [p_spot]; exact q _ (z.put 0 rfl _)⟩
theorem s_rest (z : Zp G ((P, penO L spot rest) :: M) H) (q : ∀ H1, Zp G ((P, penO L spot x) :: M) H1 → R H1) : DpW (.ref P) (.str ("rest" : Str)) (.int x) H R :=
  ⟨P, _, rfl, DPut.k (k := .inr ("rest" : Str)) (z.at_ 0 rfl) (by show 3 < sizeLine; decide), by rw [p_rest]; exact q _ (z.put 0 rfl _)⟩
theorem m_penput {D : Ends} {td ty tv : TE} {σ : L2.St} (h : tv σ H fun v H1 => td σ H1 fun x H2 => ty σ H2 fun y H3 => DpW x y v H3 (D.nx σ)) : sDPut td ty tv D σ H := h
end
end LW
open PySem PySem.Spec PyProof.Rows L2 Ys LW
local macro_rules | `(tactic| walk_at "z") => `(tactic| first
  | with_reducible refine z_seq ?_
  | with_reducible refine z_asg ?_
  | with_reducible refine z_name ?_
  | ((with_reducible apply z_var); (focus rfl))
  | with_reducible refine z_c ?_
  | with_reducible refine z_op ?_
  | with_reducible refine z_cons ?_
  | with_reducible refine z_nil ?_
  | with_reducible refine z_cb ?_
  | with_reducible refine z_call ?_
  | with_reducible refine z_ifS ?_
  | with_reducible refine z_ret ?_
  | with_reducible refine z_test ?_
  | with_reducible refine z_isB ?_
  | with_reducible refine z_tup ?_
  | with_reducible refine z_lst ?_
  | with_reducible refine z_I0 ?_
  | with_reducible refine z_addI ?_
  | with_reducible refine z_int ?_
  | with_reducible refine z_bT ?_
  | with_reducible refine z_bF ?_
  | with_reducible refine z_bN ?_
  | with_reducible refine z_and ?_
  | with_reducible refine z_or ?_
  | with_reducible refine z_not ?_
  | with_reducible refine z_if ?_
  | with_reducible refine z_andV ?_
  | with_reducible refine z_orV ?_
  | with_reducible refine z_notV ?_
  | with_reducible refine z_sl ?_
  | with_reducible refine z_np ?_
  | with_reducible refine z_part ?_
  | with_reducible refine z_isP ?_
  | with_reducible refine z_drop ?_
  | with_reducible refine z_next ?_
  | with_reducible refine z_retN ?_
  | with_reducible refine z_tB ?_
  | with_reducible refine z_bm ?_
  | with_reducible refine z_bm0 ?_
  | with_reducible refine z_m1 ?_
  | with_reducible refine z_isS ?_
  | with_reducible refine z_for ?_
  | with_reducible refine z_lc ?_
  | with_reducible refine z_yes ?_
  | with_reducible refine z_iL ?_
  | with_reducible refine z_iT ?_
  | with_reducible refine z_iS ?_
  | with_reducible refine z_iR ?_
  | with_reducible refine z_gcons ?_
  | with_reducible refine z_gnil ?_
  | with_reducible refine z_pr ?_
  | with_reducible refine z_pr2 ?_
  | with_reducible refine z_un ?_
  | with_reducible refine z_prop ?_
  | with_reducible refine z_mt ?_
  | with_reducible refine z_mk ?_
  | with_reducible refine z_fl ?_
  | with_reducible refine z_fs ?_
  | with_reducible refine z_chain ?_
  | with_reducible refine z_rs ?_
  | with_reducible refine z_mkS ?_
  | with_reducible refine z_gsub ?_
  | with_reducible refine z_iR2 ?_
  | with_reducible refine z_pc ?_
  | with_reducible refine z_pn ?_
  | with_reducible refine z_dg ?_
  | with_reducible refine z_star ?_
  | with_reducible refine z_callS ?_
  | with_reducible refine z_ownK ?_
  | with_reducible refine z_mtS ?_
  | with_reducible refine z_fa ?_
  | with_reducible refine m_penput ?_
  | with_reducible refine g_rest (by assumption) ?_
  | with_reducible refine g_spot (by assumption) ?_
  | with_reducible refine g_cells (by assumption) ?_
  | with_reducible refine s_spot (by assumption) ?_
  | with_reducible refine s_rest (by assumption) ?_)
local macro_rules | `(tactic| walk_at "y") => `(tactic| first
  | with_reducible refine z_asg ?_
  | with_reducible refine z_name ?_
  | ((with_reducible apply z_var); (focus rfl))
  | with_reducible refine z_c ?_
  | with_reducible refine z_op ?_
  | with_reducible refine z_cons ?_
  | with_reducible refine z_nil ?_
  | with_reducible refine z_cb ?_
  | with_reducible refine z_call ?_
  | with_reducible refine z_ifS ?_
  | with_reducible refine z_ret ?_
  | with_reducible refine z_test ?_
  | with_reducible refine z_isB ?_
  | with_reducible refine z_tup ?_
  | with_reducible refine z_lst ?_
  | with_reducible refine z_I0 ?_
  | with_reducible refine z_addI ?_
  | with_reducible refine z_int ?_
  | with_reducible refine z_bT ?_
  | with_reducible refine z_bF ?_
  | with_reducible refine z_bN ?_
  | with_reducible refine z_and ?_
  | with_reducible refine z_or ?_
  | with_reducible refine z_not ?_
  | with_reducible refine z_if ?_
  | with_reducible refine z_andV ?_
  | with_reducible refine z_orV ?_
  | with_reducible refine z_notV ?_
  | with_reducible refine z_sl ?_
  | with_reducible refine z_np ?_
  | with_reducible refine z_part ?_
  | with_reducible refine z_isP ?_
  | with_reducible refine z_drop ?_
  | with_reducible refine z_next ?_
  | with_reducible refine z_retN ?_
  | with_reducible refine z_tB ?_
  | with_reducible refine z_bm ?_
  | with_reducible refine z_bm0 ?_
  | with_reducible refine z_m1 ?_
  | with_reducible refine z_isS ?_
  | with_reducible refine z_for ?_
  | with_reducible refine z_lc ?_
  | with_reducible refine z_yes ?_
  | with_reducible refine z_iL ?_
  | with_reducible refine z_iT ?_
  | with_reducible refine z_iS ?_
  | with_reducible refine z_iR ?_
  | with_reducible refine z_gcons ?_
  | with_reducible refine z_gnil ?_
  | with_reducible refine z_pr ?_
  | with_reducible refine z_pr2 ?_
  | with_reducible refine z_un ?_
  | with_reducible refine z_prop ?_
  | with_reducible refine z_mt ?_
  | with_reducible refine z_mk ?_
  | with_reducible refine z_fl ?_
  | with_reducible refine z_fs ?_
  | with_reducible refine z_chain ?_
  | with_reducible refine z_rs ?_
  | with_reducible refine z_mkS ?_
  | with_reducible refine z_gsub ?_
  | with_reducible refine z_iR2 ?_
  | with_reducible refine z_pc ?_
  | with_reducible refine z_pn ?_
  | with_reducible refine z_dg ?_
  | with_reducible refine z_star ?_
  | with_reducible refine z_callS ?_
  | with_reducible refine z_ownK ?_
  | with_reducible refine z_mtS ?_
  | with_reducible refine z_fa ?_
  | with_reducible refine m_penput ?_
  | with_reducible refine g_rest (by assumption) ?_
  | with_reducible refine g_spot (by assumption) ?_
  | with_reducible refine g_cells (by assumption) ?_
  | with_reducible refine s_spot (by assumption) ?_
  | with_reducible refine s_rest (by assumption) ?_)
namespace LW
open PySem PySem.Spec PyProof.Rows L2 Ys
theorem can_ints : ∀ cells : List Int, PyData.canLayAll0 (cells.map PyData.int) = true
  | [] => rfl
  | c :: cs => by
    show (PyData.canLay0 (.int c) && PyData.canLayAll0 (cs.map PyData.int)) = true
    rw [can_ints cs]
    rfl
theorem dep_ints : ∀ cells : List Int, PyData.depthAll (cells.map PyData.int) ≤ 1
  | [] => by decide
  | c :: cs => by
    show max (PyData.depth (.int c)) (PyData.depthAll (cs.map PyData.int)) ≤ 1
    have := dep_ints cs
    have e : PyData.depth (.int c) = 0 := rfl
    omega
theorem sh_ints (cells : List Int) : SeqAt.shaped (.list (cells.map PyData.int)) = true := by
  unfold SeqAt.shaped
  have e : PyData.canLay0 (.list (cells.map PyData.int)) = true := can_ints cells
  have d : PyData.depth (.list (cells.map PyData.int)) = PyData.depthAll (cells.map PyData.int) + 1 := rfl
  rw [e, d]
  have := dep_ints cells
  simp
  omega
theorem cells_eq (cells : List Int) : PyData.eqv (.list (cells.map PyData.int)) (.list []) = decide (cells = []) := by
  cases cells with
  | nil => rfl
  | cons c cs => rfl
section
variable {P : Program} {w : World} {K : PySem.W.Frag} {mg : Str → Option Value} {base : Heap} {f : Addr} {fd : FuncData}
def spDraw (K : PySem.W.Frag) : Sp := fun vs H Q _ => ∃ p o G M b n, vs = [.ref p, .int n] ∧ Zp G ((p, o) :: M) H ∧ Pen K G b o ∧ b ≤ 1000000000000 ∧ 0 < n ∧ n ≤ 1000000000 ∧
  ∀ r G1 H1 o1, Zp G1 ((p, o1) :: M) H1 → Same G G1 → Pen K G1 (b + 1) o1 → 0 ≤ r → r < n → Q (.int r) H1
theorem ok_draw (T : Nm K mg) (F : FnP K "_law_draw" s_law_draw f fd) : FnOk P w K mg base CX0 1 f fd ["_law_pen_here", "_law_number"] (spDraw K) := by
  have nd : N_law_draw.Nodup := sc_law_draw.nd
  refine F.ok sc_law_draw (fun vs H Q E h => ?_) (fun cdv A outer s H vs Q E hr h => ?_)
  · obtain ⟨p, o, G, M, b, n, rfl, _⟩ := h
    rfl
  have hu := hr.units
  refine ⟨_, PSs.nox   (pss_cons (ps_if (pt_cmpR o_ge (pe_dget (hu_of hr) (pv 0) pe_str (fun _ _ => rfl)) (pv 1) (nomark _)) (pss_cons (ps_asg (pe_op o_mod (pe_callTy c_int (by rfl) T.b_int boot_int (pa_cons (pe_dget (hu_of hr) (pv 0) pe_str (fun _ _ => rfl)) pa_nil)) (pv 1)) (pg_name (i := 5) nd rfl (by first | exact .inl rfl | exact .inr rfl)))
    (pss_cons (ps_dput (hu_of hr) (pv 0) pe_str (pe_op o_div (pe_dget (hu_of hr) (pv 0) pe_str (fun _ _ => rfl)) (pv 1)) rfl)
    (pss_one (ps_ret (pv 5))))) pss_nil)
    (pss_cons (ps_asg (pe_dget (hu_of hr) (pv 0) pe_str (fun _ _ => rfl)) (pg_name (i := 2) nd rfl (by first | exact .inl rfl | exact .inr rfl)))
    (pss_cons (ps_dput (hu_of hr) (pv 0) pe_str (pe_op (k_add (K := K)) (pv 2) pe_int) rfl)
    (pss_cons (ps_asg (pe_op (k_add (K := K)) (pe_op o_mul pe_int (pv 2)) pe_int) (pg_name (i := 3) nd rfl (by first | exact .inl rfl | exact .inr rfl)))
    (pss_cons (ps_if (pt_cmpR (k_ne (K := K) hu) (pe_dget (hu_of hr) (pv 0) pe_str (fun _ _ => rfl)) (pe_lst pa_nil) (nomark _)) (pss_one (ps_asg (pe_ix (k_ix (K := K)) (pe_dget (hu_of hr) (pv 0) pe_str (fun _ _ => rfl)) (pe_op o_mod (pe_callTy c_int (by rfl) T.b_int boot_int (pa_cons (pv 2) pa_nil)) (pe_callB (kc_len (K := K) (P := P) (w := w)) (by rfl) T.b_len PySem.boot_len (pa_cons (pe_dget (hu_of hr) (pv 0) pe_str (fun _ _ => rfl)) pa_nil))) (fun _ _ => rfl)) (pg_name (i := 3) nd rfl (by first | exact .inl rfl | exact .inr rfl)))) pss_nil)
    (pss_cons (ps_if (PW.pt (pw_and (pt_cmpR o_lt (pv 2) (pe_callB (kc_len (K := K) (P := P) (w := w)) (by rfl) T.b_len PySem.boot_len (pa_cons (pe_dget (hu_of hr) (pv 0) pe_str (fun _ _ => rfl)) pa_nil)) (nomark _)) (pw_and1 (pt_cmpR o_ge (pv 3) (pe_op o_pow pe_int pe_int) (nomark _))))) (pss_cons (ps_dput (hu_of hr) (pv 0) pe_str (pe_op o_div (pe_op o_sub (pv 3) (pe_op o_pow pe_int pe_int)) (pv 1)) rfl)
    (pss_one (ps_ret (pe_op o_mod (pe_callTy c_int (by rfl) T.b_int boot_int (pa_cons (pe_op o_sub (pv 3) (pe_op o_pow pe_int pe_int)) pa_nil)) (pv 1))))) pss_nil)
    (pss_cons (ps_asg (pe_op o_mod (pe_callTy c_int (by rfl) T.b_int boot_int (pa_cons (pe_op (k_add (K := K)) (pe_op (k_add (K := K)) (pe_op (k_add (K := K)) (pe_op o_mul (pe_op o_mod (pe_callTy c_int (by rfl) T.b_int boot_int (pa_cons (pv 3) pa_nil)) pe_int) pe_int) (pe_op o_mul (pe_op o_mul pe_int (pv 2)) (pv 2))) (pe_op o_mul pe_int (pv 2))) pe_int) pa_nil)) pe_int) (pg_name (i := 4) nd rfl (by first | exact .inl rfl | exact .inr rfl)))
    (pss_cons (ps_asg (pe_op o_mod (pe_callTy c_int (by rfl) T.b_int boot_int (pa_cons (pe_op (k_add (K := K)) (pe_op o_mul (pv 4) (pe_op (k_add (K := K)) (pv 4) pe_int)) (pe_op o_mul pe_int (pv 2))) pa_nil)) pe_int) (pg_name (i := 4) nd rfl (by first | exact .inl rfl | exact .inr rfl)))
    (pss_one (ps_ret (pe_op o_mod (pe_callTy c_int (by rfl) T.b_int boot_int (pa_cons (pe_op o_div (pe_op o_mod (pe_callTy c_int (by rfl) T.b_int boot_int (pa_cons (pe_op (k_add (K := K)) (pe_op o_mul (pv 4) (pv 4)) (pe_op o_mul pe_int (pv 4))) pa_nil)) pe_int) pe_int) pa_nil)) (pv 1)))))))))))), ?_⟩
  obtain ⟨p, o, G, M, b, n, rfl, z, ⟨L, spot, rest, cells, rfl, hL, hc, h0, hb, hr0⟩, hb2, n0, n1, q⟩ := h
  repeat (walk_at "z")
  refine z_bd (fun hrn => ?_) (fun hrn => ?_)
  · repeat (walk_at "z")
    refine z_I n0 ?_
    repeat (walk_at "z")
    refine z_I (dw n0 n1) ?_
    repeat (walk_at "z")
    intro H1 z1
    repeat (walk_at "z")
    refine q _ G H1 _ z1 (Same.refl G) ⟨L, spot, rest / n, cells, rfl, hL, hc, h0, by omega, Int.ediv_nonneg hr0 (by omega)⟩ (Int.emod_nonneg _ (by omega)) (Int.emod_lt_of_pos _ n0)
  · repeat (walk_at "z")
    intro H1 z1
    repeat (walk_at "z")
    refine z_I (mw (by omega) (by omega) (by omega) (by omega)) ?_
    repeat (walk_at "y")
    with_reducible refine z_cut (fun σ H => ∃ cell G3, Zp G3 ((p, penO L (spot + 1) rest) :: M) H ∧ Same G G3 ∧ σ = [some (.ref p), some (.int n), some (.int spot), some (.int cell), none, none]) (fun nx hnx => ?_) (fun σ H2 h2 => ?_)
    · repeat (walk_at "z")
      refine z_newL z1 (by decide) fun p2 G2 H2 z2 s2 e2 => ?_
      have hL2 := upL s2 hL
      refine z_neD (d := .list (cells.map PyData.int)) (e := .list []) z2 (.lst hL2 (dts_int cells)) (.lst (SqL.of e2) .nil) (sh_ints _) rfl ?_
      repeat (walk_at "z")
      rw [cells_eq]
      refine z_bd (fun c => ?_) (fun c => ?_)
      · refine z_next (hnx _ _ ⟨_, _, z2, s2, rfl⟩)
      · have c0 : 0 < cells.length := by cases cells with | nil => exact absurd rfl c | cons _ _ => exact Nat.succ_pos _
        repeat (walk_at "z")
        refine z_lenL z2 hL2 ?_
        rw [List.length_map]
        refine z_I (by omega) ?_
        have hm := Int.emod_lt_of_pos spot (show (0 : Int) < cells.length by omega)
        have hm0 := Int.emod_nonneg spot (show (cells.length : Int) ≠ 0 by omega)
        obtain ⟨k, hk⟩ := Int.eq_ofNat_of_zero_le hm0
        refine z_ixL z2 hL2 (v := .int (cells.getD k 0)) ?_ ?_
        · rw [hk]
          refine atI_nat ?_
          have : k < cells.length := by omega
          simp [List.getD, this]
        repeat (walk_at "z")
        exact hnx _ _ ⟨_, _, z2, s2, rfl⟩
    obtain ⟨cell, G3, z3, s3, rfl⟩ := h2
    have hL3 := upL s3 hL
    have e18 : (10 : Int) ^ (18 : Int).toNat = 1000000000000000000 := by decide +kernel
    with_reducible refine z_cut (fun σ H => H = H2 ∧ σ = [some (.ref p), some (.int n), some (.int spot), some (.int cell), none, none]) (fun nx hnx => ?_) (fun σ H3 h3 => ?_)
    · repeat (walk_at "z")
      refine z_lenL z3 hL3 ?_
      repeat (walk_at "z")
      refine z_b2 (fun c1 => ?_) (fun c1 => ?_)
      · repeat (walk_at "z")
        refine z_I ⟨by decide, by decide, by decide⟩ ?_
        repeat (walk_at "z")
        rw [e18]
        refine z_bd (fun c2 => ?_) (fun c2 => ?_)
        · repeat (walk_at "z")
          refine z_I ⟨by decide, by decide, by decide⟩ ?_
          repeat (walk_at "z")
          rw [e18]
          refine z_I (dw n0 n1) ?_
          repeat (walk_at "z")
          intro H4 z4
          repeat (walk_at "z")
          refine z_I ⟨by decide, by decide, by decide⟩ ?_
          repeat (walk_at "z")
          refine z_I n0 ?_
          exact q _ G3 H4 _ z4 s3 ⟨L, spot + 1, _, cells, rfl, hL3, hc, by omega, by omega, Int.ediv_nonneg (by omega) (by omega)⟩ (Int.emod_nonneg _ (by omega)) (Int.emod_lt_of_pos _ n0)
        · exact hnx _ _ ⟨rfl, rfl⟩
      · repeat (walk_at "z")
        exact hnx _ _ ⟨rfl, rfl⟩
    obtain ⟨rfl, rfl⟩ := h3
    repeat (walk_at "z")
    refine z_I (by decide) ?_
    repeat (walk_at "z")
    refine z_I (mw (by omega) (by omega) (by omega) (by omega)) ?_
    repeat (walk_at "z")
    have h1 := Int.emod_nonneg cell (show (2147483543 : Int) ≠ 0 by decide)
    have h2 := Int.emod_lt_of_pos cell (show (0 : Int) < 2147483543 by decide)
    refine z_I (mw (by omega) (by omega) (by omega) (by omega)) ?_
    repeat (walk_at "z")
    refine z_I (wide_mul (a := 64) (b := 64) (by omega) (by omega) (by decide) (by decide) (by decide)) ?_
    repeat (walk_at "z")
    refine z_I (mw (by omega) (by omega) (by omega) (by omega)) ?_
    repeat (walk_at "z")
    refine z_I (by decide) ?_
    repeat (walk_at "z")
    generalize hm1 : (cell % 2147483543 * 48817 + 37021 * spot * spot + 71 * spot + 11) % 2147483477 = m1
    have a1 : 0 ≤ m1 := by rw [← hm1]; exact Int.emod_nonneg _ (by decide)
    have a2 : m1 < 2147483477 := by rw [← hm1]; exact Int.emod_lt_of_pos _ (by decide)
    refine z_I (mw (by omega) (by omega) (by omega) (by omega)) ?_
    repeat (walk_at "z")
    refine z_I (mw (by omega) (by omega) (by omega) (by omega)) ?_
    repeat (walk_at "z")
    refine z_I (by decide) ?_
    repeat (walk_at "z")
    generalize hm2 : (m1 * (m1 + 50021) + 9 * spot) % 2147483423 = m2
    have b1 : 0 ≤ m2 := by rw [← hm2]; exact Int.emod_nonneg _ (by decide)
    have b2 : m2 < 2147483423 := by rw [← hm2]; exact Int.emod_lt_of_pos _ (by decide)
    refine z_I (mw (by omega) (by omega) (by omega) (by omega)) ?_
    repeat (walk_at "z")
    refine z_I (mw (by omega) (by omega) (by omega) (by omega)) ?_
    repeat (walk_at "z")
    refine z_I (by decide) ?_
    repeat (walk_at "z")
    refine z_I (dw (by decide) (by decide)) ?_
    repeat (walk_at "z")
    refine z_I n0 ?_
    exact q _ G3 _ _ z3 s3 ⟨L, spot + 1, _, cells, rfl, hL3, hc, by omega, by omega, hr0⟩ (Int.emod_nonneg _ (by omega)) (Int.emod_lt_of_pos _ n0)
end
end LW
namespace LW
open PySem PySem.Spec PyProof.Rows L2 Ys

section
variable {P : Program} {w : World} {K : PySem.W.Frag} {mg : Str → Option Value} {base : Heap} {f : Addr} {fd : FuncData}
def spPen (K : PySem.W.Frag) : Sp := fun vs H Q _ => ∃ (a : Addr) (G : Hp) (ns : List Int), vs = [.ref a] ∧ Zp G [] H ∧ SqL K G a (ns.map V.int) ∧
  ∀ p G1 H1 o1, Zp G1 [(p, o1)] H1 → Same G G1 → Pen K G1 0 o1 → Q (.ref p) H1
theorem ok_pen (T : Nm K mg) (F : FnP K "_law_pen" s_law_pen f fd) : FnOk P w K mg base CX0 1 f fd ["_law_script"] (spPen K) := by
  have nd : N_law_pen.Nodup := sc_law_pen.nd
  refine F.ok sc_law_pen (fun vs H Q E h => ?_) (fun cdv A outer s H vs Q E hr h => ?_)
  · obtain ⟨a, G, ns, rfl, _⟩ := h
    rfl
  have hu := hr.units
  refine ⟨_, PSs.nox   (pss_one (ps_ret (pe_disp (pps_cons pe_str (pe_callTy (kc_list (K := K)) (by rfl) T.b_list boot_list (pa_cons (pe_slice (k_sl (K := K)) (pv 0) po_none (po_some pe_int)) pa_nil)) (pps_cons pe_str pe_int (pps_cons pe_str pe_int pps_nil))) (by rfl) (by rfl) (fun z => by cases z) (by decide)))), ?_⟩
  obtain ⟨a, G, ns, rfl, z, hS, q⟩ := h
  repeat (walk_at "z")
  refine z_disp z fun p H1 z1 => ?_
  repeat (walk_at "z")
  refine z_slL z1 hS fun a2 G2 H2 z2 s2 e2 => ?_
  rw [cut_map] at e2
  repeat (walk_at "z")
  refine z_listG z2 (.inl (SqL.of e2)) fun a3 G3 H3 z3 s3 e3 => ?_
  repeat (walk_at "z")
  refine z_dispE (M := []) z3 [(.inr ("cells" : Str), .ref a3), (.inr ("place" : Str), .int 0), (.inr ("rest" : Str), .int 0)] rfl (by show 3 ≤ 15; decide) fun H4 z4 => ?_
  refine q p G3 H4 _ z4 (s2.trans s3) ⟨a3, 0, 0, _, ?_, SqL.of e3, ?_, by decide, by decide, by decide⟩
  · have e1 : ¬ Str.ofString "cells" = Str.ofString "rest" := by decide +kernel
    have e2 : ¬ Str.ofString "place" = Str.ofString "rest" := by decide +kernel
    have e3 : ¬ Str.ofString "cells" = Str.ofString "place" := by decide +kernel
    simp [mergeK, putK, e1, e2, e3, penO]
  · rw [List.length_take]
    have : HT.sIx ns.length ns.length (some 63) = min 63 ns.length := HT.sIx_nat ns.length ns.length 63
    rw [this]
    omega
def spPick (K : PySem.W.Frag) : Sp := fun vs H Q _ => ∃ p o G M b x, vs = [.ref p, x] ∧ Zp G ((p, o) :: M) H ∧ Pen K G b o ∧ b ≤ 1000000000000 ∧
  ((∃ a xs, x = .ref a ∧ (SqL K G a xs ∨ SqT K G a xs) ∧ xs ≠ [] ∧ xs.length ≤ 4000000 ∧ ∀ v G1 H1 o1, v ∈ xs → Zp G1 ((p, o1) :: M) H1 → Same G G1 → Pen K G1 (b + 1) o1 → Q v H1) ∨
   (∃ s : Str, x = .str s ∧ 0 < s.length ∧ s.length ≤ 4000000 ∧ ∀ ch G1 H1 o1, ch ∈ s.cps.toList → Zp G1 ((p, o1) :: M) H1 → Same G G1 → Pen K G1 (b + 1) o1 → Q (.str ⟨#[ch]⟩) H1))
theorem ok_pick (T : Nm K mg) (C_law_draw : Own P w K mg base CX0 1 "_law_draw" ["_law_pen_here", "_law_number"] (spDraw K)) (F : FnP K "_law_pick" s_law_pick f fd) : FnOk P w K mg base CX0 2 f fd ["_law_pen_here", "_law_items"] (spPick K) := by
  have nd : N_law_pick.Nodup := sc_law_pick.nd
  refine F.ok sc_law_pick (fun vs H Q E h => ?_) (fun cdv A outer s H vs Q E hr h => ?_)
  · obtain ⟨p, o, G, M, b, x, rfl, _⟩ := h
    rfl
  have hu := hr.units
  refine ⟨_, PSs.nox   (pss_one (ps_ret (pe_ix (k_ix (K := K)) (pv 1) (pe_own C_law_draw (hr.mono (by omega)) (by rfl) pass0 (pa_cons (pv 0) (pa_cons (pe_callB (kc_len (K := K) (P := P) (w := w)) (by rfl) T.b_len PySem.boot_len (pa_cons (pv 1) pa_nil)) pa_nil))) (fun _ _ => rfl)))), ?_⟩
  obtain ⟨p, o, G, M, b, x, rfl, z, hp, hb, h⟩ := h
  repeat (walk_at "z")
  rcases h with ⟨a, xs, rfl, hS, h0, h1, q⟩ | ⟨t, rfl, h0, h1, q⟩
  · have h00 : 0 < xs.length := by cases xs with | nil => exact absurd rfl h0 | cons _ _ => exact Nat.succ_pos _
    rcases hS with hS | hS
    · refine z_lenL z hS ?_
      repeat (walk_at "z")
      refine ⟨p, o, G, M, b, _, rfl, z, hp, hb, by omega, by omega, fun r G1 H1 o1 z1 s1 hp1 r0 r1 => ?_⟩
      obtain ⟨v, hv, e⟩ := at_in r0 r1
      exact z_ixL z1 (upL s1 hS) e (q v G1 H1 o1 hv z1 s1 hp1)
    · refine z_lenT z hS ?_
      repeat (walk_at "z")
      refine ⟨p, o, G, M, b, _, rfl, z, hp, hb, by omega, by omega, fun r G1 H1 o1 z1 s1 hp1 r0 r1 => ?_⟩
      obtain ⟨v, hv, e⟩ := at_in r0 r1
      exact z_ixT z1 (upT s1 hS) e (q v G1 H1 o1 hv z1 s1 hp1)
  · refine z_lenS h1 ?_
    repeat (walk_at "z")
    refine ⟨p, o, G, M, b, _, rfl, z, hp, hb, by omega, by omega, fun r G1 H1 o1 z1 s1 hp1 r0 r1 => ?_⟩
    obtain ⟨v, hv, e⟩ := at_in (xs := t.cps.toList) r0 (by rw [Array.length_toList]; exact r1)
    exact z_ixS h1 e (q v G1 H1 o1 hv z1 s1 hp1)
end
end LW
namespace LW
open PySem PySem.Spec PyProof.Rows L2 Ys

section
variable {P : Program} {w : World} {K : PySem.W.Frag} {mg : Str → Option Value} {base : Heap} {f : Addr} {fd : FuncData}
abbrev OwnD (P : Program) (w : World) (K : PySem.W.Frag) (mg : Str → Option Value) (base : Heap) : Prop := Own P w K mg base CX0 1 "_law_draw" ["_law_pen_here", "_law_number"] (spDraw K)
abbrev OwnP (P : Program) (w : World) (K : PySem.W.Frag) (mg : Str → Option Value) (base : Heap) : Prop := Own P w K mg base CX0 2 "_law_pick" ["_law_pen_here", "_law_items"] (spPick K)
def spWords (K : PySem.W.Frag) : Sp := fun vs H Q _ => ∃ p o G M b, ∃ n : Nat, vs = [.ref p, .int n] ∧ Zp G ((p, o) :: M) H ∧ Pen K G b o ∧ b ≤ 100000000000 ∧ n ≤ 20 ∧
  ∀ l G1 H1 o1, ∀ ss : List Str, Zp G1 ((p, o1) :: M) H1 → Same G G1 → Pen K G1 (b + 10) o1 → G1 l = some (.lst (ss.map V.str)) → ss.length = n → (∀ s ∈ ss, Wd s) → Q (.ref l) H1
theorem ok_words (T : Nm K mg) (C_law_draw : OwnD P w K mg base) (C_law_pick : OwnP P w K mg base) (F : FnP K "_law_words" s_law_words f fd) : FnOk P w K mg base CX0 3 f fd ["_law_pen_here", "_law_number"] (spWords K) := by
  have nd : N_law_words.Nodup := sc_law_words.nd
  refine F.ok sc_law_words (fun vs H Q E h => ?_) (fun cdv A outer s H vs Q E hr h => ?_)
  · obtain ⟨p, o, G, M, b, n, rfl, _⟩ := h
    rfl
  have hu := hr.units
  refine ⟨_, PSs.nox   (pss_cons (ps_asg pe_str (pg_name (i := 2) nd rfl (by first | exact .inl rfl | exact .inr rfl)))
    (pss_cons (ps_asg (pe_joinG pe_str (pe_lc (own := [("_law_k", 7)]) (tt := tYes) rfl nd (pi_range1 (by rfl) (T.b_range) (pa_cons (pe_own C_law_draw (hr.mono (by omega)) (by rfl) pass0 (pa_cons (pv 0) (pa_cons pe_int pa_nil))) pa_nil)) (blkOk_by (N := N_law_words) (sc := defScope s_law_words) (by decide +kernel)) (fun _ _ _ _ _ => (pg_name (i := 7) nd rfl (by first | exact .inl rfl | exact .inr rfl))) (fun _ _ _ _ _ => pts_nil) (fun _ _ _ _ _ => (pe_own C_law_pick (hr.mono (by omega)) (by rfl) pass0 (pa_cons (pv 0) (pa_cons (pv 2) pa_nil)))))) (pg_name (i := 3) nd rfl (by first | exact .inl rfl | exact .inr rfl)))
    (pss_cons (ps_asg (pe_tup (pa_cons (pe_own C_law_draw (hr.mono (by omega)) (by rfl) pass0 (pa_cons (pv 0) (pa_cons (pe_op (k_add (K := K)) (pe_callB (kc_len (K := K) (P := P) (w := w)) (by rfl) T.b_len PySem.boot_len (pa_cons (pv 3) pa_nil)) pe_int) pa_nil))) (pa_cons (pe_own C_law_draw (hr.mono (by omega)) (by rfl) pass0 (pa_cons (pv 0) (pa_cons pe_int pa_nil))) pa_nil))) (kg_tup (K := K) (n := 2) rfl (pgs_cons (pg_name (i := 5) nd rfl (by first | exact .inl rfl | exact .inr rfl)) (pgs_cons (pg_name (i := 6) nd rfl (by first | exact .inl rfl | exact .inr rfl)) pgs_nil))))
    (pss_cons (ps_asg (pe_own C_law_pick (hr.mono (by omega)) (by rfl) pass0 (pa_cons (pv 0) (pa_cons (pe_lst (pa_cons pe_int (pa_cons pe_int (pa_cons pe_int (pa_cons pe_int (pa_cons pe_int (pa_cons pe_int pa_nil))))))) pa_nil))) (pg_name (i := 4) nd rfl (by first | exact .inl rfl | exact .inr rfl)))
    (pss_one (ps_ret (pe_lc (own := [("_law_k", 7)]) (tt := tYes) rfl nd (pi_range1 (by rfl) (T.b_range) (pa_cons (pv 1) pa_nil)) (blkOk_by (N := N_law_words) (sc := defScope s_law_words) (by decide +kernel)) (fun _ _ _ _ _ => (pg_name (i := 7) nd rfl (by first | exact .inl rfl | exact .inr rfl))) (fun _ _ _ _ _ => pts_nil) (fun _ _ _ _ _ => (pe_op (k_add (K := K)) (pe_op (k_add (K := K)) (pe_slice (k_sl (K := K)) (pv 3) po_none (po_some (pv 5))) (pe_ix (k_ix (K := K)) (pv 2) (pe_op o_mod (pe_callTy c_int (by rfl) T.b_int boot_int (pa_cons (pe_op (k_add (K := K)) (pv 6) (pe_op o_mul (pv 4) (pv 7))) pa_nil)) pe_int) (fun _ _ => rfl))) (pe_slice (k_sl (K := K)) (pv 3) (po_some (pv 5)) po_none)))))))))), ?_⟩
  obtain ⟨p, o, G, M, b, n, rfl, z, hp, hb, hn, q⟩ := h
  repeat (walk_at "z")
  refine ⟨p, o, G, M, b, _, rfl, z, hp, by omega, by decide, by decide, fun c1 G1 H1 o1 z1 s1 hp1 c0 c6 => ?_⟩
  repeat (walk_at "z")
  refine z_itR (by omega) (by omega) ?_
  refine lc_src src_R (fun i G' M' acc => ∃ o', ∃ ss : List Str, M' = (p, o') :: M ∧ Same G G' ∧ Pen K G' (b + 1 + i) o' ∧ acc = ss.map V.str ∧ ss.length = i ∧ ∀ t ∈ ss, Lt t ∧ t.length = 1) z1 ⟨o1, [], rfl, s1, hp1, rfl, rfl, by simp⟩ (fun _ _ _ _ _ _ _ _ => trivial) ?_ ?_
  · rintro i x G2 M2 acc Dl H2 hx ⟨o2, ss, rfl, s2, hp2, rfl, rfl, hss⟩ z2
    have hi : ss.length < 7 := by
      have := (List.getElem?_eq_some_iff.mp hx).1
      rw [rngV_len] at this
      omega
    repeat (walk_at "z")
    refine ⟨by rfl, ?_⟩
    repeat (walk_at "z")
    refine ⟨p, o2, G2, _, _, _, rfl, z2, hp2, by omega, .inr ⟨_, rfl, by rw [abc_len]; decide, by rw [abc_len]; decide, fun ch G3 H3 o3 hch z3 s3 hp3 => ?_⟩⟩
    refine z_laid (M := (p, o3) :: M) z3 (by rw [List.length_map]; omega) ⟨o3, ss ++ [⟨#[ch]⟩], rfl, s2.trans s3, hp3, by simp, by simp, fun t ht => ?_⟩
    rcases List.mem_append.mp ht with ht | ht
    · exact hss t ht
    · obtain rfl : t = ⟨#[ch]⟩ := by simpa using ht
      exact ⟨Lt.one (abc_mem hch), rfl⟩
  · rintro p2 G2 M2 acc G3 H3 ⟨o2, ss, rfl, s2, hp2, rfl, hlen, hss⟩ s3 z3 e3
    rw [rngV_len] at hlen hp2
    have hl6 : ss.length ≤ 6 := by omega
    have hsum : (Txt.join "" ss).length = ss.length := PySem.W.KT.join_ones ss fun t ht => (hss t ht).2
    have hsm : ∀ l : List Str, (∀ t ∈ l, t.length = 1) → (l.map (·.length)).sum = l.length := by
      intro l
      induction l with
      | nil => intro _; rfl
      | cons a r ih =>
        intro h
        rw [List.map_cons, List.sum_cons, ih fun t ht => h t (List.mem_cons_of_mem _ ht), h a (List.mem_cons_self ..), List.length_cons]
        omega
    refine z_join z3 (SqL.of e3) ?_ ?_
    · rw [hsm ss fun t ht => (hss t ht).2]
      have : ("" : Str).length = 0 := by decide
      rw [this]
      omega
    have hstem : Lt (Txt.join "" ss) := Lt.join fun t ht => (hss t ht).1
    generalize Txt.join "" ss = stem at hstem hsum ⊢
    have hp2 := hp2.mono (c := b + 7) (by omega)
    rw [← hsum] at hlen hl6
    repeat (walk_at "z")
    refine z_lenS (by omega) ?_
    repeat (walk_at "z")
    refine ⟨p, o2, G3, _, _, _, rfl, z3, hp2.up s3, by omega, by omega, by omega, fun at_ G4 H4 o4 z4 s4 hp4 a0 a1 => ?_⟩
    repeat (walk_at "z")
    refine ⟨p, o4, G4, _, _, _, rfl, z4, hp4, by omega, by omega, by omega, fun fr G5 H5 o5 z5 s5 hp5 f0 f1 => ?_⟩
    repeat (walk_at "z")
    refine z_newT z5 (by simp) fun q5 G5' H5' z5 s5' e5 => ?_
    have hp5 := hp5.up s5'
    have s5 := s5.trans s5'
    refine z_gtup z5 (SqT.of e5) rfl ?_
    repeat (walk_at "z")
    refine z_newL z5 (by simp) fun q6 G6 H6 z6 s6 e6 => ?_
    repeat (walk_at "z")
    refine ⟨p, o5, G6, _, _, _, rfl, z6, hp5.up s6, by omega, .inl ⟨q6, _, rfl, .inl (SqL.of e6), by simp, by simp, fun v G7 H7 o7 hv z7 s7 hp7 => ?_⟩⟩
    obtain ⟨st, rfl, st0, st1⟩ : ∃ i, v = V.int i ∧ 0 < i ∧ i < 20 := by
      simp at hv
      rcases hv with rfl | rfl | rfl | rfl | rfl | rfl <;> exact ⟨_, rfl, by decide, by decide⟩
    have sz : Same G G7 := (s2.trans s3).trans ((s4.trans s5).trans (s6.trans s7))
    have hpz := hp7.mono (c := b + 10) (by omega)
    clear hp7 hp5 hp4 hp2 hp1 hp z6 z5 z4 z3 z1 z e3 e6 s7 s6 s5 s4 s3 s2 s1
    repeat (walk_at "z")
    refine z_itR (by omega) (by omega) ?_
    refine lc_src src_R (fun i G' M' acc => ∃ fs : List Str, M' = (p, o7) :: M ∧ G' = G7 ∧ acc = fs.map V.str ∧ fs.length = i ∧ ∀ t ∈ fs, Wd t) z7 ⟨[], rfl, rfl, rfl, rfl, by simp⟩ (fun _ _ _ _ _ _ _ _ => trivial) ?_ ?_
    · rintro i x G' M' acc Dl H' hx ⟨fs, rfl, rfl, rfl, rfl, hfs⟩ z'
      obtain ⟨hi, rfl⟩ := rng_at hx
      generalize hk : (0 : Int) + (fs.length : Int) = k
      repeat (walk_at "z")
      refine ⟨by rfl, ?_⟩
      repeat (walk_at "z")
      refine z_slS (by omega) ?_
      repeat (walk_at "z")
      refine z_I (mw (by omega) (by omega) (by omega) (by omega)) ?_
      repeat (walk_at "z")
      refine z_I (by decide) ?_
      repeat (walk_at "z")
      obtain ⟨ch, hch, ech⟩ := at_in (xs := ("abcdefghijklmnopqrstuvwxyz" : Str).cps.toList) (i := (fr + st * k) % 26) (Int.emod_nonneg _ (by decide)) (by rw [Array.length_toList]; exact Int.emod_lt_of_pos _ (by decide))
      refine z_ixS (by rw [abc_len]; decide) ech ?_
      have l1 : (cutS stem none (some at_)).length ≤ stem.length := by rw [cutS_len]; have := HT.sIx_le stem.length stem.length (Nat.le_refl _) (some at_); omega
      have hch1 := Lt.one (abc_mem hch)
      have hc1 : (⟨#[ch]⟩ : Str).length = 1 := rfl
      refine z_addS (by omega) ?_
      repeat (walk_at "z")
      refine z_slS (by omega) ?_
      have e1 : (cutS stem none (some at_)).length = at_.toNat := by
        rw [cutS_len]
        show (if at_ < 0 then (at_ + (stem.length : Int)).toNat else min at_.toNat stem.length) - 0 = at_.toNat
        rw [if_neg (by omega)]
        omega
      have e2 : (cutS stem (some at_) none).length = stem.length - at_.toNat := by
        rw [cutS_len]
        show stem.length - (if at_ < 0 then (at_ + (stem.length : Int)).toNat else min at_.toNat stem.length) = stem.length - at_.toNat
        rw [if_neg (by omega)]
        omega
      have e3 : (cutS stem none (some at_) ++ ⟨#[ch]⟩).length = at_.toNat + 1 := by rw [len_app, e1]; rfl
      refine z_addS (by omega) ?_
      have e4 : (cutS stem none (some at_) ++ ⟨#[ch]⟩ ++ cutS stem (some at_) none).length = stem.length + 1 := by rw [len_app, e3, e2]; omega
      have e5 : Lt (cutS stem none (some at_) ++ ⟨#[ch]⟩ ++ cutS stem (some at_) none) := ((hstem.cut _ _).app hch1).app (hstem.cut _ _)
      generalize cutS stem none (some at_) ++ ⟨#[ch]⟩ ++ cutS stem (some at_) none = word at e4 e5
      refine z_laid z' (by rw [List.length_map]; omega) ⟨fs ++ [word], rfl, rfl, by simp, by simp, fun t ht => ?_⟩
      rcases List.mem_append.mp ht with ht | ht
      · exact hfs t ht
      · obtain rfl : t = word := by simpa using ht
        exact ⟨by omega, by omega, e5⟩
    · rintro l G' M' acc G8 H8 ⟨fs, rfl, rfl, rfl, hfl, hfs⟩ s8 z8 e8
      rw [rngV_len] at hfl
      repeat (walk_at "z")
      exact q l G8 H8 o7 fs z8 (sz.trans s8) (hpz.up s8) e8 (by omega) hfs
end
end LW
namespace LW
open PySem PySem.Spec PyProof.Rows L2 Ys

/-! ### what the words' functions tell -/
def abcL : List Nat := (("abcdefghijklmnopqrstuvwxyz" : Str)).cps.toList
def wordS (s : Str) : Bool := decide (1 ≤ s.length) && (decide (s.length ≤ 8) && s.cps.toList.all fun c => decide (c ∈ abcL))
def isStrD : PyData → Bool
  | .str _ => true
  | _ => false
def wordD : PyData → Bool
  | .str s => wordS s
  | _ => false
def intD : PyData → Bool
  | .int _ => true
  | _ => false
def listD : PyData → Bool
  | .list _ => true
  | .tuple _ => true
  | _ => false
def itemsD : PyData → List PyData
  | .list ds => ds
  | .tuple ds => ds
  | _ => []
theorem wordD_ns {d : PyData} (h : isStrD d = false) : wordD d = false := by cases d <;> first | rfl | cases h
theorem kit_str (d : PyData) : kitB (tyD d) "str" = some (isStrD d) := by cases d <;> (simp only [tyD, isStrD]; decide +kernel)
theorem all_map_bl {α : Type} (f : α → Bool) (l : List α) : (l.map f).all id = l.all f := by rw [List.all_map]; rfl
def ShortD (d : PyData) : Prop := ∀ s, d = .str s → s.length ≤ 4000000
section
variable {P : Program} {w : World} {K : PySem.W.Frag} {mg : Str → Option Value} {base : Heap} {f : Addr} {fd : FuncData}
def spWord (K : PySem.W.Frag) : Sp := fun vs H Q _ => ∃ G M v d, vs = [v] ∧ Zp G M H ∧ Dt K G v d ∧ ShortD d ∧ ∀ G1 H1, Zp G1 M H1 → Same G G1 → Q (.bl (wordD d)) H1
theorem ok_is_word (T : Nm K mg) (F : FnP K "is_word" s_is_word f fd) : FnOk P w K mg base CX0 1 f fd ["value"] (spWord K) := by
  have nd : N_is_word.Nodup := sc_is_word.nd
  refine F.ok sc_is_word (fun vs H Q E h => ?_) (fun cdv A outer s H vs Q E hr h => ?_)
  · obtain ⟨G, M, v, d, rfl, _⟩ := h
    rfl
  have hu := hr.units
  refine ⟨_, PSs.nox   (pss_cons (ps_if (PW.pt (pw_or (pt_not (pt_val (pe_callB (kc_isi (K := K)) (by rfl) T.b_isinstance boot_isinstance (pa_cons (pv 0) (pa_cons (pe_bltn (v := .ty "str") (by rfl) T.b_str boot_str rfl) pa_nil))))) (pw_or1 (pt_not (pt_chain o_le o_le pe_int (pe_callB (kc_len (K := K) (P := P) (w := w)) (by rfl) T.b_len PySem.boot_len (pa_cons (pv 0) pa_nil)) (pe_gC T.g_LONGEST_WORD (by rfl))))))) (pss_one (ps_ret pe_bl)) pss_nil)
    (pss_one (ps_ret (pe_callB (kc_all (K := K) rfl) (by rfl) T.b_all boot_all (pa_cons (pe_lc (own := [("letter", 1)]) (tt := tYes) rfl nd (k_any (K := K) (pv 0)) (blkOk_by (N := N_is_word) (sc := defScope s_is_word) (by decide +kernel)) (fun _ _ _ _ _ => (pg_name (i := 1) nd rfl (by first | exact .inl rfl | exact .inr rfl))) (fun _ _ _ _ _ => pts_nil) (fun _ _ _ _ _ => (pe_cmpR (k_in (K := K)) (pv 1) (pe_gC T.g_LETTERS (by rfl)) (by rfl)))) pa_nil))))), ?_⟩
  obtain ⟨G, M, v, d, rfl, z, hd, hs, q⟩ := h
  repeat (walk_at "z")
  refine z_isi (.ty "str") (hd.up z.sub).ty (kit_ty (kit_str d)) ?_
  cases hi : isStrD d with
  | false =>
    repeat (walk_at "z")
    have := q G H z (Same.refl G)
    rw [wordD_ns hi] at this
    exact this
  | true =>
    cases hd with
    | str t =>
      have hl := hs t rfl
      repeat (walk_at "z")
      refine z_lenS hl ?_
      repeat (walk_at "z")
      by_cases c1 : 1 ≤ t.length
      · rw [decide_eq_true (show (1 : Int) ≤ (t.length : Int) by omega)]
        repeat (walk_at "z")
        by_cases c2 : t.length ≤ 8
        · rw [decide_eq_true (show (t.length : Int) ≤ 8 by omega)]
          repeat (walk_at "z")
          refine z_anyS ?_
          repeat (walk_at "z")
          refine z_itS ?_
          refine lc_src src_S (fun i G' M' acc => M' = M ∧ G' = G ∧ acc = ((t.cps.toList.take i).map fun c => V.bl (decide (c ∈ abcL)))) z ⟨rfl, rfl, rfl⟩ (fun _ _ _ _ _ _ _ _ => trivial) ?_ ?_
          · rintro i x G2 M2 acc Dl H2 hx ⟨rfl, rfl, rfl⟩ z2
            obtain ⟨c, hc, rfl⟩ : ∃ c, t.cps.toList[i]? = some c ∧ x = V.str ⟨#[c]⟩ := by
              unfold chrV at hx
              rw [List.getElem?_map] at hx
              cases e : t.cps.toList[i]? with
              | none => rw [e] at hx; cases hx
              | some c => rw [e] at hx; exact ⟨c, rfl, (Option.some.inj hx).symm⟩
            repeat (walk_at "z")
            refine ⟨by rfl, ?_⟩
            repeat (walk_at "z")
            refine z_inS ?_
            refine z_laid z2 (by rw [List.length_map, List.length_take, Array.length_toList]; show min _ t.length ≤ _; omega) ⟨rfl, rfl, ?_⟩
            rw [List.take_add_one, hc]
            simp [abcL]
          · rintro p2 G2 M2 acc G3 H3 ⟨rfl, rfl, rfl⟩ s3 z3 e3
            rw [chrV_len, show t.length = t.cps.toList.length from (Array.length_toList).symm, List.take_length] at e3
            repeat (walk_at "z")
            refine z_all (bs := t.cps.toList.map fun c => decide (c ∈ abcL)) z3 (SqL.of (by rw [List.map_map]; exact e3)) ?_
            have := q G3 H3 z3 s3
            rw [all_map_bl]
            have e : wordD (.str t) = t.cps.toList.all fun c => decide (c ∈ abcL) := by
              show (decide _ && (decide _ && _)) = _
              rw [decide_eq_true c1, decide_eq_true c2]
              rfl
            rw [e] at this
            exact this
        · rw [decide_eq_false (show ¬ (t.length : Int) ≤ 8 by omega)]
          repeat (walk_at "z")
          have := q G H z (Same.refl G)
          have e : wordD (.str t) = false := by
            show (decide _ && (decide _ && _)) = _
            rw [decide_eq_false c2, Bool.false_and, Bool.and_false]
          rw [e] at this
          exact this
      · rw [decide_eq_false (show ¬ (1 : Int) ≤ (t.length : Int) by omega)]
        repeat (walk_at "z")
        have := q G H z (Same.refl G)
        have e : wordD (.str t) = false := by
          show (decide _ && (decide _ && _)) = _
          rw [decide_eq_false c1, Bool.false_and]
        rw [e] at this
        exact this
    | _ => cases hi
def spAsc (K : PySem.W.Frag) : Sp := fun vs H Q _ => ∃ G M a, ∃ ss : List Str, vs = [.ref a] ∧ Zp G M H ∧ SqL K H a (ss.map V.str) ∧ ss.length < 64 ∧
  ∀ p G1 H1, Zp G1 M H1 → Same G G1 → SqT K G1 p ((asc ss).map V.str) → Q (.ref p) H1
end
end LW
namespace LW
open PySem PySem.Spec PyProof.Rows L2 Ys

def isTD : PyData → Bool
  | .tuple _ => true
  | _ => false
theorem kit_tup (d : PyData) : kitB (tyD d) "tuple" = some (isTD d) := by cases d <;> (simp only [tyD, isTD]; decide +kernel)
theorem at_zero {x : V} {xr : List V} : atI (x :: xr) 0 = some x := atI_nat (j := 0) rfl
theorem at_one {x y : V} {xr : List V} : atI (x :: y :: xr) 1 = some y := atI_nat (j := 1) rfl
theorem at_two {x y u : V} {xr : List V} : atI (x :: y :: u :: xr) 2 = some u := atI_nat (j := 2) rfl
theorem z_cg {b c : Bool} {Q : VK} {H : Hp} (e : b = c) (q : Q (.bl c) H) : Q (.bl b) H := e ▸ q
/-! ### the words of plans -/
def headOf (s : Str) : Option Hd := if s = "then" then some .th else if s = "either" then some .ei else if s = "any" then some .an else if s = "again" then some .ag else if s = "beside" then some .be else none
structure PTab (K : PySem.W.Frag) (w : World) : Prop where
  l : TabD K w (gA "LEAST" K) leastL
  m : TabD K w (gA "MOST" K) mostL
theorem hd_s : ∀ h : Hd, headOf h.s = some h := by intro h; cases h <;> decide +kernel
theorem head_cases (s : Str) : (∃ h, s = Hd.s h) ∨ (headOf s = none ∧ leastL.lookup s = none ∧ mostL.lookup s = none) := by
  by_cases c1 : s = "then"
  · exact .inl ⟨.th, c1⟩
  by_cases c2 : s = "either"
  · exact .inl ⟨.ei, c2⟩
  by_cases c3 : s = "any"
  · exact .inl ⟨.an, c3⟩
  by_cases c4 : s = "again"
  · exact .inl ⟨.ag, c4⟩
  by_cases c5 : s = "beside"
  · exact .inl ⟨.be, c5⟩
  have f : ∀ t : Str, s ≠ t → (s == t) = false := fun t h => by
    cases q : s == t with
    | false => rfl
    | true => exact absurd (eq_of_beq q) h
  refine .inr ⟨by unfold headOf; rw [if_neg c1, if_neg c2, if_neg c3, if_neg c4, if_neg c5], ?_, ?_⟩
  · unfold leastL
    simp only [List.lookup, f _ c1, f _ c2, f _ c3, f _ c4, f _ c5]
  · unfold mostL
    simp only [List.lookup, f _ c1, f _ c2, f _ c3, f _ c4, f _ c5]
def Hd.leV : Hd → Int
  | .th => 0
  | .ei => 1
  | .an => 1
  | .ag => 1
  | .be => 2
def Hd.moV : Hd → V
  | .th => .non
  | .ei => .non
  | .an => .non
  | .ag => .int 1
  | .be => .int 2
theorem le_at (h : Hd) : leastL.lookup (Hd.s h) = some (.int (Hd.leV h)) := by cases h <;> rfl
theorem mo_at (h : Hd) : mostL.lookup (Hd.s h) = some (Hd.moV h) := by cases h <;> rfl
def formD : PyData → Bool
  | .tuple (.str s :: r) => (match headOf s with
    | some h => h.fit r.length
    | none => false)
  | _ => false
def headBe : List PyData → Bool
  | .str s :: _ => decide (s = "beside")
  | _ => false
mutual
def wpD : Bool → PyData → Option PyData
  | b, .tuple ds => if (!formD (.tuple ds) || (b && headBe ds)) = true then some (.tuple ds) else wpL (b || headBe ds) ds
  | _, .str s => if wordS s = true then none else some (.str s)
  | _, .none => some .none
  | _, .bool x => some (.bool x)
  | _, .int i => some (.int i)
  | _, .list ds => some (.list ds)
  | _, .dict ds => some (.dict ds)
def wpL : Bool → List PyData → Option PyData
  | _, [] => none
  | b, d :: ds => match wpD b d with
    | some e => some e
    | none => wpL b ds
end
theorem hd_word (h : Hd) : wordS h.s = true := by cases h <;> decide +kernel
theorem wpL_hd (b : Bool) (h : Hd) (r : List PyData) : wpL b (.str h.s :: r) = wpL b r := by
  rw [wpL, wpD, if_pos (hd_word h)]
theorem wd_wordS {s : Str} (h : Wd s) : wordS s = true := by
  have e : ∀ c, 97 ≤ c → c ≤ 122 → c ∈ abcL := by
    intro c h1 h2
    have e : abcL = (List.range 26).map (· + 97) := by decide +kernel
    rw [e]
    exact List.mem_map.mpr ⟨c - 97, List.mem_range.mpr (by omega), by omega⟩
  unfold wordS
  rw [decide_eq_true h.1, decide_eq_true h.2.1]
  simp only [Bool.true_and]
  refine List.all_eq_true.mpr fun c hc => decide_eq_true (e c (h.2.2 c hc).1 (h.2.2 c hc).2)
theorem form_nd (h : Hd) (ds : List PyData) : formD (.tuple (.str h.s :: ds)) = h.fit ds.length := by
  show (match headOf h.s with | some h => h.fit ds.length | none => false) = _
  rw [hd_s]
theorem be_nd (h : Hd) (ds : List PyData) : headBe (.str h.s :: ds) = decide (h = .be) := by
  show decide (h.s = ("beside" : Str)) = _
  cases h <;> decide +kernel
theorem wp_ok : ∀ p b, Ok b p → wpD b p.d = none := Pl.ind (fun s b k => by
    cases k with
    | nm k =>
      rw [Pl.d, wpD, if_pos (wd_wordS k)]) fun h ps ih b k => by
  cases k with
  | nd f c q =>
    have l : (Pl.dl ps).length = ps.length := by rw [dl_map, List.length_map]
    rw [Pl.d, wpD, form_nd, be_nd, l, f]
    have nb : (b && decide (h = .be)) = false := by
      cases b with
      | false => rfl
      | true => simpa using c rfl
    rw [nb, if_neg (by simp), wpL_hd]
    have go : ∀ l : List Pl, (∀ p ∈ l, p ∈ ps) → wpL (b || decide (h = .be)) (Pl.dl l) = none := by
      intro l
      induction l with
      | nil => intro _; simp [Pl.dl, wpL]
      | cons a r ihr =>
        intro hl
        rw [Pl.dl, wpL, ih a (hl a (by simp)) _ (q a (hl a (by simp)))]
        exact ihr fun p hp => hl p (List.mem_cons_of_mem _ hp)
    exact go ps fun _ h => h
inductive Sht : PyData → Prop where
  | nt {d : PyData} : isTD d = false → ShortD d → Sht d
  | tup {ds : List PyData} : (∀ e ∈ ds, Sht e) → Sht (.tuple ds)
theorem Sht.short {d : PyData} (h : Sht d) : ShortD d := by
  cases h with
  | nt _ h => exact h
  | tup _ => intro s e; cases e
theorem Sht.kids {ds : List PyData} (h : Sht (.tuple ds)) : ∀ e ∈ ds, Sht e := by
  cases h with
  | nt h _ => cases h
  | tup h => exact h
theorem hd_len (h : Hd) : h.s.length ≤ 8 := by cases h <;> decide +kernel
theorem pl_sht : ∀ p, Nms p → Sht p.d := Pl.ind (fun s k => by
    cases k with
    | nm k =>
      rw [Pl.d]
      refine .nt rfl fun t e => ?_
      obtain rfl : s = t := by injection e
      have := k.2.1
      omega) fun h ps ih k => by
  rw [Pl.d]
  refine .tup fun e he => ?_
  rcases List.mem_cons.mp he with rfl | he
  · refine .nt rfl fun t e => ?_
    obtain rfl : h.s = t := by injection e
    have := hd_len h
    omega
  · rw [dl_map] at he
    obtain ⟨p, hp, rfl⟩ := List.mem_map.mp he
    exact ih p hp (k.kids p hp)
section
variable {P : Program} {w : World} {K : PySem.W.Frag} {mg : Str → Option Value} {base : Heap} {f : Addr} {fd : FuncData}
def spFormed (K : PySem.W.Frag) : Sp := fun vs H Q _ => ∃ G M v d, vs = [v] ∧ Zp G M H ∧ Dt K G v d ∧ Q (.bl (formD d)) H
theorem ok_is_formed (T : Nm K mg) (TB : PTab K w) (F : FnP K "is_formed" s_is_formed f fd) : FnOk P w K mg base CX0 1 f fd ["value"] (spFormed K) := by
  have nd : N_is_formed.Nodup := sc_is_formed.nd
  refine F.ok sc_is_formed (fun vs H Q E h => ?_) (fun cdv A outer s H vs Q E hr h => ?_)
  · obtain ⟨G, M, v, d, rfl, _⟩ := h
    rfl
  have hu := hr.units
  refine ⟨_, PSs.nox   (pss_cons (ps_if (PW.pt (pw_or (pt_not (pt_val (pe_callB (kc_isi (K := K)) (by rfl) T.b_isinstance boot_isinstance (pa_cons (pv 0) (pa_cons (pe_bltn (v := .ty "tuple") (by rfl) T.b_tuple boot_tuple rfl) pa_nil))))) (pw_or (pt_cmpR (k_eq (K := K) hu) (pe_callB (kc_len (K := K) (P := P) (w := w)) (by rfl) T.b_len PySem.boot_len (pa_cons (pv 0) pa_nil)) pe_int (nomark _)) (pw_or (pt_not (pt_val (pe_callB (kc_isi (K := K)) (by rfl) T.b_isinstance boot_isinstance (pa_cons (pe_ix (k_ix (K := K)) (pv 0) pe_int (fun _ _ => rfl)) (pa_cons (pe_bltn (v := .ty "str") (by rfl) T.b_str boot_str rfl) pa_nil))))) (pw_or1 (pt_cmpR (k_notInD (K := K) (w := w)) (pe_ix (k_ix (K := K)) (pv 0) pe_int (fun _ _ => rfl)) (pe_gC T.g_LEAST (by rfl)) (by rfl))))))) (pss_one (ps_ret pe_bl)) pss_nil)
    (pss_cons (ps_asg (pe_ix (k_ixD (K := K) (w := w)) (pe_gC T.g_MOST (by rfl)) (pe_ix (k_ix (K := K)) (pv 0) pe_int (fun _ _ => rfl)) (fun _ _ => rfl)) (pg_name (i := 1) nd rfl (by first | exact .inl rfl | exact .inr rfl)))
    (pss_one (ps_ret (pe_and (pe_cmpR o_gt (pe_callB (kc_len (K := K) (P := P) (w := w)) (by rfl) T.b_len PySem.boot_len (pa_cons (pv 0) pa_nil)) (pe_ix (k_ixD (K := K) (w := w)) (pe_gC T.g_LEAST (by rfl)) (pe_ix (k_ix (K := K)) (pv 0) pe_int (fun _ _ => rfl)) (fun _ _ => rfl)) (nomark _)) (pe_one (pe_or (pe_cmpR o_isN (pv 1) pe_non (nomark _)) (pe_one (pe_cmpR o_le (pe_callB (kc_len (K := K) (P := P) (w := w)) (by rfl) T.b_len PySem.boot_len (pa_cons (pv 0) pa_nil)) (pe_op (k_add (K := K)) (pv 1) pe_int) (nomark _)))))))))), ?_⟩
  obtain ⟨G, M, v, d, rfl, z, hd, q⟩ := h
  repeat (walk_at "z")
  refine z_isi (.ty "tuple") (hd.up z.sub).ty (kit_ty (kit_tup d)) ?_
  cases hi : isTD d with
  | false =>
    repeat (walk_at "z")
    have e : formD d = false := by cases d <;> first | rfl | cases hi
    rw [e] at q
    exact q
  | true =>
    cases hd with
    | tup hS hds =>
      rename_i a xs ds
      repeat (walk_at "z")
      refine z_lenT z hS ?_
      repeat (walk_at "z")
      refine z_eqS rfl ?_
      repeat (walk_at "z")
      cases hds with
      | nil =>
        refine z_bT' (by decide) ?_
        repeat (walk_at "z")
        exact q
      | cons h0 hr =>
        rename_i x xr d0 dr
        refine z_bF' (by rw [decide_eq_false]; intro e; have := V.int.inj e; simp at this; omega) ?_
        have at0 : atI (x :: xr) 0 = some x := at_zero
        repeat (walk_at "z")
        refine z_ixT z hS at0 ?_
        repeat (walk_at "z")
        refine z_isi (.ty "str") (h0.up z.sub).ty (kit_ty (kit_str d0)) ?_
        cases hs : isStrD d0 with
        | false =>
          repeat (walk_at "z")
          have e : formD (.tuple (d0 :: dr)) = false := by cases d0 <;> first | rfl | cases hs
          rw [e] at q
          exact q
        | true =>
          cases h0 with
          | str s =>
            have ln : xr.length = dr.length := hr.len (ds := [])
            repeat (walk_at "z")
            refine z_ixT z hS at0 ?_
            repeat (walk_at "z")
            refine z_notInKD TB.l ?_
            rcases head_cases s with ⟨hh, rfl⟩ | ⟨n1, n2, n3⟩
            · rw [le_at]
              repeat (walk_at "z")
              refine z_bT' rfl ?_
              repeat (walk_at "z")
              refine z_ixT z hS at0 ?_
              refine z_ixKD TB.m (mo_at hh) ?_
              repeat (walk_at "z")
              refine z_lenT z hS ?_
              repeat (walk_at "z")
              refine z_ixT z hS at0 ?_
              refine z_ixKD TB.l (le_at hh) ?_
              rw [form_nd] at q
              rw [List.length_cons, ln]
              generalize hn : dr.length = n at q
              repeat (walk_at "z")
              cases hh
              case th =>
                refine z_bT' (by simp only [Hd.leV]; exact decide_eq_true (by omega)) ?_
                repeat (walk_at "z")
                refine z_iN ?_
                repeat (walk_at "z")
                refine z_bT' rfl ?_
                repeat (walk_at "z")
                exact q
              case ei =>
                by_cases hn1 : 1 ≤ n
                · refine z_bT' (by simp only [Hd.leV]; exact decide_eq_true (by omega)) ?_
                  repeat (walk_at "z")
                  refine z_iN ?_
                  repeat (walk_at "z")
                  refine z_bT' rfl ?_
                  repeat (walk_at "z")
                  refine z_cg ?_ q
                  simp [Hd.fit, hn1] <;> omega
                · refine z_bF' (by simp only [Hd.leV]; exact decide_eq_false (by omega)) ?_
                  repeat (walk_at "z")
                  refine z_cg ?_ q
                  symm
                  simp [Hd.fit] <;> omega
              case an =>
                by_cases hn1 : 1 ≤ n
                · refine z_bT' (by simp only [Hd.leV]; exact decide_eq_true (by omega)) ?_
                  repeat (walk_at "z")
                  refine z_iN ?_
                  repeat (walk_at "z")
                  refine z_bT' rfl ?_
                  repeat (walk_at "z")
                  refine z_cg ?_ q
                  simp [Hd.fit, hn1] <;> omega
                · refine z_bF' (by simp only [Hd.leV]; exact decide_eq_false (by omega)) ?_
                  repeat (walk_at "z")
                  refine z_cg ?_ q
                  symm
                  simp [Hd.fit] <;> omega
              case ag =>
                by_cases hn1 : 1 ≤ n
                · refine z_bT' (by simp only [Hd.leV]; exact decide_eq_true (by omega)) ?_
                  repeat (walk_at "z")
                  refine z_iN ?_
                  repeat (walk_at "z")
                  refine z_bF' rfl ?_
                  repeat (walk_at "z")
                  refine z_lenT z hS ?_
                  rw [List.length_cons, ln, hn]
                  repeat (walk_at "z")
                  refine z_addI (i := 1) (j := 1) ?_
                  repeat (walk_at "z")
                  refine z_cg ?_ q
                  rw [Bool.eq_iff_iff]
                  simp [Hd.fit] <;> omega
                · refine z_bF' (by simp only [Hd.leV]; exact decide_eq_false (by omega)) ?_
                  repeat (walk_at "z")
                  refine z_cg ?_ q
                  symm
                  simp [Hd.fit] <;> omega
              case be =>
                by_cases hn1 : 2 ≤ n
                · refine z_bT' (by simp only [Hd.leV]; exact decide_eq_true (by omega)) ?_
                  repeat (walk_at "z")
                  refine z_iN ?_
                  repeat (walk_at "z")
                  refine z_bF' rfl ?_
                  repeat (walk_at "z")
                  refine z_lenT z hS ?_
                  rw [List.length_cons, ln, hn]
                  repeat (walk_at "z")
                  refine z_addI (i := 2) (j := 1) ?_
                  repeat (walk_at "z")
                  refine z_cg ?_ q
                  rw [Bool.eq_iff_iff]
                  simp [Hd.fit] <;> omega
                · refine z_bF' (by simp only [Hd.leV]; exact decide_eq_false (by omega)) ?_
                  repeat (walk_at "z")
                  refine z_cg ?_ q
                  symm
                  simp [Hd.fit] <;> omega
            · rw [n2]
              repeat (walk_at "z")
              refine z_bF' rfl ?_
              repeat (walk_at "z")
              have e : formD (.tuple (.str s :: dr)) = false := by
                show (match headOf s with | some h => h.fit dr.length | none => false) = false
                rw [n1]
              rw [e] at q
              exact q
          | _ => cases hs
    | _ => cases hi
end
end LW
namespace LW
open PySem PySem.Spec PyProof.Rows L2 Ys

theorem cut_tail {x : V} {xr : List V} : cutV (x :: xr) (some 1) none = xr := by
  have e1 : HT.sIx (x :: xr).length 0 (some 1) = min 1 (x :: xr).length := HT.sIx_nat (x :: xr).length 0 1
  have e2 : HT.sIx (x :: xr).length (x :: xr).length none = (x :: xr).length := rfl
  have e3 : min 1 (x :: xr).length = 1 := by rw [List.length_cons]; omega
  unfold cutV
  rw [e1, e2, e3, List.drop_succ_cons, List.drop_zero, List.length_cons]
  exact List.take_of_length_le (by omega)
theorem form_shape {d : PyData} (hf : formD d = true) : ∃ (h : Hd) (r : List PyData), d = .tuple (.str h.s :: r) := by
  cases d with
  | tuple ds =>
    cases ds with
    | nil => cases hf
    | cons d0 r =>
      cases d0 with
      | str s =>
        rcases head_cases s with ⟨h, rfl⟩ | ⟨n, _⟩
        · exact ⟨h, r, rfl⟩
        · have e : formD (.tuple (.str s :: r)) = false := by
            show (match headOf s with | some h => h.fit r.length | none => false) = false
            rw [n]
          rw [e] at hf
          cases hf
      | _ => cases hf
  | _ => cases hf
theorem wp_word {b : Bool} {d : PyData} (h : wordD d = true) : wpD b d = none := by
  cases d with
  | str s => rw [wpD, if_pos (show wordS s = true from h)]
  | _ => cases h
theorem wp_bad {b : Bool} {d : PyData} (h : wordD d = false) (h2 : formD d = false) : wpD b d = some d := by
  cases d with
  | tuple ds => rw [wpD, h2]; rfl
  | str s =>
    rw [wpD, if_neg (by intro e; rw [show wordD (.str s) = wordS s from rfl, e] at h; cases h)]
  | _ => rw [wpD]
theorem wp_be {b : Bool} {h : Hd} {r : List PyData} (e : (b && decide (h = .be)) = true) : wpD b (.tuple (.str h.s :: r)) = some (.tuple (.str h.s :: r)) := by
  rw [wpD, be_nd, e, Bool.or_true]; rfl
theorem wp_go {b : Bool} {h : Hd} {r : List PyData} (e : (b && decide (h = .be)) = false) (f : formD (.tuple (.str h.s :: r)) = true) : wpD b (.tuple (.str h.s :: r)) = wpL (b || decide (h = .be)) r := by
  rw [wpD, be_nd, e, f, wpL_hd]; rfl
theorem dep_kid {e : PyData} : ∀ {ds : List PyData}, e ∈ ds → e.depth ≤ PyData.depthAll ds
  | d :: ds, h => by
    show e.depth ≤ max d.depth (PyData.depthAll ds)
    rcases List.mem_cons.mp h with rfl | h
    · exact Nat.le_max_left _ _
    · exact Nat.le_trans (dep_kid h) (Nat.le_max_right _ _)
theorem str_be (h : Hd) : decide (V.str h.s = V.str ("beside" : Str)) = decide (h = .be) := by cases h <;> decide +kernel
theorem str_th (h : Hd) : decide (V.str h.s = V.str ("then" : Str)) = decide (h = .th) := by cases h <;> decide +kernel
section
variable {P : Program} {w : World} {K : PySem.W.Frag} {mg : Str → Option Value} {base : Heap} {f : Addr} {fd : FuncData}
abbrev OwnW (P : Program) (w : World) (K : PySem.W.Frag) (mg : Str → Option Value) (base : Heap) : Prop := Own P w K mg base CX0 1 "is_word" ["value"] (spWord K)
abbrev OwnF (P : Program) (w : World) (K : PySem.W.Frag) (mg : Str → Option Value) (base : Heap) : Prop := Own P w K mg base CX0 1 "is_formed" ["value"] (spFormed K)
def spWrong (K : PySem.W.Frag) (n : Nat) : Sp := fun vs H Q _ => ∃ G M v b d, vs = [v, .bl b] ∧ Zp G M H ∧ Dt K G v d ∧ Sht d ∧ d.depth < n ∧
  ∀ p xs G1 H1, Zp G1 M H1 → Same G G1 → G1 p = some (.lst xs) → Dts K G1 xs (wpD b d).toList → Q (.ref p) H1
theorem ok_wrong {n : Nat} (T : Nm K mg) (C_is_word : OwnW P w K mg base) (C_is_formed : OwnF P w K mg base) (C_wrong_part : Own P w K mg base CX0 (n + 1) "wrong_part" ["value", "is_beside"] (spWrong K n)) (F : FnP K "wrong_part" s_wrong_part f fd) : FnOk P w K mg base CX0 (n + 2) f fd ["value", "is_beside"] (spWrong K (n + 1)) := by
  have nd : N_wrong_part.Nodup := sc_wrong_part.nd
  refine F.ok sc_wrong_part (fun vs H Q E h => ?_) (fun cdv A outer s H vs Q E hr h => ?_)
  · obtain ⟨G, M, v, b, d, rfl, _⟩ := h
    rfl
  have hu := hr.units
  refine ⟨_, PSs.nox   (pss_cons (ps_if (pt_val (pe_own C_is_word (hr.mono (by omega)) (by rfl) pass0 (pa_cons (pv 0) pa_nil))) (pss_one (ps_ret (pe_lst pa_nil))) pss_nil)
    (pss_cons (ps_if (PW.pt (pw_or (pt_not (pt_val (pe_own C_is_formed (hr.mono (by omega)) (by rfl) pass0 (pa_cons (pv 0) pa_nil)))) (pw_or1 (PW.pt (pw_and (pt_val (pv 1)) (pw_and1 (pt_cmpR (k_eq (K := K) hu) (pe_ix (k_ix (K := K)) (pv 0) pe_int (fun _ _ => rfl)) pe_str (nomark _)))))))) (pss_one (ps_ret (pe_lst (pa_cons (pv 0) pa_nil)))) pss_nil)
    (pss_cons (ps_for PassesOwn.never rfl (k_any (K := K) (pe_slice (k_sl (K := K)) (pv 0) (po_some pe_int) po_none)) (pg_name (i := 2) nd rfl (by first | exact .inl rfl | exact .inr rfl)) (pss_cons (ps_asg (pe_own C_wrong_part (hr.mono (by omega)) (by rfl) pass0 (pa_cons (pv 2) (pa_cons (pe_or (pv 1) (pe_one (pe_cmpR (k_eq (K := K) hu) (pe_ix (k_ix (K := K)) (pv 0) pe_int (fun _ _ => rfl)) pe_str (nomark _)))) pa_nil))) (pg_name (i := 3) nd rfl (by first | exact .inl rfl | exact .inr rfl)))
    (pss_one (ps_if (pt_cmpR (k_ne (K := K) hu) (pv 3) (pe_lst pa_nil) (nomark _)) (pss_one (ps_ret (pv 3))) pss_nil))))
    (pss_one (ps_ret (pe_lst pa_nil)))))), ?_⟩
  obtain ⟨G, M, v, b, d, rfl, z, hd, hs, hn, q⟩ := h
  repeat (walk_at "z")
  refine ⟨G, M, v, d, rfl, z, hd, hs.short, fun G1 H1 z1 s1 => ?_⟩
  have hd1 := hd.up s1
  cases hw : wordD d with
  | true =>
    repeat (walk_at "z")
    refine z_newL z1 (by simp) fun p G2 H2 z2 s2 e2 => ?_
    exact q p [] G2 H2 z2 (s1.trans s2) e2 (by rw [wp_word hw]; exact .nil)
  | false =>
    repeat (walk_at "y")
    cases hf : formD d with
    | false =>
      repeat (walk_at "z")
      refine ⟨G1, M, v, d, rfl, z1, hd1, ?_⟩
      rw [hf]
      repeat (walk_at "z")
      refine z_newL z1 (by simp) fun p G2 H2 z2 s2 e2 => ?_
      exact q p [v] G2 H2 z2 (s1.trans s2) e2 (by rw [wp_bad hw hf]; exact .cons (hd1.up s2) .nil)
    | true =>
      obtain ⟨h, r, rfl⟩ := form_shape hf
      obtain ⟨a, xr, rfl, hS, hR⟩ : ∃ a xr, v = .ref a ∧ SqT K G1 a (.str h.s :: xr) ∧ Dts K G1 xr r := by
        cases hd1 with
        | tup hS hR =>
          cases hR with
          | cons h0 hR =>
            cases h0
            exact ⟨_, _, rfl, hS, hR⟩
      with_reducible refine z_cut (fun σ H => H = H1 ∧ σ = [some (.ref a), some (.bl b), none, none] ∧ (b && decide (h = .be)) = false) (fun nx hnx => ?_) (fun σ H2 h2 => ?_)
      · repeat (walk_at "z")
        refine ⟨G1, M, _, _, rfl, z1, hd1, ?_⟩
        rw [hf]
        repeat (walk_at "z")
        cases b with
        | false =>
          repeat (walk_at "z")
          exact hnx _ _ ⟨rfl, rfl, rfl⟩
        | true =>
          repeat (walk_at "z")
          refine z_ixT z1 hS at_zero ?_
          repeat (walk_at "z")
          refine z_eqS rfl ?_
          rw [str_be]
          repeat (walk_at "z")
          refine z_bd (fun c => ?_) (fun c => ?_)
          · repeat (walk_at "z")
            refine z_newL z1 (by simp) fun p G2 H2 z2 s2 e2 => ?_
            exact q p _ G2 H2 z2 (s1.trans s2) e2 (by rw [wp_be (by rw [decide_eq_true c]; rfl)]; exact .cons (hd1.up s2) .nil)
          · repeat (walk_at "z")
            exact hnx _ _ ⟨rfl, rfl, by rw [decide_eq_false c]; rfl⟩
      · obtain ⟨rfl, rfl, hb⟩ := h2
        have q := fun p xs G1' H1' z' s' e' => by
          have := q p xs G1' H1' z' s' e'
          rw [wp_go hb hf] at this
          exact this
        repeat (walk_at "z")
        refine z_anyT ?_
        repeat (walk_at "z")
        refine z_slT z1 hS fun p2 G2 H2 z2 s2 e2 => ?_
        rw [cut_tail] at e2
        refine z_itT z2 e2 ?_
        generalize hbb : (b || decide (h = .be)) = b' at q
        refine for_src src_T (fun i σ G' M' => ∃ k2 k3, M = M' ∧ Same G2 G' ∧ σ = [some (.ref a), some (.bl b), k2, k3] ∧ wpL b' r = wpL b' (r.drop i)) z2 ⟨_, _, rfl, Same.refl _, rfl, by rw [List.drop_zero]⟩ (fun i σ G' M' H' ⟨_, _, _, s', _⟩ z' => z'.seqT (upT s' e2)) ?_ ?_
        · rintro i x σ G' M' H' hx ⟨k2, k3, rfl, s', rfl, hL⟩ z'
          obtain ⟨d', hd', hx'⟩ := (hR.up (s2.trans s')).at_ hx
          have hm := List.mem_of_getElem? hd'
          have hlt : i < r.length := (List.getElem?_eq_some_iff.mp hd').1
          have hdr : r.drop i = d' :: r.drop (i + 1) := by
            rw [List.drop_eq_getElem_cons hlt]
            rw [List.getElem?_eq_getElem hlt] at hd'
            rw [Option.some.inj hd']
          repeat (walk_at "z")
          refine (fun hq => z_b2 (fun c => ?br1) (fun c => ?br2) : spWrong K n [x, .bl b'] H' ?Qn E0 → _) ?main
          case br1 =>
            repeat (walk_at "z")
            have e : b' = true := by rw [← hbb, c]; rfl
            rw [e] at hq
            exact hq
          case br2 =>
            repeat (walk_at "z")
            refine z_ixT z' (upT (s2.trans s') hS) at_zero ?_
            repeat (walk_at "z")
            refine z_eqS rfl ?_
            rw [str_be]
            have e : decide (h = .be) = b' := by rw [← hbb, c]; rfl
            rw [e]
            repeat (walk_at "z")
            exact hq
          refine ⟨G', M, x, b', d', rfl, z', hx', hs.kids d' (List.mem_cons_of_mem _ hm), ?_, fun p3 xs3 G3 H3 z3 s3 e3 h3 => ?_⟩
          · have h1 := dep_kid (List.mem_cons_of_mem (.str h.s) hm)
            have h2 : PyData.depth (.tuple (.str h.s :: r)) = PyData.depthAll (.str h.s :: r) + 1 := rfl
            omega
          repeat (walk_at "z")
          refine z_newL z3 (by simp) fun p4 G4 H4 z4 s4 e4 => ?_
          refine z_neNil (z4.seqL (SqL.of (s4 _ _ e3))) (z4.sub _ _ e4) ?_
          repeat (walk_at "z")
          have sa : Same G G4 := s1.trans (s2.trans (s'.trans (s3.trans s4)))
          cases hw3 : wpD b' d' with
          | some e =>
            rw [hw3] at h3
            cases h3 with
            | cons h3 h4 =>
              cases h4
              refine z_bT' (decide_eq_true (by simp)) ?_
              repeat (walk_at "z")
              refine q p3 _ G4 H4 z4 sa (s4 _ _ e3) ?_
              rw [hL, hdr, wpL, hw3]
              exact .cons (h3.up s4) .nil
          | none =>
            rw [hw3] at h3
            cases h3
            refine z_bF' (decide_eq_false (by simp)) ?_
            repeat (walk_at "z")
            refine ⟨G4, M, z4, _, _, rfl, s'.trans (s3.trans s4), rfl, ?_⟩
            rw [hL, hdr, wpL, hw3]
        · rintro σ G3 M3 H3 ⟨k2, k3, rfl, s3, rfl, hL⟩ z3
          rw [(hR.len (ds := [])), List.drop_length, wpL] at hL
          repeat (walk_at "z")
          refine z_newL z3 (by simp) fun p4 G4 H4 z4 s4 e4 => ?_
          exact q p4 [] G4 H4 z4 (s1.trans (s2.trans (s3.trans s4))) e4 (by rw [hL]; exact .nil)
def spIsPlan (K : PySem.W.Frag) (n : Nat) : Sp := fun vs H Q _ => ∃ G M v d, vs = [v] ∧ Zp G M H ∧ Dt K G v d ∧ Sht d ∧ d.depth < n ∧ ∀ G1 H1, Zp G1 M H1 → Same G G1 → Q (.bl (wpD false d).isNone) H1
theorem ok_is_plan {n : Nat} (T : Nm K mg) (C_wrong_part : Own P w K mg base CX0 (n + 1) "wrong_part" ["value", "is_beside"] (spWrong K n)) (F : FnP K "is_plan" s_is_plan f fd) : FnOk P w K mg base CX0 (n + 2) f fd ["value"] (spIsPlan K n) := by
  have nd : N_is_plan.Nodup := sc_is_plan.nd
  refine F.ok sc_is_plan (fun vs H Q E h => ?_) (fun cdv A outer s H vs Q E hr h => ?_)
  · obtain ⟨G, M, v, d, rfl, _⟩ := h
    rfl
  have hu := hr.units
  refine ⟨_, PSs.nox   (pss_one (ps_ret (pe_cmpR (k_eq (K := K) hu) (pe_own C_wrong_part (hr.mono (by omega)) (by rfl) pass0 (pa_cons (pv 0) (pa_cons pe_bl pa_nil))) (pe_lst pa_nil) (nomark _)))), ?_⟩
  obtain ⟨G, M, v, d, rfl, z, hd, hs, hn, q⟩ := h
  repeat (walk_at "z")
  refine ⟨G, M, v, false, d, rfl, z, hd, hs, hn, fun p xs G1 H1 z1 s1 e1 h1 => ?_⟩
  repeat (walk_at "z")
  refine z_newL z1 (by simp) fun p2 G2 H2 z2 s2 e2 => ?_
  refine z_eqNil (z2.seqL (SqL.of (s2 _ _ e1))) (z2.sub _ _ e2) ?_
  refine z_cg ?_ (q G2 H2 z2 (s1.trans s2))
  cases hw : wpD false d with
  | none =>
    rw [hw] at h1
    cases h1
    rfl
  | some e =>
    rw [hw] at h1
    cases h1
    rfl
end
end LW
namespace LW
open PySem PySem.Spec PyProof.Rows L2 Ys

theorem flat_app : ∀ xs ys : List Pl, flat (xs ++ ys) = flat xs ++ flat ys
  | [], ys => rfl
  | x :: xs, ys => by rw [List.cons_append, flat, flat, flat_app xs ys, List.append_assoc]
theorem take_snoc {α : Type} {l : List α} {i : Nat} {x : α} (h : l[i]? = some x) : l.take (i + 1) = l.take i ++ [x] := by rw [List.take_add_one, h]; rfl
theorem pl_at {K : PySem.W.Frag} {G : Hp} {xs : List V} {ps : List Pl} {i : Nat} {x : V} (h : Dts K G xs (Pl.dl ps)) (e : xs[i]? = some x) : ∃ p, ps[i]? = some p ∧ Dt K G x p.d := by
  obtain ⟨d, h1, h2⟩ := h.at_ e
  rw [dl_map, List.getElem?_map] at h1
  cases q : ps[i]? with
  | none => rw [q] at h1; cases h1
  | some p =>
    rw [q] at h1
    obtain rfl : p.d = d := Option.some.inj h1
    exact ⟨p, rfl, h2⟩
theorem pls_len {K : PySem.W.Frag} {G : Hp} {xs : List V} {ps : List Pl} (h : Dts K G xs (Pl.dl ps)) : xs.length = ps.length := by
  rw [h.len (ds := []), dl_map, List.length_map]
theorem szl_take : ∀ (ps : List Pl) (i : Nat), Pl.szl (ps.take i) ≤ Pl.szl ps
  | [], i => by rw [List.take_nil]; exact Nat.le_refl _
  | p :: ps, 0 => by simp [Pl.szl]
  | p :: ps, i + 1 => by
    have := szl_take ps i
    rw [List.take_succ_cons, Pl.szl, Pl.szl]
    omega
theorem dt_nm {K : PySem.W.Frag} {G : Hp} {v : V} {s : Str} (h : Dt K G v (Pl.nm s).d) : v = .str s := by
  rw [Pl.d] at h
  cases h
  rfl
theorem dt_nd {K : PySem.W.Frag} {G : Hp} {v : V} {h : Hd} {ps : List Pl} (k : Dt K G v (Pl.nd h ps).d) : ∃ a xr, v = .ref a ∧ SqT K G a (.str h.s :: xr) ∧ Dts K G xr (Pl.dl ps) := by
  rw [Pl.d] at k
  cases k with
  | tup hS hR =>
    cases hR with
    | cons h0 hR =>
      cases h0
      exact ⟨_, _, rfl, hS, hR⟩
theorem dt_mk {K : PySem.W.Frag} {G : Hp} {a : Addr} {h : Hd} {xr : List V} {ps : List Pl} (hS : SqT K G a (.str h.s :: xr)) (hR : Dts K G xr (Pl.dl ps)) : Dt K G (.ref a) (Pl.nd h ps).d := by
  rw [Pl.d]
  exact .tup hS (.cons (.str _) hR)
theorem dts_app {K : PySem.W.Frag} {G : Hp} {xs ys : List V} {ps qs : List Pl} (h1 : Dts K G xs (Pl.dl ps)) (h2 : Dts K G ys (Pl.dl qs)) : Dts K G (xs ++ ys) (Pl.dl (ps ++ qs)) := by
  have e : Pl.dl (ps ++ qs) = Pl.dl ps ++ Pl.dl qs := by rw [dl_map, dl_map, dl_map, List.map_append]
  rw [e]
  exact h1.app h2
theorem z_extLast {K : PySem.W.Frag} {G H : Hp} {M : List (Addr × HO)} {a b : Addr} {xs ys : List V} {Q : VK} (z : Zp G (M ++ [(a, .lst xs)]) H) (h : H b = some (.lst ys)) (hl : xs.length + ys.length ≤ 4000000) (q : ∀ H1, Zp G (M ++ [(a, .lst (xs ++ ys))]) H1 → Q .non H1) : rExtend (.ref a) [.ref b] H Q ∨ rExtT K (.ref a) [.ref b] H Q :=
  z_extL z M.length last_at h hl fun H1 z1 => q H1 (by rw [List.set_append_right _ _ (Nat.le_refl _), Nat.sub_self] at z1; exact z1)
theorem z_extLastT {K : PySem.W.Frag} {G H : Hp} {M : List (Addr × HO)} {a b : Addr} {xs ys : List V} {Q : VK} (z : Zp G (M ++ [(a, .lst xs)]) H) (h : SqT K H b ys) (hl : xs.length + ys.length ≤ 4000000) (q : ∀ H1, Zp G (M ++ [(a, .lst (xs ++ ys))]) H1 → Q .non H1) : rExtend (.ref a) [.ref b] H Q ∨ rExtT K (.ref a) [.ref b] H Q :=
  z_extT z M.length last_at h hl fun H1 z1 => q H1 (by rw [List.set_append_right _ _ (Nat.le_refl _), Nat.sub_self] at z1; exact z1)
section
variable {P : Program} {w : World} {K : PySem.W.Frag} {mg : Str → Option Value} {base : Heap} {f : Addr} {fd : FuncData}
def spSeq (K : PySem.W.Frag) : Sp := fun vs H Q _ => ∃ G M a xs ps, vs = [.ref a] ∧ Zp G M H ∧ SqL K G a xs ∧ Dts K G xs (Pl.dl ps) ∧ Pl.szl ps ≤ 20000 ∧ ∀ v G1 H1, Zp G1 M H1 → Same G G1 → Dt K G1 v (seqn ps).d → Q v H1
def spAlong (K : PySem.W.Frag) : Sp := fun vs H Q _ => ∃ G M v1 v2 a b, vs = [v1, v2] ∧ Zp G M H ∧ Dt K G v1 (Pl.d a) ∧ Dt K G v2 (Pl.d b) ∧ Nms a ∧ Nms b ∧ a.dp ≤ 55 ∧ b.dp ≤ 55 ∧ ∀ v G1 H1, Zp G1 M H1 → Same G G1 → Dt K G1 v (along a b).d → Q v H1
def spNF (K : PySem.W.Frag) (n : Nat) : Sp := fun vs H Q _ => ∃ G M v p b, vs = [v] ∧ Zp G M H ∧ Dt K G v (Pl.d p) ∧ Ok b p ∧ p.dp < n ∧ p.dp ≤ 50 ∧ p.sz ≤ 300000 ∧ ∀ v' G1 H1, Zp G1 M H1 → Same G G1 → Dt K G1 v' (nf p).d → Q v' H1
end
end LW
namespace LW
open PySem PySem.Spec PyProof.Rows L2 Ys

/-! ### drawn plans -/
def cst : Nat → Nat
  | 0 => 4
  | d + 1 => 4 + 4 * cst d
def szB : Nat → Nat
  | 0 => 1
  | d + 1 => 1 + 4 * szB d
theorem cst_pos : ∀ d, 4 ≤ cst d
  | 0 => Nat.le_refl _
  | d + 1 => by rw [cst]; omega
theorem szB_pos : ∀ d, 1 ≤ szB d
  | 0 => Nat.le_refl _
  | d + 1 => by rw [szB]; omega
inductive NarP : Pl → Prop where
  | nm {s : Str} : NarP (.nm s)
  | nd {h : Hd} {ps : List Pl} : ps.length ≤ 4 → (∀ p ∈ ps, NarP p) → NarP (.nd h ps)
structure Dr (inner : Bool) (d : Nat) (ns : List Str) (q : Pl) : Prop where
  ok : Ok inner q
  dp : q.dp ≤ d + 1
  sz : q.sz ≤ szB d
  mem : ∀ s ∈ nmsL q, s ∈ ns
  ar : NarP q
theorem nmsLl_mem {s : Str} : ∀ {qs : List Pl}, s ∈ nmsLl qs → ∃ q ∈ qs, s ∈ nmsL q
  | [], h => by simp [nmsLl] at h
  | q :: qs, h => by
    rw [nmsLl] at h
    rcases List.mem_append.mp h with h | h
    · exact ⟨q, by simp, h⟩
    · obtain ⟨p, hp, hs⟩ := nmsLl_mem h
      exact ⟨p, List.mem_cons_of_mem _ hp, hs⟩
theorem szl_le {n : Nat} : ∀ {qs : List Pl}, (∀ q ∈ qs, q.sz ≤ n) → Pl.szl qs ≤ qs.length * n
  | [], _ => by simp [Pl.szl]
  | q :: qs, h => by
    have h1 := h q (by simp)
    have h2 := szl_le fun p hp => h p (List.mem_cons_of_mem _ hp)
    rw [Pl.szl, List.length_cons, Nat.add_mul, Nat.one_mul]
    omega
section
variable {P : Program} {w : World} {K : PySem.W.Frag} {mg : Str → Option Value} {base : Heap} {f : Addr} {fd : FuncData}
def nmsLl' (qs : List Pl) : Nat := (nmsLl qs).length
def spPlan (K : PySem.W.Frag) (n : Nat) : Sp := fun vs H Q _ => ∃ p o G M b na ns ra, ∃ rm : Int, ∃ d : Nat, ∃ inner, vs = [.ref p, .ref na, .ref ra, .int d, .bl inner] ∧ Zp G ((p, o) :: (ra, .lst [.int rm]) :: M) H ∧ Pen K G b o ∧ b + cst d ≤ 100000000000 ∧
  SqL K G na (ns.map V.str) ∧ ns ≠ [] ∧ ns.length ≤ 1000 ∧ (∀ s ∈ ns, Wd s) ∧ 0 ≤ rm ∧ rm ≤ 1000 ∧ d < n ∧
  ∀ v q G1 H1 o1, ∀ rm' : Int, Zp G1 ((p, o1) :: (ra, .lst [.int rm']) :: M) H1 → Same G G1 → Pen K G1 (b + cst d) o1 → Dt K G1 v (Pl.d q) → Dr inner d ns q → 0 ≤ rm' → ((nmsL q).length : Int) + rm' ≤ rm → Q v H1
theorem ok_plan {n : Nat} (T : Nm K mg) (C_law_draw : OwnD P w K mg base) (C_law_pick : OwnP P w K mg base) (C_law_plan : Own P w K mg base CX0 (n + 3) "_law_plan" ["_law_pen_here", "_law_names", "_law_room", "_law_deep", "_law_is_inner"] (spPlan K n)) (F : FnP K "_law_plan" s_law_plan f fd) : FnOk P w K mg base CX0 (n + 4) f fd ["_law_pen_here", "_law_names", "_law_room", "_law_deep", "_law_is_inner"] (spPlan K (n + 1)) := by
  have nd : N_law_plan.Nodup := sc_law_plan.nd
  refine F.ok sc_law_plan (fun vs H Q E h => ?_) (fun cdv A outer s H vs Q E hr h => ?_)
  · obtain ⟨p, o, G, M, b, na, ns, ra, rm, d, inner, rfl, _⟩ := h
    rfl
  have hu := hr.units
  refine ⟨_, PSs.nox   (pss_cons (ps_asg (pe_ifExp (PW.pt (pw_and (pt_cmpR o_gt (pv 3) pe_int (nomark _)) (pw_and1 (pt_cmpR o_gt (pe_ix (k_ix (K := K)) (pv 2) pe_int (fun _ _ => rfl)) pe_int (nomark _))))) (pe_own C_law_draw (hr.mono (by omega)) (by rfl) pass0 (pa_cons (pv 0) (pa_cons pe_int pa_nil))) pe_int) (pg_name (i := 5) nd rfl (by first | exact .inl rfl | exact .inr rfl)))
    (pss_cons (ps_if (PW.pt (pw_and (pt_cmpR o_lt (pv 5) pe_int (nomark _)) (pw_and1 (pt_cmpR o_gt (pe_ix (k_ix (K := K)) (pv 2) pe_int (fun _ _ => rfl)) pe_int (nomark _))))) (pss_cons (ps_asg (pe_op o_sub (pe_ix (k_ix (K := K)) (pv 2) pe_int (fun _ _ => rfl)) pe_int) (pg_sub (pv 2) pe_int set_list))
    (pss_one (ps_ret (pe_own C_law_pick (hr.mono (by omega)) (by rfl) pass0 (pa_cons (pv 0) (pa_cons (pv 1) pa_nil)))))) pss_nil)
    (pss_cons (ps_if (pt_cmpR o_le (pe_ix (k_ix (K := K)) (pv 2) pe_int (fun _ _ => rfl)) pe_int (nomark _)) (pss_one (ps_ret (pe_tup (pa_cons pe_str pa_nil)))) pss_nil)
    (pss_cons (ps_if (pt_cmpR (k_eq (K := K) hu) (pv 5) pe_int (nomark _)) (pss_one (ps_ret (pe_tup (pa_cons pe_str (pa_cons (pe_own C_law_plan (hr.mono (by omega)) (by rfl) pass0 (pa_cons (pv 0) (pa_cons (pv 1) (pa_cons (pv 2) (pa_cons (pe_op o_sub (pv 3) pe_int) (pa_cons (pv 4) pa_nil)))))) pa_nil))))) pss_nil)
    (pss_cons (ps_if (PW.pt (pw_and (pt_cmpR (k_eq (K := K) hu) (pv 5) pe_int (nomark _)) (pw_and1 (pt_not (pt_val (pv 4)))))) (pss_cons (ps_asg (pe_own C_law_plan (hr.mono (by omega)) (by rfl) pass0 (pa_cons (pv 0) (pa_cons (pv 1) (pa_cons (pv 2) (pa_cons (pe_op o_sub (pv 3) pe_int) (pa_cons pe_bl pa_nil)))))) (pg_name (i := 7) nd rfl (by first | exact .inl rfl | exact .inr rfl)))
    (pss_one (ps_ret (pe_tup (pa_cons pe_str (pa_cons (pv 7) (pa_cons (pe_own C_law_plan (hr.mono (by omega)) (by rfl) pass0 (pa_cons (pv 0) (pa_cons (pv 1) (pa_cons (pv 2) (pa_cons (pe_op o_sub (pv 3) pe_int) (pa_cons pe_bl pa_nil)))))) pa_nil))))))) pss_nil)
    (pss_cons (ps_asg (pe_own C_law_pick (hr.mono (by omega)) (by rfl) pass0 (pa_cons (pv 0) (pa_cons (pe_lst (pa_cons (pe_tup (pa_cons pe_str (pa_cons pe_int pa_nil))) (pa_cons (pe_tup (pa_cons pe_str (pa_cons pe_int pa_nil))) (pa_cons (pe_tup (pa_cons pe_str (pa_cons pe_int pa_nil))) (pa_cons (pe_tup (pa_cons pe_str (pa_cons pe_int pa_nil))) (pa_cons (pe_tup (pa_cons pe_str (pa_cons pe_int pa_nil))) pa_nil)))))) pa_nil))) (kg_tup (K := K) (n := 2) rfl (pgs_cons (pg_name (i := 8) nd rfl (by first | exact .inl rfl | exact .inr rfl)) (pgs_cons (pg_name (i := 9) nd rfl (by first | exact .inl rfl | exact .inr rfl)) pgs_nil))))
    (pss_cons (ps_asg (pe_op (k_add (K := K)) (pv 9) (pe_own C_law_draw (hr.mono (by omega)) (by rfl) pass0 (pa_cons (pv 0) (pa_cons pe_int pa_nil)))) (pg_name (i := 6) nd rfl (by first | exact .inl rfl | exact .inr rfl)))
    (pss_one (ps_ret (pe_op (k_add (K := K)) (pe_tup (pa_cons (pv 8) pa_nil)) (pe_callTy (kc_tuple (K := K)) (by rfl) T.b_tuple boot_tuple (pa_cons (pe_lc (own := [("_law_k", 10)]) (tt := tYes) rfl nd (pi_range1 (by rfl) (T.b_range) (pa_cons (pv 6) pa_nil)) (blkOk_by (N := N_law_plan) (sc := defScope s_law_plan) (by decide +kernel)) (fun _ _ _ _ _ => (pg_name (i := 10) nd rfl (by first | exact .inl rfl | exact .inr rfl))) (fun _ _ _ _ _ => pts_nil) (fun _ _ _ _ _ => (pe_own C_law_plan (hr.mono (by omega)) (by rfl) pass0 (pa_cons (pv 0) (pa_cons (pv 1) (pa_cons (pv 2) (pa_cons (pe_op o_sub (pv 3) pe_int) (pa_cons (pv 4) pa_nil)))))))) pa_nil)))))))))))), ?_⟩
  obtain ⟨p, o, G, M, b, na, ns, ra, rm, d, inner, rfl, z, hp, hb, hN, hn0, hnl, hnw, r0, r1, hd, q⟩ := h
  have c4 := cst_pos d
  -- the way
  with_reducible refine z_cut (fun σ H => ∃ o1 G1, ∃ wy : Int, Zp G1 ((p, o1) :: (ra, .lst [.int rm]) :: M) H ∧ Same G G1 ∧ Pen K G1 (b + 1) o1 ∧ (3 ≤ wy → 0 < d ∧ 1 < rm) ∧
    σ = [some (.ref p), some (.ref na), some (.ref ra), some (.int d), some (.bl inner), some (.int wy), none, none, none, none, none]) (fun nx hnx => ?_) (fun σ H2 h2 => ?_)
  · repeat (walk_at "z")
    refine z_b2 (fun c => ?_) (fun c => ?_)
    · have c := of_decide_eq_true c
      repeat (walk_at "z")
      refine z_ixH (SqL.of (z.at_ 1 rfl)) at_zero ?_
      repeat (walk_at "z")
      refine z_b2 (fun c2 => ?_) (fun c2 => ?_)
      · have c2 := of_decide_eq_true c2
        repeat (walk_at "z")
        refine ⟨p, o, G, _, b, _, rfl, z, hp, by omega, by decide, by decide, fun wy G1 H1 o1 z1 s1 hp1 w0 w1 => ?_⟩
        repeat (walk_at "z")
        exact hnx _ _ ⟨o1, G1, wy, z1, s1, hp1, fun _ => ⟨by omega, by omega⟩, rfl⟩
      · repeat (walk_at "z")
        exact hnx _ _ ⟨o, G, 0, z, Same.refl _, hp.mono (by omega), fun h => absurd h (by decide), rfl⟩
    · repeat (walk_at "z")
      exact hnx _ _ ⟨o, G, 0, z, Same.refl _, hp.mono (by omega), fun h => absurd h (by decide), rfl⟩
  obtain ⟨o1, G1, wy, z1, s1, hp1, hwy, rfl⟩ := h2
  have hN1 := upL s1 hN
  have hlit : (ns.map V.str) ≠ [] := fun e => hn0 (List.map_eq_nil_iff.mp e)
  -- a name
  with_reducible refine z_cut (fun σ H => H = H2 ∧ σ = [some (.ref p), some (.ref na), some (.ref ra), some (.int d), some (.bl inner), some (.int wy), none, none, none, none, none] ∧ (3 ≤ wy ∨ rm = 0)) (fun nx hnx => ?_) (fun σ H3 h3 => ?_)
  · repeat (walk_at "z")
    refine z_b2 (fun c => ?_) (fun c => ?_)
    · repeat (walk_at "z")
      refine z_ixH (SqL.of (z1.at_ 1 rfl)) at_zero ?_
      repeat (walk_at "z")
      refine z_b2 (fun c2 => ?_) (fun c2 => ?_)
      · have c2 := of_decide_eq_true c2
        repeat (walk_at "z")
        refine z_ixH (SqL.of (z1.at_ 1 rfl)) at_zero ?_
        repeat (walk_at "z")
        refine z_setO (j := 0) z1 1 rfl rfl fun H4 z4 => ?_
        repeat (walk_at "z")
        have z4 : Zp G1 ((p, o1) :: (ra, .lst [.int (rm - 1)]) :: M) H4 := z4
        refine ⟨p, o1, G1, _, b + 1, _, rfl, z4, hp1, by omega, .inl ⟨na, _, rfl, .inl hN1, hlit, by rw [List.length_map]; omega, fun v G5 H5 o5 hv z5 s5 hp5 => ?_⟩⟩
        obtain ⟨nm, hnm, rfl⟩ := List.mem_map.mp hv
        refine q _ (.nm nm) G5 H5 o5 (rm - 1) z5 (s1.trans s5) (hp5.mono (by omega)) (by rw [Pl.d]; exact .str _) ⟨.nm (hnw nm hnm), by rw [Pl.dp]; omega, by rw [Pl.sz]; exact szB_pos d, fun s hs => by rw [nmsL] at hs; rw [List.mem_singleton.mp hs]; exact hnm, .nm⟩ (by omega) ?_
        rw [nmsL]
        show (1 : Int) + (rm - 1) ≤ rm
        omega
      · have c2 := of_decide_eq_false c2
        repeat (walk_at "z")
        exact hnx _ _ ⟨rfl, rfl, .inr (by omega)⟩
    · have c := of_decide_eq_false c
      repeat (walk_at "z")
      exact hnx _ _ ⟨rfl, rfl, .inl (by omega)⟩
  obtain ⟨rfl, rfl, h3⟩ := h3
  repeat (walk_at "z")
  refine z_ixH (SqL.of (z1.at_ 1 rfl)) at_zero ?_
  repeat (walk_at "z")
  by_cases hz : rm ≤ 0
  · rw [decide_eq_true hz]
    repeat (walk_at "z")
    refine z_newT z1 (by simp) fun p2 G3 H3' z3 s3 e3 => ?_
    refine q _ done G3 _ o1 rm z3 (s1.trans s3) ((hp1.up s3).mono (by omega)) (by rw [done]; exact dt_mk (h := .th) (SqT.of e3) .nil) ⟨.nd rfl (fun _ => by decide) (fun p hp => by cases hp), by simp [done, Pl.dp, Pl.dpl], by rw [done, Pl.sz]; simp [Pl.szl]; exact szB_pos d, fun s hs => by simp [done, nmsL, nmsLl] at hs, .nd (Nat.zero_le _) fun p hp => by cases hp⟩ r0 ?_
    rw [done, nmsL]
    simp [nmsLl]
  rw [decide_eq_false hz]
  have hw3 : 3 ≤ wy := h3.elim id (fun h => absurd h (by omega))
  obtain ⟨hd0, hr1⟩ := hwy hw3
  obtain ⟨d', rfl⟩ : ∃ d', d = d' + 1 := ⟨d - 1, by omega⟩
  have ed : ((d' + 1 : Nat) : Int) - 1 = (d' : Int) := by omega
  rw [cst] at hb
  rw [cst] at q
  have kidsDr : ∀ {h : Hd} {qs : List Pl} {i' : Bool}, h.fit qs.length = true → (inner = true → h ≠ .be) → i' = (inner || decide (h = .be)) → (∀ x ∈ qs, Dr i' d' ns x) → qs.length ≤ 4 → Dr inner (d' + 1) ns (.nd h qs) := fun f c e k l => by
    subst e
    refine ⟨.nd f c fun x hx => (k x hx).ok, ?_, ?_, fun s hs => ?_, .nd l fun x hx => (k x hx).ar⟩
    · rw [Pl.dp]
      exact Nat.succ_le_succ (dpl_le fun x hx => (k x hx).dp)
    · have := szl_le fun x hx => (k x hx).sz
      have h2 := Nat.mul_le_mul_right (szB d') l
      rw [Pl.sz, szB]
      omega
    · rw [nmsL] at hs
      obtain ⟨x, hx, hs⟩ := nmsLl_mem hs
      exact (k x hx).mem s hs
  repeat (walk_at "z")
  refine z_eqS rfl ?_
  repeat (walk_at "z")
  refine z_bd (fun c6 => ?_) (fun c6 => ?_)
  · repeat (walk_at "z")
    rw [ed]
    refine ⟨p, o1, G1, M, b + 1, na, ns, ra, rm, d', inner, rfl, z1, hp1, by omega, hN1, hn0, hnl, hnw, r0, r1, by omega, fun v x G3 H3' o3 rm3 z3 s3 hp3 dv dr m0 m1 => ?_⟩
    repeat (walk_at "z")
    refine z_newT z3 (by simp) fun p2 G4 H4 z4 s4 e4 => ?_
    refine q _ (.nd .ag [x]) G4 _ o3 rm3 z4 (s1.trans (s3.trans s4)) ((hp3.up s4).mono (by omega)) (dt_mk (h := .ag) (SqT.of e4) (by rw [dl_map]; exact .cons (dv.up s4) .nil)) (kidsDr (i' := inner) rfl (fun _ => by decide) (by simp) (fun y hy => by rw [List.mem_singleton.mp hy]; exact dr) (by simp)) m0 ?_
    rw [nmsL]
    simpa [nmsLl] using m1
  repeat (walk_at "y")
  with_reducible refine z_cut (fun σ H => H = H3 ∧ σ = [some (.ref p), some (.ref na), some (.ref ra), some (.int (d' + 1 : Nat)), some (.bl inner), some (.int wy), none, none, none, none, none]) (fun nx hnx => ?_) (fun σ H4 h4 => ?_)
  · repeat (walk_at "z")
    refine z_eqS rfl ?_
    repeat (walk_at "z")
    refine z_bd (fun c7 => ?_) (fun c7 => ?_)
    · repeat (walk_at "z")
      cases inner with
      | true =>
        repeat (walk_at "z")
        exact hnx _ _ ⟨rfl, rfl⟩
      | false =>
        repeat (walk_at "z")
        rw [ed]
        refine ⟨p, o1, G1, M, b + 1, na, ns, ra, rm, d', true, rfl, z1, hp1, by omega, hN1, hn0, hnl, hnw, r0, r1, by omega, fun v x G3 H3' o3 rm3 z3 s3 hp3 dv dr m0 m1 => ?_⟩
        repeat (walk_at "z")
        rw [ed]
        refine ⟨p, o3, G3, M, _, na, ns, ra, rm3, d', true, rfl, z3, hp3, by omega, upL s3 hN1, hn0, hnl, hnw, m0, by omega, by omega, fun v2 x2 G4 H4 o4 rm4 z4 s4 hp4 dv2 dr2 m2 m3 => ?_⟩
        repeat (walk_at "z")
        refine z_newT z4 (by simp) fun p2 G5 H5 z5 s5 e5 => ?_
        refine q _ (.nd .be [x, x2]) G5 _ o4 rm4 z5 (s1.trans (s3.trans (s4.trans s5))) ((hp4.up s5).mono (by omega)) (dt_mk (h := .be) (SqT.of e5) (by rw [dl_map]; exact .cons (dv.up (s4.trans s5)) (.cons (dv2.up s5) .nil))) (kidsDr (i' := true) rfl (fun h => by cases h) rfl (fun y hy => ?_) (by simp)) m2 ?_
        · rcases List.mem_cons.mp hy with rfl | hy
          · exact dr
          · rw [List.mem_singleton.mp hy]; exact dr2
        · rw [nmsL]
          simp [nmsLl]
          omega
    · repeat (walk_at "z")
      exact hnx _ _ ⟨rfl, rfl⟩
  obtain ⟨rfl, rfl⟩ := h4
  repeat (walk_at "z")
  refine z_newT z1 (by simp) fun t1 G3 H3 z3 s3 e3 => ?_
  repeat (walk_at "z")
  refine z_newT z3 (by simp) fun t2 G4 H4 z4 s4 e4 => ?_
  repeat (walk_at "z")
  refine z_newT z4 (by simp) fun t3 G5 H5 z5 s5 e5 => ?_
  repeat (walk_at "z")
  refine z_newT z5 (by simp) fun t4 G6 H6 z6 s6 e6 => ?_
  repeat (walk_at "z")
  refine z_newT z6 (by simp) fun t5 G7 H7 z7 s7 e7 => ?_
  repeat (walk_at "z")
  refine z_newL z7 (by simp) fun l8 G8 H8 z8 s8 e8 => ?_
  repeat (walk_at "z")
  have s18 : Same G1 G8 := s3.trans (s4.trans (s5.trans (s6.trans (s7.trans s8))))
  refine ⟨p, o1, G8, _, b + 1, _, rfl, z8, hp1.up s18, by omega, .inl ⟨l8, _, rfl, .inl (SqL.of e8), by simp, by simp, fun v G9 H9 o9 hv z9 s9 hp9 => ?_⟩⟩
  obtain ⟨t, h, l, rfl, hT, l0, l2, hfit, hb1, hb2⟩ : ∃ (t : Addr) (h : Hd) (l : Int), v = .ref t ∧ SqT K G9 t [.str h.s, .int l] ∧ 0 ≤ l ∧ l ≤ 2 ∧ (∀ k : Nat, l ≤ k → h.fit k = true) ∧ h ≠ .be ∧ True := by
    have one : ∀ {t : Addr} {h : Hd} {l : Int} {Gx : Hp}, Gx t = some (.tup [.str h.s, .int l]) → Same Gx G9 → SqT K G9 t [.str h.s, .int l] := fun e s => SqT.of (s _ _ e)
    rcases List.mem_cons.mp hv with rfl | hv
    · exact ⟨t1, .th, 0, rfl, one (h := .th) e3 (s4.trans (s5.trans (s6.trans (s7.trans (s8.trans s9))))), by decide, by decide, fun _ _ => rfl, by decide, trivial⟩
    rcases List.mem_cons.mp hv with rfl | hv
    · exact ⟨t2, .th, 2, rfl, one (h := .th) e4 (s5.trans (s6.trans (s7.trans (s8.trans s9)))), by decide, by decide, fun _ _ => rfl, by decide, trivial⟩
    rcases List.mem_cons.mp hv with rfl | hv
    · exact ⟨t3, .th, 2, rfl, one (h := .th) e5 (s6.trans (s7.trans (s8.trans s9))), by decide, by decide, fun _ _ => rfl, by decide, trivial⟩
    rcases List.mem_cons.mp hv with rfl | hv
    · exact ⟨t4, .ei, 1, rfl, one (h := .ei) e6 (s7.trans (s8.trans s9)), by decide, by decide, fun k hk => decide_eq_true (by omega), by decide, trivial⟩
    rcases List.mem_cons.mp hv with rfl | hv
    · exact ⟨t5, .an, 1, rfl, one (h := .an) e7 (s8.trans s9), by decide, by decide, fun k hk => decide_eq_true (by omega), by decide, trivial⟩
    · cases hv
  have s19 := s1.trans (s18.trans s9)
  have hN9 := upL s19 hN
  clear e3 e4 e5 e6 e7 e8 z3 z4 z5 z6 z7 z8 s3 s4 s5 s6 s7 s8
  repeat (walk_at "z")
  refine z_gtup z9 hT rfl ?_
  repeat (walk_at "z")
  refine ⟨p, o9, G9, _, _, _, rfl, z9, hp9, by omega, by decide, by decide, fun dr3 G10 H10 o10 z10 s10 hp10 d0 d3 => ?_⟩
  repeat (walk_at "z")
  generalize hnum : l + dr3 = num
  refine z_newT z10 (by simp) fun tw G11 H11 z11 s11 e11 => ?_
  repeat (walk_at "z")
  refine z_itR (by omega) (by omega) ?_
  have s1b := s19.trans (s10.trans s11)
  refine lc_src src_R (fun i G' M' acc => ∃ o' qs, ∃ rm' : Int, M' = (p, o') :: (ra, .lst [.int rm']) :: M ∧ Same G11 G' ∧ Pen K G' (b + 4 + i * cst d') o' ∧ Dts K G' acc (Pl.dl qs) ∧ qs.length = i ∧ (∀ x ∈ qs, Dr inner d' ns x) ∧ 0 ≤ rm' ∧ ((nmsLl qs).length : Int) + rm' ≤ rm) z11
    ⟨o10, [], rm, rfl, Same.refl _, by rw [Nat.zero_mul]; exact (hp10.up s11).mono (by omega), .nil, rfl, (fun x hx => by cases hx), r0, by simp [nmsLl]⟩ (fun _ _ _ _ _ _ _ _ => trivial) ?_ ?_
  · rintro i x G' M' acc Dl H' hx ⟨o', qs, rm', rfl, s', hp', hA, hqi, hqs, m0, m1⟩ z'
    obtain ⟨hi, rfl⟩ := rng_at hx
    have hi4 : i < 4 := by omega
    have hik : i * cst d' ≤ 3 * cst d' := Nat.mul_le_mul_right _ (by omega)
    have hal := pls_len hA
    repeat (walk_at "z")
    refine ⟨by rfl, ?_⟩
    repeat (walk_at "z")
    rw [ed]
    refine ⟨p, o', G', _, _, na, ns, ra, rm', d', inner, rfl, z', hp', by omega, upL (s1b.trans s') hN, hn0, hnl, hnw, m0, by omega, by omega, fun v q' G3 H3 o3 rm3 z3 s3 hp3 dv dr m2 m3 => ?_⟩
    refine z_laid (M := (p, o3) :: (ra, .lst [.int rm3]) :: M) z3 (by omega) ⟨o3, qs ++ [q'], rm3, rfl, s'.trans s3, hp3.mono (by rw [Nat.add_mul, Nat.one_mul]; omega), dts_app (hA.up s3) (by rw [dl_map]; exact .cons dv .nil), by simp [hqi], fun y hy => ?_, m2, ?_⟩
    · rcases List.mem_append.mp hy with hy | hy
      · exact hqs y hy
      · rw [List.mem_singleton.mp hy]; exact dr
    · have en : nmsLl (qs ++ [q']) = nmsLl qs ++ nmsL q' := by
        have go : ∀ a b : List Pl, nmsLl (a ++ b) = nmsLl a ++ nmsLl b := by
          intro a b
          induction a with
          | nil => simp [nmsLl]
          | cons x a ih => rw [List.cons_append, nmsLl, nmsLl, ih, List.append_assoc]
        rw [go]
        simp [nmsLl]
      rw [en, List.length_append]
      omega
  rintro p5 G5' M5 acc G5 H5 ⟨o5, qs, rm5, rfl, s5', hp5, hA, hqi, hqs, m0, m1⟩ s5 z5 e5
  rw [rngV_len] at hqi hp5
  have hq4 : qs.length ≤ 4 := by omega
  have hik : num.toNat * cst d' ≤ 4 * cst d' := Nat.mul_le_mul_right _ (by omega)
  have hal := pls_len hA
  repeat (walk_at "z")
  refine z_tupL z5 (SqL.of e5) fun p6 G6 H6 z6 s6 e6 => ?_
  refine z_addT z6 (upT (s5'.trans (s5.trans s6)) (SqT.of e11)) e6 (by simp; omega) fun p7 G7 H7 z7 s7 e7 => ?_
  have sA := s5.trans (s6.trans s7)
  refine q _ (.nd h qs) G7 _ o5 rm5 z7 (s1b.trans (s5'.trans sA)) ((hp5.up sA).mono (by omega)) (dt_mk e7 (hA.up sA)) (kidsDr (i' := inner) (hfit _ (by omega)) (fun _ => hb1) (by rw [decide_eq_false hb1, Bool.or_false]) hqs hq4) m0 ?_
  rw [nmsL]
  exact m1
end
end LW
namespace LW
open PySem PySem.Spec PyProof.Rows L2 Ys

/-! ### _law_pick, raw -/
theorem unbooked {K : PySem.W.Frag} {h : Heap} (X : K.In h) (lim : h.NoLimit) (e : PySem.W.nsIn K cStatics sharingNotToldKey = some none) : NoneBooked h := by
  obtain ⟨mc, hn, _⟩ := lim
  refine ⟨mc, hn, ?_⟩
  obtain ⟨o, es, ep, ho, hd, hk, hf⟩ := hn
  rw [← hf]
  unfold PySem.W.nsIn at e
  cases lk : K.lookup cStatics with
  | none => rw [lk] at e; cases e
  | some ob =>
    have eo : ob = o := Option.some.inj ((X _ _ lk).symm.trans ho)
    subst eo
    obtain ⟨c1, c2, c3, c4⟩ := ob
    have hd : c3 = .dict es ep := hd
    subst hd
    rw [lk] at e
    dsimp only at e
    cases q : es.toList.find? (fun x => x.key.isStr sharingNotToldKey) with
    | some y => rw [q] at e; cases e
    | none =>
      unfold nsFind findBy
      have : es.find? (fun x => x.key.isStr sharingNotToldKey) = none := by
        rw [← Array.find?_toList]
        exact q
      rw [this]
      rfl
section
variable {P : Program} {w : World} {K : PySem.W.Frag} {mg : Str → Option Value} {base : Heap} {f : Addr} {fd : FuncData}
abbrev PckA : List Str := ["_law_pen_here", "_law_items"]
theorem pick_run (T : Nm K mg) (C_law_draw : Own P w K mg base CX0 1 "_law_draw" ["_law_pen_here", "_law_number"] (spDraw K)) (F : FnP K "_law_pick" s_law_pick f fd) {A : Around} {outer : List Env} {s : Shared} {H : Hp} {p : Addr} {o : HO} {G : Hp} {M : List (Addr × HO)} {b : Nat} {a : Addr} {ob : Obj} {its : Array Value} {n : Nat} {xs : List V}
    (hr : Room 2 A) (e0 : Env0 P w K mg base A outer s H) (z : Zp G ((p, o) :: M) H) (hp : Pen K G b o) (hb : b ≤ 1000000000000) (ha : G a = some (.frz ob (.lst xs))) (hc : ob.cls = .type "list") (hd : ob.data = .seq its n) (hsz : its.size = xs.length) (h0 : 0 < xs.length) (hl : xs.length ≤ 100) :
    codeAny (model P w) A (.call (.ref f) ⟨[.ref p, .ref a], []⟩) (fun r _ => ∃ u, ∃ i : Nat, r = Except.ok (Flow.ret u) ∧ its[i]? = some u) s := by
  have KX : K.In s.heap := e0.mod.kin.keeps fun b o e => (e0.bs b o e).1
  have lim : s.heap.NoLimit := e0.mod.nolimit.keeps fun b o e => (e0.bs b o e).1
  have hbd := F.bindsA (ps := PckA) (fun _ _ _ _ _ _ us hl => match us, hl with | [_, _], _ => rfl) s [.ref p, .ref a] rfl
  obtain ⟨oc, od, dV, kV, doc, pm, an, cdv, ct, osl, rfl, lk, hcd, _, _⟩ := F.ex
  have S := sc_law_pick
  have hloc : ∀ x ∈ PckA, (defScope s_law_pick).names.lookup x = some .local := by decide +kernel
  refine codeAny_call_function hr.depth (KX _ _ lk) rfl S.co S.gen rfl (PySem.W.codeRec_of KX hcd) (hbd _ _ _ _ ?_)
  refine wpAny_newFunctionEnv_cells S.kind (fun y hy => .inl (hloc y.1 (List.of_mem_zip (show (y.1, y.2) ∈ PckA.zip _ from hy)).1)) fun env he s1 x => ?_
  subst he
  refine ⟨lim.keeps x.toInCall.keep, codeAny_func ?_⟩
  have I : Inv (cxOf CX0 P w K mg base N_law_pick "_law_pick" (defScope s_law_pick) f cdv A outer s H (fun _ _ _ => False)) [] (start N_law_pick [V.ref p, V.ref a]) H s1 := inv_start S hr.hd e0 rfl (.cons rfl (.cons rfl .nil)) x
  refine wpAny_execs_cons (wpAny_Return_some (Subscript_ (raw_name (X := cxOf CX0 P w K mg base N_law_pick "_law_pick" (defScope s_law_pick) f cdv A outer s H (fun _ _ _ => False)) (i := 1) rfl (by first | exact .inl rfl | exact .inr rfl | decide +kernel) I rfl (fun v r => ?_))))
  obtain rfl : v = Value.ref a := r
  have hr1 : Room 1 (A.deeper (envOfC "_law_pick" (defScope s_law_pick) s.heap.objs.size f cdv)) := hr.deeper _
  have hS : SqL K G a xs := .inl (.inr ⟨ob, ha⟩)
  refine wpAny_mono ((pe_own (X := cxOf CX0 P w K mg base N_law_pick "_law_pick" (defScope s_law_pick) f cdv A outer s H (fun _ _ _ => False)) C_law_draw hr1 (by rfl) pass0 (pa_cons (pv 0) (pa_cons (pe_callB (kc_len (K := K) (P := P) (w := w)) (by rfl) T.b_len PySem.boot_len (pa_cons (pv 1) pa_nil)) pa_nil))).run [] s1 _ H (fun v H1 => ∃ r : Int, ∃ G1 o1, v = .int r ∧ 0 ≤ r ∧ r < xs.length ∧ Zp G1 ((p, o1) :: M) H1 ∧ Same G G1) I ?_) (fun u s2 hu => ?_) fun e s2 h => ?_
  · repeat (walk_at "z")
    refine z_lenL z hS ?_
    repeat (walk_at "z")
    exact ⟨p, o, G, M, b, _, rfl, z, hp, hb, by omega, by omega, fun r G1 H1 o1 z1 s1 hp1 r0 r1 => ⟨r, G1, o1, rfl, r0, r1, z1, s1⟩⟩
  · obtain ⟨v, H1, I1, rv, r, G1, o1, rfl, r0, r1, z1, sm⟩ := hu
    obtain ⟨tk, rfl⟩ := rv
    have hf : H1 a = some (.frz ob (.lst xs)) := z1.sub _ _ (sm _ _ ha)
    have hg : s2.heap.get? a = some ob := (I1.hok a _ hf).1
    have hi : r.toNat < its.size := by omega
    refine item_listR (x := its[r.toNat]) ⟨ob, hg, hc, n, hd⟩ r0 (by omega) (Array.getElem?_eq_getElem hi) ⟨_, r.toNat, rfl, Array.getElem?_eq_getElem hi⟩ rfl
  · exact wpAny_mono h (fun _ _ x => False.elim x) fun _ _ x => False.elim x
end
section
variable {X : Cx} {pins : List (Addr × Obj)} {σ : L2.St} {H : Hp} {s : Shared} {f : Addr} {fd : FuncData}
theorem pick_raw {Q : Value → Shared → Prop} (T : Nm X.K X.mg) (C_law_draw : Own X.prog X.w X.K X.mg X.base CX0 1 "_law_draw" ["_law_pen_here", "_law_number"] (spDraw X.K)) (F : FnP X.K "_law_pick" s_law_pick f fd) (hr : Room 2 X.A) {G : Hp} {p a : Addr} {o : HO} {M : List (Addr × HO)} {b t : Nat} {ob : Obj} {ys : List Str}
    (I : Inv X pins σ H s) (z : Zp G ((p, o) :: M) H) (hp : Pen X.K G b o) (hb : b ≤ 1000000000000) (ha : G a = some (.frz ob (.lst (ys.map V.str)))) (hc : ob.cls = .type "list") (hd : ob.data = .seq (rawL ys t).toArray 0) (h0 : 0 < ys.length) (hl : ys.length ≤ 100)
    (q : ∀ u s1 y (k : Nat) G1 H1 o1, y ∈ ys → u = Value.str y k → t ≤ k → k < t + ys.length → s.toks ≤ s1.toks → Inv X pins σ H1 s1 → Zp G1 ((p, o1) :: M) H1 → Same G G1 → Pen X.K G1 (b + 1) o1 → Q u s1) :
    wpAny (model X.prog X.w) X.A (call (.ref f) [.ref p, .ref a]) Q X.xe s := by
  have hlen : (ys.map V.str).length = ys.length := List.length_map ..
  have hS : SqL X.K G a (ys.map V.str) := .inl (.inr ⟨ob, ha⟩)
  have bd : Binds X.K fd PckA [] := F.bindsN fun _ _ _ _ _ _ us hl => match us, hl with | [_, _], _ => rfl
  have h1 := run_fn (X := X) (E := E0) (Q := fun _ H1 => ∃ G1 o1, Zp G1 ((p, o1) :: M) H1 ∧ Same G G1 ∧ Pen X.K G1 (b + 1) o1) (ok_pick T C_law_draw F) hr bd .nil pass0 I (us := [.ref p, .ref a]) (vs := [.ref p, .ref a]) (.cons rfl (.cons rfl .nil))
    ⟨p, o, G, M, b, _, rfl, z, hp, hb, .inl ⟨a, _, rfl, .inl hS, (fun e => by rw [e] at hlen; simp at hlen; omega), by rw [hlen]; omega, fun v G1 H1 o1 _ z1 s1 hp1 => ⟨G1, o1, z1, s1, hp1⟩⟩⟩
  have h2 : wpAny (model X.prog X.w) X.A (call (.ref f) [.ref p, .ref a]) (fun u _ => ∃ i : Nat, (rawL ys t).toArray[i]? = some u) X.xe s :=
    wpAny_call (codeAny_mono (pick_run T C_law_draw F hr I.env0 z hp hb ha hc hd (by rw [hlen]; simp [raw_len]) (by rw [hlen]; exact h0) (by rw [hlen]; exact hl)) fun r s' ⟨u, i, e, hi⟩ => by
      subst e
      exact ⟨i, hi⟩)
  refine wpAny_mono (PySem.wpAny_toks (wpAny_both h1 h2)) (fun u s1 ⟨hk, ⟨v, H1, I1, rv, G1, o1, z1, sm, hp1⟩, i, hi⟩ => ?_) fun e s1 h => h.2.1
  rw [List.getElem?_toArray] at hi
  obtain ⟨y, hy, k, e, k1, k2⟩ := raw_get hi
  exact q u s1 y k G1 H1 o1 hy e k1 k2 hk I1 z1 sm hp1
def tBent (K : PySem.W.Frag) (Y1 Y2 : List Str) : TS := fun D σ H => ∃ (t : Str) (p : Addr) (o : HO) (G : Hp) (M : List (Addr × HO)) (b : Nat), σ[0]? = some (some (V.ref p)) ∧ σ[1]? = some (some (V.str t)) ∧ Zp G ((p, o) :: M) H ∧ Pen K G b o ∧ b + 1 ≤ 1000000000000 ∧ t.length + (t.length + 1) * 5 ≤ 16777216 ∧
  ∀ y ∈ Y1, ∀ z ∈ Y2, ∀ G1 H1 o1, Zp G1 ((p, o1) :: M) H1 → Same G G1 → Pen K G1 (b + 2) o1 → D.rt (.str (Txt.replace t y z)) H1
theorem ps_bent {es1 es2 : List Expr} {Y1 Y2 : List Str} {a0 a1 a2 a3 a4 a5 b0 b1 b2 b3 b4 b5 b6 b7 b8 : Pos} (T : Nm X.K X.mg) (C_law_draw : Own X.prog X.w X.K X.mg X.base CX0 1 "_law_draw" ["_law_pen_here", "_law_number"] (spDraw X.K)) (F : FnP X.K "_law_pick" s_law_pick f fd) (hm : X.mg "_law_pick" = some (.ref f)) (hr : Room 2 X.A)
    (hNB : PySem.W.nsIn X.K cStatics sharingNotToldKey = some none) (hN : X.N = N_law_bent) (hE : X.env.scope = defScope s_law_bent) (c1 : Consts es1 Y1) (c2 : Consts es2 Y2) (l1 : 0 < Y1.length) (l1' : Y1.length ≤ 100) (l2 : 0 < Y2.length) (l2' : Y2.length ≤ 100) (l3 : ∀ z ∈ Y2, z.length ≤ 5)
    (hg : Gl X "_law_pick")
    (hs : swapsWith (.Call (.Name "_law_pick" a1) [.Name "_law_pen_here" a2, .List es1 a3] [] a4) (some (.Name "_law_part" a0)) a5.line X.env = pure false) (hline : (b1.endLine == b7.line) = true) :
    PSsT X [.Assign [.Name "_law_part" a0] (.Call (.Name "_law_pick" a1) [.Name "_law_pen_here" a2, .List es1 a3] [] a4) a5, .Return (some (.Call (.Attribute (.Name "_law_line" b0) "replace" b1) [.Name "_law_part" b2, .Call (.Name "_law_pick" b3) [.Name "_law_pen_here" b4, .List es2 b5] [] b6] [] b7)) b8] (tBent X.K Y1 Y2) := by
  intro pins s σ H D h0 I h
  obtain ⟨t, p, o, G, M, b, hσ0, hσ1, z, hp, hb, hl, q⟩ := h
  have hN0 : X.N[0]? = some ("_law_pen_here" : Str) := by rw [hN]; rfl
  have hN1 : X.N[1]? = some ("_law_line" : Str) := by rw [hN]; rfl
  have hN3 : X.N[3]? = some ("_law_part" : Str) := by rw [hN]; rfl
  have v0 : Vis X.env.scope ("_law_pen_here" : Str) := .inl (by rw [hE]; decide +kernel)
  have v1 : Vis X.env.scope ("_law_line" : Str) := .inl (by rw [hE]; decide +kernel)
  have lc3 : X.env.scope.names.lookup ("_law_part" : Str) = some .local := by rw [hE]; decide +kernel
  have nd : X.N.Nodup := by rw [hN]; exact sc_law_bent.nd
  have kp := F.kp
  have sc : X.env.scope.kind = .function := by rw [hE]; exact sc_law_bent.kind
  have lc : X.env.kindOf ("_law_part" : Str) = some .local := lc3
  refine wpAny_execs_cons (wpAny_Assign_Name (wpAny_Call_Name_kw (ld_glob I hg hm ?_ (by decide))) hs)
  refine PySem.W.callWith_K (h₀ := X.base) I.ok.mod.kin kp ?_ (by rfl) (by rfl)
  refine Calls.spliced_cons (raw_name hN0 v0 I hσ0 fun v r => ?_)
  obtain rfl : v = Value.ref p := r
  refine Calls.spliced_cons (list_raw c1 (by omega) I fun a ob s1 hn hc hd ht I1 => ?_)
  refine Calls.spliced_nil ⟨I1.kIn, ?_⟩
  have z1 := z.new hn (.frz ob (.lst (Y1.map V.str)))
  have sm1 : Same G (upd G a (.frz ob (.lst (Y1.map V.str)))) := Same.new (z.free hn)
  refine pick_raw T C_law_draw F hr I1 z1 (hp.up sm1) (by omega) upd_same hc hd l1 l1' fun u s2 y k1 G2 H2 o2 hy hu k11 k12 ht2 I2 z2 sm2 hp2 => ?_
  -- the name
  obtain ⟨m, hns, _⟩ := id I2.loc
  have st1 := store_ok (M := model X.prog X.w) (A := X.A) (E := X.xe) (i := 3) (v := V.str y) (u := u) (Q := fun _ s3 => Inv X pins (σ.set 3 (some (V.str y))) H2 s3) I2 nd hN3 (.inl lc3) ⟨k1, hu⟩ (fun _ I3 => I3) (.inr lc3)
  have st2 : wpAny (model X.prog X.w) X.A (storeName X.env ("_law_part" : Str) u) (fun _ s3 => ∃ m', s3.heap.Ns X.env.locals m' ∧ m' ("_law_part" : Str) = some u) X.xe s2 :=
    wpAny_storeName_local lc hns (fun h' hn' _ => ⟨_, hn', if_pos rfl⟩) (by rw [sc]; rfl)
  refine wpAny_mono (PySem.wpAny_toks (wpAny_both st1 st2)) (fun _ s3 ⟨ht3, I3, m', hns3, hm3⟩ => ?_) fun _ _ x => x.2.1
  have hσ03 : (σ.set 3 (some (V.str y)))[0]? = some (some (V.ref p)) := by rw [List.getElem?_set_ne (by decide)]; exact hσ0
  have hσ13 : (σ.set 3 (some (V.str y)))[1]? = some (some (V.str t)) := by rw [List.getElem?_set_ne (by decide)]; exact hσ1
  -- what is told
  refine wpAny_execs_cons (wpAny_Return_some (PySem.Call_method2 rfl rfl hline (raw_name hN1 v1 I3 hσ13 fun v r => ?_)))
  obtain ⟨tx, rfl⟩ := r
  refine ⟨"str", _, PySem.F.plainAttrs_str, PySem.F.slot_str_replace, PySem.F.type_str_replace, typeIs_str _ _ _, (fun _ e => nomatch e), Calls.callWith_builtin rfl (Calls.evalArgs_plain (Calls.spliced_cons ?_))⟩
  refine wpAny_Name (wpAny_loadName_local sc lc hns3 hm3 ?_) (by decide)
  refine Calls.spliced_cons (wpAny_Call_Name_kw (ld_glob I3 hg hm ?_ (by decide)))
  refine PySem.W.callWith_K (h₀ := X.base) I3.ok.mod.kin kp ?_ (by rfl) (by rfl)
  refine Calls.spliced_cons (raw_name hN0 v0 I3 hσ03 fun v r => ?_)
  obtain rfl : v = Value.ref p := r
  refine Calls.spliced_cons (list_raw c2 (by omega) I3 fun a' ob' s4 hn' hc' hd' ht' I4 => ?_)
  refine Calls.spliced_nil ⟨I4.kIn, ?_⟩
  have z4 := z2.new hn' (.frz ob' (.lst (Y2.map V.str)))
  have sm4 : Same G2 (upd G2 a' (.frz ob' (.lst (Y2.map V.str)))) := Same.new (z2.free hn')
  refine pick_raw T C_law_draw F hr I4 z4 (hp2.up sm4) (by omega) upd_same hc' hd' l2 l2' fun u5 s5 y5 k5 G5 H5 o5 hy5 hu5 k51 k52 ht5 I5 z5 sm5 hp5 => ?_
  refine Calls.spliced_nil ?_
  subst hu hu5
  have lim : s5.heap.NoLimit := I5.env0.mod.nolimit.keeps fun b o e => (I5.env0.bs b o e).1
  have hnb : NoneBooked s5.heap := unbooked I5.kIn lim hNB
  have hz5 := l3 y5 hy5
  have hbnd : t.length + (t.length + 1) * y5.length ≤ 16777216 := by
    have := Nat.mul_le_mul_left (t.length + 1) hz5
    omega
  exact PySem.SC.replaceA (show k1 ≠ 0 by omega) (show k5 ≠ 0 by omega) (show k1 ≠ k5 by omega) hbnd (fun t' k => ⟨.str (Txt.replace t y y5), _, H5, I5.tok k, ⟨t', rfl⟩, q y hy y5 hy5 G5 H5 o5 z5 (sm1.trans (sm2.trans (sm4.trans sm5))) hp5⟩) hnb
end
end LW
namespace LW
open PySem PySem.Spec PyProof.Rows L2 Ys

theorem nmsLl_app : ∀ xs ys : List Pl, nmsLl (xs ++ ys) = nmsLl xs ++ nmsLl ys
  | [], ys => by simp [nmsLl]
  | x :: xs, ys => by rw [List.cons_append, nmsLl, nmsLl, nmsLl_app xs ys, List.append_assoc]
theorem nmsLl_take (ps : List Pl) (i : Nat) : (nmsLl (ps.take i)).length ≤ (nmsLl ps).length := by
  have e : nmsLl ps = nmsLl (ps.take i) ++ nmsLl (ps.drop i) := by rw [← nmsLl_app, List.take_append_drop]
  rw [e, List.length_append]
  omega
theorem nms_len : ∀ p : Pl, (nmsL p).length ≤ p.sz := Pl.ind (fun s => by rw [nmsL, Pl.sz]; exact Nat.le_refl _) fun h ps ih => by
  rw [nmsL, Pl.sz]
  have go : ∀ l : List Pl, (∀ p ∈ l, p ∈ ps) → (nmsLl l).length ≤ Pl.szl l := by
    intro l
    induction l with
    | nil => intro _; simp [nmsLl]
    | cons a r ihr =>
      intro hl
      have := ih a (hl a (by simp))
      have := ihr fun p hp => hl p (List.mem_cons_of_mem _ hp)
      rw [nmsLl, Pl.szl, List.length_append]
      omega
  have := go ps fun _ h => h
  omega
theorem joinS_len : ∀ ts : List Str, (Txt.join ", " ts).length ≤ (ts.map (·.length)).sum + ts.length * 2
  | [] => Nat.zero_le _
  | [x] => by
    show (Txt.join ", " [x]).length ≤ _
    rw [TL.join_eq]
    show x.length ≤ _
    simp
  | x :: y :: r => by
    have ih := joinS_len (y :: r)
    rw [TL.join_eq] at ih ⊢
    show (x ++ ", " ++ Str.join ", " (y :: r)).length ≤ _
    have e2 : ((", " : String) : Str).length = 2 := rfl
    rw [PySem.Str.length_append, PySem.Str.length_append, e2]
    simp only [List.map_cons, List.sum_cons, List.length_cons] at ih ⊢
    omega
theorem txts_len {ps : List Pl} (h : ∀ p ∈ ps, (txt p).length + 2 ≤ 12 * p.sz) : ((ps.map txt).map (·.length)).sum + (ps.map txt).length * 2 ≤ 12 * Pl.szl ps := by
  induction ps with
  | nil => simp
  | cons p ps ih =>
    have h1 := h p (by simp)
    have h2 := ih fun q hq => h q (List.mem_cons_of_mem _ hq)
    simp only [List.map_cons, List.sum_cons, List.length_cons, Pl.szl] at h2 ⊢
    omega
theorem txt_len : ∀ p, Nms p → (txt p).length + 2 ≤ 12 * p.sz := Pl.ind (fun s k => by
    cases k with
    | nm k =>
      have := k.2.1
      rw [txt, Pl.sz]
      omega) fun h ps ih k => by
  have h1 := txts_len fun p hp => ih p hp (k.kids p hp)
  have h2 := joinS_len (ps.map txt)
  have h3 := hd_len h
  rw [txt, txtl_map, Pl.sz, len_app, len_app, len_app]
  have e1 : ("(" : Str).length = 1 := rfl
  have e2 : (")" : Str).length = 1 := rfl
  omega
section
variable {P : Program} {w : World} {K : PySem.W.Frag} {mg : Str → Option Value} {base : Heap} {f : Addr} {fd : FuncData}
def spNames (K : PySem.W.Frag) (n : Nat) : Sp := fun vs H Q _ => ∃ G M v p, vs = [v] ∧ Zp G M H ∧ Dt K G v (Pl.d p) ∧ p.dp < n ∧ p.sz ≤ 300000 ∧ ∀ l G1 H1, Zp G1 M H1 → Same G G1 → G1 l = some (.lst ((nmsL p).map V.str)) → Q (.ref l) H1
def spNamesIn (K : PySem.W.Frag) (n : Nat) : Sp := fun vs H Q _ => ∃ G M v p, vs = [v] ∧ Zp G M H ∧ Dt K G v (Pl.d p) ∧ p.dp < n ∧ p.sz ≤ 300000 ∧ (nmsL p).length < 64 ∧ ∀ l G1 H1, Zp G1 M H1 → Same G G1 → SqT K G1 l ((asc (nmsL p)).map V.str) → Q (.ref l) H1
def spText (K : PySem.W.Frag) (n : Nat) : Sp := fun vs H Q _ => ∃ G M v p, vs = [v] ∧ Zp G M H ∧ Dt K G v (Pl.d p) ∧ Nms p ∧ p.dp < n ∧ p.sz ≤ 300000 ∧ ∀ G1 H1, Zp G1 M H1 → Same G G1 → Q (.str (txt p)) H1
theorem ok_plan_text {n : Nat} (T : Nm K mg) (C_plan_text : Own P w K mg base CX0 (n + 1) "plan_text" ["plan"] (spText K n)) (F : FnP K "plan_text" s_plan_text f fd) : FnOk P w K mg base CX0 (n + 2) f fd ["plan"] (spText K (n + 1)) := by
  have nd : N_plan_text.Nodup := sc_plan_text.nd
  refine F.ok sc_plan_text (fun vs H Q E h => ?_) (fun cdv A outer s H vs Q E hr h => ?_)
  · obtain ⟨G, M, v, p, rfl, _⟩ := h
    rfl
  have hu := hr.units
  refine ⟨_, PSs.nox   (pss_cons (ps_if (pt_val (pe_callB (kc_isi (K := K)) (by rfl) T.b_isinstance boot_isinstance (pa_cons (pv 0) (pa_cons (pe_bltn (v := .ty "str") (by rfl) T.b_str boot_str rfl) pa_nil)))) (pss_one (ps_ret (pv 0))) pss_nil)
    (pss_one (ps_ret (pe_op (k_add (K := K)) (pe_op (k_add (K := K)) (pe_op (k_add (K := K)) (pe_ix (k_ix (K := K)) (pv 0) pe_int (fun _ _ => rfl)) pe_str) (pe_joinG pe_str (pe_lc (own := [("part", 1)]) (tt := tYes) rfl nd (k_any (K := K) (pe_slice (k_sl (K := K)) (pv 0) (po_some pe_int) po_none)) (blkOk_by (N := N_plan_text) (sc := defScope s_plan_text) (by decide +kernel)) (fun _ _ _ _ _ => (pg_name (i := 1) nd rfl (by first | exact .inl rfl | exact .inr rfl))) (fun _ _ _ _ _ => pts_nil) (fun _ _ _ _ _ => (pe_own C_plan_text (hr.mono (by omega)) (by rfl) pass0 (pa_cons (pv 1) pa_nil)))))) pe_str)))), ?_⟩
  obtain ⟨G, M, v, p, rfl, z, hd, hN, hn, hsz, q⟩ := h
  repeat (walk_at "z")
  refine z_isi (.ty "str") (hd.up z.sub).ty (kit_ty (kit_str p.d)) ?_
  cases p with
  | nm s =>
    have e := dt_nm hd
    subst e
    rw [Pl.d]
    repeat (walk_at "z")
    refine z_bT' rfl ?_
    repeat (walk_at "z")
    have := q G H z (Same.refl _)
    rw [txt] at this
    exact this
  | nd h ps =>
    obtain ⟨a, xr, rfl, hS, hR⟩ := dt_nd hd
    rw [Pl.dp] at hn
    rw [Pl.sz] at hsz
    have hps := pls_len hR
    have hl := txts_len fun p hp => txt_len p (hN.kids p hp)
    have hj := joinS_len (ps.map txt)
    have h8 := hd_len h
    have c1 : ("(" : Str).length = 1 := rfl
    have c2 : (")" : Str).length = 1 := rfl
    have c3 : (", " : Str).length = 2 := rfl
    rw [Pl.d]
    repeat (walk_at "z")
    refine z_bF' rfl ?_
    repeat (walk_at "z")
    refine z_ixT z hS at_zero ?_
    repeat (walk_at "z")
    refine z_addS (by omega) ?_
    repeat (walk_at "z")
    refine z_anyT ?_
    repeat (walk_at "z")
    refine z_slT z hS fun p2 G2 H2 z2 s2 e2 => ?_
    rw [cut_tail] at e2
    refine z_itT z2 e2 ?_
    refine lc_src src_T (fun i G' M' acc => M' = M ∧ Same G2 G' ∧ acc = ((ps.take i).map txt).map V.str) z2 ⟨rfl, Same.refl _, rfl⟩ (fun i G' M' M1 acc H' ⟨_, s', _⟩ z' => z'.seqT (upT s' e2)) ?_ ?_
    · rintro i x G' M' acc Dl H' hx ⟨rfl, s', rfl⟩ z'
      obtain ⟨p, hp, hx'⟩ := pl_at (hR.up (s2.trans s')) hx
      have hm := List.mem_of_getElem? hp
      have h1 := dp_mem hm
      have h2 := sz_mem hm
      have hl2 := len_szl ps
      repeat (walk_at "z")
      refine ⟨by rfl, ?_⟩
      repeat (walk_at "z")
      refine ⟨G', _, x, p, rfl, z', hx', hN.kids p hm, by omega, by omega, fun G3 H3 z3 s3 => ?_⟩
      refine z_laid z3 (by rw [List.length_map, List.length_map, List.length_take]; omega) ⟨rfl, s'.trans s3, ?_⟩
      rw [take_snoc hp, List.map_append, List.map_append]
      rfl
    rintro p3 G3' M3 acc G3 H3 ⟨rfl, s3', rfl⟩ s3 z3 e3
    rw [hps, List.take_length] at e3
    refine z_join z3 (SqL.of e3) (by rw [c3]; omega) ?_
    repeat (walk_at "z")
    have l1 : (h.s ++ "(" : Str).length = h.s.length + 1 := by rw [len_app]; rfl
    refine z_addS (by omega) ?_
    have l2 : (h.s ++ "(" ++ Txt.join ", " (ps.map txt) : Str).length = h.s.length + 1 + (Txt.join ", " (ps.map txt)).length := by rw [len_app, l1]
    repeat (walk_at "z")
    refine z_addS (by omega) ?_
    repeat (walk_at "z")
    have := q G3 H3 z3 (s2.trans (s3'.trans s3))
    rw [txt, txtl_map] at this
    exact this
end
end LW
namespace LW
open PySem PySem.Spec PyProof.Rows L2 Ys

theorem cut_tail2 {x y : V} {xr : List V} : cutV (x :: y :: xr) (some 2) none = xr := by
  have e1 : HT.sIx (x :: y :: xr).length 0 (some 2) = min 2 (x :: y :: xr).length := HT.sIx_nat (x :: y :: xr).length 0 2
  have e2 : HT.sIx (x :: y :: xr).length (x :: y :: xr).length none = (x :: y :: xr).length := rfl
  have e3 : min 2 (x :: y :: xr).length = 2 := by rw [List.length_cons, List.length_cons]; omega
  unfold cutV
  rw [e1, e2, e3, List.drop_succ_cons, List.drop_succ_cons, List.drop_zero, List.length_cons, List.length_cons]
  exact List.take_of_length_le (by omega)
theorem pl_all {K : PySem.W.Frag} {G : Hp} {x : V} {p : Pl} (h : Dt K G x p.d) : Dts K G [x] (Pl.dl [p]) := by rw [dl_map]; exact .cons h .nil
theorem pl_cons {K : PySem.W.Frag} {G : Hp} {xr : List V} {a : Pl} {r : List Pl} (h : Dts K G xr (Pl.dl (a :: r))) : ∃ x ys, xr = x :: ys ∧ Dt K G x a.d ∧ Dts K G ys (Pl.dl r) := by
  rw [dl_map, List.map_cons, ← dl_map] at h
  cases h with
  | cons h1 h2 => exact ⟨_, _, rfl, h1, h2⟩
theorem pl_nil {K : PySem.W.Frag} {G : Hp} {xr : List V} (h : Dts K G xr (Pl.dl [])) : xr = [] := by
  rw [dl_map] at h
  cases h
  rfl
theorem Zp.settle {G H : Hp} {M : List (Addr × HO)} {l : Addr} {o : HO} (z : Zp G (M ++ [(l, o)]) H) : ∃ G2, Zp G2 M H ∧ Same G G2 ∧ G2 l = some o := ⟨_, z.fix, Same.new (z.own M.length _ _ last_at).2, upd_same⟩
theorem szl_mem2 {a : Pl} {r : List Pl} : Pl.szl (a :: r) = a.sz + Pl.szl r := by rw [Pl.szl]
section
variable {P : Program} {w : World} {K : PySem.W.Frag} {mg : Str → Option Value} {base : Heap} {f : Addr} {fd : FuncData}
abbrev OwnS (P : Program) (w : World) (K : PySem.W.Frag) (mg : Str → Option Value) (base : Heap) : Prop := Own P w K mg base CX0 1 "sequence" ["parts"] (spSeq K)
abbrev OwnAl (P : Program) (w : World) (K : PySem.W.Frag) (mg : Str → Option Value) (base : Heap) : Prop := Own P w K mg base CX0 1 "alongside" ["one", "other"] (spAlong K)
def spWC (K : PySem.W.Frag) (n : Nat) : Sp := fun vs H Q _ => ∃ G M v p b, vs = [v] ∧ Zp G M H ∧ Dt K G v (Pl.d p) ∧ Ok b p ∧ p.dp < n ∧ p.dp ≤ 50 ∧ p.sz ≤ 300000 ∧ ∀ l xs G1 H1, Zp G1 (M ++ [(l, .lst xs)]) H1 → Same G G1 → Dts K G1 xs (Pl.dl (wc p)) → Q (.ref l) H1
end
end LW
namespace LW
open PySem PySem.Spec PyProof.Rows L2 Ys

theorem wc_ei {b : Bool} {ps : List Pl} (k : Ok b (.nd .ei ps)) (h : wc (.nd .ei ps) = []) : False := by
  have f : 1 ≤ ps.length := of_decide_eq_true k.fit
  rw [wc] at h
  rw [h] at f
  cases f
theorem wc_ag {ps : List Pl} (h : wc (.nd .ag ps) = []) : False := by rw [wc] at h; cases h
theorem wc_th {a : Pl} {r : List Pl} (h : wc (.nd .th (a :: r)) = []) : wc a = [] := by
  rw [wc, wcT] at h
  exact List.map_eq_nil_iff.mp h
theorem wc_be {a b : Pl} (h : wc (.nd .be [a, b]) = []) : wc a = [] ∧ wc b = [] := by
  rw [wc, wcB] at h
  split at h
  · rename_i h0
    rw [wcC] at h
    exact ⟨List.map_eq_nil_iff.mp h0, List.map_eq_nil_iff.mp h⟩
  · rename_i h0
    exact absurd h h0
section
variable {P : Program} {w : World} {K : PySem.W.Frag} {mg : Str → Option Value} {base : Heap} {f : Addr} {fd : FuncData} {CI : Addr}
def spSP (K : PySem.W.Frag) (n : Nat) : Sp := fun vs H Q _ => ∃ G M v p b, vs = [v] ∧ Zp G M H ∧ Dt K G v (Pl.d p) ∧ Ok b p ∧ wc p = [] ∧ p.dp < n ∧ p.dp ≤ 50 ∧ p.sz ≤ 300000 ∧ ∀ l xs G1 H1, Zp G1 (M ++ [(l, .lst xs)]) H1 → Same G G1 → Dts K G1 xs (Pl.dl (spl p)) → Q (.ref l) H1
theorem spl_len : ∀ p : Pl, (spl p).length ≤ p.sz := Pl.ind (fun s => by rw [spl, Pl.sz]; exact Nat.le_refl _) fun h ps ih => by
  have go : ∀ l : List Pl, (∀ p ∈ l, p ∈ ps) → (splB l).length ≤ Pl.szl l := by
    intro l
    induction l with
    | nil => intro _; simp [splB]
    | cons a r ihr =>
      intro hl
      have := ih a (hl a (by simp))
      have := ihr fun p hp => hl p (List.mem_cons_of_mem _ hp)
      rw [splB, Pl.szl, List.length_append]
      omega
  have := go ps fun _ h => h
  cases h with
  | th =>
    rw [spl, Pl.sz]
    cases ps with
    | nil => rw [splT]; exact Nat.zero_le _
    | cons a r =>
      rw [splT, Pl.szl]
      have := ih a (by simp)
      omega
  | an => rw [spl, Pl.sz]; simp
  | ei => rw [spl, Pl.sz] <;> first | omega | (intro e; cases e)
  | ag => rw [spl, Pl.sz] <;> first | omega | (intro e; cases e)
  | be => rw [spl, Pl.sz] <;> first | omega | (intro e; cases e)
def spTurnAt (K : PySem.W.Frag) (n : Nat) : Sp := fun vs H Q _ => ∃ G M v p b, vs = [v] ∧ Zp G M H ∧ Dt K G v (Pl.d p) ∧ Ok b p ∧ p.dp < n ∧ p.dp ≤ 50 ∧ p.sz ≤ 300000 ∧ ∀ G1 H1, Zp G1 M H1 → Same G G1 → Q (.str (turnS p)) H1
abbrev OwnWC (P : Program) (w : World) (K : PySem.W.Frag) (mg : Str → Option Value) (base : Heap) (n : Nat) : Prop := Own P w K mg base CX0 (n + 1) "world_choices" ["plan"] (spWC K n)
/-! ### of plans that may be wrong -/
def NOk (n : Nat) (d : PyData) (X : Pl → Prop) : Prop := wpD false d = none → ∃ p, d = Pl.d p ∧ Ok false p ∧ p.dp < n ∧ p.dp ≤ 50 ∧ p.sz ≤ 300000 ∧ X p
def NErr (K : PySem.W.Frag) (CI : Addr) (G : Hp) (M : List (Addr × HO)) (d : PyData) (E : XK) : Prop := ∀ e, wpD false d = some e → ∀ dd v' G1 H1, Zp G1 M H1 → Same G G1 → Dt K G1 v' e → G1 dd = some (.xd [("value", v')]) → E (.ref CI) (some dd) H1
def spNormal (K : PySem.W.Frag) (CI : Addr) (n : Nat) : Sp := fun vs H Q E => ∃ G M v d, vs = [v] ∧ Zp G M H ∧ Dt K G v d ∧ Sht d ∧ d.depth < n ∧ NOk n d (fun p => ∀ v' G1 H1, Zp G1 M H1 → Same G G1 → Dt K G1 v' (nf p).d → Q v' H1) ∧ NErr K CI G M d E
abbrev OwnWr (P : Program) (w : World) (K : PySem.W.Frag) (mg : Str → Option Value) (base : Heap) (n : Nat) : Prop := Own P w K mg base CX0 (n + 1) "wrong_part" ["value", "is_beside"] (spWrong K n)
abbrev OwnN (P : Program) (w : World) (K : PySem.W.Frag) (mg : Str → Option Value) (base : Heap) (CI : Addr) (n : Nat) : Prop := Own P w K mg base (L2.CX P w) (n + 3) "normal" ["plan"] (spNormal K CI n)
def spTurn (K : PySem.W.Frag) (CI : Addr) (n : Nat) : Sp := fun vs H Q E => ∃ G M v d, vs = [v] ∧ Zp G M H ∧ Dt K G v d ∧ Sht d ∧ d.depth < n ∧ NOk n d (fun p => ∀ G1 H1, Zp G1 M H1 → Same G G1 → Q (.str (turnS (nf p))) H1) ∧ NErr K CI G M d E
def spChoices (K : PySem.W.Frag) (CI : Addr) (n : Nat) : Sp := fun vs H Q E => ∃ G M v d, vs = [v] ∧ Zp G M H ∧ Dt K G v d ∧ Sht d ∧ d.depth < n ∧ NOk n d (fun p => ∀ l xs G1 H1, Zp G1 (M ++ [(l, .lst xs)]) H1 → Same G G1 → Dts K G1 xs (Pl.dl (wc (nf p))) → Q (.ref l) H1) ∧ NErr K CI G M d E
def plcs (p : Pl) : List Pl := if isDone p then [] else if (wc p).isEmpty then spl p else []
def spPlaces (K : PySem.W.Frag) (CI : Addr) (n : Nat) : Sp := fun vs H Q E => ∃ G M v d, vs = [v] ∧ Zp G M H ∧ Dt K G v d ∧ Sht d ∧ d.depth < n ∧ NOk n d (fun p => ∀ l xs G1 H1, Zp G1 (M ++ [(l, .lst xs)]) H1 → Same G G1 → Dts K G1 xs (Pl.dl (plcs (nf p))) → Q (.ref l) H1) ∧ NErr K CI G M d E
theorem turn_staff (p : Pl) : decide (V.str (turnS p) = V.str ("staff" : Str)) = (!isDone p && (wc p).isEmpty) := by
  unfold turnS
  cases isDone p <;> cases (wc p).isEmpty <;> decide +kernel
end
end LW
namespace LW
open PySem PySem.Spec PyProof.Rows L2 Ys

/-! ### the reader of texts of plans -/
structure RC (K : PySem.W.Frag) (C : Addr) : Prop where
  cl : Cls K C
  n1 : NoAttr K C "own_text"
  n2 : NoAttr K C "own_place"
  n3 : NoAttr K C "own_parts"
def rdF (t : Str) (i : Nat) (ps : Addr) : List (Str × V) := [("own_text", .str t), ("own_place", .int i), ("own_parts", .ref ps)]
def sgS (t : Str) (i : Nat) : Str := cutS t (some (i : Int)) (some ((i : Int) + 1))
def sub (t : Str) (i n : Nat) : Str := cutS t (some (i : Int)) (some ((i + n : Nat) : Int))
def letterAt (t : Str) (i : Nat) : Bool := match t.cps.toList[i]? with
  | some c => decide (c ∈ abcL)
  | none => false
def wlF (t : Str) : Nat → Nat → Nat
  | 0, _ => 0
  | k + 1, i => if letterAt t i = true then wlF t k (i + 1) + 1 else 0
def wl (t : Str) (i : Nat) : Nat := wlF t 8 i
theorem sg_some {t : Str} {i c : Nat} (h : t.cps.toList[i]? = some c) : sgS t i = ⟨#[c]⟩ := by
  have hl : i < t.length := by
    have := (List.getElem?_eq_some_iff.mp h).1
    rw [Array.length_toList] at this
    exact this
  have e1 : HT.sIx t.length 0 (some (i : Int)) = i := by rw [HT.sIx_nat]; omega
  have e2 : HT.sIx t.length t.length (some ((i : Int) + 1)) = i + 1 := by
    rw [show (i : Int) + 1 = ((i + 1 : Nat) : Int) by omega, HT.sIx_nat]
    omega
  unfold sgS cutS
  rw [e1, e2]
  have e3 : (t.cps.toList.drop i).take (i + 1 - i) = [c] := by
    rw [show i + 1 - i = 1 by omega]
    obtain ⟨h1, h2⟩ := List.getElem?_eq_some_iff.mp h
    rw [List.drop_eq_getElem_cons h1, h2]
    rfl
  rw [e3]
theorem sg_none {t : Str} {i : Nat} (h : t.cps.toList[i]? = none) : sgS t i = ("" : Str) := by
  have hl : t.length ≤ i := by
    have := List.getElem?_eq_none_iff.mp h
    rw [Array.length_toList] at this
    exact this
  have e1 : HT.sIx t.length 0 (some (i : Int)) = t.length := by rw [HT.sIx_nat]; omega
  have e2 : HT.sIx t.length t.length (some ((i : Int) + 1)) = t.length := by
    rw [show (i : Int) + 1 = ((i + 1 : Nat) : Int) by omega, HT.sIx_nat]
    omega
  unfold sgS cutS
  rw [e1, e2, Nat.sub_self, List.take_zero]
  decide +kernel
theorem one_ne {c : Nat} : (⟨#[c]⟩ : Str) ≠ ("" : Str) := fun h => by
  have := congrArg (fun s : Str => s.cps.size) h
  simp at this
  revert this
  decide +kernel
section
variable {P : Program} {w : World} {K : PySem.W.Frag} {mg : Str → Option Value} {base : Heap} {f : Addr} {fd : FuncData} {C CI : Addr}
def spSign (K : PySem.W.Frag) (C : Addr) : Sp := fun vs H Q _ => ∃ G M self dx t i ps, vs = [.ref self] ∧ Zp G ((self, .ins C dx (rdF t i ps)) :: M) H ∧ t.length ≤ 4000000 ∧ Q (.str (sgS t i)) H
abbrev FnM (K : PySem.W.Frag) (m : Str) (st : Stmt) (f : Addr) (fd : FuncData) : Prop := FunD K m ("PlanReader." ++ m) (defArgs st) (defBody st) (defScope st) [] [] f fd
theorem ok_sign (T : Nm K mg) (R : RC K C) (F : FunD K "sign" "PlanReader.sign" (defArgs s_PlanReader_sign) (defBody s_PlanReader_sign) (defScope s_PlanReader_sign) [] [] f fd) : FnOk P w K mg base CX0 1 f fd ["self"] (spSign K C) := by
  have nd : N_PlanReader_sign.Nodup := sc_PlanReader_sign.nd
  refine F.ok sc_PlanReader_sign (fun vs H Q E h => ?_) (fun cdv A outer s H vs Q E hr h => ?_)
  · obtain ⟨G, M, self, dx, t, i, ps, rfl, _⟩ := h
    rfl
  have hu := hr.units
  refine ⟨_, PSs.nox   (pss_one (ps_ret (pe_slice (k_sl (K := K)) (k_fld (K := K) (pv 0) rfl) (po_some (k_fld (K := K) (pv 0) rfl)) (po_some (pe_op (k_add (K := K)) (k_fld (K := K) (pv 0) rfl) pe_int))))), ?_⟩
  obtain ⟨G, M, self, dx, t, i, ps, rfl, z, hl, q⟩ := h
  repeat (walk_at "z")
  refine z_flO z 0 rfl R.cl R.n1 rfl ?_
  repeat (walk_at "z")
  refine z_flO z 0 rfl R.cl R.n2 rfl ?_
  repeat (walk_at "z")
  refine z_flO z 0 rfl R.cl R.n2 rfl ?_
  repeat (walk_at "z")
  exact z_slS hl q
def RErr (K : PySem.W.Frag) (CI : Addr) (G : Hp) (M : List (Addr × HO)) (E : XK) (i : Nat) : Prop := ∀ dd G1 H1, Zp G1 M H1 → Same G G1 → G1 dd = some (.xd [("index", .int i)]) → E (.ref CI) (some dd) H1
theorem RErr.up {G G1 : Hp} {M : List (Addr × HO)} {E : XK} {i : Nat} (h : RErr K CI G M E i) (s : Same G G1) : RErr K CI G1 M E i := fun dd G2 H2 z2 s2 e2 => h dd G2 H2 z2 (s.trans s2) e2
theorem z_rer {G H : Hp} {M M1 : List (Addr × HO)} {E : XK} {i : Nat} (z : Zp G M1 H) (sb : M.Sublist M1) (h : RErr K CI G M E i) : RsW K CI "index" (.int i) H fun cls d H' => E cls d H' := z_rsI fun dd hd => h dd _ _ ((z.new hd _).less sb) (Same.new (z.free hd)) upd_same
def spMark (K : PySem.W.Frag) (C CI : Addr) : Sp := fun vs H Q E => ∃ G M M0 self dx t i ps s, vs = [.ref self, .str s] ∧ Zp G ((self, .ins C dx (rdF t i ps)) :: M) H ∧ t.length ≤ 4000000 ∧ M0.Sublist M ∧
  (sgS t i = s → ∀ H1, Zp G ((self, .ins C dx (rdF t (i + 1) ps)) :: M) H1 → Q .non H1) ∧ (sgS t i ≠ s → RErr K CI G M0 E i)
theorem put_place {t : Str} {i : Nat} {ps : Addr} : putF "own_place" (.int ((i : Int) + 1)) (rdF t i ps) = rdF t (i + 1) ps := by
  have e1 : ¬ Str.ofString "own_text" = Str.ofString "own_place" := by decide +kernel
  unfold rdF
  simp only [putF, if_neg e1, if_pos]
  rfl
theorem ok_mark (T : Nm K mg) (R : RC K C) (S_InvalidText : ExcS P w K mg base CI "InvalidText" "index") (M_sign : Mth P w K mg base CX0 1 C "sign" ["self"] [] (spSign K C)) (F : FunD K "mark" "PlanReader.mark" (defArgs s_PlanReader_mark) (defBody s_PlanReader_mark) (defScope s_PlanReader_mark) [] [] f fd) : FnOk P w K mg base (L2.CX P w) 3 f fd ["self", "sign"] (spMark K C CI) := by
  have nd : N_PlanReader_mark.Nodup := sc_PlanReader_mark.nd
  refine F.ok sc_PlanReader_mark (fun vs H Q E h => ?_) (fun cdv A outer s H vs Q E hr h => ?_)
  · obtain ⟨G, M, M0, self, dx, t, i, ps, s, rfl, _⟩ := h
    rfl
  have hu := hr.units
  refine ⟨_,   (pss_cons (ps_if (pt_cmpR (k_ne (K := K) hu) (pe_mt0 M_sign (hr.mono (by omega)) pass0 (pv 0)) (pv 1) (nomark _)) (pss_one (ps_rs S_InvalidText rfl (takes_of rfl rfl rfl rfl) (hr.mono (by omega)) (by rfl) (k_fld (K := K) (pv 0) rfl))) pss_nil)
    (pss_one (ps_fldaug (pv 0) pe_int in_add))), ?_⟩
  obtain ⟨G, M, M0, self, dx, t, i, ps, s, rfl, z, hl, sb, q, qx⟩ := h
  repeat (walk_at "z")
  refine z_mtO z 0 rfl rfl ?_
  repeat (walk_at "z")
  refine ⟨G, M, self, dx, t, i, ps, rfl, z, hl, ?_⟩
  repeat (walk_at "z")
  refine z_neS rfl ?_
  repeat (walk_at "z")
  by_cases c : sgS t i = s
  · refine z_bT' (decide_eq_true (by rw [c])) ?_
    repeat (walk_at "z")
    refine z_faI z 0 rfl R.cl R.n2 rfl (by show 3 < 1000; decide) fun H1 z1 => ?_
    rw [put_place] at z1
    exact q c H1 z1
  · refine z_bF' (decide_eq_false fun h => c (V.str.inj h)) ?_
    repeat (walk_at "z")
    refine z_flO z 0 rfl R.cl R.n2 rfl ?_
    repeat (walk_at "z")
    exact z_rer z (sb.cons _) (qx c)
def spWordR (K : PySem.W.Frag) (C CI : Addr) : Sp := fun vs H Q E => ∃ G M M0 self dx t i ps, vs = [.ref self] ∧ Zp G ((self, .ins C dx (rdF t i ps)) :: M) H ∧ t.length ≤ 4000000 ∧ M0.Sublist M ∧
  (wl t i ≠ 0 → ∀ H1, Zp G ((self, .ins C dx (rdF t (i + wl t i) ps)) :: M) H1 → Q (.str (sub t i (wl t i))) H1) ∧ (wl t i = 0 → RErr K CI G M0 E i)
theorem ok_wordR (T : Nm K mg) (R : RC K C) (S_InvalidText : ExcS P w K mg base CI "InvalidText" "index") (M_sign : Mth P w K mg base CX0 1 C "sign" ["self"] [] (spSign K C)) (F : FunD K "word" "PlanReader.word" (defArgs s_PlanReader_word) (defBody s_PlanReader_word) (defScope s_PlanReader_word) [] [] f fd) : FnOk P w K mg base (L2.CX P w) 3 f fd ["self"] (spWordR K C CI) := by
  have nd : N_PlanReader_word.Nodup := sc_PlanReader_word.nd
  refine F.ok sc_PlanReader_word (fun vs H Q E h => ?_) (fun cdv A outer s H vs Q E hr h => ?_)
  · obtain ⟨G, M, M0, self, dx, t, i, ps, rfl, _⟩ := h
    rfl
  have hu := hr.units
  refine ⟨_,   (pss_cons (ps_asg (k_fld (K := K) (pv 0) rfl) (pg_name (i := 1) nd rfl (by first | exact .inl rfl | exact .inr rfl)))
    (pss_cons (ps_while (passes_of rfl) (PW.pt (pw_and (pt_cmpR (k_ne (K := K) hu) (pe_mt0 M_sign (hr.mono (by omega)) pass0 (pv 0)) pe_str (nomark _)) (pw_and (pt_cmpR (k_in (K := K)) (pe_mt0 M_sign (hr.mono (by omega)) pass0 (pv 0)) (pe_gC T.g_LETTERS (by rfl)) (by rfl)) (pw_and1 (pt_cmpR o_lt (pe_op o_sub (k_fld (K := K) (pv 0) rfl) (pv 1)) (pe_gC T.g_LONGEST_WORD (by rfl)) (nomark _)))))) (pss_one (ps_fldaug (pv 0) pe_int in_add)))
    (pss_cons (ps_if (pt_cmpR (k_eq (K := K) hu) (k_fld (K := K) (pv 0) rfl) (pv 1) (nomark _)) (pss_one (ps_rs S_InvalidText rfl (takes_of rfl rfl rfl rfl) (hr.mono (by omega)) (by rfl) (pv 1))) pss_nil)
    (pss_one (ps_ret (pe_slice (k_sl (K := K)) (k_fld (K := K) (pv 0) rfl) (po_some (pv 1)) (po_some (k_fld (K := K) (pv 0) rfl)))))))), ?_⟩
  obtain ⟨G, M, M0, self, dx, t, i, ps, rfl, z, hl, sb, q, qx⟩ := h
  repeat (walk_at "z")
  refine z_flO z 0 rfl R.cl R.n2 rfl ?_
  repeat (walk_at "y")
  with_reducible refine z_cut (fun σ H => Zp G ((self, .ins C dx (rdF t (i + wl t i) ps)) :: M) H ∧ σ = [some (.ref self), some (.int i)]) (fun nx hnx => ?_) (fun σ H2 h2 => ?_)
  · refine z_while (fun n σ G' M' => ∃ k, n = 8 - k ∧ k ≤ 8 ∧ M' = (self, .ins C dx (rdF t (i + k) ps)) :: M ∧ G' = G ∧ σ = [some (.ref self), some (.int i)] ∧ wl t i = k + wlF t (8 - k) (i + k)) 8 z ⟨0, rfl, by decide, rfl, rfl, rfl, by unfold wl; rw [Nat.zero_add]; rfl⟩ ?_
    rintro n σ G' M' H' ⟨k, rfl, hk, rfl, rfl, rfl, hw⟩ z'
    have ex : wlF t (8 - k) (i + k) = 0 → nx [some (.ref self), some (.int i)] H' := fun e => hnx _ _ ⟨by rw [hw, e]; exact z', rfl⟩
    repeat (walk_at "z")
    refine z_mtO z' 0 rfl rfl ?_
    repeat (walk_at "z")
    refine ⟨G', M, self, dx, t, i + k, ps, rfl, z', hl, ?_⟩
    repeat (walk_at "z")
    refine z_neS rfl ?_
    repeat (walk_at "z")
    cases hc : t.cps.toList[i + k]? with
    | none =>
      refine z_bT' (decide_eq_true (by rw [sg_none hc])) ?_
      refine z_whF (ex ?_)
      have el : letterAt t (i + k) = false := by unfold letterAt; rw [hc]
      cases h8 : 8 - k with
      | zero => rfl
      | succ m => rw [wlF, el]; rfl
    | some c =>
      refine z_bF' (decide_eq_false (by rw [sg_some hc]; intro h; exact one_ne (V.str.inj h))) ?_
      repeat (walk_at "z")
      refine z_mtO z' 0 rfl rfl ?_
      repeat (walk_at "z")
      refine ⟨G', M, self, dx, t, i + k, ps, rfl, z', hl, ?_⟩
      rw [sg_some hc]
      repeat (walk_at "z")
      refine z_inS ?_
      repeat (walk_at "z")
      have el : letterAt t (i + k) = decide (c ∈ abcL) := by unfold letterAt; rw [hc]
      refine z_bd (fun c1 => ?_) (fun c1 => ?_)
      · repeat (walk_at "z")
        refine z_flO z' 0 rfl R.cl R.n2 rfl ?_
        repeat (walk_at "z")
        by_cases c2 : k < 8
        · rw [decide_eq_true (show ((i + k : Nat) : Int) - (i : Int) < 8 by omega)]
          refine z_whT ?_
          repeat (walk_at "z")
          refine z_faI z' 0 rfl R.cl R.n2 rfl (by show 3 < 1000; decide) fun H1 z1 => ?_
          rw [put_place] at z1
          refine ⟨8 - (k + 1), by omega, G', _, z1, k + 1, rfl, by omega, rfl, rfl, rfl, ?_⟩
          have e8 : 8 - k = 8 - (k + 1) + 1 := by omega
          have el' : letterAt t (i + k) = true := by rw [el]; exact decide_eq_true c1
          rw [e8, wlF, if_pos el'] at hw
          rw [hw, show i + (k + 1) = i + k + 1 by omega]
          omega
        · rw [decide_eq_false (show ¬ ((i + k : Nat) : Int) - (i : Int) < 8 by omega)]
          refine z_whF (ex ?_)
          rw [show 8 - k = 0 by omega]
          rfl
      · refine z_whF (ex ?_)
        have el' : letterAt t (i + k) = false := by rw [el]; exact decide_eq_false c1
        cases h8 : 8 - k with
        | zero => rfl
        | succ m => rw [wlF, el']; rfl
  · obtain ⟨z2, rfl⟩ := h2
    repeat (walk_at "z")
    refine z_flO z2 0 rfl R.cl R.n2 rfl ?_
    repeat (walk_at "z")
    refine z_eqS rfl ?_
    repeat (walk_at "z")
    by_cases c : wl t i = 0
    · refine z_bT' (decide_eq_true (by rw [c]; rfl)) ?_
      repeat (walk_at "z")
      exact z_rer z2 (sb.cons _) (qx c)
    · refine z_bF' (decide_eq_false (by intro h; have := V.int.inj h; omega)) ?_
      repeat (walk_at "z")
      refine z_flO z2 0 rfl R.cl R.n1 rfl ?_
      repeat (walk_at "z")
      refine z_flO z2 0 rfl R.cl R.n2 rfl ?_
      repeat (walk_at "z")
      exact z_slS hl (q c H2 z2)
end
end LW
namespace LW
open PySem PySem.Spec PyProof.Rows L2 Ys

/-! ### how a text is read, in plain Lean -/
def Hd.lo : Hd → Nat
  | .th => 0
  | .ei => 1
  | .an => 1
  | .ag => 1
  | .be => 2
def Hd.hi : Hd → Option Nat
  | .ag => some 1
  | .be => some 2
  | _ => none
theorem le_lo (h : Hd) : Hd.leV h = (Hd.lo h : Int) := by cases h <;> rfl
theorem mo_hi (h : Hd) (n : Nat) : decide (V.int (n : Int) = Hd.moV h) = decide (Hd.hi h = some n) := by
  have e : ∀ k : Nat, decide (V.int (n : Int) = V.int (k : Int)) = decide ((some k : Option Nat) = some n) := fun k => by
    by_cases c : n = k
    · subst c; rw [decide_eq_true rfl, decide_eq_true rfl]
    · rw [decide_eq_false (fun h => c (by have := V.int.inj h; omega)), decide_eq_false (fun h => c (Option.some.inj h).symm)]
  cases h
  case ag => exact e 1
  case be => exact e 2
  all_goals exact decide_eq_false (fun h => by cases h)
inductive Rs where
  | err (i : Nat)
  | name (s : Str) (i : Nat)
  | push (h : Hd) (i : Nat)
def beginR (t : Str) (i : Nat) (inBe : Bool) : Rs :=
  if wl t i = 0 then .err i else
  if sgS t (i + wl t i) = "(" then
    match headOf (sub t i (wl t i)) with
    | some h => if (decide (h = .be) && inBe) = true then .name (sub t i (wl t i)) (i + wl t i) else .push h (i + wl t i + 1)
    | none => .name (sub t i (wl t i)) (i + wl t i)
  else .name (sub t i (wl t i)) (i + wl t i)
abbrev Stk := List (Hd × List Pl)
def anyBe (A : Stk) : Bool := A.any fun f => decide (f.1 = .be)
inductive Stp where
  | err (i : Nat)
  | go (f : Option Pl) (i : Nat) (A : Stk)
def fromB : Rs → Stk → Stp
  | .err e, _ => .err e
  | .name s j, A => .go (some (.nm s)) j A
  | .push h j, A => .go none j ((h, []) :: A)
def goOn (t : Str) (found : Option Pl) (i : Nat) : Stk → Stp
  | [] => .err 0
  | (h, ps) :: A =>
    if (sgS t i = ")" ∧ Hd.lo h ≤ (ps ++ found.toList).length) ∨ Hd.hi h = some (ps ++ found.toList).length then
      if sgS t i = ")" then .go (some (.nd h (ps ++ found.toList))) (i + 1) A else .err i
    else match found with
      | some _ => if sgS t i = "," then if sgS t (i + 1) = " " then fromB (beginR t (i + 2) (anyBe ((h, ps ++ found.toList) :: A))) ((h, ps ++ found.toList) :: A) else .err (i + 1) else .err i
      | none => fromB (beginR t i (anyBe ((h, ps ++ found.toList) :: A))) ((h, ps ++ found.toList) :: A)
theorem goOn_cons {t : Str} {found : Option Pl} {i : Nat} {h : Hd} {ps : List Pl} {A : Stk} : goOn t found i ((h, ps) :: A) =
    (
    if (sgS t i = ")" ∧ Hd.lo h ≤ (ps ++ found.toList).length) ∨ Hd.hi h = some (ps ++ found.toList).length then
      if sgS t i = ")" then .go (some (.nd h (ps ++ found.toList))) (i + 1) A else .err i
    else match found with
      | some _ => if sgS t i = "," then if sgS t (i + 1) = " " then fromB (beginR t (i + 2) (anyBe ((h, ps ++ found.toList) :: A))) ((h, ps ++ found.toList) :: A) else .err (i + 1) else .err i
      | none => fromB (beginR t i (anyBe ((h, ps ++ found.toList) :: A))) ((h, ps ++ found.toList) :: A)) := by cases found <;> rfl
inductive Out where
  | ok (p : Pl)
  | err (i : Nat)
inductive Runs (t : Str) : Nat → Option Pl → Nat → Stk → Out → Prop
  | fin {p : Pl} {i : Nat} : sgS t i = "" → Runs t 0 (some p) i [] (.ok p)
  | bad {p : Pl} {i : Nat} : sgS t i ≠ "" → Runs t 0 (some p) i [] (.err i)
  | stop {f : Option Pl} {i e : Nat} {x : Hd × List Pl} {A : Stk} : goOn t f i (x :: A) = .err e → Runs t 0 f i (x :: A) (.err e)
  | step {n : Nat} {f f' : Option Pl} {i i' : Nat} {x : Hd × List Pl} {A A' : Stk} {R : Out} : goOn t f i (x :: A) = .go f' i' A' → Runs t n f' i' A' R → Runs t (n + 1) f i (x :: A) R
def Reads (t : Str) (R : Out) : Prop := (∃ e, fromB (beginR t 0 false) [] = .err e ∧ R = .err e) ∨ ∃ f i A n, fromB (beginR t 0 false) [] = .go f i A ∧ Runs t n f i A R
def cnt : Stk → Nat
  | [] => 0
  | (_, ps) :: A => ps.length + 1 + cnt A
def fo (f : Option Pl) : Nat := f.toList.length
theorem wlF_le (t : Str) : ∀ k i, i ≤ t.length → i + wlF t k i ≤ t.length
  | 0, i, h => h
  | k + 1, i, h => by
    rw [wlF]
    split
    · rename_i h1
      have : i < t.length := by
        unfold letterAt at h1
        cases hc : t.cps.toList[i]? with
        | none => rw [hc] at h1; cases h1
        | some c =>
          have := (List.getElem?_eq_some_iff.mp hc).1
          rw [Array.length_toList] at this
          exact this
      have := wlF_le t k (i + 1) this
      omega
    · exact h
theorem sg_lt {t : Str} {i : Nat} {s : Str} (h : sgS t i = s) (ne : s ≠ "") : i < t.length := by
  cases hc : t.cps.toList[i]? with
  | none => rw [sg_none hc] at h; exact absurd h.symm ne
  | some c =>
    have := (List.getElem?_eq_some_iff.mp hc).1
    rw [Array.length_toList] at this
    exact this
structure Bnd (t : Str) (f : Option Pl) (i : Nat) (A : Stk) : Prop where
  c : cnt A + fo f ≤ i
  l : i ≤ t.length
theorem bnd_begin {t : Str} {b : Bool} {i i' : Nat} {A A' : Stk} {f' : Option Pl} (c : cnt A ≤ i) (l : i ≤ t.length) (e : fromB (beginR t i b) A = .go f' i' A') : Bnd t f' i' A' := by
  have hw := wlF_le t 8 i l
  have nm : ∀ s j, fromB (.name s j) A = .go f' i' A' → j = i + wl t i → wl t i ≠ 0 → Bnd t f' i' A' := fun s j e ej h0 => by
    injection e with e1 e2 e3
    subst e1 e2 e3
    exact ⟨by simp [fo]; omega, by rw [ej]; exact hw⟩
  unfold beginR at e
  split at e
  · cases e
  rename_i h0
  split at e
  · rename_i h1
    split at e
    · split at e
      · exact nm _ _ e rfl h0
      · injection e with e1 e2 e3
        subst e1 e2 e3
        have := sg_lt h1 (by decide +kernel)
        exact ⟨by simp [fo, cnt]; omega, by omega⟩
    · exact nm _ _ e rfl h0
  · exact nm _ _ e rfl h0
theorem bnd_go {t : Str} {f f' : Option Pl} {i i' : Nat} {A A' : Stk} (B : Bnd t f i A) (e : goOn t f i A = .go f' i' A') : Bnd t f' i' A' := by
  have c := B.c
  have l := B.l
  cases A with
  | nil => cases e
  | cons x A =>
    obtain ⟨h, ps⟩ := x
    have k : cnt ((h, ps ++ f.toList) :: A) ≤ i := by
      simp only [cnt, fo] at c ⊢
      rw [List.length_append]
      omega
    rw [goOn_cons] at e
    split at e
    · split at e
      · rename_i h1
        injection e with e1 e2 e3
        subst e1 e2 e3
        have := sg_lt h1 (by decide +kernel)
        exact ⟨by simp only [fo, cnt] at c ⊢; simp; omega, by omega⟩
      · cases e
    · split at e
      · split at e
        · split at e
          · rename_i h1 h2
            have := sg_lt h2 (by decide +kernel)
            exact bnd_begin (by omega) (by omega) e
          · cases e
        · cases e
      · exact bnd_begin k l e
/-! ### what the reader keeps -/
structure Fr where
  a : Addr
  h : Hd
  vs : List V
  ps : List Pl
def Fr.ent (f : Fr) : Addr × HO := (f.a, .lst (.str f.h.s :: f.vs))
def ab (L : List Fr) : Stk := (L.map fun f => (f.h, f.ps)).reverse
def RM (C dx self ps : Addr) (t : Str) (i : Nat) (L : List Fr) (M0 : List (Addr × HO)) : List (Addr × HO) := (self, .ins C dx (rdF t i ps)) :: (ps, .lst (L.map fun f => V.ref f.a)) :: (L.map Fr.ent ++ M0)
def Fine (K : PySem.W.Frag) (G : Hp) (L : List Fr) : Prop := ∀ f ∈ L, Dts K G f.vs (Pl.dl f.ps)
theorem Fine.up {K : PySem.W.Frag} {G G1 : Hp} {L : List Fr} (h : Fine K G L) (s : Same G G1) : Fine K G1 L := fun f hf => (h f hf).up s
theorem RM_at {C dx self ps : Addr} {t : Str} {i k : Nat} {L : List Fr} {M0 : List (Addr × HO)} {f : Fr} (h : L[k]? = some f) : (RM C dx self ps t i L M0)[k + 2]? = some f.ent := by
  show (L.map Fr.ent ++ M0)[k]? = _
  have : k < (L.map Fr.ent).length := by rw [List.length_map]; exact (List.getElem?_eq_some_iff.mp h).1
  rw [List.getElem?_append_left this, List.getElem?_map, h]
  rfl
theorem RM_sub {C dx self ps : Addr} {t : Str} {i : Nat} {L : List Fr} {M0 : List (Addr × HO)} : M0.Sublist ((ps, HO.lst (L.map fun f => V.ref f.a)) :: (L.map Fr.ent ++ M0)) := (List.sublist_append_right _ _).cons _
theorem any_be (L : List Fr) : ((L.map fun f => decide (f.h = Hd.be)).any id) = anyBe (ab L) := by
  unfold anyBe ab
  rw [List.any_reverse, List.any_map, List.any_map]
  rfl
section
variable {P : Program} {w : World} {K : PySem.W.Frag} {mg : Str → Option Value} {base : Heap} {f : Addr} {fd : FuncData} {C CI : Addr}
def spBegin (K : PySem.W.Frag) (C CI : Addr) : Sp := fun vs H Q E => ∃ G M0 self dx t i ps L, vs = [.ref self] ∧ Zp G (RM C dx self ps t i L M0) H ∧ t.length ≤ 4000000 ∧ L.length ≤ 4000000 ∧
  (match beginR t i (anyBe (ab L)) with
    | .err e => RErr K CI G M0 E e
    | .name s j => ∀ G1 H1, Zp G1 (RM C dx self ps t j L M0) H1 → Same G G1 → Q (.str s) H1
    | .push h j => ∀ a G1 H1, Zp G1 (RM C dx self ps t j (L ++ [⟨a, h, [], []⟩]) M0) H1 → Same G G1 → Q .non H1)
theorem ok_begin (T : Nm K mg) (TB : PTab K w) (R : RC K C) (M_sign : Mth P w K mg base CX0 1 C "sign" ["self"] [] (spSign K C)) (M_mark : Mth P w K mg base (L2.CX P w) 3 C "mark" ["self", "sign"] [] (spMark K C CI)) (M_word : Mth P w K mg base (L2.CX P w) 3 C "word" ["self"] [] (spWordR K C CI))
    (F : FunD K "begin" "PlanReader.begin" (defArgs s_PlanReader_begin) (defBody s_PlanReader_begin) (defScope s_PlanReader_begin) [] [] f fd) : FnOk P w K mg base (L2.CX P w) 4 f fd ["self"] (spBegin K C CI) := by
  have nd : N_PlanReader_begin.Nodup := sc_PlanReader_begin.nd
  refine F.ok sc_PlanReader_begin (fun vs H Q E h => ?_) (fun cdv A outer s H vs Q E hr h => ?_)
  · obtain ⟨G, M0, self, dx, t, i, ps, L, rfl, _⟩ := h
    rfl
  have hu := hr.units
  refine ⟨_,   (pss_cons (ps_asg (pe_mtX0 M_word (hr.mono (by omega)) (takes_of rfl rfl rfl rfl) (pv 0)) (pg_name (i := 1) nd rfl (by first | exact .inl rfl | exact .inr rfl)))
    (pss_cons (ps_asg (pe_and (pe_cmpR (k_eq (K := K) hu) (pv 1) pe_str (nomark _)) (pe_one (pe_callB (kc_any (K := K) rfl) (by rfl) T.b_any boot_any (pa_cons (pe_lc (own := [("parts", 3)]) (tt := tYes) rfl nd (k_any (K := K) (k_fld (K := K) (pv 0) rfl)) (blkOk_by (N := N_PlanReader_begin) (sc := defScope s_PlanReader_begin) (by decide +kernel)) (fun _ _ _ _ _ => (pg_name (i := 3) nd rfl (by first | exact .inl rfl | exact .inr rfl))) (fun _ _ _ _ _ => pts_nil) (fun _ _ _ _ _ => (pe_cmpR (k_eq (K := K) hu) (pe_ix (k_ix (K := K)) (pv 3) pe_int (fun _ _ => rfl)) pe_str (nomark _)))) pa_nil)))) (pg_name (i := 2) nd rfl (by first | exact .inl rfl | exact .inr rfl)))
    (pss_cons (ps_if (PW.pt (pw_or (pt_cmpR (k_ne (K := K) hu) (pe_mt0 M_sign (hr.mono (by omega)) pass0 (pv 0)) pe_str (nomark _)) (pw_or (pt_cmpR (k_notInD (K := K) (w := w)) (pv 1) (pe_gC T.g_LEAST (by rfl)) (by rfl)) (pw_or1 (pt_val (pv 2)))))) (pss_one (ps_ret (pv 1))) pss_nil)
    (pss_cons (ps_expr (pe_mtX M_mark (hr.mono (by omega)) (takes_of rfl rfl rfl rfl) (pv 0) (pa_cons pe_str pa_nil)))
    (pss_cons (ps_expr (pe_bm PySem.F.plainAttrs_list PySem.F.slot_list_append PySem.F.type_list_append mt_append (k_fld (K := K) (pv 0) rfl) (pa_cons (pe_lst (pa_cons (pv 1) pa_nil)) pa_nil)))
    (pss_one (ps_ret pe_non))))))), ?_⟩
  obtain ⟨G, M0, self, dx, t, i, ps, L, rfl, z, hl, hL, q⟩ := h
  repeat (walk_at "z")
  refine z_mtO z 0 rfl rfl ?_
  repeat (walk_at "z")
  refine ⟨G, _, M0, self, dx, t, i, ps, rfl, z, hl, RM_sub (C := C) (dx := dx) (self := self) (t := t) (i := i), fun hw H1 z1 => ?_, fun hw => ?_⟩
  rotate_left
  · unfold beginR at q
    rw [if_pos hw] at q
    exact q
  unfold beginR at q
  rw [if_neg hw] at q
  generalize hs : sub t i (wl t i) = wd at q
  generalize hj : i + wl t i = j at q z1
  have z1 : Zp G (RM C dx self ps t j L M0) H1 := z1
  repeat (walk_at "y")
  with_reducible refine z_cut (fun σ H => ∃ G2, Zp G2 (RM C dx self ps t j L M0) H ∧ Same G G2 ∧ σ = [some (.ref self), some (.str wd), some (.bl (decide (wd = "beside") && anyBe (ab L))), none]) (fun nx hnx => ?_) (fun σ H2 h2 => ?_)
  · repeat (walk_at "z")
    refine z_eqS rfl ?_
    repeat (walk_at "z")
    by_cases c : wd = "beside"
    · refine z_bT' (decide_eq_true (by rw [c])) ?_
      repeat (walk_at "z")
      refine z_anyL ?_
      repeat (walk_at "z")
      refine z_flO z1 0 rfl R.cl R.n3 rfl ?_
      refine z_itLH (SqL.of (z1.at_ 1 rfl)) ?_
      refine lc_src src_L (fun k G' M' acc => M' = RM C dx self ps t j L M0 ∧ Same G G' ∧ acc = ((L.take k).map fun f => decide (f.h = Hd.be)).map V.bl) z1 ⟨rfl, Same.refl _, rfl⟩ (fun i G' M' M1 acc H' ⟨e, _, _⟩ z' => by subst e; exact SqL.of (z'.at_ 1 rfl)) ?_ ?_
      · rintro k x G' M' acc Dl H' hx ⟨rfl, s', rfl⟩ z'
        obtain ⟨fr, hf, rfl⟩ : ∃ fr, L[k]? = some fr ∧ x = .ref fr.a := by
          rw [List.getElem?_map] at hx
          cases e : L[k]? with
          | none => rw [e] at hx; cases hx
          | some fr => rw [e] at hx; exact ⟨fr, rfl, (Option.some.inj hx).symm⟩
        have hat : H' fr.a = some (.lst (.str fr.h.s :: fr.vs)) := z'.at_ (k + 2) (by
          have := RM_at (C := C) (dx := dx) (self := self) (ps := ps) (t := t) (i := j) (M0 := M0) hf
          rw [List.getElem?_append_left (List.getElem?_eq_some_iff.mp this).1]
          exact this)
        repeat (walk_at "z")
        refine ⟨by rfl, ?_⟩
        repeat (walk_at "z")
        refine z_ixH (SqL.of hat) at_zero ?_
        repeat (walk_at "z")
        refine z_eqS rfl ?_
        rw [str_be]
        refine z_laid z' (by rw [List.length_map, List.length_map, List.length_take]; omega) ⟨rfl, s', ?_⟩
        rw [take_snoc hf, List.map_append, List.map_append]
        rfl
      · rintro p3 G3 M3 acc G4 H3 ⟨rfl, s3, rfl⟩ s4 z4 e4
        rw [List.length_map, List.take_length] at e4
        repeat (walk_at "z")
        refine z_any (z4.seqL (SqL.of e4)) ?_
        rw [any_be]
        exact hnx _ _ ⟨G4, z4, s3.trans s4, by rw [decide_eq_true c]; rfl⟩
    · refine z_bF' (decide_eq_false fun h => c (V.str.inj h)) ?_
      exact hnx _ _ ⟨G, z1, Same.refl _, by rw [decide_eq_false c]; rfl⟩
  obtain ⟨G2, z2, s2, rfl⟩ := h2
  repeat (walk_at "z")
  refine z_mtO z2 0 rfl rfl ?_
  repeat (walk_at "z")
  refine ⟨G2, _, self, dx, t, j, ps, rfl, z2, hl, ?_⟩
  repeat (walk_at "z")
  refine z_neS rfl ?_
  repeat (walk_at "z")
  by_cases c : sgS t j = "("
  · rw [if_pos c] at q
    refine z_bT' (decide_eq_true (by rw [c])) ?_
    repeat (walk_at "z")
    refine z_notInKD TB.l ?_
    repeat (walk_at "z")
    rcases head_cases wd with ⟨h, rfl⟩ | ⟨n1, n2, _⟩
    · rw [hd_s] at q
      rw [le_at]
      refine z_bT' rfl ?_
      have eb : decide (h.s = ("beside" : Str)) = decide (h = .be) := by cases h <;> decide +kernel
      rw [eb]
      dsimp only at q
      repeat (walk_at "z")
      cases hb : (decide (h = .be) && anyBe (ab L)) with
      | true =>
        rw [hb, if_pos rfl] at q
        repeat (walk_at "z")
        exact q G2 H2 z2 s2
      | false =>
        rw [hb, if_neg Bool.false_ne_true] at q
        repeat (walk_at "z")
        refine z_mtO z2 0 rfl rfl ?_
        repeat (walk_at "z")
        refine ⟨G2, _, M0, self, dx, t, j, ps, _, rfl, z2, hl, RM_sub (C := C) (dx := dx) (self := self) (t := t) (i := j), fun _ H3 z3 => ?_, fun hn => absurd c hn⟩
        have z3 : Zp G2 (RM C dx self ps t (j + 1) L M0) H3 := z3
        repeat (walk_at "z")
        refine z_flO z3 0 rfl R.cl R.n3 rfl ?_
        refine z_tyO z3 1 rfl ?_
        repeat (walk_at "z")
        refine z_ownL z3 (by simp) fun a H4 z4 => ?_
        repeat (walk_at "z")
        refine z_append z4 1 rfl (by rw [List.length_map]; exact hL) fun H5 z5 => ?_
        repeat (walk_at "z")
        refine q a G2 H5 (z5.perm ?_) s2
        unfold RM
        simp only [List.cons_append, List.set_cons_succ, List.set_cons_zero, List.map_append, List.map_cons, List.map_nil]
        refine List.Perm.cons _ (List.Perm.cons _ ?_)
        rw [List.append_assoc, List.append_assoc]
        exact List.Perm.append_left _ List.perm_append_comm
    · rw [n1] at q
      rw [n2]
      refine z_bF' rfl ?_
      repeat (walk_at "z")
      exact q G2 H2 z2 s2
  · rw [if_neg c] at q
    refine z_bF' (decide_eq_false fun h => c (V.str.inj h)) ?_
    repeat (walk_at "z")
    exact q G2 H2 z2 s2
end
end LW
namespace LW
open PySem PySem.Spec PyProof.Rows L2 Ys
/-! ### a plan's text is read as the plan -/
def cs (s : Str) : List Nat := s.cps.toList
def rem (t : Str) (i : Nat) : List Nat := (cs t).drop i
theorem rem_at {t : Str} {i c : Nat} {r : List Nat} (h : rem t i = c :: r) : t.cps.toList[i]? = some c := by
  have e : (rem t i).head? = some c := by rw [h]; rfl
  rw [rem, List.head?_drop] at e
  exact e
theorem rem_nilQ {t : Str} {i : Nat} (h : rem t i = []) : t.cps.toList[i]? = none := by
  have e : (rem t i).head? = none := by rw [h]; rfl
  rw [rem, List.head?_drop] at e
  exact e
theorem rem_add {t : Str} {i : Nat} {w r : List Nat} (h : rem t i = w ++ r) : rem t (i + w.length) = r := by
  unfold rem at *
  rw [← List.drop_drop, h, List.drop_left]
theorem rem_add' {t : Str} {i n : Nat} {w r : List Nat} (h : rem t i = w ++ r) (e : w.length = n) : rem t (i + n) = r := by
  subst e
  exact rem_add h
def Stops (r : List Nat) : Prop := ∀ c, r.head? = some c → c ∉ abcL
theorem wlF_of {t : Str} : ∀ (k i : Nat) (w r : List Nat), rem t i = w ++ r → (∀ c ∈ w, c ∈ abcL) → w.length ≤ k → Stops r → wlF t k i = w.length
  | 0, i, w, r, h, hw, hl, hs => by rw [wlF]; omega
  | k + 1, i, [], r, h, hw, hl, hs => by
    have e : letterAt t i = false := by
      unfold letterAt
      cases r with
      | nil => rw [rem_nilQ h]
      | cons c r => rw [rem_at h]; exact decide_eq_false (hs c rfl)
    rw [wlF, e]
    rfl
  | k + 1, i, c :: w, r, h, hw, hl, hs => by
    have e : letterAt t i = true := by
      unfold letterAt
      rw [rem_at h]
      exact decide_eq_true (hw c (by simp))
    have h2 : rem t (i + 1) = w ++ r := rem_add (w := [c]) h
    rw [wlF, if_pos e, wlF_of k (i + 1) w r h2 (fun x hx => hw x (by simp [hx])) (by simp at hl; omega) hs]
    rfl
theorem sub_of {t : Str} {i n : Nat} {s : Str} {r : List Nat} (h : rem t i = cs s ++ r) (e : s.length = n) : LW.sub t i n = s := by
  have hl : (cs s).length = n := by rw [← e]; exact Array.length_toList
  have hlen : (cs t).length = t.length := Array.length_toList
  have hin : i + n ≤ t.length ∨ n = 0 := by
    have := congrArg List.length h
    rw [rem, List.length_drop, List.length_append, hl, hlen] at this
    omega
  have e1 : HT.sIx t.length 0 (some (i : Int)) = min i t.length := HT.sIx_nat _ _ _
  have e2 : HT.sIx t.length t.length (some ((i + n : Nat) : Int)) = min (i + n) t.length := HT.sIx_nat _ _ _
  unfold LW.sub cutS
  rw [e1, e2]
  have e3 : (t.cps.toList.drop (min i t.length)).take (min (i + n) t.length - min i t.length) = cs s := by
    rcases hin with hin | rfl
    · rw [show min i t.length = i by omega, show min (i + n) t.length - i = n by omega]
      show (rem t i).take n = _
      rw [h, ← hl, List.take_left]
    · rw [show min (i + 0) t.length - min i t.length = 0 by omega, List.take_zero]
      exact (List.eq_nil_of_length_eq_zero hl).symm
  rw [e3]
  show (⟨s.cps.toList.toArray⟩ : Str) = s
  rw [Array.toArray_toList]
theorem sg_rem {t : Str} {i c : Nat} {r : List Nat} (h : rem t i = c :: r) : sgS t i = ⟨#[c]⟩ := sg_some (rem_at h)
theorem one_inj {c d : Nat} (h : (⟨#[c]⟩ : Str) = ⟨#[d]⟩) : c = d := by injection h with h; simpa using h
theorem s40 : ("(" : Str) = ⟨#[40]⟩ := by decide +kernel
theorem s41 : (")" : Str) = ⟨#[41]⟩ := by decide +kernel
theorem s44 : ("," : Str) = ⟨#[44]⟩ := by decide +kernel
theorem s32 : (" " : Str) = ⟨#[32]⟩ := by decide +kernel
def tx (p : Pl) : List Nat := cs (txt p)
def T : List Pl → List Nat
  | [] => [41]
  | q :: qs => [44, 32] ++ (tx q ++ T qs)
theorem cs_app (x y : Str) : cs (x ++ y) = cs x ++ cs y := by
  show (x.cps ++ y.cps).toList = _
  rw [Array.toList_append]
  rfl
theorem join_T : ∀ (q : Pl) (qs : List Pl), cs (Txt.join ", " ((q :: qs).map txt)) ++ [41] = tx q ++ T qs := by
  have e : ∀ l : List Pl, cs (Txt.join ", " (l.map txt)) = TL.joinL [44, 32] (l.map tx) := fun l => by
    have := TL.tl_join ", " (l.map txt)
    rw [TL.join_eq]
    have e2 : TL.tl (", " : Str) = [44, 32] := by decide +kernel
    rw [e2, List.map_map] at this
    exact this
  intro q qs
  rw [e]
  induction qs generalizing q with
  | nil => rfl
  | cons a r ih =>
    have := ih a
    show tx q ++ ([44, 32] ++ TL.joinL [44, 32] ((a :: r).map tx)) ++ [41] = _
    rw [List.append_assoc, List.append_assoc, this]
    rfl
theorem tx_nd (h : Hd) (ps : List Pl) : tx (.nd h ps) = cs h.s ++ (40 :: (cs (Txt.join ", " (ps.map txt)) ++ [41])) := by
  unfold tx
  rw [txt, txtl_map, cs_app, cs_app, cs_app]
  have e1 : cs ("(" : Str) = [40] := by decide +kernel
  have e2 : cs (")" : Str) = [41] := by decide +kernel
  rw [e1, e2]
  simp
theorem hd_abc (h : Hd) : ∀ c ∈ cs h.s, c ∈ abcL := by cases h <;> decide +kernel
theorem wd_abc {s : Str} (h : Wd s) : ∀ c ∈ cs s, c ∈ abcL := fun c hc => by
  have e : abcL = (List.range 26).map (· + 97) := by decide +kernel
  have h2 := h.2.2 c hc
  rw [e]
  exact List.mem_map.mpr ⟨c - 97, List.mem_range.mpr (by omega), by omega⟩
theorem tx_head (p : Pl) (k : Nms p) : ∃ c r, tx p = c :: r ∧ c ∈ abcL := by
  cases p with
  | nm s =>
    cases k with
    | nm k =>
      have e : tx (.nm s) = cs s := by unfold tx; rw [txt]
      rw [e]
      cases hc : cs s with
      | nil =>
        have : s.length = 0 := by
          have := congrArg List.length hc
          rw [cs, Array.length_toList] at this
          exact this
        have := k.1
        omega
      | cons c r => exact ⟨c, r, rfl, wd_abc k c (by rw [hc]; simp)⟩
  | nd h ps =>
    rw [tx_nd]
    cases hc : cs h.s with
    | nil => cases h <;> exact absurd hc (by decide +kernel)
    | cons c r => exact ⟨c, _, rfl, hd_abc h c (by rw [hc]; simp)⟩
def Ends_ (r : List Nat) : Prop := ∀ c, r.head? = some c → c ∉ abcL ∧ c ≠ 40
theorem T_ends : ∀ qs : List Pl, Ends_ (T qs)
  | [] => fun c h => by
    obtain rfl : 41 = c := by simpa [T] using h
    decide +kernel
  | q :: qs => fun c h => by
    obtain rfl : 44 = c := by simpa [T] using h
    decide +kernel
theorem hi_lt {h : Hd} {n m : Nat} (f : h.fit m = true) (l : n < m) : Hd.hi h ≠ some n := by
  cases h
  case ag =>
    have f : m = 1 := of_decide_eq_true f
    intro e
    have := Option.some.inj (show some 1 = some n from e)
    omega
  case be =>
    have f : m = 2 := of_decide_eq_true f
    intro e
    have := Option.some.inj (show some 2 = some n from e)
    omega
  all_goals (intro e; cases e)
theorem lo_le {h : Hd} {m : Nat} (f : h.fit m = true) : Hd.lo h ≤ m := by
  cases h
  case th => exact Nat.zero_le _
  case ei => exact of_decide_eq_true f
  case an => exact of_decide_eq_true f
  case ag => have f : m = 1 := of_decide_eq_true f; show 1 ≤ m; omega
  case be => have f : m = 2 := of_decide_eq_true f; show 2 ≤ m; omega
def ReadsAt (t : Str) (p : Pl) : Prop := ∀ (i : Nat) (r : List Nat) (A : Stk) (R : Out) (n : Nat), Ok (anyBe A) p → rem t i = tx p ++ r → Ends_ r → Runs t n (some p) (i + (tx p).length) A R →
  ∃ f' i' A' m, fromB (beginR t i (anyBe A)) A = .go f' i' A' ∧ Runs t m f' i' A' R
theorem cs_len (s : Str) : (cs s).length = s.length := Array.length_toList
theorem begin_name {t : Str} {i : Nat} {b : Bool} {s : Str} {r : List Nat} (h : rem t i = cs s ++ r) (k : Wd s) (e : Ends_ r) : beginR t i b = .name s (i + s.length) := by
  have hw : wl t i = s.length := by
    unfold wl
    rw [wlF_of 8 i (cs s) r h (wd_abc k) (by rw [cs_len]; exact k.2.1) (fun c hc => (e c hc).1), cs_len]
  have hs : LW.sub t i (wl t i) = s := sub_of h hw.symm
  have h2 : rem t (i + s.length) = r := rem_add' h (cs_len s)
  unfold beginR
  rw [hs, hw, if_neg (by have := k.1; omega), if_neg]
  intro h40
  cases r with
  | nil => rw [sg_none (rem_nilQ h2)] at h40; revert h40; decide +kernel
  | cons c r =>
    rw [sg_rem h2, s40] at h40
    exact (e c rfl).2 (one_inj h40)
theorem begin_push {t : Str} {i : Nat} {b : Bool} {h : Hd} {r : List Nat} (e : rem t i = cs h.s ++ (40 :: r)) (nb : (decide (h = .be) && b) = false) : beginR t i b = .push h (i + h.s.length + 1) := by
  have hs40 : Stops (40 :: r) := fun c hc => by
    obtain rfl : 40 = c := by simpa using hc
    decide +kernel
  have hw : wl t i = h.s.length := by
    unfold wl
    rw [wlF_of 8 i (cs h.s) _ e (hd_abc h) (by rw [cs_len]; exact hd_len h) hs40, cs_len]
  have hs : LW.sub t i (wl t i) = h.s := sub_of e hw.symm
  have h2 : rem t (i + h.s.length) = 40 :: r := rem_add' e (cs_len h.s)
  have h1 : 1 ≤ h.s.length := by cases h <;> decide +kernel
  unfold beginR
  rw [hs, hw, if_neg (by omega), if_pos (by rw [sg_rem h2, s40]), hd_s]
  show (if (decide (h = .be) && b) = true then _ else _) = _
  rw [nb, if_neg Bool.false_ne_true]
theorem sg_ne41 {t : Str} {i c : Nat} {r : List Nat} (h : rem t i = c :: r) (n : c ≠ 41) : sgS t i ≠ ")" := by
  rw [sg_rem h, s41]
  exact fun e => n (one_inj e)
theorem rest_runs {t : Str} {h : Hd} {A : Stk} {R : Out} {n : Nat} : ∀ (qs : List Pl) (dn : List Pl) (q : Pl) (j : Nat) (r : List Nat), h.fit (dn ++ q :: qs).length = true → (∀ p ∈ qs, ReadsAt t p ∧ Ok (decide (h = .be) || anyBe A) p) → rem t j = T qs ++ r →
    Runs t n (some (.nd h (dn ++ q :: qs))) (j + (T qs).length) A R → ∃ m, Runs t m (some q) j ((h, dn) :: A) R
  | [], dn, q, j, r, f, _, e, k => by
    have g : goOn t (some q) j ((h, dn) :: A) = .go (some (.nd h (dn ++ [q]))) (j + 1) A := by
      have hs : sgS t j = ")" := by rw [sg_rem e, s41]
      rw [goOn_cons]
      have c : (sgS t j = ")" ∧ Hd.lo h ≤ (dn ++ (some q).toList).length) ∨ Hd.hi h = some (dn ++ (some q).toList).length := .inl ⟨hs, lo_le f⟩
      rw [if_pos c, if_pos hs]
      rfl
    exact ⟨_, .step g k⟩
  | q2 :: qs, dn, q, j, r, f, hq, e, k => by
    have e1 : rem t j = 44 :: (32 :: (tx q2 ++ (T qs ++ r))) := by rw [e]; simp [T]
    have e2 : rem t (j + 1) = 32 :: (tx q2 ++ (T qs ++ r)) := rem_add (w := [44]) e1
    have e3 : rem t (j + 2) = tx q2 ++ (T qs ++ r) := rem_add (w := [44, 32]) e1
    obtain ⟨hr, ho⟩ := hq q2 (by simp)
    have h1 : sgS t j = "," := by rw [sg_rem e1, s44]
    have h2 : sgS t (j + 1) = " " := by rw [sg_rem e2, s32]
    have h0 : sgS t j ≠ ")" := sg_ne41 e1 (by decide)
    have en : Ends_ (T qs ++ r) := fun c hc => by
      refine T_ends qs c ?_
      cases qs with
      | nil => simpa [T] using hc
      | cons a b => simpa [T] using hc
    have el : (dn ++ [q]) ++ q2 :: qs = dn ++ q :: q2 :: qs := by simp
    have ih : ∃ m, Runs t m (some q2) (j + 2 + (tx q2).length) ((h, dn ++ [q]) :: A) R := by
      refine rest_runs (n := n) qs (dn ++ [q]) q2 _ r (by rw [el]; exact f) (fun p hp => hq p (by simp [hp])) (rem_add e3) ?_
      rw [el]
      have : j + 2 + (tx q2).length + (T qs).length = j + (T (q2 :: qs)).length := by simp [T]; omega
      rw [this]
      exact k
    obtain ⟨m1, ih⟩ := ih
    have ea : anyBe ((h, dn ++ [q]) :: A) = (decide (h = .be) || anyBe A) := rfl
    obtain ⟨f', i', A', m2, g1, g2⟩ := hr (j + 2) (T qs ++ r) ((h, dn ++ [q]) :: A) R m1 (by rw [ea]; exact ho) e3 en ih
    have g : goOn t (some q) j ((h, dn) :: A) = .go f' i' A' := by
      rw [goOn_cons]
      have c : ¬ ((sgS t j = ")" ∧ Hd.lo h ≤ (dn ++ (some q).toList).length) ∨ Hd.hi h = some (dn ++ (some q).toList).length) := fun c => c.elim (fun c => h0 c.1) (hi_lt f (by simp))
      rw [if_neg c, if_pos h1, if_pos h2]
      exact g1
    exact ⟨_, .step g g2⟩
theorem reads_nd {t : Str} {h : Hd} {ps : List Pl} (ih : ∀ p ∈ ps, ReadsAt t p) (i : Nat) (r : List Nat) (A : Stk) (R : Out) (n : Nat) (k : Ok (anyBe A) (.nd h ps)) (e : rem t i = tx (.nd h ps) ++ r) (hr : Runs t n (some (.nd h ps)) (i + (tx (.nd h ps)).length) A R) :
    ∃ f' i' A' m, fromB (beginR t i (anyBe A)) A = .go f' i' A' ∧ Runs t m f' i' A' R := by
  cases k with
  | nd f c ko =>
    rw [tx_nd] at e hr
    have nb : (decide (h = .be) && anyBe A) = false := by
      cases hb : anyBe A with
      | false => rw [Bool.and_false]
      | true => rw [decide_eq_false (c hb)]; rfl
    have e' : rem t i = cs h.s ++ (40 :: (cs (Txt.join ", " (ps.map txt)) ++ [41] ++ r)) := by rw [e]; simp
    rw [begin_push e' nb]
    have e2 : rem t (i + h.s.length + 1) = cs (Txt.join ", " (ps.map txt)) ++ [41] ++ r := rem_add (w := [40]) (rem_add' e' (cs_len h.s))
    have ei : i + (cs h.s ++ (40 :: (cs (Txt.join ", " (ps.map txt)) ++ [41]))).length = i + h.s.length + 1 + (cs (Txt.join ", " (ps.map txt)) ++ [41]).length := by
      rw [List.length_append, List.length_cons, cs_len]; omega
    rw [ei] at hr
    have ko' : ∀ p ∈ ps, Ok (decide (h = .be) || anyBe A) p := fun p hp => by rw [Bool.or_comm]; exact ko p hp
    generalize i + h.s.length + 1 = j at e2 hr
    have main : ∃ m, Runs t m none j ((h, []) :: A) R := by
      cases ps with
      | nil =>
        have hj : cs (Txt.join ", " (([] : List Pl).map txt)) = [] := by
          have : Txt.join ", " ([] : List Str) = ("" : Str) := by rw [TL.join_eq]; rfl
          show cs (Txt.join ", " ([] : List Str)) = []
          rw [this]
          decide +kernel
        rw [hj] at e2 hr
        have hs : sgS t j = ")" := by rw [sg_rem e2, s41]
        have g : goOn t none j ((h, []) :: A) = .go (some (.nd h [])) (j + 1) A := by
          rw [goOn_cons]
          have c : (sgS t j = ")" ∧ Hd.lo h ≤ (([] : List Pl) ++ (none : Option Pl).toList).length) ∨ Hd.hi h = some (([] : List Pl) ++ (none : Option Pl).toList).length := .inl ⟨hs, lo_le f⟩
          rw [if_pos c, if_pos hs]
          rfl
        exact ⟨_, .step g hr⟩
      | cons q qs =>
        rw [join_T] at e2 hr
        have e3 : rem t j = tx q ++ (T qs ++ r) := by rw [e2, List.append_assoc]
        have en2 : Ends_ (T qs ++ r) := fun c hc => by
          refine T_ends qs c ?_
          cases qs with
          | nil => simpa [T] using hc
          | cons a b => simpa [T] using hc
        rw [List.length_append, ← Nat.add_assoc] at hr
        obtain ⟨m1, h1⟩ := rest_runs qs [] q (j + (tx q).length) r f (fun p hp => ⟨ih p (by simp [hp]), ko' p (by simp [hp])⟩) (rem_add e3) hr
        have ea : anyBe ((h, ([] : List Pl)) :: A) = (decide (h = .be) || anyBe A) := rfl
        obtain ⟨f', i', A', m2, g1, g2⟩ := ih q (by simp) j (T qs ++ r) ((h, []) :: A) R m1 (by rw [ea]; exact ko' q (by simp)) e3 en2 h1
        obtain ⟨c, r', hc, hl⟩ := tx_head q (Ok.nms _ _ (ko' q (by simp)))
        have h0 : sgS t j ≠ ")" := by
          rw [hc] at e3
          refine sg_ne41 e3 fun e41 => ?_
          rw [e41] at hl
          revert hl
          decide +kernel
        have g : goOn t none j ((h, []) :: A) = .go f' i' A' := by
          rw [goOn_cons]
          have c : ¬ ((sgS t j = ")" ∧ Hd.lo h ≤ (([] : List Pl) ++ (none : Option Pl).toList).length) ∨ Hd.hi h = some (([] : List Pl) ++ (none : Option Pl).toList).length) := fun c => c.elim (fun c => h0 c.1) (hi_lt f (by simp))
          rw [if_neg c]
          exact g1
        exact ⟨_, .step g g2⟩
    obtain ⟨m, hm⟩ := main
    exact ⟨_, _, _, m, rfl, hm⟩
theorem reads_at (t : Str) : ∀ p, ReadsAt t p := Pl.ind (fun s => fun i r A R n k e en hr => by
    have et : tx (.nm s) = cs s := by unfold tx; rw [txt]
    rw [et] at e hr
    cases k with
    | nm k =>
      rw [begin_name e k en]
      exact ⟨_, _, _, n, rfl, by rw [← cs_len]; exact hr⟩) fun h ps ih => fun i r A R n k e en hr => reads_nd ih i r A R n k e hr
theorem reads_txt {p : Pl} (k : Ok false p) : Reads (txt p) (.ok p) := by
  have e : rem (txt p) 0 = tx p ++ [] := by unfold rem tx; rw [List.drop_zero, List.append_nil]
  have en : Ends_ [] := fun c h => by cases h
  have e2 := rem_add e
  rw [Nat.zero_add] at e2
  have hr : Runs (txt p) 0 (some p) (0 + (tx p).length) [] (.ok p) := by
    rw [Nat.zero_add]
    exact .fin (sg_none (rem_nilQ e2))
  obtain ⟨f', i', A', m, g1, g2⟩ := reads_at (txt p) p 0 [] [] (.ok p) 0 k e en hr
  exact .inr ⟨f', i', A', m, g1, g2⟩
end LW
namespace LW
open PySem PySem.Spec PyProof.Rows L2 Ys
/-! ### what the reader takes for a plan is the plan's text -/
def Opn : Stk → List Nat
  | [] => []
  | (h, ps) :: A => Opn A ++ (cs h.s ++ (40 :: ps.flatMap fun p => tx p ++ [44, 32]))
def StkOk : Stk → Prop
  | [] => True
  | (h, ps) :: A => (∀ m, Hd.hi h = some m → ps.length < m) ∧ (h = .be → anyBe A = false) ∧ (∀ p ∈ ps, Ok (anyBe ((h, ps) :: A)) p) ∧ StkOk A
structure Snd (t : Str) (f : Option Pl) (i : Nat) (A : Stk) : Prop where
  l : i ≤ t.length
  e : (cs t).take i = Opn A ++ (f.toList.flatMap tx)
  s : StkOk A
  o : ∀ p, f = some p → Ok (anyBe A) p
  n : f = none → ∃ h B, A = (h, []) :: B
theorem hi_ne0' (h : Hd) : Hd.hi h ≠ some 0 := by cases h <;> decide
theorem lt_len {t : Str} : (cs t).length = t.length := Array.length_toList
theorem take_more {t : Str} {i n : Nat} : (cs t).take (i + n) = (cs t).take i ++ ((cs t).drop i).take n := List.take_add ..
theorem take_at {t : Str} {i : Nat} {c : Nat} (h : sgS t i = ⟨#[c]⟩) : (cs t).take (i + 1) = (cs t).take i ++ [c] ∧ i < t.length := by
  cases hc : t.cps.toList[i]? with
  | none =>
    rw [sg_none hc] at h
    have h : (⟨#[]⟩ : Str) = ⟨#[c]⟩ := h
    injection h with h
    simp at h
  | some d =>
    rw [sg_some hc] at h
    obtain rfl := one_inj h
    have hl : i < (cs t).length := (List.getElem?_eq_some_iff.mp hc).1
    refine ⟨?_, by rw [lt_len] at hl; exact hl⟩
    rw [List.take_succ]
    show _ ++ ((cs t)[i]?).toList = _
    rw [show (cs t)[i]? = some d from hc]
    rfl
theorem wlF_let {t : Str} : ∀ k i, ∀ c ∈ ((cs t).drop i).take (wlF t k i), c ∈ abcL
  | 0, i, c, h => by rw [wlF, List.take_zero] at h; cases h
  | k + 1, i, c, h => by
    rw [wlF] at h
    split at h
    · rename_i hl
      unfold letterAt at hl
      cases hc : t.cps.toList[i]? with
      | none => rw [hc] at hl; cases hl
      | some d =>
        rw [hc] at hl
        have hd : d ∈ abcL := of_decide_eq_true hl
        have e : (cs t).drop i = d :: (cs t).drop (i + 1) := (List.drop_eq_getElem?_toList_append ..).trans (by rw [show (cs t)[i]? = some d from hc]; rfl)
        rw [e, List.take_succ_cons] at h
        rcases List.mem_cons.mp h with rfl | h
        · exact hd
        · exact wlF_let k (i + 1) c h
    · rw [List.take_zero] at h; cases h
theorem wlF_8 {t : Str} : ∀ k i, wlF t k i ≤ k
  | 0, i => by rw [wlF]; exact Nat.le_refl _
  | k + 1, i => by
    rw [wlF]
    split
    · have := wlF_8 (t := t) k (i + 1); omega
    · exact Nat.zero_le _
theorem sub_cs {t : Str} {i n : Nat} (h : i + n ≤ t.length) : cs (LW.sub t i n) = ((cs t).drop i).take n := by
  have e1 : HT.sIx t.length 0 (some (i : Int)) = i := by rw [HT.sIx_nat]; omega
  have e2 : HT.sIx t.length t.length (some ((i + n : Nat) : Int)) = i + n := by rw [HT.sIx_nat]; omega
  unfold LW.sub cutS
  rw [e1, e2]
  show (((t.cps.toList.drop i).take (i + n - i)).toArray).toList = _
  rw [show i + n - i = n by omega]
  rfl
theorem name_wd {t : Str} {i : Nat} (h0 : wl t i ≠ 0) (hl : i ≤ t.length) : Wd (LW.sub t i (wl t i)) := by
  have h1 : i + wl t i ≤ t.length := wlF_le t 8 i hl
  have e := sub_cs h1
  have l : (LW.sub t i (wl t i)).length = wl t i := by
    rw [← lt_len, e, List.length_take, List.length_drop, lt_len]
    omega
  refine ⟨by rw [l]; omega, by rw [l]; exact wlF_8 8 i, fun c hc => ?_⟩
  have hm : c ∈ cs (LW.sub t i (wl t i)) := hc
  rw [e] at hm
  have := wlF_let 8 i c hm
  rw [show abcL = (List.range 26).map (· + 97) by decide +kernel] at this
  obtain ⟨k, hk, rfl⟩ := List.mem_map.mp this
  have := List.mem_range.mp hk
  omega
theorem head_s {s : Str} {h : Hd} (e : headOf s = some h) : s = h.s := by
  rcases head_cases s with ⟨g, rfl⟩ | ⟨q, _⟩
  · rw [hd_s] at e
    cases e
    rfl
  · rw [q] at e
    cases e
theorem snd_begin {t : Str} {i i' : Nat} {A A' : Stk} {f' : Option Pl} (l : i ≤ t.length) (e : (cs t).take i = Opn A) (s : StkOk A) (q : fromB (beginR t i (anyBe A)) A = .go f' i' A') : Snd t f' i' A' ∧ i < i' := by
  have nm : ∀ j, fromB (.name (LW.sub t i (wl t i)) j) A = .go f' i' A' → j = i + wl t i → wl t i ≠ 0 → Snd t f' i' A' ∧ i < i' := fun j q ej h0 => by
    injection q with e1 e2 e3
    subst e1 e2 e3 ej
    have h1 : i + wl t i ≤ t.length := wlF_le t 8 i l
    have e' : tx (.nm (LW.sub t i (wl t i))) = ((cs t).drop i).take (wl t i) := by unfold tx; rw [txt]; exact sub_cs h1
    refine ⟨⟨h1, ?_, s, fun p hp => ?_, fun h => by cases h⟩, by omega⟩
    · rw [take_more, e]
      show _ = Opn A ++ (tx (.nm _) ++ [])
      rw [List.append_nil, e']
    · cases hp
      exact .nm (name_wd h0 l)
  unfold beginR at q
  split at q
  · cases q
  rename_i h0
  split at q
  · rename_i h1
    split at q
    · rename_i h hh
      split at q
      · exact nm _ q rfl h0
      · rename_i hb
        injection q with e1 e2 e3
        subst e1 e2 e3
        rw [s40] at h1
        obtain ⟨t1, l1⟩ := take_at h1
        have hw : i + wl t i ≤ t.length := wlF_le t 8 i l
        have es := head_s hh
        refine ⟨⟨l1, ?_, ⟨fun m hm => ?_, fun c => ?_, (fun p hp => by cases hp), s⟩, (fun p hp => by cases hp), fun _ => ⟨h, A, rfl⟩⟩, by omega⟩
        · rw [t1, take_more, e, ← sub_cs hw, es]
          simp [Opn]
        · have := hi_ne0' h
          show 0 < m
          rcases Nat.eq_zero_or_pos m with rfl | h
          · exact absurd hm this
          · exact h
        · subst c
          simpa using hb
    · exact nm _ q rfl h0
  · exact nm _ q rfl h0
theorem begin_err {t : Str} {i e : Nat} {b : Bool} {A : Stk} (l : i ≤ t.length) (q : fromB (beginR t i b) A = .err e) : e ≤ t.length := by
  unfold beginR at q
  split at q
  · injection q with q; omega
  split at q
  · split at q
    · split at q <;> cases q
    · cases q
  · cases q
theorem join_cs (l : List Pl) : cs (Txt.join ", " (l.map txt)) = TL.joinL [44, 32] (l.map tx) := by
  have := TL.tl_join ", " (l.map txt)
  rw [TL.join_eq]
  have e2 : TL.tl (", " : Str) = [44, 32] := by decide +kernel
  rw [e2, List.map_map] at this
  exact this
theorem join_snoc (p : Pl) : ∀ ps : List Pl, (ps.flatMap fun p => tx p ++ [44, 32]) ++ tx p = TL.joinL [44, 32] ((ps ++ [p]).map tx)
  | [] => rfl
  | [q] => by
    show (tx q ++ [44, 32] ++ []) ++ tx p = tx q ++ ([44, 32] ++ tx p)
    simp
  | q :: r :: l => by
    have ih := join_snoc p (r :: l)
    show ((tx q ++ [44, 32]) ++ ((r :: l).flatMap fun p => tx p ++ [44, 32])) ++ tx p = tx q ++ ([44, 32] ++ TL.joinL [44, 32] (((r :: l) ++ [p]).map tx))
    rw [← ih]
    simp
theorem fit_of {h : Hd} {n : Nat} (a : Hd.lo h ≤ n ∨ Hd.hi h = some n) (b : ∀ m, Hd.hi h = some m → n ≤ m) : h.fit n = true := by
  cases h
  case th => rfl
  case ei => exact decide_eq_true (a.elim id fun e => by cases e)
  case an => exact decide_eq_true (a.elim id fun e => by cases e)
  case ag =>
    have := b 1 rfl
    refine decide_eq_true ?_
    rcases a with a | a
    · have : 1 ≤ n := a
      omega
    · injection a with a; exact a.symm
  case be =>
    have := b 2 rfl
    refine decide_eq_true ?_
    rcases a with a | a
    · have : 2 ≤ n := a
      omega
    · injection a with a; exact a.symm
theorem any_cons (h : Hd) (ps : List Pl) (A : Stk) : anyBe ((h, ps) :: A) = (decide (h = .be) || anyBe A) := rfl
theorem snd_go {t : Str} {f f' : Option Pl} {i i' : Nat} {h : Hd} {ps : List Pl} {A A' : Stk} (S : Snd t f i ((h, ps) :: A)) (q : goOn t f i ((h, ps) :: A) = .go f' i' A') : Snd t f' i' A' ∧ i < i' := by
  obtain ⟨hl, he, ⟨s1, s2, s3, s4⟩, ho, hn⟩ := S
  have len : ∀ m, Hd.hi h = some m → (ps ++ f.toList).length ≤ m := fun m hm => by
    have := s1 m hm
    rw [List.length_append]
    cases f <;> simp <;> omega
  have oks : ∀ p ∈ ps ++ f.toList, Ok (anyBe ((h, ps) :: A)) p := fun p hp => by
    rcases List.mem_append.mp hp with hp | hp
    · exact s3 p hp
    · cases f with
      | none => cases hp
      | some g =>
        rw [List.mem_singleton.mp hp]
        exact ho g rfl
  rw [goOn_cons] at q
  split at q
  · rename_i hc
    split at q
    · rename_i h41
      injection q with e1 e2 e3
      subst e1 e2 e3
      rw [s41] at h41
      obtain ⟨t1, l1⟩ := take_at h41
      refine ⟨⟨l1, ?_, s4, fun p hp => ?_, fun h => by cases h⟩, Nat.lt_succ_self _⟩
      · rw [t1, he]
        show _ = Opn A ++ (tx (.nd h _) ++ [])
        rw [List.append_nil, tx_nd, join_cs]
        cases f with
        | none =>
          obtain ⟨g, B, e⟩ := hn rfl
          cases e
          show (Opn A ++ (cs h.s ++ (40 :: []))) ++ [] ++ [41] = Opn A ++ (cs h.s ++ (40 :: (TL.joinL [44, 32] ([].map tx) ++ [41])))
          simp [TL.joinL]
        | some p =>
          rw [show (some p).toList = [p] from rfl, ← join_snoc]
          show (Opn A ++ (cs h.s ++ (40 :: ps.flatMap fun p => tx p ++ [44, 32]))) ++ (tx p ++ []) ++ [41] = _
          simp
      · cases hp
        refine .nd (fit_of (hc.imp (fun h => h.2) id) len) (fun hb => fun e => ?_) fun p hp => ?_
        · rw [s2 e] at hb
          cases hb
        · have := oks p hp
          rw [any_cons, Bool.or_comm] at this
          exact this
    · cases q
  · rename_i hc
    have nc : Hd.hi h ≠ some (ps ++ f.toList).length := fun e => hc (.inr e)
    have so : StkOk ((h, ps ++ f.toList) :: A) := ⟨fun m hm => by
      have := len m hm
      rcases Nat.lt_or_eq_of_le this with h | h
      · exact h
      · exact absurd (h ▸ hm) nc, s2, oks, s4⟩
    cases f with
    | some p =>
      dsimp only at q
      split at q
      · rename_i h44
        split at q
        · rename_i h32
          rw [s44] at h44
          rw [s32] at h32
          obtain ⟨t1, l1⟩ := take_at h44
          obtain ⟨t2, l2⟩ := take_at h32
          have := snd_begin (A := (h, ps ++ (some p).toList) :: A) l2 (by
            rw [t2, t1, he]
            show (Opn A ++ (cs h.s ++ (40 :: ps.flatMap fun p => tx p ++ [44, 32]))) ++ (tx p ++ []) ++ [44] ++ [32] = Opn A ++ (cs h.s ++ (40 :: (ps ++ [p]).flatMap fun p => tx p ++ [44, 32]))
            simp) so q
          exact ⟨this.1, by omega⟩
        · cases q
      · cases q
    | none =>
      dsimp only at q
      exact snd_begin (A := (h, ps ++ (none : Option Pl).toList) :: A) hl (by
        rw [he]
        show (Opn A ++ (cs h.s ++ (40 :: ps.flatMap fun p => tx p ++ [44, 32]))) ++ [] = Opn A ++ (cs h.s ++ (40 :: (ps ++ []).flatMap fun p => tx p ++ [44, 32]))
        simp) so q
theorem go_err {t : Str} {f : Option Pl} {i e : Nat} {h : Hd} {ps : List Pl} {A : Stk} (l : i ≤ t.length) (q : goOn t f i ((h, ps) :: A) = .err e) : e ≤ t.length := by
  rw [goOn_cons] at q
  split at q
  · split at q
    · cases q
    · injection q with q; omega
  · split at q
    · split at q
      · rename_i h44
        rw [s44] at h44
        obtain ⟨t1, l1⟩ := take_at h44
        split at q
        · rename_i h32
          rw [s32] at h32
          obtain ⟨t2, l2⟩ := take_at h32
          exact begin_err l2 q
        · injection q with q; omega
      · injection q with q; omega
    · exact begin_err l q
def Fair (t : Str) : Out → Prop
  | .ok p => txt p = t ∧ Ok false p
  | .err e => e ≤ t.length
theorem cs_inj {s t : Str} (h : cs s = cs t) : s = t := by
  obtain ⟨a⟩ := s
  obtain ⟨b⟩ := t
  have : a = b := Array.toList_inj.mp h
  rw [this]
theorem runs_all {t : Str} : ∀ (k : Nat) (f : Option Pl) (i : Nat) (A : Stk), Snd t f i A → t.length - i ≤ k → ∃ n R, Runs t n f i A R ∧ Fair t R
  | k, f, i, [], S, hk => by
    cases f with
    | none =>
      obtain ⟨_, _, e⟩ := S.n rfl
      cases e
    | some p =>
      by_cases c : sgS t i = ""
      · refine ⟨0, _, .fin c, ?_, S.o p rfl⟩
        have hi : t.length ≤ i := by
          cases hc : t.cps.toList[i]? with
          | none =>
            have := List.getElem?_eq_none_iff.mp hc
            rw [Array.length_toList] at this
            exact this
          | some d =>
            rw [sg_some hc] at c
            have : (⟨#[d]⟩ : Str) = ⟨#[]⟩ := c
            injection this with this
            simp at this
        have e := S.e
        rw [List.take_of_length_le (by rw [lt_len]; exact hi)] at e
        refine cs_inj ?_
        rw [e]
        show tx p = [] ++ (tx p ++ [])
        simp
      · exact ⟨0, _, .bad c, S.l⟩
  | 0, f, i, (h, ps) :: A, S, hk => by
    cases q : goOn t f i ((h, ps) :: A) with
    | err e => exact ⟨0, _, .stop q, go_err S.l q⟩
    | go f' i' A' =>
      obtain ⟨S', hi⟩ := snd_go S q
      have := S'.l
      omega
  | k + 1, f, i, (h, ps) :: A, S, hk => by
    cases q : goOn t f i ((h, ps) :: A) with
    | err e => exact ⟨0, _, .stop q, go_err S.l q⟩
    | go f' i' A' =>
      obtain ⟨S', hi⟩ := snd_go S q
      obtain ⟨n, R, hR, hF⟩ := runs_all k f' i' A' S' (by have := S'.l; omega)
      exact ⟨n + 1, R, .step q hR, hF⟩
theorem reads_all (t : Str) : ∃ R, Reads t R ∧ Fair t R := by
  cases q : fromB (beginR t 0 false) [] with
  | err e => exact ⟨_, .inl ⟨e, q, rfl⟩, begin_err (Nat.zero_le _) q⟩
  | go f i A =>
    obtain ⟨S, _⟩ := snd_begin (A := []) (Nat.zero_le _) (by simp [Opn]) trivial q
    obtain ⟨n, R, hR, hF⟩ := runs_all _ f i A S (Nat.le_refl _)
    exact ⟨R, .inr ⟨f, i, A, n, q, hR⟩, hF⟩
end LW
namespace LW
open PySem PySem.Spec PyProof.Rows L2 Ys
/-! ### brackets: how deep a plan of a text can be -/
def bkv (c : Nat) : Option Int := if c = 40 then some 1 else if c = 41 then some (-1) else none
def bk (l : List Nat) : List Int := l.filterMap bkv
theorem bk_app (x y : List Nat) : bk (x ++ y) = bk x ++ bk y := List.filterMap_append ..
def op (l : List Int) (i : Nat) : Int := (l.take i).sum
def Wb (B : Nat) (l : List Nat) : Prop := ∀ i j, op (bk l) j - op (bk l) i ≤ (B : Int)
theorem op_app (x y : List Int) (i : Nat) : op (x ++ y) i = op x i + op y (i - x.length) := by
  unfold op
  rw [List.take_append, List.sum_append]
theorem Wb.app {B C : Nat} {x y : List Nat} (h : Wb B x) (k : Wb C y) : Wb (B + C) (x ++ y) := fun i j => by
  rw [bk_app, op_app, op_app]
  have := h i j
  have := k (i - (bk x).length) (j - (bk x).length)
  omega
theorem Wb.mono {B C : Nat} {x : List Nat} (h : Wb B x) (c : B ≤ C) : Wb C x := fun i j => by
  have := h i j
  omega
theorem Wb.left {B : Nat} {x y : List Nat} (h : Wb B (x ++ y)) : Wb B x := fun i j => by
  have e : ∀ i, op (bk x) i = op (bk (x ++ y)) (min i (bk x).length) := fun i => by
    rw [bk_app, op_app, show min i (bk x).length - (bk x).length = 0 by omega]
    unfold op
    rw [List.take_zero, List.sum_nil, Int.add_zero, List.take_eq_take_min]
  rw [e, e]
  exact h _ _
theorem Wb.right {B : Nat} {x y : List Nat} (h : Wb B (x ++ y)) : Wb B y := fun i j => by
  have e : ∀ i, op (bk (x ++ y)) ((bk x).length + i) = op (bk x) (bk x).length + op (bk y) i := fun i => by
    rw [bk_app, op_app, show (bk x).length + i - (bk x).length = i by omega]
    congr 1
    unfold op
    rw [List.take_of_length_le (by omega), List.take_length]
  have := h ((bk x).length + i) ((bk x).length + j)
  rw [e, e] at this
  omega
theorem Wb.take {B : Nat} {x : List Nat} (h : Wb B x) (n : Nat) : Wb B (x.take n) := by
  rw [← List.take_append_drop n x] at h
  exact h.left
theorem Wb.drop {B : Nat} {x : List Nat} (h : Wb B x) (n : Nat) : Wb B (x.drop n) := by
  rw [← List.take_append_drop n x] at h
  exact h.right
theorem Wb.of_bk {B : Nat} {x y : List Nat} (h : Wb B x) (e : bk y = bk x) : Wb B y := fun i j => by
  rw [e]
  exact h i j
theorem bk_let {l : List Nat} (h : ∀ c ∈ l, bkv c = none) : bk l = [] := List.filterMap_eq_nil_iff.mpr h
theorem bk_abc {l : List Nat} (h : ∀ c ∈ l, c ∈ abcL) : bk l = [] := bk_let fun c hc => by
  have := h c hc
  rw [show abcL = (List.range 26).map (· + 97) by decide +kernel] at this
  obtain ⟨k, hk, rfl⟩ := List.mem_map.mp this
  unfold bkv
  rw [if_neg (by omega), if_neg (by omega)]
structure Bal (D : Nat) (l : List Int) : Prop where
  lo : ∀ i, 0 ≤ op l i
  hi : ∀ i, op l i ≤ (D : Int)
  z : l.sum = 0
theorem op_full {l : List Int} {i : Nat} (h : l.length ≤ i) : op l i = l.sum := by
  unfold op
  rw [List.take_of_length_le h]
theorem Bal.nil {D : Nat} : Bal D [] := ⟨fun i => by simp [op], fun i => by simp [op], rfl⟩
theorem Bal.mono {C D : Nat} {l : List Int} (h : Bal C l) (c : C ≤ D) : Bal D l := ⟨h.lo, fun i => by have := h.hi i; omega, h.z⟩
theorem op_in {x y : List Int} (hz : x.sum = 0) (i : Nat) : op (x ++ y) i = op x i ∨ op (x ++ y) i = op y (i - x.length) := by
  rw [op_app]
  by_cases c : i ≤ x.length
  · left
    rw [show i - x.length = 0 by omega]
    simp [op]
  · right
    rw [op_full (l := x) (by omega), hz, Int.zero_add]
theorem Bal.app {D : Nat} {x y : List Int} (h : Bal D x) (k : Bal D y) : Bal D (x ++ y) := by
  refine ⟨fun i => ?_, fun i => ?_, by rw [List.sum_append, h.z, k.z]; rfl⟩
  · rcases op_in h.z i (y := y) with e | e <;> rw [e]
    · exact h.lo i
    · exact k.lo _
  · rcases op_in h.z i (y := y) with e | e <;> rw [e]
    · exact h.hi i
    · exact k.hi _
theorem Bal.wrap {D : Nat} {l : List Int} (h : Bal D l) : Bal (D + 1) (1 :: (l ++ [-1])) := by
  have e : ∀ i, op (1 :: (l ++ [-1])) (i + 1) = 1 + (op l i + op [-1] (i - l.length)) := fun i => by
    show (((1 : Int) :: (l ++ [-1])).take (i + 1)).sum = _
    rw [List.take_succ_cons, List.sum_cons]
    congr 1
    exact op_app _ _ _
  have e1 : ∀ n, op [-1] n = if n = 0 then 0 else -1 := fun n => by
    cases n with
    | zero => rfl
    | succ n => simp [op]
  have b : ∀ i, 0 ≤ op l i + op [-1] (i - l.length) + 1 ∧ op l i + op [-1] (i - l.length) + 1 ≤ (D : Int) + 1 := fun i => by
    rw [e1]
    have h1 := h.lo i
    have h2 := h.hi i
    by_cases c : i - l.length = 0
    · rw [if_pos c]
      omega
    · rw [if_neg c, op_full (by omega), h.z]
      omega
  refine ⟨fun i => ?_, fun i => ?_, by rw [List.sum_cons, List.sum_append, h.z]; decide⟩
  · cases i with
    | zero => simp [op]
    | succ i => rw [e]; have := (b i).1; omega
  · cases i with
    | zero => simp [op]; omega
    | succ i =>
      rw [e]
      have := (b i).2
      push_cast
      omega
theorem bk_join {D : Nat} : ∀ ps : List Pl, (∀ p ∈ ps, Bal D (bk (tx p))) → Bal D (bk (TL.joinL [44, 32] (ps.map tx)))
  | [], _ => .nil
  | [q], h => h q (by simp)
  | q :: r :: l, h => by
    have ih := bk_join (r :: l) fun p hp => h p (List.mem_cons_of_mem _ hp)
    show Bal D (bk (tx q ++ ([44, 32] ++ TL.joinL [44, 32] ((r :: l).map tx))))
    rw [bk_app, bk_app]
    exact (h q (by simp)).app ih
theorem bk_nd (h : Hd) (ps : List Pl) : bk (tx (.nd h ps)) = 1 :: (bk (TL.joinL [44, 32] (ps.map tx)) ++ [-1]) := by
  rw [tx_nd, join_cs, bk_app, bk_abc (hd_abc h)]
  show [] ++ bk ([40] ++ (TL.joinL [44, 32] (ps.map tx) ++ [41])) = _
  rw [bk_app, bk_app]
  rfl
theorem bal_tx : ∀ p, Nms p → Bal p.dp (bk (tx p)) := Pl.ind (fun s k => by
    cases k with
    | nm k =>
      have e : tx (.nm s) = cs s := by unfold tx; rw [txt]
      rw [e, bk_abc (wd_abc k)]
      exact .nil) fun h ps ih k => by
  rw [bk_nd, Pl.dp]
  exact (bk_join ps fun p hp => (ih p hp (k.kids p hp)).mono (dp_mem hp)).wrap
theorem wb_tx {p : Pl} (k : Nms p) : Wb p.dp (tx p) := fun i j => by
  have b := bal_tx p k
  have := b.hi j
  have := b.lo i
  omega
theorem join_reach {n : Nat} : ∀ ps : List Pl, (∀ p ∈ ps, Nms p) → (∃ p ∈ ps, ∃ i, op (bk (tx p)) i = (n : Int)) → ∃ i, op (bk (TL.joinL [44, 32] (ps.map tx))) i = (n : Int)
  | [], _, ⟨p, hp, _⟩ => by cases hp
  | [q], _, ⟨p, hp, i, e⟩ => by
    rw [List.mem_singleton.mp hp] at e
    exact ⟨i, e⟩
  | q :: r :: l, k, ⟨p, hp, i, e⟩ => by
    have eq : bk (TL.joinL [44, 32] ((q :: r :: l).map tx)) = bk (tx q) ++ bk (TL.joinL [44, 32] ((r :: l).map tx)) := by
      show bk (tx q ++ ([44, 32] ++ TL.joinL [44, 32] ((r :: l).map tx))) = _
      rw [bk_app, bk_app]
      rfl
    have hz := (bal_tx q (k q (by simp))).z
    rcases List.mem_cons.mp hp with rfl | hp
    · refine ⟨min i (bk (tx p)).length, ?_⟩
      rw [eq, op_app, show min i (bk (tx p)).length - (bk (tx p)).length = 0 by omega, ← e]
      unfold op
      rw [List.take_zero, List.sum_nil, Int.add_zero, ← List.take_eq_take_min]
    · obtain ⟨j, ej⟩ := join_reach (r :: l) (fun p hp => k p (List.mem_cons_of_mem _ hp)) ⟨p, hp, i, e⟩
      refine ⟨(bk (tx q)).length + j, ?_⟩
      rw [eq, op_app, op_full (l := bk (tx q)) (by omega), hz, show (bk (tx q)).length + j - (bk (tx q)).length = j by omega, ej]
      omega
theorem dpl_reach : ∀ {ps : List Pl}, ps ≠ [] → ∃ p ∈ ps, p.dp = Pl.dpl ps
  | [p], _ => ⟨p, by simp, by rw [Pl.dpl, Pl.dpl, Nat.max_zero]⟩
  | p :: q :: l, _ => by
    obtain ⟨r, hr, e⟩ := dpl_reach (ps := q :: l) (by simp)
    rw [Pl.dpl]
    rcases Nat.le_total p.dp (Pl.dpl (q :: l)) with h | h
    · exact ⟨r, List.mem_cons_of_mem _ hr, by rw [Nat.max_eq_right h, e]⟩
    · exact ⟨p, by simp, by rw [Nat.max_eq_left h]⟩
theorem reach : ∀ p, Nms p → ∃ i, op (bk (tx p)) i = (p.dp : Int) := Pl.ind (fun s _ => ⟨0, rfl⟩) fun h ps ih k => by
  rw [bk_nd, Pl.dp]
  have up : ∀ (l : List Int) (i : Nat), i ≤ l.length → op (1 :: (l ++ [-1])) (i + 1) = 1 + op l i := fun l i hi => by
    show (((1 : Int) :: (l ++ [-1])).take (i + 1)).sum = _
    rw [List.take_succ_cons, List.sum_cons, List.take_append_of_le_length hi]
    rfl
  cases ps with
  | nil =>
    refine ⟨1, ?_⟩
    rw [up _ 0 (Nat.zero_le _)]
    rfl
  | cons q l =>
    obtain ⟨p, hp, e⟩ := dpl_reach (ps := q :: l) (by simp)
    obtain ⟨i, ei⟩ := join_reach (q :: l) k.kids ⟨p, hp, ih p hp (k.kids p hp)⟩
    refine ⟨min i (bk (TL.joinL [44, 32] ((q :: l).map tx))).length + 1, ?_⟩
    rw [up _ _ (Nat.min_le_right _ _)]
    have : op (bk (TL.joinL [44, 32] ((q :: l).map tx))) (min i (bk (TL.joinL [44, 32] ((q :: l).map tx))).length) = op (bk (TL.joinL [44, 32] ((q :: l).map tx))) i := by
      unfold op
      rw [← List.take_eq_take_min]
    rw [this, ei, e]
    push_cast
    omega
theorem dp_wb {B : Nat} {p : Pl} (k : Nms p) (h : Wb B (tx p)) : p.dp ≤ B := by
  obtain ⟨i, e⟩ := reach p k
  have := h 0 i
  rw [e] at this
  simp [op] at this
  omega
theorem sz_tx : ∀ p, Nms p → p.sz ≤ (tx p).length := Pl.ind (fun s k => by
    cases k with
    | nm k =>
      have e : tx (.nm s) = cs s := by unfold tx; rw [txt]
      rw [e, cs_len, Pl.sz]
      exact k.1) fun h ps ih k => by
  have j : ∀ l : List Pl, (∀ p ∈ l, p.sz ≤ (tx p).length) → Pl.szl l ≤ (TL.joinL [44, 32] (l.map tx)).length := fun l => by
    induction l with
    | nil => exact fun _ => Nat.le_refl _
    | cons q l il =>
      intro hl
      have h1 := hl q (by simp)
      have h2 := il fun p hp => hl p (List.mem_cons_of_mem _ hp)
      rw [Pl.szl]
      cases l with
      | nil =>
        show _ ≤ (tx q).length
        rw [Pl.szl]
        omega
      | cons r l =>
        show _ ≤ (tx q ++ ([44, 32] ++ TL.joinL [44, 32] ((r :: l).map tx))).length
        rw [List.length_append, List.length_append]
        omega
  have := j ps fun p hp => ih p hp (k.kids p hp)
  rw [tx_nd, join_cs, Pl.sz]
  simp only [List.length_append, List.length_cons]
  omega
/-! ### one text in another's place -/
theorem replS_bk {y z : List Nat} (hy : bk y = []) (hz : bk z = []) (h0 : y ≠ []) : ∀ (n : Nat) (l : List Nat), l.length ≤ n → bk (StrLaws.replL y z l) = bk l
  | 0, l, h => by
    rw [List.eq_nil_of_length_eq_zero (Nat.le_zero.mp h), StrLaws.replL_nil]
  | n + 1, [], h => by rw [StrLaws.replL_nil]
  | n + 1, c :: r, h => by
    have hyl : 0 < y.length := List.length_pos_iff.mpr h0
    by_cases e : (c :: r).take y.length = y
    · rw [StrLaws.replL_hit h0 e, bk_app, hz, replS_bk hy hz h0 n _ (by rw [List.length_drop]; simp only [List.length_cons] at h ⊢; omega)]
      have := List.take_append_drop y.length (c :: r)
      rw [e] at this
      rw [← this, bk_app, hy]
      simp
    · rw [StrLaws.replL_miss e]
      show bk ([c] ++ StrLaws.replL y z r) = bk ([c] ++ r)
      rw [bk_app, bk_app, replS_bk hy hz h0 n r (by simp only [List.length_cons] at h; omega)]
theorem repl_bk {x y z : Str} (hy : bk (cs y) = []) (hz : bk (cs z) = []) (h0 : 1 ≤ y.length) : bk (cs (Txt.replace x y z)) = bk (cs x) := by
  show bk (Txt.replace x y z).cps.toList = _
  rw [StrLaws.replace_list h0]
  exact replS_bk hy hz (fun e => by
    have : (cs y).length = 0 := by rw [show cs y = [] from e]; rfl
    rw [cs_len] at this
    omega) _ _ (Nat.le_refl _)
end LW
namespace LW
open PySem PySem.Spec PyProof.Rows L2 Ys

theorem cs_cutT {s : Str} {n : Nat} : cs (cutS s none (some (n : Int))) = (cs s).take n := by
  have e : (cs s).take n = (cs s).take (min n s.length) := by rw [← cs_len s, ← List.take_eq_take_min]
  rw [e]
  unfold cutS cs
  rw [HT.sIx_none, HT.sIx_nat]
  simp
theorem cs_cutD {s : Str} {n : Nat} : cs (cutS s (some (n : Int)) none) = (cs s).drop n := by
  have e : (cs s).drop n = (cs s).drop (min n s.length) := by
    rcases Nat.le_total n s.length with h | h
    · rw [Nat.min_eq_left h]
    · rw [Nat.min_eq_right h, List.drop_eq_nil_of_le (by rw [cs_len]; exact h), List.drop_eq_nil_of_le (by rw [cs_len]; exact Nat.le_refl _)]
  rw [e]
  unfold cutS cs
  rw [HT.sIx_none, HT.sIx_nat]
  show List.take (s.length - min n s.length) (List.drop (min n s.length) s.cps.toList) = _
  rw [List.take_of_length_le]
  rw [List.length_drop, Array.length_toList]
  exact Nat.le_refl _
theorem len_cs (s : Str) : s.length = (cs s).length := (cs_len s).symm
theorem wb_one {l : List Nat} (h : bk l = [] ∨ bk l = [1] ∨ bk l = [-1]) : Wb 1 l := fun i j => by
  have e0 : ∀ i, op [] i = 0 := fun i => by simp [op]
  have e1 : ∀ i, op [1] i = 0 ∨ op [1] i = 1 := fun i => by cases i <;> simp [op]
  have e2 : ∀ i, op [-1] i = 0 ∨ op [-1] i = -1 := fun i => by cases i <;> simp [op]
  rcases h with h | h | h <;> rw [h]
  · rw [e0, e0]; decide
  · rcases e1 i with a | a <;> rcases e1 j with b | b <;> rw [a, b] <;> decide
  · rcases e2 i with a | a <;> rcases e2 j with b | b <;> rw [a, b] <;> decide
structure Bent (t u : Str) : Prop where
  l : u.length ≤ 6 * t.length + 8
  w : ∀ B, Wb B (cs t) → Wb (3 * B + 1) (cs u)
abbrev Y1 : List Str := ["then", "any", "either", "a", ", "]
abbrev Y2 : List Str := ["any", "again", "b", ","]
theorem bent_repl {t y z : Str} (hy : y ∈ Y1) (hz : z ∈ Y2) : Bent t (Txt.replace t y z) := by
  have h1 : bk (cs y) = [] ∧ 1 ≤ y.length := by
    have : ∀ y ∈ Y1, bk (cs y) = [] ∧ 1 ≤ y.length := by decide +kernel
    exact this y hy
  have h2 : bk (cs z) = [] ∧ z.length ≤ 5 := by
    have : ∀ z ∈ Y2, bk (cs z) = [] ∧ z.length ≤ 5 := by decide +kernel
    exact this z hz
  refine ⟨?_, fun B h => (h.of_bk (repl_bk h1.1 h2.1 h1.2)).mono (by omega)⟩
  have := TK.replace_len t y z
  have := Nat.mul_le_mul_left (t.length + 1) h2.2
  omega
theorem bent_of {t u : Str} {xs : List (List Nat)} (e : cs u = xs.flatten) (h : xs.length ≤ 3) (hx : ∀ x ∈ xs, x.length ≤ t.length ∧ ∀ B, Wb B (cs t) → Wb B x) : Bent t u := by
  have w : ∀ (xs : List (List Nat)) (B : Nat), (∀ x ∈ xs, x.length ≤ t.length ∧ ∀ B, Wb B (cs t) → Wb B x) → Wb B (cs t) → Wb (xs.length * B) xs.flatten ∧ xs.flatten.length ≤ xs.length * t.length := fun xs B => by
    induction xs with
    | nil => exact fun _ _ => ⟨fun i j => by simp [op, bk], by simp⟩
    | cons x xs ih =>
      intro hx hB
      obtain ⟨h1, h2⟩ := ih (fun x h => hx x (List.mem_cons_of_mem _ h)) hB
      obtain ⟨h3, h4⟩ := hx x (by simp)
      refine ⟨?_, ?_⟩
      · rw [List.flatten_cons, List.length_cons, Nat.succ_mul, Nat.add_comm]
        exact (h4 B hB).app h1
      · rw [List.flatten_cons, List.length_append, List.length_cons, Nat.succ_mul]
        omega
  refine ⟨?_, fun B hB => ?_⟩
  · have h0 : Wb (cs t).length (cs t) := fun i j => by
      have b1 : ∀ (l : List Nat) (i : Nat), -(l.length : Int) ≤ 0 := fun l i => by omega
      have : ∀ (l : List Int), (∀ c ∈ l, c = 1 ∨ c = -1) → ∀ i j, op l j - op l i ≤ (l.length : Int) := by
        intro l
        induction l with
        | nil => intro _ i j; simp [op]
        | cons c l ih =>
          intro hc i j
          have hl := ih fun d hd => hc d (List.mem_cons_of_mem _ hd)
          have e0 : op (c :: l) 0 = 0 := rfl
          have e1 : ∀ k, op (c :: l) (k + 1) = c + op l k := fun k => by show ((c :: l).take (k + 1)).sum = _; rw [List.take_succ_cons, List.sum_cons]; rfl
          have e2 : op l 0 = 0 := rfl
          have hc1 := hc c (by simp)
          simp only [List.length_cons]
          cases i with
          | zero => cases j with
            | zero => rw [e0]; omega
            | succ j => rw [e0, e1]; have := hl 0 j; rw [e2] at this; omega
          | succ i => cases j with
            | zero => rw [e0, e1]; have := hl i 0; rw [e2] at this; omega
            | succ j => rw [e1, e1]; have := hl i j; omega
      have h1 := this (bk (cs t)) (fun c hc => by
        obtain ⟨d, _, hd⟩ := List.mem_filterMap.mp hc
        unfold bkv at hd
        split at hd
        · cases hd; exact .inl rfl
        · split at hd
          · cases hd; exact .inr rfl
          · cases hd) i j
      have h2 : (bk (cs t)).length ≤ (cs t).length := List.length_filterMap_le ..
      omega
    have := (w xs _ hx h0).2
    rw [len_cs, e]
    have h5 := Nat.mul_le_mul_right t.length h
    omega
  · rw [e]
    exact ((w xs B hx hB).1).mono (by
      have := Nat.mul_le_mul_right B h
      omega)
theorem bent_sg {t u sg : Str} {x y : List Nat} (e : cs u = x ++ (cs sg ++ y)) (hs : sg.length ≤ 7) (hw : Wb 1 (cs sg)) (h1 : x.length ≤ t.length) (h2 : ∀ B, Wb B (cs t) → Wb B x) (h3 : y.length ≤ t.length) (h4 : ∀ B, Wb B (cs t) → Wb B y) : Bent t u := by
  refine ⟨?_, fun B hB => ?_⟩
  · rw [len_cs, e, List.length_append, List.length_append, cs_len]
    omega
  · rw [e]
    exact ((h2 B hB).app (hw.app (h4 B hB))).mono (by omega)
abbrev sgnL : List Str := ["then(", "any(", ", a", "beside(", ")", "again("]
theorem sgn_ok {v : V} (h : v ∈ chs "(), athenybsid" ++ sgnL.map V.str) : ∃ sg : Str, v = .str sg ∧ sg.length ≤ 7 ∧ Wb 1 (cs sg) := by
  have a : ∀ sg ∈ (("(), athenybsid" : Str).cps.toList.map fun c => (⟨#[c]⟩ : Str)) ++ sgnL, sg.length ≤ 7 ∧ (bk (cs sg) = [] ∨ bk (cs sg) = [1] ∨ bk (cs sg) = [-1]) := by decide +kernel
  have e : chs "(), athenybsid" ++ sgnL.map V.str = (((("(), athenybsid" : Str).cps.toList.map fun c => (⟨#[c]⟩ : Str)) ++ sgnL).map V.str) := by
    unfold chs
    rw [List.map_append, List.map_map]
    rfl
  rw [e] at h
  obtain ⟨sg, hs, rfl⟩ := List.mem_map.mp h
  exact ⟨sg, rfl, (a sg hs).1, wb_one (a sg hs).2⟩
theorem z_listS {K : PySem.W.Frag} {G H : Hp} {M : List (Addr × HO)} {x : Str} {Q : VK} (z : Zp G M H) (hl : x.length ≤ 10000) (q : ∀ l G1 H1, Zp G1 M H1 → Same G G1 → G1 l = some (.lst (chs x)) → Q (.ref l) H1) : rListGS K [V.str x] H Q :=
  .inr ⟨x, rfl, hl, fun l hn => q l _ _ (z.new hn _) (Same.new (z.free hn)) upd_same⟩
section
variable {P : Program} {w : World} {K : PySem.W.Frag} {mg : Str → Option Value} {base : Heap} {f : Addr} {fd : FuncData}
def spBent (K : PySem.W.Frag) : Sp := fun vs H Q _ => ∃ p o G M b t, vs = [.ref p, .str t] ∧ Zp G ((p, o) :: M) H ∧ Pen K G b o ∧ b ≤ 1000000000 ∧ t.length ≤ 100000 ∧
  ∀ u G1 H1 o1, Bent t u → Zp G1 ((p, o1) :: M) H1 → Same G G1 → Pen K G1 (b + 10) o1 → Q (.str u) H1
theorem ok_bent {fp : Addr} {fdp : FuncData} (T : Nm K mg) (C_law_draw : Own P w K mg base CX0 1 "_law_draw" ["_law_pen_here", "_law_number"] (spDraw K)) (C_law_pick : Own P w K mg base CX0 2 "_law_pick" ["_law_pen_here", "_law_items"] (spPick K)) (F_pick : FnP K "_law_pick" s_law_pick fp fdp) (hm : mg "_law_pick" = some (.ref fp))
    (hNB : PySem.W.nsIn K cStatics sharingNotToldKey = some none) (F : FnP K "_law_bent" s_law_bent f fd) : FnOk P w K mg base CX0 3 f fd ["_law_pen_here", "_law_line"] (spBent K) := by
  have nd : N_law_bent.Nodup := sc_law_bent.nd
  obtain ⟨oc, od, dV, kV, doc, pm, an, cdv, ct, osl, rfl, lk, hcd, _, _⟩ := F.ex
  refine fn_ofT lk hcd sc_law_bent (by decide +kernel) (by decide) (fun vs H Q E h => ?_) (fun A outer s H vs Q E hr h => ?_)
  · obtain ⟨p, o, G, M, b, t, rfl, _⟩ := h
    rfl
  have hu := hr.units
  refine ⟨_, (psst_cons (PST.of (ps_par (i := 4) (j := 5) (by rfl) nd rfl rfl (by decide) rfl rfl (pa_cons (pe_own C_law_draw (hr.mono (by omega)) (by rfl) pass0 (pa_cons (pv 0) (pa_cons pe_int pa_nil))) (pa_cons (pe_own C_law_draw (hr.mono (by omega)) (by rfl) pass0 (pa_cons (pv 0) (pa_cons (pe_op (k_add (K := K)) (pe_callB (kc_len (K := K) (P := P) (w := w)) (by rfl) T.b_len PySem.boot_len (pa_cons (pv 1) pa_nil)) pe_int) pa_nil))) pa_nil)) (by rfl)))
    (psst_cons (PST.of (ps_asg (pe_own C_law_pick (hr.mono (by omega)) (by rfl) pass0 (pa_cons (pv 0) (pa_cons (pe_op (k_add (K := K)) (pe_callTy (kc_listS (K := K) rfl) (by rfl) T.b_list boot_list (pa_cons pe_str pa_nil)) (pe_lst (pa_cons pe_str (pa_cons pe_str (pa_cons pe_str (pa_cons pe_str (pa_cons pe_str (pa_cons pe_str pa_nil)))))))) pa_nil))) (pg_name (i := 2) nd rfl (by first | exact .inl rfl | exact .inr rfl))))
    (psst_cons (PST.of (ps_if (pt_cmpR (k_eq (K := K) hu) (pv 4) pe_int (nomark _)) (pss_one (ps_ret (pe_op (k_add (K := K)) (pe_slice (k_sl (K := K)) (pv 1) po_none (po_some (pv 5))) (pe_slice (k_sl (K := K)) (pv 1) (po_some (pe_op (k_add (K := K)) (pv 5) pe_int)) po_none)))) pss_nil))
    (psst_cons (PST.of (ps_if (pt_cmpR (k_eq (K := K) hu) (pv 4) pe_int (nomark _)) (pss_one (ps_ret (pe_op (k_add (K := K)) (pe_op (k_add (K := K)) (pe_slice (k_sl (K := K)) (pv 1) po_none (po_some (pv 5))) (pv 2)) (pe_slice (k_sl (K := K)) (pv 1) (po_some (pv 5)) po_none)))) pss_nil))
    (psst_cons (PST.of (ps_if (pt_cmpR (k_eq (K := K) hu) (pv 4) pe_int (nomark _)) (pss_one (ps_ret (pe_op (k_add (K := K)) (pe_op (k_add (K := K)) (pe_slice (k_sl (K := K)) (pv 1) po_none (po_some (pv 5))) (pv 2)) (pe_slice (k_sl (K := K)) (pv 1) (po_some (pe_op (k_add (K := K)) (pv 5) pe_int)) po_none)))) pss_nil))
    (psst_cons (PST.of (ps_if (pt_cmpR (k_eq (K := K) hu) (pv 4) pe_int (nomark _)) (pss_one (ps_ret (pe_op (k_add (K := K)) (pe_op (k_add (K := K)) (pe_slice (k_sl (K := K)) (pv 1) po_none (po_some (pv 5))) (pe_slice (k_sl (K := K)) (pe_slice (k_sl (K := K)) (pv 1) (po_some (pv 5)) po_none) po_none (po_some pe_int))) (pe_slice (k_sl (K := K)) (pv 1) (po_some (pv 5)) po_none)))) pss_nil))
    (psst_cons (PST.of (ps_if (pt_cmpR (k_eq (K := K) hu) (pv 4) pe_int (nomark _)) (pss_one (ps_ret (pe_op (k_add (K := K)) (pe_slice (k_sl (K := K)) (pv 1) (po_some (pv 5)) po_none) (pe_slice (k_sl (K := K)) (pv 1) po_none (po_some (pv 5)))))) pss_nil))
    (ps_bent T C_law_draw F_pick hm (hr.mono (by omega)) hNB rfl rfl (.cons (.cons (.cons (.cons (.cons .nil))))) (.cons (.cons (.cons (.cons .nil)))) (by decide) (by decide) (by decide) (by decide) (by decide) (by rfl) (by rfl) (by rfl))))))))), ?_⟩
  obtain ⟨p, o, G, M, b, t, rfl, z, hp, hb, hl, q⟩ := h
  repeat (walk_at "z")
  refine ⟨p, o, G, M, b, _, rfl, z, hp, by omega, by decide, by decide, fun r1 G1 H1 o1 z1 s1 hp1 r10 r16 => ?_⟩
  repeat (walk_at "z")
  refine z_lenS (by omega) ?_
  repeat (walk_at "z")
  refine ⟨p, o1, G1, M, _, _, rfl, z1, hp1, by omega, by omega, by omega, fun r2 G2 H2 o2 z2 s2 hp2 r20 r2l => ?_⟩
  obtain ⟨n, rfl⟩ : ∃ n : Nat, r2 = (n : Int) := ⟨r2.toNat, by omega⟩
  repeat (walk_at "z")
  refine z_listS z2 (by decide) fun l1 G3 H3 z3 s3 e3 => ?_
  repeat (walk_at "z")
  refine z_newL z3 (by simp) fun l2 G4 H4 z4 s4 e4 => ?_
  have lc : (chs "(), athenybsid").length = 14 := by decide +kernel
  refine z_addL z4 (s4 _ _ e3) e4 (by rw [lc]; decide) fun l5 G5 H5 z5 s5 e5 => ?_
  have e5 : G5 l5 = some (.lst (chs "(), athenybsid" ++ sgnL.map V.str)) := e5
  repeat (walk_at "z")
  refine ⟨p, o2, G5, M, _, _, rfl, z5, hp2.up (s3.trans (s4.trans s5)), by omega, .inl ⟨l5, _, rfl, .inl (SqL.of e5), (fun e => by have := congrArg List.length e; rw [List.length_append, lc] at this; simp at this), by rw [List.length_append, lc]; decide, fun v G6 H6 o6 hv z6 s6 hp6 => ?_⟩⟩
  obtain ⟨sg, rfl, hsl, hsw⟩ := sgn_ok hv
  have sm : Same G G6 := s1.trans (s2.trans (s3.trans (s4.trans (s5.trans s6))))
  have hp6 : Pen K G6 (b + 3) o6 := hp6
  clear z5 z4 z3 z2 z1 e5 e4 e3 hp2 hp1
  have fin : ∀ u, Bent t u → Q (.str u) H6 := fun u hu => q u G6 H6 o6 hu z6 sm (hp6.mono (by omega))
  have T1 : ∀ k B, Wb B (cs t) → Wb B ((cs t).take k) := fun k B h => h.take k
  have D1 : ∀ k B, Wb B (cs t) → Wb B ((cs t).drop k) := fun k B h => h.drop k
  have lT : ∀ k, ((cs t).take k).length ≤ t.length := fun k => by rw [List.length_take, cs_len]; omega
  have lD : ∀ k, ((cs t).drop k).length ≤ t.length := fun k => by rw [List.length_drop, cs_len]; omega
  have cT : (cutS t none (some (n : Int))).length ≤ t.length := by rw [len_cs, cs_cutT]; exact lT n
  have cD : (cutS t (some (n : Int)) none).length ≤ t.length := by rw [len_cs, cs_cutD]; exact lD n
  have cD1 : (cutS t (some ((n : Int) + 1)) none).length ≤ t.length := by rw [show (n : Int) + 1 = ((n + 1 : Nat) : Int) by omega, len_cs, cs_cutD]; exact lD (n + 1)
  repeat (walk_at "z")
  refine z_eqS rfl ?_
  repeat (walk_at "z")
  refine z_bd (fun c => ?_) (fun c => ?_)
  · repeat (walk_at "z")
    refine z_slS (by omega) ?_
    repeat (walk_at "z")
    refine z_slS (by omega) ?_
    refine z_addS (by omega) ?_
    exact fin _ (bent_of (xs := [(cs t).take n, (cs t).drop (n + 1)]) (by rw [cs_app, cs_cutT, show (n : Int) + 1 = ((n + 1 : Nat) : Int) by omega, cs_cutD]; simp) (by simp) (fun x hx => by
      rcases List.mem_cons.mp hx with rfl | hx
      · exact ⟨lT _, T1 _⟩
      · rw [List.mem_singleton.mp hx]
        exact ⟨lD _, D1 _⟩))
  repeat (walk_at "z")
  refine z_eqS rfl ?_
  repeat (walk_at "z")
  refine z_bd (fun c => ?_) (fun c => ?_)
  · repeat (walk_at "z")
    refine z_slS (by omega) ?_
    repeat (walk_at "z")
    refine z_addS (by omega) ?_
    repeat (walk_at "z")
    refine z_slS (by omega) ?_
    refine z_addS (by rw [len_app]; omega) ?_
    exact fin _ (bent_sg (sg := sg) (x := (cs t).take n) (y := (cs t).drop n) (by rw [cs_app, cs_app, cs_cutT, cs_cutD, List.append_assoc]) hsl hsw (lT _) (T1 _) (lD _) (D1 _))
  repeat (walk_at "z")
  refine z_eqS rfl ?_
  repeat (walk_at "z")
  refine z_bd (fun c => ?_) (fun c => ?_)
  · repeat (walk_at "z")
    refine z_slS (by omega) ?_
    repeat (walk_at "z")
    refine z_addS (by omega) ?_
    repeat (walk_at "z")
    refine z_slS (by omega) ?_
    refine z_addS (by rw [len_app]; omega) ?_
    exact fin _ (bent_sg (sg := sg) (x := (cs t).take n) (y := (cs t).drop (n + 1)) (by rw [cs_app, cs_app, cs_cutT, show (n : Int) + 1 = ((n + 1 : Nat) : Int) by omega, cs_cutD, List.append_assoc]) hsl hsw (lT _) (T1 _) (lD _) (D1 _))
  repeat (walk_at "z")
  refine z_eqS rfl ?_
  repeat (walk_at "z")
  refine z_bd (fun c => ?_) (fun c => ?_)
  · repeat (walk_at "z")
    refine z_slS (by omega) ?_
    repeat (walk_at "z")
    refine z_slS (by omega) ?_
    repeat (walk_at "z")
    refine z_slS (by omega) ?_
    have c3 : cs (cutS (cutS t (some (n : Int)) none) none (some 3)) = ((cs t).drop n).take 3 := by
      rw [show (some (3 : Int)) = some ((3 : Nat) : Int) from rfl, cs_cutT, cs_cutD]
    have l3 : (cutS (cutS t (some (n : Int)) none) none (some 3)).length ≤ 3 := by rw [len_cs, c3, List.length_take]; omega
    refine z_addS (by omega) ?_
    repeat (walk_at "z")
    refine z_slS (by omega) ?_
    refine z_addS (by rw [len_app]; omega) ?_
    exact fin _ (bent_of (xs := [(cs t).take n, ((cs t).drop n).take 3, (cs t).drop n]) (by rw [cs_app, cs_app, cs_cutT, c3, cs_cutD]; simp) (by simp) (fun x hx => by
      rcases List.mem_cons.mp hx with rfl | hx
      · exact ⟨lT _, T1 _⟩
      rcases List.mem_cons.mp hx with rfl | hx
      · exact ⟨by rw [List.length_take]; have := lD n; omega, fun B h => (h.drop n).take 3⟩
      · rw [List.mem_singleton.mp hx]
        exact ⟨lD _, D1 _⟩))
  repeat (walk_at "z")
  refine z_eqS rfl ?_
  repeat (walk_at "z")
  refine z_bd (fun c => ?_) (fun c => ?_)
  · repeat (walk_at "z")
    refine z_slS (by omega) ?_
    repeat (walk_at "z")
    refine z_slS (by omega) ?_
    refine z_addS (by omega) ?_
    exact fin _ (bent_of (xs := [(cs t).drop n, (cs t).take n]) (by rw [cs_app, cs_cutT, cs_cutD]; simp) (by simp) (fun x hx => by
      rcases List.mem_cons.mp hx with rfl | hx
      · exact ⟨lD _, D1 _⟩
      · rw [List.mem_singleton.mp hx]
        exact ⟨lT _, T1 _⟩))
  repeat (walk_at "z")
  refine ⟨t, p, o6, G6, M, b + 3, rfl, rfl, z6, hp6, by omega, by omega, fun y hy z hz G7 H7 o7 z7 s7 hp7 => ?_⟩
  exact q _ G7 H7 o7 (bent_repl hy hz) z7 (sm.trans s7) (hp7.mono (by omega))
end
end LW
namespace LW
open PySem PySem.Spec PyProof.Rows L2 Ys

theorem snoc_atQ {α : Type} {L : List α} {x : α} : (L ++ [x])[L.length]? = some x := by simp
theorem at_last {xs : List V} {y : V} : atI (xs ++ [y]) (-1) = some y := by
  unfold atI ixN
  rw [if_neg (by decide), if_pos (by rw [List.length_append]; show -((xs.length + 1 : Nat) : Int) ≤ -1; omega)]
  have e : ((-1 : Int) + ((xs ++ [y]).length : Int)).toNat = xs.length := by
    rw [List.length_append]
    show ((-1 : Int) + ((xs.length + 1 : Nat) : Int)).toNat = _
    omega
  rw [e]
  show (xs ++ [y])[xs.length]? = some y
  exact snoc_atQ
theorem ab_snoc {L : List Fr} {fr : Fr} : ab (L ++ [fr]) = (fr.h, fr.ps) :: ab L := by unfold ab; rw [List.map_append, List.reverse_append]; rfl
theorem z_orC {tt uu : TT} {σ : L2.St} {H : Hp} {QB : Bool → Hp → Prop} (c : Bool) (h1 : ∀ QB' : Bool → Hp → Prop, QB' c H → tt σ H QB') (h2 : Bif c (QB true H) (uu σ H QB)) : tOr tt uu σ H QB := h1 _ h2
def FV (K : PySem.W.Frag) (G : Hp) (v : V) : Option Pl → Prop
  | none => v = .non
  | some p => Dt K G v p.d
theorem FV.up {K : PySem.W.Frag} {G G1 : Hp} {v : V} {f : Option Pl} (h : FV K G v f) (s : Same G G1) : FV K G1 v f := by
  cases f with
  | none => exact h
  | some p => exact Dt.up s h
theorem dt_ne {K : PySem.W.Frag} {G : Hp} {v : V} {p : Pl} (h : Dt K G v p.d) : decide (v = .non) = false := by
  cases p with
  | nm s => rw [dt_nm h]; rfl
  | nd h' ps => obtain ⟨a, xr, rfl, _⟩ := dt_nd h; rfl
theorem RM_set {C dx self ps : Addr} {t : Str} {i : Nat} {L : List Fr} {fr fr' : Fr} {M0 : List (Addr × HO)} (e : fr'.a = fr.a) : (RM C dx self ps t i (L ++ [fr]) M0).set (L.length + 2) fr'.ent = RM C dx self ps t i (L ++ [fr']) M0 := by
  unfold RM
  show (self, HO.ins C dx (rdF t i ps)) :: (ps, HO.lst ((L ++ [fr]).map fun f => V.ref f.a)) :: ((L ++ [fr]).map Fr.ent ++ M0).set L.length fr'.ent = _
  have e1 : ((L ++ [fr]).map fun f => V.ref f.a) = (L ++ [fr']).map fun f => V.ref f.a := by
    rw [List.map_append, List.map_append, List.map_cons, List.map_cons, e]
  have e2 : ((L ++ [fr]).map Fr.ent ++ M0).set L.length fr'.ent = (L ++ [fr']).map Fr.ent ++ M0 := by
    rw [List.map_append, List.map_append, List.append_assoc, List.append_assoc]
    have : L.length = (L.map Fr.ent).length := by rw [List.length_map]
    rw [this, List.set_append_right _ _ (Nat.le_refl _), Nat.sub_self]
    rfl
  rw [e1, e2]
section
variable {P : Program} {w : World} {K : PySem.W.Frag} {mg : Str → Option Value} {base : Heap} {f : Addr} {fd : FuncData} {C CI : Addr}
def spClose (K : PySem.W.Frag) (C CI : Addr) : Sp := fun vs H Q E => ∃ G M0 self dx t i ps L fr, vs = [.ref self] ∧ Zp G (RM C dx self ps t i (L ++ [fr]) M0) H ∧ Dts K G fr.vs (Pl.dl fr.ps) ∧ t.length ≤ 4000000 ∧
  (sgS t i = ")" → ∀ v G1 H1, Zp G1 (RM C dx self ps t (i + 1) L M0) H1 → Same G G1 → Dt K G1 v (Pl.nd fr.h fr.ps).d → Q v H1) ∧ (sgS t i ≠ ")" → RErr K CI G M0 E i)
theorem ok_close (T : Nm K mg) (R : RC K C) (M_mark : Mth P w K mg base (L2.CX P w) 3 C "mark" ["self", "sign"] [] (spMark K C CI))
    (F : FunD K "close" "PlanReader.close" (defArgs s_PlanReader_close) (defBody s_PlanReader_close) (defScope s_PlanReader_close) [] [] f fd) : FnOk P w K mg base (L2.CX P w) 4 f fd ["self"] (spClose K C CI) := by
  have nd : N_PlanReader_close.Nodup := sc_PlanReader_close.nd
  refine F.ok sc_PlanReader_close (fun vs H Q E h => ?_) (fun cdv A outer s H vs Q E hr h => ?_)
  · obtain ⟨G, M0, self, dx, t, i, ps, L, fr, rfl, _⟩ := h
    rfl
  have hu := hr.units
  refine ⟨_,   (pss_cons (ps_expr (pe_mtX M_mark (hr.mono (by omega)) (takes_of rfl rfl rfl rfl) (pv 0) (pa_cons pe_str pa_nil)))
    (pss_one (ps_ret (pe_callTy (kc_tuple (K := K)) (by rfl) T.b_tuple boot_tuple (pa_cons (pe_bm0 PySem.F.plainAttrs_list PySem.F.slot_list_pop PySem.F.type_list_pop mt_pop (k_fld (K := K) (pv 0) rfl)) pa_nil))))), ?_⟩
  obtain ⟨G, M0, self, dx, t, i, ps, L, fr, rfl, z, hD, hl, q, qx⟩ := h
  repeat (walk_at "z")
  refine z_mtO z 0 rfl rfl ?_
  repeat (walk_at "z")
  refine ⟨G, _, M0, self, dx, t, i, ps, _, rfl, z, hl, RM_sub (C := C) (dx := dx) (self := self) (t := t) (i := i), fun c H1 z1 => ?_, fun c => qx c⟩
  have z1 : Zp G (RM C dx self ps t (i + 1) (L ++ [fr]) M0) H1 := z1
  repeat (walk_at "z")
  refine z_flO z1 0 rfl R.cl R.n3 rfl ?_
  refine z_tyO z1 1 rfl ?_
  refine z_pop (xs := L.map fun f => V.ref f.a) (y := .ref fr.a) z1 1 (by
    show some (ps, HO.lst ((L ++ [fr]).map fun f => V.ref f.a)) = _
    rw [List.map_append]
    rfl) fun H2 z2 => ?_
  have z2 : Zp G ((self, .ins C dx (rdF t (i + 1) ps)) :: (ps, .lst (L.map fun f => V.ref f.a)) :: ((L ++ [fr]).map Fr.ent ++ M0)) H2 := z2
  have hat : H2 fr.a = some (.lst (.str fr.h.s :: fr.vs)) := z2.at_ (L.length + 2) (by
    show ((L ++ [fr]).map Fr.ent ++ M0)[L.length]? = _
    rw [List.map_append, List.append_assoc]
    have : L.length = (L.map Fr.ent).length := by rw [List.length_map]
    rw [this, List.getElem?_append_right (Nat.le_refl _), Nat.sub_self]
    rfl)
  repeat (walk_at "z")
  refine z_tupH (SqL.of hat) z2 fun p G3 H3 z3 s3 e3 => ?_
  refine q c _ G3 H3 (z3.less ?_) s3 (dt_mk e3 (hD.up s3))
  unfold RM
  refine List.Sublist.cons_cons _ (List.Sublist.cons_cons _ ?_)
  rw [List.map_append]
  exact List.Sublist.append (List.sublist_append_left _ _) (List.Sublist.refl _)
def spGoOn (K : PySem.W.Frag) (C CI : Addr) : Sp := fun vs H Q E => ∃ G M0 self dx t i ps L fr v found, vs = [.ref self, v] ∧ Zp G (RM C dx self ps t i (L ++ [fr]) M0) H ∧ FV K G v found ∧ Fine K G (L ++ [fr]) ∧ t.length ≤ 4000000 ∧ Bnd t found i (ab (L ++ [fr])) ∧
  (match goOn t found i (ab (L ++ [fr])) with
    | .err e => RErr K CI G M0 E e
    | .go f' i' A' => ∀ v' L' G1 H1, Zp G1 (RM C dx self ps t i' L' M0) H1 → Same G G1 → Fine K G1 L' → ab L' = A' → FV K G1 v' f' → Q v' H1)
theorem cnt_len (L : List Fr) : L.length ≤ cnt (ab L) := by
  have e : ∀ A : Stk, A.length ≤ cnt A := by
    intro A
    induction A with
    | nil => exact Nat.le_refl _
    | cons x A ih =>
      obtain ⟨h, ps⟩ := x
      simp only [cnt, List.length_cons]
      omega
  have := e (ab L)
  unfold ab at this
  rw [List.length_reverse, List.length_map] at this
  exact this
theorem ok_go_on (T : Nm K mg) (TB : PTab K w) (R : RC K C) (M_sign : Mth P w K mg base CX0 1 C "sign" ["self"] [] (spSign K C)) (M_mark : Mth P w K mg base (L2.CX P w) 3 C "mark" ["self", "sign"] [] (spMark K C CI)) (M_close : Mth P w K mg base (L2.CX P w) 4 C "close" ["self"] [] (spClose K C CI)) (M_begin : Mth P w K mg base (L2.CX P w) 4 C "begin" ["self"] [] (spBegin K C CI))
    (F : FunD K "go_on" "PlanReader.go_on" (defArgs s_PlanReader_go_on) (defBody s_PlanReader_go_on) (defScope s_PlanReader_go_on) [] [] f fd) : FnOk P w K mg base (L2.CX P w) 5 f fd ["self", "found"] (spGoOn K C CI) := by
  have nd : N_PlanReader_go_on.Nodup := sc_PlanReader_go_on.nd
  refine F.ok sc_PlanReader_go_on (fun vs H Q E h => ?_) (fun cdv A outer s H vs Q E hr h => ?_)
  · obtain ⟨G, M0, self, dx, t, i, ps, L, fr, v, found, rfl, _⟩ := h
    rfl
  have hu := hr.units
  refine ⟨_,   (pss_cons (ps_asg (pe_ix (k_ix (K := K)) (k_fld (K := K) (pv 0) rfl) (pe_un un_neg pe_int) (fun _ _ => rfl)) (pg_name (i := 2) nd rfl (by first | exact .inl rfl | exact .inr rfl)))
    (pss_cons (ps_if (pt_cmpR o_notN (pv 1) pe_non (nomark _)) (pss_one (ps_expr (pe_bm PySem.F.plainAttrs_list PySem.F.slot_list_append PySem.F.type_list_append mt_append (pv 2) (pa_cons (pv 1) pa_nil)))) pss_nil)
    (pss_cons (ps_asg (pe_op o_sub (pe_callB (kc_len (K := K) (P := P) (w := w)) (by rfl) T.b_len PySem.boot_len (pa_cons (pv 2) pa_nil)) pe_int) (pg_name (i := 3) nd rfl (by first | exact .inl rfl | exact .inr rfl)))
    (pss_cons (ps_if (PW.pt (pw_or (PW.pt (pw_and (pt_cmpR (k_eq (K := K) hu) (pe_mt0 M_sign (hr.mono (by omega)) pass0 (pv 0)) pe_str (nomark _)) (pw_and1 (pt_cmpR o_ge (pv 3) (pe_ix (k_ixD (K := K) (w := w)) (pe_gC T.g_LEAST (by rfl)) (pe_ix (k_ix (K := K)) (pv 2) pe_int (fun _ _ => rfl)) (fun _ _ => rfl)) (nomark _))))) (pw_or1 (pt_cmpR (k_eq (K := K) hu) (pv 3) (pe_ix (k_ixD (K := K) (w := w)) (pe_gC T.g_MOST (by rfl)) (pe_ix (k_ix (K := K)) (pv 2) pe_int (fun _ _ => rfl)) (fun _ _ => rfl)) (nomark _))))) (pss_one (ps_ret (pe_mtX0 M_close (hr.mono (by omega)) (takes_of rfl rfl rfl rfl) (pv 0)))) pss_nil)
    (pss_cons (ps_if (pt_cmpR o_notN (pv 1) pe_non (nomark _)) (pss_cons (ps_expr (pe_mtX M_mark (hr.mono (by omega)) (takes_of rfl rfl rfl rfl) (pv 0) (pa_cons pe_str pa_nil)))
    (pss_one (ps_expr (pe_mtX M_mark (hr.mono (by omega)) (takes_of rfl rfl rfl rfl) (pv 0) (pa_cons pe_str pa_nil))))) pss_nil)
    (pss_one (ps_ret (pe_mtX0 M_begin (hr.mono (by omega)) (takes_of rfl rfl rfl rfl) (pv 0))))))))), ?_⟩
  obtain ⟨G, M0, self, dx, t, i, ps, L, fr, v, found, rfl, z, hv, hF, hl, B, q⟩ := h
  rw [ab_snoc, goOn_cons] at q
  have Bc := B.c
  have Bl := B.l
  rw [ab_snoc] at Bc
  simp only [cnt] at Bc
  have hLc := cnt_len L
  have hfr := hF fr (by simp)
  have hvl := pls_len hfr
  obtain ⟨fa, fh, fvs, fps⟩ := fr
  dsimp only at q Bc hfr hvl
  repeat (walk_at "z")
  refine z_flO z 0 rfl R.cl R.n3 rfl ?_
  repeat (walk_at "z")
  refine z_neg ?_
  refine z_ixH (SqL.of (z.at_ 1 rfl)) (v := .ref fa) (by rw [List.map_append]; exact at_last) ?_
  repeat (walk_at "y")
  generalize hps' : fps ++ found.toList = ps' at q
  with_reducible refine z_cut (fun σ H => ∃ vs', Zp G (RM C dx self ps t i (L ++ [⟨fa, fh, vs', ps'⟩]) M0) H ∧ Dts K G vs' (Pl.dl ps') ∧ σ = [some (.ref self), some v, some (.ref fa), none]) (fun nx hnx => ?_) (fun σ H2 h2 => ?_)
  · repeat (walk_at "z")
    refine z_nN ?_
    repeat (walk_at "z")
    cases found with
    | none =>
      obtain rfl : v = .non := hv
      refine z_bT' rfl ?_
      repeat (walk_at "z")
      refine hnx _ _ ⟨fvs, ?_, ?_, rfl⟩
      · rw [← hps']
        simpa using z
      · rw [← hps']
        simpa using hfr
    | some p =>
      have hv : Dt K G v p.d := hv
      refine z_bF' (dt_ne hv) ?_
      have hk : (RM C dx self ps t i (L ++ [⟨fa, fh, fvs, fps⟩]) M0)[L.length + 2]? = some (fa, .lst (.str fh.s :: fvs)) := RM_at snoc_atQ
      repeat (walk_at "z")
      refine z_tyO z (L.length + 2) hk ?_
      repeat (walk_at "z")
      refine z_append z (L.length + 2) hk (by rw [List.length_cons, hvl]; omega) fun H1 z1 => ?_
      repeat (walk_at "z")
      refine hnx _ _ ⟨fvs ++ [v], ?_, ?_, rfl⟩
      · have e := RM_set (C := C) (dx := dx) (self := self) (ps := ps) (t := t) (i := i) (L := L) (fr := ⟨fa, fh, fvs, fps⟩) (fr' := ⟨fa, fh, fvs ++ [v], ps'⟩) (M0 := M0) rfl
        rw [← e]
        exact z1
      · rw [← hps']
        exact dts_app hfr (pl_all hv)
  obtain ⟨vs', z2, hD, rfl⟩ := h2
  have hn : vs'.length = ps'.length := pls_len hD
  have hk2 : (RM C dx self ps t i (L ++ [⟨fa, fh, vs', ps'⟩]) M0)[L.length + 2]? = some (fa, .lst (.str fh.s :: vs')) := RM_at snoc_atQ
  have hat : H2 fa = some (.lst (.str fh.s :: vs')) := z2.at_ (L.length + 2) hk2
  have hF2 : Fine K G (L ++ [⟨fa, fh, vs', ps'⟩]) := fun g hg => by
    rcases List.mem_append.mp hg with hg | hg
    · exact hF g (List.mem_append_left _ hg)
    · obtain rfl := List.mem_singleton.mp hg
      exact hD
  have eab : ab (L ++ [⟨fa, fh, vs', ps'⟩]) = (fh, ps') :: ab L := ab_snoc
  repeat (walk_at "z")
  refine z_lenH (.inl (SqL.of hat)) ?_
  repeat (walk_at "y")
  have en : ((V.str fh.s :: vs').length : Int) - 1 = (ps'.length : Int) := by rw [List.length_cons, hn]; omega
  rw [en]
  -- closed
  have fin : (sgS t i = ")" ∧ Hd.lo fh ≤ ps'.length) ∨ Hd.hi fh = some ps'.length → spClose K C CI [.ref self] H2 Q E := fun c => by
    rw [if_pos c] at q
    refine ⟨G, M0, self, dx, t, i, ps, L, _, rfl, z2, hD, hl, fun c1 v1 G1 H1 z1 s1 h1 => ?_, fun c1 => ?_⟩
    · rw [if_pos c1] at q
      exact q v1 L G1 H1 z1 s1 (fun g hg => (hF g (List.mem_append_left _ hg)).up s1) rfl h1
    · rw [if_neg c1] at q
      exact q
  repeat (walk_at "y")
  with_reducible refine z_seq ?_
  with_reducible refine z_ifS ?_
  with_reducible refine z_orC (decide (sgS t i = ")" ∧ Hd.lo fh ≤ ps'.length)) (fun QB' hq => ?_) ?_
  · repeat (walk_at "z")
    refine z_mtO z2 0 rfl rfl ?_
    repeat (walk_at "z")
    refine ⟨G, _, self, dx, t, i, ps, rfl, z2, hl, ?_⟩
    repeat (walk_at "z")
    refine z_eqS rfl ?_
    repeat (walk_at "z")
    by_cases c2 : sgS t i = ")"
    · refine z_bT' (decide_eq_true (by rw [c2])) ?_
      repeat (walk_at "z")
      refine z_ixH (SqL.of hat) at_zero ?_
      refine z_ixKD TB.l (le_at fh) ?_
      rw [le_lo]
      repeat (walk_at "z")
      have e : decide ((Hd.lo fh : Int) ≤ (ps'.length : Int)) = decide (sgS t i = ")" ∧ Hd.lo fh ≤ ps'.length) := by
        by_cases c4 : Hd.lo fh ≤ ps'.length
        · rw [decide_eq_true (show (Hd.lo fh : Int) ≤ (ps'.length : Int) by omega), decide_eq_true ⟨c2, c4⟩]
        · rw [decide_eq_false (show ¬ (Hd.lo fh : Int) ≤ (ps'.length : Int) by omega), decide_eq_false fun h => c4 h.2]
      rw [e]
      exact hq
    · refine z_bF' (decide_eq_false fun h => c2 (V.str.inj h)) ?_
      rw [decide_eq_false fun h : sgS t i = ")" ∧ Hd.lo fh ≤ ps'.length => c2 h.1] at hq
      exact hq
  by_cases c1 : sgS t i = ")" ∧ Hd.lo fh ≤ ps'.length
  · refine z_bT' (decide_eq_true c1) ?_
    repeat (walk_at "z")
    refine z_mtO z2 0 rfl rfl ?_
    repeat (walk_at "z")
    exact fin (.inl c1)
  · refine z_bF' (decide_eq_false c1) ?_
    repeat (walk_at "z")
    refine z_ixH (SqL.of hat) at_zero ?_
    refine z_ixKD TB.m (mo_at fh) ?_
    refine z_eqS (by cases fh <;> rfl) ?_
    rw [mo_hi]
    repeat (walk_at "z")
    by_cases c3 : Hd.hi fh = some ps'.length
    · refine z_bT' (decide_eq_true c3) ?_
      repeat (walk_at "z")
      refine z_mtO z2 0 rfl rfl ?_
      repeat (walk_at "z")
      exact fin (.inr c3)
    · refine z_bF' (decide_eq_false c3) ?_
      rw [if_neg (fun h => h.elim c1 c3)] at q
      have begin_ : ∀ (j : Nat) (H3 : Hp), Zp G (RM C dx self ps t j (L ++ [⟨fa, fh, vs', ps'⟩]) M0) H3 → (match fromB (beginR t j (anyBe ((fh, ps') :: ab L))) ((fh, ps') :: ab L) with
          | .err e => RErr K CI G M0 E e
          | .go f' i' A' => ∀ v' L' G1 H1, Zp G1 (RM C dx self ps t i' L' M0) H1 → Same G G1 → Fine K G1 L' → ab L' = A' → FV K G1 v' f' → Q v' H1) → spBegin K C CI [.ref self] H3 Q E := fun j H3 z3 q => by
        refine ⟨G, M0, self, dx, t, j, ps, _, rfl, z3, hl, by rw [List.length_append]; show L.length + 1 ≤ _; omega, ?_⟩
        rw [eab]
        cases hb : beginR t j (anyBe ((fh, ps') :: ab L)) with
        | err e =>
          rw [hb] at q
          exact q
        | name s k =>
          rw [hb] at q
          exact fun G1 H1 z1 s1 => q (.str s) _ G1 H1 z1 s1 (hF2.up s1) eab (by show Dt K G1 (.str s) (Pl.nm s).d; rw [Pl.d]; exact .str s)
        | push h k =>
          rw [hb] at q
          refine fun a G1 H1 z1 s1 => q .non _ G1 H1 z1 s1 (fun g hg => ?_) (by rw [ab_snoc, eab]) rfl
          rcases List.mem_append.mp hg with hg | hg
          · exact (hF2.up s1) g hg
          · obtain rfl := List.mem_singleton.mp hg
            exact .nil
      repeat (walk_at "z")
      refine z_nN ?_
      repeat (walk_at "z")
      cases found with
      | none =>
        obtain rfl : v = .non := hv
        refine z_bT' rfl ?_
        repeat (walk_at "z")
        refine z_mtO z2 0 rfl rfl ?_
        repeat (walk_at "z")
        exact begin_ i H2 z2 q
      | some p =>
        have hv : Dt K G v p.d := hv
        refine z_bF' (dt_ne hv) ?_
        repeat (walk_at "z")
        refine z_mtO z2 0 rfl rfl ?_
        repeat (walk_at "z")
        refine ⟨G, _, M0, self, dx, t, i, ps, _, rfl, z2, hl, RM_sub (C := C) (dx := dx) (self := self) (t := t) (i := i), fun c H3 z3 => ?_, fun c => ?_⟩
        rotate_left
        · dsimp only at q
          rw [if_neg c] at q
          exact q
        dsimp only at q
        rw [if_pos c] at q
        have z3 : Zp G (RM C dx self ps t (i + 1) (L ++ [⟨fa, fh, vs', ps'⟩]) M0) H3 := z3
        repeat (walk_at "z")
        refine z_mtO z3 0 rfl rfl ?_
        repeat (walk_at "z")
        refine ⟨G, _, M0, self, dx, t, i + 1, ps, _, rfl, z3, hl, RM_sub (C := C) (dx := dx) (self := self) (t := t) (i := i + 1), fun c H4 z4 => ?_, fun c => ?_⟩
        rotate_left
        · rw [if_neg c] at q
          exact q
        rw [if_pos c] at q
        have z4 : Zp G (RM C dx self ps t (i + 2) (L ++ [⟨fa, fh, vs', ps'⟩]) M0) H4 := z4
        repeat (walk_at "z")
        refine z_mtO z4 0 rfl rfl ?_
        repeat (walk_at "z")
        exact begin_ (i + 2) H4 z4 q
end
end LW
namespace LW
open PySem PySem.Spec PyProof.Rows L2 Ys

section
variable {P : Program} {w : World} {K : PySem.W.Frag} {mg : Str → Option Value} {base : Heap} {f : Addr} {fd : FuncData} {C CI : Addr}
def ROut (K : PySem.W.Frag) (CI : Addr) (G : Hp) (M0 : List (Addr × HO)) (Q : VK) (E : XK) : Out → Prop
  | .ok p => ∀ v G1 H1, Zp G1 M0 H1 → Same G G1 → Dt K G1 v p.d → Q v H1
  | .err e => RErr K CI G M0 E e
theorem ROut.up {G G1 : Hp} {M0 : List (Addr × HO)} {Q : VK} {E : XK} {R : Out} (h : ROut K CI G M0 Q E R) (s : Same G G1) : ROut K CI G1 M0 Q E R := by
  cases R with
  | ok p => exact fun v G2 H2 z2 s2 d2 => h v G2 H2 z2 (s.trans s2) d2
  | err e => exact RErr.up (K := K) (CI := CI) (show RErr K CI G M0 E e from h) s
def spWhole (K : PySem.W.Frag) (C CI : Addr) : Sp := fun vs H Q E => ∃ G M0 self dx t ps R, vs = [.ref self] ∧ Zp G (RM C dx self ps t 0 [] M0) H ∧ t.length ≤ 4000000 ∧ Reads t R ∧ ROut K CI G M0 Q E R
theorem ok_whole (T : Nm K mg) (R : RC K C) (S_InvalidText : ExcS P w K mg base CI "InvalidText" "index") (M_sign : Mth P w K mg base CX0 1 C "sign" ["self"] [] (spSign K C)) (M_begin : Mth P w K mg base (L2.CX P w) 4 C "begin" ["self"] [] (spBegin K C CI)) (M_go_on : Mth P w K mg base (L2.CX P w) 5 C "go_on" ["self", "found"] [] (spGoOn K C CI))
    (F : FunD K "whole" "PlanReader.whole" (defArgs s_PlanReader_whole) (defBody s_PlanReader_whole) (defScope s_PlanReader_whole) [] [] f fd) : FnOk P w K mg base (L2.CX P w) 6 f fd ["self"] (spWhole K C CI) := by
  have nd : N_PlanReader_whole.Nodup := sc_PlanReader_whole.nd
  refine F.ok sc_PlanReader_whole (fun vs H Q E h => ?_) (fun cdv A outer s H vs Q E hr h => ?_)
  · obtain ⟨G, M0, self, dx, t, ps, Ro, rfl, _⟩ := h
    rfl
  have hu := hr.units
  refine ⟨_,   (pss_cons (ps_asg (pe_mtX0 M_begin (hr.mono (by omega)) (takes_of rfl rfl rfl rfl) (pv 0)) (pg_name (i := 1) nd rfl (by first | exact .inl rfl | exact .inr rfl)))
    (pss_cons (ps_while (passes_of rfl) (pt_cmpR (k_ne (K := K) hu) (k_fld (K := K) (pv 0) rfl) (pe_lst pa_nil) (nomark _)) (pss_one (ps_asg (pe_mtX M_go_on (hr.mono (by omega)) (takes_of rfl rfl rfl rfl) (pv 0) (pa_cons (pv 1) pa_nil)) (pg_name (i := 1) nd rfl (by first | exact .inl rfl | exact .inr rfl)))))
    (pss_cons (ps_if (pt_cmpR (k_ne (K := K) hu) (pe_mt0 M_sign (hr.mono (by omega)) pass0 (pv 0)) pe_str (nomark _)) (pss_one (ps_rs S_InvalidText rfl (takes_of rfl rfl rfl rfl) (hr.mono (by omega)) (by rfl) (k_fld (K := K) (pv 0) rfl))) pss_nil)
    (pss_one (ps_ret (pv 1)))))), ?_⟩
  obtain ⟨G, M0, self, dx, t, ps, Ro, rfl, z, hl, hR, q⟩ := h
  with_reducible refine z_cut (fun σ H => ∃ (v : V) (L : List Fr) (f : Option Pl) (i n : Nat) (G1 : Hp), Zp G1 (RM C dx self ps t i L M0) H ∧ Same G G1 ∧ Fine K G1 L ∧ FV K G1 v f ∧ Bnd t f i (ab L) ∧ Runs t n f i (ab L) Ro ∧ σ = [some (.ref self), some v]) (fun nx hnx => ?_) (fun σ H2 h2 => ?_)
  · repeat (walk_at "z")
    refine z_mtO z 0 rfl rfl ?_
    repeat (walk_at "z")
    refine ⟨G, M0, self, dx, t, 0, ps, [], rfl, z, hl, Nat.zero_le _, ?_⟩
    have e0 : anyBe (ab []) = false := rfl
    rw [e0]
    have bb := fun f' i' A' e => bnd_begin (t := t) (b := false) (i := 0) (i' := i') (A := []) (A' := A') (f' := f') (Nat.le_refl _) (Nat.zero_le _) e
    rcases hR with ⟨e, h1, rfl⟩ | ⟨f1, i1, A1, n, h1, h2⟩
    · cases hb : beginR t 0 false with
      | err e' =>
        rw [hb] at h1
        obtain rfl : e' = e := by injection h1
        exact q
      | name s j => rw [hb] at h1; cases h1
      | push h j => rw [hb] at h1; cases h1
    · cases hb : beginR t 0 false with
      | err e' => rw [hb] at h1; cases h1
      | name s j =>
        rw [hb] at h1 bb
        injection h1 with e1 e2 e3
        subst e1 e2 e3
        exact fun G1 H1 z1 s1 => hnx _ _ ⟨.str s, [], some (.nm s), j, n, G1, z1, s1, (fun g hg => by cases hg), (by show Dt K G1 (.str s) (Pl.nm s).d; rw [Pl.d]; exact .str s), bb _ _ _ rfl, h2, rfl⟩
      | push h j =>
        rw [hb] at h1 bb
        injection h1 with e1 e2 e3
        subst e1 e2 e3
        refine fun a G1 H1 z1 s1 => hnx _ _ ⟨.non, [⟨a, h, [], []⟩], none, j, n, G1, z1, s1, (fun g hg => ?_), rfl, bb _ _ _ rfl, h2, rfl⟩
        obtain rfl := List.mem_singleton.mp hg
        exact .nil
  obtain ⟨v, L, f, i, n, G1, z1, s1, hF, hv, hB, hr2, rfl⟩ := h2
  with_reducible refine z_cut (fun σ H => ∃ v p i G2, Zp G2 (RM C dx self ps t i [] M0) H ∧ Same G G2 ∧ Dt K G2 v (Pl.d p) ∧ Runs t 0 (some p) i [] Ro ∧ σ = [some (.ref self), some v]) (fun nx hnx => ?_) (fun σ H2 h2 => ?_)
  · refine z_while (fun n σ G' M' => ∃ v L f i, M' = RM C dx self ps t i L M0 ∧ Same G G' ∧ Fine K G' L ∧ FV K G' v f ∧ Bnd t f i (ab L) ∧ Runs t n f i (ab L) Ro ∧ σ = [some (.ref self), some v]) n z1 ⟨v, L, f, i, rfl, s1, hF, hv, hB, hr2, rfl⟩ ?_
    rintro n σ G' M' H' ⟨v, L, f, i, rfl, s', hF, hv, hB, hr2, rfl⟩ z'
    repeat (walk_at "z")
    refine z_flO z' 0 rfl R.cl R.n3 rfl ?_
    repeat (walk_at "z")
    refine z_newL z' (by simp) fun p2 G2 H2 z2 s2 e2 => ?_
    refine z_neNil (SqL.of (z2.at_ 1 rfl)) (z2.sub _ _ e2) ?_
    repeat (walk_at "z")
    rcases List.eq_nil_or_concat L with rfl | ⟨L', fr, rfl⟩
    · rw [decide_eq_false (by simp)]
      refine z_whF ?_
      have e0 : ab [] = [] := rfl
      rw [e0] at hr2
      cases hr2 with
      | fin h => exact hnx _ _ ⟨v, _, i, G2, z2, s'.trans s2, hv.up s2, .fin h, rfl⟩
      | bad h => exact hnx _ _ ⟨v, _, i, G2, z2, s'.trans s2, hv.up s2, .bad h, rfl⟩
    · rw [List.concat_eq_append] at hF hB hr2 z2
      rw [decide_eq_true (by simp)]
      refine z_whT ?_
      repeat (walk_at "z")
      refine z_mtO z2 0 rfl rfl ?_
      repeat (walk_at "z")
      refine ⟨G2, M0, self, dx, t, i, ps, L', fr, v, f, rfl, z2, hv.up s2, hF.up s2, hl, hB, ?_⟩
      have bg := fun f' i' A' e => bnd_go (f' := f') (i' := i') (A' := A') hB e
      rw [ab_snoc] at hr2 bg ⊢
      cases hr2 with
      | stop h =>
        rw [h]
        exact (q.up (s'.trans s2))
      | step h hr3 =>
        rw [h] at bg ⊢
        refine fun v' L2 G3 H3 z3 s3 hF3 e3 hv3 => ?_
        subst e3
        exact ⟨_, Nat.lt_succ_self _, G3, _, z3, v', L2, _, _, rfl, s'.trans (s2.trans s3), hF3, hv3, bg _ _ _ rfl, hr3, rfl⟩
  · obtain ⟨v, p, i, G2, z2, s2, hv2, hr2, rfl⟩ := h2
    repeat (walk_at "z")
    refine z_mtO z2 0 rfl rfl ?_
    repeat (walk_at "z")
    refine ⟨G2, _, self, dx, t, i, ps, rfl, z2, hl, ?_⟩
    repeat (walk_at "z")
    refine z_neS rfl ?_
    repeat (walk_at "z")
    have sb : M0.Sublist (RM C dx self ps t i [] M0) := (List.sublist_cons_self _ _).cons _
    cases hr2 with
    | fin h =>
      refine z_bT' (decide_eq_true (by rw [h])) ?_
      repeat (walk_at "z")
      exact q v G2 H2 (z2.less sb) s2 hv2
    | bad h =>
      refine z_bF' (decide_eq_false fun e => h (V.str.inj e)) ?_
      repeat (walk_at "z")
      refine z_flO z2 0 rfl R.cl R.n2 rfl ?_
      repeat (walk_at "z")
      exact z_rer z2 sb (RErr.up q s2)
def spRInit (K : PySem.W.Frag) (C CI : Addr) : Sp := fun vs H Q E => ∃ G M x dx v d, vs = [.ref x, v] ∧ Zp G (M ++ [(x, .ins C dx [])]) H ∧ Dt K G v d ∧
  (∀ t, d = .str t → ∀ ps G1 H1, Zp G1 (RM C dx x ps t 0 [] M) H1 → Same G G1 → Q .non H1) ∧ (isStrD d = false → RErr K CI G M E 0)
theorem ok_rinit (T : Nm K mg) (R : RC K C) (S_InvalidText : ExcS P w K mg base CI "InvalidText" "index") (F : FunD K "__init__" "PlanReader.__init__" (defArgs s_PlanReader_init) (defBody s_PlanReader_init) (defScope s_PlanReader_init) [] [] f fd) : FnOk P w K mg base (L2.CX P w) 3 f fd ["self", "text"] (spRInit K C CI) := by
  have nd : N_PlanReader_init.Nodup := sc_PlanReader_init.nd
  refine F.ok sc_PlanReader_init (fun vs H Q E h => ?_) (fun cdv A outer s H vs Q E hr h => ?_)
  · obtain ⟨G, M, x, dx, v, d, rfl, _⟩ := h
    rfl
  have hu := hr.units
  refine ⟨_,   (pss_cons (ps_if (pt_not (pt_val (pe_callB (kc_isi (K := K)) (by rfl) T.b_isinstance boot_isinstance (pa_cons (pv 1) (pa_cons (pe_bltn (v := .ty "str") (by rfl) T.b_str boot_str rfl) pa_nil))))) (pss_one (ps_rs S_InvalidText rfl (takes_of rfl rfl rfl rfl) (hr.mono (by omega)) (by rfl) pe_int)) pss_nil)
    (pss_cons (ps_fld (pv 0) (pv 1) rfl)
    (pss_cons (ps_fld (pv 0) pe_int rfl)
    (pss_one (ps_fld (pv 0) (pe_lst pa_nil) rfl))))), ?_⟩
  obtain ⟨G, M, x, dx, v, d, rfl, z, hd, q, qx⟩ := h
  repeat (walk_at "z")
  refine z_isi (.ty "str") (hd.up z.sub).ty (kit_ty (kit_str d)) ?_
  cases hi : isStrD d with
  | false =>
    repeat (walk_at "z")
    exact z_rer z (List.sublist_append_left _ _) (qx hi)
  | true =>
    cases hd with
    | str t =>
      repeat (walk_at "z")
      refine z_fsL z R.cl R.n1 (by decide) fun H1 z1 => ?_
      repeat (walk_at "z")
      refine z_fsL z1 R.cl R.n2 (by show 1 < 1000; decide) fun H2 z2 => ?_
      repeat (walk_at "z")
      refine z_ownL z2 (by simp) fun ps H3 z3 => ?_
      repeat (walk_at "z")
      refine z_fsI z3 M.length (by rw [List.getElem?_append_left (by simp)]; exact last_at) R.cl R.n3 (by simp only [putF]; split <;> simp) fun H4 z4 => ?_
      repeat (walk_at "z")
      have ef : putF "own_parts" (.ref ps) (putF "own_place" (.int 0) (putF "own_text" (.str t) [])) = rdF t 0 ps := by
        have e1 : ¬ Str.ofString "own_text" = Str.ofString "own_place" := by decide +kernel
        have e2 : ¬ Str.ofString "own_text" = Str.ofString "own_parts" := by decide +kernel
        have e3 : ¬ Str.ofString "own_place" = Str.ofString "own_parts" := by decide +kernel
        simp only [putF, if_neg e1, if_neg e2, if_neg e3]
        rfl
      rw [ef] at z4
      refine q t rfl ps G H4 (z4.perm ?_) (Same.refl _)
      rw [List.append_assoc, List.set_append_right _ _ (Nat.le_refl _), Nat.sub_self]
      exact List.perm_append_comm
    | _ => cases hi
def spRead (K : PySem.W.Frag) (CI : Addr) : Sp := fun vs H Q E => ∃ G M v d, vs = [v] ∧ Zp G M H ∧ Dt K G v d ∧ (∀ t, d = .str t → t.length ≤ 4000000 ∧ ∃ R, Reads t R ∧ ROut K CI G M Q E R) ∧ (isStrD d = false → RErr K CI G M E 0)
theorem ok_read_plan (T : Nm K mg) (B_PlanReader : MkS P w K mg base (L2.CX P w) 3 C "PlanReader" 1 [] (fun vs zs => vs ++ zs) (spRInit K C CI)) (M_whole : Mth P w K mg base (L2.CX P w) 6 C "whole" ["self"] [] (spWhole K C CI)) (F : FnP K "read_plan" s_read_plan f fd) : FnOk P w K mg base (L2.CX P w) 7 f fd ["text"] (spRead K CI) := by
  have nd : N_read_plan.Nodup := sc_read_plan.nd
  refine F.ok sc_read_plan (fun vs H Q E h => ?_) (fun cdv A outer s H vs Q E hr h => ?_)
  · obtain ⟨G, M, v, d, rfl, _⟩ := h
    rfl
  have hu := hr.units
  refine ⟨_,   (pss_one (ps_ret (pe_mtX0 M_whole (hr.mono (by omega)) (takes_of rfl rfl rfl rfl) (pe_mkX B_PlanReader (hr.mono (by omega)) (by rfl) (takes_of rfl rfl rfl rfl) (pa_cons (pv 0) pa_nil) pk_nil)))), ?_⟩
  obtain ⟨G, M, v, d, rfl, z, hd, q, qx⟩ := h
  repeat (walk_at "z")
  refine z_mkSI z rfl rfl fun x dx H1 z1 s1 => ?_
  refine ⟨_, M, x, dx, v, d, rfl, z1, hd.up s1, fun t e ps G2 H2 z2 s2 => ⟨rfl, ?_⟩, fun hi => RErr.up (qx hi) s1⟩
  obtain ⟨hl, Ro, hR, q⟩ := q t e
  refine z_mtO z2 0 rfl rfl ?_
  repeat (walk_at "z")
  exact ⟨G2, M, x, dx, t, ps, Ro, rfl, z2, hl, hR, q.up (s1.trans s2)⟩
end
end LW
namespace LW
open PySem PySem.Spec PyProof.Rows L2 Ys

section
variable {P : Program} {w : World} {K : PySem.W.Frag} {mg : Str → Option Value} {base : Heap} {f : Addr} {fd : FuncData} {CI : Addr}
def spLRead (K : PySem.W.Frag) : Sp := fun vs H Q _ => ∃ G M t R, vs = [.str t] ∧ Zp G M H ∧ t.length ≤ 1000000 ∧ Reads t R ∧ (∀ e, R = .err e → e ≤ t.length) ∧
  (∀ p, R = .ok p → ∀ l v G1 H1, Zp G1 M H1 → Same G G1 → G1 l = some (.lst [v]) → Dt K G1 v p.d → Q (.ref l) H1) ∧ (∀ e, R = .err e → ∀ l G1 H1, Zp G1 M H1 → Same G G1 → G1 l = some (.lst []) → Q (.ref l) H1)
theorem ok_lread (T : Nm K mg) (S_InvalidText : ExcS P w K mg base CI "InvalidText" "index") (XF : XfC K CI) (hno : PySem.W.findIn K (.ref CI) "index" = some none) (hex : PySem.W.exmOne K (.ref CI) (.ref CI) = some true)
    (C_read_plan : Own P w K mg base (L2.CX P w) 7 "read_plan" ["text"] (spRead K CI)) (F : FnP K "_law_read" s_law_read f fd) : FnOk P w K mg base CX0 8 f fd ["_law_line"] (spLRead K) := by
  have nd : N_law_read.Nodup := sc_law_read.nd
  refine F.ok sc_law_read (fun vs H Q E h => ?_) (fun cdv A outer s H vs Q E hr h => ?_)
  · obtain ⟨G, M, t, R, rfl, _⟩ := h
    rfl
  have hu := hr.units
  refine ⟨_, PSs.nox (pss_one (ps_try_as (x := "InvalidText") (n := "e") (c := .ref CI) (i := 1) (Wout := fun _ _ _ _ => False) rfl rfl nd rfl rfl ⟨by rfl, by decide, .inl S_InvalidText.gC⟩ takes0
    (fun W pn xe tW pW => pss_one (ps_ret (pe_lst (pa_cons (pe_ownX C_read_plan (hr.mono (by omega)) (by rfl) tW (pa_cons (pv 0) pa_nil)) pa_nil))))
    (fun a oe cls d pn hz hf => pss_one (ps_ret (pe_ifExp (pt_chain o_le o_le pe_int (pe_xf XF hno hz hf (pv 1)) (pe_callB (kc_len (K := K) (P := P) (w := w)) (by rfl) T.b_len PySem.boot_len (pa_cons (pv 0) pa_nil))) (pe_lst pa_nil) (pe_lst (pa_cons pe_str (pa_cons (pe_xf XF hno hz hf (pv 1)) pa_nil)))))))), ?_⟩
  obtain ⟨G, M, t, R, rfl, z, hl, hR, hE, q1, q2⟩ := h
  repeat (walk_at "z")
  refine ⟨G, M, _, _, rfl, z, .str t, fun t' ht => ?_, fun hs => by cases hs⟩
  obtain rfl : t = t' := (by injection ht)
  refine ⟨by omega, R, hR, ?_⟩
  cases R with
  | ok p =>
    intro v1 G1 H1 z1 s1 d1
    repeat (walk_at "z")
    refine z_newL z1 (by simp) fun l G2 H2 z2 s2 e2 => ?_
    exact q1 p rfl l v1 G2 H2 z2 (s1.trans s2) e2 (d1.up s2)
  | err i =>
    have hi := hE i rfl
    intro dd G2 H2 z2 s2 hx
    refine ⟨true, hex, fun _ e he => ?_, fun z => by cases z⟩
    repeat (walk_at "z")
    refine ⟨_, rfl, rfl, rfl, dd, _, _, rfl, z2.sub _ _ hx, rfl, ?_⟩
    repeat (walk_at "z")
    refine z_bT' (decide_eq_true (by omega)) ?_
    repeat (walk_at "z")
    refine z_lenS (by omega) ?_
    repeat (walk_at "z")
    refine z_bT' (decide_eq_true (by omega)) ?_
    repeat (walk_at "z")
    refine z_newL z2 (by simp) fun l G3 H3 z3 s3 e3 => ?_
    exact q2 i rfl l G3 H3 z3 (s2.trans s3) e3
end
end LW
namespace LW
open PySem PySem.Spec PyProof.Rows L2 Ys

section
variable {P : Program} {w : World} {K : PySem.W.Frag} {mg : Str → Option Value} {base : Heap} {f : Addr} {fd : FuncData}
theorem ok_law_text {n : Nat} (T : Nm K mg) (C_law_text : Own P w K mg base CX0 (n + 1) "_law_text" ["_law_plan_here"] (spText K n)) (F : FnP K "_law_text" s_law_text f fd) : FnOk P w K mg base CX0 (n + 2) f fd ["_law_plan_here"] (spText K (n + 1)) := by
  have nd : N_law_text.Nodup := sc_law_text.nd
  refine F.ok sc_law_text (fun vs H Q E h => ?_) (fun cdv A outer s H vs Q E hr h => ?_)
  · obtain ⟨G, M, v, p, rfl, _⟩ := h
    rfl
  have hu := hr.units
  refine ⟨_, PSs.nox   (pss_cons (ps_if (pt_val (pe_callB (kc_isi (K := K)) (by rfl) T.b_isinstance boot_isinstance (pa_cons (pv 0) (pa_cons (pe_bltn (v := .ty "str") (by rfl) T.b_str boot_str rfl) pa_nil)))) (pss_one (ps_ret (pv 0))) pss_nil)
    (pss_one (ps_ret (pe_op (k_add (K := K)) (pe_op (k_add (K := K)) (pe_op (k_add (K := K)) (pe_ix (k_ix (K := K)) (pv 0) pe_int (fun _ _ => rfl)) pe_str) (pe_joinG pe_str (pe_lc (own := [("_law_part", 1)]) (tt := tYes) rfl nd (k_any (K := K) (pe_slice (k_sl (K := K)) (pv 0) (po_some pe_int) po_none)) (blkOk_by (N := N_law_text) (sc := defScope s_law_text) (by decide +kernel)) (fun _ _ _ _ _ => (pg_name (i := 1) nd rfl (by first | exact .inl rfl | exact .inr rfl))) (fun _ _ _ _ _ => pts_nil) (fun _ _ _ _ _ => (pe_own C_law_text (hr.mono (by omega)) (by rfl) pass0 (pa_cons (pv 1) pa_nil)))))) pe_str)))), ?_⟩
  obtain ⟨G, M, v, p, rfl, z, hd, hN, hn, hsz, q⟩ := h
  repeat (walk_at "z")
  refine z_isi (.ty "str") (hd.up z.sub).ty (kit_ty (kit_str p.d)) ?_
  cases p with
  | nm s =>
    have e := dt_nm hd
    subst e
    rw [Pl.d]
    repeat (walk_at "z")
    refine z_bT' rfl ?_
    repeat (walk_at "z")
    have := q G H z (Same.refl _)
    rw [txt] at this
    exact this
  | nd h ps =>
    obtain ⟨a, xr, rfl, hS, hR⟩ := dt_nd hd
    rw [Pl.dp] at hn
    rw [Pl.sz] at hsz
    have hps := pls_len hR
    have hl := txts_len fun p hp => txt_len p (hN.kids p hp)
    have hj := joinS_len (ps.map txt)
    have h8 := hd_len h
    have c1 : ("(" : Str).length = 1 := rfl
    have c2 : (")" : Str).length = 1 := rfl
    have c3 : (", " : Str).length = 2 := rfl
    rw [Pl.d]
    repeat (walk_at "z")
    refine z_bF' rfl ?_
    repeat (walk_at "z")
    refine z_ixT z hS at_zero ?_
    repeat (walk_at "z")
    refine z_addS (by omega) ?_
    repeat (walk_at "z")
    refine z_anyT ?_
    repeat (walk_at "z")
    refine z_slT z hS fun p2 G2 H2 z2 s2 e2 => ?_
    rw [cut_tail] at e2
    refine z_itT z2 e2 ?_
    refine lc_src src_T (fun i G' M' acc => M' = M ∧ Same G2 G' ∧ acc = ((ps.take i).map txt).map V.str) z2 ⟨rfl, Same.refl _, rfl⟩ (fun i G' M' M1 acc H' ⟨_, s', _⟩ z' => z'.seqT (upT s' e2)) ?_ ?_
    · rintro i x G' M' acc Dl H' hx ⟨rfl, s', rfl⟩ z'
      obtain ⟨p, hp, hx'⟩ := pl_at (hR.up (s2.trans s')) hx
      have hm := List.mem_of_getElem? hp
      have h1 := dp_mem hm
      have h2 := sz_mem hm
      have hl2 := len_szl ps
      repeat (walk_at "z")
      refine ⟨by rfl, ?_⟩
      repeat (walk_at "z")
      refine ⟨G', _, x, p, rfl, z', hx', hN.kids p hm, by omega, by omega, fun G3 H3 z3 s3 => ?_⟩
      refine z_laid z3 (by rw [List.length_map, List.length_map, List.length_take]; omega) ⟨rfl, s'.trans s3, ?_⟩
      rw [take_snoc hp, List.map_append, List.map_append]
      rfl
    rintro p3 G3' M3 acc G3 H3 ⟨rfl, s3', rfl⟩ s3 z3 e3
    rw [hps, List.take_length] at e3
    refine z_join z3 (SqL.of e3) (by rw [c3]; omega) ?_
    repeat (walk_at "z")
    have l1 : (h.s ++ "(" : Str).length = h.s.length + 1 := by rw [len_app]; rfl
    refine z_addS (by omega) ?_
    have l2 : (h.s ++ "(" ++ Txt.join ", " (ps.map txt) : Str).length = h.s.length + 1 + (Txt.join ", " (ps.map txt)).length := by rw [len_app, l1]
    repeat (walk_at "z")
    refine z_addS (by omega) ?_
    repeat (walk_at "z")
    have := q G3 H3 z3 (s2.trans (s3'.trans s3))
    rw [txt, txtl_map] at this
    exact this
end
end LW
namespace LW
open PySem PySem.Spec PyProof.Rows L2 Ys
/-! ### how long a plan is when shown -/
theorem rc_one {q c : Nat} (hq : q = 34 ∨ q = 39) (h1 : 97 ≤ c) (h2 : c ≤ 122) : (Builtin.Str.reprChar q c).length = 1 := by
  have h : (List.range 26).all (fun k => decide ((Builtin.Str.reprChar 34 (97 + k)).length = 1) && decide ((Builtin.Str.reprChar 39 (97 + k)).length = 1)) = true := by decide +kernel
  have := List.all_eq_true.mp h (c - 97) (List.mem_range.mpr (by omega))
  have e : 97 + (c - 97) = c := by omega
  rw [e] at this
  obtain ⟨a, b⟩ := Bool.and_eq_true_iff.mp this
  rcases hq with rfl | rfl
  · exact of_decide_eq_true a
  · exact of_decide_eq_true b
theorem fold_one {q : Nat} (hq : q = 34 ∨ q = 39) : ∀ (l : List Nat) (n : Nat), (∀ c ∈ l, 97 ≤ c ∧ c ≤ 122) → l.foldl (fun n c => n + (Builtin.Str.reprChar q c).length) n = n + l.length
  | [], n, _ => rfl
  | c :: r, n, h => by
    have hc := h c (List.mem_cons_self ..)
    rw [List.foldl_cons, rc_one hq hc.1 hc.2, fold_one hq r _ fun d hd => h d (List.mem_cons_of_mem _ hd), List.length_cons]
    omega
theorem rt_len {s : Str} (h : Lt s) : (reprText s).length = s.length + 2 := by
  have hq : reprQuote s = 34 ∨ reprQuote s = 39 := by
    unfold reprQuote
    split
    · exact .inl rfl
    · exact .inr rfl
  rw [← reprLen_eq, ← Array.foldl_toList, fold_one hq _ _ h]
  have e : s.cps.toList.length = s.length := by simp [Str.length]
  omega
theorem joinP : ∀ ts : List Str, (Str.join ", " ts).length ≤ piled ts
  | [] => Nat.zero_le _
  | t :: ts => by
    have := join_length_add (t :: ts) (by simp)
    omega
theorem tup_len (ts : List Str) : (tupleText ts).length ≤ piled ts + 3 := by
  have h1 := joinP ts
  unfold tupleText
  have e1 : ((",)" : String) : Str).length = 2 := rfl
  have e2 : ((")" : String) : Str).length = 1 := rfl
  have e3 : ((if (ts.length == 1) = true then ",)" else ")" : String) : Str).length ≤ 2 := by
    split
    · exact Nat.le_of_eq e1
    · rw [e2]; decide
  rw [PySem.Str.length_append, PySem.Str.length_append]
  have e4 : (("(" : Str)).length = 1 := rfl
  rw [e4]
  omega
theorem tf_len : ∀ (ts : List Str) (k : Nat) (acc : Str), (textFrom k acc ts).length ≤ acc.length + piled ts
  | [], k, acc => by show acc.length ≤ _; exact Nat.le_add_right _ _
  | t :: r, k, acc => by
    have ih := tf_len r (k + 1) (acc ++ (if k > 0 then ", " else "" : String) ++ t)
    have e : (acc ++ (if k > 0 then ", " else "" : String) ++ t).length ≤ acc.length + 2 + t.length := by
      rw [PySem.Str.length_append, PySem.Str.length_append]
      have : ((if k > 0 then ", " else "" : String) : Str).length ≤ 2 := by split <;> decide
      omega
    show (textFrom (k + 1) _ r).length ≤ _
    rw [piled_cons]
    omega
theorem lst_len (ts : List Str) : (listText ts).length ≤ piled ts + 2 := by
  have h := tf_len ts 0 "["
  have e1 : (("[" : String) : Str).length = 1 := rfl
  have e2 : (("]" : String) : Str).length = 1 := rfl
  unfold listText
  rw [PySem.Str.length_append, e2]
  rw [e1] at h
  omega
theorem sAll_map : ∀ ds : List PyData, PyData.shownAll ds = ds.map PyData.shown
  | [] => rfl
  | d :: ds => congrArg (PyData.shown d :: ·) (sAll_map ds)
theorem sAll_ok : ∀ {ds : List PyData}, (∀ d ∈ ds, d.showable = true) → PyData.showableAll ds = true
  | [], _ => rfl
  | d :: ds, h => by
    show (d.showable && PyData.showableAll ds) = true
    rw [h d (List.mem_cons_self ..), sAll_ok fun e he => h e (List.mem_cons_of_mem _ he)]
    rfl
theorem hd_lt (h : Hd) : Lt h.s ∧ h.s.length ≤ 6 := by
  have e : ∀ s : Str, (s.cps.toList.all fun c => decide (97 ≤ c) && decide (c ≤ 122)) = true → Lt s := fun s k c hc => by
    have := List.all_eq_true.mp k c hc
    simpa using this
  cases h <;> exact ⟨e _ (by decide +kernel), by decide +kernel⟩
structure Shw (d : PyData) (n : Nat) : Prop where
  ok : d.showable = true
  le : d.shown.length ≤ n
theorem Shw.mono {n m : Nat} {d : PyData} (h : Shw d n) (hn : n ≤ m) : Shw d m := ⟨h.ok, Nat.le_trans h.le hn⟩
theorem shw_wd {s : Str} (h : Wd s) : Shw (.str s) 10 := ⟨rfl, by
  show (reprText s).length ≤ 10
  rw [rt_len h.2.2]
  have := h.2.1
  omega⟩
theorem piled_pls {ps : List Pl} (h : ∀ p ∈ ps, (Pl.d p).shown.length + 2 ≤ 16 * p.sz) : piled (PyData.shownAll (Pl.dl ps)) ≤ 16 * Pl.szl ps := by
  induction ps with
  | nil => exact Nat.zero_le _
  | cons p ps ih =>
    have h1 := h p (by simp)
    have h2 := ih fun q hq => h q (List.mem_cons_of_mem _ hq)
    rw [Pl.dl]
    show piled (PyData.shown (Pl.d p) :: PyData.shownAll (Pl.dl ps)) ≤ _
    rw [piled_cons, Pl.szl]
    omega
theorem shw_pl0 : ∀ p, Nms p → (Pl.d p).showable = true ∧ (Pl.d p).shown.length + 2 ≤ 16 * p.sz := Pl.ind (fun s k => by
    cases k with
    | nm k =>
      rw [Pl.d, Pl.sz]
      have := (shw_wd k).le
      exact ⟨rfl, by omega⟩) fun h ps ih k => by
  have hk := fun p hp => ih p hp (k.kids p hp)
  have h1 := piled_pls fun p hp => (hk p hp).2
  rw [Pl.d, Pl.sz]
  refine ⟨?_, ?_⟩
  · show (true && PyData.showableAll (Pl.dl ps)) = true
    rw [Bool.true_and]
    refine sAll_ok fun d hd => ?_
    rw [dl_map] at hd
    obtain ⟨p, hp, rfl⟩ := List.mem_map.mp hd
    exact (hk p hp).1
  · show (tupleText (reprText h.s :: PyData.shownAll (Pl.dl ps))).length + 2 ≤ _
    have h2 := tup_len (reprText h.s :: PyData.shownAll (Pl.dl ps))
    rw [piled_cons, rt_len (hd_lt h).1] at h2
    have := (hd_lt h).2
    omega
theorem shw_pl {p : Pl} (k : Nms p) : Shw p.d (16 * p.sz) := ⟨(shw_pl0 p k).1, by have := (shw_pl0 p k).2; omega⟩
theorem shw_pls {ps : List Pl} (k : ∀ p ∈ ps, Nms p) : Shw (.list (Pl.dl ps)) (16 * Pl.szl ps + 2) := by
  refine ⟨?_, ?_⟩
  · show PyData.showableAll (Pl.dl ps) = true
    refine sAll_ok fun d hd => ?_
    rw [dl_map] at hd
    obtain ⟨p, hp, rfl⟩ := List.mem_map.mp hd
    exact (shw_pl (k p hp)).ok
  · show (listText (PyData.shownAll (Pl.dl ps))).length ≤ _
    have h1 := lst_len (PyData.shownAll (Pl.dl ps))
    have h2 := piled_pls fun p hp => (shw_pl0 p (k p hp)).2
    omega
theorem piled_le {n : Nat} : ∀ {ts : List Str}, (∀ t ∈ ts, t.length ≤ n) → piled ts ≤ (n + 2) * ts.length
  | [], _ => Nat.zero_le _
  | t :: ts, h => by
    have h1 := h t (List.mem_cons_self ..)
    have h2 := piled_le (ts := ts) fun u hu => h u (List.mem_cons_of_mem _ hu)
    rw [piled_cons, List.length_cons, Nat.mul_add, Nat.mul_one]
    omega
theorem shw_tup {n : Nat} {ds : List PyData} (h : ∀ d ∈ ds, Shw d n) : Shw (.tuple ds) ((n + 2) * ds.length + 3) := by
  refine ⟨sAll_ok fun d hd => (h d hd).ok, ?_⟩
  show (tupleText (PyData.shownAll ds)).length ≤ _
  have h1 := tup_len (PyData.shownAll ds)
  have h2 := piled_le (n := n) (ts := PyData.shownAll ds) fun t ht => by
    rw [sAll_map] at ht
    obtain ⟨d, hd, rfl⟩ := List.mem_map.mp ht
    exact (h d hd).le
  rw [sAll_map, List.length_map] at h2
  rw [sAll_map] at h1 ⊢
  omega
theorem shw_lst {n : Nat} {ds : List PyData} (h : ∀ d ∈ ds, Shw d n) : Shw (.list ds) ((n + 2) * ds.length + 2) := by
  refine ⟨sAll_ok fun d hd => (h d hd).ok, ?_⟩
  show (listText (PyData.shownAll ds)).length ≤ _
  have h1 := lst_len (PyData.shownAll ds)
  have h2 := piled_le (n := n) (ts := PyData.shownAll ds) fun t ht => by
    rw [sAll_map] at ht
    obtain ⟨d, hd, rfl⟩ := List.mem_map.mp ht
    exact (h d hd).le
  rw [sAll_map, List.length_map] at h2
  rw [sAll_map] at h1 ⊢
  omega
end LW
namespace LW
open PySem PySem.Spec PyProof.Rows L2 Ys

section
variable {P : Program} {w : World} {K : PySem.W.Frag} {mg : Str → Option Value} {base : Heap} {f : Addr} {fd : FuncData}
def spLaw (K : PySem.W.Frag) : Sp := fun vs H Q _ => ∃ a, ∃ ns : List Int, vs = [.ref a] ∧ SqL K H a (ns.map V.int) ∧ ns.length ≤ 63 ∧ ∀ H1, Q (.bl true) H1
structure LawC (P : Program) (w : World) (K : PySem.W.Frag) (mg : Str → Option Value) (base : Heap) : Prop where
  pen : Own P w K mg base CX0 1 "_law_pen" ["_law_script"] (spPen K)
  draw : Own P w K mg base CX0 1 "_law_draw" ["_law_pen_here", "_law_number"] (spDraw K)
  words : Own P w K mg base CX0 3 "_law_words" ["_law_pen_here", "_law_number"] (spWords K)
  plan : Own P w K mg base CX0 11 "_law_plan" ["_law_pen_here", "_law_names", "_law_room", "_law_deep", "_law_is_inner"] (spPlan K 8)
  txt : Own P w K mg base CX0 9 "_law_text" ["_law_plan_here"] (spText K 8)
  read : Own P w K mg base CX0 8 "_law_read" ["_law_line"] (spLRead K)
  bent : Own P w K mg base CX0 3 "_law_bent" ["_law_pen_here", "_law_line"] (spBent K)
  ptx : Own P w K mg base CX0 61 "plan_text" ["plan"] (spText K 60)
  isp : Own P w K mg base CX0 62 "is_plan" ["value"] (spIsPlan K 60)
abbrev tany : List Str := ["then", "any"]
theorem z_reprH {H : Hp} {v : V} {d : PyData} {Q : VK} (h : Dt K H v d) (s : Shw d 16000000) (s2 : d.depth ≤ 60) (q : Q (.str d.shown) H) : Ys.rRepr K [v] H Q := ⟨v, d, rfl, h, s.ok, s2, Nat.le_trans s.le (by decide), q⟩
theorem ok_law (T : Nm K mg) (L : LawC P w K mg base) (F : FnP K "law" s_law f fd) : FnG P w K mg base CX0 70 f fd ["_law_script"] (spLaw K) := by
  have nd : N_law.Nodup := sc_law.nd
  have C_law_pen := L.pen
  have C_law_draw := L.draw
  have C_law_words := L.words
  have C_law_plan := L.plan
  have C_law_text := L.txt
  have C_law_read := L.read
  have C_law_bent := L.bent
  have C_plan_text := L.ptx
  have C_is_plan := L.isp
  refine okG F sc_law (fun vs H Q E h => ?_) (fun cdv A outer s H vs Q E hg hr h => ?_)
  · obtain ⟨a, ns, rfl, _⟩ := h
    rfl
  have hu := hr.units
  refine ⟨_, PSs.nox   (pss_cons (ps_asg (pe_own C_law_pen (hr.mono (by omega)) (by rfl) pass0 (pa_cons (pv 0) pa_nil)) (pg_name (i := 1) nd rfl (by first | exact .inl rfl | exact .inr rfl)))
    (pss_cons (ps_for PassesOwn.never rfl (pi_range1 (by rfl) (T.b_range) (pa_cons (pe_op (k_add (K := K)) pe_int (pe_callB (c_min2 rfl) (by rfl) T.b_min boot_min (pa_cons pe_int (pa_cons (pe_callB (kc_len (K := K) (P := P) (w := w)) (by rfl) T.b_len PySem.boot_len (pa_cons (pv 0) pa_nil)) pa_nil)))) pa_nil)) (pg_name (i := 2) nd rfl (by first | exact .inl rfl | exact .inr rfl)) (pss_cons (ps_asg (pe_own C_law_plan (hr.mono (by omega)) (by rfl) pass0 (pa_cons (pv 1) (pa_cons (pe_op (k_add (K := K)) (pe_own C_law_words (hr.mono (by omega)) (by rfl) pass0 (pa_cons (pv 1) (pa_cons pe_int pa_nil))) (pe_lst (pa_cons pe_str (pa_cons pe_str pa_nil)))) (pa_cons (pe_lst (pa_cons pe_int pa_nil)) (pa_cons pe_int (pa_cons pe_bl pa_nil)))))) (pg_name (i := 3) nd rfl (by first | exact .inl rfl | exact .inr rfl)))
    (pss_cons (ps_asg (pe_own C_law_text (hr.mono (by omega)) (by rfl) pass0 (pa_cons (pv 3) pa_nil)) (pg_name (i := 4) nd rfl (by first | exact .inl rfl | exact .inr rfl)))
    (pss_cons (ps_if (pt_cmpR (k_ne (K := K) hu) (pe_callB (kc_repr (K := K) hg T.sys hu) (by rfl) T.b_repr boot_repr (pa_cons (pe_own C_law_read (hr.mono (by omega)) (by rfl) pass0 (pa_cons (pv 4) pa_nil)) pa_nil)) (pe_callB (kc_repr (K := K) hg T.sys hu) (by rfl) T.b_repr boot_repr (pa_cons (pe_lst (pa_cons (pv 3) pa_nil)) pa_nil)) (nomark _)) (pss_one (ps_ret pe_bl)) pss_nil)
    (pss_one (ps_for PassesOwn.never rfl (pi_range1 (by rfl) (T.b_range) (pa_cons pe_int pa_nil)) (pg_name (i := 5) nd rfl (by first | exact .inl rfl | exact .inr rfl)) (pss_cons (ps_asg (pe_own C_law_bent (hr.mono (by omega)) (by rfl) pass0 (pa_cons (pv 1) (pa_cons (pe_ifExp (pt_cmpR (k_eq (K := K) hu) (pe_own C_law_draw (hr.mono (by omega)) (by rfl) pass0 (pa_cons (pv 1) (pa_cons pe_int pa_nil))) pe_int (nomark _)) (pv 4) (pe_own C_law_bent (hr.mono (by omega)) (by rfl) pass0 (pa_cons (pv 1) (pa_cons (pv 4) pa_nil)))) pa_nil))) (pg_name (i := 6) nd rfl (by first | exact .inl rfl | exact .inr rfl)))
    (pss_cons (ps_asg (pe_own C_law_read (hr.mono (by omega)) (by rfl) pass0 (pa_cons (pv 6) pa_nil)) (pg_name (i := 7) nd rfl (by first | exact .inl rfl | exact .inr rfl)))
    (pss_one (ps_if (PW.pt (pw_or (pt_cmpR o_gt (pe_callB (kc_len (K := K) (P := P) (w := w)) (by rfl) T.b_len PySem.boot_len (pa_cons (pv 7) pa_nil)) pe_int (nomark _)) (pw_or1 (PW.pt (pw_and (pt_cmpR (k_ne (K := K) hu) (pv 7) (pe_lst pa_nil) (nomark _)) (pw_and1 (PW.pt (pw_or (pt_cmpR (k_ne (K := K) hu) (pe_own C_plan_text (hr.mono (by omega)) (by rfl) pass0 (pa_cons (pe_ix (k_ix (K := K)) (pv 7) pe_int (fun _ _ => rfl)) pa_nil)) (pv 6) (nomark _)) (pw_or1 (pt_not (pt_val (pe_own C_is_plan (hr.mono (by omega)) (by rfl) pass0 (pa_cons (pe_ix (k_ix (K := K)) (pv 7) pe_int (fun _ _ => rfl)) pa_nil))))))))))))) (pss_one (ps_ret pe_bl)) pss_nil))))))))))
    (pss_one (ps_ret pe_bl)))), ?_⟩
  obtain ⟨a, ns, rfl, hS, hn, q⟩ := h
  have z : Zp H [] H := ⟨fun _ _ h => h, fun i p o e => by simp at e, List.nodup_nil⟩
  repeat (walk_at "z")
  refine ⟨a, H, ns, rfl, z, hS, fun p G1 H1 o1 z1 s1 hp1 => ?_⟩
  repeat (walk_at "z")
  refine z_lenH (.inl (z1.seqL (upL s1 hS))) ?_
  rw [List.length_map]
  repeat (walk_at "z")
  refine z_min2 ?_
  generalize hn8 : (if (ns.length : Int) < 4 then (ns.length : Int) else 4) = n8
  have n80 : 0 ≤ n8 ∧ n8 ≤ 4 := by rw [← hn8]; split <;> omega
  repeat (walk_at "z")
  refine z_itR (by omega) (by omega) ?_
  refine for_src src_R (fun i σ G' M' => ∃ o' k2 k3 k4 k5 k6 k7, M' = [(p, o')] ∧ Pen K G' (2000 * i) o' ∧ σ = [some (.ref a), some (.ref p), k2, k3, k4, k5, k6, k7])
    z1 ⟨o1, _, _, _, _, _, _, rfl, hp1, rfl⟩ (fun _ _ _ _ _ _ _ => trivial) ?_ ?_
  · rintro i x σ G0 M0 H0 hx ⟨o0, k2, k3, k4, k5, k6, k7, rfl, hp0, rfl⟩ z0
    obtain ⟨hi, rfl⟩ := rng_at hx
    have hb : 2000 * i ≤ 100000 := by omega
    generalize hbb : 2000 * i = b at hp0 hb
    generalize hlap : V.int (0 + (i : Int)) = lap
    repeat (walk_at "z")
    refine ⟨p, o0, G0, [], b, 3, rfl, z0, hp0, by omega, by decide, fun lw G2 H2 o2 ss z2 s2 hp2 e2 l2 w2 => ?_⟩
    repeat (walk_at "z")
    refine z_newL z2 (by simp) fun na G3 H3 z3 s3 e3 => ?_
    refine z_addL z3 (s3 _ _ e2) e3 (by rw [List.length_map, l2]; decide) fun nb G4 H4 z4 s4 e4 => ?_
    have e4 : G4 nb = some (.lst ((ss ++ tany).map V.str)) := by rw [e4, List.map_append]; rfl
    repeat (walk_at "z")
    refine z_ownP z4 (by simp) fun ra H5 z5 => ?_
    have hc4 : cst 4 = 1364 := rfl
    repeat (walk_at "z")
    refine ⟨p, o2, G4, [], b + 10, nb, ss ++ tany, ra, 7, 4, false, rfl, z5, hp2.up (s3.trans s4), by omega, SqL.of e4, by simp, by rw [List.length_append, l2]; decide, fun s hs => ?_, by decide, by decide, by decide, fun v pl G6 H6 o6 rm' z6 s6 hp6 dv dr m0 m1 => ?_⟩
    · rcases List.mem_append.mp hs with hs | hs
      · exact w2 s hs
      · rcases List.mem_cons.mp hs with rfl | hs
        · exact ⟨by decide, by decide, (hd_lt .th).1⟩
        · rw [List.mem_singleton.mp hs]
          exact ⟨by decide, by decide, (hd_lt .an).1⟩
    have hp6 : Pen K G6 (b + 1374) o6 := hp6.mono (by omega)
    have z6 : Zp G6 [(p, o6)] H6 := z6.less (.cons_cons _ (List.nil_sublist _))
    have k := dr.ok
    have hdp := dr.dp
    have hsz := dr.sz
    have kn : Nms pl := Ok.nms _ _ k
    have h341 : szB 4 = 341 := rfl
    have hln := txt_len pl kn
    clear z5 z4 z3 z2 z0 hp0 hp2 e2 e4
    repeat (walk_at "z")
    refine ⟨G6, _, v, pl, rfl, z6, dv, kn, by omega, by omega, fun G7 H7 z7 s7 => ?_⟩
    have hp7 := hp6.up s7
    have dv7 := dv.up s7
    clear z6 hp6
    repeat (walk_at "z")
    refine ⟨G7, _, txt pl, .ok pl, rfl, z7, by omega, reads_txt k, (fun e h => by cases h), (fun p' hp' l v1 G8 H8 z8 s8 e8 d8 => ?_), (fun e h => by cases h)⟩
    obtain rfl : pl = p' := (by injection hp')
    have shw : Shw (.list [pl.d]) 16000000 := (shw_lst (n := 16 * pl.sz) fun d hd => by rw [List.mem_singleton.mp hd]; exact shw_pl kn).mono (by simp only [List.length_cons, List.length_nil]; omega)
    have dep : (PyData.list [pl.d]).depth ≤ 60 := by
      have := pd_dep pl
      have h2 : PyData.depthAll [pl.d] ≤ 10 := dep_all fun d hd => by rw [List.mem_singleton.mp hd]; omega
      show PyData.depthAll [pl.d] + 1 ≤ 60
      omega
    repeat (walk_at "z")
    refine z_reprH (Dt.up z8.sub (.lst (SqL.of e8) (.cons d8 .nil))) shw dep ?_
    repeat (walk_at "z")
    refine z_newL z8 (by simp) fun l9 G9 H9 z9 s9 e9 => ?_
    repeat (walk_at "z")
    refine z_reprH (Dt.up z9.sub (.lst (SqL.of e9) (.cons (dv7.up (s8.trans s9)) .nil))) shw dep ?_
    refine z_neS rfl ?_
    rw [decide_eq_true rfl]
    have hp9 := hp7.up (s8.trans s9)
    clear z8 z7 hp7 dv7 e9 e8 d8
    repeat (walk_at "z")
    refine z_itR (by decide) (by decide) ?_
    have wb0 : Wb 5 (cs (txt pl)) := (wb_tx kn).mono hdp
    have hl0 : (txt pl).length ≤ 4092 := by omega
    refine for_src src_R (fun j σ G' M' => ∃ o' k5 k6 k7, M' = [(p, o')] ∧ Pen K G' (b + 1374 + 30 * j) o' ∧ σ = [some (.ref a), some (.ref p), some lap, some v, some (.str (txt pl)), k5, k6, k7])
      z9 ⟨o6, _, _, _, rfl, hp9, rfl⟩ (fun _ _ _ _ _ _ _ => trivial) ?_ ?_
    · rintro j x σ G10 M10 H10 hx ⟨o10, k5', k6', k7', rfl, hp10, rfl⟩ z10
      obtain ⟨hj, rfl⟩ := rng_at hx
      generalize V.int (0 + (j : Int)) = once
      have hj12 : j < 12 := hj
      repeat (walk_at "y")
      with_reducible refine z_cut (fun σ H => ∃ G1 o1 u, Zp G1 [(p, o1)] H ∧ Pen K G1 (b + 1374 + 30 * j + 21) o1 ∧ u.length ≤ 200000 ∧ Wb 49 (cs u) ∧ σ = [some (.ref a), some (.ref p), some lap, some v, some (.str (txt pl)), some once, some (.str u), k7']) (fun nx hnx => ?_) (fun σ H11 h11 => ?_)
      · repeat (walk_at "z")
        refine ⟨p, o10, G10, [], _, _, rfl, z10, hp10, by omega, by decide, by decide, fun r G11 H11 o11 z11 s11 hp11 r0 r2 => ?_⟩
        repeat (walk_at "z")
        refine z_eqS rfl ?_
        repeat (walk_at "z")
        refine z_bd (fun c => ?_) (fun c => ?_)
        · repeat (walk_at "z")
          refine ⟨p, o11, G11, [], _, _, rfl, z11, hp11, by omega, by omega, fun u G12 H12 o12 hu z12 s12 hp12 => ?_⟩
          repeat (walk_at "z")
          exact hnx _ _ ⟨G12, o12, u, z12, hp12.mono (by omega), by have := hu.l; omega, (hu.w 5 wb0).mono (by decide), rfl⟩
        · repeat (walk_at "z")
          refine ⟨p, o11, G11, [], _, _, rfl, z11, hp11, by omega, by omega, fun u G12 H12 o12 hu z12 s12 hp12 => ?_⟩
          repeat (walk_at "z")
          have h1 := hu.l
          refine ⟨p, o12, G12, [], _, _, rfl, z12, hp12, by omega, by omega, fun u2 G13 H13 o13 hu2 z13 s13 hp13 => ?_⟩
          repeat (walk_at "z")
          have h2 := hu2.l
          exact hnx _ _ ⟨G13, o13, u2, z13, hp13.mono (by omega), by omega, (hu2.w _ (hu.w 5 wb0)).mono (by decide), rfl⟩
      obtain ⟨G11, o11, u, z11, hp11, hul, huw, rfl⟩ := h11
      obtain ⟨R, hR, hF⟩ := reads_all u
      have hp11 := hp11.mono (c := b + 1374 + 30 * (j + 1)) (by omega)
      repeat (walk_at "z")
      refine ⟨G11, _, u, R, rfl, z11, by omega, hR, (fun e he => by subst he; exact hF), (fun p' hp' l v1 G12 H12 z12 s12 e12 d12 => ?_), (fun e he l G12 H12 z12 s12 e12 => ?_)⟩
      · subst hp'
        obtain ⟨ht, ok⟩ := hF
        have kn' : Nms p' := Ok.nms _ _ ok
        have ecs : tx p' = cs u := by unfold tx; rw [ht]
        have hd : p'.dp ≤ 49 := dp_wb kn' (by rw [ecs]; exact huw)
        have hs : p'.sz ≤ 200000 := by
          have := sz_tx p' kn'
          rw [ecs, cs_len] at this
          omega
        repeat (walk_at "z")
        refine z_lenL z12 (SqL.of e12) ?_
        repeat (walk_at "z")
        refine z_bF' (decide_eq_false (show ¬ (1 : Int) < (1 : Int) from by decide)) ?_
        repeat (walk_at "z")
        refine z_newL z12 (by simp) fun l13 G13 H13 z13 s13 e13 => ?_
        refine z_neNil (z13.seqL (SqL.of (s13 _ _ e12))) (z13.sub _ _ e13) ?_
        rw [decide_eq_true (show ([v1] : List V) ≠ [] from fun h => by cases h)]
        repeat (walk_at "z")
        refine z_ixL z13 (SqL.of (s13 _ _ e12)) at_zero ?_
        repeat (walk_at "z")
        refine ⟨G13, _, v1, p', rfl, z13, d12.up s13, kn', by omega, by omega, fun G14 H14 z14 s14 => ?_⟩
        rw [ht]
        repeat (walk_at "z")
        refine z_neS rfl ?_
        rw [decide_eq_true rfl]
        repeat (walk_at "z")
        refine z_ixL z14 (SqL.of (s14 _ _ (s13 _ _ e12))) at_zero ?_
        repeat (walk_at "z")
        refine ⟨G14, _, v1, p'.d, rfl, z14, d12.up (s13.trans s14), pl_sht _ kn', by have := pd_dep p'; omega, fun G15 H15 z15 s15 => ?_⟩
        rw [wp_ok _ _ ok]
        repeat (walk_at "z")
        exact ⟨G15, _, z15, o11, _, _, _, rfl, hp11.up (s12.trans (s13.trans (s14.trans s15))), rfl⟩
      · repeat (walk_at "z")
        refine z_lenL z12 (SqL.of e12) ?_
        repeat (walk_at "z")
        refine z_bF' (decide_eq_false (by decide)) ?_
        repeat (walk_at "z")
        refine z_newL z12 (by simp) fun l13 G13 H13 z13 s13 e13 => ?_
        refine z_neNil (z13.seqL (SqL.of (s13 _ _ e12))) (z13.sub _ _ e13) ?_
        rw [decide_eq_false (show ¬ ([] : List V) ≠ [] from fun h => h rfl)]
        repeat (walk_at "z")
        exact ⟨G13, _, z13, o11, _, _, _, rfl, hp11.up (s12.trans s13), rfl⟩
    · rintro σ G10 M10 H10 ⟨o10, k5', k6', k7', rfl, hp10, rfl⟩ z10
      have hp10 : Pen K G10 (b + 1374 + 30 * 12) o10 := hp10
      repeat (walk_at "z")
      exact ⟨G10, _, z10, o10, _, _, _, _, _, _, rfl, hp10.mono (by omega), rfl⟩
  · rintro σ G3 M3 H3 ⟨o3, k2, k3, k4, k5, k6, k7, rfl, hp3, rfl⟩ z3
    repeat (walk_at "z")
    exact q _
end
end LW
namespace LW
open PySem PySem.Spec PyProof.Rows L2 Ys

section
variable {K : PySem.W.Frag} {f : Addr} {fd : FuncData}
theorem kbindsN {x qual : Str} {params : Arguments} {body : List Stmt} {scope : Scope} {ps : List Str} (F : FunD K x qual params body scope [] [] f fd) (n : Nat) (ks : List Str)
    (h : ∀ (kV doc pm : Value) (an : Option Addr) (cdv ct : Value) (us ws : List Value), us.length = n → ws.length = ks.length → bindArgs (PySem.W.fnOf x qual params body scope .none kV doc pm an cdv ct) ⟨us, ks.zip ws⟩ = pure (ps.zip (us ++ ws))) : KBn K fd ps n ks (fun us ws => us ++ ws) fun vs zs => vs ++ zs := by
  obtain ⟨oc, od, dV, kV, doc, pm, an, cdv, ct, osl, rfl, lk, hcd, hD, hK⟩ := F.ex
  rcases hD with ⟨_, rfl⟩ | ⟨e, _⟩
  · exact ⟨fun s us ws _ l1 l2 => .of_eq (h kV doc pm an cdv ct us ws l1 l2), fun r1 r2 => r1.append r2⟩
  · exact absurd rfl e
theorem kb_is_plan (F : FnP K "is_plan" s_is_plan f fd) : KBn K fd ["value"] 0 ["value"] (fun us ws => us ++ ws) fun vs zs => vs ++ zs :=
  kbindsN F 0 ["value"] fun _ _ _ _ _ _ us ws l1 l2 => match us, ws, l1, l2 with | [], [_], _, _ => rfl
theorem kb_plan_text (F : FnP K "plan_text" s_plan_text f fd) : KBn K fd ["plan"] 0 ["plan"] (fun us ws => us ++ ws) fun vs zs => vs ++ zs :=
  kbindsN F 0 ["plan"] fun _ _ _ _ _ _ us ws l1 l2 => match us, ws, l1, l2 with | [], [_], _, _ => rfl
theorem kb_read_plan (F : FnP K "read_plan" s_read_plan f fd) : KBn K fd ["text"] 0 ["text"] (fun us ws => us ++ ws) fun vs zs => vs ++ zs :=
  kbindsN F 0 ["text"] fun _ _ _ _ _ _ us ws l1 l2 => match us, ws, l1, l2 with | [], [_], _, _ => rfl
abbrev FRI (K : PySem.W.Frag) (f : Addr) (fd : FuncData) : Prop := FunD K "__init__" "PlanReader.__init__" (defArgs s_PlanReader_init) (defBody s_PlanReader_init) (defScope s_PlanReader_init) [] [] f fd
theorem kb_rinit (F : FRI K f fd) : KBn K fd ["self", "text"] 2 [] (fun us ws => us ++ ws) fun vs zs => vs ++ zs :=
  kbindsN F 2 [] fun _ _ _ _ _ _ us ws l1 l2 => match us, ws, l1, l2 with | [_, _], [], _, _ => rfl
end
end LW
namespace LW
open PySem PySem.Spec PyProof.Rows L2 Ys
/-! ### recursion, by its depth -/
section
variable {P : Program} {w : World} {K : PySem.W.Frag} {mg : Str → Option Value} {base : Heap} {f : Addr} {fd : FuncData}
theorem fn_none {CX : CXT} {k : Nat} {ps : List Str} {sp : Sp} (v : ∀ vs H Q E, ¬ sp vs H Q E) : FnOk P w K mg base CX k f fd ps sp :=
  ⟨fun vs H Q E h => absurd h (v vs H Q E), fun _ _ _ H _ _ vs Q E _ _ _ _ h => absurd h (v vs H Q E)⟩
theorem rec_at {x : Str} {k : Nat} {ps : List Str} {sp : Nat → Sp} (v : ∀ vs H Q E, ¬ sp 0 vs H Q E) (step : ∀ n, Own P w K mg base CX0 (n + k) x ps (sp n) → FnOk P w K mg base CX0 (n + k + 1) f fd ps (sp (n + 1))) (hm : mg x = some (.ref f)) (hk : PySem.W.keepIn K (.ref f) = true) (hb : Binds K fd ps []) : ∀ n, Own P w K mg base CX0 (n + k) x ps (sp n)
  | 0 => ⟨⟨f, fd, fn_none v, hm, hk, hb⟩⟩
  | n + 1 => ⟨⟨f, fd, by
      have := step n (rec_at v step hm hk hb n)
      rwa [Nat.add_right_comm] at this, hm, hk, hb⟩⟩
theorem no_wrong : ∀ vs H Q E, ¬ spWrong K 0 vs H Q E := fun _ _ _ _ ⟨_, _, _, _, _, _, _, _, _, h, _⟩ => absurd h (Nat.not_lt_zero _)
theorem no_names : ∀ vs H Q E, ¬ spNames K 0 vs H Q E := fun _ _ _ _ ⟨_, _, _, _, _, _, _, h, _⟩ => absurd h (Nat.not_lt_zero _)
theorem no_text : ∀ vs H Q E, ¬ spText K 0 vs H Q E := fun _ _ _ _ ⟨_, _, _, _, _, _, _, _, h, _⟩ => absurd h (Nat.not_lt_zero _)
theorem no_wc : ∀ vs H Q E, ¬ spWC K 0 vs H Q E := fun _ _ _ _ ⟨_, _, _, _, _, _, _, _, _, h, _⟩ => absurd h (Nat.not_lt_zero _)
theorem no_sp : ∀ vs H Q E, ¬ spSP K 0 vs H Q E := fun _ _ _ _ ⟨_, _, _, _, _, _, _, _, _, _, h, _⟩ => absurd h (Nat.not_lt_zero _)
theorem no_plan : ∀ vs H Q E, ¬ spPlan K 0 vs H Q E := fun _ _ _ _ ⟨_, _, _, _, _, _, _, _, _, _, _, _, _, _, _, _, _, _, _, _, _, h, _⟩ => absurd h (Nat.not_lt_zero _)
theorem no_nf : ∀ vs H Q E, ¬ spNF K 0 vs H Q E := fun _ _ _ _ ⟨_, _, _, _, _, _, _, _, _, h, _⟩ => absurd h (Nat.not_lt_zero _)
end
end LW
namespace LW
open PySem PySem.Spec PyProof.Rows L2 Ys

theorem okSup0 {w : World} {K : PySem.W.Frag} {mg : Str → Option Value} {base : Heap} {C fI : Addr} {fd : FuncData} (S : SupF PR K C fI "index" "InvalidText.__init__" (defArgs s_x0) (defBody s_x0) (defScope s_x0) fd) (T : OexC K C) : FnOk PR w K mg base CX0 1 fI fd ["self", "index"] (spSup K C "index") :=
  ok_sup (x := "index") S ⟨by decide +kernel, by rfl, by rfl, by rfl, by rfl, rfl, rfl, rfl, ⟨_, rfl, rfl⟩, by decide, by decide⟩ T (fun env h => by cases env; subst h; exact ⟨_, rfl⟩) (fun env h => by cases env; subst h; rfl) (fun env h => by cases env; subst h; rfl) (fun env h => by cases env; subst h; rfl) (by decide +kernel)
theorem facts {w : World} {K : PySem.W.Frag} {h : Heap} {mg : Str → Option Value} {f : Addr} (X : K.In h) (G : h.Ns mainGlobals mg) (hfa : mg ("law" : Str) = some (.ref f)) (ct0 : SaysCT fb fn fc ts w K) :
    ∃ fd : FuncData, (∀ (s : Shared) (v : Value), BindsTo s fd ⟨[v], []⟩ [("_law_script", v)]) ∧ ∀ base : Heap, K.In base → base.Ns mainGlobals mg → FnG PR w K mg base CX0 70 f fd ["_law_script"] (spLaw K) := by
  have cc0 := ct0.c
  have c := cc0.both.1
  obtain ⟨fd_is_word, F_is_word⟩ : ∃ fd, FnP K "is_word" s_is_word (gA "is_word" K) fd := c.def_ 0
  obtain ⟨fd_is_formed, F_is_formed⟩ : ∃ fd, FnP K "is_formed" s_is_formed (gA "is_formed" K) fd := c.def_ 1
  obtain ⟨fd_wrong_part, F_wrong_part⟩ : ∃ fd, FnP K "wrong_part" s_wrong_part (gA "wrong_part" K) fd := c.def_ 2
  obtain ⟨fd_is_plan, F_is_plan⟩ : ∃ fd, FnP K "is_plan" s_is_plan (gA "is_plan" K) fd := c.def_ 3
  obtain ⟨fd_plan_text, F_plan_text⟩ : ∃ fd, FnP K "plan_text" s_plan_text (gA "plan_text" K) fd := c.def_ 4
  obtain ⟨fd_read_plan, F_read_plan⟩ : ∃ fd, FnP K "read_plan" s_read_plan (gA "read_plan" K) fd := c.def_ 5
  obtain ⟨fd_law_pen, F_law_pen⟩ : ∃ fd, FnP K "_law_pen" s_law_pen (gA "_law_pen" K) fd := c.def_ 6
  obtain ⟨fd_law_draw, F_law_draw⟩ : ∃ fd, FnP K "_law_draw" s_law_draw (gA "_law_draw" K) fd := c.def_ 7
  obtain ⟨fd_law_pick, F_law_pick⟩ : ∃ fd, FnP K "_law_pick" s_law_pick (gA "_law_pick" K) fd := c.def_ 8
  obtain ⟨fd_law_words, F_law_words⟩ : ∃ fd, FnP K "_law_words" s_law_words (gA "_law_words" K) fd := c.def_ 9
  obtain ⟨fd_law_plan, F_law_plan⟩ : ∃ fd, FnP K "_law_plan" s_law_plan (gA "_law_plan" K) fd := c.def_ 10
  obtain ⟨fd_law_text, F_law_text⟩ : ∃ fd, FnP K "_law_text" s_law_text (gA "_law_text" K) fd := c.def_ 11
  obtain ⟨fd_law_read, F_law_read⟩ : ∃ fd, FnP K "_law_read" s_law_read (gA "_law_read" K) fd := c.def_ 12
  obtain ⟨fd_law_bent, F_law_bent⟩ : ∃ fd, FnP K "_law_bent" s_law_bent (gA "_law_bent" K) fd := c.def_ 13
  obtain ⟨fd_law, F_law⟩ : ∃ fd, FnP K "law" s_law (gA "law" K) fd := c.def_ 14
  obtain ⟨fd_M_sign, F_M_sign⟩ : ∃ fd, FunD K "sign" "PlanReader.sign" (defArgs s_PlanReader_sign) (defBody s_PlanReader_sign) (defScope s_PlanReader_sign) [] [] (cA "PlanReader" "sign" K) fd := c.def_ 15
  obtain ⟨fd_M_mark, F_M_mark⟩ : ∃ fd, FunD K "mark" "PlanReader.mark" (defArgs s_PlanReader_mark) (defBody s_PlanReader_mark) (defScope s_PlanReader_mark) [] [] (cA "PlanReader" "mark" K) fd := c.def_ 16
  obtain ⟨fd_M_word, F_M_word⟩ : ∃ fd, FunD K "word" "PlanReader.word" (defArgs s_PlanReader_word) (defBody s_PlanReader_word) (defScope s_PlanReader_word) [] [] (cA "PlanReader" "word" K) fd := c.def_ 17
  obtain ⟨fd_M_begin, F_M_begin⟩ : ∃ fd, FunD K "begin" "PlanReader.begin" (defArgs s_PlanReader_begin) (defBody s_PlanReader_begin) (defScope s_PlanReader_begin) [] [] (cA "PlanReader" "begin" K) fd := c.def_ 18
  obtain ⟨fd_M_close, F_M_close⟩ : ∃ fd, FunD K "close" "PlanReader.close" (defArgs s_PlanReader_close) (defBody s_PlanReader_close) (defScope s_PlanReader_close) [] [] (cA "PlanReader" "close" K) fd := c.def_ 19
  obtain ⟨fd_M_go_on, F_M_go_on⟩ : ∃ fd, FunD K "go_on" "PlanReader.go_on" (defArgs s_PlanReader_go_on) (defBody s_PlanReader_go_on) (defScope s_PlanReader_go_on) [] [] (cA "PlanReader" "go_on" K) fd := c.def_ 20
  obtain ⟨fd_M_whole, F_M_whole⟩ : ∃ fd, FunD K "whole" "PlanReader.whole" (defArgs s_PlanReader_whole) (defBody s_PlanReader_whole) (defScope s_PlanReader_whole) [] [] (cA "PlanReader" "whole" K) fd := c.def_ 21
  obtain ⟨fd_init, F_init⟩ : ∃ fd, FRI K (cA "PlanReader" "__init__" K) fd := c.def_ 22
  have T : Nm K mg := ⟨sysB_ok (c.at_ 0), He.free_ok X G (c.at_ 20), He.free_ok X G (c.at_ 21), He.free_ok X G (c.at_ 22), He.free_ok X G (c.at_ 23), He.free_ok X G (c.at_ 24), He.free_ok X G (c.at_ 25), He.free_ok X G (c.at_ 26), He.free_ok X G (c.at_ 27), He.free_ok X G (c.at_ 28), He.free_ok X G (c.at_ 29), He.free_ok X G (c.at_ 30), He.free_ok X G (c.at_ 31), He.free_ok X G (c.at_ 32), He.free_ok X G (c.at_ 33), He.free_ok X G (c.at_ 34), He.free_ok X G (c.at_ 35), He.free_ok X G (c.at_ 36), let ⟨t, e⟩ := He.str_ok X G (c.at_ 38); ⟨_, e, t, rfl⟩, let ⟨t, e⟩ := He.int_ok X G (c.at_ 39); ⟨_, e, t, rfl⟩, ⟨_, He.glo_ok X G (c.at_ 18), rfl⟩, ⟨_, He.glo_ok X G (c.at_ 19), rfl⟩⟩
  have e := hfa.symm.trans (He.glo_ok X G (c.at_ 15))
  cases e
  have TB : PTab K w := ⟨tabD_of (ct0.tab 0) (c.at_ 40), tabD_of (ct0.tab 1) (c.at_ 41)⟩
  have RR : RC K (gA "PlanReader" K) := ⟨He.cls_ok (c.at_ 42), He.noat_ok (c.at_ 43), He.noat_ok (c.at_ 44), He.noat_ok (c.at_ 45)⟩
  have b := FunD.bindsA (ps := ["_law_script"]) F_law fun _ _ _ _ _ _ us hl => match us, hl with | [_], _ => rfl
  refine ⟨fd_law, fun s v => b s [v] rfl, fun base _ _ => ?_⟩
  have L : LawC PR w K mg base := by
    have S_InvalidText : ExcS PR w K mg base (gA "InvalidText" K) "InvalidText" "index" := by
      obtain ⟨fd_x, S_x, ⟨kV, doc, pm, an, cdv, ct, cc, e_x⟩, iC, tI⟩ := supA_ok (P := PR) (x := "InvalidText") (fld := "index") (d := dSup0) rfl rfl (cc0.sup 0) (c.at_ 56)
      have O_x := oexA_ok (c.at_ 55)
      exact ⟨O_x, ⟨_, fd_x, "index", iC, tI, okSup0 S_x O_x, by
        rw [e_x]
        exact .all fun us hl => match us, hl with | [_, _], _ => rfl⟩, He.glo_ok X G (c.at_ 17)⟩
    have M_sign : Mth PR w K mg base CX0 1 (gA "PlanReader" K) "sign" ["self"] [] (spSign K (gA "PlanReader" K)) := ⟨⟨_, _, [], He.meth_ok (c.at_ 46), ok_sign T RR F_M_sign, F_M_sign.bindsN fun _ _ _ _ _ _ us hl => match us, hl with | [_], _ => rfl, .nil⟩, RR.cl⟩
    have M_mark : Mth PR w K mg base (L2.CX PR w) 3 (gA "PlanReader" K) "mark" ["self", "sign"] [] (spMark K (gA "PlanReader" K) (gA "InvalidText" K)) := ⟨⟨_, _, [], He.meth_ok (c.at_ 47), ok_mark T RR S_InvalidText M_sign F_M_mark, F_M_mark.bindsN fun _ _ _ _ _ _ us hl => match us, hl with | [_, _], _ => rfl, .nil⟩, RR.cl⟩
    have M_word : Mth PR w K mg base (L2.CX PR w) 3 (gA "PlanReader" K) "word" ["self"] [] (spWordR K (gA "PlanReader" K) (gA "InvalidText" K)) := ⟨⟨_, _, [], He.meth_ok (c.at_ 48), ok_wordR T RR S_InvalidText M_sign F_M_word, F_M_word.bindsN fun _ _ _ _ _ _ us hl => match us, hl with | [_], _ => rfl, .nil⟩, RR.cl⟩
    have M_begin : Mth PR w K mg base (L2.CX PR w) 4 (gA "PlanReader" K) "begin" ["self"] [] (spBegin K (gA "PlanReader" K) (gA "InvalidText" K)) := ⟨⟨_, _, [], He.meth_ok (c.at_ 49), ok_begin T TB RR M_sign M_mark M_word F_M_begin, F_M_begin.bindsN fun _ _ _ _ _ _ us hl => match us, hl with | [_], _ => rfl, .nil⟩, RR.cl⟩
    have M_close : Mth PR w K mg base (L2.CX PR w) 4 (gA "PlanReader" K) "close" ["self"] [] (spClose K (gA "PlanReader" K) (gA "InvalidText" K)) := ⟨⟨_, _, [], He.meth_ok (c.at_ 50), ok_close T RR M_mark F_M_close, F_M_close.bindsN fun _ _ _ _ _ _ us hl => match us, hl with | [_], _ => rfl, .nil⟩, RR.cl⟩
    have M_go_on : Mth PR w K mg base (L2.CX PR w) 5 (gA "PlanReader" K) "go_on" ["self", "found"] [] (spGoOn K (gA "PlanReader" K) (gA "InvalidText" K)) := ⟨⟨_, _, [], He.meth_ok (c.at_ 51), ok_go_on T TB RR M_sign M_mark M_close M_begin F_M_go_on, F_M_go_on.bindsN fun _ _ _ _ _ _ us hl => match us, hl with | [_, _], _ => rfl, .nil⟩, RR.cl⟩
    have M_whole : Mth PR w K mg base (L2.CX PR w) 6 (gA "PlanReader" K) "whole" ["self"] [] (spWhole K (gA "PlanReader" K) (gA "InvalidText" K)) := ⟨⟨_, _, [], He.meth_ok (c.at_ 52), ok_whole T RR S_InvalidText M_sign M_begin M_go_on F_M_whole, F_M_whole.bindsN fun _ _ _ _ _ _ us hl => match us, hl with | [_], _ => rfl, .nil⟩, RR.cl⟩
    have B_PlanReader : MkS PR w K mg base (L2.CX PR w) 3 (gA "PlanReader" K) "PlanReader" 1 [] (fun vs zs => vs ++ zs) (spRInit K (gA "PlanReader" K) (gA "InvalidText" K)) := ⟨⟨_, _, _, _, He.mkr_ok (c.at_ 53), ok_rinit T RR S_InvalidText F_init, He.glo_ok X G (c.at_ 16), kb_rinit F_init⟩⟩
    have C_read_plan : Own PR w K mg base (L2.CX PR w) 7 "read_plan" ["text"] (spRead K (gA "InvalidText" K)) := ⟨⟨_, _, ok_read_plan T B_PlanReader M_whole F_read_plan, He.glo_ok X G (c.at_ 6), F_read_plan.kp, F_read_plan.bindsN fun _ _ _ _ _ _ us hl => match us, hl with | [_], _ => rfl⟩⟩
    have C_law_pen : Own PR w K mg base CX0 1 "_law_pen" ["_law_script"] (spPen K) := ⟨⟨_, _, ok_pen T F_law_pen, He.glo_ok X G (c.at_ 7), F_law_pen.kp, F_law_pen.bindsN fun _ _ _ _ _ _ us hl => match us, hl with | [_], _ => rfl⟩⟩
    have C_law_draw : Own PR w K mg base CX0 1 "_law_draw" ["_law_pen_here", "_law_number"] (spDraw K) := ⟨⟨_, _, ok_draw T F_law_draw, He.glo_ok X G (c.at_ 8), F_law_draw.kp, F_law_draw.bindsN fun _ _ _ _ _ _ us hl => match us, hl with | [_, _], _ => rfl⟩⟩
    have C_law_pick : Own PR w K mg base CX0 2 "_law_pick" ["_law_pen_here", "_law_items"] (spPick K) := ⟨⟨_, _, ok_pick T C_law_draw F_law_pick, He.glo_ok X G (c.at_ 9), F_law_pick.kp, F_law_pick.bindsN fun _ _ _ _ _ _ us hl => match us, hl with | [_, _], _ => rfl⟩⟩
    have C_law_words : Own PR w K mg base CX0 3 "_law_words" ["_law_pen_here", "_law_number"] (spWords K) := ⟨⟨_, _, ok_words T C_law_draw C_law_pick F_law_words, He.glo_ok X G (c.at_ 10), F_law_words.kp, F_law_words.bindsN fun _ _ _ _ _ _ us hl => match us, hl with | [_, _], _ => rfl⟩⟩
    have C_law_plan : ∀ n, Own PR w K mg base CX0 (n + 3) "_law_plan" ["_law_pen_here", "_law_names", "_law_room", "_law_deep", "_law_is_inner"] (spPlan K n) := rec_at no_plan (fun n C => ok_plan T C_law_draw C_law_pick C F_law_plan) (He.glo_ok X G (c.at_ 11)) F_law_plan.kp (F_law_plan.bindsN fun _ _ _ _ _ _ us hl => match us, hl with | [_, _, _, _, _], _ => rfl)
    have C_law_text : ∀ n, Own PR w K mg base CX0 (n + 1) "_law_text" ["_law_plan_here"] (spText K n) := rec_at no_text (fun n C => ok_law_text T C F_law_text) (He.glo_ok X G (c.at_ 12)) F_law_text.kp (F_law_text.bindsN fun _ _ _ _ _ _ us hl => match us, hl with | [_], _ => rfl)
    have A_x := excA_ok (c.at_ 54)
    have hVE := He.free_ok X G (c.at_ 37)
    have C_is_word : Own PR w K mg base CX0 1 "is_word" ["value"] (spWord K) := ⟨⟨_, _, ok_is_word T F_is_word, He.glo_ok X G (c.at_ 1), F_is_word.kp, F_is_word.bindsN fun _ _ _ _ _ _ us hl => match us, hl with | [_], _ => rfl⟩⟩
    have C_is_formed : Own PR w K mg base CX0 1 "is_formed" ["value"] (spFormed K) := ⟨⟨_, _, ok_is_formed T TB F_is_formed, He.glo_ok X G (c.at_ 2), F_is_formed.kp, F_is_formed.bindsN fun _ _ _ _ _ _ us hl => match us, hl with | [_], _ => rfl⟩⟩
    have C_wrong_part : ∀ n, Own PR w K mg base CX0 (n + 1) "wrong_part" ["value", "is_beside"] (spWrong K n) := rec_at no_wrong (fun n C => ok_wrong T C_is_word C_is_formed C F_wrong_part) (He.glo_ok X G (c.at_ 3)) F_wrong_part.kp (F_wrong_part.bindsN fun _ _ _ _ _ _ us hl => match us, hl with | [_, _], _ => rfl)
    have C_plan_text : ∀ n, Own PR w K mg base CX0 (n + 1) "plan_text" ["plan"] (spText K n) := rec_at no_text (fun n C => ok_plan_text T C F_plan_text) (He.glo_ok X G (c.at_ 5)) F_plan_text.kp (F_plan_text.bindsN fun _ _ _ _ _ _ us hl => match us, hl with | [_], _ => rfl)
    have C_is_plan : Own PR w K mg base CX0 62 "is_plan" ["value"] (spIsPlan K 60) := ⟨⟨_, _, ok_is_plan T (C_wrong_part 60) F_is_plan, He.glo_ok X G (c.at_ 4), F_is_plan.kp, F_is_plan.bindsN fun _ _ _ _ _ _ us hl => match us, hl with | [_], _ => rfl⟩⟩
    have C_law_read : Own PR w K mg base CX0 8 "_law_read" ["_law_line"] (spLRead K) := ⟨⟨_, _, ok_lread T S_InvalidText A_x.xf A_x.no A_x.ex C_read_plan F_law_read, He.glo_ok X G (c.at_ 13), F_law_read.kp, F_law_read.bindsN fun _ _ _ _ _ _ us hl => match us, hl with | [_], _ => rfl⟩⟩
    have C_law_bent : Own PR w K mg base CX0 3 "_law_bent" ["_law_pen_here", "_law_line"] (spBent K) := ⟨⟨_, _, ok_bent T C_law_draw C_law_pick F_law_pick (He.glo_ok X G (c.at_ 9)) (of_decide_eq_true (c.at_ 57)) F_law_bent, He.glo_ok X G (c.at_ 14), F_law_bent.kp, F_law_bent.bindsN fun _ _ _ _ _ _ us hl => match us, hl with | [_, _], _ => rfl⟩⟩
    exact ⟨C_law_pen, C_law_draw, C_law_words, C_law_plan 8, C_law_text 8, C_law_read, C_law_bent, C_plan_text 60, C_is_plan⟩
  exact ok_law T L F_law
end LW
open PySem PySem.W PySem.Calls PyProof.Rows
theorem PySem.Challenge.cw_fewhands_k24_whole_texts_of_plans_bent_holds : PySem.Challenge.rw_fewhands_k24_whole_texts_of_plans_bent.Holds := by
  w_on; o_law
  refine HandSHeadRun.head_any (r := OpenLaw.row PySem.Challenge.rw_fewhands_k24_whole_texts_of_plans_bent) (q := view (OpenLaw.row PySem.Challenge.rw_fewhands_k24_whole_texts_of_plans_bent).prog [24]) (H := LW.hk) (ob := Ys.obCT 6 LW.fb LW.fn LW.fc LW.ts) (M := 8000) (loose := LW.loose) (d := HandSHeadRun.topDef (OpenLaw.row PySem.Challenge.rw_fewhands_k24_whole_texts_of_plans_bent).prog 24) (kwd := []) Ys.obCT_eq
    (by kernel_rfl) (fun s => by kernel_rfl) LW.run (by kernel_rfl) (by kernel_rfl) (by kernel_rfl) (by rfl) (by first | assumption | decide +kernel) (by decide +kernel) ⟨rfl, rfl, rfl, rfl, rfl, by decide +kernel⟩ ?hw ?hc
  case hw => w_witness2
  case hc =>
    refine Ys.walk_ofG (l := PySem.Challenge.rw_fewhands_k24_whole_texts_of_plans_bent) (n := 63) (k := 70) (x := "_law_script") (CX := fun _ => L2.CX0) rfl (by decide) (by kernel_rfl) ⟨rfl, by decide, by decide⟩ ?F (fun _ _ _ _ _ z => z)
    intro w mg fa h Y G hmg0
    obtain ⟨K, KX, c⟩ := Y
    have hmg : mg ("law" : PySem.Str) = some (.ref fa) := by
      have e : (HandSHeadRun.topDef (OpenLaw.row PySem.Challenge.rw_fewhands_k24_whole_texts_of_plans_bent).prog 24).name = ("law" : PySem.Str) := by kernel_rfl
      rw [← e]
      exact hmg0
    obtain ⟨fd, hb, hF⟩ := LW.facts (w := w) KX G hmg c
    exact ⟨K, fd, LW.spLaw K, KX, hb, fun H a ns hl _ hS => ⟨a, ns, rfl, hS, hl, fun _ => rfl⟩, hF⟩
