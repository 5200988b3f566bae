import PyProof.Rows.All
import Wide.All
import OpenK.AllK
import Wide.FinOn
import HandS.ForMost
import HandS.ForExc
import HandS.HeadHook1
import HandS.HeadHook2
import HandS.HeadHook4
import HandS.Lambda
import KE.KSuper
import KE.KTryMore
import HandS.ExcField
import HandS.NestedK
import PySem.Challenge.RW_surelater_k39_promises
import KE.KStateDown
import HandS.Head0
import HandS.Head1
import HandS.Head2
import HandS.HeadEnd
import HandS.IsInst
import HandS.Strs
import HandS.Wide
import HandS.TupAny
import HandS.Text
import HandS.Property
import HandS.Zip
import HandS.More
import HandS.DictComp
import HandS.Star
import HandS.Walk
import KE.KIndexOf
import KE.KCallOwn
import HandS.Style
import PyProof.InstNe
import HandS.OwnEq
import HandS.ListItems
import PyProof.NeKinds
import HandS.EndTab
import HandS.ExcInit
import HandS.TryOnly
import HandS.HeadWalk
set_option Elab.async false
set_option linter.all false
set_option maxRecDepth 100000
set_option maxHeartbeats 2000000
/-! Layer D, part A0: the data; what the head's facts are. -/
namespace LD
open PySem PySem.Spec PyProof.Rows L2
inductive DV where
  | non | bl (b : Bool) | int (i : Int) | str (x : Str)
  | tup (xs : List DV) | lst (xs : List DV)
  /-- a list that may only be read: the script -/
  | ro (xs : List DV)
  | dic (kvs : List (Key × DV)) | dit (kvs : List (List Key × DV))
  | obj (c : Str) (fs : List (Str × DV))
  deriving Inhabited
inductive Tg where
  | ty (n : String)
  | own (c : Str)
  deriving DecidableEq
def Tg.v (K : PySem.W.Frag) : Tg → Value
  | .ty n => .type n
  | .own c => .ref (He.ga K c)
def Tg.w (K : PySem.W.Frag) : Tg → V
  | .ty n => .ty n
  | .own c => .ref (He.ga K c)
def isiB (K : PySem.W.Frag) (tab : List (Tg × Bool)) (cs : List Tg) : Bool := tab.all fun p => decide (p.1 ≠ .ty "dict of tuples") && decide (PySem.W.kitAny K (p.1.v K) (cs.map (Tg.v K)) = some p.2)
def exmB (K : PySem.W.Frag) (tab : List (Str × Bool)) (x : Str) : Bool := tab.all fun p => decide (PySem.W.exmOne K (.ref (He.ga K p.1)) (.ref (He.ga K x)) = some p.2)
def eqB (K : PySem.W.Frag) (cs : List Str) (f : Addr) : Bool := cs.all fun c => decide (PySem.W.findIn K (.ref (He.ga K c)) "__eq__" = some (some (.ref f))) && cs.all fun c' => PySem.W.notFirst K (He.ga K c) (.ref (He.ga K c'))
def neB (K : PySem.W.Frag) (cs : List Str) (f : Addr) : Bool := eqB K cs f && (cs.all fun c => decide (PySem.W.findIn K (.ref (He.ga K c)) "__ne__" = some (some (.builtin "object.__ne__"))) && decide (PySem.W.subIn K (.ref (He.ga K c)) (.type "object") = some true))
inductive Wh where
  | glo (x : Str)
  | meth (c m : Str)
  /-- a property's getter -/
  | prop (c f : Str)
def pgA (K : PySem.W.Frag) (p : Addr) : Addr := match PySem.W.recIn K p "property" with
  | some (.ref g :: _) => g
  | _ => 0
def Wh.adr (K : PySem.W.Frag) : Wh → Addr
  | .glo x => He.ga K x
  | .meth c m => He.ma K (He.ga K c) m
  | .prop c f => pgA K (He.ma K (He.ga K c) f)
abbrev FnW : Type := Option (Str × Str × Arguments × FuncBody × Scope × Addr × List Str × Addr)
def fnW (K : PySem.W.Frag) (a : Addr) : FnW := match K.lookup a with
  | some ⟨_, _, .func fd, _⟩ => some (fd.name, fd.qualname, fd.params, fd.body, fd.scope, fd.globals, fd.closure.map (·.1), fd.builtins)
  | _ => none
/-- one def; sup: its own class and the next one's name, where it says super() -/
structure DefE where
  at_ : Wh
  name : Str
  qual : Str
  params : Arguments
  body : List Stmt
  scope : Scope
  dfl : List He.Dv := []
  kwd : List (Str × He.Dv) := []
  sup : Option (Str × Str) := none
def DefE.val (d : DefE) : FnW := some (d.name, d.qual, d.params, .stmts d.body, d.scope, mainGlobals, (match d.sup with
  | some _ => ["__class__"]
  | none => []), builtinsNs)
def DefE.dvs (K : PySem.W.Frag) (d : DefE) : List V := d.dfl.map (He.Dv.v K)
def DefE.kws (K : PySem.W.Frag) (d : DefE) : List (Str × V) := d.kwd.map fun q => (q.1, q.2.v K)
def DefE.ok (K : PySem.W.Frag) (d : DefE) : Bool := PySem.W.keepIn K (.ref (d.at_.adr K)) && (match K.lookup (d.at_.adr K) with
  | some ⟨_, _, .func fd, _⟩ => PySem.W.codeIn K fd.code d.qual && (He.dflB K fd.defaults (d.dvs K) && He.kwdB K fd.kwdefaults (d.kws K))
  | _ => false)
def supB (P : Program) (K : PySem.W.Frag) (d : DefE) : Bool := match d.sup with
  | none => true
  | some (cn, bn) => d.dfl.isEmpty && ((match K.lookup (d.at_.adr K) with
    | some ⟨_, _, .func fd, _⟩ => (match fd.closure, fd.code with
      | [(_, cc)], .ref cda => (match K.lookup cda with
        | some ⟨_, _, .fields vs, _⟩ => (match (vs[2]? : Option Value) with
          | some (Value.str file _) => ((P.main.file : Str) == file)
          | _ => false)
        | _ => false) && (match K.lookup cc with
        | some ⟨_, _, .cell (some (.ref D)), _⟩ => decide (D = He.ga K cn)
        | _ => false)
      | _, _ => false)
    | _ => false) && ((PySem.W.clsIn K (He.ga K cn)).isSome && (decide (PySem.W.mroIn K (He.ga K cn) (.ref (He.ga K cn)) = some true) && (He.eqO (PySem.W.ks_superIn K (He.ga K cn) (He.ga K cn) "__init__") (some (some (.ref (He.ma K (He.ga K bn) "__init__")))) &&
      (decide (PySem.W.typeIn K (.ref (He.ma K (He.ga K bn) "__init__")) = some (.type "function")) && (PySem.W.fnIn K (He.ma K (He.ga K bn) "__init__") && He.eqO (PySem.W.nsIn K cStatics "thirdparty.any") (some none)))))))
abbrev Fk := PySem.W.Frag → Bool
def kcB (c : Str) : Fk := fun K => (He.Fa.cls c).ok K && (He.eqO (PySem.W.findIn K (.ref (He.ga K c)) "__class__") (some (some (.builtin "object.__class__"))) && (He.eqO (PySem.W.specialIn K (.builtin "object.__class__") "__get__") (some (some (.builtin "getset_descriptor.__get__"))) &&
  (decide (PySem.W.takesIn K (.builtin "object.__class__") = some true) && decide (PySem.W.mroIn K (He.ga K c) (.type "object") = some true))))
/-- the class's constant f is the value v -/
def conB (c f : Str) (v : V) : Fk := fun K => match PySem.W.findIn K (.ref (He.ga K c)) f with
  | some (some u) => He.relB v u && (He.eqO (PySem.W.specialIn K u "__get__") (some none) && !(PySem.W.copiedNames.contains f))
  | _ => false
def propB (c f : Str) : Fk := fun K => He.eqO (PySem.W.findIn K (.ref (He.ga K c)) f) (some (some (.ref (He.ma K (He.ga K c) f)))) && (He.eqO (PySem.W.specialIn K (.ref (He.ma K (He.ga K c) f)) "__get__") (some (some (.builtin "property.__get__"))) &&
  (decide (PySem.W.takesIn K (.ref (He.ma K (He.ga K c) f)) = some true) && (match PySem.W.recIn K (He.ma K (He.ga K c) f) "property" with
    | some (.ref _ :: _) => true
    | _ => false)))
/-- the class c finds its method m at the same place as the class b -/
def methAtB (c m b : Str) : Fk := fun K => decide (He.ma K (He.ga K c) m = He.ma K (He.ga K b) m)
abbrev AlL : Type := Bool × List FnW
def obsL (P : Program) (fa : List Fk) (fn : List DefE) (K : PySem.W.Frag) : AlL := ((fa.all fun f => f K) && fn.all fun d => d.ok K && supB P K d, fn.map fun d => fnW K (d.at_.adr K))
def valL (fn : List DefE) : AlL := (true, fn.map DefE.val)
def glB (x : Str) : Fk := fun K => (He.Fa.glo x).ok K
def frB (x : Str) : Fk := fun K => (He.Fa.free x).ok K
def itB (x : Str) (i : Int) : Fk := fun K => (He.Fa.int x i).ok K
def stB (x z : Str) : Fk := fun K => (He.Fa.str x z).ok K
def fldB (cs : List Str) (f : Str) : Fk := fun K => cs.all fun c => kcB c K && (He.Fa.noat c f).ok K
def DV.fl : DV → Option V
  | .non => some .non
  | .bl b => some (.bl b)
  | .int i => some (.int i)
  | .str x => some (.str x)
  | _ => none
def cnB (tab : List (Str × DV)) (f : Str) : Fk := fun K => tab.all fun p => kcB p.1 K && (match p.2.fl with
  | some v => conB p.1 f v K
  | none => false)
def isB (tab : List (Tg × Bool)) (cs : List Tg) : Fk := fun K => isiB K tab cs && tab.all fun p => match p.1 with
  | .own c => kcB c K
  | _ => true
def exB (tab : List (Str × Bool)) (x : Str) : Fk := fun K => exmB K tab x
def ecB (x : Str) : Fk := fun K => (He.Fa.exc x).ok K
def mkB (x : Str) : Fk := fun K => (He.Fa.mkr x).ok K
def mtB (c m : Str) : Fk := fun K => kcB c K && (He.Fa.meth c m).ok K
def ppB (c f : Str) : Fk := fun K => kcB c K && propB c f K
/-- == of instances of the classes cs is the def at b.__eq__ -/
def ewB (cs : List Str) (b : Str) : Fk := fun K => eqB K cs (He.ma K (He.ga K b) "__eq__") && PySem.W.isFn K (.ref (He.ma K (He.ga K b) "__eq__"))
/-- c.m is b.m -/
def saB (c m b : Str) : Fk := methAtB c m b
def kpB (x : Str) : Fk := fun K => PySem.W.keepIn K (.ref (He.ga K x))
def ppsB (cs : List Str) (f bn : Str) : Fk := fun K => cs.all fun c => kcB c K && (propB c f K && decide ((Wh.prop c f).adr K = (Wh.prop bn f).adr K))
def nwB (cs : List Str) (b : Str) : Fk := fun K => neB K cs (He.ma K (He.ga K b) "__eq__") && PySem.W.isFn K (.ref (He.ma K (He.ga K b) "__eq__"))
/-- the class c finds its method m, a plain def -/
def ownB (c m : Str) : Fk := fun K => kcB c K && (He.Fa.meth c m).ok K && PySem.W.fnIn K (He.ma K (He.ga K c) m)
/-- the class x: over ValueError, with an own __init__ -/
def oexB (x f : Str) : Fk := fun K => (match K.lookup (He.ga K x) with
  | some ⟨.type t, _, .cls cd, sl⟩ => t == "type" && (match cd.mro, sl.toList with
    | .ref C' :: bm, [_, _, _, _, some (.builtin n), _] => decide (C' = He.ga K x) && (decide (n = "ValueError.__new__") && (!cd.hasDel && (cd.hasDict && PySem.HandSPX.refsVE bm)))
    | _, _ => false)
  | _ => false) && (He.eqO (PySem.W.findIn K (.ref (He.ga K x)) "__setattr__") (some (some (.builtin "object.__setattr__"))) && (decide (PySem.W.subIn K (.ref (He.ga K x)) (.type "BaseException") = some true) &&
    (decide (PySem.W.typeIn K (.ref (He.ga K x)) = some (.type "type")) && (PySem.W.keepIn K (.ref (He.ga K x)) && (He.eqO (PySem.W.findIn K (.ref (He.ga K x)) f) (some none) &&
      (He.eqO (PySem.W.findIn K (.ref (He.ga K x)) "__init__") (some (some (.ref (He.ma K (He.ga K x) "__init__")))) && decide (PySem.W.typeIn K (.ref (He.ma K (He.ga K x) "__init__")) = some (.type "function"))))))))
/-- cs: the classes taken, by name -/
def exm3B (K : PySem.W.Frag) (cs : List Str) (es : List Str) : Bool := cs.all fun c => decide (PySem.W.exmAny K (.ref (He.ga K c)) (es.map fun e => .ref (He.ga K e)) = some true)
def xfF (c f : Str) : Fk := fun K => xfB K (He.ga K c) && He.eqO (PySem.W.findIn K (.ref (He.ga K c)) f) (some none)
/-- a def that makes lambdas: where it stands, its qualified name -/
abbrev MkE : Type := He.Defn × Str
def tdB (tf : List MkE) : Fk := fun K => decide ((tf.map fun p => (He.cT K p.1).2).Nodup)
abbrev AlL4 : Type := AlL × Bool
def obs4G (P : Program) (n : Nat) (fa : List Fk) (fn : List DefE) (tf : List MkE) (g : Addr → Option Obj) : AlL4 :=
  (obsL P fa fn (He.frT g (cStatics :: He.asD g n)), tdB tf (He.frT g (cStatics :: He.asD g n)) && He.tabsB g (tf.map (·.1)) (He.frT g (cStatics :: He.asD g n)))
end LD

set_option maxHeartbeats 0
/-! Printed by wip/gen/gen.py: the defs as they stand, the facts for the head. -/
namespace G39
open PySem PySem.Spec PyProof.Rows L2 LD
abbrev PP : Program := PySem.Challenge.pw_surelater_k39_promises
def top (i : Nat) : Stmt := PP.main.body.getD i (.Pass ⟨0, 0, 0, 0⟩)
def sub (s : Stmt) (j : Nat) : Stmt := match s with
  | .ClassDef (body := b) .. => b.getD j (.Pass ⟨0, 0, 0, 0⟩)
  | _ => .Pass ⟨0, 0, 0, 0⟩
abbrev s_is_name : Stmt := top 19
def d_is_name : DefE := { at_ := .glo "is_name", name := "is_name", qual := "is_name", params := defArgs s_is_name, body := defBody s_is_name, scope := defScope s_is_name }
abbrev s_is_whole : Stmt := top 18
def d_is_whole : DefE := { at_ := .glo "is_whole", name := "is_whole", qual := "is_whole", params := defArgs s_is_whole, body := defBody s_is_whole, scope := defScope s_is_whole }
abbrev s_is_integer : Stmt := top 17
def d_is_integer : DefE := { at_ := .glo "is_integer", name := "is_integer", qual := "is_integer", params := defArgs s_is_integer, body := defBody s_is_integer, scope := defScope s_is_integer }
abbrev s_Event_init : Stmt := sub (top 20) 0
def d_Event_init : DefE := { at_ := .meth "Event" "__init__", name := "__init__", qual := "Event.__init__", params := defArgs s_Event_init, body := defBody s_Event_init, scope := defScope s_Event_init }
abbrev s_Fact_init : Stmt := sub (top 21) 1
def d_Fact_init : DefE := { at_ := .meth "Fact" "__init__", name := "__init__", qual := "Fact.__init__", params := defArgs s_Fact_init, body := defBody s_Fact_init, scope := defScope s_Fact_init }
abbrev s_After_init : Stmt := sub (top 22) 1
def d_After_init : DefE := { at_ := .meth "After" "__init__", name := "__init__", qual := "After.__init__", params := defArgs s_After_init, body := defBody s_After_init, scope := defScope s_After_init, sup := some ("After", "Fact") }
abbrev s_Close_init : Stmt := sub (top 24) 1
def d_Close_init : DefE := { at_ := .meth "Close" "__init__", name := "__init__", qual := "Close.__init__", params := defArgs s_Close_init, body := defBody s_Close_init, scope := defScope s_Close_init, sup := some ("Close", "Fact") }
abbrev s_InvalidLog_init : Stmt := sub (top 5) 0
def d_InvalidLog_init : DefE := { at_ := .meth "InvalidLog" "__init__", name := "__init__", qual := "InvalidLog.__init__", params := defArgs s_InvalidLog_init, body := defBody s_InvalidLog_init, scope := defScope s_InvalidLog_init }
abbrev s_are_names : Stmt := top 25
def d_are_names : DefE := { at_ := .glo "are_names", name := "are_names", qual := "are_names", params := defArgs s_are_names, body := defBody s_are_names, scope := defScope s_are_names }
abbrev s_is_event_of : Stmt := top 26
def d_is_event_of : DefE := { at_ := .glo "is_event_of", name := "is_event_of", qual := "is_event_of", params := defArgs s_is_event_of, body := defBody s_is_event_of, scope := defScope s_is_event_of }
abbrev s_is_fact_of : Stmt := top 27
def d_is_fact_of : DefE := { at_ := .glo "is_fact_of", name := "is_fact_of", qual := "is_fact_of", params := defArgs s_is_fact_of, body := defBody s_is_fact_of, scope := defScope s_is_fact_of }
abbrev s_Log_init : Stmt := sub (top 28) 0
def d_Log_init : DefE := { at_ := .meth "Log" "__init__", name := "__init__", qual := "Log.__init__", params := defArgs s_Log_init, body := defBody s_Log_init, scope := defScope s_Log_init }
abbrev s__law_logs : Stmt := top 69
def d__law_logs : DefE := { at_ := .glo "_law_logs", name := "_law_logs", qual := "_law_logs", params := defArgs s__law_logs, body := defBody s__law_logs, scope := defScope s__law_logs }
abbrev s_Event_eq : Stmt := sub (top 20) 3
def d_Event_eq : DefE := { at_ := .meth "Event" "__eq__", name := "__eq__", qual := "Event.__eq__", params := defArgs s_Event_eq, body := defBody s_Event_eq, scope := defScope s_Event_eq }
abbrev s_Fact_eq : Stmt := sub (top 21) 4
def d_Fact_eq : DefE := { at_ := .meth "Fact" "__eq__", name := "__eq__", qual := "Fact.__eq__", params := defArgs s_Fact_eq, body := defBody s_Fact_eq, scope := defScope s_Fact_eq }
abbrev s_Log_eq : Stmt := sub (top 28) 4
def d_Log_eq : DefE := { at_ := .meth "Log" "__eq__", name := "__eq__", qual := "Log.__eq__", params := defArgs s_Log_eq, body := defBody s_Log_eq, scope := defScope s_Log_eq }
abbrev s_check_log : Stmt := top 30
def d_check_log : DefE := { at_ := .glo "check_log", name := "check_log", qual := "check_log", params := defArgs s_check_log, body := defBody s_check_log, scope := defScope s_check_log }
abbrev s_check_set : Stmt := top 32
def d_check_set : DefE := { at_ := .glo "check_set", name := "check_set", qual := "check_set", params := defArgs s_check_set, body := defBody s_check_set, scope := defScope s_check_set }
abbrev s_check_prices : Stmt := top 59
def d_check_prices : DefE := { at_ := .glo "check_prices", name := "check_prices", qual := "check_prices", params := defArgs s_check_prices, body := defBody s_check_prices, scope := defScope s_check_prices }
abbrev s_cost_of : Stmt := top 60
def d_cost_of : DefE := { at_ := .glo "cost_of", name := "cost_of", qual := "cost_of", params := defArgs s_cost_of, body := defBody s_cost_of, scope := defScope s_cost_of }
abbrev s_price_of : Stmt := top 61
def d_price_of : DefE := { at_ := .glo "price_of", name := "price_of", qual := "price_of", params := defArgs s_price_of, body := defBody s_price_of, scope := defScope s_price_of }
abbrev s__law_is_wrong : Stmt := top 70
def d__law_is_wrong : DefE := { at_ := .glo "_law_is_wrong", name := "_law_is_wrong", qual := "_law_is_wrong", params := defArgs s__law_is_wrong, body := defBody s__law_is_wrong, scope := defScope s__law_is_wrong }
abbrev s_check_pair : Stmt := top 33
def d_check_pair : DefE := { at_ := .glo "check_pair", name := "check_pair", qual := "check_pair", params := defArgs s_check_pair, body := defBody s_check_pair, scope := defScope s_check_pair }
abbrev s_choose : Stmt := top 64
def d_choose : DefE := { at_ := .glo "choose", name := "choose", qual := "choose", params := defArgs s_choose, body := defBody s_choose, scope := defScope s_choose }
abbrev s_Log_machines : Stmt := sub (top 28) 1
def d_Log_machines : DefE := { at_ := .prop "Log" "machines", name := "machines", qual := "Log.machines", params := defArgs s_Log_machines, body := defBody s_Log_machines, scope := defScope s_Log_machines }
abbrev s_Log_events : Stmt := sub (top 28) 2
def d_Log_events : DefE := { at_ := .prop "Log" "events", name := "events", qual := "Log.events", params := defArgs s_Log_events, body := defBody s_Log_events, scope := defScope s_Log_events }
abbrev s_Log_facts : Stmt := sub (top 28) 3
def d_Log_facts : DefE := { at_ := .prop "Log" "facts", name := "facts", qual := "Log.facts", params := defArgs s_Log_facts, body := defBody s_Log_facts, scope := defScope s_Log_facts }
abbrev s_Event_machine : Stmt := sub (top 20) 1
def d_Event_machine : DefE := { at_ := .prop "Event" "machine", name := "machine", qual := "Event.machine", params := defArgs s_Event_machine, body := defBody s_Event_machine, scope := defScope s_Event_machine }
abbrev s_Log_getitem : Stmt := sub (top 28) 6
def d_Log_getitem : DefE := { at_ := .meth "Log" "__getitem__", name := "__getitem__", qual := "Log.__getitem__", params := defArgs s_Log_getitem, body := defBody s_Log_getitem, scope := defScope s_Log_getitem }
abbrev s__law_is_refused : Stmt := top 66
def d__law_is_refused : DefE := { at_ := .glo "_law_is_refused", name := "_law_is_refused", qual := "_law_is_refused", params := defArgs s__law_is_refused, body := defBody s__law_is_refused, scope := defScope s__law_is_refused }
abbrev s__law_wrong : Stmt := top 68
def d__law_wrong : DefE := { at_ := .glo "_law_wrong", name := "_law_wrong", qual := "_law_wrong", params := defArgs s__law_wrong, body := defBody s__law_wrong, scope := defScope s__law_wrong }
abbrev s__law_names_right : Stmt := top 67
def d__law_names_right : DefE := { at_ := .glo "_law_names_right", name := "_law_names_right", qual := "_law_names_right", params := defArgs s__law_names_right, body := defBody s__law_names_right, scope := defScope s__law_names_right }
abbrev s_law : Stmt := top 71
def d_law : DefE := { at_ := .glo "law", name := "law", qual := "law", params := defArgs s_law, body := defBody s_law, scope := defScope s_law }
def T0 : List (Tg × Bool) := [(.ty "NoneType", false), (.ty "bool", false), (.ty "int", false), (.ty "str", true), (.ty "tuple", false), (.ty "list", false), (.ty "dict", false), (.own "Event", false), (.own "After", false), (.own "Close", false), (.own "Log", false), (.own "Choice", false)]
def T1 : List (Tg × Bool) := [(.ty "NoneType", false), (.ty "bool", true), (.ty "int", true), (.ty "str", false), (.ty "tuple", false), (.ty "list", false), (.ty "dict", false), (.own "Event", false), (.own "After", false), (.own "Close", false), (.own "Log", false), (.own "Choice", false)]
def T2 : List (Tg × Bool) := [(.ty "NoneType", false), (.ty "bool", true), (.ty "int", false), (.ty "str", false), (.ty "tuple", false), (.ty "list", false), (.ty "dict", false), (.own "Event", false), (.own "After", false), (.own "Close", false), (.own "Log", false), (.own "Choice", false)]
def T3 : List (Tg × Bool) := [(.ty "NoneType", false), (.ty "bool", false), (.ty "int", false), (.ty "str", false), (.ty "tuple", true), (.ty "list", false), (.ty "dict", false), (.own "Event", false), (.own "After", false), (.own "Close", false), (.own "Log", false), (.own "Choice", false)]
def T4 : List (Tg × Bool) := [(.ty "NoneType", false), (.ty "bool", false), (.ty "int", false), (.ty "str", false), (.ty "tuple", false), (.ty "list", false), (.ty "dict", false), (.own "Event", true), (.own "After", false), (.own "Close", false), (.own "Log", false), (.own "Choice", false)]
def T5 : List (Tg × Bool) := [(.ty "NoneType", false), (.ty "bool", false), (.ty "int", false), (.ty "str", false), (.ty "tuple", false), (.ty "list", false), (.ty "dict", false), (.own "Event", false), (.own "After", false), (.own "Close", true), (.own "Log", false), (.own "Choice", false)]
def T6 : List (Tg × Bool) := [(.ty "NoneType", false), (.ty "bool", false), (.ty "int", false), (.ty "str", false), (.ty "tuple", false), (.ty "list", false), (.ty "dict", false), (.own "Event", false), (.own "After", true), (.own "Close", false), (.own "Log", false), (.own "Choice", false)]
def T7 : List (Tg × Bool) := [(.ty "NoneType", false), (.ty "bool", false), (.ty "int", false), (.ty "str", false), (.ty "tuple", false), (.ty "list", false), (.ty "dict", true), (.own "Event", false), (.own "After", false), (.own "Close", false), (.own "Log", false), (.own "Choice", false)]
def T8 : List (Tg × Bool) := [(.ty "NoneType", false), (.ty "bool", false), (.ty "int", false), (.ty "str", false), (.ty "tuple", false), (.ty "list", false), (.ty "dict", false), (.own "Event", false), (.own "After", true), (.own "Close", true), (.own "Log", false), (.own "Choice", false)]
def T9 : List (Tg × Bool) := [(.ty "NoneType", false), (.ty "bool", false), (.ty "int", false), (.ty "str", false), (.ty "tuple", false), (.ty "list", false), (.ty "dict", false), (.own "Event", false), (.own "After", false), (.own "Close", false), (.own "Log", true), (.own "Choice", false)]
def fa : List Fk := [
  frB "str",
  isB T0 [(.ty "str")],
  frB "isinstance",
  frB "len",
  itB "MAX_NAME" 8,
  stB "LETTERS" "abcdefghijklmnopqrstuvwxyz",
  frB "all",
  frB "int",
  isB T1 [(.ty "int")],
  frB "bool",
  isB T2 [(.ty "bool")],
  glB "is_whole",
  kpB "is_whole",
  glB "is_name",
  kpB "is_name",
  itB "MAX_TIME" 999,
  glB "is_integer",
  kpB "is_integer",
  glB "InvalidEvent",
  ecB "InvalidEvent",
  fldB ["Event"] "host",
  fldB ["Event"] "clock",
  glB "InvalidFact",
  ecB "InvalidFact",
  fldB ["After", "Close"] "pair",
  fldB ["After", "Close"] "bounds",
  frB "super",
  frB "tuple",
  isB T3 [(.ty "tuple")],
  frB "set",
  glB "Event",
  isB T4 [(.own "Event")],
  glB "Close",
  isB T5 [(.own "Close")],
  glB "After",
  glB "Within",
  isB T6 [(.own "After"), (.own "Within")],
  glB "are_names",
  kpB "are_names",
  itB "MAX_MACHINES" 4,
  glB "InvalidLog",
  oexB "InvalidLog" "part",
  frB "dict",
  isB T7 [(.ty "dict")],
  itB "MAX_EVENTS" 6,
  glB "is_event_of",
  kpB "is_event_of",
  itB "MAX_FACTS" 6,
  glB "is_fact_of",
  kpB "is_fact_of",
  fldB ["Log"] "hosts",
  fldB ["Log"] "places",
  fldB ["Log"] "known",
  mkB "Close",
  mkB "After",
  mkB "Event",
  glB "Log",
  mkB "Log",
  glB "Fact",
  isB T8 [(.own "Fact")],
  cnB [("After", .str "after"), ("Close", .str "close")] "WORD",
  isB T9 [(.own "Log")],
  frB "list",
  ewB ["Event"] "Event",
  ewB ["After", "Close"] "Fact",
  glB "InvalidSet",
  ecB "InvalidSet",
  glB "InvalidPrices",
  ecB "InvalidPrices",
  itB "MAX_PRICE" 99,
  frB "sum",
  glB "check_log",
  kpB "check_log",
  glB "check_set",
  kpB "check_set",
  glB "check_prices",
  kpB "check_prices",
  glB "cost_of",
  kpB "cost_of",
  glB "InvalidPair",
  ecB "InvalidPair",
  glB "check_pair",
  kpB "check_pair",
  glB "InvalidName",
  ecB "InvalidName",
  ppsB ["Log"] "machines" "Log",
  ppsB ["Log"] "events" "Log",
  ppsB ["Log"] "facts" "Log",
  ownB "Log" "__getitem__",
  ppsB ["Event"] "machine" "Event",
  glB "_law_wrong",
  kpB "_law_wrong",
  glB "_law_is_refused",
  fun K => exm3B K ["InvalidEvent", "InvalidFact", "InvalidLog"] ["InvalidEvent", "InvalidFact", "InvalidLog"],
  frB "abs",
  glB "_law_logs",
  kpB "_law_logs",
  frB "enumerate",
  ewB ["Log"] "Log",
  frB "range",
  glB "price_of",
  kpB "price_of",
  glB "_law_is_wrong",
  exB [("TimeError", false), ("InvalidEvent", false), ("InvalidFact", false), ("InvalidLog", false), ("InvalidName", false), ("InvalidSet", false), ("InvalidPair", false), ("InvalidPrices", true)] "InvalidPrices",
  glB "choose",
  kpB "choose",
  glB "_law_names_right",
  kpB "_law_names_right",
  glB "law"]
def fn : List DefE := [d_is_name, d_is_whole, d_is_integer, d_Event_init, d_Fact_init, d_After_init, d_Close_init, d_InvalidLog_init, d_are_names, d_is_event_of, d_is_fact_of, d_Log_init, d__law_logs, d_Event_eq, d_Fact_eq, d_Log_eq, d_check_log, d_check_set, d_check_prices, d_cost_of, d_price_of, d__law_is_wrong, d_check_pair, d_choose, d_Log_machines, d_Log_events, d_Log_facts, d_Event_machine, d_Log_getitem, d__law_is_refused, d__law_wrong, d__law_names_right, d_law]
def tf : List MkE := [(("law", none), "law"), (("_law_names_right", none), "_law_names_right")]
abbrev lawIx : Nat := 71
abbrev lawDef : Nat := 32
abbrev lawFact : Nat := 108
abbrev loose : List Str := []
end G39

set_option maxHeartbeats 0
namespace G39
open PySem PySem.W PySem.Calls PyProof.Rows LD HandSHeadRun
def looseN : List PySem.Str := [("_wall" : PySem.Str), ("TimeError" : PySem.Str), ("InvalidEvent" : PySem.Str), ("InvalidFact" : PySem.Str), ("InvalidLog" : PySem.Str), ("InvalidName" : PySem.Str), ("InvalidSet" : PySem.Str), ("InvalidPair" : PySem.Str), ("InvalidPrices" : PySem.Str), ("LETTERS" : PySem.Str), ("MAX_NAME" : PySem.Str), ("MAX_TIME" : PySem.Str), ("MAX_MACHINES" : PySem.Str), ("MAX_EVENTS" : PySem.Str), ("MAX_FACTS" : PySem.Str), ("is_integer" : PySem.Str), ("is_whole" : PySem.Str), ("is_name" : PySem.Str), ("Event" : PySem.Str), ("Fact" : PySem.Str), ("After" : PySem.Str), ("Within" : PySem.Str), ("Close" : PySem.Str), ("are_names" : PySem.Str), ("is_event_of" : PySem.Str), ("is_fact_of" : PySem.Str), ("Log" : PySem.Str), ("longer" : PySem.Str), ("check_log" : PySem.Str), ("check_fact" : PySem.Str), ("check_set" : PySem.Str), ("check_pair" : PySem.Str), ("are_offsets" : PySem.Str), ("check_offsets" : PySem.Str), ("times_of" : PySem.Str), ("rows_of" : PySem.Str), ("are_fitting" : PySem.Str), ("extended" : PySem.Str), ("all_walks" : PySem.Str), ("ring_of" : PySem.Str), ("host_of" : PySem.Str), ("local_difference" : PySem.Str), ("chain_of" : PySem.Str), ("tight_offsets" : PySem.Str), ("is_before" : PySem.Str), ("are_linked" : PySem.Str), ("is_ring" : PySem.Str), ("Evidence" : PySem.Str), ("refutation_of" : PySem.Str), ("refutes" : PySem.Str), ("MAX_PRICE" : PySem.Str), ("Choice" : PySem.Str), ("copied" : PySem.Str), ("check_prices" : PySem.Str), ("cost_of" : PySem.Str), ("price_of" : PySem.Str), ("cheaper_sets" : PySem.Str), ("is_doubted" : PySem.Str), ("choose" : PySem.Str), ("_law_is_refused" : PySem.Str), ("_law_names_right" : PySem.Str), ("_law_wrong" : PySem.Str), ("_law_logs" : PySem.Str), ("_law_is_wrong" : PySem.Str)]
abbrev Rw : OpenRow := OpenLaw.row PySem.Challenge.rw_surelater_k39_promises
def ob (s : SharedT) : AlL4 := obs4G PP 5 fa fn tf (getT s)
theorem run0 (w : World) (os : OsState) : (endF (stepQ (denQ tabQ) Rw.prog w) 40000 Rw.prog w os).map (fun s => (looksF Rw.prog (boot_heap w.params) s.abs, seenQ (PySem.W.view Rw.prog [71]) looseN (importedModules Rw.prog.main.body) (fun s => xlAt (PySem.W.view Rw.prog [71]) [] s && recOk Rw.toRowW.records s) s.abs, ob s)) = some (true, openGood (PySem.W.view Rw.prog [71]) looseN, (valL fn, true)) := by kernel_rfl
end G39

set_option maxHeartbeats 2000000
/-! Layer D, part A: Python values as plain data, how they lie in the heap, results, readings by functions. -/
namespace LD
open PySem PySem.Spec PyProof.Rows L2

/-! ### data -/
mutual
/-- v is d, told by the part G of the heap that no one changes any more -/
inductive DRep (K : PySem.W.Frag) (G : Hp) : V → DV → Prop
  | non : DRep K G .non .non
  | bl (b : Bool) : DRep K G (.bl b) (.bl b)
  | int (i : Int) : DRep K G (.int i) (.int i)
  | str (x : Str) : DRep K G (.str x) (.str x)
  | tup {a : Addr} {vs : List V} {ds : List DV} : G a = some (.tup vs) → DReps K G vs ds → DRep K G (.ref a) (.tup ds)
  | lst {a : Addr} {vs : List V} {ds : List DV} : G a = some (.lst vs) → DReps K G vs ds → DRep K G (.ref a) (.lst ds)
  | ro {a : Addr} {vs : List V} {ds : List DV} : SqL K G a vs → DReps K G vs ds → DRep K G (.ref a) (.ro ds)
  | dic {a : Addr} {o : Obj} {vs : List (Key × V)} {ds : List (Key × DV)} : G a = some (.frz o (.dK vs)) → KReps K G vs ds → DRep K G (.ref a) (.dic ds)
  | dit {a : Addr} {o : Obj} {vs : List (List Key × V)} {ds : List (List Key × DV)} : G a = some (.frz o (.dT vs)) → TReps K G vs ds → DRep K G (.ref a) (.dit ds)
  | obj {a dx : Addr} {c : Str} {vs : List (Str × V)} {ds : List (Str × DV)} : G a = some (.ins (He.ga K c) dx vs) → FReps K G vs ds → DRep K G (.ref a) (.obj c ds)
inductive DReps (K : PySem.W.Frag) (G : Hp) : List V → List DV → Prop
  | nil : DReps K G [] []
  | cons {v : V} {d : DV} {vs : List V} {ds : List DV} : DRep K G v d → DReps K G vs ds → DReps K G (v :: vs) (d :: ds)
inductive KReps (K : PySem.W.Frag) (G : Hp) : List (Key × V) → List (Key × DV) → Prop
  | nil : KReps K G [] []
  | cons {k : Key} {v : V} {d : DV} {vs : List (Key × V)} {ds : List (Key × DV)} : DRep K G v d → KReps K G vs ds → KReps K G ((k, v) :: vs) ((k, d) :: ds)
inductive TReps (K : PySem.W.Frag) (G : Hp) : List (List Key × V) → List (List Key × DV) → Prop
  | nil : TReps K G [] []
  | cons {k : List Key} {v : V} {d : DV} {vs : List (List Key × V)} {ds : List (List Key × DV)} : DRep K G v d → TReps K G vs ds → TReps K G ((k, v) :: vs) ((k, d) :: ds)
inductive FReps (K : PySem.W.Frag) (G : Hp) : List (Str × V) → List (Str × DV) → Prop
  | nil : FReps K G [] []
  | cons {k : Str} {v : V} {d : DV} {vs : List (Str × V)} {ds : List (Str × DV)} : DRep K G v d → FReps K G vs ds → FReps K G ((k, v) :: vs) ((k, d) :: ds)
end

theorem _root_.L2.SqT.same {K : PySem.W.Frag} {G G' : Hp} {a : Addr} {xs : List V} (e : Same G G') (h : SqT K G a xs) : SqT K G' a xs := by
  rcases h with (h | ⟨o, h⟩) | h
  · exact .inl (.inl (e _ _ h))
  · exact .inl (.inr ⟨o, e _ _ h⟩)
  · exact .inr h
section
variable {K : PySem.W.Frag} {G G' : Hp}
mutual
theorem DRep.mono (s : Same G G') : ∀ {v : V} {d : DV}, DRep K G v d → DRep K G' v d
  | _, _, .non => .non
  | _, _, .bl b => .bl b
  | _, _, .int i => .int i
  | _, _, .str x => .str x
  | _, _, .tup h r => .tup (s _ _ h) (DReps.mono s r)
  | _, _, .lst h r => .lst (s _ _ h) (DReps.mono s r)
  | _, _, .ro h r => .ro (Same.seq s h) (DReps.mono s r)
  | _, _, .dic h r => .dic (s _ _ h) (KReps.mono s r)
  | _, _, .dit h r => .dit (s _ _ h) (TReps.mono s r)
  | _, _, .obj h r => .obj (s _ _ h) (FReps.mono s r)
theorem DReps.mono (s : Same G G') : ∀ {v : List V} {d : List DV}, DReps K G v d → DReps K G' v d
  | _, _, .nil => .nil
  | _, _, .cons a b => .cons (DRep.mono s a) (DReps.mono s b)
theorem KReps.mono (s : Same G G') : ∀ {v : List (Key × V)} {d : List (Key × DV)}, KReps K G v d → KReps K G' v d
  | _, _, .nil => .nil
  | _, _, .cons a b => .cons (DRep.mono s a) (KReps.mono s b)
theorem TReps.mono (s : Same G G') : ∀ {v : List (List Key × V)} {d : List (List Key × DV)}, TReps K G v d → TReps K G' v d
  | _, _, .nil => .nil
  | _, _, .cons a b => .cons (DRep.mono s a) (TReps.mono s b)
theorem FReps.mono (s : Same G G') : ∀ {v : List (Str × V)} {d : List (Str × DV)}, FReps K G v d → FReps K G' v d
  | _, _, .nil => .nil
  | _, _, .cons a b => .cons (DRep.mono s a) (FReps.mono s b)
end
theorem DReps.length : ∀ {vs : List V} {ds : List DV}, DReps K G vs ds → vs.length = ds.length
  | _, _, .nil => rfl
  | _, _, .cons _ b => by rw [List.length_cons, List.length_cons, b.length]
theorem DReps.get : ∀ {vs : List V} {ds : List DV} {i : Nat} {d : DV}, DReps K G vs ds → ds[i]? = some d → ∃ v, vs[i]? = some v ∧ DRep K G v d
  | _, _, _, _, .nil, e => by simp at e
  | _, _, 0, _, .cons r _, e => by simp at e; subst e; exact ⟨_, rfl, r⟩
  | _, _, i + 1, d, .cons _ t, e => by
    obtain ⟨u, h1, h2⟩ := DReps.get (i := i) (d := d) t (by simpa using e)
    exact ⟨u, by simpa using h1, h2⟩
theorem DReps.get' : ∀ {vs : List V} {ds : List DV} {i : Nat} {v : V}, DReps K G vs ds → vs[i]? = some v → ∃ d, ds[i]? = some d ∧ DRep K G v d
  | _, _, _, _, .nil, e => by simp at e
  | _, _, 0, _, .cons r _, e => by simp at e; subst e; exact ⟨_, rfl, r⟩
  | _, _, i + 1, d, .cons _ t, e => by
    obtain ⟨u, h1, h2⟩ := DReps.get' (i := i) (v := d) t (by simpa using e)
    exact ⟨u, by simpa using h1, h2⟩
theorem DReps.append : ∀ {vs ws : List V} {ds es : List DV}, DReps K G vs ds → DReps K G ws es → DReps K G (vs ++ ws) (ds ++ es)
  | _, _, _, _, .nil, s => s
  | _, _, _, _, .cons r t, s => .cons r (DReps.append t s)
theorem DReps.take : ∀ {vs : List V} {ds : List DV} (n : Nat), DReps K G vs ds → DReps K G (vs.take n) (ds.take n)
  | _, _, 0, _ => .nil
  | _, _, _ + 1, .nil => .nil
  | _, _, n + 1, .cons r t => .cons r (DReps.take n t)
theorem DReps.drop : ∀ {vs : List V} {ds : List DV} (n : Nat), DReps K G vs ds → DReps K G (vs.drop n) (ds.drop n)
  | _, _, 0, r => r
  | _, _, _ + 1, .nil => .nil
  | _, _, n + 1, .cons _ t => DReps.drop n t
theorem DReps.ints : ∀ (ns : List Int), DReps K G (ns.map V.int) (ns.map DV.int)
  | [] => .nil
  | n :: ns => .cons (.int n) (DReps.ints ns)
theorem FReps.length : ∀ {vs : List (Str × V)} {ds : List (Str × DV)}, FReps K G vs ds → vs.length = ds.length
  | _, _, .nil => rfl
  | _, _, .cons _ b => by rw [List.length_cons, List.length_cons, b.length]
theorem FReps.lookup {f : Str} : ∀ {vs : List (Str × V)} {ds : List (Str × DV)} {d : DV}, FReps K G vs ds → ds.lookup f = some d → ∃ v, vs.lookup f = some v ∧ DRep K G v d
  | _, _, _, .nil, e => by simp at e
  | _, _, d, .cons (k := k) r t, e => by
    rw [List.lookup_cons] at e ⊢
    cases h : f == k with
    | true => rw [h] at e; simp at e; subst e; exact ⟨_, rfl, r⟩
    | false => rw [h] at e; exact FReps.lookup t e
theorem FReps.none {f : Str} : ∀ {vs : List (Str × V)} {ds : List (Str × DV)}, FReps K G vs ds → ds.lookup f = none → vs.lookup f = none
  | _, _, .nil, _ => rfl
  | _, _, .cons (k := k) r t, e => by
    rw [List.lookup_cons] at e ⊢
    cases h : f == k with
    | true => rw [h] at e; simp at e
    | false => rw [h] at e; exact FReps.none t e
end

/-! ### what changes: objects are made; the rest stands -/
/-- the tables of code objects that lambdas are kept in, with their names -/
class Tbs where
  T : List (Addr × Str)
abbrev NT (o : HO) : Prop := ∀ ps, o ≠ .tbl ps
/-- all but the tables -/
def strip (H : Hp) : Hp := fun b => match H b with
  | some (.tbl _) => none
  | o => o
theorem strip_no {H : Hp} (b : Addr) (ps : Array Value) : strip H b ≠ some (.tbl ps) := by
  unfold strip
  split
  · simp
  · rename_i h; exact h ps
theorem strip_yes {H : Hp} {b : Addr} {o : HO} (h : H b = some o) (n : NT o) : strip H b = some o := by
  unfold strip
  split
  · rename_i ps e; rw [h] at e; exact absurd (Option.some.inj e) (n ps)
  · exact h
theorem strip_none {H : Hp} {b : Addr} (h : H b = none) : strip H b = none := by
  cases q : strip H b with
  | none => rfl
  | some o =>
    unfold strip at q
    split at q
    · cases q
    · rw [h] at q; cases q
theorem strip_of {H : Hp} {b : Addr} {o : HO} (h : strip H b = some o) : H b = some o := by
  unfold strip at h
  split at h
  · cases h
  · exact h
theorem strip_nt {H : Hp} {b : Addr} {o : HO} (h : strip H b = some o) : NT o := fun ps z => strip_no b ps (by rw [h, z])
section
variable [Tbs]
/-- G: what no one changes; the tables are apart -/
structure Gh (G H : Hp) : Prop where
  s : Same G H
  nt : ∀ b ps, H b = some (.tbl ps) → G b = none
  tb : LamX.Tabs Tbs.T H
instance {G H : Hp} : CoeFun (Gh G H) (fun _ => ∀ a o, G a = some o → H a = some o) := ⟨fun h => h.s⟩
instance {G H : Hp} : Coe (Gh G H) (Same G H) := ⟨Gh.s⟩
structure Tr (G H G' H' : Hp) : Prop where
  sm0 : ∀ b o, H b = some o → NT o → H' b = some o
  gg : Same G G'
  gh : Gh G' H'
  nw0 : ∀ a o, H a = some o → NT o → G' a = G a
variable {G H G' H' G2 H2 : Hp}
theorem Tr.sm (t : Tr G H G' H') (b : Addr) (o : HO) (h : H b = some o) (n : NT o := by intro _ z; cases z) : H' b = some o := t.sm0 b o h n
theorem Tr.nw (t : Tr G H G' H') (b : Addr) {o : HO} (h : H b = some o) (n : NT o := by intro _ z; cases z) : G' b = G b := t.nw0 b o h n
theorem Tr.refl (h : Gh G H) : Tr G H G H := ⟨fun _ _ e _ => e, Same.refl _, h, fun _ _ _ _ => rfl⟩
theorem Tr.trans (a : Tr G H G' H') (b : Tr G' H' G2 H2) : Tr G H G2 H2 := ⟨fun c o e n => b.sm c o (a.sm c o e n) n, a.gg.trans b.gg, b.gh, fun c o e n => by
  rw [b.nw c (a.sm c o e n) n, a.nw c e n]⟩
theorem _root_.L2.Same.upd {H : Hp} {p : Addr} {o : HO} (h : H p = none) : Same H (upd H p o) := fun a u e => by rw [upd_ne (ne_of_none e h)]; exact e
theorem _root_.L2.Same.none {G H : Hp} (s : Same G H) {p : Addr} (h : H p = none) : G p = none := by
  cases q : G p with
  | none => rfl
  | some o => rw [s p o q] at h; cases h
theorem Gh.none (s : Gh G H) {p : Addr} (h : H p = none) : G p = none := s.s.none h
/-- an object is new in the heap, not in what no one changes -/
theorem Gh.own (s : Gh G H) {p : Addr} (o : HO) (hp : H p = .none) : Gh G (upd H p o) := ⟨s.s.trans (Same.upd hp), fun b ps e => by
  by_cases q : b = p
  · rw [q]; exact s.none hp
  · rw [upd_ne q] at e; exact s.nt b ps e, s.tb.ext (Same.upd hp)⟩
theorem Gh.new (s : Gh G H) {p : Addr} (o : HO) (hp : H p = .none) (ho : NT o) : Gh (upd G p o) (upd H p o) := ⟨fun a u e => by
  by_cases q : a = p
  · subst q; rw [upd_same] at e ⊢; exact e
  · rw [upd_ne q] at e ⊢; exact s.s a u e, fun b ps e => by
  by_cases q : b = p
  · subst q; rw [upd_same] at e; exact absurd (Option.some.inj e) (ho ps)
  · rw [upd_ne q] at e ⊢; exact s.nt b ps e, s.tb.ext (Same.upd hp)⟩
/-- what is no table and no code object changes -/
theorem Gh.but (s : Gh G H) {p : Addr} (o : HO) (hg : G p = .none) (ho : NT o) (hna : ∀ u, H p = some u → NT u ∧ ∀ f, u ≠ .ext f) : Gh G (upd H p o) := by
  refine ⟨fun b u e => ?_, fun b ps e => ?_, fun q hq => ?_⟩
  · rw [upd_ne (fun z => by rw [z, hg] at e; cases e)]; exact s.s b u e
  · by_cases q : b = p
    · rw [q]; exact hg
    · rw [upd_ne q] at e; exact s.nt b ps e
  · obtain ⟨ps, h1, h2, h3⟩ := s.tb q hq
    refine ⟨ps, by rw [upd_ne (fun z => by rw [z] at h1; exact (hna _ h1).1 ps rfl)]; exact h1, h2, fun pos cv hcv => ?_⟩
    obtain ⟨c, e1, e2⟩ := h3 pos cv hcv
    exact ⟨c, e1, by rw [upd_ne (fun z => by rw [z] at e2; exact (hna _ e2).2 _ rfl)]; exact e2⟩
theorem Gh.freeze (s : Gh G H) {p : Addr} {o : HO} (h : H p = some o) (ho : NT o) (hg : G p = .none) : Gh (upd G p o) H := ⟨fun b u e => by
  by_cases q : b = p
  · subst q; rw [upd_same] at e; rw [← e]; exact h
  · rw [upd_ne q] at e; exact s.s b u e, fun b ps e => by
  rw [upd_ne (fun q => by rw [q, h] at e; exact ho ps (Option.some.inj e))]; exact s.nt b ps e, s.tb⟩
/-- a new object, to be changed by no one -/
theorem Tr.new (h : Gh G H) {p : Addr} (o : HO) (hp : H p = none) (ho : NT o := by intro _ z; cases z) : Tr G H (upd G p o) (upd H p o) := by
  refine ⟨fun a u e _ => Same.upd hp a u e, Same.upd (h.none hp), h.new o hp ho, fun a u ha _ => ?_⟩
  have : a ≠ p := fun q => by rw [q, hp] at ha; cases ha
  rw [upd_ne this]
/-- a new object that stays the def's own -/
theorem Tr.own (h : Gh G H) {p : Addr} (o : HO) (hp : H p = none) : Tr G H G (upd H p o) :=
  ⟨fun a u e _ => Same.upd hp a u e, Same.refl _, h.own o hp, fun _ _ _ _ => rfl⟩
theorem Tr.free (t : Tr G H G' H') {b : Addr} (h : LD.strip H' b = none) : LD.strip H b = none := by
  cases q : LD.strip H b with
  | none => rfl
  | some o => rw [strip_yes (t.sm b o (strip_of q) (strip_nt q)) (strip_nt q)] at h; cases h
theorem Tr.strip (t : Tr G (strip H) G' H') : Tr G H G' H' := ⟨fun b o e n => t.sm b o (strip_yes e n) n, t.gg, t.gh, fun b o e n => t.nw b (strip_yes e n) n⟩
theorem Tr.toStrip (t : Tr G H G' H') : Tr G (LD.strip H) G' H' := ⟨fun b o e n => t.sm b o (strip_of e) n, t.gg, t.gh, fun b o e n => t.nw b (strip_of e) n⟩
theorem Tr.strip0 (h : Gh G H) : Tr G (LD.strip H) G H := ⟨fun b o e _ => strip_of e, Same.refl _, h, fun _ _ _ _ => rfl⟩
end

/-! ### results -/
inductive R (α : Type) where
  | ok (a : α)
  | exc (c : Str) (fs : List (Str × DV))
  | bad
namespace R
def bind {α β : Type} (r : R α) (f : α → R β) : R β := match r with
  | .ok a => f a
  | .exc c fs => .exc c fs
  | .bad => .bad
instance : Monad R where
  pure := .ok
  bind := R.bind
@[simp] theorem bind_ok {α β : Type} (a : α) (f : α → R β) : (R.ok a).bind f = f a := rfl
@[simp] theorem bind_exc {α β : Type} (c : Str) (fs : List (Str × DV)) (f : α → R β) : (R.exc c fs : R α).bind f = .exc c fs := rfl
@[simp] theorem bind_bad {α β : Type} (f : α → R β) : (R.bad : R α).bind f = .bad := rfl
def ofO {α : Type} : Option α → R α
  | some a => .ok a
  | none => .bad
end R

/-- an exception's own attributes -/
def XRep (K : PySem.W.Frag) (G H : Hp) (d : Option Addr) (fs : List (Str × DV)) : Prop :=
  (d = none ∧ fs = []) ∨ ∃ dx vs, d = some dx ∧ H dx = some (.xd vs) ∧ FReps K G vs fs

abbrev Rel (α β : Type) := Hp → β → α → Prop
variable [Tbs]
/-- what a result asks of what follows -/
def Rq {α β : Type} (K : PySem.W.Frag) (rep : Rel α β) (W : Value → Option Addr → Hp → Prop) (G H : Hp) (r : R α) (Q : β → Hp → Prop) : Prop := match r with
  | .ok a => ∀ b H' G', Tr G H G' H' → rep G' b a → Q b H'
  | .exc c fs => ∀ H' G' d, Tr G H G' H' → XRep K G' H' d fs → W (.ref (He.ga K c)) d H'
  | .bad => False
section
variable {α β γ δ : Type} {K : PySem.W.Frag} {rep : Rel α β} {rep' : Rel γ δ} {W : Value → Option Addr → Hp → Prop} {G H G1 H1 : Hp} {r : R α} {Q : β → Hp → Prop} {Q' : δ → Hp → Prop}
theorem Rq.tr (t : Tr G H G1 H1) (h : Rq K rep W G H r Q) : Rq K rep W G1 H1 r Q := by
  cases r with
  | ok a => exact fun b H' G' t' => h b H' G' (t.trans t')
  | exc c fs => exact fun H' G' d t' => h H' G' d (t.trans t')
  | bad => exact h
theorem Rq.bind {k : α → R γ} (h : Rq K rep' W G H (r.bind k) Q') (c : ∀ a, r = .ok a → ∀ b H1 G1, Tr G H G1 H1 → rep G1 b a → Rq K rep' W G1 H1 (k a) Q' → Q b H1) : Rq K rep W G H r Q := by
  cases r with
  | ok a => exact fun b H1 G1 t p => c a rfl b H1 G1 t p (Rq.tr t h)
  | exc _ _ => exact h
  | bad => exact h
theorem Rq.ok_self (s : Gh G H) {a : α} {b : β} (h : Rq K rep W G H (.ok a) Q) (p : rep G b a) : Q b H := h b H G (Tr.refl s) p
theorem Rq.ok_new (s : Gh G H) {a : α} {b : β} {o : HO} {p : Addr} (hp : H p = none) (h : Rq K rep W G H (.ok a) Q) (q : rep (upd G p o) b a) (ho : NT o := by intro _ z; cases z) : Q b (upd H p o) := h b _ _ (Tr.new s o hp ho) q
theorem Rq.imp {r' : R α} (e : r = r') (h : Rq K rep W G H r' Q) : Rq K rep W G H r Q := e ▸ h
end
abbrev BRep : Rel Bool Bool := fun _ b a => b = a

/-! ### slots -/
inductive Sl where
  | un
  | pu (d : DV)
  /-- a list that only this name holds -/
  | ol (ds : List DV)
  /-- an instance that is being made -/
  | oo (c : Str) (fs : List (Str × DV))
  /-- a dict (int and text keys) that only this name holds -/
  | od (kvs : List (Key × DV))
  deriving Inhabited
abbrev Ev := List Sl
/-- the object that only this name holds -/
def OwnAt (K : PySem.W.Frag) (G H : Hp) (a : Addr) : Sl → Prop
  | .ol ds => ∃ vs, H a = some (.lst vs) ∧ DReps K G vs ds
  | .oo c fs => ∃ dx vs, H a = some (.ins (He.ga K c) dx vs) ∧ FReps K G vs fs
  | .od kvs => ∃ vs, H a = some (.dK vs) ∧ KReps K G vs kvs
  | _ => False
def SlOk (K : PySem.W.Frag) (H0 G H : Hp) (s : Sl) (v : Option V) : Prop := match s with
  | .un => True
  | .pu d => ∃ x, v = some x ∧ DRep K G x d
  | s => ∃ a, v = some (.ref a) ∧ H0 a = none ∧ G a = none ∧ OwnAt K G H a s
def isOwn : Sl → Bool
  | .un => false
  | .pu _ => false
  | _ => true

/-- a def's entry: the heap, what no one changes, the instance that is being made or changed -/
structure Bas where
  H0 : Hp
  G0 : Hp
  pa : Option Addr := none
structure SOk (K : PySem.W.Frag) (B : Bas) (G H : Hp) (δ : Ev) (σ : L2.St) : Prop where
  tr : Tr B.G0 B.H0 G H
  len : σ.length = δ.length
  sl : ∀ (i : Nat) (s : Sl), δ[i]? = some s → SlOk K B.H0 G H s (σ[i]?.join)
  dj : ∀ (i j : Nat) (s t : Sl) (a : Addr), δ[i]? = some s → δ[j]? = some t → isOwn s = true → isOwn t = true → σ[i]? = some (some (.ref a)) → σ[j]? = some (some (.ref a)) → i = j
  me : ∀ (i : Nat) (c : Str) (fs : List (Str × DV)), δ[i]? = some (.oo c fs) → ∃ p, B.pa = some p ∧ σ[i]? = some (some (.ref p))
  h0 : ∀ b ps, B.H0 b ≠ some (.tbl ps)

section
variable {K : PySem.W.Frag} {B : Bas} {H0 G0 G H G' H' : Hp} {δ : Ev} {σ : L2.St}
theorem SlOk.own {s : Sl} {v : Option V} (o : isOwn s = true) (h : SlOk K H0 G H s v) : ∃ a, v = some (.ref a) ∧ H0 a = none ∧ G a = none ∧ OwnAt K G H a s := by
  cases s with
  | un => cases o
  | pu _ => cases o
  | ol _ => exact h
  | oo _ _ => exact h
  | od _ => exact h
theorem SlOk.mk {s : Sl} {a : Addr} (o : isOwn s = true) (h : H0 a = none ∧ G a = none ∧ OwnAt K G H a s) : SlOk K H0 G H s (some (.ref a)) := by
  cases s with
  | un => cases o
  | pu _ => cases o
  | ol _ => exact ⟨a, rfl, h⟩
  | oo _ _ => exact ⟨a, rfl, h⟩
  | od _ => exact ⟨a, rfl, h⟩
theorem OwnAt.there {s : Sl} {a : Addr} (h : OwnAt K G H a s) : H a ≠ none := by
  cases s with
  | un => exact h.elim
  | pu _ => exact h.elim
  | ol _ => obtain ⟨_, e, _⟩ := h; rw [e]; simp
  | oo _ _ => obtain ⟨_, _, e, _⟩ := h; rw [e]; simp
  | od _ => obtain ⟨_, e, _⟩ := h; rw [e]; simp
theorem OwnAt.step {s : Sl} {a : Addr} (gg : Same G G') (e : ∀ o, H a = some o → H' a = some o) (h : OwnAt K G H a s) : OwnAt K G' H' a s := by
  cases s with
  | un => exact h
  | pu _ => exact h
  | ol _ => obtain ⟨vs, e1, r⟩ := h; exact ⟨vs, e _ e1, r.mono gg⟩
  | oo _ _ => obtain ⟨dx, vs, e1, r⟩ := h; exact ⟨dx, vs, e _ e1, r.mono gg⟩
  | od _ => obtain ⟨vs, e1, r⟩ := h; exact ⟨vs, e _ e1, r.mono gg⟩
theorem SlOk.step {s : Sl} {v : Option V} (gg : Same G G') (e : ∀ a o, isOwn s = true → v = some (.ref a) → H a = some o → H' a = some o) (n : ∀ a, isOwn s = true → v = some (.ref a) → H a ≠ none → G a = none → G' a = none) (h : SlOk K H0 G H s v) : SlOk K H0 G' H' s v := by
  cases o : isOwn s with
  | true =>
    obtain ⟨a, rfl, h1, h2, h3⟩ := h.own o
    exact .mk o ⟨h1, n a o rfl h3.there h2, h3.step gg fun ob => e a ob o rfl⟩
  | false =>
    cases s with
    | un => trivial
    | pu d => obtain ⟨x, e1, r⟩ := h; exact ⟨x, e1, r.mono gg⟩
    | ol _ => cases o
    | oo _ _ => cases o
    | od _ => cases o
theorem own_kind {s : Sl} {a : Addr} (r : OwnAt K G H a s) : ∀ u, H a = some u → NT u ∧ ∀ f, u ≠ .ext f := by
  intro u z
  have go : ∀ {o : HO}, H a = some o → NT o → (∀ f, o ≠ .ext f) → NT u ∧ ∀ f, u ≠ .ext f := fun {o} e h1 h2 => by
    rw [z] at e
    cases e
    exact ⟨h1, h2⟩
  cases s with
  | un => exact r.elim
  | pu _ => exact r.elim
  | ol _ => obtain ⟨_, e, _⟩ := r; exact go e (by intro _ q; cases q) (by intro _ q; cases q)
  | oo _ _ => obtain ⟨_, _, e, _⟩ := r; exact go e (by intro _ q; cases q) (by intro _ q; cases q)
  | od _ => obtain ⟨_, e, _⟩ := r; exact go e (by intro _ q; cases q) (by intro _ q; cases q)
theorem SOk.gh (S : SOk K B G H δ σ) : Gh G H := S.tr.gh
theorem SOk.sm (S : SOk K B G H δ σ) : Same B.H0 H := fun b o e => S.tr.sm b o e fun ps z => S.h0 b ps (by rw [e, z])
theorem OwnAt.thereS {s : Sl} {a : Addr} (h : OwnAt K G H a s) : strip H a ≠ none := fun z => by
  cases q : H a with
  | none => exact h.there q
  | some o => rw [strip_yes q (own_kind h o q).1] at z; cases z
theorem SOk.freeS (S : SOk K B G H δ σ) {p : Addr} (h : strip H p = none) : B.H0 p = none := by
  cases q : B.H0 p with
  | none => rfl
  | some o => rw [strip_yes (S.sm p o q) (fun ps z => S.h0 p ps (by rw [q, z]))] at h; cases h
theorem SOk.free (S : SOk K B G H δ σ) {p : Addr} (h : H p = none) : B.H0 p = none := S.sm.none h
/-- objects are made, no own one is touched -/
theorem SOk.step (S : SOk K B G H δ σ) (t : Tr G H G' H') : SOk K B G' H' δ σ where
  tr := S.tr.trans t
  len := S.len
  sl := fun i s e => by
    cases os : isOwn s with
    | true =>
      obtain ⟨a, ev, h1, h2, h3⟩ := (S.sl i s e).own os
      rw [ev]
      have hk := own_kind h3
      refine .mk os ⟨h1, ?_, h3.step t.gg fun o q => t.sm a o q (hk o q).1⟩
      cases q : H a with
      | none => exact absurd q h3.there
      | some o => rw [t.nw a q (hk o q).1]; exact h2
    | false => exact (S.sl i s e).step t.gg (fun a o os' _ q => by rw [os] at os'; cases os') fun a os' _ _ _ => by rw [os] at os'; cases os'
  dj := S.dj
  me := S.me
  h0 := S.h0
theorem SOk.pu (S : SOk K B G H δ σ) {i : Nat} {d : DV} (e : δ[i]? = some (.pu d)) : ∃ v, σ[i]? = some (some v) ∧ DRep K G v d := by
  obtain ⟨x, h, r⟩ := S.sl i _ e
  cases q : σ[i]? with
  | none => rw [q] at h; cases h
  | some w => rw [q] at h; exact ⟨x, by rw [show w = some x from h], r⟩
theorem join_some {o : Option (Option V)} {v : V} (h : o.join = some v) : o = some (some v) := by
  cases o with
  | none => cases h
  | some w => exact congrArg some h
theorem SOk.own (S : SOk K B G H δ σ) {i : Nat} {s : Sl} (e : δ[i]? = some s) (o : isOwn s = true) : ∃ a, σ[i]? = some (some (.ref a)) ∧ B.H0 a = none ∧ G a = none ∧ OwnAt K G H a s := by
  obtain ⟨a, h, r⟩ := (S.sl i s e).own o
  exact ⟨a, join_some h, r⟩
/-- a name gets a value -/
theorem SOk.set (S : SOk K B G H δ σ) (i : Nat) {v : V} {d : DV} (r : DRep K G v d) : SOk K B G H (δ.set i (.pu d)) (σ.set i (some v)) := by
  refine ⟨S.tr, by rw [List.length_set, List.length_set, S.len], fun j s e => ?_, fun j k s t a e1 e2 o1 o2 h1 h2 => ?_, fun j c fs e => ?_, S.h0⟩
  · by_cases q : i = j
    · subst q
      have hi : i < δ.length := by
        have := (List.getElem?_eq_some_iff.mp e).1
        rwa [List.length_set] at this
      rw [List.getElem?_set_self hi] at e
      cases e
      rw [List.getElem?_set_self (by rw [S.len]; exact hi)]
      exact ⟨v, rfl, r⟩
    · rw [List.getElem?_set_ne q] at e ⊢
      exact S.sl j s e
  · have ne : ∀ {j : Nat} {s : Sl}, (δ.set i (.pu d))[j]? = some s → isOwn s = true → i ≠ j := fun {j s} e o q => by
      subst q
      have hi : i < δ.length := by
        have := (List.getElem?_eq_some_iff.mp e).1
        rwa [List.length_set] at this
      rw [List.getElem?_set_self hi] at e
      cases e; cases o
    have n1 := ne e1 o1
    have n2 := ne e2 o2
    rw [List.getElem?_set_ne n1] at e1 h1
    rw [List.getElem?_set_ne n2] at e2 h2
    exact S.dj j k s t a e1 e2 o1 o2 h1 h2
  · by_cases q : i = j
    · subst q
      have hi : i < δ.length := by
        have := (List.getElem?_eq_some_iff.mp e).1
        rwa [List.length_set] at this
      rw [List.getElem?_set_self hi] at e
      cases e
    · rw [List.getElem?_set_ne q] at e ⊢
      exact S.me j c fs e
/-- a name gets a new object of its own, or its own object is changed -/
theorem SOk.setOwn (S : SOk K B G H δ σ) (i : Nat) {a : Addr} {s : Sl} (ho : isOwn s = true) (t : Tr B.G0 B.H0 G H') (h0 : B.H0 a = none) (hg : G a = none) (r : OwnAt K G H' a s)
    (keep : ∀ b o, b ≠ a → H b = some o → H' b = some o) (new : ∀ j u, j ≠ i → δ[j]? = some u → isOwn u = true → σ[j]? ≠ some (some (.ref a))) (hme : ∀ c fs, s = .oo c fs → B.pa = some a) : SOk K B G H' (δ.set i s) (σ.set i (some (.ref a))) := by
  refine ⟨t, by rw [List.length_set, List.length_set, S.len], fun j u e => ?_, fun j k u w b e1 e2 o1 o2 h1 h2 => ?_, fun j c fs e => ?_, S.h0⟩
  · by_cases q : i = j
    · subst q
      have hi : i < δ.length := by
        have := (List.getElem?_eq_some_iff.mp e).1
        rwa [List.length_set] at this
      rw [List.getElem?_set_self hi] at e
      cases e
      rw [List.getElem?_set_self (by rw [S.len]; exact hi)]
      exact .mk ho ⟨h0, hg, r⟩
    · rw [List.getElem?_set_ne q] at e ⊢
      refine (S.sl j u e).step (Same.refl _) (fun b o ou hb q2 => keep b o (fun z => ?_) q2) fun _ _ _ _ x => x
      subst z
      exact new j u (Ne.symm q) e ou (join_some hb)
  · have un : ∀ {j : Nat} {u : Sl}, i ≠ j → (δ.set i s)[j]? = some u → δ[j]? = some u := fun {j u} q e => by rwa [List.getElem?_set_ne q] at e
    by_cases q1 : i = j
    · by_cases q2 : i = k
      · rw [← q1, ← q2]
      · subst q1
        rw [List.getElem?_set_ne q2] at h2
        have hi : i < σ.length := by
          have := (List.getElem?_eq_some_iff.mp h1).1
          rwa [List.length_set] at this
        rw [List.getElem?_set_self hi] at h1
        have : a = b := by injection h1 with h1; injection h1 with h1; injection h1
        subst this
        exact absurd h2 (new k w (Ne.symm q2) (un q2 e2) o2)
    · by_cases q2 : i = k
      · subst q2
        rw [List.getElem?_set_ne q1] at h1
        have hi : i < σ.length := by
          have := (List.getElem?_eq_some_iff.mp h2).1
          rwa [List.length_set] at this
        rw [List.getElem?_set_self hi] at h2
        have : a = b := by injection h2 with h2; injection h2 with h2; injection h2
        subst this
        exact absurd h1 (new j u (Ne.symm q1) (un q1 e1) o1)
      · rw [List.getElem?_set_ne q1] at h1
        rw [List.getElem?_set_ne q2] at h2
        exact S.dj j k u w b (un q1 e1) (un q2 e2) o1 o2 h1 h2
  · by_cases q : i = j
    · subst q
      have hi : i < δ.length := by
        have := (List.getElem?_eq_some_iff.mp e).1
        rwa [List.length_set] at this
      rw [List.getElem?_set_self hi] at e
      cases e
      rw [List.getElem?_set_self (by rw [S.len]; exact hi)]
      exact ⟨a, hme c fs rfl, rfl⟩
    · rw [List.getElem?_set_ne q] at e ⊢
      exact S.me j c fs e
/-- a name's slot forgotten -/
theorem SOk.forget (S : SOk K B G H δ σ) (i : Nat) (v : Option V) : SOk K B G H (δ.set i .un) (σ.set i v) := by
  refine ⟨S.tr, by rw [List.length_set, List.length_set, S.len], fun j s e => ?_, fun j k s t a e1 e2 o1 o2 h1 h2 => ?_, fun j c fs e => ?_, S.h0⟩
  · by_cases q : i = j
    · subst q
      have hi : i < δ.length := by
        have := (List.getElem?_eq_some_iff.mp e).1
        rwa [List.length_set] at this
      rw [List.getElem?_set_self hi] at e
      cases e
      trivial
    · rw [List.getElem?_set_ne q] at e ⊢
      exact S.sl j s e
  · have ne : ∀ {j : Nat} {s : Sl}, (δ.set i .un)[j]? = some s → isOwn s = true → i ≠ j := fun {j s} e o q => by
      subst q
      have hi : i < δ.length := by
        have := (List.getElem?_eq_some_iff.mp e).1
        rwa [List.length_set] at this
      rw [List.getElem?_set_self hi] at e
      cases e; cases o
    have n1 := ne e1 o1
    have n2 := ne e2 o2
    rw [List.getElem?_set_ne n1] at e1 h1
    rw [List.getElem?_set_ne n2] at e2 h2
    exact S.dj j k s t a e1 e2 o1 o2 h1 h2
  · by_cases q : i = j
    · subst q
      have hi : i < δ.length := by
        have := (List.getElem?_eq_some_iff.mp e).1
        rwa [List.length_set] at this
      rw [List.getElem?_set_self hi] at e
      cases e
    · rw [List.getElem?_set_ne q] at e ⊢
      exact S.me j c fs e
/-- an own object is changed by no one from here on -/
def frz (δ : Ev) (i : Nat) : Ev := match δ[i]? with
  | some (.ol ds) => δ.set i (.pu (.lst ds))
  | some (.oo c fs) => δ.set i (.pu (.obj c fs))
  | _ => δ
theorem Tr.freezeS (t : Tr G0 H0 G H) {a : Addr} {o : HO} (h0 : LD.strip H0 a = none) (hg : G a = none) (h : H a = some o) (ho : NT o := by intro _ z; cases z) : Tr G0 H0 (upd G a o) H ∧ Same G (upd G a o) := by
  refine ⟨⟨t.sm0, t.gg.trans (Same.upd hg), t.gh.freeze h ho hg, fun b u hb n => ?_⟩, Same.upd hg⟩
  have : b ≠ a := fun q => by rw [q] at hb; rw [strip_yes hb n] at h0; cases h0
  rw [upd_ne this]; exact t.nw b hb n
theorem Tr.freeze (t : Tr G0 H0 G H) {a : Addr} {o : HO} (h0 : H0 a = none) (hg : G a = none) (h : H a = some o) (ho : NT o := by intro _ z; cases z) : Tr G0 H0 (upd G a o) H ∧ Same G (upd G a o) := t.freezeS (strip_none h0) hg h ho
theorem SOk.frz (S : SOk K B G H δ σ) (i : Nat) : ∃ G', Same G G' ∧ SOk K B G' H (frz δ i) σ := by
  have go : ∀ {s : Sl} {d : DV} {a : Addr} {o : HO}, δ[i]? = some s → isOwn s = true → σ[i]? = some (some (.ref a)) → B.H0 a = none → G a = none → H a = some o → NT o → DRep K (upd G a o) (.ref a) d → ∃ G', Same G G' ∧ SOk K B G' H (δ.set i (.pu d)) σ := fun {s d a o} e os es h0 hg h ho r => by
    obtain ⟨t, gg⟩ := S.tr.freeze h0 hg h ho
    have S' : SOk K B (L2.upd G a o) H (δ.set i .un) (σ.set i (some (.ref a))) := by
      refine ⟨t, by rw [List.length_set, List.length_set, S.len], fun j u e' => ?_, (S.forget i (some (.ref a))).dj, (S.forget i (some (.ref a))).me, S.h0⟩
      by_cases q : i = j
      · subst q
        have hi : i < δ.length := (List.getElem?_eq_some_iff.mp e).1
        rw [List.getElem?_set_self hi] at e'
        cases e'; trivial
      · have z := (S.forget i (some (.ref a))).sl j u e'
        refine z.step gg (fun _ _ _ _ x => x) fun b ou hb _ hgb => ?_
        have : b ≠ a := fun z => by
          subst z
          rw [List.getElem?_set_ne q] at e' hb
          exact q (S.dj i j s u b e e' os ou es (join_some hb))
        rw [upd_ne this]; exact hgb
    have S2 := S'.set i r
    rw [List.set_set, List.set_set] at S2
    have es' : σ.set i (some (.ref a)) = σ := by
      apply List.ext_getElem?
      intro j
      by_cases q : i = j
      · subst q
        rw [List.getElem?_set_self (List.getElem?_eq_some_iff.mp es).1, es]
      · rw [List.getElem?_set_ne q]
    rw [es'] at S2
    exact ⟨_, gg, S2⟩
  unfold LD.frz
  split
  · rename_i ds e
    obtain ⟨a, es, h0, hg, vs, h, r⟩ := S.own e rfl
    exact go e rfl es h0 hg h (by intro _ z; cases z) (.lst upd_same (r.mono (Same.upd hg)))
  · rename_i c fs e
    obtain ⟨a, es, h0, hg, dx, vs, h, r⟩ := S.own e rfl
    exact go e rfl es h0 hg h (by intro _ z; cases z) (.obj upd_same (r.mono (Same.upd hg)))
  · exact ⟨G, Same.refl _, S⟩
end
end LD

set_option maxHeartbeats 2000000
/-! Layer D, part B: expressions. -/
namespace LD
open PySem PySem.Spec PyProof.Rows L2
variable [Tbs]

/-! ### the judgements -/
structure PD (X : Cx) (W : WX) (e : Expr) (f : Ev → R DV) : Prop where
  ex : ∃ t : TE, PE X e t ∧ ∀ {B : Bas} {G H : Hp} {δ : Ev} {σ : L2.St} {Q : VK}, SOk X.K B G H δ σ → Rq X.K (DRep X.K) (fun c d H' => W c d σ H') G H (f δ) Q → t σ H Q
structure PDT (X : Cx) (W : WX) (e : Expr) (f : Ev → R Bool) : Prop where
  ex : ∃ t : TT, PT X e t ∧ ∀ {B : Bas} {G H : Hp} {δ : Ev} {σ : L2.St} {Q : Bool → Hp → Prop}, SOk X.K B G H δ σ → Rq X.K BRep (fun c d H' => W c d σ H') G H (f δ) Q → t σ H Q
structure PDW (X : Cx) (W : WX) (e : Expr) (f : Ev → R Bool) : Prop where
  ex : ∃ t : TT, PW X e t ∧ ∀ {B : Bas} {G H : Hp} {δ : Ev} {σ : L2.St} {Q : Bool → Hp → Prop}, SOk X.K B G H δ σ → Rq X.K BRep (fun c d H' => W c d σ H') G H (f δ) Q → t σ H Q
structure PDA (X : Cx) (W : WX) (es : List Expr) (f : Ev → R (List DV)) : Prop where
  ex : ∃ t : TA, PA X es t ∧ ∀ {B : Bas} {G H : Hp} {δ : Ev} {σ : L2.St} {Q : List V → Hp → Prop}, SOk X.K B G H δ σ → Rq X.K (DReps X.K) (fun c d H' => W c d σ H') G H (f δ) Q → t σ H Q

/-! ### readings -/
def xVar (i : Nat) : Ev → R DV := fun δ => match δ[i]? with
  | some (.pu d) => .ok d
  | _ => .bad
def xC (d : DV) : Ev → R DV := fun _ => .ok d
def xOp (op : DV → DV → R DV) (a b : Ev → R DV) : Ev → R DV := fun δ => (a δ).bind fun x => (b δ).bind fun y => op x y
def xUn (op : DV → R DV) (a : Ev → R DV) : Ev → R DV := fun δ => (a δ).bind op
def asB : DV → R Bool
  | .bl b => .ok b
  | _ => .bad
def xTest (a : Ev → R DV) : Ev → R Bool := fun δ => (a δ).bind asB
def xIf (c : Ev → R Bool) (a b : Ev → R DV) : Ev → R DV := fun δ => (c δ).bind fun z => if z = true then a δ else b δ
def xAnd (a b : Ev → R Bool) : Ev → R Bool := fun δ => (a δ).bind fun z => if z = true then b δ else .ok false
def xOr (a b : Ev → R Bool) : Ev → R Bool := fun δ => (a δ).bind fun z => if z = true then .ok true else b δ
def xNot (a : Ev → R Bool) : Ev → R Bool := fun δ => (a δ).bind fun z => .ok (!z)
def xAndV (a b : Ev → R DV) : Ev → R DV := fun δ => (a δ).bind fun x => (asB x).bind fun z => if z = true then b δ else .ok (.bl false)
def xOrV (a b : Ev → R DV) : Ev → R DV := fun δ => (a δ).bind fun x => (asB x).bind fun z => if z = true then .ok (.bl true) else b δ
def xNotV (a : Ev → R DV) : Ev → R DV := fun δ => (a δ).bind fun x => (asB x).bind fun z => .ok (.bl (!z))
def xNil : Ev → R (List DV) := fun _ => .ok []
def xCons (a : Ev → R DV) (r : Ev → R (List DV)) : Ev → R (List DV) := fun δ => (a δ).bind fun x => (r δ).bind fun xs => .ok (x :: xs)
def small (n : Nat) : Bool := Nat.ble n 16777216
theorem small_le {n : Nat} (h : small n = true) : n ≤ sizeLine := by rw [sizeLine_eq]; exact Nat.le_of_ble_eq_true h
def xTup (r : Ev → R (List DV)) : Ev → R DV := fun δ => (r δ).bind fun xs => if small xs.length = true then .ok (.tup xs) else .bad
def xLst (r : Ev → R (List DV)) : Ev → R DV := fun δ => (r δ).bind fun xs => if small xs.length = true then .ok (.lst xs) else .bad
/-- a chain a < b < c -/
def xChain (o o' : DV → DV → R DV) (a b c : Ev → R DV) : Ev → R DV := fun δ => (a δ).bind fun x => (b δ).bind fun y => (o x y).bind fun z => (asB z).bind fun k => if k = true then (c δ).bind fun w => o' y w else .ok (.bl false)

/-! ### operators by data -/
def OpD (X : Cx) (r : R2) (op : DV → DV → R DV) : Prop :=
  ∀ {G H : Hp} {x y : V} {dx dy : DV} {Q : VK} {W : Value → Option Addr → Hp → Prop}, Gh G H → DRep X.K G x dx → DRep X.K G y dy → Rq X.K (DRep X.K) W G H (op dx dy) Q → r x y H Q
/-- only values, no object -/
theorem OpD.flat {X : Cx} {r : R2} {op : DV → DV → R DV} (noexc : ∀ dx dy c fs, op dx dy ≠ .exc c fs)
    (h : ∀ {G H : Hp} {x y : V} {dx dy d : DV} {Q : VK}, DRep X.K G x dx → DRep X.K G y dy → op dx dy = .ok d → (∀ v, DRep X.K G v d → Q v H) → r x y H Q) : OpD X r op := by
  intro G H x y dx dy Q W s rx ry q
  cases e : op dx dy with
  | ok d =>
    rw [e] at q
    exact h rx ry e fun v p => q v H G (Tr.refl s) p
  | exc c fs => exact absurd e (noexc _ _ _ _)
  | bad => rw [e] at q; exact q.elim

section
variable {X : Cx} {W : WX} {a b c : Expr} {es : List Expr} {fa fb fc : Ev → R DV} {fes : Ev → R (List DV)} {ga gb : Ev → R Bool} {pos : Pos}

theorem d_var (i : Nat) {x : Str} (hN : X.N[i]? = some x := by rfl) (hv : Vis X.env.scope x := by first | exact Or.inl rfl | exact Or.inr (Or.inl rfl) | exact Or.inr (Or.inr rfl)) (hd : (x == ("__debug__" : Str)) = false := by decide)
    (hcd : (x == ("__classdict__" : Str)) = false := by decide) : PD X W (.Name x pos) (xVar i) := by
  refine ⟨tVar i, pv i hN hv hd hcd, fun {B0 G H δ σ Q} S h => ?_⟩
  unfold xVar at h
  split at h
  · rename_i d e
    obtain ⟨v, hv', r⟩ := S.pu e
    exact ⟨v, hv', h.ok_self S.gh r⟩
  · exact h.elim
theorem d_c {v : V} {d : DV} (p : PE X a (tC v)) (r : ∀ G, DRep X.K G v d) : PD X W a (xC d) :=
  ⟨tC v, p, fun {B0 G H δ σ Q} S h => Rq.ok_self (rep := DRep X.K) S.gh h (r G)⟩
theorem d_int {i j} : PD X W (.Constant (.int i) j pos) (xC (.int i)) := d_c pe_int fun _ => .int i
theorem d_bl {b j} : PD X W (.Constant (.bool b) j pos) (xC (.bl b)) := d_c pe_bl fun _ => .bl b
theorem d_non {j} : PD X W (.Constant .none j pos) (xC .non) := d_c pe_non fun _ => .non
theorem d_str {x j} : PD X W (.Constant (.str x) j pos) (xC (.str x)) := d_c pe_str fun _ => .str x
theorem d_gint {x : Str} {i : Int} (hm : ∃ t, X.mg x = some (.int i t)) (hg : Gl X x := by rfl) (hd : (x == ("__debug__" : Str)) = false := by decide) : PD X W (.Name x pos) (xC (.int i)) := by
  obtain ⟨t, hm⟩ := hm
  exact d_c (pe_glob hg hm (v := .int i) ⟨t, rfl⟩ hd) fun _ => .int i
theorem d_gstr {x z : Str} (hm : ∃ t, X.mg x = some (.str z t)) (hg : Gl X x := by rfl) (hd : (x == ("__debug__" : Str)) = false := by decide) : PD X W (.Name x pos) (xC (.str z)) := by
  obtain ⟨t, hm⟩ := hm
  exact d_c (pe_glob hg hm (v := .str z) ⟨t, rfl⟩ hd) fun _ => .str z

theorem d_op {o : Operator} {r : R2} {op : DV → DV → R DV} (ho : OpR X (binaryOp o) r) (od : OpD X r op) (A : PD X W a fa) (B : PD X W b fb) : PD X W (.BinOp a o b pos) (xOp op fa fb) := by
  obtain ⟨ta, pa, ha⟩ := A.ex
  obtain ⟨tb, pb, hb⟩ := B.ex
  refine ⟨_, pe_op ho pa pb, fun {B0 G H δ σ Q} S h => ?_⟩
  refine ha S (Rq.bind (rep := DRep X.K) h fun x ex v H1 G1 t1 r1 h1 => ?_)
  refine hb (S.step t1) (Rq.bind (rep := DRep X.K) h1 fun y ey w H2 G2 t2 r2 h2 => ?_)
  exact od t2.gh (r1.mono t2.gg) r2 h2
theorem d_cmp {o : CmpOp} {r : R2} {op : DV → DV → R DV} (ho : OpR X (compareOp o) r) (od : OpD X r op) (A : PD X W a fa) (B : PD X W b fb) (hm : behindInMarks o b = false := by first | exact nomark _ | rfl) : PD X W (.Compare a [o] [b] pos) (xOp op fa fb) := by
  obtain ⟨ta, pa, ha⟩ := A.ex
  obtain ⟨tb, pb, hb⟩ := B.ex
  refine ⟨_, pe_cmpR ho pa pb hm, fun {B0 G H δ σ Q} S h => ?_⟩
  refine ha S (Rq.bind (rep := DRep X.K) h fun x ex v H1 G1 t1 r1 h1 => ?_)
  refine hb (S.step t1) (Rq.bind (rep := DRep X.K) h1 fun y ey w H2 G2 t2 r2 h2 => ?_)
  exact od t2.gh (r1.mono t2.gg) r2 h2
theorem asB_rep {K : PySem.W.Frag} {G : Hp} {v : V} {d : DV} {k : Bool} (r : DRep K G v d) (e : asB d = .ok k) : v = .bl k := by
  cases r with
  | bl b => cases e; rfl
  | _ => cases e
/-- a comparison as a test -/
theorem dt_cmp {o : CmpOp} {r : R2} {op : DV → DV → R DV} (ho : OpR X (compareOp o) r) (od : OpD X r op) (A : PD X W a fa) (B : PD X W b fb) (hm : behindInMarks o b = false := by first | exact nomark _ | rfl) : PDT X W (.Compare a [o] [b] pos) (xTest (xOp op fa fb)) := by
  obtain ⟨ta, pa, ha⟩ := A.ex
  obtain ⟨tb, pb, hb⟩ := B.ex
  refine ⟨_, pt_cmpR ho pa pb hm, fun {B0 G H δ σ Q} S h => ?_⟩
  have h' : Rq X.K BRep (fun c d H' => W c d σ H') G H ((fa δ).bind fun x => (fb δ).bind fun y => (op x y).bind asB) Q := by
    have e : xTest (xOp op fa fb) δ = ((fa δ).bind fun x => (fb δ).bind fun y => (op x y).bind asB) := by
      unfold xTest xOp
      cases fa δ with
      | ok x => cases fb δ <;> rfl
      | _ => rfl
    rw [← e]; exact h
  refine ha S (Rq.bind (rep := DRep X.K) h' fun x ex v H1 G1 t1 r1 h1 => ?_)
  refine hb (S.step t1) (Rq.bind (rep := DRep X.K) h1 fun y ey w H2 G2 t2 r2 h2 => ?_)
  refine od t2.gh (r1.mono t2.gg) r2 (Rq.bind (rep := DRep X.K) h2 fun z ez u H3 G3 t3 r3 h3 => ?_)
  cases q : asB z with
  | ok k =>
    rw [q] at h3
    exact ⟨k, asB_rep r3 q, Rq.ok_self (rep := BRep) t3.gh h3 rfl⟩
  | exc c fs => cases z <;> cases q
  | bad => rw [q] at h3; exact h3.elim
/-- an expression as a test -/
theorem dt_val (A : PD X W a fa) (he : ∀ whole, isTrue a X.env whole = (do let v ← whole; standAt a.pos; holding [v] (truthy v)) := by intro _; rfl) : PDT X W a (xTest fa) := by
  obtain ⟨ta, pa, ha⟩ := A.ex
  refine ⟨_, pt_val pa he, fun {B0 G H δ σ Q} S h => ?_⟩
  refine ha S (Rq.bind (rep := DRep X.K) h fun z ez u H3 G3 t3 r3 h3 => ?_)
  cases q : asB z with
  | ok k =>
    rw [q] at h3
    exact ⟨k, asB_rep r3 q, Rq.ok_self (rep := BRep) t3.gh h3 rfl⟩
  | exc c fs => cases z <;> cases q
  | bad => rw [q] at h3; exact h3.elim
theorem dt_not (A : PDT X W a ga) : PDT X W (.UnaryOp .Not a pos) (xNot ga) := by
  obtain ⟨ta, pa, ha⟩ := A.ex
  refine ⟨_, pt_not pa, fun {B0 G H δ σ Q} S h => ?_⟩
  exact ha S (Rq.bind (rep := BRep) h fun z ez u H3 G3 t3 r3 h3 => by cases r3; exact Rq.ok_self (rep := BRep) t3.gh h3 rfl)
theorem dw_pt (A : PDW X W a ga) : PDT X W a ga := by
  obtain ⟨ta, pa, ha⟩ := A.ex
  exact ⟨ta, pa.pt, ha⟩
variable {rest : List Expr}
theorem dw_and1 (A : PDT X W a ga) : PDW X W (.BoolOp .And [a] pos) ga := by
  obtain ⟨ta, pa, ha⟩ := A.ex
  exact ⟨ta, pw_and1 pa, ha⟩
theorem dw_or1 (A : PDT X W a ga) : PDW X W (.BoolOp .Or [a] pos) ga := by
  obtain ⟨ta, pa, ha⟩ := A.ex
  exact ⟨ta, pw_or1 pa, ha⟩
theorem dw_and (A : PDT X W a ga) (B : PDW X W (.BoolOp .And (b :: rest) pos) gb) : PDW X W (.BoolOp .And (a :: b :: rest) pos) (xAnd ga gb) := by
  obtain ⟨ta, pa, ha⟩ := A.ex
  obtain ⟨tb, pb, hb⟩ := B.ex
  refine ⟨_, pw_and pa pb, fun {B0 G H δ σ Q} S h => ?_⟩
  refine ha S (Rq.bind (rep := BRep) h fun z ez u H1 G1 t1 r1 h1 => ?_)
  cases r1
  cases z with
  | true => exact hb (S.step t1) h1
  | false => exact Rq.ok_self (rep := BRep) t1.gh h1 rfl
theorem dw_or (A : PDT X W a ga) (B : PDW X W (.BoolOp .Or (b :: rest) pos) gb) : PDW X W (.BoolOp .Or (a :: b :: rest) pos) (xOr ga gb) := by
  obtain ⟨ta, pa, ha⟩ := A.ex
  obtain ⟨tb, pb, hb⟩ := B.ex
  refine ⟨_, pw_or pa pb, fun {B0 G H δ σ Q} S h => ?_⟩
  refine ha S (Rq.bind (rep := BRep) h fun z ez u H1 G1 t1 r1 h1 => ?_)
  cases r1
  cases z with
  | true => exact Rq.ok_self (rep := BRep) t1.gh h1 rfl
  | false => exact hb (S.step t1) h1
/-- and, or, not as values -/
theorem d_one {op : BoolOp} (A : PD X W a fa) : PD X W (.BoolOp op [a] pos) fa := by
  obtain ⟨ta, pa, ha⟩ := A.ex
  exact ⟨ta, pe_one pa, ha⟩
theorem asB_no {d : DV} {c : Str} {fs : List (Str × DV)} : asB d ≠ .exc c fs := by cases d <;> exact fun e => nomatch e
theorem d_and (A : PD X W a fa) (B : PD X W (.BoolOp .And (b :: rest) pos) fb) : PD X W (.BoolOp .And (a :: b :: rest) pos) (xAndV fa fb) := by
  obtain ⟨ta, pa, ha⟩ := A.ex
  obtain ⟨tb, pb, hb⟩ := B.ex
  refine ⟨_, pe_and pa pb, fun {B0 G H δ σ Q} S h => ?_⟩
  refine ha S (Rq.bind (rep := DRep X.K) h fun z ez u H1 G1 t1 r1 h1 => ?_)
  cases q : asB z with
  | ok k =>
    rw [q] at h1
    refine ⟨k, asB_rep r1 q, ?_⟩
    cases k with
    | true => exact hb (S.step t1) h1
    | false => exact Rq.ok_self (rep := DRep X.K) t1.gh h1 (.bl false)
  | exc c fs => exact absurd q asB_no
  | bad => rw [q] at h1; exact h1.elim
theorem d_or (A : PD X W a fa) (B : PD X W (.BoolOp .Or (b :: rest) pos) fb) : PD X W (.BoolOp .Or (a :: b :: rest) pos) (xOrV fa fb) := by
  obtain ⟨ta, pa, ha⟩ := A.ex
  obtain ⟨tb, pb, hb⟩ := B.ex
  refine ⟨_, pe_or pa pb, fun {B0 G H δ σ Q} S h => ?_⟩
  refine ha S (Rq.bind (rep := DRep X.K) h fun z ez u H1 G1 t1 r1 h1 => ?_)
  cases q : asB z with
  | ok k =>
    rw [q] at h1
    refine ⟨k, asB_rep r1 q, ?_⟩
    cases k with
    | true => exact Rq.ok_self (rep := DRep X.K) t1.gh h1 (.bl true)
    | false => exact hb (S.step t1) h1
  | exc c fs => exact absurd q asB_no
  | bad => rw [q] at h1; exact h1.elim
theorem d_not (A : PD X W a fa) : PD X W (.UnaryOp .Not a pos) (xNotV fa) := by
  obtain ⟨ta, pa, ha⟩ := A.ex
  refine ⟨_, pe_not pa, fun {B0 G H δ σ Q} S h => ?_⟩
  refine ha S (Rq.bind (rep := DRep X.K) h fun z ez u H1 G1 t1 r1 h1 => ?_)
  cases q : asB z with
  | ok k =>
    rw [q] at h1
    exact ⟨k, asB_rep r1 q, Rq.ok_self (rep := DRep X.K) t1.gh h1 (.bl (!k))⟩
  | exc c fs => exact absurd q asB_no
  | bad => rw [q] at h1; exact h1.elim
theorem d_if (C : PDT X W c ga) (A : PD X W a fa) (B : PD X W b fb) : PD X W (.IfExp c a b pos) (xIf ga fa fb) := by
  obtain ⟨tc, pc, hc⟩ := C.ex
  obtain ⟨ta, pa, ha⟩ := A.ex
  obtain ⟨tb, pb, hb⟩ := B.ex
  refine ⟨_, pe_ifExp pc pa pb, fun {B0 G H δ σ Q} S h => ?_⟩
  refine hc S (Rq.bind (rep := BRep) h fun z ez u H1 G1 t1 r1 h1 => ?_)
  cases r1
  cases z with
  | true => exact ha (S.step t1) h1
  | false => exact hb (S.step t1) h1
/-- arguments -/
theorem da_nil : PDA X W [] xNil := ⟨tNil, pa_nil, fun {B0 G H δ σ Q} S h => Rq.ok_self (rep := DReps X.K) S.gh h .nil⟩
theorem da_cons (A : PD X W a fa) (B : PDA X W es fes) (hs : starEach (a :: es) X.env = (false, eval a X.env) :: starEach es X.env := by rfl) : PDA X W (a :: es) (xCons fa fes) := by
  obtain ⟨ta, pa, ha⟩ := A.ex
  obtain ⟨tb, pb, hb⟩ := B.ex
  refine ⟨_, pa_cons pa pb hs, fun {B0 G H δ σ Q} S h => ?_⟩
  refine ha S (Rq.bind (rep := DRep X.K) h fun x ex v H1 G1 t1 r1 h1 => ?_)
  refine hb (S.step t1) (Rq.bind (rep := DReps X.K) h1 fun y ey w H2 G2 t2 r2 h2 => ?_)
  exact Rq.ok_self (rep := DReps X.K) t2.gh h2 (.cons (r1.mono t2.gg) r2)
theorem d_tup {k} (A : PDA X W es fes) : PD X W (.Tuple es k pos) (xTup fes) := by
  obtain ⟨ta, pa, ha⟩ := A.ex
  refine ⟨_, pe_tup pa, fun {B0 G H δ σ Q} S h => ?_⟩
  refine ha S (Rq.bind (rep := DReps X.K) h fun xs ex vs H1 G1 t1 r1 h1 => ?_)
  cases q : small xs.length with
  | true =>
    rw [q, if_pos rfl] at h1
    exact ⟨by rw [r1.length]; exact small_le q, fun p hp => Rq.ok_new (rep := DRep X.K) t1.gh hp h1 (.tup upd_same (r1.mono (Same.upd (t1.gh.none hp))))⟩
  | false => rw [q, if_neg (by decide)] at h1; exact h1.elim
theorem d_lst (A : PDA X W es fes) : PD X W (.List es pos) (xLst fes) := by
  obtain ⟨ta, pa, ha⟩ := A.ex
  refine ⟨_, pe_lst pa, fun {B0 G H δ σ Q} S h => ?_⟩
  refine ha S (Rq.bind (rep := DReps X.K) h fun xs ex vs H1 G1 t1 r1 h1 => ?_)
  cases q : small xs.length with
  | true =>
    rw [q, if_pos rfl] at h1
    exact ⟨by rw [r1.length]; exact small_le q, fun p hp => Rq.ok_new (rep := DRep X.K) t1.gh hp h1 (.lst upd_same (r1.mono (Same.upd (t1.gh.none hp))))⟩
  | false => rw [q, if_neg (by decide)] at h1; exact h1.elim
theorem d_un {o : UnaryOp} {r : V → Hp → VK → Prop} {op : DV → R DV} (ho : UnR X (unaryOp o) r)
    (od : ∀ {G H : Hp} {x : V} {dx : DV} {Q : VK} {W : Value → Option Addr → Hp → Prop}, Gh G H → DRep X.K G x dx → Rq X.K (DRep X.K) W G H (op dx) Q → r x H Q) (A : PD X W a fa) : PD X W (.UnaryOp o a pos) (xUn op fa) := by
  obtain ⟨ta, pa, ha⟩ := A.ex
  refine ⟨_, pe_un ho pa, fun {B0 G H δ σ Q} S h => ?_⟩
  exact ha S (Rq.bind (rep := DRep X.K) h fun x ex v H1 G1 t1 r1 h1 => od t1.gh r1 h1)
theorem d_chain {o o' : CmpOp} {r r' : R2} {op op' : DV → DV → R DV} (ho : OpR X (compareOp o) r) (ho' : OpR X (compareOp o') r') (od : OpD X r op) (od' : OpD X r' op') (A : PD X W a fa) (B : PD X W b fb) (C : PD X W c fc) (hm : lastMarks [o, o'] [b, c] = false := by with_unfolding_all rfl) :
    PD X W (.Compare a [o, o'] [b, c] pos) (xChain op op' fa fb fc) := by
  obtain ⟨ta, pa, ha⟩ := A.ex
  obtain ⟨tb, pb, hb⟩ := B.ex
  obtain ⟨tc, pc, hc⟩ := C.ex
  refine ⟨_, pe_chain ho ho' pa pb pc hm, fun {B0 G H δ σ Q} S h => ?_⟩
  refine ha S (Rq.bind (rep := DRep X.K) h fun x ex v H1 G1 t1 r1 h1 => ?_)
  refine hb (S.step t1) (Rq.bind (rep := DRep X.K) h1 fun y ey w H2 G2 t2 r2 h2 => ?_)
  refine od t2.gh (r1.mono t2.gg) r2 (Rq.bind (rep := DRep X.K) h2 fun z ez u H3 G3 t3 r3 h3 => ?_)
  cases q : asB z with
  | ok k =>
    rw [q] at h3
    refine ⟨k, asB_rep r3 q, ?_⟩
    cases k with
    | true =>
      rw [if_pos rfl]
      exact hc ((S.step t1).step (t2.trans t3)) (Rq.bind (rep := DRep X.K) h3 fun y' ey' w' H4 G4 t4 r4 h4 => od' t4.gh (r2.mono (t3.gg.trans t4.gg)) r4 h4)
    | false =>
      rw [if_neg (by decide)]
      exact Rq.ok_self (rep := DRep X.K) t3.gh h3 (.bl false)
  | exc c fs => exact absurd q asB_no
  | bad => rw [q] at h3; exact h3.elim
end
end LD

set_option maxHeartbeats 2000000
/-! Layer D, part C: operators, subscripts, built-ins. -/
namespace LD
open PySem PySem.Spec PyProof.Rows L2
variable [Tbs]

/-! ### numbers -/
def iBin (g : Int → Int → R DV) : DV → DV → R DV
  | .int i, .int j => g i j
  | _, _ => .bad
def inM (i : Int) : Bool := decide (-(2 ^ 64) < i) && decide (i < 2 ^ 64)
theorem inM_ok {i : Int} (h : inM i = true) : -(2 ^ 64) < i ∧ i < 2 ^ 64 := by
  obtain ⟨a, b⟩ := Bool.and_eq_true_iff.mp h
  exact ⟨of_decide_eq_true a, of_decide_eq_true b⟩
/-- + of ints, texts, lists, tuples -/
def oAdd : DV → DV → R DV
  | .int i, .int j => .ok (.int (i + j))
  | .str x, .str y => if small (x.length + y.length) = true then .ok (.str (x ++ y)) else .bad
  | .lst xs, .lst ys => if small (xs.length + ys.length) = true then .ok (.lst (xs ++ ys)) else .bad
  | .tup xs, .tup ys => if small (xs.length + ys.length) = true then .ok (.tup (xs ++ ys)) else .bad
  | _, _ => .bad
def oSub : DV → DV → R DV := iBin fun i j => .ok (.int (i - j))
def oMul : DV → DV → R DV := iBin fun i j => if inM i || inM j then .ok (.int (i * j)) else .bad
def oDiv : DV → DV → R DV := iBin fun i j => if decide (0 < j) && decide (j < 1073741824) then .ok (.int (i / j)) else .bad
def oMod : DV → DV → R DV := iBin fun i j => if decide (0 < j) then .ok (.int (i % j)) else .bad
def oPow : DV → DV → R DV := iBin fun i j => if decide (0 ≤ j) && (decide (j ≤ 1000000) && decide (i.natAbs < 2 ^ 64)) then .ok (.int (i ^ j.toNat)) else .bad
def oLt : DV → DV → R DV := iBin fun i j => .ok (.bl (decide (i < j)))
def oLe : DV → DV → R DV := iBin fun i j => .ok (.bl (decide (i ≤ j)))
def oGt : DV → DV → R DV := iBin fun i j => .ok (.bl (decide (j < i)))
def oGe : DV → DV → R DV := iBin fun i j => .ok (.bl (decide (j ≤ i)))
def oNeg : DV → R DV
  | .int i => .ok (.int (-i))
  | _ => .bad
section
variable {X : Cx}
theorem iBin_ok {K : PySem.W.Frag} {G H : Hp} {x y : V} {dx dy : DV} {g : Int → Int → R DV} {W : Value → Option Addr → Hp → Prop} {Q : VK} (rx : DRep K G x dx) (ry : DRep K G y dy) (h : Rq K (DRep K) W G H (iBin g dx dy) Q) :
    ∃ i j, x = .int i ∧ y = .int j ∧ Rq K (DRep K) W G H (g i j) Q := by
  cases rx with
  | int i =>
    cases ry with
    | int j => exact ⟨i, j, rfl, rfl, h⟩
    | _ => exact h.elim
  | _ => exact h.elim
theorem rq_if {K : PySem.W.Frag} {G H : Hp} {W : Value → Option Addr → Hp → Prop} {Q : VK} {c : Bool} {d : DV} (h : Rq K (DRep K) W G H (if c = true then .ok d else .bad) Q) : c = true ∧ Rq K (DRep K) W G H (.ok d) Q := by
  cases c with
  | true => exact ⟨rfl, h⟩
  | false => exact h.elim
theorem od_sub : OpD X (rI0 fun i j => .int (i - j)) oSub := fun {G H x y dx dy Q W} s rx ry h => by
  obtain ⟨i, j, rfl, rfl, q⟩ := iBin_ok rx ry h
  exact ⟨i, j, rfl, rfl, q.ok_self s (.int _)⟩
theorem od_mul : OpD X (rI CMul fun i j => .int (i * j)) oMul := fun {G H x y dx dy Q W} s rx ry h => by
  obtain ⟨i, j, rfl, rfl, q⟩ := iBin_ok rx ry h
  obtain ⟨c, q⟩ := rq_if q
  exact ⟨i, j, rfl, rfl, (Bool.or_eq_true_iff.mp c).elim (fun z => .inl (inM_ok z)) (fun z => .inr (inM_ok z)), q.ok_self s (.int _)⟩
theorem od_div : OpD X (rI CDiv fun i j => .int (i / j)) oDiv := fun {G H x y dx dy Q W} s rx ry h => by
  obtain ⟨i, j, rfl, rfl, q⟩ := iBin_ok rx ry h
  obtain ⟨c, q⟩ := rq_if q
  obtain ⟨c1, c2⟩ := Bool.and_eq_true_iff.mp c
  exact ⟨i, j, rfl, rfl, ⟨of_decide_eq_true c1, of_decide_eq_true c2⟩, q.ok_self s (.int _)⟩
theorem od_mod : OpD X (rI (fun _ j => 0 < j) fun i j => .int (i % j)) oMod := fun {G H x y dx dy Q W} s rx ry h => by
  obtain ⟨i, j, rfl, rfl, q⟩ := iBin_ok rx ry h
  obtain ⟨c, q⟩ := rq_if q
  exact ⟨i, j, rfl, rfl, of_decide_eq_true c, q.ok_self s (.int _)⟩
theorem od_pow : OpD X (rI CPow fun i j => .int (i ^ j.toNat)) oPow := fun {G H x y dx dy Q W} s rx ry h => by
  obtain ⟨i, j, rfl, rfl, q⟩ := iBin_ok rx ry h
  obtain ⟨c, q⟩ := rq_if q
  obtain ⟨c1, c⟩ := Bool.and_eq_true_iff.mp c
  obtain ⟨c2, c3⟩ := Bool.and_eq_true_iff.mp c
  exact ⟨i, j, rfl, rfl, ⟨of_decide_eq_true c1, of_decide_eq_true c2, of_decide_eq_true c3⟩, q.ok_self s (.int _)⟩
theorem od_lt : OpD X (rI0 fun i j => .bl (decide (i < j))) oLt := fun {G H x y dx dy Q W} s rx ry h => by
  obtain ⟨i, j, rfl, rfl, q⟩ := iBin_ok rx ry h
  exact ⟨i, j, rfl, rfl, q.ok_self s (.bl _)⟩
theorem od_le : OpD X (rI0 fun i j => .bl (decide (i ≤ j))) oLe := fun {G H x y dx dy Q W} s rx ry h => by
  obtain ⟨i, j, rfl, rfl, q⟩ := iBin_ok rx ry h
  exact ⟨i, j, rfl, rfl, q.ok_self s (.bl _)⟩
theorem od_gt : OpD X (rI0 fun i j => .bl (decide (j < i))) oGt := fun {G H x y dx dy Q W} s rx ry h => by
  obtain ⟨i, j, rfl, rfl, q⟩ := iBin_ok rx ry h
  exact ⟨i, j, rfl, rfl, q.ok_self s (.bl _)⟩
theorem od_ge : OpD X (rI0 fun i j => .bl (decide (j ≤ i))) oGe := fun {G H x y dx dy Q W} s rx ry h => by
  obtain ⟨i, j, rfl, rfl, q⟩ := iBin_ok rx ry h
  exact ⟨i, j, rfl, rfl, q.ok_self s (.bl _)⟩
theorem od_neg {G H : Hp} {x : V} {dx : DV} {Q : VK} {W : Value → Option Addr → Hp → Prop} (s : Gh G H) (r : DRep X.K G x dx) (h : Rq X.K (DRep X.K) W G H (oNeg dx) Q) : rU (fun i => .int (-i)) x H Q := by
  cases r with
  | int i => exact ⟨i, rfl, h.ok_self s (.int _)⟩
  | _ => exact h.elim

/-! ### + -/
theorem od_add : OpD X (fun x y H Q => rI0 (fun i j => .int (i + j)) x y H Q ∨ (∃ i j, x = .str i ∧ y = .str j ∧ i.length + j.length ≤ sizeLine ∧ Q (.str (i ++ j)) H) ∨ rCat x y H Q ∨ rCatA X.K x y H Q) oAdd := fun {G H x y dx dy Q W} s rx ry h => by
  cases rx with
  | int i =>
    cases ry with
    | int j => exact .inl ⟨i, j, rfl, rfl, h.ok_self s (.int _)⟩
    | _ => exact h.elim
  | str i =>
    cases ry with
    | str j =>
      obtain ⟨c, q⟩ := rq_if h
      exact .inr (.inl ⟨i, j, rfl, rfl, small_le c, q.ok_self s (.str _)⟩)
    | _ => exact h.elim
  | lst e r =>
    cases ry with
    | lst e' r' =>
      obtain ⟨c, q⟩ := rq_if h
      exact .inr (.inr (.inl ⟨_, _, _, _, rfl, rfl, s _ _ e, s _ _ e', by rw [r.length, r'.length]; exact small_le c, fun p hp => q.ok_new s hp (.lst upd_same ((r.append r').mono (Same.upd (s.none hp))))⟩))
    | _ => exact h.elim
  | tup e r =>
    cases ry with
    | tup e' r' =>
      obtain ⟨c, q⟩ := rq_if h
      refine .inr (.inr (.inr ⟨_, _, _, _, rfl, rfl, SqT.of (s _ _ e), SqT.of (s _ _ e'), by rw [r.length, r'.length]; exact small_le c, fun z => ?_, fun _ z => ?_, fun _ _ p hp => q.ok_new s hp (.tup upd_same ((r.append r').mono (Same.upd (s.none hp))))⟩))
      · subst z; cases r; exact q.ok_self s (.tup e' r')
      · subst z; cases r'; rw [List.append_nil] at q; exact q.ok_self s (.tup e r)
    | _ => exact h.elim
  | _ => exact h.elim
theorem op_addA : OpR X (binaryOp .Add) (fun x y H Q => rI0 (fun i j => .int (i + j)) x y H Q ∨ (∃ i j, x = .str i ∧ y = .str j ∧ i.length + j.length ≤ sizeLine ∧ Q (.str (i ++ j)) H) ∨ rCat x y H Q ∨ rCatA X.K x y H Q) :=
  OpR.or op_add (OpR.or op_add_str (OpR.or op_cat op_catA))

/-! ### == of plain data -/
mutual
def toPy : DV → Option PyData
  | .non => some .none
  | .bl b => some (.bool b)
  | .int i => some (.int i)
  | .str x => some (.str x)
  | .tup xs => (toPys xs).map .tuple
  | .lst xs => (toPys xs).map .list
  | .ro xs => (toPys xs).map .list
  | .dic _ => none
  | .dit _ => none
  | .obj _ _ => none
def toPys : List DV → Option (List PyData)
  | [] => some []
  | x :: xs => match toPy x, toPys xs with
    | some p, some ps => some (p :: ps)
    | _, _ => none
end
mutual
theorem toPy_dp {K : PySem.W.Frag} {G H : Hp} (s : Gh G H) : ∀ {v : V} {d : DV} {p : PyData}, DRep K G v d → toPy d = some p → Dp K H v p
  | _, _, _, .non, e => by cases e; exact .non
  | _, _, _, .bl b, e => by cases e; exact .bl b
  | _, _, _, .int i, e => by cases e; exact .int i
  | _, _, _, .str x, e => by cases e; exact .str x
  | _, _, p, .tup (ds := ds) h r, e => by
    cases q : toPys ds with
    | none => simp only [toPy, q] at e; cases e
    | some ps => simp only [toPy, q] at e; cases e; exact .tup (SqT.of (s _ _ h)) (toPys_dp s r q)
  | _, _, p, .lst (ds := ds) h r, e => by
    cases q : toPys ds with
    | none => simp only [toPy, q] at e; cases e
    | some ps => simp only [toPy, q] at e; cases e; exact .lst (SqL.of (s _ _ h)) (toPys_dp s r q)
  | _, _, p, .ro (ds := ds) h r, e => by
    cases q : toPys ds with
    | none => simp only [toPy, q] at e; cases e
    | some ps => simp only [toPy, q] at e; cases e; exact .lst (Same.seq s h) (toPys_dp s r q)
  | _, _, _, .dic _ _, e => by simp only [toPy] at e; cases e
  | _, _, _, .dit _ _, e => by simp only [toPy] at e; cases e
  | _, _, _, .obj _ _, e => by simp only [toPy] at e; cases e
theorem toPys_dp {K : PySem.W.Frag} {G H : Hp} (s : Gh G H) : ∀ {v : List V} {d : List DV} {p : List PyData}, DReps K G v d → toPys d = some p → DpAll K H v p
  | _, _, _, .nil, e => by cases e; exact .nil
  | _, _, p, .cons (d := d) (ds := ds) a b, e => by
    cases q1 : toPy d with
    | none => simp only [toPys, q1] at e; cases e
    | some p1 =>
      cases q2 : toPys ds with
      | none => simp only [toPys, q1, q2] at e; cases e
      | some p2 => simp only [toPys, q1, q2] at e; cases e; exact .cons (toPy_dp s a q1) (toPys_dp s b q2)
end
def oEqW (neg : Bool) (x y : DV) : R DV := match toPy x, toPy y with
  | some p, some q => if SeqAt.shaped p && SeqAt.shaped q then .ok (.bl (if neg then !PyData.eqv p q else PyData.eqv p q)) else .bad
  | _, _ => .bad
def oEq : DV → DV → R DV := oEqW false
def oNe : DV → DV → R DV := oEqW true
theorem od_eqW {neg : Bool} {G H : Hp} {x y : V} {dx dy : DV} {Q : VK} {W : Value → Option Addr → Hp → Prop} (s : Gh G H) (rx : DRep X.K G x dx) (ry : DRep X.K G y dy) (h : Rq X.K (DRep X.K) W G H (oEqW neg dx dy) Q) :
    ∃ d e, Dp X.K H x d ∧ Dp X.K H y e ∧ SeqAt.shaped d = true ∧ SeqAt.shaped e = true ∧ Q (.bl (if neg then !PyData.eqv d e else PyData.eqv d e)) H := by
  unfold oEqW at h
  cases q1 : toPy dx with
  | none => rw [q1] at h; exact h.elim
  | some p =>
    cases q2 : toPy dy with
    | none => rw [q1, q2] at h; exact h.elim
    | some q =>
      rw [q1, q2] at h
      obtain ⟨c, z⟩ := rq_if h
      obtain ⟨c1, c2⟩ := Bool.and_eq_true_iff.mp c
      exact ⟨p, q, toPy_dp s rx q1, toPy_dp s ry q2, c1, c2, z.ok_self s (.bl _)⟩
theorem od_eq : OpD X (rEqD X.K) oEq := fun {G H x y dx dy Q W} s rx ry h => od_eqW s rx ry h
theorem od_ne : OpD X (rNeD X.K) oNe := fun {G H x y dx dy Q W} s rx ry h => od_eqW s rx ry h
/-- is None -/
def oIsN : DV → DV → R DV
  | x, .non => .ok (.bl (match x with | .non => true | _ => false))
  | _, _ => .bad
def oNotN : DV → DV → R DV
  | x, .non => .ok (.bl (match x with | .non => false | _ => true))
  | _, _ => .bad
theorem isN_rep {K : PySem.W.Frag} {G : Hp} {x : V} {d : DV} (r : DRep K G x d) : decide (x = .non) = (match d with | .non => true | _ => false) := by
  cases r <;> rfl
theorem od_isN : OpD X (fun x y H Q => y = .non ∧ Q (.bl (decide (x = .non))) H) oIsN := fun {G H x y dx dy Q W} s rx ry h => by
  cases ry with
  | non =>
    refine ⟨rfl, ?_⟩
    rw [isN_rep rx]
    cases dx <;> exact h.ok_self s (.bl _)
  | _ => cases dx <;> exact h.elim
theorem od_notN : OpD X (fun x y H Q => y = .non ∧ Q (.bl (!decide (x = .non))) H) oNotN := fun {G H x y dx dy Q W} s rx ry h => by
  cases ry with
  | non =>
    refine ⟨rfl, ?_⟩
    rw [isN_rep rx]
    cases dx <;> exact h.ok_self s (.bl _)
  | _ => cases dx <;> exact h.elim
/-- one sign in a text -/
def oInS : DV → DV → R DV
  | .str c, .str z => match c.cps.toList with
    | [k] => .ok (.bl (decide (k ∈ z.cps.toList)))
    | _ => .bad
  | _, _ => .bad
theorem str_one {c : Str} {k : Nat} (h : c.cps.toList = [k]) : c = ⟨#[k]⟩ := by
  obtain ⟨⟨l⟩⟩ := c
  simp only at h
  rw [h]
theorem od_inS : OpD X (fun x y H Q => ∃ (c : Nat) (z : Str), x = .str ⟨#[c]⟩ ∧ y = .str z ∧ Q (.bl (decide (c ∈ z.cps.toList))) H) oInS := fun {G H x y dx dy Q W} s rx ry h => by
  cases rx with
  | str c =>
    cases ry with
    | str z =>
      unfold oInS at h
      dsimp only at h
      split at h
      · rename_i k e
        exact ⟨k, z, by rw [str_one e], rfl, h.ok_self s (.bl _)⟩
      · exact h.elim
    | _ => exact h.elim
  | _ => exact h.elim

/-! ### subscripts -/
def oIx : DV → DV → R DV
  | .lst xs, .int i => R.ofO (atI xs i)
  | .ro xs, .int i => R.ofO (atI xs i)
  | .tup xs, .int i => R.ofO (atI xs i)
  | .str z, .int i => if small z.length then R.ofO ((atI z.cps.toList i).map fun c => .str ⟨#[c]⟩) else .bad
  | _, _ => .bad
theorem atI_rep {K : PySem.W.Frag} {G : Hp} {vs : List V} {ds : List DV} {i : Int} {d : DV} (r : DReps K G vs ds) (h : atI ds i = some d) : ∃ v, atI vs i = some v ∧ DRep K G v d := by
  unfold atI at h ⊢
  rw [r.length]
  cases q : ixN ds.length i with
  | none => rw [q] at h; cases h
  | some j => rw [q] at h; exact r.get h
theorem od_ix : OpD X (rIx X.K) oIx := fun {G H x y dx dy Q W} s rx ry h => by
  have key : ∀ {vs : List V} {ds : List DV} {i : Int}, DReps X.K G vs ds → Rq X.K (DRep X.K) W G H (R.ofO (atI ds i)) Q → ∃ v, atI vs i = some v ∧ Q v H := fun {vs ds i} r h => by
    cases e : atI ds i with
    | none => rw [e] at h; exact h.elim
    | some d =>
      rw [e] at h
      obtain ⟨v, hv, p⟩ := atI_rep r e
      exact ⟨v, hv, Rq.ok_self (rep := DRep X.K) s h p⟩
  cases ry with
  | int i =>
    cases rx with
    | lst e r =>
      obtain ⟨v, hv, q⟩ := key r h
      exact .inl ⟨_, _, i, v, rfl, rfl, SqL.of (s _ _ e), hv, q⟩
    | ro e r =>
      obtain ⟨v, hv, q⟩ := key r h
      exact .inl ⟨_, _, i, v, rfl, rfl, Same.seq s e, hv, q⟩
    | tup e r =>
      obtain ⟨v, hv, q⟩ := key r h
      exact .inr (.inl ⟨_, _, i, v, rfl, rfl, SqT.of (s _ _ e), hv, q⟩)
    | str z =>
      unfold oIx at h
      dsimp only at h
      cases c : small z.length with
      | false => rw [c] at h; exact h.elim
      | true =>
        rw [c, if_pos rfl] at h
        cases e : atI z.cps.toList i with
        | none => rw [e] at h; exact h.elim
        | some k => rw [e] at h; exact .inr (.inr ⟨z, i, k, rfl, rfl, small_le c, e, Rq.ok_self (rep := DRep X.K) s h (.str _)⟩)
    | _ => exact h.elim
  | _ => cases rx <;> exact h.elim
end
section
variable {X : Cx} {W : WX} {a b : Expr} {es : List Expr} {fa fb : Ev → R DV} {fes : Ev → R (List DV)} {pos : Pos}
theorem d_ixW {r : R2} {op : DV → DV → R DV} (hr : IxR X r) (od : OpD X r op) (A : PD X W a fa) (B : PD X W b fb) (hs : PlainIx b := by exact fun _ _ => rfl) : PD X W (.Subscript a b pos) (xOp op fa fb) := by
  obtain ⟨ta, pa, ha⟩ := A.ex
  obtain ⟨tb, pb, hb⟩ := B.ex
  refine ⟨_, pe_ix hr pa pb hs, fun {B0 G H δ σ Q} S h => ?_⟩
  refine ha S (Rq.bind (rep := DRep X.K) h fun x ex v H1 G1 t1 r1 h1 => ?_)
  refine hb (S.step t1) (Rq.bind (rep := DRep X.K) h1 fun y ey w H2 G2 t2 r2 h2 => ?_)
  exact od t2.gh (r1.mono t2.gg) r2 h2
theorem d_ix (A : PD X W a fa) (B : PD X W b fb) (hs : PlainIx b := by exact fun _ _ => rfl) : PD X W (.Subscript a b pos) (xOp oIx fa fb) := d_ixW ix_seq od_ix A B hs

/-! ### slices -/
structure PDO (X : Cx) (W : WX) (e : Option Expr) (f : Ev → R (Option Int)) : Prop where
  ex : ∃ t : TO, PO X e t ∧ ∀ {B : Bas} {G H : Hp} {δ : Ev} {σ : L2.St} {Q : Option Int → Hp → Prop}, SOk X.K B G H δ σ → Rq X.K (fun _ b a => b = a) (fun c d H' => W c d σ H') G H (f δ) Q → t σ H Q
def xNo : Ev → R (Option Int) := fun _ => .ok none
def asI : DV → R (Option Int)
  | .int i => .ok (some i)
  | _ => .bad
def xPart (fa : Ev → R DV) : Ev → R (Option Int) := fun δ => (fa δ).bind asI
theorem do_none : PDO X W none xNo := ⟨_, po_none, fun {B0 G H δ σ Q} S h => h none H G (Tr.refl S.gh) rfl⟩
theorem do_some (A : PD X W a fa) : PDO X W (some a) (xPart fa) := by
  obtain ⟨ta, pa, ha⟩ := A.ex
  refine ⟨_, po_some pa, fun {B0 G H δ σ Q} S h => ?_⟩
  refine ha S (Rq.bind (rep := DRep X.K) h fun x ex v H1 G1 t1 r1 h1 => ?_)
  cases r1 with
  | int i => exact ⟨i, rfl, h1 (some i) H1 G1 (Tr.refl t1.gh) rfl⟩
  | _ => exact h1.elim
def cutD {α : Type} (xs : List α) (lo hi : Option Int) : List α := (xs.drop (HT.sIx xs.length 0 lo)).take (HT.sIx xs.length xs.length hi - HT.sIx xs.length 0 lo)
def oSl (d : DV) (lo hi : Option Int) : R DV := match d with
  | .lst xs => .ok (.lst (cutD xs lo hi))
  | .ro xs => .ok (.lst (cutD xs lo hi))
  | .tup xs => .ok (.tup (cutD xs lo hi))
  | .str z => if small z.length then .ok (.str (cutS z lo hi)) else .bad
  | _ => .bad
theorem cut_rep {K : PySem.W.Frag} {G : Hp} {vs : List V} {ds : List DV} {lo hi : Option Int} (r : DReps K G vs ds) : DReps K G (cutV vs lo hi) (cutD ds lo hi) := by
  unfold cutV cutD
  rw [r.length]
  exact (r.drop _).take _
theorem sIx_le (n d : Nat) (h : d ≤ n) (o : Option Int) : HT.sIx n d o ≤ n := by
  unfold HT.sIx
  cases o with
  | none => exact h
  | some i =>
    dsimp only
    repeat (first | split | omega)
theorem cut_whole {α : Type} {xs : List α} {lo hi : Option Int} (h : HT.sIx xs.length 0 lo = 0 ∧ HT.sIx xs.length xs.length hi = xs.length) : cutD xs lo hi = xs := by
  unfold cutD
  rw [h.1, h.2]
  simp
def xSl (fa : Ev → R DV) (fl fh : Ev → R (Option Int)) : Ev → R DV := fun δ => (fa δ).bind fun x => (fl δ).bind fun l => (fh δ).bind fun u => oSl x l u
theorem d_slice {lo hi : Option Expr} {fl fh : Ev → R (Option Int)} {p2 : Pos} (A : PD X W a fa) (L : PDO X W lo fl) (U : PDO X W hi fh) : PD X W (.Subscript a (.Slice lo hi none p2) pos) (xSl fa fl fh) := by
  obtain ⟨ta, pa, ha⟩ := A.ex
  obtain ⟨tl, pl, hl⟩ := L.ex
  obtain ⟨tu, pu, hu⟩ := U.ex
  refine ⟨_, pe_slice (SlR.or sl_list (SlR.or sl_tupA sl_str)) pa pl pu, fun {B0 G H δ σ Q} S h => ?_⟩
  refine ha S (Rq.bind (rep := DRep X.K) h fun x ex v H1 G1 t1 r1 h1 => ?_)
  refine hl (S.step t1) (Rq.bind h1 fun l el l' H2 G2 t2 e2 h2 => ?_)
  subst e2
  refine hu ((S.step t1).step t2) (Rq.bind h2 fun u eu u' H3 G3 t3 e3 h3 => ?_)
  subst e3
  have r := r1.mono (t2.gg.trans t3.gg)
  have s := t3.gh
  cases r with
  | lst e r => exact .inl ⟨_, _, rfl, SqL.of (s _ _ e), fun p hp => Rq.ok_new (rep := DRep X.K) s hp h3 (.lst upd_same ((cut_rep r).mono (Same.upd (s.none hp))))⟩
  | ro e r => exact .inl ⟨_, _, rfl, Same.seq s e, fun p hp => Rq.ok_new (rep := DRep X.K) s hp h3 (.lst upd_same ((cut_rep r).mono (Same.upd (s.none hp))))⟩
  | tup e r =>
    refine .inr (.inl ⟨_, _, rfl, SqT.of (s _ _ e), fun z => ?_, fun _ p hp => Rq.ok_new (rep := DRep X.K) s hp h3 (.tup upd_same ((cut_rep r).mono (Same.upd (s.none hp))))⟩)
    rw [r.length] at z
    have q : oSl (.tup _) l' u' = .ok (.tup _) := congrArg (fun y => R.ok (DV.tup y)) (cut_whole z)
    rw [q] at h3
    exact Rq.ok_self (rep := DRep X.K) s h3 (.tup e r)
  | str z =>
    obtain ⟨c, q⟩ := rq_if h3
    exact .inr (.inr ⟨z, rfl, small_le c, Rq.ok_self (rep := DRep X.K) s q (.str _)⟩)
  | _ => exact h3.elim

/-! ### built-ins by name -/
/-- a built-in's reading by data -/
def CbD (X : Cx) (r : List V → Hp → VK → Prop) (op : List DV → R DV) : Prop :=
  ∀ {G H : Hp} {vs : List V} {ds : List DV} {Q : VK} {W : Value → Option Addr → Hp → Prop}, Gh G H → DReps X.K G vs ds → Rq X.K (DRep X.K) W G H (op ds) Q → r vs H Q
def xCB (op : List DV → R DV) (fes : Ev → R (List DV)) : Ev → R DV := fun δ => (fes δ).bind op
variable {x : Str} {p : Pos} {id T : String} {r : List V → Hp → VK → Prop} {op : List DV → R DV}
theorem d_callB (hc : CallR X (.builtin id) r) (od : CbD X r op) (hm : X.mg x = none) (hv : bootBuiltins x = some (.builtin id)) (A : PDA X W (a :: es) fes) (hg : Gl X x := by rfl) (hn : x ≠ "__name__" := by decide) (hdb : (x == ("__debug__" : Str)) = false := by decide)
    (he : starEach (a :: es) X.env = (false, eval a X.env) :: starEach es X.env := by rfl) (hpl : (backTo pos (starEach es X.env)).any (·.1) = false := by rfl) : PD X W (.Call (.Name x p) (a :: es) [] pos) (xCB op fes) := by
  obtain ⟨ta, pa, ha⟩ := A.ex
  refine ⟨_, pe_callB hc hg hm hv pa hn hdb he hpl, fun {B0 G H δ σ Q} S h => ?_⟩
  exact ha S (Rq.bind (rep := DReps X.K) h fun xs ex vs H1 G1 t1 r1 h1 => od t1.gh r1 h1)
theorem d_callTy (hc : CallR X (.type T) r) (od : CbD X r op) (hm : X.mg x = none) (hv : bootBuiltins x = some (.type T)) (A : PDA X W (a :: es) fes) (hg : Gl X x := by rfl) (hn : x ≠ "__name__" := by decide) (hdb : (x == ("__debug__" : Str)) = false := by decide)
    (he : starEach (a :: es) X.env = (false, eval a X.env) :: starEach es X.env := by rfl) (hpl : (backTo pos (starEach es X.env)).any (·.1) = false := by rfl) : PD X W (.Call (.Name x p) (a :: es) [] pos) (xCB op fes) := by
  obtain ⟨ta, pa, ha⟩ := A.ex
  refine ⟨_, pe_callTy hc hg hm hv pa hn hdb he hpl, fun {B0 G H δ σ Q} S h => ?_⟩
  exact ha S (Rq.bind (rep := DReps X.K) h fun xs ex vs H1 G1 t1 r1 h1 => od t1.gh r1 h1)
end
end LD

set_option maxHeartbeats 2000000
/-! Layer D, part D: statements. -/
namespace LD
open PySem PySem.Spec PyProof.Rows L2
variable [Tbs]

inductive SR where
  | nx (δ : Ev)
  | rt (d : DV)
  | bk (δ : Ev)
  | ct (δ : Ev)
  | ex (c : Str) (fs : List (Str × DV)) (δ : Ev)
  | bad
def SRq (K : PySem.W.Frag) (W : WX) (D : Ends) (B : Bas) (G : Hp) (r : SR) : Prop := match r with
  | .nx δ => ∀ σ H' G', Same G G' → SOk K B G' H' δ σ → D.nx σ H'
  | .bk δ => ∀ σ H' G', Same G G' → SOk K B G' H' δ σ → D.bk σ H'
  | .ct δ => ∀ σ H' G', Same G G' → SOk K B G' H' δ σ → D.ct σ H'
  | .rt d => ∀ v H' G', Tr B.G0 B.H0 G' H' → DRep K G' v d → D.rt v H'
  | .ex c fs δ => ∀ σ H' G' dx, Same G G' → SOk K B G' H' δ σ → XRep K G' H' dx fs → W (.ref (He.ga K c)) dx σ H'
  | .bad => False
theorem SRq.gg {K : PySem.W.Frag} {W : WX} {D : Ends} {B : Bas} {G G1 : Hp} {r : SR} (s : Same G G1) (h : SRq K W D B G r) : SRq K W D B G1 r := by
  cases r with
  | nx δ => exact fun σ H' G' g => h σ H' G' (s.trans g)
  | bk δ => exact fun σ H' G' g => h σ H' G' (s.trans g)
  | ct δ => exact fun σ H' G' g => h σ H' G' (s.trans g)
  | rt d => exact h
  | ex c fs δ => exact fun σ H' G' dx g => h σ H' G' dx (s.trans g)
  | bad => exact h

structure PSD (X : Cx) (W : WX) (st : Stmt) (F : Ev → SR) : Prop where
  ex : ∃ t : TS, PS X st t ∧ ∀ {B : Bas} {G H : Hp} {δ : Ev} {σ : L2.St} {D : Ends}, SOk X.K B G H δ σ → SRq X.K W D B G (F δ) → t D σ H
structure PSSD (X : Cx) (W : WX) (st : List Stmt) (F : Ev → SR) : Prop where
  ex : ∃ t : TS, PSs X st t ∧ ∀ {B : Bas} {G H : Hp} {δ : Ev} {σ : L2.St} {D : Ends}, SOk X.K B G H δ σ → SRq X.K W D B G (F δ) → t D σ H

/-- from an expression's result to a statement's -/
def xS {α : Type} (r : R α) (δ : Ev) (k : α → SR) : SR := match r with
  | .ok a => k a
  | .exc c fs => .ex c fs δ
  | .bad => .bad
theorem SRq.of {α β : Type} {K : PySem.W.Frag} {rep : Rel α β} {W : WX} {D : Ends} {B : Bas} {G H : Hp} {δ : Ev} {σ : L2.St} {r : R α} {k : α → SR} {Q : β → Hp → Prop} (S : SOk K B G H δ σ) (h : SRq K W D B G (xS r δ k))
    (c : ∀ a, r = .ok a → ∀ b H1 G1, Tr G H G1 H1 → rep G1 b a → SRq K W D B G1 (k a) → Q b H1) : Rq K rep (fun c d H' => W c d σ H') G H r Q := by
  cases r with
  | ok a => exact fun b H' G' t p => c a rfl b H' G' t p (h.gg t.gg)
  | exc cl fs => exact fun H' G' d t x => h σ H' G' d t.gg (S.step t) x
  | bad => exact h

/-! ### targets -/
structure PGD (X : Cx) (tg : Expr) (ix : List Nat) (g : DV → Ev → R Ev) : Prop where
  ex : ∃ t : TG, PG X tg t ∧ ∀ {B : Bas} {G H : Hp} {δ δ' : Ev} {σ : L2.St} {v : V} {d : DV} {Q : L2.St → Hp → Prop}, SOk X.K B G H δ σ → DRep X.K G v d → g d δ = .ok δ' →
    (∀ σ', SOk X.K B G H δ' σ' → (∀ vs : List Nat, (∀ i ∈ ix, i ∈ vs) → wipe σ' vs = wipe σ vs) → Q σ' H) → t v σ H Q
structure PGsD (X : Cx) (tg : List Expr) (ix : List Nat) (g : List DV → Ev → R Ev) : Prop where
  ex : ∃ t : TGs, PGs X tg t ∧ ∀ {B : Bas} {G H : Hp} {δ δ' : Ev} {σ : L2.St} {v : List V} {d : List DV} {Q : L2.St → Hp → Prop}, SOk X.K B G H δ σ → DReps X.K G v d → g d δ = .ok δ' →
    (∀ σ', SOk X.K B G H δ' σ' → (∀ vs : List Nat, (∀ i ∈ ix, i ∈ vs) → wipe σ' vs = wipe σ vs) → Q σ' H) → t v σ H Q
def gN (i : Nat) : DV → Ev → R Ev := fun d δ => .ok (δ.set i (.pu d))
def gsNil : List DV → Ev → R Ev := fun ds δ => match ds with
  | [] => .ok δ
  | _ => .bad
def gsCons (g : DV → Ev → R Ev) (gs : List DV → Ev → R Ev) : List DV → Ev → R Ev := fun ds δ => match ds with
  | d :: ds => (g d δ).bind (gs ds)
  | [] => .bad
def gT (n : Nat) (gs : List DV → Ev → R Ev) : DV → Ev → R Ev := fun d δ => match d with
  | .tup ds => if Nat.beq ds.length n then gs ds δ else .bad
  | .lst ds => if Nat.beq ds.length n then gs ds δ else .bad
  | _ => .bad
theorem wipe_set {σ : L2.St} {i : Nat} {v : Option V} : ∀ {vs : List Nat}, i ∈ vs → wipe (σ.set i v) vs = wipe σ vs
  | j :: vs, h => by
    show (wipe (σ.set i v) vs).set j none = (wipe σ vs).set j none
    by_cases q : i ∈ vs
    · rw [wipe_set q]
    · have e : i = j := (List.mem_cons.mp h).resolve_right q
      subst e
      have key : ∀ (ws : List Nat) (τ : L2.St), (wipe (τ.set i v) ws).set i none = (wipe τ ws).set i none := by
        intro ws
        induction ws with
        | nil => intro τ; show (τ.set i v).set i none = τ.set i none; rw [List.set_set]
        | cons k ws ih =>
          intro τ
          show ((wipe (τ.set i v) ws).set k none).set i none = ((wipe τ ws).set k none).set i none
          by_cases e : k = i
          · subst e; rw [List.set_set, List.set_set]; exact ih τ
          · rw [List.set_comm _ _ e, List.set_comm _ _ e, ih τ]
      exact key vs σ
section
variable {X : Cx} {W : WX} {a b c : Expr} {es : List Expr} {fa fb fc : Ev → R DV} {fes : Ev → R (List DV)} {ga gb : Ev → R Bool} {pos : Pos}
theorem dg_name (i : Nat) {x : Str} (hN : X.N.Nodup) (hi : X.N[i]? = some x := by rfl) (hx : Loc X.env.scope x := by first | exact Or.inl rfl | exact Or.inr rfl)
    (hf : X.fn x = true ∨ X.env.scope.names.lookup x = some .local := by first | exact .inl rfl | exact .inr rfl) : PGD X (.Name x pos) [i] (gN i) := by
  refine ⟨_, pg_name hN hi hx hf, fun {B0 G H δ δ' σ v d Q} S r e h => ?_⟩
  cases e
  exact h _ (S.set i r) fun vs hv => wipe_set (hv i (List.mem_singleton.mpr rfl))
theorem dgs_nil : PGsD X [] [] gsNil := by
  refine ⟨_, pgs_nil, fun {B0 G H δ δ' σ v d Q} S r e h => ?_⟩
  cases r with
  | nil => cases e; exact ⟨rfl, h _ S fun _ _ => rfl⟩
  | cons _ _ => cases e
theorem dgs_cons {ix jx : List Nat} {g : DV → Ev → R Ev} {gs : List DV → Ev → R Ev} (A : PGD X a ix g) (B : PGsD X es jx gs)
    (hs : (assignEach (a :: es) X.env).map (·.2) = assign a X.env :: (assignEach es X.env).map (·.2) := by rfl) : PGsD X (a :: es) (ix ++ jx) (gsCons g gs) := by
  obtain ⟨ta, pa, ha⟩ := A.ex
  obtain ⟨tb, pb, hb⟩ := B.ex
  refine ⟨_, pgs_cons pa pb hs, fun {B0 G H δ δ' σ v d Q} S r e h => ?_⟩
  cases r with
  | nil => cases e
  | cons r1 r2 =>
    rename_i v1 d1 vs ds
    have e' : (g d1 δ).bind (gs ds) = .ok δ' := e
    cases q : g d1 δ with
    | ok δ1 =>
      rw [q] at e'
      refine ⟨_, _, rfl, ha S r1 q fun σ1 S1 w1 => hb S1 r2 e' fun σ2 S2 w2 => h σ2 S2 fun vs hv => ?_⟩
      rw [w2 vs fun i hi => hv i (List.mem_append_right _ hi), w1 vs fun i hi => hv i (List.mem_append_left _ hi)]
    | exc _ _ => rw [q] at e'; cases e'
    | bad => rw [q] at e'; cases e'
/-- what unpacks: a tuple or a list -/
def gSeq (K : PySem.W.Frag) (n : Nat) (t : TGs) : TG := fun v σ H Q => gTup K n t v σ H Q ∨ gLst K n t v σ H Q
theorem PG.or {tg : Expr} {t u : TG} (A : PG X tg t) (B : PG X tg u) : PG X tg (fun v σ H Q => t v σ H Q ∨ u v σ H Q) :=
  ⟨fun pins s σ H v w Q I r h => h.elim (fun z => A.run pins s σ H v w Q I r z) fun z => B.run pins s σ H v w Q I r z⟩
theorem dg_tup {ix : List Nat} {gs : List DV → Ev → R Ev} {k n : Nat} (hc : X.calm = true) (A : PGsD X es ix gs) (hn : (assignEach es X.env).length = n := by rfl) (hst : (assignEach es X.env).findIdx? (·.1) = none := by rfl) :
    PGD X (.Tuple es k pos) ix (gT n gs) := by
  obtain ⟨ta, pa, ha⟩ := A.ex
  refine ⟨_, PG.or (pg_tup hc pa hn hst) (pg_lst hc pa hn hst), fun {B0 G H δ δ' σ v d Q} S r e h => ?_⟩
  cases r with
  | tup e1 r1 =>
    rename_i p vs ds
    have e' : (if Nat.beq ds.length n = true then gs ds δ else .bad) = .ok δ' := e
    cases q : Nat.beq ds.length n with
    | true =>
      rw [q, if_pos rfl] at e'
      exact .inl ⟨p, vs, rfl, SqT.of (S.gh _ _ e1), by rw [r1.length]; exact Nat.eq_of_beq_eq_true q, ha S r1 e' h⟩
    | false => rw [q] at e'; cases e'
  | lst e1 r1 =>
    rename_i p vs ds
    have e' : (if Nat.beq ds.length n = true then gs ds δ else .bad) = .ok δ' := e
    cases q : Nat.beq ds.length n with
    | true =>
      rw [q, if_pos rfl] at e'
      exact .inr ⟨p, vs, rfl, SqL.of (S.gh _ _ e1), by rw [r1.length]; exact Nat.eq_of_beq_eq_true q, ha S r1 e' h⟩
    | false => rw [q] at e'; cases e'
  | _ => cases e

/-! ### simple statements -/
def sSeq (F F' : Ev → SR) : Ev → SR := fun δ => match F δ with
  | .nx δ' => F' δ'
  | r => r
def sNx : Ev → SR := fun δ => .nx δ
def sSet (i : Nat) (f : Ev → R DV) : Ev → SR := fun δ => xS (f δ) δ fun d => .nx (δ.set i (.pu d))
def sAsg (f : Ev → R DV) (g : DV → Ev → R Ev) : Ev → SR := fun δ => xS (f δ) δ fun d => match g d δ with
  | .ok δ' => .nx δ'
  | _ => .bad
def sPar (i j : Nat) (f f' : Ev → R DV) : Ev → SR := fun δ => xS (f δ) δ fun d => xS (f' δ) δ fun d' => .nx ((δ.set i (.pu d)).set j (.pu d'))
def sRet (f : Ev → R DV) : Ev → SR := fun δ => xS (f δ) δ .rt
def sDrop (f : Ev → R DV) : Ev → SR := fun δ => xS (f δ) δ fun _ => .nx δ
def sIf (c : Ev → R Bool) (F F' : Ev → SR) : Ev → SR := fun δ => xS (c δ) δ fun z => if z = true then F δ else F' δ
variable {st : Stmt} {sts : List Stmt} {F F' : Ev → SR}
theorem dss_nil : PSSD X W [] sNx := ⟨tNext, pss_nil, fun {B0 G H δ σ D} S h => h σ H G (Same.refl _) S⟩
theorem seq_req {K : PySem.W.Frag} {D : Ends} {B : Bas} {G : Hp} {δ : Ev} {u : TS} (h : SRq K W D B G (sSeq F F' δ)) (k : ∀ δ' σ H' G', Same G G' → SOk K B G' H' δ' σ → SRq K W D B G' (F' δ') → u D σ H') :
    SRq K W { D with nx := u D } B G (F δ) := by
  unfold sSeq at h
  cases q : F δ with
  | nx δ' => rw [q] at h; exact fun σ H' G' g S => k δ' σ H' G' g S (h.gg g)
  | rt d => rw [q] at h; exact h
  | bk δ' => rw [q] at h; exact h
  | ct δ' => rw [q] at h; exact h
  | ex c fs δ' => rw [q] at h; exact h
  | bad => rw [q] at h; exact h
theorem dss_cons (A : PSD X W st F) (B : PSSD X W sts F') : PSSD X W (st :: sts) (sSeq F F') := by
  obtain ⟨ta, pa, ha⟩ := A.ex
  obtain ⟨tb, pb, hb⟩ := B.ex
  exact ⟨_, pss_cons pa pb, fun {B0 G H δ σ D} S h => ha S (seq_req h fun δ' σ' H' G' g S' h' => hb S' h')⟩
theorem dss_one (A : PSD X W st F) : PSSD X W [st] F := by
  obtain ⟨ta, pa, ha⟩ := A.ex
  exact ⟨ta, pss_one pa, ha⟩
/-- ahead of a statement: the i-th name's own object is changed by no one from here on -/
theorem dss_frz (i : Nat) (A : PSSD X W sts F) : PSSD X W sts (fun δ => F (frz δ i)) := by
  obtain ⟨ta, pa, ha⟩ := A.ex
  refine ⟨ta, pa, fun {B0 G H δ σ D} S h => ?_⟩
  obtain ⟨G', g, S'⟩ := S.frz i
  exact ha S' (h.gg g)
theorem ds_set (i : Nat) {x : Str} {pos' : Pos} (hN : X.N.Nodup) (A : PD X W a fa) (hi : X.N[i]? = some x := by rfl) (hx : Loc X.env.scope x := by first | exact Or.inl rfl | exact Or.inr rfl) (hs : swapsWith a (some (.Name x pos')) pos.line X.env = pure false := by rfl)
    (hf : X.fn x = true ∨ X.env.scope.names.lookup x = some .local := by first | exact .inl rfl | exact .inr rfl) : PSD X W (.Assign [.Name x pos'] a pos) (sSet i fa) := by
  obtain ⟨ta, pa, ha⟩ := A.ex
  refine ⟨_, L2.ps_set hN hi hx pa hs hf, fun {B0 G H δ σ D} S h => ?_⟩
  exact ha S (SRq.of S h fun d e v H1 G1 t1 r1 h1 => h1 _ _ _ (Same.refl _) ((S.step t1).set i r1))
theorem ds_asg {ix : List Nat} {g : DV → Ev → R Ev} (A : PD X W b fb) (B : PGD X a ix g) (hs : swapsWithSole [a] b pos.line X.env = pure false := by rfl) (hw : swappedStores [a] b X.env = pure none := by rfl)
    (h1 : (assignEach [a] X.env).map (·.2) = [assign a X.env] := by rfl) : PSD X W (.Assign [a] b pos) (sAsg fb g) := by
  obtain ⟨ta, pa, ha⟩ := A.ex
  obtain ⟨tb, pb, hb⟩ := B.ex
  refine ⟨_, ps_asg pa pb hs hw h1, fun {B0 G H δ σ D} S h => ?_⟩
  refine ha S (SRq.of S h fun d e v H1 G1 t1 r1 h1 => ?_)
  cases q : g d δ with
  | ok δ' => rw [q] at h1; exact hb (S.step t1) r1 q fun σ' S' _ => h1 _ _ _ (Same.refl _) S'
  | exc _ _ => rw [q] at h1; exact h1.elim
  | bad => rw [q] at h1; exact h1.elim
theorem ds_par (i j : Nat) {x y : Str} {px py pt : Pos} {kt k2 pt2} (hc : X.calm = true) (hN : X.N.Nodup) (A : PD X W a fa) (B : PD X W b fb) (hi : X.N[i]? = some x := by rfl) (hj : X.N[j]? = some y := by rfl) (hij : i ≠ j := by decide)
    (hx : X.env.scope.names.lookup x = some .local := by rfl) (hy : X.env.scope.names.lookup y = some .local := by rfl)
    (hw : swappedStores [.Tuple [.Name x px, .Name y py] kt pt] (.Tuple [a, b] k2 pt2) X.env = pure (some [x, y]) := by rfl)
    (hs : swapsWithSole [.Tuple [.Name x px, .Name y py] kt pt] (.Tuple [a, b] k2 pt2) pos.line X.env = pure false := by rfl)
    (hs1 : starEach (a :: [b]) X.env = (false, eval a X.env) :: starEach [b] X.env := by rfl) (hs2 : starEach (b :: []) X.env = (false, eval b X.env) :: starEach [] X.env := by rfl) :
    PSD X W (.Assign [.Tuple [.Name x px, .Name y py] kt pt] (.Tuple [a, b] k2 pt2) pos) (sPar i j fa fb) := by
  obtain ⟨ta, pa, ha⟩ := A.ex
  obtain ⟨tb, pb, hb⟩ := B.ex
  refine ⟨_, L2.ps_par hc hN hi hj hij hx hy (pa_cons pa (pa_cons pb pa_nil hs2) hs1) hw hs, fun {B0 G H δ σ D} S h => ?_⟩
  refine ha S (SRq.of S h fun d e v H1 G1 t1 r1 h1 => ?_)
  refine hb (S.step t1) (SRq.of (S.step t1) h1 fun d' e' v' H2 G2 t2 r2 h2 => ?_)
  exact ⟨v, v', rfl, h2 _ _ _ (Same.refl _) ((((S.step t1).step t2).set i (r1.mono t2.gg)).set j r2)⟩
theorem ds_ret (A : PD X W a fa) : PSD X W (.Return (some a) pos) (sRet fa) := by
  obtain ⟨ta, pa, ha⟩ := A.ex
  refine ⟨_, L2.ps_ret pa, fun {B0 G H δ σ D} S h => ?_⟩
  exact ha S (SRq.of S h fun d e v H1 G1 t1 r1 h1 => h1 v H1 G1 (S.step t1).tr r1)
theorem ds_retN : PSD X W (.Return none pos) (fun _ => .rt .non) := ⟨_, ps_retN, fun {B0 G H δ σ D} S h => h .non H G S.tr .non⟩
theorem ds_pass : PSD X W (.Pass pos) sNx := ⟨_, ps_pass, fun {B0 G H δ σ D} S h => h σ H G (Same.refl _) S⟩
theorem ds_break : PSD X W (.Break pos) (fun δ => .bk δ) := ⟨_, ps_break, fun {B0 G H δ σ D} S h => h σ H G (Same.refl _) S⟩
theorem ds_continue : PSD X W (.Continue pos) (fun δ => .ct δ) := ⟨_, ps_continue, fun {B0 G H δ σ D} S h => h σ H G (Same.refl _) S⟩
theorem ds_drop (A : PD X W a fa) (hs : swapsWith a none pos.line X.env = pure false := by rfl) : PSD X W (.Expr a pos) (sDrop fa) := by
  obtain ⟨ta, pa, ha⟩ := A.ex
  refine ⟨_, ps_expr pa hs, fun {B0 G H δ σ D} S h => ?_⟩
  exact ha S (SRq.of S h fun d e v H1 G1 t1 r1 h1 => h1 _ _ _ (Same.refl _) (S.step t1))
theorem ds_if {st1 st2 : List Stmt} (C : PDT X W c ga) (A : PSSD X W st1 F) (B : PSSD X W st2 F') : PSD X W (.If c st1 st2 pos) (sIf ga F F') := by
  obtain ⟨tc, pc, hc⟩ := C.ex
  obtain ⟨ta, pa, ha⟩ := A.ex
  obtain ⟨tb, pb, hb⟩ := B.ex
  refine ⟨_, L2.ps_if pc pa pb, fun {B0 G H δ σ D} S h => ?_⟩
  refine hc S (SRq.of S h fun z e b H1 G1 t1 r1 h1 => ?_)
  cases r1
  cases z with
  | true => exact ha (S.step t1) h1
  | false => exact hb (S.step t1) h1

/-! ### what is walked -/
structure Walks (K : PySem.W.Frag) (J : It) (ds : List DV) (G : Hp) : Prop where
  stop : ∀ H, Same G H → J.stop ds.length H
  go : ∀ i H, Same G H → i < ds.length → J.go i H
  yld : ∀ i H x H' Gc, Same G Gc → Gh Gc H → i < ds.length → J.yld i H x H' → ∃ G' d, Tr Gc H G' H' ∧ ds[i]? = some d ∧ DRep K G' x d
structure PID (X : Cx) (W : WX) (tg iter : Expr) (f : Ev → R (List DV)) : Prop where
  ex : ∃ wi : TI, PI X tg iter wi ∧ ∀ {B : Bas} {G H : Hp} {δ : Ev} {σ : L2.St} {Q : It → Hp → Prop}, SOk X.K B G H δ σ → Rq X.K (fun G' J ds => Walks X.K J ds G') (fun c d H' => W c d σ H') G H (f δ) Q → wi σ H Q
def asSeq : DV → R (List DV)
  | .lst xs => .ok xs
  | .ro xs => .ok xs
  | _ => .bad
def asTup : DV → R (List DV)
  | .tup xs => .ok xs
  | _ => .bad
def asSigns : DV → R (List DV)
  | .str z => .ok (z.cps.toList.map fun c => .str ⟨#[c]⟩)
  | _ => .bad
def xSrc (as_ : DV → R (List DV)) (f : Ev → R DV) : Ev → R (List DV) := fun δ => (f δ).bind as_
theorem walks_list {K : PySem.W.Frag} {G : Hp} {p : Addr} {vs : List V} {ds : List DV} (h : SqL K G p vs) (r : DReps K G vs ds) : Walks K (Itl K p) ds G := by
  refine ⟨fun H s => ⟨vs, Same.seq s h, by rw [r.length]; exact Nat.le_refl _⟩, fun i H s hi => ?_, fun i H x H' Gc g s hi y => ?_⟩
  · rw [← r.length] at hi
    exact ⟨vs, vs[i], Same.seq s h, List.getElem?_eq_getElem hi⟩
  · obtain ⟨e, y⟩ := y
    subst e
    have e1 := y vs (Same.seq (g.trans s) h)
    obtain ⟨d, hd, p⟩ := r.get' e1
    exact ⟨Gc, d, Tr.refl s, hd, p.mono g⟩
theorem walks_tup {K : PySem.W.Frag} {G : Hp} {p : Addr} {vs : List V} {ds : List DV} (h : SqT K G p vs) (r : DReps K G vs ds) : Walks K (Itt K p) ds G := by
  refine ⟨fun H s => ⟨vs, SqT.same s h, by rw [r.length]; exact Nat.le_refl _⟩, fun i H s hi => ?_, fun i H x H' Gc g s hi y => ?_⟩
  · rw [← r.length] at hi
    exact ⟨vs, vs[i], SqT.same s h, List.getElem?_eq_getElem hi⟩
  · obtain ⟨e, y⟩ := y
    subst e
    have e1 := y vs (SqT.same (g.trans s) h)
    obtain ⟨d, hd, p⟩ := r.get' e1
    exact ⟨Gc, d, Tr.refl s, hd, p.mono g⟩
variable {tg iter : Expr}
theorem di_list (A : PD X W iter fa) : PID X W tg iter (xSrc asSeq fa) := by
  obtain ⟨ta, pa, ha⟩ := A.ex
  refine ⟨_, pi_list pa, fun {B0 G H δ σ Q} S h => ?_⟩
  refine ha S (Rq.bind (rep := DRep X.K) h fun x ex v H1 G1 t1 r1 h1 => ?_)
  cases r1 with
  | lst e r => exact ⟨_, rfl, ⟨_, SqL.of (t1.gh _ _ e)⟩, h1 _ H1 G1 (Tr.refl t1.gh) (walks_list (SqL.of e) r)⟩
  | ro e r => exact ⟨_, rfl, ⟨_, Same.seq t1.gh e⟩, h1 _ H1 G1 (Tr.refl t1.gh) (walks_list e r)⟩
  | _ => exact h1.elim
theorem di_tup (A : PD X W iter fa) : PID X W tg iter (xSrc asTup fa) := by
  obtain ⟨ta, pa, ha⟩ := A.ex
  refine ⟨_, pi_tup pa, fun {B0 G H δ σ Q} S h => ?_⟩
  refine ha S (Rq.bind (rep := DRep X.K) h fun x ex v H1 G1 t1 r1 h1 => ?_)
  cases r1 with
  | tup e r => exact ⟨_, rfl, ⟨_, SqT.of (t1.gh _ _ e)⟩, h1 _ H1 G1 (Tr.refl t1.gh) (walks_tup (SqT.of e) r)⟩
  | _ => exact h1.elim
theorem di_str (A : PD X W iter fa) : PID X W tg iter (xSrc asSigns fa) := by
  obtain ⟨ta, pa, ha⟩ := A.ex
  refine ⟨_, pi_str pa, fun {B0 G H δ σ Q} S h => ?_⟩
  refine ha S (Rq.bind (rep := DRep X.K) h fun x ex v H1 G1 t1 r1 h1 => ?_)
  cases r1 with
  | str z =>
    refine ⟨z, rfl, h1 _ H1 G1 (Tr.refl t1.gh) ⟨fun H s => ?_, fun i H s hi => ?_, fun i H x H' Gc g s hi y => ?_⟩⟩
    · show z.cps.size ≤ _
      simp
    · show i < z.cps.size
      simpa using hi
    · obtain ⟨e, c, hc, rfl⟩ := y
      subst e
      exact ⟨Gc, .str ⟨#[c]⟩, Tr.refl s, by simp [hc], .str _⟩
  | _ => exact h1.elim
def intsFrom (lo : Int) (n : Nat) : List DV := (List.range n).map fun i : Nat => DV.int (lo + (i : Int))
theorem walks_range {K : PySem.W.Frag} {G : Hp} (lo : Int) (n : Nat) : Walks K (Itr lo n) (intsFrom lo n) G := by
  have hl : (intsFrom lo n).length = n := by simp [intsFrom]
  refine ⟨fun H s => ?_, fun i H s hi => ?_, fun i H x H' Gc g s hi y => ?_⟩
  · rw [hl]; exact Nat.le_refl n
  · rw [hl] at hi; exact hi
  · obtain ⟨e, rfl⟩ := y
    subst e
    rw [hl] at hi
    exact ⟨Gc, .int (lo + i), Tr.refl s, by simp [intsFrom, hi], .int _⟩
def rng62 (i : Int) : Bool := decide (-(2 ^ 62) ≤ i) && decide (i < 2 ^ 62)
def asRange1 : List DV → R (List DV)
  | [.int j] => if rng62 j then .ok (intsFrom 0 j.toNat) else .bad
  | _ => .bad
def asRange2 : List DV → R (List DV)
  | [.int i, .int j] => if rng62 i && rng62 j then .ok (intsFrom i (j - i).toNat) else .bad
  | _ => .bad
theorem rng62_ok {i : Int} (h : rng62 i = true) : -(2 ^ 62) ≤ i ∧ i < 2 ^ 62 := by
  obtain ⟨a, b⟩ := Bool.and_eq_true_iff.mp h
  exact ⟨of_decide_eq_true a, of_decide_eq_true b⟩
theorem rq_ifB {α β : Type} {K : PySem.W.Frag} {rep : Rel α β} {G H : Hp} {W : Value → Option Addr → Hp → Prop} {Q : β → Hp → Prop} {c : Bool} {a : α} (h : Rq K rep W G H (if c = true then .ok a else .bad) Q) : c = true ∧ Rq K rep W G H (.ok a) Q := by
  cases c with
  | true => exact ⟨rfl, h⟩
  | false => exact h.elim
theorem asRange1_inv {K : PySem.W.Frag} {G H : Hp} {rep : Rel (List DV) It} {W : Value → Option Addr → Hp → Prop} {Q : It → Hp → Prop} {vs : List V} {ds : List DV} (r : DReps K G vs ds) (h : Rq K rep W G H (asRange1 ds) Q) :
    ∃ j, vs = [.int j] ∧ rng62 j = true ∧ Rq K rep W G H (.ok (intsFrom 0 j.toNat)) Q := by
  unfold asRange1 at h
  split at h
  · cases r with
    | cons ra rb =>
      cases ra
      cases rb
      obtain ⟨c, q⟩ := rq_ifB h
      exact ⟨_, rfl, c, q⟩
  · exact h.elim
theorem asRange2_inv {K : PySem.W.Frag} {G H : Hp} {rep : Rel (List DV) It} {W : Value → Option Addr → Hp → Prop} {Q : It → Hp → Prop} {vs : List V} {ds : List DV} (r : DReps K G vs ds) (h : Rq K rep W G H (asRange2 ds) Q) :
    ∃ i j, vs = [.int i, .int j] ∧ rng62 i = true ∧ rng62 j = true ∧ Rq K rep W G H (.ok (intsFrom i (j - i).toNat)) Q := by
  unfold asRange2 at h
  split at h
  · cases r with
    | cons ra rb =>
      cases ra
      cases rb with
      | cons rc rd =>
        cases rc
        cases rd
        obtain ⟨c, q⟩ := rq_ifB h
        obtain ⟨c1, c2⟩ := Bool.and_eq_true_iff.mp c
        exact ⟨_, _, rfl, c1, c2, q⟩
  · exact h.elim
theorem di_range1 {p : Pos} (hm : X.mg "range" = none) (A : PDA X W [a] fes) (hg : Gl X "range" := by rfl) (hs : starEach [a] X.env = [(false, eval a X.env)] := by rfl) : PID X W tg (.Call (.Name "range" p) [a] [] pos) (fun δ => (fes δ).bind asRange1) := by
  obtain ⟨ta, pa, ha⟩ := A.ex
  refine ⟨_, pi_range1 hg hm pa hs, fun {B0 G H δ σ Q} S h => ?_⟩
  refine ha S (Rq.bind (rep := DReps X.K) h fun x ex v H1 G1 t1 r1 h1 => ?_)
  obtain ⟨j, rfl, c, q⟩ := asRange1_inv r1 h1
  exact ⟨j, rfl, (rng62_ok c).1, (rng62_ok c).2, q _ H1 G1 (Tr.refl t1.gh) (walks_range 0 j.toNat)⟩
theorem di_range2 {p : Pos} (hm : X.mg "range" = none) (A : PDA X W [a, b] fes) (hg : Gl X "range" := by rfl) (hs : starEach [a, b] X.env = [(false, eval a X.env), (false, eval b X.env)] := by rfl) (hs2 : starEach [b] X.env = [(false, eval b X.env)] := by rfl) : PID X W tg (.Call (.Name "range" p) [a, b] [] pos) (fun δ => (fes δ).bind asRange2) := by
  obtain ⟨ta, pa, ha⟩ := A.ex
  refine ⟨_, pi_range2 hg hm pa hs hs2, fun {B0 G H δ σ Q} S h => ?_⟩
  refine ha S (Rq.bind (rep := DReps X.K) h fun x ex v H1 G1 t1 r1 h1 => ?_)
  obtain ⟨i, j, rfl, c1, c2, q⟩ := asRange2_inv r1 h1
  exact ⟨i, j, rfl, ⟨(rng62_ok c1).1, (rng62_ok c1).2, (rng62_ok c2).1, (rng62_ok c2).2⟩, q _ H1 G1 (Tr.refl t1.gh) (walks_range i (j - i).toNat)⟩

/-! ### for -/
def forD (g : DV → Ev → R Ev) (F : Ev → SR) : List DV → Ev → SR
  | [], δ => .nx δ
  | d :: ds, δ => match g d δ with
    | .ok δ1 => match F δ1 with
      | .nx δ2 => forD g F ds δ2
      | .ct δ2 => forD g F ds δ2
      | .bk δ2 => .nx δ2
      | .rt d => .rt d
      | .ex c fs δ2 => .ex c fs δ2
      | .bad => .bad
    | _ => .bad
def sFor (fi : Ev → R (List DV)) (g : DV → Ev → R Ev) (F : Ev → SR) : Ev → SR := fun δ => xS (fi δ) δ fun ds => forD g F ds δ
theorem ds_for {ix : List Nat} {fi : Ev → R (List DV)} {g : DV → Ev → R Ev} (hp : PassesOwn (model X.prog X.w) X.A X.env X.xe) (hc : X.calm = true) (I : PID X W tg iter fi) (T : PGD X tg ix g) (B : PSSD X W sts F)
    (hs : ∀ x, foldedSetIterable iter X.env x = pure x := by intro _; rfl) : PSD X W (.For tg iter sts [] pos) (sFor fi g F) := by
  obtain ⟨wi, pw, hw⟩ := I.ex
  obtain ⟨tg', pg, hg⟩ := T.ex
  obtain ⟨tb, pb, hb⟩ := B.ex
  refine ⟨_, ps_for hp hc pw pg pb hs, fun {B0 G H δ σ D} S h => ?_⟩
  refine hw S (SRq.of S h fun ds e J H1 G1 t1 wk h1 => ?_)
  refine ⟨fun i m σ H => i ≤ ds.length ∧ m = ds.length - i ∧ ∃ δ' G', Same G1 G' ∧ SOk X.K B0 G' H δ' σ ∧ SRq X.K W D B0 G' (forD g F (ds.drop i) δ'), ⟨ds.length, Nat.zero_le _, by simp, δ, G1, Same.refl _, S.step t1, by simpa using h1⟩, ?_⟩
  rintro i m σ H ⟨hi, rfl, δ', G', gg, S', q⟩
  have sG : Same G1 H := gg.trans S'.gh
  by_cases hlt : i < ds.length
  · refine .inr ⟨wk.go i H sG hlt, fun σ2 H2 => ∃ δ2 G2, Same G1 G2 ∧ SOk X.K B0 G2 H2 δ2 σ2 ∧ SRq X.K W D B0 G2 (forD g F (ds.drop (i + 1)) δ2), fun σ2 H2 ⟨δ2, G2, z1, z2, z3⟩ => ⟨ds.length - (i + 1), by omega, hlt, rfl, δ2, G2, z1, z2, z3⟩, fun x H' y => ?_⟩
    obtain ⟨G2, d, t2, hd, rd⟩ := wk.yld i H x H' G' gg S'.gh hlt y
    have ed : ds.drop i = d :: ds.drop (i + 1) := by
      rw [List.drop_eq_getElem_cons hlt]
      rw [List.getElem?_eq_getElem hlt] at hd
      rw [Option.some.inj hd]
    rw [ed] at q
    have q' := q.gg t2.gg
    unfold forD at q'
    have S2 := S'.step t2
    cases eg : g d δ' with
    | ok δ1 =>
      rw [eg] at q'
      refine hg S2 rd eg fun σ3 S3 _ => hb S3 ?_
      dsimp only at q'
      cases eF : F δ1 with
      | nx δ2 => rw [eF] at q'; exact fun σ4 H4 G4 g4 S4 => ⟨δ2, G4, (gg.trans t2.gg).trans g4, S4, q'.gg g4⟩
      | ct δ2 => rw [eF] at q'; exact fun σ4 H4 G4 g4 S4 => ⟨δ2, G4, (gg.trans t2.gg).trans g4, S4, q'.gg g4⟩
      | bk δ2 => rw [eF] at q'; exact q'
      | rt d => rw [eF] at q'; exact q'
      | ex c fs δ2 => rw [eF] at q'; exact q'
      | bad => rw [eF] at q'; exact q'
    | exc _ _ => rw [eg] at q'; exact q'.elim
    | bad => rw [eg] at q'; exact q'.elim
  · have e : i = ds.length := by omega
    subst e
    refine .inl ⟨wk.stop H sG, ?_⟩
    rw [List.drop_length] at q
    exact q σ H G' (Same.refl _) S'

/-! ### raise -/
/-- what makes an exception -/
structure PMD (X : Cx) (W : WX) (e : Expr) (c : Str) (f : Ev → R (List (Str × DV))) : Prop where
  ex : ∃ t, PMk X e t ∧ ∀ {B : Bas} {G H : Hp} {δ : Ev} {σ : L2.St}, SOk X.K B G H δ σ → (match f δ with
    | .ok fs => ∀ H' G' dx, Tr G H G' H' → XRep X.K G' H' dx fs → W (.ref (He.ga X.K c)) dx σ H'
    | _ => False) → t σ H fun cls d H' => W cls d σ H'
def sRaise (c : Str) (f : Ev → R (List (Str × DV))) : Ev → SR := fun δ => match f δ with
  | .ok fs => .ex c fs δ
  | _ => .bad
theorem ds_raise {cn : Str} {f : Ev → R (List (Str × DV))} (hc : X.calm = true) (tk : Takes X W) (A : PMD X W a cn f) : PSD X W (.Raise (some a) none pos) (sRaise cn f) := by
  obtain ⟨t, pm, hm⟩ := A.ex
  refine ⟨_, ps_raise hc tk pm, fun {B0 G H δ σ D} S h => hm S ?_⟩
  unfold sRaise at h
  cases q : f δ with
  | ok fs => rw [q] at h; exact fun H' G' dx t x => h σ H' G' dx t.gg (S.step t) x
  | exc _ _ => rw [q] at h; exact h.elim
  | bad => rw [q] at h; exact h.elim
/-- C('text'), C a class of the program over ValueError without an own __init__ -/
theorem dm_own {x m : Str} {j : Nat} {p p2 : Pos} (q : PySem.W.excIn X.K (He.ga X.K x) He.veBase "ValueError.__new__" = true) (gC : X.mg x = some (.ref (He.ga X.K x))) (kC : PySem.W.keepIn X.K (.ref (He.ga X.K x)) = true)
    (h1 : PySem.W.subIn X.K (.ref (He.ga X.K x)) (.type "BaseException") = some true) (h2 : PySem.W.typeIn X.K (.ref (He.ga X.K x)) = some (.type "type")) (hg : Gl X x := by rfl) (hdb : (x == ("__debug__" : Str)) = false := by decide) :
    PMD X W (.Call (.Name x p) [.Constant (.str m) j p2] [] pos) x (fun _ => .ok []) :=
  ⟨_, pmk_own PySem.F.excBase_ValueError q gC kC (raises_own h1 h2) hg hdb, fun {B0 G H δ σ} S h => h H G none (Tr.refl S.gh) (.inl ⟨rfl, rfl⟩)⟩

/-! ### the def's own lists -/
/-- x = [..]: a list that only this name holds -/
def sNewL (i : Nat) (fes : Ev → R (List DV)) : Ev → SR := fun δ => xS (fes δ) δ fun ds => if small ds.length then .nx (δ.set i (.ol ds)) else .bad
theorem own_new {K : PySem.W.Frag} {B : Bas} {G H : Hp} {δ : Ev} {σ : L2.St} (S : SOk K B G H δ σ) (i : Nat) {p : Addr} {s : Sl} {o : HO} (hp : H p = none) (hs : isOwn s = true) (hme : ∀ c fs, s ≠ .oo c fs) (r : OwnAt K G (upd H p o) p s) : SOk K B G (upd H p o) (δ.set i s) (σ.set i (some (.ref p))) := by
  refine S.setOwn i hs (S.tr.trans (Tr.own S.gh o hp)) (S.free hp) (S.gh.none hp) r (fun b u hb e => by rw [upd_ne hb]; exact e) (fun j u hj e ou z => ?_) fun c fs z => absurd z (hme c fs)
  obtain ⟨a, es, _, _, oa⟩ := S.own e ou
  rw [z] at es
  have : p = a := by injection es with es; injection es with es; injection es
  subst this
  exact oa.there hp
theorem ds_newL (i : Nat) {x : Str} {pos' : Pos} {p2 : Pos} (hN : X.N.Nodup) (A : PDA X W es fes) (hi : X.N[i]? = some x := by rfl) (hx : Loc X.env.scope x := by first | exact Or.inl rfl | exact Or.inr rfl) (hs : swapsWith (.List es p2) (some (.Name x pos')) pos.line X.env = pure false := by rfl)
    (hf : X.fn x = true ∨ X.env.scope.names.lookup x = some .local := by first | exact .inl rfl | exact .inr rfl) : PSD X W (.Assign [.Name x pos'] (.List es p2) pos) (sNewL i fes) := by
  obtain ⟨ta, pa, ha⟩ := A.ex
  refine ⟨_, L2.ps_set hN hi hx (pe_lst pa) hs hf, fun {B0 G H δ σ D} S h => ?_⟩
  refine ha S (SRq.of S h fun ds e vs H1 G1 t1 r1 h1 => ?_)
  cases c : small ds.length with
  | false => rw [c] at h1; exact h1.elim
  | true =>
    rw [c, if_pos rfl] at h1
    refine ⟨by rw [r1.length]; exact small_le c, fun p hp => h1 _ _ _ (Same.refl _) (own_new (S.step t1) i hp rfl (fun _ _ z => nomatch z) ⟨vs, upd_same, r1⟩)⟩
/-- x.append(e), x's own list -/
def sApp (i : Nat) (f : Ev → R DV) : Ev → SR := fun δ => match δ[i]? with
  | some (.ol ds) => xS (f δ) δ fun d => if Nat.blt ds.length 16777216 then .nx (δ.set i (.ol (ds ++ [d]))) else .bad
  | _ => .bad
theorem tr_own_updS {H0 G0 G H : Hp} (t : Tr G0 H0 G H) {a : Addr} (o : HO) (h0 : strip H0 a = none) (hg : G a = none) (hna : ∀ u, H a = some u → NT u ∧ ∀ f, u ≠ .ext f) (ho : NT o := by intro _ z; cases z) : Tr G0 H0 G (upd H a o) := by
  refine ⟨fun b u e n => ?_, t.gg, t.gh.but o hg ho hna, t.nw0⟩
  rw [upd_ne (fun z => by rw [z] at e; rw [strip_yes e n] at h0; cases h0)]; exact t.sm b u e n
theorem tr_own_upd {H0 G0 G H : Hp} (t : Tr G0 H0 G H) {a : Addr} (o : HO) (h0 : H0 a = none) (hg : G a = none) (hna : ∀ u, H a = some u → NT u ∧ ∀ f, u ≠ .ext f) (ho : NT o := by intro _ z; cases z) : Tr G0 H0 G (upd H a o) := tr_own_updS t o (strip_none h0) hg hna ho
theorem is_na {H : Hp} {a : Addr} {o : HO} (h : H a = some o) (n : NT o := by intro _ z; cases z) (n2 : ∀ f, o ≠ .ext f := by intro _ z; cases z) : ∀ u, H a = some u → NT u ∧ ∀ f, u ≠ .ext f := fun u e => by
  rw [h] at e
  cases e
  exact ⟨n, n2⟩
theorem own_upd {K : PySem.W.Frag} {B : Bas} {G H : Hp} {δ : Ev} {σ : L2.St} (S : SOk K B G H δ σ) {i : Nat} {a : Addr} {s s' : Sl} {o : HO} (e : δ[i]? = some s) (os : isOwn s = true) (es : σ[i]? = some (some (.ref a))) (h0 : B.H0 a = none) (hg : G a = none) (os' : isOwn s' = true)
    (hme : ∀ c fs, s' = .oo c fs → B.pa = some a) (r : OwnAt K G (upd H a o) a s') (ho : NT o := by intro _ z; cases z) : SOk K B G (upd H a o) (δ.set i s') σ := by
  have hna : ∀ u, H a = some u → NT u ∧ ∀ f, u ≠ .ext f := by
    obtain ⟨a', es2, _, _, oa⟩ := S.own e os
    rw [es] at es2
    have : a = a' := by injection es2 with z; injection z with z; injection z
    subst this
    exact own_kind oa
  have S2 := S.setOwn i os' (tr_own_upd S.tr o h0 hg hna ho) h0 hg r (fun b u hb q => by rw [upd_ne hb]; exact q) (fun j u hj ej ou z => hj ((S.dj i j s u a e ej os ou es z).symm)) hme
  have es' : σ.set i (some (.ref a)) = σ := by
    apply List.ext_getElem?
    intro j
    by_cases q : i = j
    · subst q
      rw [List.getElem?_set_self (List.getElem?_eq_some_iff.mp es).1, es]
    · rw [List.getElem?_set_ne q]
  rw [es'] at S2
  exact S2
theorem ds_app (i : Nat) {x : Str} {pos' p3 p4 : Pos} (A : PD X W a fa) (hN : X.N[i]? = some x := by rfl) (hv : Vis X.env.scope x := by first | exact Or.inl rfl | exact Or.inr (Or.inl rfl) | exact Or.inr (Or.inr rfl)) (hd : (x == ("__debug__" : Str)) = false := by decide)
    (hcd : (x == ("__classdict__" : Str)) = false := by decide)
    (hs : starEach (a :: []) X.env = (false, eval a X.env) :: starEach [] X.env := by rfl) (hbase : attributeBase (.Name x pos') "append" X.env (eval (.Name x pos') X.env) = eval (.Name x pos') X.env := by rfl)
    (hfew : ((backTo p4 (starEach [a] X.env)).all (fun x => !x.1) && (backToKw p4 (keywordEach [] X.env)).all (fun x => x.1.isSome)
      && decide (([a] : List Expr).length + ([] : List Keyword).length + (if ([] : List Keyword).isEmpty then 0 else 1) < 30)) = true := by rfl)
    (hline : (p3.endLine == p4.line) = true := by rfl) (hsw : swapsWith (.Call (.Attribute (.Name x pos') "append" p3) [a] [] p4) none pos.line X.env = pure false := by rfl) :
    PSD X W (.Expr (.Call (.Attribute (.Name x pos') "append" p3) [a] [] p4) pos) (sApp i fa) := by
  obtain ⟨ta, pa, ha⟩ := A.ex
  have pv' : PE X (.Name x pos') (tVar i) := L2.pv i hN hv hd hcd
  refine ⟨_, ps_expr (pe_bm PySem.F.plainAttrs_list PySem.F.slot_list_append PySem.F.type_list_append mt_append pv' (pa_cons pa pa_nil hs) hbase hfew hline hs) hsw, fun {B0 G H δ σ D} S h => ?_⟩
  unfold sApp at h
  split at h
  · rename_i ds e
    obtain ⟨p, es, h0, hg, vs, hp, r⟩ := S.own e rfl
    refine ⟨_, es, .inl ⟨rfl, _, SqL.of hp⟩, ha S (SRq.of S h fun d ed v H1 G1 t1 r1 h1 => ?_)⟩
    cases c : Nat.blt ds.length 16777216 with
    | false => rw [c] at h1; exact h1.elim
    | true =>
      rw [c, if_pos rfl] at h1
      have S1 := S.step t1
      have hp1 := t1.sm _ _ hp
      have hg1 : G1 p = none := by rw [t1.nw p hp]; exact hg
      refine ⟨p, vs, v, rfl, rfl, hp1, ?_, ?_⟩
      · rw [r.length, sizeLine_eq]; exact Nat.le_of_ble_eq_true c
      · exact h1 _ _ _ (Same.refl _) (own_upd S1 e rfl es h0 hg1 rfl (fun _ _ z => nomatch z) ⟨vs ++ [v], upd_same, (r.mono t1.gg).append (.cons r1 .nil)⟩)
  · exact h.elim
/-- xs[k] where xs is the def's own list -/
def xIxO (i : Nat) (f : Ev → R DV) : Ev → R DV := fun δ => match δ[i]? with
  | some (.ol ds) => (f δ).bind fun k => oIx (.lst ds) k
  | _ => .bad
theorem d_ixO (i : Nat) {x : Str} {pos' : Pos} (A : PD X W a fa) (hN : X.N[i]? = some x := by rfl) (hv : Vis X.env.scope x := by first | exact Or.inl rfl | exact Or.inr (Or.inl rfl) | exact Or.inr (Or.inr rfl)) (hd : (x == ("__debug__" : Str)) = false := by decide)
    (hcd : (x == ("__classdict__" : Str)) = false := by decide) (hs : PlainIx a := by exact fun _ _ => rfl) : PD X W (.Subscript (.Name x pos') a pos) (xIxO i fa) := by
  obtain ⟨ta, pa, ha⟩ := A.ex
  have pv' : PE X (.Name x pos') (tVar i) := L2.pv i hN hv hd hcd
  refine ⟨_, pe_ix ix_list pv' pa hs, fun {B0 G H δ σ Q} S h => ?_⟩
  unfold xIxO at h
  split at h
  · rename_i ds e
    obtain ⟨p, es, h0, hg, vs, hp, r⟩ := S.own e rfl
    refine ⟨_, es, ha S (Rq.bind (rep := DRep X.K) h fun k ek v H1 G1 t1 r1 h1 => ?_)⟩
    cases r1 with
    | int j =>
      cases q : atI ds j with
      | none => rw [show oIx (.lst ds) (.int j) = R.ofO (atI ds j) from rfl, q] at h1; exact h1.elim
      | some d =>
        rw [show oIx (.lst ds) (.int j) = R.ofO (atI ds j) from rfl, q] at h1
        obtain ⟨w, hw, pw⟩ := atI_rep (r.mono t1.gg) q
        exact ⟨_, _, j, w, rfl, rfl, SqL.of (t1.sm _ _ hp), hw, Rq.ok_self (rep := DRep X.K) t1.gh h1 pw⟩
    | _ => exact h1.elim
  · exact h.elim
end
end LD

set_option maxHeartbeats 2000000
/-! Layer D, part E: defs, calls, instances, comprehensions. -/
namespace LD
open PySem PySem.Spec PyProof.Rows L2
variable [Tbs]

/-! ### a def's mirror -/
abbrev Mir := List DV → R DV
def mir (n p : Nat) (F : Ev → SR) : Mir := fun ds => if Nat.beq ds.length p then (match F (ds.map Sl.pu ++ List.replicate (n - p) Sl.un) with
  | .nx _ => .ok .non
  | .rt d => .ok d
  | .ex c fs _ => .exc c fs
  | _ => .bad) else .bad
def spD (K : PySem.W.Frag) (m : Mir) : Sp := fun vs H Q E => ∃ G ds, Gh G H ∧ DReps K G vs ds ∧ Rq K (DRep K) (fun c d H' => E c d H') G H (m ds) Q

section
variable {P : Program} {w : World} {K : PySem.W.Frag} {mg : Str → Option Value} {base : Heap}
theorem sok_args {G H : Hp} {vs : List V} {ds : List DV} {k m : Nat} (s : Gh G H) (r : DReps K G vs ds) (hm : m = k) : SOk K ⟨strip H, G, none⟩ G H (ds.map Sl.pu ++ List.replicate k Sl.un) (vs.map some ++ List.replicate m none) := by
  subst hm
  have hl := r.length
  refine ⟨Tr.strip0 s, by simp [hl], fun i sl e => ?_, fun i j a b c e1 e2 o1 o2 => ?_, fun i c fs e => ?_, strip_no⟩
  · by_cases hi : i < ds.length
    · rw [List.getElem?_append_left (by simpa using hi), List.getElem?_map] at e
      rw [List.getElem?_append_left (by simpa [hl] using hi), List.getElem?_map]
      cases q : ds[i]? with
      | none => rw [q] at e; cases e
      | some d =>
        rw [q] at e
        cases e
        obtain ⟨v, hv, p⟩ := r.get q
        rw [hv]
        exact ⟨v, rfl, p⟩
    · rw [List.getElem?_append_right (by simpa using Nat.le_of_not_lt hi), List.getElem?_replicate] at e
      split at e
      · cases e; trivial
      · cases e
  · have no : ∀ {i : Nat} {a : Sl}, (ds.map Sl.pu ++ List.replicate m Sl.un)[i]? = some a → isOwn a = false := fun {i a} e => by
      have h := List.mem_of_getElem? e
      rcases List.mem_append.mp h with h | h
      · obtain ⟨d, _, rfl⟩ := List.mem_map.mp h; rfl
      · rw [(List.mem_replicate.mp h).2]; rfl
    rw [no e1] at o1
    cases o1
  · have h := List.mem_of_getElem? e
    rcases List.mem_append.mp h with h | h
    · obtain ⟨d, _, z⟩ := List.mem_map.mp h; cases z
    · cases (List.mem_replicate.mp h).2
/-- THE RULE for a def: its body's functional reading -/
theorem fn_d {x qual : Str} {params : Arguments} {body : List Stmt} {scope : Scope} {dvs : List V} {kws : List (Str × V)} {f : Addr} {fd : FuncData} {N ps : List Str} {k : Nat} {F : Ev → SR}
    (D : FunD K x qual params body scope dvs kws f fd) (S : FnScope N ps scope) (hle : ps.length ≤ N.length)
    (hbody : ∀ (cdv : Value) (A : Around) (outer : List Env) (s : Shared) (H : Hp) (E : XK), Room k (A.deeper (envOfC qual scope s.heap.objs.size f cdv)) →
      PSSD (cxOf (L2.CX P w) P w K mg base N qual scope f cdv A outer s H E) (fun cls d _ H' => E cls d H') body F) : FnOk P w K mg base (L2.CX P w) (k + 1) f fd ps (spD K (mir N.length ps.length F)) := by
  have key : ∀ {G H : Hp} {ds : List DV} {Q : VK} {E : XK}, Rq K (DRep K) (fun c d H' => E c d H') G H (mir N.length ps.length F ds) Q → ds.length = ps.length := fun {G H ds Q E} h => by
    unfold mir at h
    cases c : Nat.beq ds.length ps.length with
    | true => exact Nat.eq_of_beq_eq_true c
    | false => rw [c] at h; exact h.elim
  refine D.ok S (fun vs H Q E h => ?_) fun cdv A outer s H vs Q E hr h => ?_
  · obtain ⟨G, ds, s, r, h⟩ := h
    rw [r.length]
    exact key h
  · obtain ⟨G, ds, s1, r, h⟩ := h
    have hl := key h
    obtain ⟨t, pt, ht⟩ := (hbody cdv A outer s H E hr).ex
    refine ⟨t, pt, ht (B := ⟨strip H, G, none⟩) (sok_args (k := N.length - ps.length) s1 r (by rw [r.length, hl])) ?_⟩
    unfold mir at h
    rw [show Nat.beq ds.length ps.length = true from (by rw [hl]; exact Nat.beq_refl _)] at h
    rw [if_pos rfl] at h
    cases q : F (ds.map Sl.pu ++ List.replicate (N.length - ps.length) Sl.un) with
    | nx δ => rw [q] at h; exact fun σ H' G' g S' => h .non H' G' S'.tr.strip .non
    | rt d => rw [q] at h; exact fun v H' G' t p => h v H' G' t.strip p
    | ex c fs δ => rw [q] at h; exact fun σ H' G' dx g S' x => h H' G' dx S'.tr.strip x
    | bk δ => rw [q] at h; exact h.elim
    | ct δ => rw [q] at h; exact h.elim
    | bad => rw [q] at h; exact h.elim
/-- another mirror that is alike where it says something -/
theorem fn_as {f : Addr} {fd : FuncData} {ps : List Str} {k : Nat} {m m' : Mir} (F : FnOk P w K mg base (L2.CX P w) k f fd ps (spD K m)) (h : ∀ ds, m' ds ≠ .bad → m ds = m' ds) : FnOk P w K mg base (L2.CX P w) k f fd ps (spD K m') :=
  F.imp fun vs H Q E ⟨G, ds, s, r, q⟩ => ⟨G, ds, s, r, by
    have n : m' ds ≠ .bad := fun z => by rw [z] at q; exact q
    rw [h ds n]; exact q⟩
end

/-! ### calls of defs -/
def xCall (m : Mir) (fes : Ev → R (List DV)) : Ev → R DV := fun δ => (fes δ).bind m
section
variable {X : Cx} {W : WX} {a b c o : Expr} {es : List Expr} {fa fb fc : Ev → R DV} {fes : Ev → R (List DV)} {ga gb : Ev → R Bool} {pos : Pos} {k : Nat} {f C : Addr} {fd : FuncData} {ps : List Str} {m : Mir} {x : Str} {p : Pos}
theorem d_call (tk : Takes X W) (F : FnOk X.prog X.w X.K X.mg X.base (L2.CX X.prog X.w) k f fd ps (spD X.K m)) (hr : Room k X.A) (hm : X.mg x = some (.ref f)) (hk : PySem.W.keepIn X.K (.ref f) = true) (hb : Binds X.K fd ps []) (A : PDA X W (a :: es) fes) (hg : Gl X x := by rfl)
    (hdb : (x == ("__debug__" : Str)) = false := by decide) (he : starEach (a :: es) X.env = (false, eval a X.env) :: starEach es X.env := by rfl) (hpl : (backTo pos (starEach es X.env)).any (·.1) = false := by rfl) : PD X W (.Call (.Name x p) (a :: es) [] pos) (xCall m fes) := by
  obtain ⟨ta, pa, ha⟩ := A.ex
  refine ⟨_, pe_callS (E := WE W) F hr hg hm hk hb (fun σ => passAt tk σ) pa hdb he hpl, fun {B0 G H δ σ Q} S h => ?_⟩
  exact ha S (Rq.bind (rep := DReps X.K) h fun ds e vs H1 G1 t1 r1 h1 => ⟨G1, ds, t1.gh, r1, h1⟩)
theorem d_call0 (tk : Takes X W) (F : FnOk X.prog X.w X.K X.mg X.base (L2.CX X.prog X.w) k f fd ps (spD X.K m)) (hr : Room k X.A) (hm : X.mg x = some (.ref f)) (hk : PySem.W.keepIn X.K (.ref f) = true) (hb : Binds X.K fd ps []) (hg : Gl X x := by rfl)
    (hdb : (x == ("__debug__" : Str)) = false := by decide) : PD X W (.Call (.Name x p) [] [] pos) (fun _ => m []) := by
  refine ⟨fun σ H Q => spD X.K m [] H Q (WE W σ), ⟨fun pins s σ H Q I h => ?_⟩, fun {B0 G H δ σ Q} S h => ⟨G, [], S.gh, .nil, h⟩⟩
  refine wpAny_Call_Name_kw (ld_glob I hg hm ?_ hdb)
  exact PySem.W.callWith_K0 I.kIn hk (run_fnS (us := []) F hr hb (passAt tk σ) I .nil h)

/-! ### instances -/
/-- a class's facts -/
structure KC (K : PySem.W.Frag) (c : Str) : Prop where
  cl : Cls K (He.ga K c)
  ha : PySem.W.findIn K (.ref (He.ga K c)) "__class__" = some (some (.builtin "object.__class__"))
  hn : PySem.W.specialIn K (.builtin "object.__class__") "__get__" = some (some (.builtin "getset_descriptor.__get__"))
  htk : PySem.W.takesIn K (.builtin "object.__class__") = some true
  hm : PySem.W.mroIn K (He.ga K c) (.type "object") = some true
def xFld (cs : List Str) (f : Str) (fa : Ev → R DV) : Ev → R DV := fun δ => (fa δ).bind fun d => match d with
  | .obj c fs => if cs.contains c then R.ofO (fs.lookup f) else .bad
  | _ => .bad
theorem d_fld {cs : List Str} {f : Str} (A : PD X W a fa) (hf : ∀ c ∈ cs, KC X.K c ∧ NoAttr X.K (He.ga X.K c) f) (hb : attributeBase a f X.env (eval a X.env) = eval a X.env := by rfl) : PD X W (.Attribute a f pos) (xFld cs f fa) := by
  obtain ⟨ta, pa, ha⟩ := A.ex
  refine ⟨_, pe_fld pa hb, fun {B0 G H δ σ Q} S h => ?_⟩
  refine ha S (Rq.bind (rep := DRep X.K) h fun d e v H1 G1 t1 r1 h1 => ?_)
  cases r1 with
  | obj e1 r =>
    rename_i a1 dx c vs fs
    have h2 : Rq X.K (DRep X.K) (fun c d H' => W c d σ H') G1 H1 (if cs.contains c = true then R.ofO (fs.lookup f) else .bad) Q := h1
    obtain ⟨hc, h1⟩ : cs.contains c = true ∧ Rq X.K (DRep X.K) (fun c d H' => W c d σ H') G1 H1 (R.ofO (fs.lookup f)) Q := by
      by_cases q : cs.contains c = true
      · rw [if_pos q] at h2; exact ⟨q, h2⟩
      · rw [if_neg q] at h2; exact h2.elim
    obtain ⟨k1, k2⟩ := hf c (by simpa using hc)
    cases q : fs.lookup f with
    | none => rw [q] at h1; exact h1.elim
    | some d =>
      rw [q] at h1
      obtain ⟨y, hy, py⟩ := r.lookup q
      exact ⟨_, _, _, _, y, rfl, t1.gh _ _ e1, k1.cl, k2, hy, Rq.ok_self (rep := DRep X.K) t1.gh h1 py⟩
  | _ => exact h1.elim
/-- e.NAME, a constant of the class -/
def xCon (tab : List (Str × DV)) (f : Str) (fa : Ev → R DV) : Ev → R DV := fun δ => (fa δ).bind fun d => match d with
  | .obj c fs => (match fs.lookup f with
    | some _ => .bad
    | none => R.ofO (tab.lookup c))
  | _ => .bad
theorem d_con {tab : List (Str × DV)} {f : Str} (A : PD X W a fa) (hf : ∀ c d, tab.lookup c = some d → KC X.K c ∧ ∃ v u, Con X.K (He.ga X.K c) f v u ∧ ∀ G, DRep X.K G v d) (hb : attributeBase a f X.env (eval a X.env) = eval a X.env := by rfl) : PD X W (.Attribute a f pos) (xCon tab f fa) := by
  obtain ⟨ta, pa, ha⟩ := A.ex
  refine ⟨_, pe_con pa hb, fun {B0 G H δ σ Q} S h => ?_⟩
  refine ha S (Rq.bind (rep := DRep X.K) h fun d e v H1 G1 t1 r1 h1 => ?_)
  cases r1 with
  | obj e1 r =>
    rename_i a1 dx c vs fs
    have h2 : Rq X.K (DRep X.K) (fun c d H' => W c d σ H') G1 H1 (match fs.lookup f with
      | some _ => .bad
      | none => R.ofO (tab.lookup c)) Q := h1
    cases q : fs.lookup f with
    | some _ => rw [q] at h2; exact h2.elim
    | none =>
      rw [q] at h2
      dsimp only at h2
      cases q2 : tab.lookup c with
      | none => rw [q2] at h2; exact h2.elim
      | some d =>
        rw [q2] at h2
        obtain ⟨k1, y, u, k2, py⟩ := hf c d q2
        exact ⟨_, _, _, _, y, u, rfl, t1.gh _ _ e1, k1.cl, k2, r.none q, Rq.ok_self (rep := DRep X.K) t1.gh h2 (py _)⟩
  | _ => exact h1.elim
/-- e.NAME, a property of the class c -/
def xProp (c : Str) (m : Mir) (fa : Ev → R DV) : Ev → R DV := fun δ => (fa δ).bind fun d => match d with
  | .obj c' fs => if c' = c then m [.obj c' fs] else .bad
  | _ => .bad
theorem d_prop {cn f : Str} {pp g : Addr} (kc : KC X.K cn) (hp : PropOf X.K (He.ga X.K cn) f pp g) (F : FnOk X.prog X.w X.K X.mg X.base (L2.CX X.prog X.w) k g fd ps (spD X.K m)) (hr : Room (k + 1) X.A) (hb : Binds X.K fd ps []) (hnx : ∀ ds c fs, m ds ≠ .exc c fs)
    (A : PD X W a fa) (hab : attributeBase a f X.env (eval a X.env) = eval a X.env := by rfl) : PD X W (.Attribute a f pos) (xProp cn m fa) := by
  obtain ⟨ta, pa, ha⟩ := A.ex
  refine ⟨_, pe_prop (CX := L2.CX X.prog X.w) (E := E0) (dvs := []) pa kc.cl hp F hr hb .nil (passL (X := X.nox)) hab, fun {B0 G H δ σ Q} S h => ?_⟩
  refine ha S (Rq.bind (rep := DRep X.K) h fun d e v H1 G1 t1 r1 h1 => ?_)
  cases r1 with
  | obj e1 r =>
    rename_i a1 dx c vs fs
    have h2 : Rq X.K (DRep X.K) (fun c d H' => W c d σ H') G1 H1 (if c = cn then m [.obj c fs] else .bad) Q := h1
    by_cases q : c = cn
    · rw [if_pos q] at h2
      subst q
      refine ⟨_, _, _, rfl, t1.gh _ _ e1, G1, [.obj c fs], t1.gh, .cons (.obj e1 r) .nil, ?_⟩
      cases q2 : m [.obj c fs] with
      | ok d => rw [q2] at h2; exact h2
      | exc c' fs' => exact absurd q2 (hnx _ _ _)
      | bad => rw [q2] at h2; exact h2
    · rw [if_neg q] at h2; exact h2.elim
  | _ => exact h1.elim
/-- o.m(e, ..), a method of the class c -/
def xMeth (c mn : Str) (m : Mir) (fo : Ev → R DV) (fes : Ev → R (List DV)) : Ev → R DV := fun δ => (fo δ).bind fun d => match d with
  | .obj c' fs => if c' = c then (match fs.lookup mn with
    | none => (fes δ).bind fun ds => m (.obj c' fs :: ds)
    | some _ => .bad) else .bad
  | _ => .bad
def tMethS (C : Addr) (m : Str) (sp : Sp) (E : L2.St → XK) (ta : TE) (t : TA) : TE := fun σ H Q => ta σ H fun x H1 => ∃ a dx fs, x = .ref a ∧ H1 a = some (.ins C dx fs) ∧ fs.lookup m = none ∧ t σ H1 fun vs H2 => sp (x :: vs) H2 Q (E σ)
theorem d_meth {cn mn : Str} {apos : Pos} {pl : Sem Bool} (tk : Takes X W) (kc : KC X.K cn) (hm : Meth X.K (He.ga X.K cn) mn f) (F : FnOk X.prog X.w X.K X.mg X.base (L2.CX X.prog X.w) k f fd ps (spD X.K m)) (hr : Room k X.A) (hb : Binds X.K fd ps [])
    (O : PD X W o fa) (A : PDA X W (a :: es) fes) (hst : starEach (a :: es) X.env = (false, eval a X.env) :: starEach es X.env := by rfl) (hpl : (backTo pos (starEach es X.env)).any (·.1) = false := by rfl)
    (ht : eval (.Call (.Attribute o mn apos) (a :: es) [] pos) X.env = (do
      let ov ← eval o X.env
      standAt apos.atName
      let (f, first) ← holding [ov] (getMethod ov mn pl)
      callWith pos f first (backTo pos (starEach (a :: es) X.env)) (backToKw pos (keywordEach [] X.env))) := by rfl) : PD X W (.Call (.Attribute o mn apos) (a :: es) [] pos) (xMeth cn mn m fa fes) := by
  obtain ⟨to, po, ho⟩ := O.ex
  obtain ⟨ta, pa, ha⟩ := A.ex
  refine ⟨tMethS (He.ga X.K cn) mn (spD X.K m) (WE W) to ta, ⟨fun pins s σ H Q I h => ?_⟩, fun {B0 G H δ σ Q} S h => ?_⟩
  · refine PySem.W.methodCall_KW (pl := pl) (thn (po.run pins s σ H _ I h) fun u s1 ⟨x, H1, I1, rx, a, dx, fs, ex, ea, l, q⟩ => ?_) ht
    subst ex
    obtain rfl : u = Value.ref a := rx
    refine getmeth_ok I1 ea kc.cl hm l ?_
    refine PySem.W.callWith_K (first := [.ref a]) (h₀ := X.base) I.ok.mod.kin hm.kp (thn (pa.run pos pins s1 σ H1 _ I1 q) fun us s2 ⟨vs, H2, I2, r, q2⟩ => ⟨I2.kIn, ?_⟩) hst hpl
    exact run_fnS (us := .ref a :: us) (vs := .ref a :: vs) F hr hb (passAt tk σ) I2 (.cons rfl r) q2
  · refine ho S (Rq.bind (rep := DRep X.K) h fun d e v H1 G1 t1 r1 h1 => ?_)
    cases r1 with
    | obj e1 r =>
      rename_i a1 dx c vs fs
      have h2 : Rq X.K (DRep X.K) (fun c d H' => W c d σ H') G1 H1 (if c = cn then (match fs.lookup mn with
        | none => (fes δ).bind fun ds => m (.obj c fs :: ds)
        | some _ => .bad) else .bad) Q := h1
      by_cases q : c = cn
      · rw [if_pos q] at h2
        subst q
        cases q2 : fs.lookup mn with
        | some _ => rw [q2] at h2; exact h2.elim
        | none =>
          rw [q2] at h2
          refine ⟨a1, dx, vs, rfl, t1.gh _ _ e1, r.none q2, ?_⟩
          refine ha (S.step t1) (Rq.bind (rep := DReps X.K) h2 fun ds ed ws H2 G2 t2 r2 h3 => ?_)
          exact ⟨G2, .obj c fs :: ds, t2.gh, .cons (.obj (t2.gg _ _ e1) (r.mono t2.gg)) r2, h3⟩
      · rw [if_neg q] at h2; exact h2.elim
    | _ => exact h1.elim
theorem d_meth0 {cn mn : Str} {apos : Pos} {pl : Sem Bool} (tk : Takes X W) (kc : KC X.K cn) (hm : Meth X.K (He.ga X.K cn) mn f) (F : FnOk X.prog X.w X.K X.mg X.base (L2.CX X.prog X.w) k f fd ps (spD X.K m)) (hr : Room k X.A) (hb : Binds X.K fd ps [])
    (O : PD X W o fa)
    (ht : eval (.Call (.Attribute o mn apos) [] [] pos) X.env = (do
      let ov ← eval o X.env
      standAt apos.atName
      let (f, first) ← holding [ov] (getMethod ov mn pl)
      callWith pos f first (backTo pos (starEach [] X.env)) (backToKw pos (keywordEach [] X.env))) := by rfl) : PD X W (.Call (.Attribute o mn apos) [] [] pos) (xMeth cn mn m fa xNil) := by
  obtain ⟨to, po, ho⟩ := O.ex
  refine ⟨tMethS (He.ga X.K cn) mn (spD X.K m) (WE W) to tNil, ⟨fun pins s σ H Q I h => ?_⟩, fun {B0 G H δ σ Q} S h => ?_⟩
  · refine PySem.W.methodCall_KW (pl := pl) (thn (po.run pins s σ H _ I h) fun u s1 ⟨x, H1, I1, rx, a, dx, fs, ex, ea, l, q⟩ => ?_) ht
    subst ex
    obtain rfl : u = Value.ref a := rx
    refine getmeth_ok I1 ea kc.cl hm l ?_
    exact PySem.W.callWith_K0 (first := [.ref a]) I1.kIn hm.kp (run_fnS (us := [.ref a]) (vs := [.ref a]) F hr hb (passAt tk σ) I1 (.cons rfl .nil) q)
  · refine ho S (Rq.bind (rep := DRep X.K) h fun d e v H1 G1 t1 r1 h1 => ?_)
    cases r1 with
    | obj e1 r =>
      rename_i a1 dx c vs fs
      have h2 : Rq X.K (DRep X.K) (fun c d H' => W c d σ H') G1 H1 (if c = cn then (match fs.lookup mn with
        | none => (xNil δ).bind fun ds => m (.obj c fs :: ds)
        | some _ => .bad) else .bad) Q := h1
      by_cases q : c = cn
      · rw [if_pos q] at h2
        subst q
        cases q2 : fs.lookup mn with
        | some _ => rw [q2] at h2; exact h2.elim
        | none =>
          rw [q2] at h2
          exact ⟨a1, dx, vs, rfl, t1.gh _ _ e1, r.none q2, G1, [.obj c fs], t1.gh, .cons (.obj e1 r) .nil, h2⟩
      · rw [if_neg q] at h2; exact h2.elim
    | _ => exact h1.elim

/-! ### __init__ -/
/-- an __init__'s mirror: the class, the attributes so far, the arguments -> the attributes -/
abbrev Imi := Str → List (Str × DV) → List DV → R (List (Str × DV))
def dl (H : Hp) (a : Addr) : Hp := fun b => if b = a then none else H b
theorem dl_same {H : Hp} {a : Addr} : dl H a a = none := if_pos rfl
theorem dl_ne {H : Hp} {a b : Addr} (h : b ≠ a) : dl H a b = H b := if_neg h
theorem dl_sub {H : Hp} {a : Addr} : Same (dl H a) H := fun b o e => by
  by_cases q : b = a
  · rw [q, dl_same] at e; cases e
  · rw [dl_ne q] at e; exact e
theorem dl_of {G H : Hp} {a : Addr} (s : Gh G H) (h : G a = none) : Same G (dl H a) := fun b o e => by
  rw [dl_ne (fun z => by rw [z, h] at e; cases e)]; exact s b o e
theorem Gh.dl {G H : Hp} {p : Addr} (s : Gh G H) (hg : G p = .none) (hna : ∀ u, H p = some u → NT u ∧ ∀ f, u ≠ .ext f) : Gh G (dl H p) := by
  refine ⟨dl_of s hg, fun b ps e => ?_, fun q hq => ?_⟩
  · by_cases z : b = p
    · rw [z]; exact hg
    · rw [dl_ne z] at e; exact s.nt b ps e
  · obtain ⟨ps, h1, h2, h3⟩ := s.tb q hq
    refine ⟨ps, by rw [dl_ne (fun z => by rw [z] at h1; exact (hna _ h1).1 ps rfl)]; exact h1, h2, fun pos cv hcv => ?_⟩
    obtain ⟨c, e1, e2⟩ := h3 pos cv hcv
    exact ⟨c, e1, by rw [dl_ne (fun z => by rw [z] at e2; exact (hna _ e2).2 _ rfl)]; exact e2⟩
theorem strip_dl {H : Hp} {p : Addr} : strip (dl H p) p = none := by unfold strip; rw [dl_same]
def RqI (K : PySem.W.Frag) (E : XK) (G H : Hp) (p : Addr) (c : Str) (r : R (List (Str × DV))) (Q : VK) : Prop := match r with
  | .ok fs => ∀ H' G' dx ws, Tr G (dl H p) G' H' → G' p = none → H' p = some (.ins (He.ga K c) dx ws) → FReps K G' ws fs → Q .non H'
  | .exc cn xs => ∀ H' G' d, Tr G (dl H p) G' H' → XRep K G' H' d xs → E (.ref (He.ga K cn)) d H'
  | .bad => False
def spI (K : PySem.W.Frag) (n : Nat) (mi : Imi) : Sp := fun vs H Q E => ∃ p dx c ws fs G vs' ds, vs = .ref p :: vs' ∧ vs'.length = n ∧ H p = some (.ins (He.ga K c) dx ws) ∧ G p = none ∧ Gh G H ∧ FReps K G ws fs ∧ DReps K G vs' ds ∧ RqI K E G H p c (mi c fs ds) Q

/-- the callee of C(..), what is raised is wished for at the caller's slots -/
theorem run_makeS {ds : List Value} {sp : Sp} {E : L2.St → XK} {pins : List (Addr × Obj)} {σ : L2.St} {H : Hp} {s : Shared} {Q : VK} {us : List Value} {vs : List V} (M : Mk X.K C f) (F : FnOk X.prog X.w X.K X.mg X.base (L2.CX X.prog X.w) k f fd ps sp) (hr : Room (k + 1) X.A) (hb : Binds X.K fd ps [])
    (hx : PassesAt (L2.CX X.prog X.w) X σ (E σ)) (I : Inv X pins σ H s) (r : Vals vs us)
    (h : ∀ x dx, H x = none → H dx = none → dx ≠ x → sp (.ref x :: vs) (upd (upd H dx (.own x)) x (.ins C dx [])) (fun v H2 => v = .non ∧ Q (.ref x) H2) (E σ)) :
    wpAny (model X.prog X.w) X.A (call (.ref C) us) (EP X pins σ Q) X.xe s := by
  have hq := h (s.heap.objs.size + 1) s.heap.objs.size (I.hok.fresh (Nat.le_succ _)) (I.hok.fresh (Nat.le_refl _)) (Nat.ne_of_lt (Nat.lt_succ_self _))
  have I2 := Inv.made (C := C) I
  have r2 : Vals (V.ref (s.heap.objs.size + 1) :: vs) (Value.ref (s.heap.objs.size + 1) :: us) := .cons rfl r
  have hl : (Value.ref (s.heap.objs.size + 1) :: us ++ []).length = ps.length := by
    have e := r2.length
    rw [F.len _ _ _ _ hq] at e
    rw [List.append_nil]
    exact e.symm
  refine wpAny_call (make_map (f := f) I.kIn M.makes M.init (beq_iff_eq.mp M.fn) (codeAny_mono (F.run _ X.stack _ _ ⟨Value.ref (s.heap.objs.size + 1) :: us, []⟩ (Value.ref (s.heap.objs.size + 1) :: us) _ _ (E σ) (hr.make C us [])
    (I2.env0.make C us []) (by have z := hb _ (Value.ref (s.heap.objs.size + 1) :: us) I2.kIn hl; rw [List.append_nil] at z; exact z) r2 hq) fun r s' hq' => ?_))
  cases r with
  | error e => exact hx pins _ _ e s' I2 hq'
  | ok fl =>
    cases fl with
    | ret u =>
      obtain ⟨v, H', I3, rv, ev, q3⟩ := I2.after hq'
      subst ev
      exact ⟨rv, ⟨V.ref (s.heap.objs.size + 1), H', I3, rfl, q3⟩⟩
    | next => exact False.elim hq'
    | brk => exact False.elim hq'
    | cont => exact False.elim hq'
def xMake (c : Str) (n : Nat) (mi : Imi) (fes : Ev → R (List DV)) : Ev → R DV := fun δ => (fes δ).bind fun ds => if Nat.beq ds.length n then (mi c [] ds).bind fun fs => .ok (.obj c fs) else .bad
theorem made_req {K : PySem.W.Frag} {W : XK} {G H : Hp} {vs : List V} {ds : List DV} {n : Nat} {mi : Imi} {cn : Str} {Q : VK} (s : Gh G H) (r : DReps K G vs ds) (h : Rq K (DRep K) (fun c d H' => W c d H') G H (if Nat.beq ds.length n = true then (mi cn [] ds).bind fun fs => .ok (.obj cn fs) else .bad) Q)
    (x dx : Addr) (hx : H x = none) (hd : H dx = none) (ne : dx ≠ x) : spI K n mi (.ref x :: vs) (upd (upd H dx (.own x)) x (.ins (He.ga K cn) dx [])) (fun v H2 => v = .non ∧ Q (.ref x) H2) W := by
  cases c : Nat.beq ds.length n with
  | false => rw [c] at h; exact h.elim
  | true =>
    rw [c, if_pos rfl] at h
    have hx2 : (upd H dx (.own x)) x = none := by rw [upd_ne (Ne.symm ne)]; exact hx
    have s2 : Same H (upd (upd H dx (.own x)) x (.ins (He.ga K cn) dx [])) := (Same.upd hd).trans (Same.upd hx2)
    have hgx : G x = none := s.none hx
    refine ⟨x, dx, cn, [], [], G, vs, ds, rfl, by rw [r.length]; exact Nat.eq_of_beq_eq_true c, upd_same, hgx, (s.own _ hd).own _ hx2, .nil, r, ?_⟩
    have s3 : Same H (dl (upd (upd H dx (.own x)) x (.ins (He.ga K cn) dx [])) x) := fun b o e => by
      rw [dl_ne (fun z => by rw [z, hx] at e; cases e)]; exact s2 b o e
    have t0 : Tr G H G (dl (upd (upd H dx (.own x)) x (.ins (He.ga K cn) dx [])) x) := ⟨fun b o e _ => s3 b o e, Same.refl _, ((s.own _ hd).own _ hx2).dl hgx (is_na upd_same), fun _ _ _ _ => rfl⟩
    cases q : mi cn [] ds with
    | ok fs =>
      rw [q] at h
      intro H' G' dx' ws t hg' e' rf
      have t1 := t0.trans t
      exact ⟨rfl, h (.ref x) H' (upd G' x (.ins (He.ga K cn) dx' ws)) (t1.freeze hx hg' e').1 (.obj upd_same (rf.mono (Same.upd hg')))⟩
    | exc cl xs => rw [q] at h; exact fun H' G' d t xr => h H' G' d (t0.trans t) xr
    | bad => rw [q] at h; exact h.elim
theorem d_make {cn : Str} {n : Nat} {mi : Imi} (tk : Takes X W) (M : Mk X.K (He.ga X.K cn) f) (F : FnOk X.prog X.w X.K X.mg X.base (L2.CX X.prog X.w) k f fd ps (spI X.K n mi)) (hr : Room (k + 1) X.A) (hm : X.mg cn = some (.ref (He.ga X.K cn))) (hb : Binds X.K fd ps []) (A : PDA X W (a :: es) fes) (hg : Gl X cn := by rfl)
    (hdb : (cn == ("__debug__" : Str)) = false := by decide) (he : starEach (a :: es) X.env = (false, eval a X.env) :: starEach es X.env := by rfl) (hpl : (backTo pos (starEach es X.env)).any (·.1) = false := by rfl) : PD X W (.Call (.Name cn p) (a :: es) [] pos) (xMake cn n mi fes) := by
  obtain ⟨ta, pa, ha⟩ := A.ex
  refine ⟨fun σ H Q => ta σ H fun vs H1 => ∀ x dx, H1 x = none → H1 dx = none → dx ≠ x → spI X.K n mi (.ref x :: vs) (upd (upd H1 dx (.own x)) x (.ins (He.ga X.K cn) dx [])) (fun v H2 => v = .non ∧ Q (.ref x) H2) (WE W σ), ⟨fun pins s σ H Q I h => ?_⟩, fun {B0 G H δ σ Q} S h => ?_⟩
  · refine wpAny_Call_Name_kw (ld_glob I hg hm ?_ hdb)
    refine PySem.W.callWith_K (h₀ := X.base) I.ok.mod.kin M.kp (thn (pa.run pos pins s σ H _ I h) fun us s1 ⟨vs, H1, I1, r, q⟩ => ⟨I1.kIn, ?_⟩) he hpl
    exact run_makeS (ds := []) (E := WE W) M F hr hb (passAt tk σ) I1 r q
  · exact ha S (Rq.bind (rep := DReps X.K) h fun ds e vs H1 G1 t1 r1 h1 => made_req t1.gh r1 h1)

/-! ### the body of an __init__ -/
/-- self.f = e, self the instance that is being made (slot i) -/
def putD (f : Str) (d : DV) : List (Str × DV) → List (Str × DV)
  | [] => [(f, d)]
  | (g, y) :: r => if g = f then (f, d) :: r else (g, y) :: putD f d r
def sFldD (cs : List Str) (i : Nat) (f : Str) (fa : Ev → R DV) : Ev → SR := fun δ => xS (fa δ) δ fun d => match δ[i]? with
  | some (.oo c fs) => if cs.contains c && Nat.blt fs.length 1000 then .nx (δ.set i (.oo c (putD f d fs))) else .bad
  | _ => .bad
theorem FReps.put {K : PySem.W.Frag} {G : Hp} {f : Str} {v : V} {d : DV} (p : DRep K G v d) : ∀ {vs : List (Str × V)} {ds : List (Str × DV)}, FReps K G vs ds → FReps K G (putF f v vs) (putD f d ds)
  | _, _, .nil => .cons p .nil
  | _, _, .cons (k := g) (vs := vs) (ds := ds) r t => by
    by_cases q : g = f
    · show FReps K G (if g = f then _ else _) (if g = f then _ else _)
      rw [if_pos q, if_pos q]
      subst q
      exact .cons p t
    · show FReps K G (if g = f then _ else _) (if g = f then _ else _)
      rw [if_neg q, if_neg q]
      exact .cons r (FReps.put p t)
theorem ds_fld (i : Nat) {cs : List Str} {x f : Str} {p1 p2 : Pos} (A : PD X W a fa) (hf : ∀ c ∈ cs, KC X.K c ∧ NoAttr X.K (He.ga X.K c) f) (hN : X.N[i]? = some x := by rfl) (hv : Vis X.env.scope x := by first | exact Or.inl rfl | exact Or.inr (Or.inl rfl) | exact Or.inr (Or.inr rfl))
    (hd : (x == ("__debug__" : Str)) = false := by decide) (hcd : (x == ("__classdict__" : Str)) = false := by decide) (hs : swapsWith a (some (.Attribute (.Name x p1) f p2)) pos.line X.env = pure false := by rfl) : PSD X W (.Assign [.Attribute (.Name x p1) f p2] a pos) (sFldD cs i f fa) := by
  obtain ⟨ta, pa, ha⟩ := A.ex
  have pv' : PE X (.Name x p1) (tVar i) := L2.pv i hN hv hd hcd
  refine ⟨_, ps_fld pv' pa hs, fun {B0 G H δ σ D} S h => ?_⟩
  refine ha S (SRq.of S h fun d e v H1 G1 t1 r1 h1 => ?_)
  have S1 := S.step t1
  split at h1
  · rename_i c fs e1
    cases q : (cs.contains c && Nat.blt fs.length 1000) with
    | false => rw [q] at h1; exact h1.elim
    | true =>
      rw [q, if_pos rfl] at h1
      obtain ⟨q1, q2⟩ := Bool.and_eq_true_iff.mp q
      obtain ⟨k1, k2⟩ := hf c (by simpa using q1)
      obtain ⟨pp, es, h0, hg, dx, vs, hp, r⟩ := S1.own e1 rfl
      obtain ⟨p', hpa, es'⟩ := S1.me i c fs e1
      have ep : pp = p' := by
        rw [es] at es'
        injection es' with z; injection z with z; injection z
      subst ep
      refine ⟨_, es, pp, He.ga X.K c, dx, vs, rfl, hp, k1.cl, k2, by rw [r.length]; exact Nat.le_of_ble_eq_true q2, ?_⟩
      exact h1 _ _ _ (Same.refl _) (own_upd S1 e1 rfl es h0 hg rfl (fun _ _ z => hpa) ⟨dx, _, upd_same, r.put r1⟩)
  · exact h1.elim
end

/-! ### an __init__ as a def -/
def imi (n p : Nat) (F : Ev → SR) : Imi := fun c fs ds => if Nat.beq ds.length p then (match F (Sl.oo c fs :: (ds.map Sl.pu ++ List.replicate (n - (p + 1)) Sl.un)) with
  | .nx δ => (match (δ[0]? : Option Sl) with
    | some (Sl.oo c' fs') => if c' = c then .ok fs' else .bad
    | _ => .bad)
  | .ex c fs _ => .exc c fs
  | _ => .bad) else .bad
section
variable {P : Program} {w : World} {K : PySem.W.Frag} {mg : Str → Option Value} {base : Heap}
theorem sok_init {G H : Hp} {p dx : Addr} {c : Str} {ws : List (Str × V)} {fs : List (Str × DV)} {vs : List V} {ds : List DV} {k m : Nat} (s : Gh G H) (hp : H p = some (.ins (He.ga K c) dx ws)) (hg : G p = none) (rf : FReps K G ws fs) (r : DReps K G vs ds) (hm : m = k) :
    SOk K ⟨strip (dl H p), G, some p⟩ G H (Sl.oo c fs :: (ds.map Sl.pu ++ List.replicate k Sl.un)) (some (.ref p) :: (vs.map some ++ List.replicate m none)) := by
  have S := sok_args (K := K) s r hm
  refine ⟨⟨fun b o e _ => dl_sub b o (strip_of e), Same.refl _, s, fun _ _ _ _ => rfl⟩, by have := S.len; simp only [List.length_cons]; omega, fun i sl e => ?_, fun i j a b q e1 e2 o1 o2 h1 h2 => ?_, fun i c' fs' e => ?_, strip_no⟩
  · cases i with
    | zero =>
      simp at e
      subst e
      exact ⟨p, rfl, strip_dl, hg, dx, ws, hp, rf⟩
    | succ i =>
      have z := S.sl i sl (by simpa using e)
      cases sl with
      | un => trivial
      | pu d => simpa [SlOk] using z
      | ol _ => obtain ⟨a, _, h0, _⟩ := z.own rfl; have h := List.mem_of_getElem? (show (ds.map Sl.pu ++ List.replicate k Sl.un)[i]? = _ from by simpa using e); rcases List.mem_append.mp h with h | h; (obtain ⟨_, _, z⟩ := List.mem_map.mp h; cases z); (cases (List.mem_replicate.mp h).2)
      | oo _ _ => have h := List.mem_of_getElem? (show (ds.map Sl.pu ++ List.replicate k Sl.un)[i]? = _ from by simpa using e); rcases List.mem_append.mp h with h | h; (obtain ⟨_, _, z⟩ := List.mem_map.mp h; cases z); (cases (List.mem_replicate.mp h).2)
      | od _ => have h := List.mem_of_getElem? (show (ds.map Sl.pu ++ List.replicate k Sl.un)[i]? = _ from by simpa using e); rcases List.mem_append.mp h with h | h; (obtain ⟨_, _, z⟩ := List.mem_map.mp h; cases z); (cases (List.mem_replicate.mp h).2)
  · have no : ∀ {i : Nat} {a : Sl}, (Sl.oo c fs :: (ds.map Sl.pu ++ List.replicate k Sl.un))[i]? = some a → isOwn a = true → i = 0 := fun {i a} e o => by
      cases i with
      | zero => rfl
      | succ i =>
        have h := List.mem_of_getElem? (show (ds.map Sl.pu ++ List.replicate k Sl.un)[i]? = some a from by simpa using e)
        rcases List.mem_append.mp h with h | h
        · obtain ⟨d, _, rfl⟩ := List.mem_map.mp h; cases o
        · rw [(List.mem_replicate.mp h).2] at o; cases o
    rw [no e1 o1, no e2 o2]
  · cases i with
    | zero => exact ⟨p, rfl, rfl⟩
    | succ i =>
      have h := List.mem_of_getElem? (show (ds.map Sl.pu ++ List.replicate k Sl.un)[i]? = _ from by simpa using e)
      rcases List.mem_append.mp h with h | h
      · obtain ⟨d, _, z⟩ := List.mem_map.mp h; cases z
      · cases (List.mem_replicate.mp h).2
theorem fn_init {x qual : Str} {params : Arguments} {body : List Stmt} {scope : Scope} {dvs : List V} {kws : List (Str × V)} {f : Addr} {fd : FuncData} {N ps : List Str} {k n : Nat} {F : Ev → SR}
    (D : FunD K x qual params body scope dvs kws f fd) (S : FnScope N ps scope) (hn : ps.length = n + 1) (hle : ps.length ≤ N.length)
    (hbody : ∀ (cdv : Value) (A : Around) (outer : List Env) (s : Shared) (H : Hp) (E : XK), Room k (A.deeper (envOfC qual scope s.heap.objs.size f cdv)) →
      PSSD (cxOf (L2.CX P w) P w K mg base N qual scope f cdv A outer s H E) (fun cls d _ H' => E cls d H') body F) : FnOk P w K mg base (L2.CX P w) (k + 1) f fd ps (spI K n (imi N.length n F)) := by
  refine D.ok S (fun vs H Q E h => ?_) fun cdv A outer s H vs Q E hr h => ?_
  · obtain ⟨p, dx, c, ws, fs, G, vs', ds, rfl, hl, _⟩ := h
    rw [List.length_cons, hl, hn]
  · obtain ⟨p, dx, c, ws, fs, G, vs', ds, rfl, hl, hp, hg, s1, rf, r, h⟩ := h
    obtain ⟨t, pt, ht⟩ := (hbody cdv A outer s H E hr).ex
    refine ⟨t, pt, ?_⟩
    have S0 := sok_init (k := N.length - (n + 1)) (m := N.length - (n + 1)) s1 hp hg rf r rfl
    have es : L2.start N (.ref p :: vs') = some (.ref p) :: (vs'.map some ++ List.replicate (N.length - (n + 1)) none) := by
      unfold L2.start
      rw [List.length_cons, hl]
      rfl
    rw [es]
    refine ht S0 ?_
    unfold imi at h
    rw [show Nat.beq ds.length n = true from (by rw [← r.length, hl]; exact Nat.beq_refl _), if_pos rfl] at h
    cases q : F (Sl.oo c fs :: (ds.map Sl.pu ++ List.replicate (N.length - (n + 1)) Sl.un)) with
    | nx δ =>
      rw [q] at h
      dsimp only at h
      intro σ H' G' g S'
      cases q0 : δ[0]? with
      | none => rw [q0] at h; exact h.elim
      | some sl =>
        rw [q0] at h
        cases sl with
        | oo c' fs' =>
          by_cases qc : c' = c
          · subst qc
            have h2 : RqI K E G H p c' (.ok fs') Q := by
              have z : RqI K E G H p c' (if c' = c' then .ok fs' else .bad) Q := h
              rw [if_pos rfl] at z; exact z
            obtain ⟨pp, es2, h0, hg2, dx2, vs2, hp2, r2⟩ := S'.own q0 rfl
            obtain ⟨p', hpa, es3⟩ := S'.me 0 c' fs' q0
            have e1 : p = p' := Option.some.inj hpa
            have e2 : pp = p' := by
              rw [es2] at es3
              injection es3 with z; injection z with z; injection z
            subst e1 e2
            exact h2 H' G' dx2 vs2 S'.tr.strip hg2 hp2 r2
          · have z : RqI K E G H p c (if c' = c then .ok fs' else .bad) Q := h
            rw [if_neg qc] at z; exact z.elim
        | _ => exact h.elim
    | rt d => rw [q] at h; exact h.elim
    | ex cn xs δ => rw [q] at h; exact fun σ H' G' dx' g S' x => h H' G' dx' S'.tr.strip x
    | bk δ => rw [q] at h; exact h.elim
    | ct δ => rw [q] at h; exact h.elim
    | bad => rw [q] at h; exact h.elim
end
end LD

set_option maxHeartbeats 2000000
/-! Layer D, part F: isinstance, built-ins, comprehensions. -/
namespace LD
open PySem PySem.Spec PyProof.Rows L2
variable [Tbs]

/-! ### types -/
def DV.tg : DV → Tg
  | .non => .ty "NoneType"
  | .bl _ => .ty "bool"
  | .int _ => .ty "int"
  | .str _ => .ty "str"
  | .tup _ => .ty "tuple"
  | .lst _ => .ty "list"
  | .ro _ => .ty "list"
  | .dic _ => .ty "dict"
  | .dit _ => .ty "dict of tuples"
  | .obj c _ => .own c
theorem Tg.cls (K : PySem.W.Frag) : ∀ t : Tg, ClsV (t.w K) (t.v K)
  | .ty n => .ty n
  | .own c => .own _
theorem look_mem {α β : Type} [BEq α] [LawfulBEq α] {a : α} {b : β} : ∀ {l : List (α × β)}, l.lookup a = some b → (a, b) ∈ l
  | (c, d) :: l, h => by
    rw [List.lookup_cons] at h
    cases q : a == c with
    | true => rw [q] at h; simp at h; rw [eq_of_beq q, h]; exact List.mem_cons_self
    | false => rw [q] at h; exact List.mem_cons_of_mem _ (look_mem h)
theorem isiB_ok {K : PySem.W.Frag} {tab : List (Tg × Bool)} {cs : List Tg} (h : isiB K tab cs = true) {t : Tg} {b : Bool} (e : tab.lookup t = some b) : PySem.W.kitAny K (t.v K) (cs.map (Tg.v K)) = some b :=
  of_decide_eq_true (Bool.and_eq_true_iff.mp (List.all_eq_true.mp h (t, b) (look_mem e))).2
theorem isiB_nd {K : PySem.W.Frag} {tab : List (Tg × Bool)} {cs : List Tg} (h : isiB K tab cs = true) {t : Tg} {b : Bool} (e : tab.lookup t = some b) : t ≠ .ty "dict of tuples" :=
  of_decide_eq_true (Bool.and_eq_true_iff.mp (List.all_eq_true.mp h (t, b) (look_mem e))).1
theorem kitAny_one {K : PySem.W.Frag} {t c : Value} {b : Bool} (h : PySem.W.kitAny K t [c] = some b) : PySem.W.kitOne K t c = some b := by
  unfold PySem.W.kitAny at h
  cases q : PySem.W.kitOne K t c with
  | none => rw [q] at h; cases h
  | some r =>
    rw [q] at h
    cases r with
    | true => exact h
    | false => exact h
section
variable {K : PySem.W.Frag}
theorem tyx {G H : Hp} {v : V} {d : DV} (s : Gh G H) (r : DRep K G v d) (hd : d.tg ≠ .ty "dict of tuples") (hk : ∀ c, d.tg = .own c → KC K c) : TyX K H v (d.tg.v K) := by
  cases r with
  | non => exact .base .non
  | bl b => exact .base (.bl b)
  | int i => exact .base (.int i)
  | str x => exact .base (.str x)
  | tup e _ => exact .base (.tup (s _ _ e))
  | lst e _ => exact .base (.lst (s _ _ e))
  | ro e _ =>
    have e := Same.seq s.s e
    rcases e with (e | ⟨o, e⟩) | ⟨o, its, n, e, c, _⟩
    · exact .base (.lst e)
    · exact .base (.frz e)
    · exact .kList e c
  | dic e _ => exact .fDict (s _ _ e)
  | dit e _ => exact (hd rfl).elim
  | obj e _ =>
    have k := hk _ rfl
    exact .base (.ins (s _ _ e) k.cl k.ha k.hn k.htk k.hm)
end
def oIsi (tab : List (Tg × Bool)) : DV → R DV := fun d => match tab.lookup d.tg with
  | some b => .ok (.bl b)
  | none => .bad
/-- class expressions: a name of a built-in type, of an own class -/
structure PCl (X : Cx) (e : Expr) (t : Tg) : Prop where
  pe : PE X e (tC (t.w X.K))
section
variable {X : Cx} {W : WX} {a b : Expr} {es : List Expr} {fa fb : Ev → R DV} {fes : Ev → R (List DV)} {pos : Pos}
theorem cl_ty {x : Str} {n : String} {p : Pos} (hm : X.mg x = none) (hv : bootBuiltins x = some (.type n)) (hg : Gl X x := by rfl) (hn : x ≠ "__name__" := by decide) (hd : (x == ("__debug__" : Str)) = false := by decide) : PCl X (.Name x p) (.ty n) :=
  ⟨pe_bltn hg hm hv rfl hn hd⟩
theorem cl_own {x : Str} {p : Pos} (hm : X.mg x = some (.ref (He.ga X.K x))) (hg : Gl X x := by rfl) (hd : (x == ("__debug__" : Str)) = false := by decide) : PCl X (.Name x p) (.own x) :=
  ⟨pe_glob hg hm rfl hd⟩
def xIsi (tab : List (Tg × Bool)) (fa : Ev → R DV) : Ev → R DV := fun δ => (fa δ).bind (oIsi tab)
theorem oIsi_rq {G H : Hp} {W : Value → Option Addr → Hp → Prop} {tab : List (Tg × Bool)} {d : DV} {Q : VK} (s : Gh G H) (h : Rq X.K (DRep X.K) W G H (oIsi tab d) Q) : ∃ b, tab.lookup d.tg = some b ∧ Q (.bl b) H := by
  unfold oIsi at h
  cases q : tab.lookup d.tg with
  | none => rw [q] at h; exact h.elim
  | some b => rw [q] at h; exact ⟨b, rfl, Rq.ok_self (rep := DRep X.K) s h (.bl b)⟩
theorem d_isi {tab : List (Tg × Bool)} {t : Tg} {p : Pos} (hk : ∀ c b, tab.lookup (.own c) = some b → KC X.K c) (hB : isiB X.K tab [t] = true) (hm : X.mg "isinstance" = none) (A : PD X W a fa) (C : PCl X b t) (hg : Gl X "isinstance" := by rfl)
    (he : starEach [a, b] X.env = (false, eval a X.env) :: starEach [b] X.env := by rfl) (he2 : starEach [b] X.env = (false, eval b X.env) :: starEach [] X.env := by rfl) (hpl : (backTo pos (starEach [b] X.env)).any (·.1) = false := by rfl) :
    PD X W (.Call (.Name "isinstance" p) [a, b] [] pos) (xIsi tab fa) := by
  obtain ⟨ta, pa, ha⟩ := A.ex
  refine ⟨_, pe_callB call_isi hg hm (by decide +kernel) (pa_cons pa (pa_cons C.pe pa_nil he2) he) (by decide) (by decide) he hpl, fun {B0 G H δ σ Q} S h => ?_⟩
  refine ha S (Rq.bind (rep := DRep X.K) h fun d e v H1 G1 t1 r1 h1 => ?_)
  obtain ⟨bb, l, q⟩ := oIsi_rq t1.gh h1
  exact ⟨v, t.w X.K, d.tg.v X.K, t.v X.K, bb, rfl, t.cls X.K, tyx t1.gh r1 (isiB_nd hB l) (fun c z => hk c bb (by rw [← z]; exact l)), kitAny_one (isiB_ok hB l), q⟩
/-- a tuple of classes -/
structure PCls (X : Cx) (es : List Expr) (ts : List Tg) : Prop where
  pa : ∃ t : TA, PA X es t ∧ ∀ σ H (Q : List V → Hp → Prop), Q (ts.map (Tg.w X.K)) H → t σ H Q
theorem cls_nil : PCls X [] [] := ⟨_, pa_nil, fun _ _ _ h => h⟩
theorem cls_cons {ts : List Tg} {t : Tg} (A : PCl X a t) (B : PCls X es ts) (he : starEach (a :: es) X.env = (false, eval a X.env) :: starEach es X.env := by rfl) : PCls X (a :: es) (t :: ts) := by
  obtain ⟨u, pu, hu⟩ := B.pa
  exact ⟨_, pa_cons A.pe pu he, fun σ H Q h => hu σ H _ h⟩
theorem paired_cls (K : PySem.W.Frag) : ∀ ts : List Tg, Paired ClsV (ts.map (Tg.w K)) (ts.map (Tg.v K))
  | [] => .nil
  | t :: ts => .cons (t.cls K) (paired_cls K ts)
theorem d_isiT {tab : List (Tg × Bool)} {ts : List Tg} {p p2 : Pos} {kk : Nat} (hk : ∀ c b, tab.lookup (.own c) = some b → KC X.K c) (hB : isiB X.K tab ts = true) (hz : ts.length ≤ 1000) (hm : X.mg "isinstance" = none) (A : PD X W a fa) (C : PCls X es ts) (hg : Gl X "isinstance" := by rfl)
    (he : starEach [a, .Tuple es kk p2] X.env = (false, eval a X.env) :: starEach [.Tuple es kk p2] X.env := by rfl) (he2 : starEach [.Tuple es kk p2] X.env = (false, eval (.Tuple es kk p2) X.env) :: starEach [] X.env := by rfl)
    (hpl : (backTo pos (starEach [.Tuple es kk p2] X.env)).any (·.1) = false := by rfl) : PD X W (.Call (.Name "isinstance" p) [a, .Tuple es kk p2] [] pos) (xIsi tab fa) := by
  obtain ⟨ta, pa, ha⟩ := A.ex
  obtain ⟨tc, pc, hc⟩ := C.pa
  refine ⟨_, pe_callB call_isiT hg hm (by decide +kernel) (pa_cons pa (pa_cons (pe_tup pc) pa_nil he2) he) (by decide) (by decide) he hpl, fun {B0 G H δ σ Q} S h => ?_⟩
  refine ha S (Rq.bind (rep := DRep X.K) h fun d e v H1 G1 t1 r1 h1 => ?_)
  refine hc σ H1 _ ⟨by rw [sizeLine_eq, List.length_map]; omega, fun tp hp => ?_⟩
  have t2 := Tr.own (t1.gh) (.tup (ts.map (Tg.w X.K))) hp
  obtain ⟨bb, l, q⟩ := oIsi_rq t2.gh (Rq.tr t2 h1)
  exact ⟨v, tp, ts.map (Tg.w X.K), d.tg.v X.K, ts.map (Tg.v X.K), bb, rfl, upd_same, paired_cls _ _, tyx t2.gh r1 (isiB_nd hB l) (fun c z => hk c bb (by rw [← z]; exact l)), isiB_ok hB l, q⟩
end

/-! ### built-ins -/
section
variable {X : Cx}
def oLen : List DV → R DV
  | [.str z] => if small z.length then .ok (.int z.length) else .bad
  | [.tup xs] => .ok (.int xs.length)
  | [.lst xs] => .ok (.int xs.length)
  | [.ro xs] => .ok (.int xs.length)
  | _ => .bad
theorem cb_len : CbD X (fun xs H Q => ∃ x n, xs = [x] ∧ LenV X.K x H n ∧ Q (.int n) H) oLen := fun {G H vs ds Q W} s r h => by
  cases r with
  | nil => exact h.elim
  | cons r1 r2 =>
    cases r2 with
    | cons _ _ => rename_i d _ _ _ _ _ _; cases d <;> exact h.elim
    | nil =>
      cases r1 with
      | str z =>
        obtain ⟨c, q⟩ := rq_if h
        exact ⟨_, z.length, rfl, ⟨small_le c, rfl⟩, q.ok_self s (.int _)⟩
      | tup e r => exact ⟨_, _, rfl, .inr ⟨_, SqT.of (s _ _ e), rfl⟩, by rw [r.length]; exact Rq.ok_self (rep := DRep X.K) s h (.int _)⟩
      | lst e r => exact ⟨_, _, rfl, .inl ⟨_, SqL.of (s _ _ e), rfl⟩, by rw [r.length]; exact Rq.ok_self (rep := DRep X.K) s h (.int _)⟩
      | ro e r => exact ⟨_, _, rfl, .inl ⟨_, Same.seq s.s e, rfl⟩, by rw [r.length]; exact Rq.ok_self (rep := DRep X.K) s h (.int _)⟩
      | _ => exact h.elim
def oInt : List DV → R DV
  | [.int i] => .ok (.int i)
  | [.bl k] => .ok (.int (if k then 1 else 0))
  | _ => .bad
theorem cb_int : CbD X (fun xs H Q => (∃ i, xs = [.int i] ∧ Q (.int i) H) ∨ ∃ k, xs = [.bl k] ∧ Q (.int (if k then 1 else 0)) H) oInt := fun {G H vs ds Q W} s r h => by
  cases r with
  | nil => exact h.elim
  | cons r1 r2 =>
    cases r2 with
    | cons _ _ => rename_i d _ _ _ _ _ _; cases d <;> exact h.elim
    | nil =>
      cases r1 with
      | int i => exact .inl ⟨i, rfl, Rq.ok_self (rep := DRep X.K) s h (.int _)⟩
      | bl k => exact .inr ⟨k, rfl, Rq.ok_self (rep := DRep X.K) s h (.int _)⟩
      | _ => exact h.elim
def oAbs : List DV → R DV
  | [.int i] => .ok (.int (if i < 0 then -i else i))
  | _ => .bad
theorem cb_abs : CbD X (fun xs H Q => ∃ i, xs = [.int i] ∧ Q (.int (if i < 0 then -i else i)) H) oAbs := fun {G H vs ds Q W} s r h => by
  cases r with
  | nil => exact h.elim
  | cons r1 r2 =>
    cases r2 with
    | cons _ _ => rename_i d _ _ _ _ _ _; cases d <;> exact h.elim
    | nil =>
      cases r1 with
      | int i => exact ⟨i, rfl, Rq.ok_self (rep := DRep X.K) s h (.int _)⟩
      | _ => exact h.elim
/-- a list of ints, of bools -/
def asInts : List DV → Option (List Int)
  | [] => some []
  | .int i :: r => (asInts r).map (i :: ·)
  | _ => none
def asBls : List DV → Option (List Bool)
  | [] => some []
  | .bl i :: r => (asBls r).map (i :: ·)
  | _ => none
theorem asInts_rep {K : PySem.W.Frag} {G : Hp} : ∀ {vs : List V} {ds : List DV} {ns : List Int}, DReps K G vs ds → asInts ds = some ns → vs = ns.map V.int
  | _, _, _, .nil, e => by cases e; rfl
  | _, _, ns, .cons (d := d) (ds := ds) a b, e => by
    cases a with
    | int i =>
      unfold asInts at e
      cases q : asInts ds with
      | none => rw [q] at e; cases e
      | some r => rw [q] at e; cases e; rw [asInts_rep b q]; rfl
    | _ => cases e
theorem asBls_rep {K : PySem.W.Frag} {G : Hp} : ∀ {vs : List V} {ds : List DV} {ns : List Bool}, DReps K G vs ds → asBls ds = some ns → vs = ns.map V.bl
  | _, _, _, .nil, e => by cases e; rfl
  | _, _, ns, .cons (d := d) (ds := ds) a b, e => by
    cases a with
    | bl i =>
      unfold asBls at e
      cases q : asBls ds with
      | none => rw [q] at e; cases e
      | some r => rw [q] at e; cases e; rw [asBls_rep b q]; rfl
    | _ => cases e
def oLs {α : Type} (as : List DV → Option α) (k : α → R DV) : List DV → R DV
  | [.lst xs] => (R.ofO (as xs)).bind k
  | [.ro xs] => (R.ofO (as xs)).bind k
  | _ => .bad
theorem oLs_rq {α : Type} {as : List DV → Option α} {k : α → R DV} {G H : Hp} {vs : List V} {ds : List DV} {Q : VK} {W : Value → Option Addr → Hp → Prop} (s : Gh G H) (r : DReps X.K G vs ds) (h : Rq X.K (DRep X.K) W G H (oLs as k ds) Q) :
    ∃ a ws xs n, vs = [.ref a] ∧ SqL X.K H a ws ∧ DReps X.K G ws xs ∧ as xs = some n ∧ Rq X.K (DRep X.K) W G H (k n) Q := by
  have go : ∀ {xs : List DV}, Rq X.K (DRep X.K) W G H ((R.ofO (as xs)).bind k) Q → ∃ n, as xs = some n ∧ Rq X.K (DRep X.K) W G H (k n) Q := fun {xs} h => by
    cases q : as xs with
    | none => rw [q] at h; exact h.elim
    | some n => rw [q] at h; exact ⟨n, rfl, h⟩
  cases r with
  | nil => exact h.elim
  | cons r1 r2 =>
    cases r2 with
    | cons _ _ => rename_i d _ _ _ _ _ _; cases d <;> exact h.elim
    | nil =>
      cases r1 with
      | lst e r => obtain ⟨n, e2, q⟩ := go h; exact ⟨_, _, _, n, rfl, SqL.of (s _ _ e), r, e2, q⟩
      | ro e r => obtain ⟨n, e2, q⟩ := go h; exact ⟨_, _, _, n, rfl, Same.seq s.s e, r, e2, q⟩
      | _ => exact h.elim
def oSum : List DV → R DV := oLs asInts fun ns => .ok (.int ns.sum)
def oAll : List DV → R DV := oLs asBls fun bs => .ok (.bl (bs.all id))
def oAny : List DV → R DV := oLs asBls fun bs => .ok (.bl (bs.any id))
def lmax : List Int → Option Int
  | [] => none
  | i :: r => some (r.foldl max i)
def lmin : List Int → Option Int
  | [] => none
  | i :: r => some (r.foldl min i)
def oMaxL : List DV → R DV := oLs asInts fun ns => (R.ofO (lmax ns)).bind fun i => .ok (.int i)
def oMinL : List DV → R DV := oLs asInts fun ns => (R.ofO (lmin ns)).bind fun i => .ok (.int i)
theorem cb_sum : CbD X (rSum X.K) oSum := fun {G H vs ds Q W} s r h => by
  obtain ⟨a, ws, xs, n, rfl, hs, r2, e, q⟩ := oLs_rq s r h
  rw [asInts_rep r2 e] at hs
  exact ⟨a, n, rfl, hs, q.ok_self s (.int _)⟩
theorem cb_all : CbD X (rAll X.K) oAll := fun {G H vs ds Q W} s r h => by
  obtain ⟨a, ws, xs, n, rfl, hs, r2, e, q⟩ := oLs_rq s r h
  rw [asBls_rep r2 e] at hs
  exact ⟨a, n, rfl, hs, q.ok_self s (.bl _)⟩
theorem cb_any : CbD X (rAny X.K) oAny := fun {G H vs ds Q W} s r h => by
  obtain ⟨a, ws, xs, n, rfl, hs, r2, e, q⟩ := oLs_rq s r h
  rw [asBls_rep r2 e] at hs
  exact ⟨a, n, rfl, hs, q.ok_self s (.bl _)⟩
theorem foldl_max : ∀ (r : List Int) (i : Int), r.foldl max i ∈ i :: r ∧ ∀ y ∈ i :: r, y ≤ r.foldl max i
  | [], i => ⟨by simp, fun y hy => by simp at hy; subst hy; exact Int.le_refl _⟩
  | j :: r, i => by
    obtain ⟨h1, h2⟩ := foldl_max r (max i j)
    have hx := h2 (max i j) List.mem_cons_self
    refine ⟨?_, fun y hy => ?_⟩
    · show r.foldl max (max i j) ∈ _
      rcases List.mem_cons.mp h1 with e | e
      · rw [e]; by_cases q : i ≤ j
        · rw [Int.max_eq_right q]; simp
        · rw [Int.max_eq_left (by omega)]; simp
      · simp [e]
    · show y ≤ r.foldl max (max i j)
      rcases List.mem_cons.mp hy with e | e
      · subst e; exact Int.le_trans (Int.le_max_left _ _) hx
      · rcases List.mem_cons.mp e with e | e
        · subst e; exact Int.le_trans (Int.le_max_right _ _) hx
        · exact h2 y (List.mem_cons_of_mem _ e)
theorem foldl_min : ∀ (r : List Int) (i : Int), r.foldl min i ∈ i :: r ∧ ∀ y ∈ i :: r, r.foldl min i ≤ y
  | [], i => ⟨by simp, fun y hy => by simp at hy; subst hy; exact Int.le_refl _⟩
  | j :: r, i => by
    obtain ⟨h1, h2⟩ := foldl_min r (min i j)
    have hx := h2 (min i j) List.mem_cons_self
    refine ⟨?_, fun y hy => ?_⟩
    · show r.foldl min (min i j) ∈ _
      rcases List.mem_cons.mp h1 with e | e
      · rw [e]; by_cases q : i ≤ j
        · rw [Int.min_eq_left q]; simp
        · rw [Int.min_eq_right (by omega)]; simp
      · simp [e]
    · show r.foldl min (min i j) ≤ y
      rcases List.mem_cons.mp hy with e | e
      · subst e; exact Int.le_trans hx (Int.min_le_left _ _)
      · rcases List.mem_cons.mp e with e | e
        · subst e; exact Int.le_trans hx (Int.min_le_right _ _)
        · exact h2 y (List.mem_cons_of_mem _ e)
theorem cb_max : CbD X (rMax X.K) oMaxL := fun {G H vs ds Q W} s r h => by
  obtain ⟨a, ws, xs, n, rfl, hs, r2, e, q⟩ := oLs_rq s r h
  rw [asInts_rep r2 e] at hs
  cases n with
  | nil => exact q.elim
  | cons i t =>
    refine ⟨a, i :: t, rfl, hs, by simp, fun m h1 h2 => ?_⟩
    obtain ⟨k1, k2⟩ := foldl_max t i
    have : m = t.foldl max i := Int.le_antisymm (k2 m h1) (h2 _ k1)
    subst this
    exact Rq.ok_self (rep := DRep X.K) s q (.int _)
theorem cb_min : CbD X (rMin X.K) oMinL := fun {G H vs ds Q W} s r h => by
  obtain ⟨a, ws, xs, n, rfl, hs, r2, e, q⟩ := oLs_rq s r h
  rw [asInts_rep r2 e] at hs
  cases n with
  | nil => exact q.elim
  | cons i t =>
    refine ⟨a, i :: t, rfl, hs, by simp, fun m h1 h2 => ?_⟩
    obtain ⟨k1, k2⟩ := foldl_min t i
    have : m = t.foldl min i := Int.le_antisymm (h2 _ k1) (k2 m h1)
    subst this
    exact Rq.ok_self (rep := DRep X.K) s q (.int _)
/-- list(xs), tuple(xs) -/
def oList : List DV → R DV
  | [.lst xs] => .ok (.lst xs)
  | [.ro xs] => .ok (.lst xs)
  | [.tup xs] => .ok (.lst xs)
  | _ => .bad
def oTuple : List DV → R DV
  | [.lst xs] => .ok (.tup xs)
  | [.ro xs] => .ok (.tup xs)
  | [.tup xs] => .ok (.tup xs)
  | _ => .bad
theorem cb_list : CbD X (fun xs H Q => ∃ p ys, xs = [.ref p] ∧ (SqL X.K H p ys ∨ SqT X.K H p ys) ∧ ∀ l, H l = none → Q (.ref l) (upd H l (.lst ys))) oList := fun {G H vs ds Q W} s r h => by
  cases r with
  | nil => exact h.elim
  | cons r1 r2 =>
    cases r2 with
    | cons _ _ => rename_i d _ _ _ _ _ _; cases d <;> exact h.elim
    | nil =>
      cases r1 with
      | lst e r => exact ⟨_, _, rfl, .inl (SqL.of (s _ _ e)), fun p hp => Rq.ok_new (rep := DRep X.K) s hp h (.lst upd_same (r.mono (Same.upd (s.none hp))))⟩
      | ro e r => exact ⟨_, _, rfl, .inl (Same.seq s.s e), fun p hp => Rq.ok_new (rep := DRep X.K) s hp h (.lst upd_same (r.mono (Same.upd (s.none hp))))⟩
      | tup e r => exact ⟨_, _, rfl, .inr (SqT.of (s _ _ e)), fun p hp => Rq.ok_new (rep := DRep X.K) s hp h (.lst upd_same (r.mono (Same.upd (s.none hp))))⟩
      | _ => exact h.elim
theorem cb_tuple : CbD X (fun xs H Q => ∃ p ys, xs = [.ref p] ∧ ((SqL X.K H p ys ∧ ∀ l, H l = none → Q (.ref l) (upd H l (.tup ys))) ∨ (SqT X.K H p ys ∧ Q (.ref p) H))) oTuple := fun {G H vs ds Q W} s r h => by
  cases r with
  | nil => exact h.elim
  | cons r1 r2 =>
    cases r2 with
    | cons _ _ => rename_i d _ _ _ _ _ _; cases d <;> exact h.elim
    | nil =>
      cases r1 with
      | lst e r => exact ⟨_, _, rfl, .inl ⟨SqL.of (s _ _ e), fun p hp => Rq.ok_new (rep := DRep X.K) s hp h (.tup upd_same (r.mono (Same.upd (s.none hp))))⟩⟩
      | ro e r => exact ⟨_, _, rfl, .inl ⟨Same.seq s.s e, fun p hp => Rq.ok_new (rep := DRep X.K) s hp h (.tup upd_same (r.mono (Same.upd (s.none hp))))⟩⟩
      | tup e r => exact ⟨_, _, rfl, .inr ⟨SqT.of (s _ _ e), Rq.ok_self (rep := DRep X.K) s h (.tup e r)⟩⟩
      | _ => exact h.elim
end
end LD

set_option maxHeartbeats 2000000
/-! Layer D, part G: what holds in every context; comprehensions; zip; try. -/
namespace LD
open PySem PySem.Spec PyProof.Rows L2
variable [Tbs]

/-! ### readings that name no context -/
def cE (K : PySem.W.Frag) (W : WX) (f : Ev → R DV) : TE := fun σ H Q => ∃ B G δ, SOk K B G H δ σ ∧ Rq K (DRep K) (fun c d H' => W c d σ H') G H (f δ) Q
def cT (K : PySem.W.Frag) (W : WX) (f : Ev → R Bool) : TT := fun σ H Q => ∃ B G δ, SOk K B G H δ σ ∧ Rq K BRep (fun c d H' => W c d σ H') G H (f δ) Q
def cG (K : PySem.W.Frag) (ix : List Nat) (g : DV → Ev → R Ev) : TG := fun v σ H Q => ∃ B G δ δ' d, SOk K B G H δ σ ∧ DRep K G v d ∧ g d δ = .ok δ' ∧ ∀ σ', SOk K B G H δ' σ' → (∀ vs : List Nat, (∀ i ∈ ix, i ∈ vs) → wipe σ' vs = wipe σ vs) → Q σ' H
def cS (K : PySem.W.Frag) (W : WX) (F : Ev → SR) : TS := fun D σ H => ∃ B G δ, SOk K B G H δ σ ∧ SRq K W D B G (F δ)
section
variable {X : Cx} {W : WX} {a b c : Expr} {es : List Expr} {f : Ev → R DV} {ft : Ev → R Bool} {g : DV → Ev → R Ev} {ix : List Nat} {st : List Stmt} {F : Ev → SR}
theorem PD.can (A : PD X W a f) : PE X a (cE X.K W f) := by
  obtain ⟨t, p, h⟩ := A.ex
  exact ⟨fun pins s σ H Q I ⟨B, G, δ, S, q⟩ => p.run pins s σ H Q I (h S q)⟩
theorem PDT.can (A : PDT X W a ft) : PT X a (cT X.K W ft) := by
  obtain ⟨t, p, h⟩ := A.ex
  exact ⟨fun pins s σ H Q I ⟨B, G, δ, S, q⟩ => p.run pins s σ H Q I (h S q)⟩
theorem PGD.can (A : PGD X a ix g) : PG X a (cG X.K ix g) := by
  obtain ⟨t, p, h⟩ := A.ex
  exact ⟨fun pins s σ H v u Q I r ⟨B, G, δ, δ', d, S, rd, e, q⟩ => p.run pins s σ H v u Q I r (h S rd e q)⟩
theorem PSSD.can (A : PSSD X W st F) : PSs X st (cS X.K W F) := by
  obtain ⟨t, p, h⟩ := A.ex
  exact ⟨fun pins s σ H D I ⟨B, G, δ, S, q⟩ => p.run pins s σ H D I (h S q)⟩
end

/-! ### comprehensions -/
/-- what raises is not told -/
def noX {α : Type} : R α → R α
  | .ok a => .ok a
  | _ => .bad
theorem Rq.noX {α β : Type} {K : PySem.W.Frag} {rep : Rel α β} {W W' : Value → Option Addr → Hp → Prop} {G H : Hp} {r : R α} {Q : β → Hp → Prop} (h : Rq K rep W G H (noX r) Q) : Rq K rep W' G H r Q := by
  cases r with
  | ok a => exact h
  | exc _ _ => exact h.elim
  | bad => exact h.elim
theorem Rq.noX' {α β : Type} {K : PySem.W.Frag} {rep : Rel α β} {W W' : Value → Option Addr → Hp → Prop} {G H : Hp} {r : R α} {Q : β → Hp → Prop} (h : Rq K rep W G H (LD.noX r) Q) : Rq K rep W' G H (LD.noX r) Q := by
  cases r with
  | ok a => exact h
  | exc _ _ => exact h.elim
  | bad => exact h.elim
def wipeD (δ : Ev) : List Nat → Ev
  | [] => δ
  | v :: vs => (wipeD δ vs).set v .un
theorem SOk.wipe {K : PySem.W.Frag} {B : Bas} {G H : Hp} {δ : Ev} {σ : L2.St} (S : SOk K B G H δ σ) : ∀ vs : List Nat, SOk K B G H (wipeD δ vs) (L2.wipe σ vs)
  | [] => S
  | v :: vs => (SOk.wipe S vs).forget v none
/-- another new object is changed -/
theorem SOk.other {K : PySem.W.Frag} {B : Bas} {G H : Hp} {δ : Ev} {σ : L2.St} (S : SOk K B G H δ σ) {p : Addr} {o : HO} (h0 : B.H0 p = none) (hg : G p = none) (hne : ∀ (i : Nat) (s : Sl), δ[i]? = some s → isOwn s = true → σ[i]? ≠ some (some (V.ref p))) (hna : ∀ u, H p = some u → NT u ∧ ∀ f, u ≠ .ext f) (ho : NT o := by intro _ z; cases z) : SOk K B G (upd H p o) δ σ := by
  refine ⟨tr_own_upd S.tr o h0 hg hna ho, S.len, fun i s e => ?_, S.dj, S.me, S.h0⟩
  refine (S.sl i s e).step (Same.refl _) (fun a ob os hv q => ?_) fun _ _ _ _ x => x
  have ne : a ≠ p := fun z => hne i s e os (by rw [← z]; exact join_some hv)
  rw [upd_ne ne]
  exact q
def lcD (g : DV → Ev → R Ev) (ft : Ev → R Bool) (fe : Ev → R DV) (δ : Ev) : List DV → R (List DV)
  | [] => .ok []
  | d :: ds => match g d δ with
    | .ok δ' => (noX (ft δ')).bind fun b => if b = true then (noX (fe δ')).bind fun y => (lcD g ft fe δ ds).bind fun ys => .ok (y :: ys) else lcD g ft fe δ ds
    | _ => .bad
/-- a comprehension's list -/
def xLcs (vs : List Nat) (fi : Ev → R (List DV)) (g : DV → Ev → R Ev) (ft : Ev → R Bool) (fe : Ev → R DV) : Ev → R (List DV) := fun δ => (fi δ).bind fun ds => (lcD g ft fe (wipeD δ vs) ds).bind fun ys => if small ys.length = true then .ok ys else .bad
def xLc (vs : List Nat) (fi : Ev → R (List DV)) (g : DV → Ev → R Ev) (ft : Ev → R Bool) (fe : Ev → R DV) : Ev → R DV := fun δ => (xLcs vs fi g ft fe δ).bind fun ys => .ok (.lst ys)
def xYes : Ev → R Bool := fun _ => .ok true
/-- a comprehension's tests -/
structure PDTs (X : Cx) (W : WX) (ifs : List Expr) (ft : Ev → R Bool) : Prop where
  can : PTs X ifs (cT X.K W ft)
theorem dts_nil {X : Cx} {W : WX} : PDTs X W [] xYes := ⟨⟨fun pins s σ H Q I ⟨B, G, δ, S, q⟩ => pts_nil.run pins s σ H Q I (Rq.ok_self (rep := BRep) S.gh q rfl)⟩⟩
theorem dts_one {X : Cx} {W : WX} {a : Expr} {ft : Ev → R Bool} (A : PDT X W a ft) : PDTs X W [a] ft := ⟨pts_one A.can⟩
theorem wipe_idem {σ : L2.St} : ∀ {vs : List Nat}, wipe (wipe σ vs) vs = wipe σ vs := by
  intro vs
  apply List.ext_getElem?
  intro j
  by_cases q : j ∈ vs
  · have key : ∀ (τ : L2.St) (ws : List Nat), j ∈ ws → (wipe τ ws)[j]? = if j < τ.length then some none else none := by
      intro τ ws
      induction ws with
      | nil => intro h; cases h
      | cons k ws ih =>
        intro h
        show ((wipe τ ws).set k none)[j]? = _
        by_cases e : k = j
        · subst e
          rw [List.getElem?_set_self']
          by_cases hl : k < τ.length
          · rw [if_pos hl, List.getElem?_eq_getElem (by rw [wipe_length]; exact hl)]; rfl
          · rw [if_neg hl, List.getElem?_eq_none (by rw [wipe_length]; omega)]; rfl
        · rw [List.getElem?_set_ne e]
          exact ih ((List.mem_cons.mp h).resolve_left (fun z => e z.symm))
    rw [key _ _ q, key _ _ q, wipe_length]
  · rw [wipe_out q, wipe_out q]
section
variable {X : Cx} {W : WX} {elt tg iter : Expr} {ifs : List Expr} {scope : Scope} {own : List (Str × Nat)} {pos : Pos} {fi : Ev → R (List DV)} {g : DV → Ev → R Ev} {ft : Ev → R Bool} {fe : Ev → R DV} {ix : List Nat}
abbrev W0 : WX := fun _ _ _ _ => False
/-- a new list at D, not yet frozen -/
def LRq (K : PySem.W.Frag) (W : Value → Option Addr → Hp → Prop) (G H : Hp) (r : R (List DV)) (Q : VK) : Prop := match r with
  | .ok ys => ∀ D ws H' G', Tr G H G' H' → strip H D = none → G' D = none → H' D = some (.lst ws) → DReps K G' ws ys → Q (.ref D) H'
  | .exc c fs => ∀ H' G' d, Tr G H G' H' → XRep K G' H' d fs → W (.ref (He.ga K c)) d H'
  | .bad => False
theorem LRq.tr {K : PySem.W.Frag} {W : Value → Option Addr → Hp → Prop} {G H G1 H1 : Hp} {r : R (List DV)} {Q : VK} (t : Tr G H G1 H1) (h : LRq K W G H r Q) : LRq K W G1 H1 r Q := by
  cases r with
  | ok ys => exact fun D ws H' G' t' hd => h D ws H' G' (t.trans t') (t.free hd)
  | exc c fs => exact fun H' G' d t' => h H' G' d (t.trans t')
  | bad => exact h
theorem LRq.bind {α β : Type} {K : PySem.W.Frag} {W : Value → Option Addr → Hp → Prop} {rep : Rel α β} {G H : Hp} {r : R α} {k : α → R (List DV)} {Q : β → Hp → Prop} {Q' : VK} (h : LRq K W G H (r.bind k) Q') (c : ∀ a, r = .ok a → ∀ b H1 G1, Tr G H G1 H1 → rep G1 b a → LRq K W G1 H1 (k a) Q' → Q b H1) : Rq K rep W G H r Q := by
  cases r with
  | ok a => exact fun b H1 G1 t p => c a rfl b H1 G1 t p (LRq.tr t h)
  | exc _ _ => exact h
  | bad => exact h
theorem LRq.of {K : PySem.W.Frag} {W : Value → Option Addr → Hp → Prop} {G H : Hp} {r : R (List DV)} {Q : VK} (h : Rq K (DRep K) W G H (r.bind fun ys => .ok (.lst ys)) Q) : LRq K W G H r Q := by
  cases r with
  | ok ys =>
    intro D ws H' G' t hd hg hh rp
    obtain ⟨tf, gf⟩ := t.freezeS hd hg hh
    exact h (.ref D) H' _ tf (.lst upd_same (rp.mono gf))
  | exc c fs => exact h
  | bad => exact h
theorem rq_ifL {K : PySem.W.Frag} {G H : Hp} {W : Value → Option Addr → Hp → Prop} {Q : VK} {c : Bool} {a : List DV} (h : LRq K W G H (if c = true then .ok a else .bad) Q) : c = true ∧ LRq K W G H (.ok a) Q := by
  cases c with
  | true => exact ⟨rfl, h⟩
  | false => exact h.elim
theorem lc_req {wi : TI} {vs : List Nat} {B : Bas} {G H : Hp} {δ : Ev} {σ : L2.St} {Q : VK}
    (hw : ∀ {B : Bas} {G H : Hp} {δ : Ev} {σ : L2.St} {Q : It → Hp → Prop}, SOk X.K B G H δ σ → Rq X.K (fun G' J ds => Walks X.K J ds G') (fun c d H' => W c d σ H') G H (fi δ) Q → wi σ H Q)
    (hix : ∀ i ∈ ix, i ∈ vs) (S : SOk X.K B G H δ σ) (h : LRq X.K (fun c d H' => W c d σ H') G H (xLcs vs fi g ft fe δ) Q) : tLc wi (cG X.K ix g) (cT X.K W0 (fun δ => noX (ft δ))) (cE X.K W0 (fun δ => noX (fe δ))) vs σ H Q := by
  refine hw S (LRq.bind (rep := fun G' J ds => Walks X.K J ds G') h fun ds e J H1 G1 t1 wk h1 => ?_)
  intro D hD
  have S1 := S.step t1
  have hgD : G1 D = none := t1.gh.none hD
  have hbD : B.H0 D = none := S1.free hD
  cases ed : lcD g ft fe (wipeD δ vs) ds with
  | exc _ _ =>
    exfalso
    have key : ∀ ds c fs, lcD g ft fe (wipeD δ vs) ds ≠ .exc c fs := by
      intro ds
      induction ds with
      | nil => intro c fs z; cases z
      | cons d ds ih =>
        intro c fs z
        unfold lcD at z
        cases eg : g d (wipeD δ vs) with
        | ok δ' =>
          rw [eg] at z
          dsimp only at z
          cases et : ft δ' with
          | ok b =>
            rw [et] at z
            cases b with
            | true =>
              cases ee : fe δ' with
              | ok y =>
                rw [ee] at z
                cases er : lcD g ft fe (wipeD δ vs) ds with
                | ok ys => rw [er] at z; cases z
                | exc c' fs' => exact ih c' fs' er
                | bad => rw [er] at z; cases z
              | exc _ _ => rw [ee] at z; cases z
              | bad => rw [ee] at z; cases z
            | false => exact ih c fs z
          | exc _ _ => rw [et] at z; cases z
          | bad => rw [et] at z; cases z
        | exc _ _ => rw [eg] at z; cases z
        | bad => rw [eg] at z; cases z
    exact key _ _ _ ed
  | bad => rw [ed] at h1; exact h1.elim
  | ok ys =>
    rw [ed] at h1
    obtain ⟨hz, h1⟩ := rq_ifL h1
    have ltot : ys.length ≤ sizeLine := small_le hz
    have Sw := (S1.wipe vs)
    -- no own slot is the new list
    have hne : ∀ (i : Nat) (s : Sl), (wipeD δ vs)[i]? = some s → isOwn s = true → (wipe σ vs)[i]? ≠ some (some (V.ref D)) := fun i s e o z => by
      obtain ⟨a, es, _, _, oa⟩ := Sw.own e o
      rw [z] at es
      have : D = a := by injection es with es; injection es with es; injection es
      subst this
      exact oa.there hD
    have Sw0 : SOk X.K B G1 (upd H1 D (.lst [])) (wipeD δ vs) (wipe σ vs) := Sw.other hbD hgD hne (fun u e => by rw [hD] at e; cases e)
    have t0 : Tr G1 H1 G1 (upd H1 D (.lst [])) := Tr.own t1.gh _ hD
    refine ⟨fun i m H => i ≤ ds.length ∧ m = ds.length - i ∧ ∃ G' acc accV zs, Tr G1 H1 G' H ∧ G' D = none ∧ H D = some (.lst accV) ∧ DReps X.K G' accV acc ∧ SOk X.K B G' H (wipeD δ vs) (wipe σ vs) ∧ lcD g ft fe (wipeD δ vs) (ds.drop i) = .ok zs ∧ acc ++ zs = ys,
      ⟨ds.length, Nat.zero_le _, by simp, G1, [], [], ys, t0, hgD, upd_same, .nil, Sw0, by simpa using ed, rfl⟩, ?_⟩
    rintro i m H' ⟨hi, rfl, G', acc, accV, zs, t', hg', hH', rA, S', el, ea⟩
    by_cases hlt : i < ds.length
    · have sG : Same G1 H' := t'.gg.trans S'.gh
      refine .inr ⟨wk.go i H' sG hlt, fun H4 => ∃ G4 acc4 accV4 zs4, Tr G1 H1 G4 H4 ∧ G4 D = none ∧ H4 D = some (.lst accV4) ∧ DReps X.K G4 accV4 acc4 ∧ SOk X.K B G4 H4 (wipeD δ vs) (wipe σ vs) ∧ lcD g ft fe (wipeD δ vs) (ds.drop (i + 1)) = .ok zs4 ∧ acc4 ++ zs4 = ys,
        fun H4 z => ⟨ds.length - (i + 1), by omega, hlt, rfl, z⟩, fun x H2 y => ?_⟩
      obtain ⟨G2, d, t2, hd, rd⟩ := wk.yld i H' x H2 G' t'.gg S'.gh hlt y
      have edr : ds.drop i = d :: ds.drop (i + 1) := by
        rw [List.drop_eq_getElem_cons hlt]
        rw [List.getElem?_eq_getElem hlt] at hd
        rw [Option.some.inj hd]
      rw [edr] at el
      unfold lcD at el
      cases eg : g d (wipeD δ vs) with
      | exc _ _ => rw [eg] at el; cases el
      | bad => rw [eg] at el; cases el
      | ok δ' =>
        rw [eg] at el
        dsimp only at el
        refine ⟨B, G2, wipeD δ vs, δ', d, S'.step t2, rd, eg, fun σ' S2 w2 => ⟨by rw [w2 vs hix, wipe_idem], ?_⟩⟩
        cases et : ft δ' with
        | exc _ _ => rw [et] at el; cases el
        | bad => rw [et] at el; cases el
        | ok b =>
          rw [et] at el
          refine ⟨B, G2, δ', S2, ?_⟩
          show Rq X.K BRep _ G2 H2 (LD.noX (ft δ')) _
          rw [et]
          intro b' H3 G3 t3 eb
          cases eb
          cases b with
          | false =>
            rw [if_neg (by decide)]
            have el : lcD g ft fe (wipeD δ vs) (ds.drop (i + 1)) = .ok zs := el
            have tt := t2.trans t3
            refine ⟨G3, acc, accV, zs, t'.trans tt, by rw [tt.nw D hH']; exact hg', tt.sm _ _ hH', rA.mono tt.gg, S'.step tt, el, ea⟩
          | true =>
            rw [if_pos rfl]
            have el : ((LD.noX (fe δ')).bind fun y => (lcD g ft fe (wipeD δ vs) (ds.drop (i + 1))).bind fun ys => .ok (y :: ys)) = .ok zs := el
            cases ee : fe δ' with
            | exc _ _ => rw [ee] at el; cases el
            | bad => rw [ee] at el; cases el
            | ok yv =>
              rw [ee] at el
              refine ⟨B, G3, δ', S2.step t3, ?_⟩
              show Rq X.K (DRep X.K) _ G3 H3 (LD.noX (fe δ')) _
              rw [ee]
              intro u H4 G4 t4 ru
              have el : ((lcD g ft fe (wipeD δ vs) (ds.drop (i + 1))).bind fun ys => .ok (yv :: ys)) = .ok zs := el
              cases er : lcD g ft fe (wipeD δ vs) (ds.drop (i + 1)) with
              | exc _ _ => rw [er] at el; cases el
              | bad => rw [er] at el; cases el
              | ok ws =>
                rw [er] at el
                cases el
                have tt := (t2.trans t3).trans t4
                have hg4 : G4 D = none := by rw [tt.nw D hH']; exact hg'
                have hH4 := tt.sm _ _ hH'
                have S4 := S'.step tt
                have tg := (t'.trans tt)
                refine ⟨accV, hH4, ?_, G4, acc ++ [yv], accV ++ [u], ws, tr_own_upd tg _ hD hg4 (is_na hH4), hg4, upd_same, (rA.mono tt.gg).append (.cons ru .nil), S4.other hbD hg4 hne (is_na hH4), rfl, by simpa using ea⟩
                rw [rA.length]
                have : acc.length + (yv :: ws).length = ys.length := by rw [← ea, List.length_append]
                rw [List.length_cons] at this
                omega
    · have e : i = ds.length := by omega
      subst e
      have sG : Same G1 H' := t'.gg.trans S'.gh
      refine .inl ⟨wk.stop H' sG, ?_⟩
      rw [List.drop_length] at el
      cases el
      rw [List.append_nil] at ea
      subst ea
      exact h1 D accV H' G' t' (strip_none hD) hg' hH' rA
theorem d_lc (hc : X.calm = true) (hN : X.N.Nodup) (ok : BlkOk X.N X.env.scope scope own) (hix : ∀ i ∈ ix, i ∈ own.map (·.2)) (I : PID X W tg iter fi)
    (hg : ∀ (s : Shared) (H : Hp) (C : Addr) (cl : List (Str × Addr)) (fp : List Addr), PGD (X.blk s H scope (compEnvC scope cl C X.env) fp) tg ix g) (ht : ∀ (s : Shared) (H : Hp) (C : Addr) (cl : List (Str × Addr)) (fp : List Addr), PDTs (X.blk s H scope (compEnvC scope cl C X.env) fp) W0 ifs ft)
    (he : ∀ (s : Shared) (H : Hp) (C : Addr) (cl : List (Str × Addr)) (fp : List Addr), PD (X.blk s H scope (compEnvC scope cl C X.env) fp) W0 elt fe) (hs : ∀ x, foldedSetIterable iter X.env x = pure x := by intro _; rfl) :
    PD X W (.ListComp elt [⟨tg, iter, ifs, 0⟩] scope pos) (xLc (own.map (·.2)) fi g ft fe) := by
  obtain ⟨wi, pw, hw⟩ := I.ex
  refine ⟨_, pe_lc (g := cG X.K ix g) (tt := cT X.K W0 (fun δ => noX (ft δ))) (te := cE X.K W0 (fun δ => noX (fe δ))) hc hN pw ok (fun s H C cl fp => (hg s H C cl fp).can) (fun s H C cl fp => ⟨fun pins s' σ H' Q I' ⟨B, G, δ, S, q⟩ => (ht s H C cl fp).can.run pins s' σ H' Q I' ⟨B, G, δ, S, Rq.noX q⟩⟩)
    (fun s H C cl fp => ⟨fun pins s' σ H' Q I' ⟨B, G, δ, S, q⟩ => (he s H C cl fp).can.run pins s' σ H' Q I' ⟨B, G, δ, S, Rq.noX q⟩⟩) hs, fun {B G H δ σ Q} S h => ?_⟩
  exact lc_req hw hix S (LRq.of h)
/-- name = [..] on one line -/
def sSetLc (i : Nat) (f : Ev → R (List DV)) : Ev → SR := fun δ => xS (f δ) δ fun ys => .nx (δ.set i (.pu (.lst ys)))
theorem ds_setLc (i : Nat) {y : Str} {py spos : Pos} (hc : X.calm = true) (hN : X.N.Nodup) (ok : BlkOk X.N X.env.scope scope own) (hix : ∀ i ∈ ix, i ∈ own.map (·.2)) (I : PID X W tg iter fi)
    (hg : ∀ (s : Shared) (H : Hp) (C : Addr) (cl : List (Str × Addr)) (fp : List Addr), PGD (X.blk s H scope (compEnvC scope cl C X.env) fp) tg ix g) (ht : ∀ (s : Shared) (H : Hp) (C : Addr) (cl : List (Str × Addr)) (fp : List Addr), PDTs (X.blk s H scope (compEnvC scope cl C X.env) fp) W0 ifs ft)
    (he : ∀ (s : Shared) (H : Hp) (C : Addr) (cl : List (Str × Addr)) (fp : List Addr), PD (X.blk s H scope (compEnvC scope cl C X.env) fp) W0 elt fe)
    (hy : X.N[i]? = some y := by rfl) (hyl : X.env.scope.names.lookup y = some .local := by rfl) (hsw : swapsWith (.ListComp elt [⟨tg, iter, ifs, 0⟩] scope pos) (some (.Name y py)) spos.line X.env = pure true := by exact sw_true rfl rfl rfl rfl) (hs : ∀ x, foldedSetIterable iter X.env x = pure x := by intro _; rfl) :
    PSD X W (.Assign [.Name y py] (.ListComp elt [⟨tg, iter, ifs, 0⟩] scope pos) spos) (sSetLc i (xLcs (own.map (·.2)) fi g ft fe)) := by
  obtain ⟨wi, pw, hw⟩ := I.ex
  refine ⟨_, ps_setLc (g := cG X.K ix g) (tt := cT X.K W0 (fun δ => noX (ft δ))) (te := cE X.K W0 (fun δ => noX (fe δ))) hc hN hy hyl hsw pw ok (fun s H C cl fp => (hg s H C cl fp).can) (fun s H C cl fp => ⟨fun pins s' σ H' Q I' ⟨B, G, δ, S, q⟩ => (ht s H C cl fp).can.run pins s' σ H' Q I' ⟨B, G, δ, S, Rq.noX q⟩⟩)
    (fun s H C cl fp => ⟨fun pins s' σ H' Q I' ⟨B, G, δ, S, q⟩ => (he s H C cl fp).can.run pins s' σ H' Q I' ⟨B, G, δ, S, Rq.noX q⟩⟩) hs, fun {B G H δ σ D} S h => ?_⟩
  show tLc wi (cG X.K ix g) _ _ (own.map (·.2)) σ H (fun x H1 => gName i x σ H1 D.nx)
  refine lc_req hw hix S ?_
  unfold sSetLc at h
  cases q : xLcs (own.map (·.2)) fi g ft fe δ with
  | ok ys =>
    rw [q] at h
    intro L ws H' G' t hd hgd hh rp
    obtain ⟨tf, gf⟩ := t.freezeS hd hgd hh
    exact h _ _ _ tf.gg ((S.step tf).set i (.lst upd_same (rp.mono gf)))
  | exc c fs => rw [q] at h; exact fun H' G' d t x => h σ H' G' d t.gg (S.step t) x
  | bad => rw [q] at h; exact h.elim
/-- the name's own list -/
def sSetLcO (i : Nat) (f : Ev → R (List DV)) : Ev → SR := fun δ => xS (f δ) δ fun ys => .nx (δ.set i (.ol ys))
theorem own_laid {K : PySem.W.Frag} {B : Bas} {G H G' H' : Hp} {δ : Ev} {σ : L2.St} (S : SOk K B G H δ σ) (i : Nat) {p : Addr} {s : Sl} (t : Tr G H G' H') (hp : strip H p = none) (hg : G' p = none) (hs : isOwn s = true) (hme : ∀ c fs, s ≠ .oo c fs) (r : OwnAt K G' H' p s) : SOk K B G' H' (δ.set i s) (σ.set i (some (.ref p))) := by
  have S' := S.step t
  refine S'.setOwn i hs S'.tr (S.freeS hp) hg r (fun b u hb e => e) (fun j u hj e ou z => ?_) fun c fs z => absurd z (hme c fs)
  obtain ⟨a, es, _, _, oa⟩ := S.own e ou
  rw [z] at es
  have : p = a := by injection es with es; injection es with es; injection es
  subst this
  exact oa.thereS hp
theorem ds_setLcO (i : Nat) {y : Str} {py spos : Pos} (hc : X.calm = true) (hN : X.N.Nodup) (ok : BlkOk X.N X.env.scope scope own) (hix : ∀ i ∈ ix, i ∈ own.map (·.2)) (I : PID X W tg iter fi)
    (hg : ∀ (s : Shared) (H : Hp) (C : Addr) (cl : List (Str × Addr)) (fp : List Addr), PGD (X.blk s H scope (compEnvC scope cl C X.env) fp) tg ix g) (ht : ∀ (s : Shared) (H : Hp) (C : Addr) (cl : List (Str × Addr)) (fp : List Addr), PDTs (X.blk s H scope (compEnvC scope cl C X.env) fp) W0 ifs ft)
    (he : ∀ (s : Shared) (H : Hp) (C : Addr) (cl : List (Str × Addr)) (fp : List Addr), PD (X.blk s H scope (compEnvC scope cl C X.env) fp) W0 elt fe)
    (hy : X.N[i]? = some y := by rfl) (hyl : X.env.scope.names.lookup y = some .local := by rfl) (hsw : swapsWith (.ListComp elt [⟨tg, iter, ifs, 0⟩] scope pos) (some (.Name y py)) spos.line X.env = pure true := by exact sw_true rfl rfl rfl rfl) (hs : ∀ x, foldedSetIterable iter X.env x = pure x := by intro _; rfl) :
    PSD X W (.Assign [.Name y py] (.ListComp elt [⟨tg, iter, ifs, 0⟩] scope pos) spos) (sSetLcO i (xLcs (own.map (·.2)) fi g ft fe)) := by
  obtain ⟨wi, pw, hw⟩ := I.ex
  refine ⟨_, ps_setLc (g := cG X.K ix g) (tt := cT X.K W0 (fun δ => noX (ft δ))) (te := cE X.K W0 (fun δ => noX (fe δ))) hc hN hy hyl hsw pw ok (fun s H C cl fp => (hg s H C cl fp).can) (fun s H C cl fp => ⟨fun pins s' σ H' Q I' ⟨B, G, δ, S, q⟩ => (ht s H C cl fp).can.run pins s' σ H' Q I' ⟨B, G, δ, S, Rq.noX q⟩⟩)
    (fun s H C cl fp => ⟨fun pins s' σ H' Q I' ⟨B, G, δ, S, q⟩ => (he s H C cl fp).can.run pins s' σ H' Q I' ⟨B, G, δ, S, Rq.noX q⟩⟩) hs, fun {B G H δ σ D} S h => ?_⟩
  show tLc wi (cG X.K ix g) _ _ (own.map (·.2)) σ H (fun x H1 => gName i x σ H1 D.nx)
  refine lc_req hw hix S ?_
  unfold sSetLcO at h
  cases q : xLcs (own.map (·.2)) fi g ft fe δ with
  | ok ys =>
    rw [q] at h
    intro L ws H' G' t hd hgd hh rp
    exact h _ _ _ t.gg (own_laid S i t hd hgd rfl (fun _ _ z => nomatch z) ⟨ws, hh, rp⟩)
  | exc c fs => rw [q] at h; exact fun H' G' d t x => h σ H' G' d t.gg (S.step t) x
  | bad => rw [q] at h; exact h.elim
end

/-! ### what is walked, further -/
section
variable {X : Cx} {W : WX} {tg iter a b : Expr} {es : List Expr} {fa fb : Ev → R DV} {fes : Ev → R (List DV)} {pos : Pos}
theorem PI.or {t u : TI} (A : PI X tg iter t) (B : PI X tg iter u) : PI X tg iter (fun σ H R => t σ H R ∨ u σ H R) :=
  ⟨fun pins s σ H R I h => h.elim (fun z => A.run pins s σ H R I z) fun z => B.run pins s σ H R I z⟩
def asAny : DV → R (List DV)
  | .lst xs => .ok xs
  | .ro xs => .ok xs
  | .tup xs => .ok xs
  | .str z => .ok (z.cps.toList.map fun c => .str ⟨#[c]⟩)
  | _ => .bad
/-- a list, a tuple, a text -/
theorem di_any (A : PD X W iter fa) : PID X W tg iter (xSrc asAny fa) := by
  obtain ⟨wl, pl, hl⟩ := (di_list (tg := tg) A).ex
  obtain ⟨wt, pt, ht⟩ := (di_tup (tg := tg) A).ex
  obtain ⟨ws, ps, hs⟩ := (di_str (tg := tg) A).ex
  refine ⟨_, PI.or pl (PI.or pt ps), fun {B0 G H δ σ Q} S h => ?_⟩
  unfold xSrc at h
  cases q : fa δ with
  | bad => rw [q] at h; exact h.elim
  | exc c fs => exact .inl (hl S (by unfold xSrc; rw [q] at h ⊢; exact h))
  | ok d =>
    rw [q] at h
    cases d with
    | lst xs => exact .inl (hl S (by unfold xSrc; rw [q]; exact h))
    | ro xs => exact .inl (hl S (by unfold xSrc; rw [q]; exact h))
    | tup xs => exact .inr (.inl (ht S (by unfold xSrc; rw [q]; exact h)))
    | str z => exact .inr (.inr (hs S (by unfold xSrc; rw [q]; exact h)))
    | _ => exact h.elim
/-- zip -/
def zipD : List DV → List DV → List DV
  | x :: xs, y :: ys => .tup [x, y] :: zipD xs ys
  | _, _ => []
def asZip : List DV → R (List DV)
  | [.lst xs, .lst ys] => .ok (zipD xs ys)
  | [.lst xs, .ro ys] => .ok (zipD xs ys)
  | [.ro xs, .lst ys] => .ok (zipD xs ys)
  | [.ro xs, .ro ys] => .ok (zipD xs ys)
  | [.tup xs, .tup ys] => .ok (zipD xs ys)
  | _ => .bad
theorem zipD_get : ∀ {xs ys : List DV} {i : Nat} {x y : DV}, xs[i]? = some x → ys[i]? = some y → (zipD xs ys)[i]? = some (.tup [x, y])
  | [], _, _, _, _, h, _ => by simp at h
  | _ :: _, [], _, _, _, _, h => by simp at h
  | _ :: xs, _ :: ys, 0, _, _, h, h' => by simp at h h'; subst h h'; rfl
  | _ :: xs, _ :: ys, i + 1, _, _, h, h' => by simp at h h'; simpa [zipD] using zipD_get (xs := xs) (ys := ys) h h'
theorem zipD_len : ∀ {xs ys : List DV}, (zipD xs ys).length = min xs.length ys.length
  | [], ys => by simp [zipD]
  | _ :: _, [] => by simp [zipD]
  | _ :: xs, _ :: ys => by simp [zipD, zipD_len (xs := xs) (ys := ys)]
theorem walks_zip {K : PySem.W.Frag} {G : Hp} {J : It} {Sq : Hp → Addr → List V → Prop} {a b : Addr} {vs ws : List V} {ds es : List DV} (r : DReps K G vs ds) (r2 : DReps K G ws es) (h1 : ∀ H, Same G H → Sq H a vs) (h2 : ∀ H, Same G H → Sq H b ws)
    (hJ : J = ⟨fun i H => ∃ (xs ys : List V) (x y : V), Sq H a xs ∧ Sq H b ys ∧ xs[i]? = some x ∧ ys[i]? = some y,
    fun i H v H' => ∃ T x y, v = .ref T ∧ H T = none ∧ H' = upd H T (.tup [x, y]) ∧ (∀ xs, Sq H a xs → xs[i]? = some x) ∧ ∀ ys, Sq H b ys → ys[i]? = some y,
    fun i H => ∃ xs ys : List V, Sq H a xs ∧ Sq H b ys ∧ (xs.length ≤ i ∨ ys.length ≤ i)⟩) : Walks K J (zipD ds es) G := by
  subst hJ
  have l1 := r.length
  have l2 := r2.length
  refine ⟨fun H s => ⟨vs, ws, h1 H s, h2 H s, ?_⟩, fun i H s hi => ?_, fun i H x H' Gc g s hi y => ?_⟩
  · rw [zipD_len]; omega
  · rw [zipD_len] at hi
    exact ⟨vs, ws, vs[i]'(by omega), ws[i]'(by omega), h1 H s, h2 H s, List.getElem?_eq_getElem _, List.getElem?_eq_getElem _⟩
  · obtain ⟨T, x1, y1, rfl, hT, rfl, hx, hy⟩ := y
    have ex := hx vs (h1 H (g.trans s.s))
    have ey := hy ws (h2 H (g.trans s.s))
    obtain ⟨d, hd, pd⟩ := r.get' ex
    obtain ⟨e, he, pe⟩ := r2.get' ey
    have gn := Same.upd (o := .tup [x1, y1]) (s.none hT)
    exact ⟨upd Gc T (.tup [x1, y1]), .tup [d, e], Tr.new s _ hT, zipD_get hd he, .tup upd_same (.cons ((pd.mono g).mono gn) (.cons ((pe.mono g).mono gn) .nil))⟩
theorem asZip_inv {K : PySem.W.Frag} {G H : Hp} {rep : Rel (List DV) It} {W : Value → Option Addr → Hp → Prop} {Q : It → Hp → Prop} {vs : List V} {ds : List DV} (r : DReps K G vs ds) (h : Rq K rep W G H (asZip ds) Q) :
    ∃ a b xs ys as bs, vs = [.ref a, .ref b] ∧ DReps K G as xs ∧ DReps K G bs ys ∧ ((SqL K G a as ∧ SqL K G b bs) ∨ (SqT K G a as ∧ SqT K G b bs)) ∧ Rq K rep W G H (.ok (zipD xs ys)) Q := by
  unfold asZip at h
  split at h
  · cases r with
    | cons ra rb => cases rb with
      | cons rb rc => cases rc; cases ra with
        | lst e1 r1 => cases rb with
          | lst e2 r2 => exact ⟨_, _, _, _, _, _, rfl, r1, r2, .inl ⟨SqL.of e1, SqL.of e2⟩, h⟩
  · cases r with
    | cons ra rb => cases rb with
      | cons rb rc => cases rc; cases ra with
        | lst e1 r1 => cases rb with
          | ro e2 r2 => exact ⟨_, _, _, _, _, _, rfl, r1, r2, .inl ⟨SqL.of e1, e2⟩, h⟩
  · cases r with
    | cons ra rb => cases rb with
      | cons rb rc => cases rc; cases ra with
        | ro e1 r1 => cases rb with
          | lst e2 r2 => exact ⟨_, _, _, _, _, _, rfl, r1, r2, .inl ⟨e1, SqL.of e2⟩, h⟩
  · cases r with
    | cons ra rb => cases rb with
      | cons rb rc => cases rc; cases ra with
        | ro e1 r1 => cases rb with
          | ro e2 r2 => exact ⟨_, _, _, _, _, _, rfl, r1, r2, .inl ⟨e1, e2⟩, h⟩
  · cases r with
    | cons ra rb => cases rb with
      | cons rb rc => cases rc; cases ra with
        | tup e1 r1 => cases rb with
          | tup e2 r2 => exact ⟨_, _, _, _, _, _, rfl, r1, r2, .inr ⟨SqT.of e1, SqT.of e2⟩, h⟩
  · exact h.elim
theorem di_zip {p tpos : Pos} {elts : List Expr} {kk : Nat} (hm : X.mg "zip" = none) (A : PDA X W [a, b] fes) (hg : Gl X "zip" := by rfl) (hs : starEach [a, b] X.env = (false, eval a X.env) :: starEach [b] X.env := by rfl) (hpl : (backTo pos (starEach [b] X.env)).any (·.1) = false := by rfl) :
    PID X W (.Tuple elts kk tpos) (.Call (.Name "zip" p) [a, b] [] pos) (fun δ => (fes δ).bind asZip) := by
  obtain ⟨ta, pa, ha⟩ := A.ex
  refine ⟨_, RZ.pi_zipA hg hm pa hs hpl, fun {B0 G H δ σ Q} S h => ?_⟩
  refine ha S (Rq.bind (rep := DReps X.K) h fun x ex v H1 G1 t1 r1 h1 => ?_)
  obtain ⟨a1, b1, xs, ys, as, bs, rfl, r2, r3, q, h2⟩ := asZip_inv r1 h1
  refine ⟨a1, b1, as, bs, rfl, ?_⟩
  rcases q with ⟨q1, q2⟩ | ⟨q1, q2⟩
  · exact .inl ⟨Same.seq t1.gh.s q1, Same.seq t1.gh.s q2, h2 _ H1 G1 (Tr.refl t1.gh) (walks_zip (Sq := fun H a xs => SqL X.K H a xs) r2 r3 (fun H s => Same.seq s q1) (fun H s => Same.seq s q2) rfl)⟩
  · exact .inr ⟨SqT.same t1.gh.s q1, SqT.same t1.gh.s q2, h2 _ H1 G1 (Tr.refl t1.gh) (walks_zip (Sq := fun H a xs => SqT X.K H a xs) r2 r3 (fun H s => SqT.same s q1) (fun H s => SqT.same s q2) rfl)⟩
end
end LD

set_option maxHeartbeats 2000000
/-! Layer D, part H: try, the own ==, super().__init__(..). -/
namespace LD
open PySem PySem.Spec PyProof.Rows L2
variable [Tbs]

/-! ### try .. except -/
def noXS : SR → SR
  | .ex _ _ _ => .bad
  | r => r
theorem SRq.noX {K : PySem.W.Frag} {W W' : WX} {D : Ends} {B : Bas} {G : Hp} {r : SR} (h : SRq K W D B G (noXS r)) : SRq K W' D B G r := by
  cases r with
  | ex _ _ _ => exact h.elim
  | _ => exact h
def sTry (tab : List (Str × Bool)) (F F2 : Ev → SR) : Ev → SR := fun δ => match F δ with
  | .ex c fs δ' => (match tab.lookup c with
    | some true => noXS (F2 δ')
    | some false => .ex c fs δ'
    | none => .bad)
  | r => r
section
variable {X : Cx} {W : WX} {a b o : Expr} {fa fb : Ev → R DV} {pos np pos' : Pos} {body suite : List Stmt} {b₀ : Stmt} {F F2 : Ev → SR}
theorem ds_try {x : Str} {tab : List (Str × Bool)} (tk : Takes X W) (hm : X.mg x = some (.ref (He.ga X.K x))) (htab : exmB X.K tab x = true)
    (A : ∀ (W' : WX) (pn : List (Addr × Obj)) (xe : Value → Shared → Prop), Takes (X.tr pn xe) W' → PassesOwn (model X.prog X.w) X.A X.env xe → PSSD (X.tr pn xe) W' body F) (S2 : ∀ (a : Addr) (pn : List (Addr × Obj)), PSSD (X.suite a pn) W0 (b₀ :: suite) F2)
    (hst : X.stack = X.env :: X.outer := by rfl) (hf : X.env.frame = some X.env.locals := by rfl) (hg : Gl X x := by rfl) (hd : (x == ("__debug__" : Str)) = false := by decide) :
    PSD X W (.Try body [.ExceptHandler (some (.Name x np)) none (b₀ :: suite) pos'] [] [] pos) (sTry tab F F2) := by
  refine ⟨_, ps_try_only (c := .ref (He.ga X.K x)) (tb := fun W' => cS X.K W' F) (ts := fun _ _ _ => cS X.K W0 (fun δ => noXS (F2 δ))) (Wout := W) hst hf ⟨hg, hd, .inl hm⟩ tk (fun W' pn xe tk' po => (A W' pn xe tk' po).can)
    (fun a oe cls d pn _ _ => ⟨fun pins s σ H D I ⟨B, G, δ, S, q⟩ => (S2 a ((a, oe) :: pn)).can.run pins s σ H D I ⟨B, G, δ, S, SRq.noX q⟩⟩), fun {B G H δ σ D} S h => ⟨B, G, δ, S, ?_⟩⟩
  unfold sTry at h
  cases q : F δ with
  | ex c fs δ' =>
    rw [q] at h
    dsimp only at h
    intro σ' H' G' dx g S' x'
    cases l : tab.lookup c with
    | none => rw [l] at h; exact h.elim
    | some k =>
      rw [l] at h
      refine ⟨k, of_decide_eq_true (List.all_eq_true.mp htab (c, k) (look_mem l)), fun e a _ => ?_, fun e => ?_⟩
      · subst e
        have h2 : SRq X.K W D B G (noXS (F2 δ')) := h
        refine ⟨B, G', δ', S', SRq.noX (W := W) ?_⟩
        have h3 := SRq.gg g h2
        revert h3
        show SRq X.K W D B G' (noXS (F2 δ')) → SRq X.K W D B G' (noXS (noXS (F2 δ')))
        cases F2 δ' <;> exact fun z => z
      · subst e
        exact h σ' H' G' dx g S' x'
  | nx _ => rw [q] at h; exact h
  | rt _ => rw [q] at h; exact h
  | bk _ => rw [q] at h; exact h
  | ct _ => rw [q] at h; exact h
  | bad => rw [q] at h; exact h

/-! ### the text's own == -/
/-- cs: the classes of the left, of the right -/
def oEqO (cs : List Str) (m : Mir) : DV → DV → R DV := fun x y => match x, y with
  | .obj c fs, .obj c' fs' => if cs.contains c && cs.contains c' then (match m [.obj c fs, .obj c' fs'] with
    | .ok (.bl b) => .ok (.bl b)
    | _ => .bad) else .bad
  | _, _ => .bad
def rOwn (sp : Sp) (K : PySem.W.Frag) (cs : List Str) : R2 := fun x y H Q => ∃ a b dx dy c c' fs gs, x = .ref a ∧ y = .ref b ∧ cs.contains c = true ∧ cs.contains c' = true ∧ H a = some (.ins (He.ga K c) dx fs) ∧ H b = some (.ins (He.ga K c') dy gs) ∧ sp [x, y] H (fun v H' => (∃ k, v = .bl k) ∧ Q v H') E0
theorem or_own {f : Addr} {fd : FuncData} {ps : List Str} {k : Nat} {sp : Sp} {cs : List Str} (F : FnOk X.prog X.w X.K X.mg X.base (L2.CX X.prog X.w) k f fd ps sp) (hr : Room k X.A) (hb : Binds X.K fd ps []) (hB : eqB X.K cs f = true) (hf : PySem.W.isFn X.K (.ref f) = true) : OpR X (compareOp .Eq) (rOwn sp X.K cs) := by
  intro pins s σ H x y v u Q I rx ry h
  obtain ⟨a, b, dx, dy, c, c', fs, gs, rfl, rfl, hc, hc', ha, hbb, hsp⟩ := h
  cases rx
  cases ry
  show wpAny (model X.prog X.w) X.A (richCompare .Eq (.ref a) (.ref b)) (EP X pins σ Q) X.xe s
  obtain ⟨mA, J, _⟩ := ins_get I.hok ha
  obtain ⟨mB, J', _⟩ := ins_get I.hok hbb
  obtain ⟨od, J, _⟩ := J.look
  obtain ⟨od', J', _⟩ := J'.look
  obtain ⟨m, hF⟩ := I.fr
  obtain ⟨k1, k2⟩ := He.ba (List.all_eq_true.mp hB c (by simpa using hc))
  have k3 := List.all_eq_true.mp k2 c' (by simpa using hc')
  refine PySem.W.cmp_K (op := .Eq) (tb := .ref (He.ga X.K c')) hr.units0 hF I.ok.mod.kin J J'.type k3 (of_decide_eq_true k1) hf ?_
  have hl := F.len _ _ _ _ hsp
  have r2 : Vals [V.ref a, V.ref b] [Value.ref a, Value.ref b] := .cons rfl (.cons rfl .nil)
  refine wpAny_mono (run_fn (Q := fun v H' => (∃ k, v = V.bl k) ∧ Q v H') (E := E0) F hr hb .nil passL I r2 (by simpa using hsp)) (fun r s' hq => ?_) fun _ _ z => z
  obtain ⟨z, H', I', rz, hz, q⟩ := hq
  obtain ⟨kk, ek⟩ := hz
  subst ek
  cases (show r = Value.bool kk from rz)
  exact ⟨.bl kk, H', I', rfl, q⟩
theorem od_own {f : Addr} {fd : FuncData} {ps : List Str} {k : Nat} {cs : List Str} {m : Mir} : OpD X (rOwn (spD X.K m) X.K cs) (oEqO cs m) := fun {G H x y dx dy Q W} s rx ry h => by
  cases rx with
  | obj e1 r1 =>
    cases ry with
    | obj e2 r2 =>
      rename_i a1 x1 c1 v1 f1 a2 x2 c2 v2 f2
      have h2 : Rq X.K (DRep X.K) W G H (if (cs.contains c1 && cs.contains c2) = true then (match m [.obj c1 f1, .obj c2 f2] with
        | .ok (.bl b) => .ok (.bl b)
        | _ => .bad) else .bad) Q := h
      by_cases q : (cs.contains c1 && cs.contains c2) = true
      · rw [if_pos q] at h2
        obtain ⟨q1, q2⟩ := Bool.and_eq_true_iff.mp q
        refine ⟨a1, a2, x1, x2, c1, c2, v1, v2, rfl, rfl, q1, q2, s _ _ e1, s _ _ e2, G, [.obj c1 f1, .obj c2 f2], s, .cons (.obj e1 r1) (.cons (.obj e2 r2) .nil), ?_⟩
        split at h2
        · rename_i b eb
          rw [eb]
          intro v H' G' t rv
          cases rv
          exact ⟨⟨b, rfl⟩, h2 (.bl b) H' G' t (.bl b)⟩
        · exact h2.elim
      · rw [if_neg q] at h2; exact h2.elim
    | _ => exact h.elim
  | _ => cases ry <;> exact h.elim
end
end LD

set_option maxHeartbeats 2000000
/-! Layer D, part I: an __init__ that begins by super().__init__(..). -/
namespace LD
open PySem PySem.Spec PyProof.Rows L2
variable [Tbs]

/-- what stands of such an __init__: the class cn, its def at f, the base's __init__ at f2 -/
structure SupK (P : Program) (K : PySem.W.Frag) (cn name qual : Str) (params : Arguments) (body : List Stmt) (scope : Scope) (f : Addr) (fd : FuncData) (f2 : Addr) : Prop where
  ex : ∃ (oc : Value) (od : Option Addr) (kV doc pm : Value) (an : Option Addr) (cda cc : Addr) (ct : Value) (osl : Array (Option Value)),
    fd = PySem.W.fnX name qual params body scope [("__class__", cc)] .none kV doc pm an (.ref cda) ct ∧ K.lookup f = some ⟨oc, od, .func fd, osl⟩ ∧ PySem.W.codeIn K (.ref cda) qual = true ∧
    (∃ (ccl : Value) (cdd : Option Addr) (vs : Array Value) (ccs : Array (Option Value)) (file : Str) (tf : Tok), K.lookup cda = some ⟨ccl, cdd, .fields vs, ccs⟩ ∧ vs[2]? = some (.str file tf) ∧ ((P.main.file : Str) == file) = true) ∧
    ∃ (cl : Value) (cld : Option Addr) (csl : Array (Option Value)), K.lookup cc = some ⟨cl, cld, .cell (some (.ref (He.ga K cn))), csl⟩
  clsD : ∃ cd, PySem.W.clsIn K (He.ga K cn) = some cd
  mro : PySem.W.mroIn K (He.ga K cn) (.ref (He.ga K cn)) = some true
  sup : PySem.W.ks_superIn K (He.ga K cn) (He.ga K cn) "__init__" = some (some (.ref f2))
  ty : PySem.W.typeIn K (.ref f2) = some (.type "function")
  fn : PySem.W.fnIn K f2 = true
  st : PySem.W.nsIn K cStatics "thirdparty.any" = some none

section
variable {X : Cx} {pins : List (Addr × Obj)} {σ : L2.St} {H : Hp} {s : Shared}
theorem clsIn_obj {K : PySem.W.Frag} {D : Addr} {cd : ClassData} (e : PySem.W.clsIn K D = some cd) : ∃ oD, K.lookup D = some oD ∧ oD.data = .cls cd := by
  unfold PySem.W.clsIn at e
  split at e
  · rename_i c d cd' sl ho
    cases e
    exact ⟨_, ho, rfl⟩
  · cases e
/-- the statement super().__init__(e, ..) -/
theorem super_stmt {body : List Stmt} {cn name qual : Str} {params : Arguments} {scope : Scope} {f f2 cda cc x dx : Addr} {fd fd2 : FuncData} {ps2 : List Str} {k : Nat} {sp : Sp} {E : L2.St → XK} {fs : List (Str × V)} {ar : Arg}
    {e : Expr} {es : List Expr} {t : TA} {p0 p1 p2 p3 p4 : Pos} {Q' : Hp → Prop} {oc ccl cl : Value} {od cdd cld : Option Addr} {osl ccs csl : Array (Option Value)} {vs : Array Value} {file : Str} {tf : Tok} {cd : ClassData}
    (lk : X.K.lookup f = some ⟨oc, od, .func fd, osl⟩) (hp : (fd.params.posonlyargs ++ fd.params.args).head? = some ar)
    (hcode : X.K.lookup cda = some ⟨ccl, cdd, .fields vs, ccs⟩) (hvs : vs[2]? = some (.str file tf)) (hfile : ((X.prog.main.file : Str) == file) = true) (hcell : X.K.lookup cc = some ⟨cl, cld, .cell (some (.ref (He.ga X.K cn))), csl⟩)
    (clsD : PySem.W.clsIn X.K (He.ga X.K cn) = some cd) (mro : PySem.W.mroIn X.K (He.ga X.K cn) (.ref (He.ga X.K cn)) = some true) (sup : PySem.W.ks_superIn X.K (He.ga X.K cn) (He.ga X.K cn) "__init__" = some (some (.ref f2)))
    (ty : PySem.W.typeIn X.K (.ref f2) = some (.type "function")) (hfn : PySem.W.fnIn X.K f2 = true) (hstc : PySem.W.nsIn X.K cStatics "thirdparty.any" = some none) (hsup : X.mg "super" = none)
    (hks : X.env.kindOf "super" = some .globalImplicit) (hkc : X.env.kindOf "__class__" = some .free) (hka : X.env.kindOf ar.arg = some .local) (hfu : X.env.func = some f) (hco : X.env.code = .ref cda) (hcc : X.env.cells.lookup ("__class__" : Str) = some cc)
    (htop : (X.prog.main.scope.names.lookup ("super" : Str)).isSome = false)
    (hx0 : σ[0]? = some (some (.ref x))) (hN0 : X.N[0]? = some ar.arg) (hH : H x = some (.ins (He.ga X.K cn) dx fs))
    (F2 : FnOk X.prog X.w X.K X.mg X.base (L2.CX X.prog X.w) k f2 fd2 ps2 sp) (hb2 : Binds X.K fd2 ps2 []) (hr : Room k X.A) (hpass : PassesAt (L2.CX X.prog X.w) X σ (E σ))
    (A : PA X (e :: es) t) (I : Inv X pins σ H s) (h : t σ H fun vs' H1 => sp (.ref x :: vs') H1 (fun _ H2 => Q' H2) (E σ))
    (hi : interactive X.env = false := by rfl) (hs : swapsWith (.Call (.Attribute (.Call (.Name "super" p0) [] [] p1) "__init__" p2) (e :: es) [] p3) none p4.line X.env = pure false := by rfl)
    (he : starEach (e :: es) X.env = (false, eval e X.env) :: starEach es X.env := by rfl) (hpl : (backTo p3 (starEach es X.env)).any (·.1) = false := by rfl)
    {pl : Sem Bool} (hev : eval (.Call (.Attribute (.Call (.Name "super" p0) [] [] p1) "__init__" p2) (e :: es) [] p3) X.env = (do
      let ov ← attributeBase (.Call (.Name "super" p0) [] [] p1) "__init__" X.env (eval (.Call (.Name "super" p0) [] [] p1) X.env)
      standAt p2.atName
      let (f, first) ← holding [ov] (getMethod ov "__init__" pl)
      callWith p3 f first (backTo p3 (starEach (e :: es) X.env)) []) := by rfl) :
    _root_.PySem.wpAt (model X.prog X.w) X.A (.func body X.env) (exec (.Expr (.Call (.Attribute (.Call (.Name "super" p0) [] [] p1) "__init__" p2) (e :: es) [] p3) p4) X.env) (fun fl s' => fl = .next ∧ ∃ H', Inv X pins σ H' s' ∧ Q' H') X.xe s := by
  have KX := I.kIn
  obtain ⟨mA, J, _⟩ := ins_get I.hok hH
  obtain ⟨odx, J, _⟩ := J.look
  obtain ⟨m, hns, hlk⟩ := I.loc
  obtain ⟨u, ru, hl⟩ := hlk 0 ar.arg (.ref x) hN0 hx0 (.inl hka)
  obtain rfl : u = Value.ref x := ru
  have hv : m ar.arg = some (.ref x) := by
    rcases hl with ⟨_, z⟩ | ⟨z, _⟩
    · exact z
    · rw [hka] at z
      rcases z with z | z <;> cases z
  obtain ⟨oD, lD, hD2⟩ := clsIn_obj clsD
  refine PySem.ks_wpAt_Expr_any (PySem.ks_wpAt_MethodCall (pl := pl) ?_ hev) hi hs
  refine PySem.ks_wpAt_super_base hks hkc (by decide) hfu (KX _ _ lk) rfl hp hco (KX _ _ hcode) rfl hvs hfile htop ?_
  obtain ⟨mb, h1, h2⟩ := I.mod.blt
  refine PySem.W.ks_loadName_global I.ok.kind hks (Calls.loadGlobal_builtin (by rw [I.ok.glob]; exact I.mod.glob.keeps I.bk) hsup (by rw [I.ok.blt]; exact h1.keeps I.bk) ((h2 _ (by decide)).trans (by decide +kernel : bootBuiltins "super" = some (.type "super"))) ⟨rfl, ?_⟩)
  refine wpAny_loadName_free I.ok.kind hkc hcc ⟨_, KX _ _ hcell, rfl⟩ ?_
  refine wpAny_loadName_local I.ok.kind hka hns hv ?_
  obtain ⟨hh, g, d, tk, os⟩ := s
  refine PySem.ks_wpAny_isType_cls (KX _ _ lD) hD2 ⟨rfl, ?_⟩
  refine PySem.ks_wpAny_call_super (KX _ _ lD) hD2 J.at_ J.cls (fun c e => ?_) (PySem.W.looks_mroIn KX mro) (fun h' e1 k1 => ?_)
  · have := J.no
    unfold PySem.W.notCls at this
    rw [e] at this
    exact Bool.noConfusion this
  have I1 : Inv X pins σ H ⟨h', g, d, tk, os⟩ := I.kept (t' := tk) k1
  have KX1 := I1.kIn
  -- the bound method
  cases hc : PySem.W.clsIn X.K (He.ga X.K cn) with
  | none => rw [hc] at clsD; cases clsD
  | some cd =>
    have sup2 := sup
    unfold PySem.W.ks_superIn at sup2
    rw [hc] at sup2
    obtain ⟨of, hof, hofc⟩ : ∃ of, X.K.lookup f2 = some of ∧ of.cls = .type "function" := by
      have ht' : (X.K.lookup f2).map (·.cls) = some (.type "function") := ty
      cases z : X.K.lookup f2 with
      | none => rw [z] at ht'; cases ht'
      | some of => rw [z] at ht'; exact ⟨of, rfl, Option.some.inj ht'⟩
    have hxC : x ≠ He.ga X.K cn := PySem.W.ks_ne KX J hc
    refine PySem.ks_wpAny_getMethod_super e1 (PySem.W.looks_opaque KX1 hstc) (l₀ := cd.mro) ?_ rfl KX1 sup2 (KX1 _ _ hof) hofc hxC (by decide) ?_
    · exact fun A Q E s k q => wpAny_bind ((PySem.W.looks_clsIn KX1 hc) A _ E s k (wpAny_pure q))
    have I2 : Inv X pins σ H ⟨h'.push { cls := .type "method", data := .fields #[.ref f2, .ref x] }, g, d, tk + 1, os⟩ := I1.kept (t' := tk + 1) fun b o e => Heap.get?_push_of_some _ e
    have hq : (h'.push { cls := .type "method", data := .fields #[.ref f2, .ref x] }).get? h'.objs.size = some (PySem.W.methodObj (.ref f2) (.ref x)) := Heap.get?_push_at rfl rfl
    have fpo : FpOk X pins H h'.objs.size := I1.fpOk (Nat.le_refl _) (I1.hok.fresh (Nat.le_refl _))
    have I3 := I2.pinned (fp := [h'.objs.size]) (fun b hb => by rw [List.mem_singleton.mp hb]; exact fpo) fun b hb => by rw [List.mem_singleton.mp hb]; exact ⟨_, hq, fun v z => nomatch z⟩
    have hmem : (h'.objs.size, PySem.W.methodObj (.ref f2) (.ref x)) ∈ pinsAt [h'.objs.size] (h'.push { cls := .type "method", data := .fields #[.ref f2, .ref x] }) := mem_pinsAt (List.mem_singleton.mpr rfl) hq
    show wpAny _ _ (callWith p3 (.ref h'.objs.size) [] (backTo p3 (starEach (e :: es) X.env)) []) _ _ _
    rw [he]
    refine PySem.W.callWith_of (P := PySem.W.MethP X.K h'.objs.size f2 (.ref x)) (by show ((false || (backTo p3 (starEach es X.env)).any (·.1)) || false) = false; rw [hpl]; rfl) (PySem.W.keeps_M hfn) (Calls.evalArgs_plain ?_)
    have ar := A.run p3 _ _ σ H _ I3 h
    rw [he] at ar
    refine thn ar fun us s1 ⟨vs', H1, I4, r, q⟩ => ?_
    have hq4 := (I4.pin _ (List.mem_append_right _ (List.mem_append_right _ hmem))).1
    refine ⟨⟨hq4, I4.kIn⟩, ?_⟩
    show wpAny _ _ (call (.ref h'.objs.size) us) _ _ _
    have hl := F2.len _ _ _ _ q
    have r2 : Vals (V.ref x :: vs') (Value.ref x :: us) := .cons rfl r
    have b2 := hb2 s1 (.ref x :: us) I4.kIn (by rw [List.append_nil, ← r2.length]; exact hl)
    rw [List.append_nil] at b2
    refine wpAny_call (PySem.ks_codeAny_call_bound hq4 (codeAny_mono (F2.run X.A X.stack s1 H1 ⟨.ref x :: us, []⟩ (.ref x :: us) (.ref x :: vs') _ (E σ) hr I4.env0 b2 r2 q) fun r' s' hq' => ?_))
    cases r' with
    | error er => exact hpass _ _ s1 er s' I4 hq'
    | ok fl =>
      cases fl with
      | ret w =>
        obtain ⟨_, H', I5, _, q5⟩ := I4.after hq'
        exact ⟨rfl, H', I5.unpinned, q5⟩
      | next => exact False.elim hq'
      | brk => exact False.elim hq'
      | cont => exact False.elim hq'
end

/-! ### the def -/
theorem sok_at {K : PySem.W.Frag} {B : Bas} {G H : Hp} {p dx : Addr} {c : Str} {ws : List (Str × V)} {fs : List (Str × DV)} {vs : List V} {ds : List DV} {k m : Nat} (t : Tr B.G0 B.H0 G H) (h0 : B.H0 p = none) (hpa : B.pa = some p) (hp : H p = some (.ins (He.ga K c) dx ws)) (hg : G p = none)
    (rf : FReps K G ws fs) (r : DReps K G vs ds) (hm : m = k) (hB : ∀ b ps, B.H0 b ≠ some (.tbl ps)) : SOk K B G H (Sl.oo c fs :: (ds.map Sl.pu ++ List.replicate k Sl.un)) (some (.ref p) :: (vs.map some ++ List.replicate m none)) := by
  have S := sok_args (K := K) t.gh r hm
  have mem : ∀ {i : Nat} {a : Sl}, (Sl.oo c fs :: (ds.map Sl.pu ++ List.replicate k Sl.un))[i + 1]? = some a → (∃ d, a = .pu d) ∨ a = .un := fun {i a} e => by
    have h := List.mem_of_getElem? (show (ds.map Sl.pu ++ List.replicate k Sl.un)[i]? = some a from by simpa using e)
    rcases List.mem_append.mp h with h | h
    · obtain ⟨d, _, z⟩ := List.mem_map.mp h; exact .inl ⟨d, z.symm⟩
    · exact .inr (List.mem_replicate.mp h).2
  refine ⟨t, by have := S.len; simp only [List.length_cons]; omega, fun i sl e => ?_, fun i j a b q e1 e2 o1 o2 h1 h2 => ?_, fun i c' fs' e => ?_, hB⟩
  · cases i with
    | zero =>
      simp at e
      subst e
      exact ⟨p, rfl, h0, hg, dx, ws, hp, rf⟩
    | succ i =>
      have z := S.sl i sl (by simpa using e)
      rcases mem e with ⟨d, rfl⟩ | rfl
      · simpa [SlOk] using z
      · trivial
  · have no : ∀ {i : Nat} {a : Sl}, (Sl.oo c fs :: (ds.map Sl.pu ++ List.replicate k Sl.un))[i]? = some a → isOwn a = true → i = 0 := fun {i a} e o => by
      cases i with
      | zero => rfl
      | succ i => rcases mem e with ⟨d, rfl⟩ | rfl <;> cases o
    rw [no e1 o1, no e2 o2]
  · cases i with
    | zero => exact ⟨p, hpa, rfl⟩
    | succ i => rcases mem e with ⟨d, z⟩ | z <;> cases z
theorem Tr.dlp {G0 H0 G H : Hp} {p : Addr} (t : Tr G0 (dl H0 p) G H) (hg : G p = none) (hna : ∀ u, H p = some u → NT u ∧ ∀ f, u ≠ .ext f) : Tr G0 (dl H0 p) G (dl H p) := by
  refine ⟨fun a o e n => ?_, t.gg, t.gh.dl hg hna, t.nw0⟩
  have ne : a ≠ p := fun z => by rw [z, dl_same] at e; cases e
  rw [dl_ne ne]; exact t.sm a o e n
/-- the mirror of an __init__ that begins by super().__init__(es) -/
def imS (cn : Str) (n p : Nat) (fes : Ev → R (List DV)) (mi : Imi) (n2 : Nat) (F : Ev → SR) : Imi := fun c fs ds => if (c == cn && Nat.beq ds.length p) = true then
  (fes (Sl.oo c fs :: (ds.map Sl.pu ++ List.replicate (n - (p + 1)) Sl.un))).bind fun ds2 => if Nat.beq ds2.length n2 = true then (mi c fs ds2).bind fun fs2 =>
    match F (Sl.oo c fs2 :: (ds.map Sl.pu ++ List.replicate (n - (p + 1)) Sl.un)) with
    | .nx δ => (match (δ[0]? : Option Sl) with
      | some (Sl.oo c' fs') => if c' = c then .ok fs' else .bad
      | _ => .bad)
    | .ex c fs _ => .exc c fs
    | _ => .bad
  else .bad else .bad
section
variable {P : Program} {w : World} {K : PySem.W.Frag} {mg : Str → Option Value} {base : Heap}
theorem fn_initS {cn name qual : Str} {params : Arguments} {scope : Scope} {f f2 : Addr} {fd fd2 : FuncData} {N ps ps2 : List Str} {k n n2 : Nat} {mi : Imi} {fes : Ev → R (List DV)} {F : Ev → SR} {e : Expr} {es : List Expr} {rest : List Stmt} {p0 p1 p2 p3 p4 : Pos} {a0 : Str} {ar : Arg}
    (D : SupK P K cn name qual params (.Expr (.Call (.Attribute (.Call (.Name "super" p0) [] [] p1) "__init__" p2) (e :: es) [] p3) p4 :: rest) scope f fd f2) (S : NdefX.NScope N ps ["__class__"] scope) (hn : ps.length = n + 1) (hps : ps[0]? = some a0)
    (hp : (params.posonlyargs ++ params.args).head? = some ar) (har : ar.arg = a0) (hks : scope.names.lookup ("super" : Str) = some .globalImplicit)
    (htop : (P.main.scope.names.lookup ("super" : Str)).isSome = false) (hsup : mg "super" = none)
    (F2 : FnOk P w K mg base (L2.CX P w) k f2 fd2 ps2 (spI K n2 mi)) (hb2 : Binds K fd2 ps2 [])
    (hargs : ∀ (NF : NdefX.NF) (A : Around) (outer : List Env) (s : Shared) (H : Hp) (E : XK), NF.scope = scope → NF.qual = qual → Room k (A.deeper (NdefX.envF NF f s.heap.objs.size)) →
      PDA (NdefX.ncx (L2.CX P w) P w K mg base N NF f A outer s H E) (fun cls d _ H' => E cls d H') (e :: es) fes)
    (hrest : ∀ (NF : NdefX.NF) (A : Around) (outer : List Env) (s : Shared) (H : Hp) (E : XK), NF.scope = scope → NF.qual = qual → Room k (A.deeper (NdefX.envF NF f s.heap.objs.size)) →
      PSSD (NdefX.ncx (L2.CX P w) P w K mg base N NF f A outer s H E) (fun cls d _ H' => E cls d H') rest F)
    (hint : ∀ env : Env, env.scope = scope → interactive env = false := by intro env h; unfold interactive; rw [h]; rfl)
    (hs : ∀ env, swapsWith (.Call (.Attribute (.Call (.Name "super" p0) [] [] p1) "__init__" p2) (e :: es) [] p3) none p4.line env = pure false := by intro _; rfl)
    (he : ∀ env, starEach (e :: es) env = (false, eval e env) :: starEach es env := by intro _; rfl) (hpl : ∀ env, (backTo p3 (starEach es env)).any (·.1) = false := by intro _; rfl)
    (hev : ∀ env, ∃ pl : Sem Bool, eval (.Call (.Attribute (.Call (.Name "super" p0) [] [] p1) "__init__" p2) (e :: es) [] p3) env = (do
      let ov ← attributeBase (.Call (.Name "super" p0) [] [] p1) "__init__" env (eval (.Call (.Name "super" p0) [] [] p1) env)
      standAt p2.atName
      let (f, first) ← holding [ov] (getMethod ov "__init__" pl)
      callWith p3 f first (backTo p3 (starEach (e :: es) env)) []) := by intro _; exact ⟨_, rfl⟩) :
    FnOk P w K mg base (L2.CX P w) (k + 1) f fd ps (spI K n (imS cn N.length n fes mi n2 F)) := by
  obtain ⟨oc, od, kV, doc, pm, an, cda, cc, ct, osl, rfl, lk, hcd, ⟨ccl, cdd, vs0, ccs, file, tf, hcode, hvs, hfile⟩, cl, cld, csl, hcell⟩ := D.ex
  obtain ⟨cd, clsD⟩ := D.clsD
  refine ⟨fun vs H Q E h => ?_, fun A outer s H args us vs Q E hr e0 hb r hsp => ?_⟩
  · obtain ⟨p, dx, c, ws, fs, G, vs', ds, rfl, hl, _⟩ := h
    rw [List.length_cons, hl, hn]
  · obtain ⟨p, dx, c, ws, fs, G, vs', ds, rfl, hl, hpp, hg, s1, rf, rd, h⟩ := hsp
    have KX : K.In s.heap := e0.mod.kin.keeps fun b o e => (e0.bs b o e).1
    have lim : s.heap.NoLimit := e0.mod.nolimit.keeps fun b o e => (e0.bs b o e).1
    have hlen : (V.ref p :: vs').length = ps.length := by rw [List.length_cons, hl, hn]
    have hN : ps.length + 1 ≤ N.length := by
      have q := congrArg List.length S.pre
      rw [List.length_take, List.length_append, List.length_singleton] at q
      omega
    unfold imS at h
    by_cases qc : (c == cn && Nat.beq ds.length n) = true
    · rw [if_pos qc] at h
      obtain ⟨qc1, qc2⟩ := Bool.and_eq_true_iff.mp qc
      have ec : c = cn := eq_of_beq qc1
      subst ec
      -- the entry's slots
      have es0 : NdefX.startF N (V.ref p :: vs') [none] = some (.ref p) :: (vs'.map some ++ List.replicate (N.length - (n + 1)) none) := by
        unfold NdefX.startF
        rw [List.length_cons, hl, List.length_singleton]
        have : N.length - (n + 1) = (N.length - (n + 1) - 1) + 1 := by omega
        rw [this, List.replicate_succ]
        rfl
      generalize hδ : (Sl.oo c fs :: (ds.map Sl.pu ++ List.replicate (N.length - (n + 1)) Sl.un)) = δ0 at h
      have S0 : SOk K ⟨strip (dl H p), G, some p⟩ G H δ0 (some (.ref p) :: (vs'.map some ++ List.replicate (N.length - (n + 1)) none)) := by
        rw [← hδ]
        exact sok_init s1 hpp hg rf rd rfl
      have t0 : Tr G (dl H p) G H := ⟨fun b o e _ => dl_sub b o e, Same.refl _, s1, fun _ _ _ _ => rfl⟩
      let NF : NdefX.NF := ⟨name, qual, params, (.Expr (.Call (.Attribute (.Call (.Name "super" p0) [] [] p1) "__init__" p2) (e :: es) [] p3) p4 :: rest), scope, [("__class__", cc)], cda⟩
      let Q' : Hp → Prop := fun H2 => ∃ ds2 fs2 G' dx' ws', fes δ0 = .ok ds2 ∧ Nat.beq ds2.length n2 = true ∧ mi c fs ds2 = .ok fs2 ∧ Tr G (dl H p) G' H2 ∧ G' p = none ∧ H2 p = some (.ins (He.ga K c) dx' ws') ∧ FReps K G' ws' fs2
      have hA : Rq K (DReps K) (fun c d H' => E c d H') G H (fes δ0) (fun vs2 H1 => spI K n2 mi (.ref p :: vs2) H1 (fun _ H2 => Q' H2) E) := by
        cases q1 : fes δ0 with
        | bad => rw [q1] at h; exact h.elim
        | exc c' xs => rw [q1] at h; exact fun H' G' d t x => h H' G' d (t0.trans t) x
        | ok ds2 =>
          rw [q1] at h
          intro vs2 H1 G1 t1 r1
          have h3 : RqI K E G H p c (if Nat.beq ds2.length n2 = true then (mi c fs ds2).bind _ else .bad) Q := h
          by_cases qn : Nat.beq ds2.length n2 = true
          · rw [if_pos qn] at h3
            have hH1 := t1.sm _ _ hpp
            have hG1 : G1 p = none := by rw [t1.nw p hpp]; exact hg
            have td := Tr.dlp (t0.trans t1) hG1 (is_na hH1)
            refine ⟨p, dx, c, ws, fs, G1, vs2, ds2, rfl, by rw [r1.length]; exact Nat.eq_of_beq_eq_true qn, hH1, hG1, t1.gh, rf.mono t1.gg, r1, ?_⟩
            cases q2 : mi c fs ds2 with
            | bad => rw [q2] at h3; exact h3.elim
            | exc c' xs => rw [q2] at h3; exact fun H' G' d t x => h3 H' G' d (td.trans t) x
            | ok fs2 => exact fun H' G' dx' ws' t hg' e' rf' => ⟨ds2, fs2, G', dx', ws', q1, qn, q2, td.trans t, hg', e', rf'⟩
          · rw [if_neg qn] at h3; exact h3.elim
      refine PySem.ks_codeAny_call_defAt (fd := PySem.W.fnX name qual params (.Expr (.Call (.Attribute (.Call (.Name "super" p0) [] [] p1) "__init__" p2) (e :: es) [] p3) p4 :: rest) scope [("__class__", cc)] .none kV doc pm an (.ref cda) ct)
        (body := .Expr (.Call (.Attribute (.Call (.Name "super" p0) [] [] p1) "__init__" p2) (e :: es) [] p3) p4 :: rest) (binds := ps.zip us) hr.depth (KX _ _ lk) rfl lim (PySem.W.codeRec_of KX hcd) rfl hb S.nocell (fun ⟨y, v⟩ hy => S.par y (List.of_mem_zip hy).1) (fun h₁ hns hk₁ => ?_) S.co S.gen S.kind
      have C : NdefX.CellsAt [(("__class__" : Str), cc)] ["__class__"] [none] s.heap H := by
        have key : ∀ {y : Str} {c' : Addr}, List.lookup y [(("__class__" : Str), cc)] = some c' → y = "__class__" ∧ c' = cc := fun {y c'} e => by
          rw [List.lookup_cons] at e
          cases q : y == ("__class__" : Str) with
          | true => rw [q] at e; exact ⟨eq_of_beq q, (Option.some.inj e).symm⟩
          | false => rw [q] at e; cases e
        refine ⟨rfl, fun y c' e => ?_, fun x y c' e1 e2 => ?_, fun i y e => ?_⟩
        · obtain ⟨rfl, rfl⟩ := key e
          exact ⟨(e0.bs _ _ (e0.mod.kin _ _ hcell)).2, ⟨_, _, KX _ _ hcell, rfl⟩⟩
        · rw [(key e1).1, (key e2).1]
        · cases i with
          | zero =>
            simp at e
            subst e
            exact ⟨cc, rfl, fun v z => by simp at z⟩
          | succ i => simp at e
      have I : Inv (NdefX.ncx (L2.CX P w) P w K mg base N NF f A outer s H E) [] (NdefX.startF N (V.ref p :: vs') [none]) H { s with heap := h₁, toks := s.toks + (ps.zip us).length } :=
        NdefX.inv_startN (F := NF) S hr.hd e0 hlen r C hns hk₁
      rw [es0] at I
      obtain ⟨ta, pa, ha⟩ := (hargs NF A outer s H E rfl rfl (hr.deeper _)).ex
      obtain ⟨pl, hev'⟩ := hev (NdefX.ncx (L2.CX P w) P w K mg base N NF f A outer s H E).env
      have hN0 : (NdefX.ncx (L2.CX P w) P w K mg base N NF f A outer s H E).N[0]? = some ar.arg := by
        show N[0]? = some ar.arg
        have z : (N.take (ps.length + 1))[0]? = (ps ++ [("__class__" : Str)])[0]? := congrArg (fun l : List Str => l[0]?) S.pre
        rw [List.getElem?_take_of_lt (by omega), List.getElem?_append_left (by omega), hps] at z
        rw [z, har]
      refine PySem.ks_wpAt_execs_cons (PySem.ks_wpAt_mono (super_stmt (X := NdefX.ncx (L2.CX P w) P w K mg base N NF f A outer s H E) (E := fun _ => E) (Q' := Q') (sp := spI K n2 mi) (name := name) (qual := qual) (params := params) (scope := scope) (cn := c) (fd2 := fd2) (ps2 := ps2) (k := k) (f2 := f2) (ar := ar) (t := ta) (dx := dx) (fs := ws) (pl := pl)
        (body := .Expr (.Call (.Attribute (.Call (.Name "super" p0) [] [] p1) "__init__" p2) (e :: es) [] p3) p4 :: rest)
        lk hp hcode hvs hfile hcell clsD D.mro D.sup D.ty D.fn D.st hsup hks (S.frk _ (List.mem_singleton.mpr rfl)) (S.par _ (List.mem_of_getElem? (by rw [har]; exact hps))) rfl rfl rfl htop rfl hN0 hpp F2 hb2 (hr.deeper _)
        (passAt (W := fun cls d _ H' => E cls d H') (takes_of (X := NdefX.ncx (L2.CX P w) P w K mg base N NF f A outer s H E) rfl rfl rfl rfl) _) pa I (ha S0 hA) (hint _ rfl) (hs _) (he _) (hpl _) hev') (fun fl s' z => ?_) (fun _ _ z => z))
      obtain ⟨rfl, H2, I2, ds2, fs2, G', dx', ws', q1, qn, q2, t, hg', e', rf'⟩ := z
      rw [q1] at h
      have h3 : RqI K E G H p c (if Nat.beq ds2.length n2 = true then (mi c fs ds2).bind fun fs2 => (match F (Sl.oo c fs2 :: (ds.map Sl.pu ++ List.replicate (N.length - (n + 1)) Sl.un)) with
        | .nx δ => (match (δ[0]? : Option Sl) with
          | some (Sl.oo c' fs') => if c' = c then .ok fs' else .bad
          | _ => .bad)
        | .ex c fs _ => .exc c fs
        | _ => .bad) else .bad) Q := h
      rw [if_pos qn, q2] at h3
      obtain ⟨tr, pr, hr2⟩ := (hrest NF A outer s H E rfl rfl (hr.deeper _)).ex
      have S1 : SOk K ⟨strip (dl H p), G, some p⟩ G' H2 (Sl.oo c fs2 :: (ds.map Sl.pu ++ List.replicate (N.length - (n + 1)) Sl.un)) (some (.ref p) :: (vs'.map some ++ List.replicate (N.length - (n + 1)) none)) :=
        sok_at (B := ⟨strip (dl H p), G, some p⟩) t.toStrip strip_dl rfl e' hg' rf' (rd.mono t.gg) rfl strip_no
      refine wpAt_of_wpAny (wpAny_mono (pr.run [] s' _ H2 { nx := fun _ H' => Q .non H', rt := Q } I2 (hr2 S1 ?_)) (fun fl s3 hs3 => ?_) fun er s3 hs3 => hs3)
      · have h4 : RqI K E G H p c (match F (Sl.oo c fs2 :: (ds.map Sl.pu ++ List.replicate (N.length - (n + 1)) Sl.un)) with
          | .nx δ => (match (δ[0]? : Option Sl) with
            | some (Sl.oo c' fs') => if c' = c then .ok fs' else .bad
            | _ => .bad)
          | .ex c fs _ => .exc c fs
          | _ => .bad) Q := h3
        cases q : F (Sl.oo c fs2 :: (ds.map Sl.pu ++ List.replicate (N.length - (n + 1)) Sl.un)) with
        | nx δ =>
          rw [q] at h4
          intro σ H3 G3 g S'
          cases q0 : (δ[0]? : Option Sl) with
          | none =>
            have h5 : RqI K E G H p c (match (δ[0]? : Option Sl) with
              | some (Sl.oo c' fs') => if c' = c then .ok fs' else .bad
              | _ => .bad) Q := h4
            rw [q0] at h5; exact h5.elim
          | some sl =>
            have h5 : RqI K E G H p c (match (δ[0]? : Option Sl) with
              | some (Sl.oo c' fs') => if c' = c then .ok fs' else .bad
              | _ => .bad) Q := h4
            rw [q0] at h5
            cases sl with
            | oo c' fs' =>
              by_cases qc : c' = c
              · subst qc
                have h6 : RqI K E G H p c' (.ok fs') Q := by
                  have z : RqI K E G H p c' (if c' = c' then .ok fs' else .bad) Q := h5
                  rw [if_pos rfl] at z; exact z
                obtain ⟨pp, es2, h0, hg2, dx2, vs2, hp2, r2⟩ := S'.own q0 rfl
                obtain ⟨p', hpa, es3⟩ := S'.me 0 c' fs' q0
                have e1 : p = p' := Option.some.inj hpa
                have e2 : pp = p' := by
                  rw [es2] at es3
                  injection es3 with z; injection z with z; injection z
                subst e1 e2
                exact h6 H3 G3 dx2 vs2 S'.tr.strip hg2 hp2 r2
              · have z : RqI K E G H p c (if c' = c then .ok fs' else .bad) Q := h5
                rw [if_neg qc] at z; exact z.elim
            | _ => exact h5.elim
        | rt d => rw [q] at h4; exact h4.elim
        | ex cn xs δ => rw [q] at h4; exact fun σ H3 G3 dx' g S' x => h4 H3 G3 dx' S'.tr.strip x
        | bk δ => rw [q] at h4; exact h4.elim
        | ct δ => rw [q] at h4; exact h4.elim
        | bad => rw [q] at h4; exact h4.elim
      · have fin : ∀ {σ' : L2.St} {H' : Hp} {v : V} {u : Value}, Inv (NdefX.ncx (L2.CX P w) P w K mg base N NF f A outer s H E) [] σ' H' s3 → L2.RelV v u → Q v H' → CE outer P w H s Q u s3 :=
          fun {σ' H' v u} J rv q => ⟨v, H', J.os, J.bare, J.base, J.hok, rv, q⟩
        cases fl with
        | ret u =>
          obtain ⟨v, σ', H', J, rv, q⟩ := hs3
          exact fin J rv q
        | next =>
          obtain ⟨σ', H', J, q⟩ := hs3
          exact fin (v := V.non) (u := Value.none) J rfl q
        | brk =>
          obtain ⟨_, _, _, q⟩ := hs3
          exact False.elim q
        | cont =>
          obtain ⟨_, _, _, q⟩ := hs3
          exact False.elim q
    · rw [if_neg qc] at h; exact h.elim
end
end LD

set_option maxHeartbeats 2000000
/-! Layer D, part J: the head's facts. -/
namespace LD
open PySem PySem.Spec PyProof.Rows L2
variable [Tbs]

/-! ### where a def stands -/
theorem DefE.funD {K : PySem.W.Frag} {d : DefE} (e : fnW K (d.at_.adr K) = d.val) (c : d.ok K = true) (hs : d.sup = none) : ∃ fd, FunD K d.name d.qual d.params d.body d.scope (d.dvs K) (d.kws K) (d.at_.adr K) fd := by
  obtain ⟨kp, c2⟩ := He.ba c
  unfold fnW at e
  unfold DefE.val at e
  rw [hs] at e
  cases q : K.lookup (d.at_.adr K) with
  | none => rw [q] at c2; cases c2
  | some o =>
    obtain ⟨oc, od, dt, osl⟩ := o
    rw [q] at c2 e
    cases dt with
    | func fd =>
      obtain ⟨n1, n2, n3, n4, n5, n6, n7, n8, n9, n10, n11, n12, n13, n14, n15⟩ := fd
      have e2 : (some (n1, n2, n3, n4, n5, n6, n7.map (·.1), n15) : FnW) = some (d.name, d.qual, d.params, .stmts d.body, d.scope, mainGlobals, [], builtinsNs) := e
      simp only [Option.some.injEq, Prod.mk.injEq, List.map_eq_nil_iff] at e2
      obtain ⟨h1, h2, h3, h4, h5, h6, h7, h8⟩ := e2
      subst h1 h2 h3 h4 h5 h6 h7 h8
      have c3 : (PySem.W.codeIn K n13 d.qual && (He.dflB K n8 (d.dvs K) && He.kwdB K n9 (d.kws K))) = true := c2
      obtain ⟨k1, k2⟩ := He.ba c3
      obtain ⟨k3, k4⟩ := He.ba k2
      exact ⟨_, ⟨oc, od, n8, n9, n10, n11, n12, n13, n14, osl, rfl, q, k1, He.dflB_ok k3, He.kwdB_ok k4⟩, kp⟩
    | _ => cases c2
/-! ### super().__init__ -/
theorem supK_of {P : Program} {K : PySem.W.Frag} {d : DefE} {cn bn : Str} (e : fnW K (d.at_.adr K) = d.val) (c : d.ok K = true) (hs : d.sup = some (cn, bn)) (b : supB P K d = true) :
    ∃ fd, SupK P K cn d.name d.qual d.params d.body d.scope (d.at_.adr K) fd (He.ma K (He.ga K bn) "__init__") := by
  obtain ⟨kp, c2⟩ := He.ba c
  unfold supB at b
  rw [hs] at b
  obtain ⟨b0, b⟩ := He.ba b
  obtain ⟨b1, b2⟩ := He.ba b
  obtain ⟨b2, b3⟩ := He.ba b2
  obtain ⟨b3, b4⟩ := He.ba b3
  obtain ⟨b4, b5⟩ := He.ba b4
  obtain ⟨b5, b6⟩ := He.ba b5
  obtain ⟨b6, b7⟩ := He.ba b6
  unfold fnW at e
  unfold DefE.val at e
  rw [hs] at e
  cases q : K.lookup (d.at_.adr K) with
  | none => rw [q] at c2; cases c2
  | some o =>
    obtain ⟨oc, od, dt, osl⟩ := o
    rw [q] at c2 e b1
    cases dt with
    | func fd =>
      obtain ⟨n1, n2, n3, n4, n5, n6, n7, n8, n9, n10, n11, n12, n13, n14, n15⟩ := fd
      have e2 : (some (n1, n2, n3, n4, n5, n6, n7.map (·.1), n15) : FnW) = some (d.name, d.qual, d.params, FuncBody.stmts d.body, d.scope, mainGlobals, (["__class__"] : List Str), builtinsNs) := e
      simp only [Option.some.injEq, Prod.mk.injEq] at e2
      obtain ⟨h1, h2, h3, h4, h5, h6, h7, h8⟩ := e2
      subst h1 h2 h3 h4 h5 h6 h8
      have c3 : (PySem.W.codeIn K n13 d.qual && (He.dflB K n8 (d.dvs K) && He.kwdB K n9 (d.kws K))) = true := c2
      obtain ⟨k1, k2⟩ := He.ba c3
      have e8 : n8 = .none := by
        have z := (He.ba k2).1
        have y : d.dvs K = [] := by unfold DefE.dvs; rw [List.isEmpty_iff.mp b0]; rfl
        rw [y] at z
        cases n8 with
        | none => rfl
        | _ => cases z
      subst e8
      dsimp only at b1
      cases n7 with
      | nil => cases h7
      | cons z r =>
        obtain ⟨y, cc⟩ := z
        cases r with
        | cons _ _ => cases h7
        | nil =>
          cases n13 with
          | ref cda =>
            obtain ⟨b11, b12⟩ := He.ba b1
            have ey : y = "__class__" := by
              have : [y] = [("__class__" : Str)] := h7
              injection this
            subst ey
            refine ⟨_, ⟨oc, od, n9, n10, n11, n12, cda, cc, n14, osl, rfl, q, k1, ?_, ?_⟩, Option.isSome_iff_exists.mp b2, of_decide_eq_true b3, He.eqO_ok b4, of_decide_eq_true b5, b6, He.eqO_ok b7⟩
            · split at b11
              · rename_i ccl cdd vs ccs hq
                split at b11
                · rename_i file tf hv
                  exact ⟨ccl, cdd, vs, ccs, file, tf, hq, hv, b11⟩
                · cases b11
              · cases b11
            · split at b12
              · rename_i cl cld D csl hq
                have : D = He.ga K cn := of_decide_eq_true b12
                subst this
                exact ⟨cl, cld, csl, hq⟩
              · cases b12
          | _ => cases b1
    | _ => cases c2
/-! ### single facts -/
theorem kcB_ok {K : PySem.W.Frag} {c : Str} (h : kcB c K = true) : KC K c := by
  obtain ⟨h1, h⟩ := He.ba h
  obtain ⟨h2, h⟩ := He.ba h
  obtain ⟨h3, h⟩ := He.ba h
  obtain ⟨h4, h5⟩ := He.ba h
  exact ⟨He.cls_ok h1, He.eqO_ok h2, He.eqO_ok h3, of_decide_eq_true h4, of_decide_eq_true h5⟩
theorem conB_ok {K : PySem.W.Frag} {c f : Str} {v : V} (h : conB c f v K = true) : ∃ u, Con K (He.ga K c) f v u := by
  unfold conB at h
  cases q : PySem.W.findIn K (.ref (He.ga K c)) f with
  | none => rw [q] at h; cases h
  | some o =>
    cases o with
    | none => rw [q] at h; cases h
    | some u =>
      rw [q] at h
      obtain ⟨h1, h⟩ := He.ba h
      obtain ⟨h2, h3⟩ := He.ba h
      exact ⟨u, q, He.relB_ok h1, He.eqO_ok h2, by simpa using h3⟩
theorem propB_ok {K : PySem.W.Frag} {c f : Str} (h : propB c f K = true) : PropOf K (He.ga K c) f (He.ma K (He.ga K c) f) ((Wh.prop c f).adr K) := by
  obtain ⟨h1, h⟩ := He.ba h
  obtain ⟨h2, h⟩ := He.ba h
  obtain ⟨h3, h4⟩ := He.ba h
  refine ⟨He.eqO_ok h1, He.eqO_ok h2, of_decide_eq_true h3, ?_⟩
  show ∃ rest, PySem.W.recIn K (He.ma K (He.ga K c) f) "property" = some (.ref (pgA K (He.ma K (He.ga K c) f)) :: rest)
  unfold pgA
  split at h4
  · rename_i g r e
    rw [e]
    exact ⟨r, rfl⟩
  · cases h4
/-! ### the Hook -/
def SaysL (P : Program) (fa : List Fk) (fn : List DefE) (K : PySem.W.Frag) : Prop := obsL P fa fn K = valL fn
def obsLG (P : Program) (n : Nat) (fa : List Fk) (fn : List DefE) (g : Addr → Option Obj) : AlL := obsL P fa fn (He.frG g (cStatics :: He.asD g n))
def hookL (P : Program) (n : Nat) (fa : List Fk) (fn : List DefE) : PySem.W.Hook where
  α := AlL
  obs := fun s => obsLG P n fa fn s.heap.get?
  val := fun _ => valL fn
  says := fun _ h => ∃ K : PySem.W.Frag, K.In h ∧ SaysL P fa fn K
  of := fun _ _ e => ⟨_, He.frG_in, e⟩
  keeps := fun _ _ _ ⟨K, hK, c⟩ k => ⟨K, PySem.W.Frag.In.keeps hK k, c⟩
theorem obsLG_eq {P : Program} {n : Nat} {fa : List Fk} {fn : List DefE} {g : Addr → Option Obj} {s : Shared} (h : ∀ a, g a = s.heap.get? a) : obsLG P n fa fn g = (hookL P n fa fn).obs s := by
  have e : g = s.heap.get? := funext h
  rw [e] <;> rfl
section
variable {P : Program} {fa : List Fk} {fn : List DefE} {K : PySem.W.Frag}
theorem SaysL.fact (c : SaysL P fa fn K) (i : Nat) {f : Fk} (h : fa[i]? = some f := by rfl) : f K = true := by
  have c1 := (He.ba (show ((fa.all fun f => f K) && fn.all fun d => d.ok K && supB P K d) = true from congrArg (fun z : AlL => z.1) c)).1
  exact List.all_eq_true.mp c1 f (List.mem_of_getElem? h)
theorem SaysL.both (c : SaysL P fa fn K) {i : Nat} {d : DefE} (h : fn[i]? = some d) : fnW K (d.at_.adr K) = d.val ∧ d.ok K = true ∧ supB P K d = true := by
  have c2 := (He.ba (show ((fa.all fun f => f K) && fn.all fun d => d.ok K && supB P K d) = true from congrArg (fun z : AlL => z.1) c)).2
  have e : fn.map (fun d => fnW K (d.at_.adr K)) = fn.map DefE.val := congrArg (fun z : AlL => z.2) c
  have e2 : (fn.map fun d => fnW K (d.at_.adr K))[i]? = (fn.map DefE.val)[i]? := by rw [e]
  rw [List.getElem?_map, List.getElem?_map, h] at e2
  have k := List.all_eq_true.mp c2 d (List.mem_of_getElem? h)
  obtain ⟨k1, k2⟩ := He.ba k
  exact ⟨Option.some.inj e2, k1, k2⟩
theorem SaysL.def_ (c : SaysL P fa fn K) (i : Nat) {d : DefE} (h : fn[i]? = some d := by rfl) (hs : d.sup = none := by rfl) : ∃ fd, FunD K d.name d.qual d.params d.body d.scope (d.dvs K) (d.kws K) (d.at_.adr K) fd :=
  let ⟨a, b, _⟩ := c.both h
  DefE.funD a b hs
theorem SaysL.sup_ (c : SaysL P fa fn K) (i : Nat) {d : DefE} {cn bn : Str} (h : fn[i]? = some d := by rfl) (hs : d.sup = some (cn, bn) := by rfl) : ∃ fd, SupK P K cn d.name d.qual d.params d.body d.scope (d.at_.adr K) fd (He.ma K (He.ga K bn) "__init__") :=
  let ⟨a, b, e⟩ := c.both h
  supK_of a b hs e
end
end LD

set_option maxHeartbeats 2000000
/-! Layer D, part K: the rules over the head's facts, as a printer writes them. -/
namespace LD
open PySem PySem.Spec PyProof.Rows L2
variable [Tbs]

/-! ### facts -/
theorem DV.fl_rep {K : PySem.W.Frag} {d : DV} {v : V} (h : d.fl = some v) (G : Hp) : DRep K G v d := by
  cases d with
  | non => cases h; exact .non
  | bl b => cases h; exact .bl b
  | int i => cases h; exact .int i
  | str x => cases h; exact .str x
  | _ => cases h
structure Fx (P : Program) (fa : List Fk) (fn : List DefE) (K : PySem.W.Frag) (mg : Str → Option Value) : Prop where
  h : ∃ h : Heap, K.In h ∧ h.Ns mainGlobals mg
  c : SaysL P fa fn K
section
variable {P : Program} {fa : List Fk} {fn : List DefE} {K : PySem.W.Frag} {mg : Str → Option Value}
theorem Fx.f (x : Fx P fa fn K mg) (i : Nat) {f : Fk} (e : fa[i]? = some f := by rfl) : f K = true := x.c.fact i e
theorem Fx.gl (x : Fx P fa fn K mg) {n : Str} (e : glB n K = true) : mg n = some (.ref (He.ga K n)) := let ⟨_, X, G⟩ := x.h; He.glo_ok X G e
theorem Fx.fr (x : Fx P fa fn K mg) {n : Str} (e : frB n K = true) : mg n = none := let ⟨_, X, G⟩ := x.h; He.free_ok X G e
theorem Fx.it (x : Fx P fa fn K mg) {n : Str} {i : Int} (e : itB n i K = true) : ∃ t, mg n = some (.int i t) := let ⟨_, X, G⟩ := x.h; He.int_ok X G e
theorem Fx.st (x : Fx P fa fn K mg) {n z : Str} (e : stB n z K = true) : ∃ t, mg n = some (.str z t) := let ⟨_, X, G⟩ := x.h; He.str_ok X G e
end

/-! ### promises -/
def FO (P : Program) (w : World) (K : PySem.W.Frag) (mg : Str → Option Value) (base : Heap) (k : Nat) (f : Addr) (ps : List Str) (sp : Sp) : Prop := ∃ fd, FnOk P w K mg base (L2.CX P w) k f fd ps sp ∧ Binds K fd ps []
section
variable {P : Program} {w : World} {K : PySem.W.Frag} {mg : Str → Option Value} {base : Heap} {k : Nat} {f : Addr} {ps : List Str} {sp : Sp}
theorem FO.as {m m' : Mir} (F : FO P w K mg base k f ps (spD K m)) (h : ∀ ds, m' ds ≠ .bad → m ds = m' ds) : FO P w K mg base k f ps (spD K m') :=
  let ⟨fd, a, b⟩ := F
  ⟨fd, fn_as a h, b⟩
theorem FO.eq {m m' : Mir} (F : FO P w K mg base k f ps (spD K m)) (h : m = m') : FO P w K mg base k f ps (spD K m') := h ▸ F
theorem SupK.bindsN {cn name qual : Str} {params : Arguments} {body : List Stmt} {scope : Scope} {fd : FuncData} {f2 : Addr} (D : SupK P K cn name qual params body scope f fd f2)
    (h : ∀ (cc : Addr) (kV doc pm : Value) (an : Option Addr) (cdv ct : Value) (us : List Value), us.length = ps.length → bindArgs (PySem.W.fnX name qual params body scope [("__class__", cc)] .none kV doc pm an cdv ct) ⟨us, []⟩ = pure (ps.zip us)) : Binds K fd ps [] := by
  obtain ⟨oc, od, kV, doc, pm, an, cda, cc, ct, osl, rfl, _⟩ := D.ex
  exact .all (h cc kV doc pm an (.ref cda) ct)
end

/-! ### rules -/
section
variable {X : Cx} {W : WX} {a b c o : Expr} {es : List Expr} {fa fb fc fo : Ev → R DV} {fes : Ev → R (List DV)} {pos p : Pos} {k j : Nat} {ps : List Str} {m : Mir} {x : Str}
theorem k_call (tk : Takes X W) (F : FO X.prog X.w X.K X.mg X.base k (He.ga X.K x) ps (spD X.K m)) (hr : Room j X.A) (hj : k ≤ j) (hm : X.mg x = some (.ref (He.ga X.K x))) (hk : PySem.W.keepIn X.K (.ref (He.ga X.K x)) = true) (A : PDA X W (a :: es) fes) (hg : Gl X x := by rfl)
    (hdb : (x == ("__debug__" : Str)) = false := by decide) (he : starEach (a :: es) X.env = (false, eval a X.env) :: starEach es X.env := by rfl) (hpl : (backTo pos (starEach es X.env)).any (·.1) = false := by rfl) : PD X W (.Call (.Name x p) (a :: es) [] pos) (xCall m fes) :=
  let ⟨fd, F, hb⟩ := F
  d_call tk F (hr.mono hj) hm hk hb A hg hdb he hpl
theorem k_call0 (tk : Takes X W) (F : FO X.prog X.w X.K X.mg X.base k (He.ga X.K x) ps (spD X.K m)) (hr : Room j X.A) (hj : k ≤ j) (hm : X.mg x = some (.ref (He.ga X.K x))) (hk : PySem.W.keepIn X.K (.ref (He.ga X.K x)) = true) (hg : Gl X x := by rfl)
    (hdb : (x == ("__debug__" : Str)) = false := by decide) : PD X W (.Call (.Name x p) [] [] pos) (fun _ => m []) :=
  let ⟨fd, F, hb⟩ := F
  d_call0 tk F (hr.mono hj) hm hk hb hg hdb
theorem k_make {n : Nat} {mi : Imi} (tk : Takes X W) (F : FO X.prog X.w X.K X.mg X.base k (He.ma X.K (He.ga X.K x) "__init__") ps (spI X.K n mi)) (hr : Room j X.A) (hj : k + 1 ≤ j) (hm : X.mg x = some (.ref (He.ga X.K x))) (M : mkB x X.K = true) (A : PDA X W (a :: es) fes) (hg : Gl X x := by rfl)
    (hdb : (x == ("__debug__" : Str)) = false := by decide) (he : starEach (a :: es) X.env = (false, eval a X.env) :: starEach es X.env := by rfl) (hpl : (backTo pos (starEach es X.env)).any (·.1) = false := by rfl) : PD X W (.Call (.Name x p) (a :: es) [] pos) (xMake x n mi fes) :=
  let ⟨fd, F, hb⟩ := F
  d_make tk (He.mkr_ok M) F (hr.mono hj) hm hb A hg hdb he hpl
theorem fldB_ok {K : PySem.W.Frag} {cs : List Str} {f : Str} (h : fldB cs f K = true) : ∀ c ∈ cs, KC K c ∧ NoAttr K (He.ga K c) f := fun c hc =>
  let ⟨a, b⟩ := He.ba (List.all_eq_true.mp h c hc)
  ⟨kcB_ok a, He.noat_ok b⟩
theorem k_fld {cs : List Str} {f : Str} (hf : fldB cs f X.K = true) (A : PD X W a fa) (hb : attributeBase a f X.env (eval a X.env) = eval a X.env := by rfl) : PD X W (.Attribute a f pos) (xFld cs f fa) := d_fld A (fldB_ok hf) hb
theorem k_con {tab : List (Str × DV)} {f : Str} (hf : cnB tab f X.K = true) (A : PD X W a fa) (hb : attributeBase a f X.env (eval a X.env) = eval a X.env := by rfl) : PD X W (.Attribute a f pos) (xCon tab f fa) := d_con A (fun c d e => by
  obtain ⟨h1, h2⟩ := He.ba (List.all_eq_true.mp hf (c, d) (look_mem e))
  dsimp only at h1 h2
  cases q : d.fl with
  | none => rw [q] at h2; cases h2
  | some v =>
    rw [q] at h2
    obtain ⟨u, hu⟩ := conB_ok h2
    exact ⟨kcB_ok h1, v, u, hu, fun G => DV.fl_rep q G⟩) hb
theorem k_prop {cn f : Str} (hp : ppB cn f X.K = true) (F : FO X.prog X.w X.K X.mg X.base k ((Wh.prop cn f).adr X.K) ps (spD X.K m)) (hr : Room j X.A) (hj : k + 1 ≤ j) (hnx : ∀ ds c fs, m ds ≠ .exc c fs)
    (A : PD X W a fa) (hab : attributeBase a f X.env (eval a X.env) = eval a X.env := by rfl) : PD X W (.Attribute a f pos) (xProp cn m fa) :=
  let ⟨fd, F, hb⟩ := F
  let ⟨h1, h2⟩ := He.ba hp
  d_prop (kcB_ok h1) (propB_ok h2) F (hr.mono hj) hb hnx A hab
theorem k_meth {cn mn : Str} {apos : Pos} {pl : Sem Bool} (tk : Takes X W) (hm : mtB cn mn X.K = true) (F : FO X.prog X.w X.K X.mg X.base k (He.ma X.K (He.ga X.K cn) mn) ps (spD X.K m)) (hr : Room j X.A) (hj : k ≤ j)
    (O : PD X W o fo) (A : PDA X W (a :: es) fes) (hst : starEach (a :: es) X.env = (false, eval a X.env) :: starEach es X.env := by rfl) (hpl : (backTo pos (starEach es X.env)).any (·.1) = false := by rfl)
    (ht : eval (.Call (.Attribute o mn apos) (a :: es) [] pos) X.env = (do
      let ov ← eval o X.env
      standAt apos.atName
      let (f, first) ← holding [ov] (getMethod ov mn pl)
      callWith pos f first (backTo pos (starEach (a :: es) X.env)) (backToKw pos (keywordEach [] X.env))) := by rfl) : PD X W (.Call (.Attribute o mn apos) (a :: es) [] pos) (xMeth cn mn m fo fes) :=
  let ⟨fd, F, hb⟩ := F
  let ⟨h1, h2⟩ := He.ba hm
  d_meth tk (kcB_ok h1) (He.meth_ok h2) F (hr.mono hj) hb O A hst hpl ht
theorem k_meth0 {cn mn : Str} {apos : Pos} {pl : Sem Bool} (tk : Takes X W) (hm : mtB cn mn X.K = true) (F : FO X.prog X.w X.K X.mg X.base k (He.ma X.K (He.ga X.K cn) mn) ps (spD X.K m)) (hr : Room j X.A) (hj : k ≤ j)
    (O : PD X W o fo)
    (ht : eval (.Call (.Attribute o mn apos) [] [] pos) X.env = (do
      let ov ← eval o X.env
      standAt apos.atName
      let (f, first) ← holding [ov] (getMethod ov mn pl)
      callWith pos f first (backTo pos (starEach [] X.env)) (backToKw pos (keywordEach [] X.env))) := by rfl) : PD X W (.Call (.Attribute o mn apos) [] [] pos) (xMeth cn mn m fo xNil) :=
  let ⟨fd, F, hb⟩ := F
  let ⟨h1, h2⟩ := He.ba hm
  d_meth0 tk (kcB_ok h1) (He.meth_ok h2) F (hr.mono hj) hb O ht
theorem isB_ok {K : PySem.W.Frag} {tab : List (Tg × Bool)} {cs : List Tg} (h : isB tab cs K = true) : isiB K tab cs = true ∧ ∀ c b, tab.lookup (.own c) = some b → KC K c :=
  let ⟨h1, h2⟩ := He.ba h
  ⟨h1, fun c b e => kcB_ok (List.all_eq_true.mp h2 (.own c, b) (look_mem e))⟩
theorem k_isi {tab : List (Tg × Bool)} {t : Tg} (hB : isB tab [t] X.K = true) (hm : X.mg "isinstance" = none) (A : PD X W a fa) (C : PCl X b t) (hg : Gl X "isinstance" := by rfl)
    (he : starEach [a, b] X.env = (false, eval a X.env) :: starEach [b] X.env := by rfl) (he2 : starEach [b] X.env = (false, eval b X.env) :: starEach [] X.env := by rfl) (hpl : (backTo pos (starEach [b] X.env)).any (·.1) = false := by rfl) :
    PD X W (.Call (.Name "isinstance" p) [a, b] [] pos) (xIsi tab fa) := d_isi (isB_ok hB).2 (isB_ok hB).1 hm A C hg he he2 hpl
theorem k_isiT {tab : List (Tg × Bool)} {ts : List Tg} {p2 : Pos} {kk : Nat} (hB : isB tab ts X.K = true) (hz : ts.length ≤ 1000) (hm : X.mg "isinstance" = none) (A : PD X W a fa) (C : PCls X es ts) (hg : Gl X "isinstance" := by rfl)
    (he : starEach [a, .Tuple es kk p2] X.env = (false, eval a X.env) :: starEach [.Tuple es kk p2] X.env := by rfl) (he2 : starEach [.Tuple es kk p2] X.env = (false, eval (.Tuple es kk p2) X.env) :: starEach [] X.env := by rfl)
    (hpl : (backTo pos (starEach [.Tuple es kk p2] X.env)).any (·.1) = false := by rfl) : PD X W (.Call (.Name "isinstance" p) [a, .Tuple es kk p2] [] pos) (xIsi tab fa) := d_isiT (isB_ok hB).2 (isB_ok hB).1 hz hm A C hg he he2 hpl
/-- x == y of instances -/
theorem k_eqO {cs : List Str} {bn : Str} (hB : ewB cs bn X.K = true) (F : FO X.prog X.w X.K X.mg X.base k (He.ma X.K (He.ga X.K bn) "__eq__") ps (spD X.K m)) (hr : Room j X.A) (hj : k ≤ j) (A : PD X W a fa) (B : PD X W b fb) (hm : behindInMarks .Eq b = false := by first | exact nomark _ | rfl) :
    PD X W (.Compare a [.Eq] [b] pos) (xOp (oEqO cs m) fa fb) := by
  obtain ⟨fd, F, hb⟩ := F
  obtain ⟨h1, h2⟩ := He.ba hB
  exact d_cmp (or_own F (hr.mono hj) hb h1 h2) (od_own (f := 0) (fd := fd) (ps := []) (k := 0)) A B hm
/-- raise C('text') -/
theorem k_raise {cn mg_ : Str} {jj : Nat} {p2 p3 : Pos} (hc : X.calm = true) (tk : Takes X W) (gC : X.mg cn = some (.ref (He.ga X.K cn))) (hE : ecB cn X.K = true) (hg : Gl X cn := by rfl) (hdb : (cn == ("__debug__" : Str)) = false := by decide) :
    PSD X W (.Raise (some (.Call (.Name cn p) [.Constant (.str mg_) jj p2] [] p3)) none pos) (sRaise cn fun _ => .ok []) :=
  let ⟨q, kC, h1, h2⟩ := He.exc_ok hE
  ds_raise hc tk (dm_own q gC kC h1 h2 hg hdb)
theorem k_sfld (i : Nat) {cs : List Str} {x f : Str} {p1 p2 : Pos} (hf : fldB cs f X.K = true) (A : PD X W a fa) (hN : X.N[i]? = some x := by rfl) (hv : Vis X.env.scope x := by first | exact Or.inl rfl | exact Or.inr (Or.inl rfl) | exact Or.inr (Or.inr rfl))
    (hd : (x == ("__debug__" : Str)) = false := by decide) (hcd : (x == ("__classdict__" : Str)) = false := by decide) (hs : swapsWith a (some (.Attribute (.Name x p1) f p2)) pos.line X.env = pure false := by rfl) : PSD X W (.Assign [.Attribute (.Name x p1) f p2] a pos) (sFldD cs i f fa) :=
  ds_fld i A (fldB_ok hf) hN hv hd hcd hs
end
end LD
namespace LD
open PySem PySem.Spec PyProof.Rows L2
variable [Tbs]
theorem tk0 {X : Cx} : Takes X W0 := takes0
def xChainT (o o' : DV → DV → R DV) (a b c : Ev → R DV) : Ev → R Bool := xTest (xChain o o' a b c)
theorem dt_chain {X : Cx} {W : WX} {a b c : Expr} {fa fb fc : Ev → R DV} {pos : Pos} {o o' : CmpOp} {r r' : R2} {op op' : DV → DV → R DV} (ho : OpR X (compareOp o) r) (ho' : OpR X (compareOp o') r') (od : OpD X r op) (od' : OpD X r' op') (A : PD X W a fa) (B : PD X W b fb) (C : PD X W c fc) (hm : lastMarks [o, o'] [b, c] = false := by with_unfolding_all rfl) :
    PDT X W (.Compare a [o, o'] [b, c] pos) (xTest (xChain op op' fa fb fc)) := by
  obtain ⟨ta, pa, ha⟩ := A.ex
  obtain ⟨tb, pb, hb⟩ := B.ex
  obtain ⟨tc, pc, hc⟩ := C.ex
  refine ⟨_, pt_chain ho ho' pa pb pc hm, fun {B0 G H δ σ Q} S h => ?_⟩
  have e : xTest (xChain op op' fa fb fc) δ = ((fa δ).bind fun x => (fb δ).bind fun y => (op x y).bind fun z => (asB z).bind fun k => if k = true then (fc δ).bind fun w => (op' y w).bind asB else .ok false) := by
    unfold xTest xChain
    cases fa δ with
    | ok x =>
      cases fb δ with
      | ok y =>
        show ((op x y).bind _).bind asB = (op x y).bind _
        cases op x y with
        | ok z =>
          show ((asB z).bind _).bind asB = (asB z).bind _
          cases asB z with
          | ok k => cases k with
            | true => show ((fc δ).bind _).bind asB = (fc δ).bind _; cases fc δ <;> rfl
            | false => rfl
          | _ => rfl
        | _ => rfl
      | _ => rfl
    | _ => rfl
  rw [e] at h
  refine ha S (Rq.bind (rep := DRep X.K) h fun x ex v H1 G1 t1 r1 h1 => ?_)
  refine hb (S.step t1) (Rq.bind (rep := DRep X.K) h1 fun y ey w H2 G2 t2 r2 h2 => ?_)
  refine od t2.gh (r1.mono t2.gg) r2 (Rq.bind (rep := DRep X.K) h2 fun z ez u H3 G3 t3 r3 h3 => ?_)
  cases q : asB z with
  | ok k =>
    rw [q] at h3
    refine ⟨k, asB_rep r3 q, ?_⟩
    cases k with
    | true =>
      rw [if_pos rfl]
      refine hc ((S.step t1).step (t2.trans t3)) (Rq.bind (rep := DRep X.K) h3 fun y' ey' w' H4 G4 t4 r4 h4 => ?_)
      refine od' t4.gh (r2.mono (t3.gg.trans t4.gg)) r4 (Rq.bind (rep := DRep X.K) h4 fun z' ez' u' H5 G5 t5 r5 h5 => ?_)
      cases q2 : asB z' with
      | ok k2 => rw [q2] at h5; exact ⟨k2, asB_rep r5 q2, Rq.ok_self (rep := BRep) t5.gh h5 rfl⟩
      | exc c fs => exact absurd q2 asB_no
      | bad => rw [q2] at h5; exact h5.elim
    | false =>
      rw [if_neg (by decide)]
      exact ⟨false, rfl, Rq.ok_self (rep := BRep) t3.gh h3 rfl⟩
  | exc c fs => exact absurd q asB_no
  | bad => rw [q] at h3; exact h3.elim
end LD
namespace LD
open PySem PySem.Spec PyProof.Rows L2
variable [Tbs]
/-! ### defs, as printed -/
section
variable {P : Program} {w : World} {K : PySem.W.Frag} {mg : Str → Option Value} {base : Heap}
abbrev Own (X : Cx) : Prop := PassesOwn (model X.prog X.w) X.A X.env X.xe
theorem fn_k {x qual : Str} {params : Arguments} {body : List Stmt} {scope : Scope} {dvs : List V} {kws : List (Str × V)} {f : Addr} {fd : FuncData} {N ps : List Str} {k : Nat} {F : Ev → SR}
    (D : FunD K x qual params body scope dvs kws f fd) (S : FnScope N ps scope) (hle : ps.length ≤ N.length) (hb : Binds K fd ps [])
    (hbody : ∀ (cdv : Value) (A : Around) (outer : List Env) (s : Shared) (H : Hp) (E : XK), Room k (cxOf (L2.CX P w) P w K mg base N qual scope f cdv A outer s H E).A → Takes (cxOf (L2.CX P w) P w K mg base N qual scope f cdv A outer s H E) (fun cls d _ H' => E cls d H') →
      Own (cxOf (L2.CX P w) P w K mg base N qual scope f cdv A outer s H E) → PSSD (cxOf (L2.CX P w) P w K mg base N qual scope f cdv A outer s H E) (fun cls d _ H' => E cls d H') body F) : FO P w K mg base (k + 1) f ps (spD K (mir N.length ps.length F)) :=
  ⟨fd, fn_d D S hle fun cdv A outer s H E hr => hbody cdv A outer s H E hr (takes_of rfl rfl rfl rfl) (passes_of rfl), hb⟩
theorem fn_ki {x qual : Str} {params : Arguments} {body : List Stmt} {scope : Scope} {dvs : List V} {kws : List (Str × V)} {f : Addr} {fd : FuncData} {N ps : List Str} {k n : Nat} {F : Ev → SR}
    (D : FunD K x qual params body scope dvs kws f fd) (S : FnScope N ps scope) (hn : ps.length = n + 1) (hle : ps.length ≤ N.length) (hb : Binds K fd ps [])
    (hbody : ∀ (cdv : Value) (A : Around) (outer : List Env) (s : Shared) (H : Hp) (E : XK), Room k (cxOf (L2.CX P w) P w K mg base N qual scope f cdv A outer s H E).A → Takes (cxOf (L2.CX P w) P w K mg base N qual scope f cdv A outer s H E) (fun cls d _ H' => E cls d H') →
      Own (cxOf (L2.CX P w) P w K mg base N qual scope f cdv A outer s H E) → PSSD (cxOf (L2.CX P w) P w K mg base N qual scope f cdv A outer s H E) (fun cls d _ H' => E cls d H') body F) : FO P w K mg base (k + 1) f ps (spI K n (imi N.length n F)) :=
  ⟨fd, fn_init D S hn hle fun cdv A outer s H E hr => hbody cdv A outer s H E hr (takes_of rfl rfl rfl rfl) (passes_of rfl), hb⟩
theorem fn_ks {cn name qual : Str} {params : Arguments} {scope : Scope} {f f2 : Addr} {fd : FuncData} {N ps ps2 : List Str} {k n n2 : Nat} {mi : Imi} {fes : Ev → R (List DV)} {F : Ev → SR} {e : Expr} {es : List Expr} {rest : List Stmt} {p0 p1 p2 p3 p4 : Pos} {a0 : Str} {ar : Arg}
    (D : SupK P K cn name qual params (.Expr (.Call (.Attribute (.Call (.Name "super" p0) [] [] p1) "__init__" p2) (e :: es) [] p3) p4 :: rest) scope f fd f2) (S : NdefX.NScope N ps ["__class__"] scope) (hn : ps.length = n + 1) (hps : ps[0]? = some a0)
    (hp : (params.posonlyargs ++ params.args).head? = some ar) (har : ar.arg = a0) (hks : scope.names.lookup ("super" : Str) = some .globalImplicit)
    (htop : (P.main.scope.names.lookup ("super" : Str)).isSome = false) (hsup : mg "super" = none) (hb : Binds K fd ps [])
    (F2 : FO P w K mg base k f2 ps2 (spI K n2 mi))
    (hargs : ∀ (NF : NdefX.NF) (A : Around) (outer : List Env) (s : Shared) (H : Hp) (E : XK), NF.scope = scope → NF.qual = qual → Room k (NdefX.ncx (L2.CX P w) P w K mg base N NF f A outer s H E).A → Takes (NdefX.ncx (L2.CX P w) P w K mg base N NF f A outer s H E) (fun cls d _ H' => E cls d H') →
      PDA (NdefX.ncx (L2.CX P w) P w K mg base N NF f A outer s H E) (fun cls d _ H' => E cls d H') (e :: es) fes)
    (hrest : ∀ (NF : NdefX.NF) (A : Around) (outer : List Env) (s : Shared) (H : Hp) (E : XK), NF.scope = scope → NF.qual = qual → Room k (NdefX.ncx (L2.CX P w) P w K mg base N NF f A outer s H E).A → Takes (NdefX.ncx (L2.CX P w) P w K mg base N NF f A outer s H E) (fun cls d _ H' => E cls d H') →
      PSSD (NdefX.ncx (L2.CX P w) P w K mg base N NF f A outer s H E) (fun cls d _ H' => E cls d H') rest F)
    (hint : ∀ env : Env, env.scope = scope → interactive env = false := by intro env h; unfold interactive; rw [h]; rfl)
    (hs : ∀ env, swapsWith (.Call (.Attribute (.Call (.Name "super" p0) [] [] p1) "__init__" p2) (e :: es) [] p3) none p4.line env = pure false := by intro _; rfl)
    (he : ∀ env, starEach (e :: es) env = (false, eval e env) :: starEach es env := by intro _; rfl) (hpl : ∀ env, (backTo p3 (starEach es env)).any (·.1) = false := by intro _; rfl)
    (hev : ∀ env, ∃ pl : Sem Bool, eval (.Call (.Attribute (.Call (.Name "super" p0) [] [] p1) "__init__" p2) (e :: es) [] p3) env = (do
      let ov ← attributeBase (.Call (.Name "super" p0) [] [] p1) "__init__" env (eval (.Call (.Name "super" p0) [] [] p1) env)
      standAt p2.atName
      let (f, first) ← holding [ov] (getMethod ov "__init__" pl)
      callWith p3 f first (backTo p3 (starEach (e :: es) env)) []) := by intro _; exact ⟨_, rfl⟩) :
    FO P w K mg base (k + 1) f ps (spI K n (imS cn N.length n fes mi n2 F)) := by
  obtain ⟨fd2, F2, hb2⟩ := F2
  exact ⟨fd, fn_initS D S hn hps hp har hks htop hsup F2 hb2 (fun NF A outer s H E h1 h2 hr => hargs NF A outer s H E h1 h2 hr (takes_of rfl rfl rfl rfl)) (fun NF A outer s H E h1 h2 hr => hrest NF A outer s H E h1 h2 hr (takes_of rfl rfl rfl rfl)) hint hs he hpl hev, hb⟩
end
/-! ### a property of several classes -/
def xProps (cs : List Str) (m : Mir) (fa : Ev → R DV) : Ev → R DV := fun δ => (fa δ).bind fun d => match d with
  | .obj c fs => if cs.contains c then noX (m [.obj c fs]) else .bad
  | _ => .bad
theorem k_props {X : Cx} {W : WX} {a : Expr} {fa : Ev → R DV} {pos : Pos} {k j : Nat} {ps : List Str} {m : Mir} {cs : List Str} {bn f : Str} (hp : ppsB cs f bn X.K = true) (F : FO X.prog X.w X.K X.mg X.base k ((Wh.prop bn f).adr X.K) ps (spD X.K m)) (hr : Room j X.A) (hj : k + 1 ≤ j)
    (A : PD X W a fa) (hab : attributeBase a f X.env (eval a X.env) = eval a X.env := by rfl) : PD X W (.Attribute a f pos) (xProps cs m fa) := by
  obtain ⟨fd, F, hb⟩ := F
  obtain ⟨ta, pa, ha⟩ := A.ex
  refine ⟨fun σ H Q => ta σ H fun x H1 => ∃ c, cs.contains c = true ∧ ∃ a dx fs, x = .ref a ∧ H1 a = some (.ins (He.ga X.K c) dx fs) ∧ spD X.K m [.ref a] H1 Q E0, ⟨fun pins s σ H Q I h => ?_⟩, fun {B0 G H δ σ Q} S h => ?_⟩
  · have h' : ta σ H fun x H1 => ∃ c, cs.contains c = true ∧ ∃ a dx fs, x = .ref a ∧ H1 a = some (.ins (He.ga X.K c) dx fs) ∧ spD X.K m [.ref a] H1 Q E0 := h
    refine attr_of hab (thn (pa.run pins s σ H _ I h') fun u s1 ⟨v, H1, I1, r1, c, hc, a1, dx, fs, ev, ea, q⟩ => ?_)
    subst ev
    obtain rfl : u = Value.ref a1 := r1
    obtain ⟨k1, k2⟩ := He.ba (List.all_eq_true.mp hp c (by simpa using hc))
    obtain ⟨k2, k3⟩ := He.ba k2
    have po := propB_ok k2
    rw [of_decide_eq_true k3] at po
    exact getprop_ok (dvs := []) (ds := []) (E := E0) I1 ea (kcB_ok k1).cl po F (hr.mono hj) hb .nil passL q
  · refine ha S (Rq.bind (rep := DRep X.K) h fun d e v H1 G1 t1 r1 h1 => ?_)
    cases r1 with
    | obj e1 r =>
      rename_i a1 dx c vs fs
      have h2 : Rq X.K (DRep X.K) (fun c d H' => W c d σ H') G1 H1 (if cs.contains c = true then noX (m [.obj c fs]) else .bad) Q := h1
      by_cases q : cs.contains c = true
      · rw [if_pos q] at h2
        exact ⟨c, q, _, _, _, rfl, t1.gh _ _ e1, G1, [.obj c fs], t1.gh, .cons (.obj e1 r) .nil, Rq.noX h2⟩
      · rw [if_neg q] at h2; exact h2.elim
    | _ => exact h1.elim
end LD
namespace LD
def sFz (i : Nat) (F : Ev → SR) : Ev → SR := fun δ => F (frz δ i)
def xIt (as_ : List DV → R (List DV)) (fes : Ev → R (List DV)) : Ev → R (List DV) := fun δ => (fes δ).bind as_
def sBk : Ev → SR := fun δ => .bk δ
def sCt : Ev → SR := fun δ => .ct δ
end LD
namespace LD
open PySem PySem.Spec PyProof.Rows L2
variable [Tbs]
theorem FO.mono {P : Program} {w : World} {K : PySem.W.Frag} {mg : Str → Option Value} {base : Heap} {k j : Nat} {f : Addr} {ps : List Str} {sp : Sp} (F : FO P w K mg base k f ps sp) (h : k ≤ j) : FO P w K mg base j f ps sp :=
  let ⟨fd, a, b⟩ := F
  ⟨fd, a.mono h, b⟩
end LD

set_option maxHeartbeats 2000000
/-! Layer D, part L: a law's end. -/
namespace LD
open PySem PySem.Spec PyProof.Rows L2
variable [Tbs]
section
variable {P : Program} {w : World} {K : PySem.W.Frag} {mg : Str → Option Value} {base : Heap}
/-- the law's own def: the function object first, the promise over every base -/
def FL (P : Program) (w : World) (K : PySem.W.Frag) (mg : Str → Option Value) (k : Nat) (f : Addr) (x : Str) (m : Mir) : Prop :=
  ∃ fd : FuncData, (∀ (s : Shared) (v : Value), BindsTo s fd ⟨[v], []⟩ [(x, v)]) ∧ ∀ base : Heap, FnOk P w K mg base (L2.CX P w) k f fd [x] (spD K m)
theorem fn_kl {x y qual : Str} {params : Arguments} {body : List Stmt} {scope : Scope} {f : Addr} {fd : FuncData} {N : List Str} {k : Nat} {F : Ev → SR}
    (D : FunD K x qual params body scope [] [] f fd) (S : FnScope N [y] scope) (hle : [y].length ≤ N.length) (hb : ∀ (kV doc pm : Value) (an : Option Addr) (cdv ct : Value) (us : List Value), us.length = [y].length → bindArgs (PySem.W.fnOf x qual params body scope .none kV doc pm an cdv ct) ⟨us, []⟩ = pure ([y].zip us))
    (hbody : ∀ (base : Heap) (cdv : Value) (A : Around) (outer : List Env) (s : Shared) (H : Hp) (E : XK), Room k (cxOf (L2.CX P w) P w K mg base N qual scope f cdv A outer s H E).A → Takes (cxOf (L2.CX P w) P w K mg base N qual scope f cdv A outer s H E) (fun cls d _ H' => E cls d H') →
      Own (cxOf (L2.CX P w) P w K mg base N qual scope f cdv A outer s H E) → PSSD (cxOf (L2.CX P w) P w K mg base N qual scope f cdv A outer s H E) (fun cls d _ H' => E cls d H') body F) : FL P w K mg (k + 1) f y (mir N.length 1 F) :=
  ⟨fd, fun s v => FunD.bindsA (ps := [y]) D hb s [v] rfl, fun base => fn_d D S hle fun cdv A outer s H E hr => hbody base cdv A outer s H E hr (takes_of rfl rfl rfl rfl) (passes_of rfl)⟩
theorem to0 {k : Nat} {f : Addr} {fd : FuncData} {ps : List Str} {sp : Sp} (F : FnOk P w K mg base (L2.CX P w) k f fd ps sp) : FnOk P w K mg base CX0 k f fd ps (fun vs H Q _ => sp vs H Q fun _ _ _ => False) := by
  refine ⟨fun vs H Q E h => F.len _ _ _ _ h, fun A outer s H args us vs Q E hr e0 hb r h => ?_⟩
  refine codeAny_mono (F.run A outer s H args us vs Q (fun _ _ _ => False) hr e0 hb r h) fun r s' hq => ?_
  cases r with
  | error e =>
    obtain ⟨_, _, _, _, _, _, _, _, _, _, _, _, z⟩ := hq
    exact z.elim
  | ok fl => cases fl <;> exact hq
theorem sq_strip {K : PySem.W.Frag} {H : Hp} {a : Addr} {xs : List V} (h : SqL K H a xs) : SqL K (strip H) a xs := by
  rcases h with (e | ⟨o, e⟩) | h
  · exact .inl (.inl (strip_yes e (by intro _ z; cases z)))
  · exact .inl (.inr ⟨o, strip_yes e (by intro _ z; cases z)⟩)
  · exact .inr h
theorem sp_law {m : Mir} {n : Nat} (hm : ∀ ns : List Int, ns.length ≤ n → m [.ro (ns.map DV.int)] = .ok (.bl true)) {H : Hp} {a : Addr} {ns : List Int} (hl : ns.length ≤ n) (hS : SqL K H a (ns.map V.int)) (hT : LamX.Tabs Tbs.T H) :
    spD K m [.ref a] H (fun v _ => v = .bl true) fun _ _ _ => False := by
  refine ⟨strip H, [.ro (ns.map DV.int)], ⟨fun b o e => strip_of e, fun b ps e => ?_, hT⟩, .cons (.ro (sq_strip hS) (DReps.ints ns)) .nil, ?_⟩
  · unfold strip; rw [e]
  · rw [hm ns hl]
    intro v H' G' t r
    cases r
    rfl
end
end LD

set_option maxHeartbeats 2000000
/-! Layer D, part S: the readings' equations, for simp. -/
namespace LD
open PySem PySem.Spec PyProof.Rows L2
section
variable {op : DV → DV → R DV} {o1 : DV → R DV} {a b c : Ev → R DV} {ga gb : Ev → R Bool} {es : Ev → R (List DV)} {δ : Ev} {m : Mir} {d : DV} {F F' : Ev → SR} {α : Type}
@[simp] theorem e_xC : xC d δ = .ok d := rfl
@[simp] theorem e_xOp : xOp op a b δ = (a δ).bind fun x => (b δ).bind fun y => op x y := rfl
@[simp] theorem e_xUn : xUn o1 a δ = (a δ).bind o1 := rfl
@[simp] theorem e_xTest : xTest a δ = (a δ).bind asB := rfl
@[simp] theorem e_xIf : xIf ga a b δ = (ga δ).bind fun z => if z = true then a δ else b δ := rfl
@[simp] theorem e_xAnd : xAnd ga gb δ = (ga δ).bind fun z => if z = true then gb δ else .ok false := rfl
@[simp] theorem e_xOr : xOr ga gb δ = (ga δ).bind fun z => if z = true then .ok true else gb δ := rfl
@[simp] theorem e_xNot : xNot ga δ = (ga δ).bind fun z => .ok (!z) := rfl
@[simp] theorem e_xAndV : xAndV a b δ = (a δ).bind fun x => (asB x).bind fun z => if z = true then b δ else .ok (.bl false) := rfl
@[simp] theorem e_xOrV : xOrV a b δ = (a δ).bind fun x => (asB x).bind fun z => if z = true then .ok (.bl true) else b δ := rfl
@[simp] theorem e_xNotV : xNotV a δ = (a δ).bind fun x => (asB x).bind fun z => .ok (.bl (!z)) := rfl
@[simp] theorem e_xNil : xNil δ = .ok [] := rfl
@[simp] theorem e_xCons : xCons a es δ = (a δ).bind fun x => (es δ).bind fun xs => .ok (x :: xs) := rfl
@[simp] theorem e_xTup : xTup es δ = (es δ).bind fun xs => if small xs.length = true then .ok (.tup xs) else .bad := rfl
@[simp] theorem e_xLst : xLst es δ = (es δ).bind fun xs => if small xs.length = true then .ok (.lst xs) else .bad := rfl
@[simp] theorem e_xCall : xCall m es δ = (es δ).bind m := rfl
@[simp] theorem e_xCB {op : List DV → R DV} : xCB op es δ = (es δ).bind op := rfl
@[simp] theorem e_xIsi {tab} : xIsi tab a δ = (a δ).bind (oIsi tab) := rfl
@[simp] theorem e_xChain {o o' : DV → DV → R DV} : xChain o o' a b c δ = (a δ).bind fun x => (b δ).bind fun y => (o x y).bind fun z => (asB z).bind fun k => if k = true then (c δ).bind fun w => o' y w else .ok (.bl false) := rfl
@[simp] theorem e_xSrc {as_ : DV → R (List DV)} : xSrc as_ a δ = (a δ).bind as_ := rfl
@[simp] theorem e_xIt {as_ : List DV → R (List DV)} : xIt as_ es δ = (es δ).bind as_ := rfl
@[simp] theorem e_xPart : xPart a δ = (a δ).bind asI := rfl
@[simp] theorem e_xNo : xNo δ = .ok none := rfl
@[simp] theorem e_xSl {l u : Ev → R (Option Int)} : xSl a l u δ = (a δ).bind fun x => (l δ).bind fun l => (u δ).bind fun u => oSl x l u := rfl
@[simp] theorem e_xYes : xYes δ = .ok true := rfl
@[simp] theorem e_asB {b : Bool} : asB (.bl b) = .ok b := rfl
@[simp] theorem e_asI {i : Int} : asI (.int i) = .ok (some i) := rfl
@[simp] theorem e_v0 {s : Sl} {r : Ev} {d : DV} : xVar 0 (.pu d :: r) = .ok d := rfl
@[simp] theorem e_vs {i : Nat} {s : Sl} {r : Ev} : xVar (i + 1) (s :: r) = xVar i r := rfl
@[simp] theorem e_v1 {s0 : Sl} {r : Ev} : xVar 1 (s0 :: r) = xVar 0 r := rfl
@[simp] theorem e_v2 {s0 s1 : Sl} {r : Ev} : xVar 2 (s0 :: s1 :: r) = xVar 0 r := rfl
@[simp] theorem e_v3 {s0 s1 s2 : Sl} {r : Ev} : xVar 3 (s0 :: s1 :: s2 :: r) = xVar 0 r := rfl
@[simp] theorem e_v4 {s0 s1 s2 s3 : Sl} {r : Ev} : xVar 4 (s0 :: s1 :: s2 :: s3 :: r) = xVar 0 r := rfl
@[simp] theorem e_v5 {s0 s1 s2 s3 s4 : Sl} {r : Ev} : xVar 5 (s0 :: s1 :: s2 :: s3 :: s4 :: r) = xVar 0 r := rfl
@[simp] theorem e_v6 {s0 s1 s2 s3 s4 s5 : Sl} {r : Ev} : xVar 6 (s0 :: s1 :: s2 :: s3 :: s4 :: s5 :: r) = xVar 0 r := rfl
@[simp] theorem e_v7 {s0 s1 s2 s3 s4 s5 s6 : Sl} {r : Ev} : xVar 7 (s0 :: s1 :: s2 :: s3 :: s4 :: s5 :: s6 :: r) = xVar 0 r := rfl
@[simp] theorem e_v8 {s0 s1 s2 s3 s4 s5 s6 s7 : Sl} {r : Ev} : xVar 8 (s0 :: s1 :: s2 :: s3 :: s4 :: s5 :: s6 :: s7 :: r) = xVar 0 r := rfl
@[simp] theorem e_v9 {s0 s1 s2 s3 s4 s5 s6 s7 s8 : Sl} {r : Ev} : xVar 9 (s0 :: s1 :: s2 :: s3 :: s4 :: s5 :: s6 :: s7 :: s8 :: r) = xVar 0 r := rfl
@[simp] theorem e_gN {i : Nat} : gN i d δ = .ok (δ.set i (.pu d)) := rfl
@[simp] theorem e_gsNil : gsNil [] δ = .ok δ := rfl
@[simp] theorem e_gsCons {g : DV → Ev → R Ev} {gs : List DV → Ev → R Ev} {ds : List DV} : gsCons g gs (d :: ds) δ = (g d δ).bind (gs ds) := rfl
@[simp] theorem e_gT {n : Nat} {gs : List DV → Ev → R Ev} {ds : List DV} : gT n gs (.tup ds) δ = if Nat.beq ds.length n then gs ds δ else .bad := rfl
@[simp] theorem e_xS_ok {x : α} {k : α → SR} : xS (.ok x) δ k = k x := rfl
@[simp] theorem e_xS_exc {cl fs} {k : α → SR} : xS (.exc cl fs) δ k = .ex cl fs δ := rfl
@[simp] theorem e_xS_bad {k : α → SR} : xS (.bad : R α) δ k = .bad := rfl
@[simp] theorem e_sNx : sNx δ = .nx δ := rfl
@[simp] theorem e_sRet : sRet a δ = xS (a δ) δ .rt := rfl
@[simp] theorem e_sSet {i : Nat} : sSet i a δ = xS (a δ) δ fun d => .nx (δ.set i (.pu d)) := rfl
@[simp] theorem e_sPar {i j : Nat} : sPar i j a b δ = xS (a δ) δ fun d => xS (b δ) δ fun d' => .nx ((δ.set i (.pu d)).set j (.pu d')) := rfl
@[simp] theorem e_sIf : sIf ga F F' δ = xS (ga δ) δ fun z => if z = true then F δ else F' δ := rfl
@[simp] theorem e_sDrop : sDrop a δ = xS (a δ) δ fun _ => .nx δ := rfl
/-- one statement after another -/
def SR.andThen (r : SR) (F : Ev → SR) : SR := match r with
  | .nx δ => F δ
  | r => r
@[simp] theorem e_sSeq : sSeq F F' δ = (F δ).andThen F' := rfl
@[simp] theorem e_nx {δ : Ev} : (SR.nx δ).andThen F = F δ := rfl
@[simp] theorem e_rt : (SR.rt d).andThen F = .rt d := rfl
@[simp] theorem e_ex {cl fs} : (SR.ex cl fs δ).andThen F = .ex cl fs δ := rfl
@[simp] theorem e_bk {δ : Ev} : (SR.bk δ).andThen F = .bk δ := rfl
@[simp] theorem e_ct {δ : Ev} : (SR.ct δ).andThen F = .ct δ := rfl
@[simp] theorem e_bd : SR.bad.andThen F = .bad := rfl
@[simp] theorem e_sAsg {g : DV → Ev → R Ev} : sAsg a g δ = xS (a δ) δ fun d => match g d δ with
  | .ok δ' => .nx δ'
  | _ => .bad := rfl
@[simp] theorem e_sRaise {cl : Str} {f : Ev → R (List (Str × DV))} : sRaise cl f δ = match f δ with
  | .ok fs => .ex cl fs δ
  | _ => .bad := rfl
@[simp] theorem e_sFor {fi : Ev → R (List DV)} {g : DV → Ev → R Ev} : sFor fi g F δ = xS (fi δ) δ fun ds => forD g F ds δ := rfl
@[simp] theorem e_sSetLc {i : Nat} {f : Ev → R (List DV)} : sSetLc i f δ = xS (f δ) δ fun ys => .nx (δ.set i (.pu (.lst ys))) := rfl
@[simp] theorem e_sSetLcO {i : Nat} {f : Ev → R (List DV)} : sSetLcO i f δ = xS (f δ) δ fun ys => .nx (δ.set i (.ol ys)) := rfl
@[simp] theorem e_sFz {i : Nat} : sFz i F δ = F (frz δ i) := rfl
@[simp] theorem e_lc {vs fi g ft fe} : xLc vs fi g ft fe δ = (xLcs vs fi g ft fe δ).bind fun ys => .ok (.lst ys) := rfl
@[simp] theorem e_lcs {vs fi g ft fe} : xLcs vs fi g ft fe δ = (fi δ).bind fun ds => (lcD g ft fe (wipeD δ vs) ds).bind fun ys => if small ys.length = true then .ok ys else .bad := rfl
@[simp] theorem e_wn : wipeD δ [] = δ := rfl
@[simp] theorem e_wc {i : Nat} {vs : List Nat} : wipeD δ (i :: vs) = (wipeD δ vs).set i .un := rfl
@[simp] theorem e_asN {i : Int} : asRange1 [.int i] = if rng62 i then .ok (intsFrom 0 i.toNat) else .bad := rfl
end
/-- a def's end -/
def outR : SR → R DV
  | .nx _ => .ok .non
  | .rt d => .ok d
  | .ex c fs _ => .exc c fs
  | _ => .bad
@[simp] theorem outR_nx {δ : Ev} : outR (.nx δ) = .ok .non := rfl
@[simp] theorem outR_rt {d : DV} : outR (.rt d) = .ok d := rfl
@[simp] theorem outR_ex {c fs} {δ : Ev} : outR (.ex c fs δ) = .exc c fs := rfl
@[simp] theorem e_sFld {cs : List Str} {f : Str} {a : Ev → R DV} {c : Str} {fs : List (Str × DV)} {r : Ev} : sFldD cs 0 f a (.oo c fs :: r) = xS (a (.oo c fs :: r)) (.oo c fs :: r) fun d => if (cs.contains c && Nat.blt fs.length 1000) = true then .nx (.oo c (putD f d fs) :: r) else .bad := rfl
/-- an __init__'s end -/
def outI (c : Str) : SR → R (List (Str × DV))
  | .nx δ => (match (δ[0]? : Option Sl) with
    | some (Sl.oo c' fs') => if c' = c then .ok fs' else .bad
    | _ => .bad)
  | .ex c fs _ => .exc c fs
  | _ => .bad
@[simp] theorem outI_nx {c : Str} {fs : List (Str × DV)} {r : Ev} : outI c (.nx (.oo c fs :: r)) = .ok fs := by
  show (if c = c then R.ok fs else .bad) = _
  rw [if_pos rfl]
@[simp] theorem outI_ex {c cl : Str} {fs : List (Str × DV)} {r : Ev} : outI c (.ex cl fs r) = .exc cl fs := rfl
theorem imi_ev {n p : Nat} {F : Ev → SR} {c : Str} {fs : List (Str × DV)} {ds : List DV} : imi n p F c fs ds = if Nat.beq ds.length p then outI c (F (Sl.oo c fs :: (ds.map Sl.pu ++ List.replicate (n - (p + 1)) Sl.un))) else .bad := rfl
theorem imS_ev {cn : Str} {n p n2 : Nat} {fes : Ev → R (List DV)} {mi : Imi} {F : Ev → SR} {fs : List (Str × DV)} {ds : List DV} (h : Nat.beq ds.length p = true) :
    imS cn n p fes mi n2 F cn fs ds = (fes (Sl.oo cn fs :: (ds.map Sl.pu ++ List.replicate (n - (p + 1)) Sl.un))).bind fun ds2 => if Nat.beq ds2.length n2 = true then (mi cn fs ds2).bind fun fs2 => outI cn (F (Sl.oo cn fs2 :: (ds.map Sl.pu ++ List.replicate (n - (p + 1)) Sl.un))) else .bad := by
  unfold imS
  rw [if_pos (by rw [h, beq_self_eq_true]; rfl)]
  rfl
@[simp] theorem e_xMake {c : Str} {n : Nat} {mi : Imi} {es : Ev → R (List DV)} {δ : Ev} : xMake c n mi es δ = (es δ).bind fun ds => if Nat.beq ds.length n then (mi c [] ds).bind fun fs => .ok (.obj c fs) else .bad := rfl
@[simp] theorem e_sTry {tab : List (Str × Bool)} {F F2 : Ev → SR} {δ : Ev} : sTry tab F F2 δ = match F δ with
  | .ex c fs δ' => (match tab.lookup c with
    | some true => noXS (F2 δ')
    | some false => .ex c fs δ'
    | none => .bad)
  | r => r := rfl
@[simp] theorem e_xIxO1 {a : Ev → R DV} {s0 : Sl} {ds : List DV} {r : Ev} : xIxO 1 a (s0 :: .ol ds :: r) = (a (s0 :: .ol ds :: r)).bind fun k => oIx (.lst ds) k := rfl
@[simp] theorem e_sApp1 {a : Ev → R DV} {s0 : Sl} {ds : List DV} {r : Ev} : sApp 1 a (s0 :: .ol ds :: r) = xS (a (s0 :: .ol ds :: r)) (s0 :: .ol ds :: r) fun d => if Nat.blt ds.length 16777216 = true then .nx (s0 :: .ol (ds ++ [d]) :: r) else .bad := rfl
@[simp] theorem e_frz1 {s0 : Sl} {ds : List DV} {r : Ev} : frz (s0 :: .ol ds :: r) 1 = s0 :: .pu (.lst ds) :: r := rfl
/-! ### comprehensions, as maps -/
/-- every turn gives a value of which P holds -/
theorem lcD_ex {g : DV → Ev → R Ev} {fe : Ev → R DV} {δ : Ev} {P : DV → DV → Prop} : ∀ {ds : List DV}, (∀ d ∈ ds, ∃ δ' y, g d δ = .ok δ' ∧ fe δ' = .ok y ∧ P d y) → ∃ ys, lcD g xYes fe δ ds = .ok ys ∧ ys.length = ds.length ∧ ∀ y ∈ ys, ∃ d ∈ ds, P d y
  | [], _ => ⟨[], rfl, rfl, fun y h => by cases h⟩
  | d :: ds, q => by
    obtain ⟨δ', y, h1, h2, h3⟩ := q d List.mem_cons_self
    obtain ⟨ys, e, l, p⟩ := lcD_ex (ds := ds) fun d hd => q d (List.mem_cons_of_mem _ hd)
    refine ⟨y :: ys, ?_, by rw [List.length_cons, List.length_cons, l], fun z hz => ?_⟩
    · unfold lcD
      rw [h1]
      dsimp only
      show (noX (R.ok true)).bind _ = _
      simp only [noX, R.bind_ok, if_true]
      rw [h2]
      simp only [noX, R.bind_ok]
      rw [e]
      rfl
    · rcases List.mem_cons.mp hz with rfl | hz
      · exact ⟨d, List.mem_cons_self, h3⟩
      · obtain ⟨d', h, hp⟩ := p z hz
        exact ⟨d', List.mem_cons_of_mem _ h, hp⟩
theorem ints_mem {lo : Int} {n : Nat} {d : DV} (h : d ∈ intsFrom lo n) : ∃ t : Int, d = .int t ∧ lo ≤ t ∧ t < lo + n := by
  obtain ⟨i, hi, rfl⟩ := List.mem_map.mp h
  have := List.mem_range.mp hi
  exact ⟨lo + i, rfl, by omega, by omega⟩
theorem of_all {α : Type} {P : α → Prop} {f : α → DV} : ∀ {ys : List DV}, (∀ y ∈ ys, ∃ p, P p ∧ y = f p) → ∃ ps : List α, ys = ps.map f ∧ ∀ p ∈ ps, P p
  | [], _ => ⟨[], rfl, fun p h => by cases h⟩
  | y :: ys, h => by
    obtain ⟨p, hp, rfl⟩ := h y List.mem_cons_self
    obtain ⟨ps, rfl, hps⟩ := of_all (ys := ys) fun z hz => h z (List.mem_cons_of_mem _ hz)
    exact ⟨p :: ps, rfl, fun q hq => by
      rcases List.mem_cons.mp hq with rfl | hq
      · exact hp
      · exact hps q hq⟩
theorem zip_map {α : Type} (f g : α → DV) : ∀ ps : List α, zipD (ps.map f) (ps.map g) = ps.map fun p => .tup [f p, g p]
  | [] => rfl
  | p :: ps => by show _ :: zipD (ps.map f) (ps.map g) = _; rw [zip_map f g ps]; rfl
/-- every turn gives its value -/
theorem lcD_map {g : DV → Ev → R Ev} {ft : Ev → R Bool} {fe : Ev → R DV} {δ : Ev} {h : DV → DV} : ∀ {ds : List DV}, (∀ d ∈ ds, ∃ δ', g d δ = .ok δ' ∧ ft δ' = .ok true ∧ fe δ' = .ok (h d)) → lcD g ft fe δ ds = .ok (ds.map h)
  | [], _ => rfl
  | d :: ds, q => by
    obtain ⟨δ', h1, h2, h3⟩ := q d List.mem_cons_self
    unfold lcD
    rw [h1]
    dsimp only
    rw [h2]
    simp only [noX, R.bind_ok, if_true]
    rw [h3]
    simp only [noX, R.bind_ok]
    rw [lcD_map fun d hd => q d (List.mem_cons_of_mem _ hd)]
    rfl
theorem lcD_yes {g : DV → Ev → R Ev} {fe : Ev → R DV} {δ : Ev} {h : DV → DV} {ds : List DV} (q : ∀ d ∈ ds, ∃ δ', g d δ = .ok δ' ∧ fe δ' = .ok (h d)) : lcD g xYes fe δ ds = .ok (ds.map h) :=
  lcD_map fun d hd => let ⟨δ', h1, h2⟩ := q d hd; ⟨δ', h1, rfl, h2⟩
@[simp] theorem small_ok {n : Nat} (h : n ≤ 16777216) : small n = true := Nat.ble_eq_true_of_le h
/-- a loop whose turns leave a state of one kind -/
theorem forD_inv {g : DV → Ev → R Ev} {F : Ev → SR} (I : List DV → Ev → Prop) (hs : ∀ d ds δ, I (d :: ds) δ → ∃ δ1 δ2, g d δ = .ok δ1 ∧ F δ1 = .nx δ2 ∧ I ds δ2) : ∀ (ds : List DV) (δ : Ev), I ds δ → ∃ δ', forD g F ds δ = .nx δ' ∧ I [] δ'
  | [], δ, i => ⟨δ, rfl, i⟩
  | d :: ds, δ, i => by
    obtain ⟨δ1, δ2, h1, h2, h3⟩ := hs d ds δ i
    obtain ⟨δ', h4, h5⟩ := forD_inv I hs ds δ2 h3
    refine ⟨δ', ?_, h5⟩
    unfold forD
    rw [h1]
    dsimp only
    rw [h2]
    exact h4
end LD

set_option maxHeartbeats 2000000
/-! Layer D, part T: small laws of the data. -/
namespace LD
open PySem PySem.Spec PyProof.Rows L2
@[simp] theorem asInts_map (ns : List Int) : asInts (ns.map DV.int) = some ns := by
  induction ns with
  | nil => rfl
  | cons n ns ih => show (asInts (ns.map DV.int)).map (n :: ·) = _; rw [ih]; rfl
@[simp] theorem asBls_map (ns : List Bool) : asBls (ns.map DV.bl) = some ns := by
  induction ns with
  | nil => rfl
  | cons n ns ih => show (asBls (ns.map DV.bl)).map (n :: ·) = _; rw [ih]; rfl
theorem toPys_ints (ns : List Int) : toPys (ns.map DV.int) = some (ns.map PyData.int) := by
  induction ns with
  | nil => rfl
  | cons n ns ih => show (match toPy (.int n), toPys (ns.map DV.int) with | some p, some ps => some (p :: ps) | _, _ => none) = _; rw [ih]; rfl
theorem canAll_ints (ns : List Int) : PyData.canLayAll0 (ns.map PyData.int) = true := by
  induction ns with
  | nil => rfl
  | cons n ns ih => show (PyData.canLay0 (.int n) && PyData.canLayAll0 (ns.map PyData.int)) = true; rw [ih]; rfl
theorem depth_ints (ns : List Int) : PyData.depthAll (ns.map PyData.int) ≤ 1 := by
  induction ns with
  | nil => simp [PyData.depthAll]
  | cons n ns ih => simp [PyData.depthAll, PyData.depth]; exact ih
theorem shaped_ints (ns : List Int) : SeqAt.shaped (.list (ns.map PyData.int)) = true := by
  unfold SeqAt.shaped
  rw [Bool.and_eq_true]
  refine ⟨by show PyData.canLayAll0 _ = true; exact canAll_ints ns, decide_eq_true ?_⟩
  show PyData.depthAll _ + 1 ≤ 64
  have := depth_ints ns
  omega
/-- the script against [] -/
theorem ne_nil (ns : List Int) : oNe (.ro (ns.map DV.int)) (.lst []) = .ok (.bl (!ns.isEmpty)) := by
  have e1 : toPy (.ro (ns.map DV.int)) = some (.list (ns.map PyData.int)) := by
    show (toPys _).map _ = _
    rw [toPys_ints]; rfl
  have e2 : toPy (.lst []) = some (.list []) := rfl
  unfold oNe oEqW
  rw [e1, e2]
  dsimp only
  rw [shaped_ints, show SeqAt.shaped (.list []) = true from rfl]
  cases ns <;> rfl
theorem cut_map {α β : Type} (f : α → β) (xs : List α) (lo hi : Option Int) : cutD (xs.map f) lo hi = (cutD xs lo hi).map f := by
  unfold cutD
  rw [List.length_map, ← List.map_drop, ← List.map_take]
theorem ixN_lt {n : Nat} {i : Int} (h0 : 0 ≤ i) (h : i < n) : ixN n i = some i.toNat := by
  unfold ixN
  rw [if_pos h0, if_pos h]
/-- xs[i % len(xs)] -/
theorem atI_mod {α : Type} [Inhabited α] (xs : List α) (h : xs ≠ []) (i : Int) : ∃ x ∈ xs, atI xs (i % (xs.length : Int)) = some x := by
  have hl : 0 < xs.length := List.length_pos_iff.mpr h
  have h1 := Int.emod_nonneg i (show (xs.length : Int) ≠ 0 by omega)
  have h2 := Int.emod_lt_of_pos i (show (0 : Int) < xs.length by omega)
  have h3 : (i % (xs.length : Int)).toNat < xs.length := by omega
  refine ⟨xs[(i % (xs.length : Int)).toNat], List.getElem_mem h3, ?_⟩
  unfold atI
  rw [ixN_lt h1 h2]
  exact List.getElem?_eq_getElem h3
theorem atI_at {α : Type} (xs : List α) {i : Int} (h0 : 0 ≤ i) (h : i < xs.length) : ∃ x ∈ xs, atI xs i = some x := by
  have h3 : i.toNat < xs.length := by omega
  refine ⟨xs[i.toNat], List.getElem_mem h3, ?_⟩
  unfold atI
  rw [ixN_lt h0 h]
  exact List.getElem?_eq_getElem h3
theorem inM_of {i : Int} (h1 : -(2 ^ 64) < i) (h2 : i < 2 ^ 64) : inM i = true := by
  unfold inM
  rw [decide_eq_true h1, decide_eq_true h2]; rfl
@[simp] theorem o_sub {i j : Int} : oSub (.int i) (.int j) = .ok (.int (i - j)) := rfl
@[simp] theorem o_add {i j : Int} : oAdd (.int i) (.int j) = .ok (.int (i + j)) := rfl
theorem o_mul1 {i j : Int} (h : inM i = true) : oMul (.int i) (.int j) = .ok (.int (i * j)) := by
  show (if (inM i || inM j) = true then _ else _) = _
  rw [h]; rfl
theorem o_mul2 {i j : Int} (h : inM j = true) : oMul (.int i) (.int j) = .ok (.int (i * j)) := by
  show (if (inM i || inM j) = true then _ else _) = _
  rw [h, Bool.or_true]; rfl
theorem o_div {i j : Int} (h1 : 0 < j) (h2 : j < 1073741824) : oDiv (.int i) (.int j) = .ok (.int (i / j)) := by
  show (if (decide (0 < j) && decide (j < 1073741824)) = true then _ else _) = _
  rw [decide_eq_true h1, decide_eq_true h2]; rfl
theorem o_mod {i j : Int} (h1 : 0 < j) : oMod (.int i) (.int j) = .ok (.int (i % j)) := by
  show (if decide (0 < j) = true then _ else _) = _
  rw [decide_eq_true h1]; rfl
@[simp] theorem o_lt {i j : Int} : oLt (.int i) (.int j) = .ok (.bl (decide (i < j))) := rfl
@[simp] theorem o_le {i j : Int} : oLe (.int i) (.int j) = .ok (.bl (decide (i ≤ j))) := rfl
@[simp] theorem o_gt {i j : Int} : oGt (.int i) (.int j) = .ok (.bl (decide (j < i))) := rfl
@[simp] theorem o_ge {i j : Int} : oGe (.int i) (.int j) = .ok (.bl (decide (j ≤ i))) := rfl
@[simp] theorem o_neg {i : Int} : oNeg (.int i) = .ok (.int (-i)) := rfl
@[simp] theorem o_int {i : Int} : oInt [.int i] = .ok (.int i) := rfl
@[simp] theorem o_lenl {xs : List DV} : oLen [.lst xs] = .ok (.int xs.length) := rfl
@[simp] theorem o_lent {xs : List DV} : oLen [.tup xs] = .ok (.int xs.length) := rfl
@[simp] theorem o_lenr {xs : List DV} : oLen [.ro xs] = .ok (.int xs.length) := rfl
@[simp] theorem o_sum {ns : List Int} : oSum [.lst (ns.map DV.int)] = .ok (.int ns.sum) := by
  show (R.ofO (asInts _)).bind _ = _
  rw [asInts_map]; rfl
@[simp] theorem o_all {ns : List Bool} : oAll [.lst (ns.map DV.bl)] = .ok (.bl (ns.all id)) := by
  show (R.ofO (asBls _)).bind _ = _
  rw [asBls_map]; rfl
@[simp] theorem o_eqi {i j : Int} : oEq (.int i) (.int j) = .ok (.bl (i == j)) := rfl
@[simp] theorem o_nei {i j : Int} : oNe (.int i) (.int j) = .ok (.bl (!(i == j))) := rfl
@[simp] theorem o_eqb {i j : Bool} : oEq (.bl i) (.bl j) = .ok (.bl (i == j)) := rfl
@[simp] theorem o_neb {i j : Bool} : oNe (.bl i) (.bl j) = .ok (.bl (!(i == j))) := rfl
@[simp] theorem o_ixt {xs : List DV} {i : Int} : oIx (.tup xs) (.int i) = R.ofO (atI xs i) := rfl
@[simp] theorem o_ixl {xs : List DV} {i : Int} : oIx (.lst xs) (.int i) = R.ofO (atI xs i) := rfl
@[simp] theorem o_ixr {xs : List DV} {i : Int} : oIx (.ro xs) (.int i) = R.ofO (atI xs i) := rfl
end LD

set_option maxHeartbeats 2000000
/-! Layer D, part M: dicts. -/
namespace LD
open PySem PySem.Spec PyProof.Rows L2
variable [Tbs]

/-! ### nothing told -/
def xBad : Ev → R DV := fun _ => .bad
def xBadT : Ev → R Bool := fun _ => .bad
def sBad : Ev → SR := fun _ => .bad
section
variable {X : Cx} {W : WX} {a b : Expr} {st : Stmt}
theorem d_bad : PD X W a xBad := ⟨fun _ _ _ => False, ⟨fun _ _ _ _ _ _ h => h.elim⟩, fun _ h => h⟩
theorem dt_bad : PDT X W a xBadT := ⟨fun _ _ _ => False, ⟨fun _ _ _ _ _ _ h => h.elim⟩, fun _ h => h⟩
theorem ds_bad : PSD X W st sBad := ⟨fun _ _ _ => False, ⟨fun _ _ _ _ _ _ h => h.elim⟩, fun _ h => h⟩
theorem PE.or {t u : TE} (A : PE X a t) (B : PE X a u) : PE X a (fun σ H Q => t σ H Q ∨ u σ H Q) :=
  ⟨fun pins s σ H Q I h => h.elim (fun z => A.run pins s σ H Q I z) fun z => B.run pins s σ H Q I z⟩
theorem CallR.or {f : Value} {r r' : List V → Hp → VK → Prop} (A : CallR X f r) (B : CallR X f r') : CallR X f (fun xs H Q => r xs H Q ∨ r' xs H Q) :=
  fun pins s σ H xs us Q I r h => h.elim (fun z => A pins s σ H xs us Q I r z) fun z => B pins s σ H xs us Q I r z
end

/-! ### pairs -/
section
variable {K : PySem.W.Frag} {G : Hp} {κ : Type}
inductive RP (K : PySem.W.Frag) (G : Hp) {κ : Type} : List (κ × V) → List (κ × DV) → Prop
  | nil : RP K G [] []
  | cons {k : κ} {v : V} {d : DV} {vs : List (κ × V)} {ds : List (κ × DV)} : DRep K G v d → RP K G vs ds → RP K G ((k, v) :: vs) ((k, d) :: ds)
theorem KReps.to : ∀ {vs : List (Key × V)} {ds : List (Key × DV)}, KReps K G vs ds → RP K G vs ds
  | _, _, .nil => .nil
  | _, _, .cons a b => .cons a (KReps.to b)
theorem RP.k : ∀ {vs : List (Key × V)} {ds : List (Key × DV)}, RP K G vs ds → KReps K G vs ds
  | _, _, .nil => .nil
  | _, _, .cons a b => .cons a (RP.k b)
theorem TReps.to : ∀ {vs : List (List Key × V)} {ds : List (List Key × DV)}, TReps K G vs ds → RP K G vs ds
  | _, _, .nil => .nil
  | _, _, .cons a b => .cons a (TReps.to b)
theorem RP.t : ∀ {vs : List (List Key × V)} {ds : List (List Key × DV)}, RP K G vs ds → TReps K G vs ds
  | _, _, .nil => .nil
  | _, _, .cons a b => .cons a (RP.t b)
theorem RP.length : ∀ {vs : List (κ × V)} {ds : List (κ × DV)}, RP K G vs ds → vs.length = ds.length
  | _, _, .nil => rfl
  | _, _, .cons _ b => by rw [List.length_cons, List.length_cons, b.length]
theorem RP.mono {G' : Hp} (s : Same G G') : ∀ {vs : List (κ × V)} {ds : List (κ × DV)}, RP K G vs ds → RP K G' vs ds
  | _, _, .nil => .nil
  | _, _, .cons a b => .cons (a.mono s) (b.mono s)
theorem RP.keys : ∀ {vs : List (κ × V)} {ds : List (κ × DV)}, RP K G vs ds → vs.map (·.1) = ds.map (·.1)
  | _, _, .nil => rfl
  | _, _, .cons _ b => by rw [List.map_cons, List.map_cons, b.keys]
theorem RP.append {v2 : List (κ × V)} {d2 : List (κ × DV)} : ∀ {vs : List (κ × V)} {ds : List (κ × DV)}, RP K G vs ds → RP K G v2 d2 → RP K G (vs ++ v2) (ds ++ d2)
  | _, _, .nil, h => h
  | _, _, .cons a b, h => .cons a (b.append h)
theorem RP.get : ∀ {vs : List (κ × V)} {ds : List (κ × DV)} {i : Nat} {k : κ} {v : V}, RP K G vs ds → vs[i]? = some (k, v) → ∃ d, ds[i]? = some (k, d) ∧ DRep K G v d
  | _, _, _, _, _, .nil, e => by simp at e
  | _, _, 0, _, _, .cons a b, e => by simp at e; obtain ⟨rfl, rfl⟩ := e; exact ⟨_, rfl, a⟩
  | _, _, i + 1, k, v, .cons a b, e => by simpa using RP.get (i := i) (k := k) (v := v) b (by simpa using e)
variable [DecidableEq κ]
def valD (kvs : List (κ × DV)) (k : κ) : Option DV := (kvs.find? fun kv => decide (kv.1 = k)).map (·.2)
def putKD (kvs : List (κ × DV)) (k : κ) (v : DV) : List (κ × DV) :=
  if (kvs.any fun kv => decide (kv.1 = k)) = true then kvs.map (fun kv => if kv.1 = k then (kv.1, v) else kv) else kvs ++ [(k, v)]
def mergeD (kvs more : List (κ × DV)) : List (κ × DV) := more.foldl (fun acc kv => putKD acc kv.1 kv.2) kvs
theorem RP.val {k : κ} : ∀ {vs : List (κ × V)} {ds : List (κ × DV)}, RP K G vs ds → (valV vs k = none ∧ valD ds k = none) ∨ ∃ v d, valV vs k = some v ∧ valD ds k = some d ∧ DRep K G v d
  | _, _, .nil => .inl ⟨rfl, rfl⟩
  | _, _, .cons (k := k') (v := v) (d := d) (vs := vs) (ds := ds) a b => by
    by_cases h : k' = k
    · exact .inr ⟨v, d, by simp [valV, List.find?_cons, h], by simp [valD, List.find?_cons, h], a⟩
    · have e1 : valV ((k', v) :: vs) k = valV vs k := by simp [valV, List.find?_cons, h]
      have e2 : valD ((k', d) :: ds) k = valD ds k := by simp [valD, List.find?_cons, h]
      rw [e1, e2]
      exact b.val
theorem RP.any {k : κ} : ∀ {vs : List (κ × V)} {ds : List (κ × DV)}, RP K G vs ds → (vs.any fun kv => decide (kv.1 = k)) = (ds.any fun kv => decide (kv.1 = k))
  | _, _, .nil => rfl
  | _, _, .cons _ b => by rw [List.any_cons, List.any_cons, b.any]
theorem RP.put {k : κ} {v : V} {d : DV} {vs : List (κ × V)} {ds : List (κ × DV)} (r : RP K G vs ds) (h : DRep K G v d) : RP K G (putK vs k v) (putKD ds k d) := by
  unfold putK putKD
  rw [r.any]
  split
  · have key : ∀ {vs : List (κ × V)} {ds : List (κ × DV)}, RP K G vs ds → RP K G (vs.map fun kv => if kv.1 = k then (kv.1, v) else kv) (ds.map fun kv => if kv.1 = k then (kv.1, d) else kv) := by
      intro vs ds r
      induction r with
      | nil => exact .nil
      | cons a b ih =>
        rename_i k' v' d' vs' ds'
        rw [List.map_cons, List.map_cons]
        by_cases q : k' = k
        · simp only [q, if_true]; exact .cons h ih
        · simp only [q, if_false]; exact .cons a ih
    exact key r
  · exact r.append (.cons h .nil)
theorem RP.merge {K : PySem.W.Frag} {G : Hp} {more : List (Key × V)} {mds : List (Key × DV)} (h : RP K G more mds) : ∀ {vs : List (Key × V)} {ds : List (Key × DV)}, RP K G vs ds → RP K G (mergeK vs more) (mergeD ds mds) := by
  induction h with
  | nil => exact fun r => r
  | cons a b ih => exact fun r => ih (r.put a)
theorem putKD_len (kvs : List (κ × DV)) (k : κ) (d : DV) : (putKD kvs k d).length ≤ kvs.length + 1 := by
  unfold putKD
  split
  · rw [List.length_map]; omega
  · rw [List.length_append, List.length_singleton]; omega
end

/-! ### keys -/
def asKey : DV → Option Key
  | .int i => some (.inl i)
  | .str x => some (.inr x)
  | _ => none
def kD : Key → DV
  | .inl i => .int i
  | .inr x => .str x
def asKeys : List DV → Option (List Key)
  | [] => some []
  | d :: ds => match asKey d, asKeys ds with
    | some k, some ks => some (k :: ks)
    | _, _ => none
theorem asKey_rep {K : PySem.W.Frag} {G : Hp} {v : V} {d : DV} {k : Key} (r : DRep K G v d) (h : asKey d = some k) : v = kV k := by
  cases r with
  | int i => cases h; rfl
  | str x => cases h; rfl
  | _ => cases h
theorem asKeys_rep {K : PySem.W.Frag} {G : Hp} : ∀ {vs : List V} {ds : List DV} {ks : List Key}, DReps K G vs ds → asKeys ds = some ks → vs = ks.map kV
  | _, _, _, .nil, e => by cases e; rfl
  | _, _, ks, .cons (d := d) (ds := ds) a b, e => by
    unfold asKeys at e
    cases q1 : asKey d with
    | none => rw [q1] at e; cases e
    | some k =>
      cases q2 : asKeys ds with
      | none => rw [q1, q2] at e; cases e
      | some ks' => rw [q1, q2] at e; cases e; rw [asKey_rep a q1, asKeys_rep b q2]; rfl
theorem kD_rep {K : PySem.W.Frag} (G : Hp) : ∀ k : Key, DRep K G (kV k) (kD k)
  | .inl i => .int i
  | .inr x => .str x
/-- what a dict gives for a key: none: not a dict, not a key -/
def dgetD : DV → DV → Option (Option DV)
  | .dic kvs, y => (asKey y).map fun k => valD kvs k
  | .dit kvs, .tup ys => (asKeys ys).map fun k => valD kvs k
  | _, _ => none
theorem dget_rep {K : PySem.W.Frag} {G H : Hp} {x y : V} {dx dy : DV} {o : Option DV} (s : Gh G H) (rx : DRep K G x dx) (ry : DRep K G y dy) (h : dgetD dx dy = some o) :
    ∃ a ov, x = .ref a ∧ DGet H a y ov ∧ ((ov = none ∧ o = none) ∨ ∃ v d, ov = some v ∧ o = some d ∧ DRep K G v d) := by
  cases rx with
  | dic e r =>
    rename_i a ob vs ds
    have h : (asKey dy).map (fun k => valD ds k) = some o := h
    cases q : asKey dy with
    | none => rw [q] at h; cases h
    | some k =>
      rw [q] at h
      obtain rfl := Option.some.inj h
      have ek := asKey_rep ry q
      refine ⟨a, valV vs k, rfl, .inl ⟨vs, k, .inr ⟨ob, s _ _ e⟩, ek, rfl⟩, ?_⟩
      rcases r.to.val (k := k) with ⟨h1, h2⟩ | ⟨v, d, h1, h2, h3⟩
      · exact .inl ⟨h1, h2⟩
      · exact .inr ⟨v, d, h1, h2, h3⟩
  | dit e r =>
    rename_i a ob vs ds
    cases ry with
    | tup e2 r2 =>
      rename_i b ws ys
      have h : (asKeys ys).map (fun k => valD ds k) = some o := h
      cases q : asKeys ys with
      | none => rw [q] at h; cases h
      | some k =>
        rw [q] at h
        obtain rfl := Option.some.inj h
        have ek := asKeys_rep r2 q
        refine ⟨a, valV vs k, rfl, .inr ⟨vs, k, b, .inr ⟨ob, s _ _ e⟩, rfl, by rw [← ek]; exact s _ _ e2, rfl⟩, ?_⟩
        rcases r.to.val (k := k) with ⟨h1, h2⟩ | ⟨v, d, h1, h2, h3⟩
        · exact .inl ⟨h1, h2⟩
        · exact .inr ⟨v, d, h1, h2, h3⟩
    | _ => cases h
  | _ => cases h

/-! ### subscripts of all kinds -/
def oIxU (x y : DV) : R DV := match dgetD x y with
  | some (some d) => .ok d
  | some none => .bad
  | none => oIx x y
section
variable {X : Cx} {W : WX} {a b c : Expr} {es : List Expr} {fa fb fc : Ev → R DV} {fes : Ev → R (List DV)} {pos p : Pos} {k : Nat}
theorem d_ixU (hr : Room k X.A) (A : PD X W a fa) (B : PD X W b fb) (hs : PlainIx b := by exact fun _ _ => rfl) (hn : NoSl b := by exact fun _ _ => rfl) : PD X W (.Subscript a b pos) (xOp oIxU fa fb) := by
  obtain ⟨ta, pa, ha⟩ := A.ex
  obtain ⟨tb, pb, hb⟩ := B.ex
  refine ⟨_, PE.or (pe_ix ix_seq pa pb hs) (pe_dget (by have := hr.units; omega) pa pb hn), fun {B0 G H δ σ Q} S h => ?_⟩
  have key : ∀ (P : V → V → Hp → Prop), (∀ x y v w H1 G1, Tr G H G1 H1 → fa δ = .ok x → fb δ = .ok y → DRep X.K G1 v x → DRep X.K G1 w y → Rq X.K (DRep X.K) (fun c d H' => W c d σ H') G1 H1 (oIxU x y) Q → P v w H1) → ta σ H fun v H1 => tb σ H1 fun w H2 => P v w H2 := fun P hP =>
    ha S (Rq.bind (rep := DRep X.K) h fun x ex v H1 G1 t1 r1 h1 => hb (S.step t1) (Rq.bind (rep := DRep X.K) h1 fun y ey w H2 G2 t2 r2 h2 => hP x y v w H2 G2 (t1.trans t2) ex ey (r1.mono t2.gg) r2 h2))
  cases q1 : fa δ with
  | bad => unfold xOp at h; rw [q1] at h; exact h.elim
  | exc c fs => exact .inl (key _ fun x y v w H1 G1 t ex => by rw [q1] at ex; cases ex)
  | ok x =>
    cases q2 : fb δ with
    | bad => unfold xOp at h; rw [q1, q2] at h; exact h.elim
    | exc c fs => exact .inl (key _ fun x y v w H1 G1 t _ ey => by rw [q2] at ey; cases ey)
    | ok y =>
      cases q3 : dgetD x y with
      | none =>
        refine .inl (key (fun v w H1 => rIx X.K v w H1 Q) fun x' y' v w H1 G1 t ex ey rv rw' h1 => ?_)
        rw [q1] at ex; rw [q2] at ey
        cases ex; cases ey
        unfold oIxU at h1
        rw [q3] at h1
        exact od_ix t.gh rv rw' h1
      | some o =>
        refine .inr (key (fun v w H1 => ∃ a u, v = .ref a ∧ DGet H1 a w (some u) ∧ Q u H1) fun x' y' v w H1 G1 t ex ey rv rw' h1 => ?_)
        rw [q1] at ex; rw [q2] at ey
        cases ex; cases ey
        unfold oIxU at h1
        rw [q3] at h1
        obtain ⟨a1, ov, e1, g, z⟩ := dget_rep t.gh rv rw' q3
        rcases z with ⟨z1, z2⟩ | ⟨u, d, z1, z2, z3⟩
        · subst z2; exact h1.elim
        · subst z1 z2
          exact ⟨a1, u, e1, g, Rq.ok_self (rep := DRep X.K) t.gh h1 z3⟩

/-! ### in, not in -/
def flAll : List DV → Option (List V)
  | [] => some []
  | d :: ds => match d.fl, flAll ds with
    | some v, some vs => some (v :: vs)
    | _, _ => none
theorem fl_eq {K : PySem.W.Frag} {G : Hp} {v w : V} {d : DV} (r : DRep K G v d) (h : d.fl = some w) : v = w := by
  cases r with
  | non => cases h; rfl
  | bl b => cases h; rfl
  | int i => cases h; rfl
  | str x => cases h; rfl
  | _ => cases h
theorem flAll_eq {K : PySem.W.Frag} {G : Hp} : ∀ {vs ws : List V} {ds : List DV}, DReps K G vs ds → flAll ds = some ws → vs = ws
  | _, _, _, .nil, e => by cases e; rfl
  | _, ws, _, .cons (d := d) (ds := ds) a b, e => by
    unfold flAll at e
    cases q1 : d.fl with
    | none => rw [q1] at e; cases e
    | some k =>
      cases q2 : flAll ds with
      | none => rw [q1, q2] at e; cases e
      | some ks' => rw [q1, q2] at e; cases e; rw [fl_eq a q1, flAll_eq b q2]
theorem fl_flat {d : DV} {v : V} (h : d.fl = some v) : flatV v = true := by
  cases d with
  | non => cases h; rfl
  | bl b => cases h; rfl
  | int i => cases h; rfl
  | str x => cases h; rfl
  | _ => cases h
theorem flAll_flat : ∀ {ds : List DV} {vs : List V}, flAll ds = some vs → vs.all flatV = true
  | [], _, e => by cases e; rfl
  | d :: ds, vs, e => by
    unfold flAll at e
    cases q1 : d.fl with
    | none => rw [q1] at e; cases e
    | some k =>
      cases q2 : flAll ds with
      | none => rw [q1, q2] at e; cases e
      | some ks' => rw [q1, q2] at e; cases e; rw [List.all_cons, fl_flat q1, flAll_flat q2]; rfl
/-- is x in y -/
def isIn : DV → DV → Option Bool
  | .str c, .str z => match c.cps.toList with
    | [k] => some (decide (k ∈ z.cps.toList))
    | _ => none
  | x, .lst ys => match x.fl, flAll ys with
    | some v, some vs => some (inV v vs)
    | _, _ => none
  | x, .ro ys => match x.fl, flAll ys with
    | some v, some vs => some (inV v vs)
    | _, _ => none
  | x, .tup ys => match x.fl, flAll ys with
    | some v, some vs => some (inV v vs)
    | _, _ => none
  | x, y => (dgetD y x).map (·.isSome)
def oInU (neg : Bool) (x y : DV) : R DV := match isIn x y with
  | some b => .ok (.bl (if neg then !b else b))
  | none => .bad
def rInU (X : Cx) (neg : Bool) : R2 := fun x y H Q => (∃ (c : Nat) (z : Str), x = .str ⟨#[c]⟩ ∧ y = .str z ∧ Q (.bl (if neg then !decide (c ∈ z.cps.toList) else decide (c ∈ z.cps.toList))) H) ∨ rIn X.K neg x y H Q ∨ ∃ a o, y = .ref a ∧ DGet H a x o ∧ Q (.bl (if neg then !o.isSome else o.isSome)) H
theorem or_in (hr : Room k X.A) : OpR X (compareOp .In) (rInU X false) := OpR.or op_in_sign (OpR.or op_in_seq fun pins s σ H x y v u Q I rx ry ⟨a, o, ey, g, q⟩ => by
  subst ey
  obtain rfl : u = Value.ref a := ry
  exact d_in (by have := hr.units; omega) I g rx fun s3 I3 => ⟨.bl o.isSome, H, I3, rfl, q⟩)
theorem or_notin (hr : Room k X.A) : OpR X (compareOp .NotIn) (rInU X true) := OpR.or op_notIn_sign (OpR.or op_notIn_seq fun pins s σ H x y v u Q I rx ry ⟨a, o, ey, g, q⟩ => by
  subst ey
  obtain rfl : u = Value.ref a := ry
  exact d_notIn (by have := hr.units; omega) I g rx fun s3 I3 => ⟨.bl (!o.isSome), H, I3, rfl, q⟩)
theorem od_inU {neg : Bool} : OpD X (rInU X neg) (oInU neg) := fun {G H x y dx dy Q W} s rx ry h => by
  unfold oInU at h
  cases q : isIn dx dy with
  | none => rw [q] at h; exact h.elim
  | some b =>
    rw [q] at h
    have hq : Q (.bl (if neg then !b else b)) H := Rq.ok_self (rep := DRep X.K) s h (.bl _)
    have seq : ∀ {vs : List V} {ds : List DV} {a : Addr}, DReps X.K G vs ds → (SqL X.K H a vs ∨ SqT X.K H a vs) → (match dx.fl, flAll ds with
        | some v, some vs => some (inV v vs)
        | _, _ => none) = some b → y = .ref a → rIn X.K neg x y H Q := fun {vs ds a} r hs e ey => by
      cases q1 : dx.fl with
      | none => rw [q1] at e; cases e
      | some v =>
        cases q2 : flAll ds with
        | none => rw [q1, q2] at e; cases e
        | some ws =>
          rw [q1, q2] at e
          obtain rfl := Option.some.inj e
          have e1 := fl_eq rx q1
          have e2 := flAll_eq r q2
          subst e1 e2
          exact ⟨a, vs, ey, hs, fl_flat q1, flAll_flat q2, hq⟩
    have dic : dgetD dy dx = none ∨ ∃ o, dgetD dy dx = some o := by cases dgetD dy dx with
      | none => exact .inl rfl
      | some o => exact .inr ⟨o, rfl⟩
    have dd : (dgetD dy dx).map (·.isSome) = some b → rInU X neg x y H Q := fun e => by
      rcases dic with z | ⟨o, z⟩
      · rw [z] at e; cases e
      · rw [z] at e
        obtain rfl := Option.some.inj e
        obtain ⟨a1, ov, e1, g, w⟩ := dget_rep s ry rx z
        refine .inr (.inr ⟨a1, ov, e1, g, ?_⟩)
        rcases w with ⟨z1, z2⟩ | ⟨u, d, z1, z2, _⟩
        · subst z1 z2; exact hq
        · subst z1 z2; exact hq
    cases ry with
    | lst e r => exact .inr (.inl (seq r (.inl (SqL.of (s _ _ e))) (by cases dx <;> exact q) rfl))
    | ro e r => exact .inr (.inl (seq r (.inl (Same.seq s.s e)) (by cases dx <;> exact q) rfl))
    | tup e r => exact .inr (.inl (seq r (.inr (SqT.of (s _ _ e))) (by cases dx <;> exact q) rfl))
    | str z =>
      cases rx with
      | str c =>
        unfold isIn at q
        dsimp only at q
        split at q
        · rename_i k e
          obtain rfl := Option.some.inj q
          exact .inl ⟨k, z, by rw [str_one e], rfl, hq⟩
        · cases q
      | _ => cases q
    | dic e r => exact dd (by cases dx <;> exact q)
    | dit e r => exact dd (by cases dx <;> exact q)
    | _ => exact dd (by cases dx <;> exact q)
end
end LD

set_option maxHeartbeats 3200000
/-! Layer D, part Q: len(set(xs)) of any texts. -/
namespace LD
open PySem PySem.Spec PyProof.Rows L2
variable [Tbs]

/-- the texts met so far, how many -/
def memS (xs : List Str) : Str → Bool := fun k => xs.any (· == k)
def cntS : List Str → Nat
  | [] => 0
  | x :: r => (if memS r x then cntS r else cntS r + 1)
theorem memS_cons (x : Str) (r : List Str) (k : Str) : memS (x :: r) k = (memS r k || decide (k = x)) := by
  unfold memS
  rw [List.any_cons, Bool.or_comm]
  congr 1
  by_cases e : k = x
  · subst e; simp
  · rw [decide_eq_false e]; exact beq_eq_false_iff_ne.mpr fun z => e z.symm
theorem cntS_le : ∀ r : List Str, cntS r ≤ r.length
  | [] => Nat.le_refl _
  | x :: r => by
    have := cntS_le r
    unfold cntS
    rw [List.length_cons]
    split <;> omega
/-- what stands behind the first i, the last first -/
def upTo (xs : List Str) (i : Nat) : List Str := (xs.take i).reverse
theorem upTo_succ {xs : List Str} {i : Nat} (h : i < xs.length) : upTo xs (i + 1) = xs.getD i Str.empty :: upTo xs i := by
  unfold upTo
  rw [List.take_succ_eq_append_getElem h, List.reverse_append, List.getD_eq_getElem?_getD, List.getElem?_eq_getElem h]
  rfl
section
variable {prog : Program} {w : World} {A : Around} {R : Result → Shared → Prop} {it : Addr} {fp wr : List Addr} {Gs : Array GenState → Array GenState → Prop} {n : Nat} {Pv : Nat → Value → Prop} {St : Nat → Shared → Prop}
/-- set.update's loop over any walk of texts -/
theorem loopT (W : WalksS prog w A.in1 it fp wr Gs n Pv St) (a : Addr) (hf : a ∉ fp) (xs : List Str) (hn : xs.length = n) (hb : n + 1 < scanBound) (hv : ∀ i v, Pv i v → ∃ t, v = .str (xs.getD i Str.empty) t) :
    ∀ (m i : Nat) (s : Shared), n - i = m → i ≤ n → St i s → s.heap.SetOf (strKind prog w) a (memS (upTo xs i)) (cntS (upTo xs i)) →
      (∀ s', Moved (a :: wr) Gs s s' → s'.heap.SetOf (strKind prog w) a (memS (upTo xs n)) (cntS (upTo xs n)) → R (.ok (.ret .none)) s') → codeAny (model prog w) A (.builtin "set.update.loop" ⟨[.ref a, .ref it], []⟩) R s := by
  have aw : a ∉ wr := fun h => hf (W.sub _ h)
  have up : ∀ b ∈ wr, b ∈ a :: wr := fun b hb => List.mem_cons_of_mem _ hb
  have moved : ∀ {s s' : Shared} {S : Str → Bool} {c : Nat}, Moved wr Gs s s' → s.heap.SetOf (strKind prog w) a S c → s'.heap.SetOf (strKind prog w) a S c := fun hm ⟨o, es, ep, t, ho, r⟩ => ⟨o, es, ep, t, hm.heap a _ aw ho, r⟩
  intro m
  induction m with
  | zero =>
    intro i s hk hi st hS hR
    obtain rfl : i = n := by omega
    refine codeAny_builtin F.entry_set_update_loop ?_
    rw [Around.under_plainId F.plain_set_update_loop _]
    exact wpAny_bind (m := pyNext (.ref it)) (W.done s _ _ st fun s' hm => wpAny_pure (hR s' (hm.mono up) (moved hm hS)))
  | succ m ih =>
    intro i s hk hi st hS hR
    have hlt : i < n := by omega
    refine codeAny_builtin F.entry_set_update_loop ?_
    rw [Around.under_plainId F.plain_set_update_loop _]
    refine wpAny_bind (m := pyNext (.ref it)) (W.item i s _ _ hlt st fun v s' hP st' hm => ?_)
    obtain ⟨t, rfl⟩ := hv i v hP
    refine wpAny_bind (m := holding [Value.str (xs.getD i Str.empty) t] (setAdd a (.str (xs.getD i Str.empty) t))) (wpAny_holding ?_)
    unfold setAdd
    refine wpAny_holding (wpAny_bind ((strKind prog w).pyHash (k := xs.getD i Str.empty) (strKind_is _ _ _ _) ?_))
    have cb : cntS (upTo xs i) + 1 < scanBound := by
      have h1 := cntS_le (upTo xs i)
      have h2 : (upTo xs i).length ≤ i := by unfold upTo; rw [List.length_reverse, List.length_take]; omega
      omega
    have hSm := moved hm hS
    refine wpAny_setAddHashed_of (knd := strKind prog w) (s := { s' with toks := s'.toks + 1 }) (strKind_is _ _ _ _) rfl hSm cb fun h' hs hS2 => ?_
    have e := upTo_succ (xs := xs) (i := i) (by omega)
    have hS3 : h'.SetOf (strKind prog w) a (memS (upTo xs (i + 1))) (cntS (upTo xs (i + 1))) := by
      refine SetOf_congr hS2 (fun k => ?_) ?_
      · rw [e, memS_cons]
      · rw [e]; rfl
    have hs' : ∀ b o, b ≠ a → s'.heap.get? b = some o → h'.get? b = some o := fun b o ne q => (hs.2 b ne).trans q
    refine wpAny_pure ⟨plainId_quiet F.plain_set_update_loop _, ih (i + 1) _ (by omega) hlt (W.frame _ s' _ _ st' (Nat.le_succ _) fun b hb' o q => hs' b o (fun z => hf (z ▸ hb')) q) hS3 fun s2 hm2 hS4 => ?_⟩
    exact hR s2 (Moved.trans W.gtrans ((hm.mono up).then_heap (Nat.le_succ _) fun b o nb q => hs' b o (fun z => nb (z ▸ List.mem_cons_self)) q) hm2) hS4
end

/-! ### set(t), t a tuple of texts -/
def emptySet (led : Bool) : Obj := { cls := .type "set", dict := none, data := .set #[] 0 (.fresh 0 0 led) }
section
variable {prog : Program} {w : World} {A : Around} {E : Value → Shared → Prop} {s : Shared}
theorem set_of_texts {l : Addr} {its : Array Value} {xs : List Str} {Q : Value → Shared → Prop} (hh : A.handled = none) (ht : s.heap.IsTuple l its) (hx : StrsAre its.toList xs) (hb : xs.length + 1 < scanBound)
    (h : ∀ (g : Heap) (tk : Nat), g.SetOf (strKind prog w) s.heap.objs.size (memS (upTo xs xs.length)) (cntS (upTo xs xs.length)) → (∀ b o, b < s.heap.objs.size → s.heap.get? b = some o → g.get? b = some o) → Q (.ref s.heap.objs.size) { s with heap := g, toks := tk }) :
    wpAny (model prog w) A (call (.type "set") [.ref l]) Q E s := by
  obtain ⟨c, tl, mro⟩ := F.called_set.mro
  have made := F.called_set.made
  have sub := F.called_set.sub
  have not_type := F.called_set.notType
  have creates := F.called_set.canCreate
  have check := F.typeCall_set_1 (.ref l)
  have hn : xs.length = its.size := by rw [← StrsAre.len_eq hx, Array.length_toList]
  generalize hS0 : s.heap.objs.size = S0 at h ⊢
  refine wpAny_call (codeAny_of_tree ?_)
  show wpAny _ _ (callAny (.type "set") _) _ _ _
  refine wpAny_pure ⟨Code.quiet_builtin _ (by decide +kernel), codeAny_builtin F.entry_type_call ?_⟩
  rw [Around.under_plain (weight_type_call_type "set" [.ref l] []) rfl]
  repeat (any_goals (first
    | assumption
    | wp_step))
  refine codeAny_mono (code_set_new_1 (.ref l) (E := E) (Q₁ := fun v s1 => ∃ led : Bool, v = .ref S0 ∧ s1 = { s with heap := s.heap.push (emptySet led) }) fun led => ⟨led, by rw [hS0], rfl⟩) fun r s1 hr => ?_
  match r, hr with
  | .error e, hr => exact hr
  | .ok .next, hr => exact hr.elim
  | .ok .brk, hr => exact hr.elim
  | .ok .cont, hr => exact hr.elim
  | .ok (.ret v), hr =>
    obtain ⟨led, rfl, rfl⟩ := hr
    have hS : (s.heap.push (emptySet led)).get? S0 = some (emptySet led) := by rw [← hS0]; exact Heap.get?_push_size _ rfl
    have hT : Shared.TypeIs { s with heap := s.heap.push (emptySet led) } (.ref S0) "set" := ⟨_, hS, rfl⟩
    have look := F.called_set.init.lookup
    have bound := F.called_set.init.bind (.ref S0)
    repeat (any_goals (first
      | assumption
      | wp_step))
    refine codeAny_mono (codeAny_call_builtin (R := wants (fun r s2 => r = .none ∧ ∃ g tk, s2 = { s with heap := g, toks := tk } ∧ g.SetOf (strKind prog w) S0 (memS (upTo xs xs.length)) (cntS (upTo xs xs.length)) ∧ ∀ b o, b < S0 → s.heap.get? b = some o → g.get? b = some o) E)
      F.called_set.init.plain F.entry_set_init (check_set_init_1 hT ?_)) fun r2 s2 hr2 => ?_
    · obtain ⟨⟨ocl, odc, odt, osl⟩, hol, hoc, nn, hod⟩ := ht
      simp only at hoc hod
      subst hoc hod
      generalize hpush : s.heap.push (emptySet led) = hp at hS hT
      have hol2 : hp.get? l = some { cls := .type "tuple", dict := odc, data := .seq its nn, slots := osl } := by rw [← hpush]; exact Heap.get?_push_of_some _ hol
      have hsz : hp.objs.size = S0 + 1 := by rw [← hpush, Heap.size_push, hS0]
      have lS : l < S0 := by rw [← hS0]; exact Heap.lt_size hol
      have no_dict : (Value.type "tuple" == Value.type "dict") = false := by decide
      have no_set := F.sub_tuple_set
      have no_frozen := F.sub_tuple_frozenset
      have it_tup : hp.IsTuple l its := ⟨_, hol2, rfl, nn, rfl⟩
      unfold Builtin.«set.__init__» noKeywords Builtin.Frozenset.updateFrom
      generalize hIter : pyIter = iter
      wp_walk
      subst hIter
      refine wpAny_pyIter_tuple it_tup (wpAny_bind (wpAny_runValue ?_))
      have nl : l ≠ hp.objs.size := by rw [hsz]; exact Nat.ne_of_lt (Nat.lt_succ_of_lt lS)
      have nf : S0 ∉ [hp.objs.size, l] := by
        rw [hsz]
        intro z
        simp only [List.mem_cons, List.not_mem_nil, or_false] at z
        rcases z with z | z
        · exact absurd z (Nat.ne_of_lt (Nat.lt_succ_self _))
        · exact absurd z (Nat.ne_of_gt lS)
      refine loopT (n := its.size) ((Walks.tuple (show A.in1.in1.in1.handled = none by simp [hh]) _ l nl its).toS) S0 nf xs hn (by rw [← hn]; exact hb) (fun i v hv => SS.strs_at hx i v (by rw [Array.getElem?_toList]; exact hv)) (its.size - 0) 0 _ rfl (Nat.zero_le _)
        ⟨⟨_, Heap.get?_push_size _ rfl, rfl, rfl⟩, it_tup.push _⟩ ?_ fun s3 hm hS3 => ?_
      · have hS2 : (hp.push { cls := .type "tuple_iterator", data := .fields #[.ref l, .int 0 0] }).get? S0 = some (emptySet led) := Heap.get?_push_of_some _ hS
        exact SetOf_congr ((setObjOf_fresh (knd := strKind prog w) led).setOf hS2 (by unfold scanBound; omega)) (fun _ => rfl) rfl
      · obtain ⟨g, gn, dr, tk, os⟩ := s3
        obtain rfl : gn = s.gens := hm.gens
        obtain rfl : dr = s.drawn := hm.drawn
        obtain rfl : os = s.os := hm.os
        rw [← hn] at hS3
        refine wpAny_pure (wpAny_pure ⟨rfl, g, tk, rfl, hS3, fun b o hb' e => ?_⟩)
        refine hm.heap b o (fun z => ?_) (Heap.get?_push_of_some _ (by rw [← hpush]; exact Heap.get?_push_of_some _ e))
        rw [hsz] at z
        simp only [List.mem_cons, List.not_mem_nil, or_false] at z
        rcases z with z | z
        · exact absurd z (Nat.ne_of_lt hb')
        · exact absurd z (Nat.ne_of_lt (Nat.lt_succ_of_lt hb'))
    · match r2, hr2 with
      | .error e, hr2 => exact hr2
      | .ok .next, hr2 => exact hr2.elim
      | .ok .brk, hr2 => exact hr2.elim
      | .ok .cont, hr2 => exact hr2.elim
      | .ok (.ret v), hr2 =>
        obtain ⟨rfl, g, tk, rfl, hS2, hk⟩ := hr2
        repeat (any_goals (first
          | assumption
          | wp_step))
        exact h _ _ hS2 hk
end

/-! ### len(set(t)) -/
def strsOf : List DV → Option (List Str)
  | [] => some []
  | .str x :: r => (strsOf r).map (x :: ·)
  | _ => none
theorem strsOf_rep {K : PySem.W.Frag} {G : Hp} : ∀ {vs : List V} {ds : List DV} {xs : List Str}, DReps K G vs ds → strsOf ds = some xs → vs = xs.map V.str
  | _, _, _, .nil, e => by cases e; rfl
  | _, _, xs, .cons (d := d) (ds := ds) a b, e => by
    cases a with
    | str x =>
      unfold strsOf at e
      cases q : strsOf ds with
      | none => rw [q] at e; cases e
      | some r => rw [q] at e; cases e; rw [strsOf_rep b q]; rfl
    | _ => cases e
def oLenSet : DV → R DV
  | .tup ds => (match strsOf ds with
    | some xs => if Nat.blt xs.length 4000 then .ok (.int (cntS (upTo xs xs.length))) else .bad
    | none => .bad)
  | _ => .bad
section
variable {X : Cx} {W : WX} {a : Expr} {fa : Ev → R DV} {pos p p2 q : Pos}
theorem d_lenSet (hc : X.calm = true) (hm : X.mg "len" = none) (hm2 : X.mg "set" = none) (A : PD X W a fa) (hg : Gl X "len" := by rfl) (hg2 : Gl X "set" := by rfl) (na : starEach [a] X.env = (false, eval a X.env) :: starEach [] X.env := by rfl) :
    PD X W (.Call (.Name "len" p) [.Call (.Name "set" p2) [a] [] q] [] pos) (xUn oLenSet fa) := by
  obtain ⟨ta, pa, ha⟩ := A.ex
  refine ⟨fun σ H Q => ta σ H fun x H1 => ∃ l, ∃ xs : List Str, x = .ref l ∧ SqT X.K H1 l (xs.map V.str) ∧ xs.length < 4000 ∧ Q (.int (cntS (upTo xs xs.length))) H1, ⟨fun pins s σ H Q I h => ?_⟩, fun {B0 G H δ σ Q} S h => ?_⟩
  · have h' : ta σ H fun x H1 => ∃ l, ∃ xs : List Str, x = .ref l ∧ SqT X.K H1 l (xs.map V.str) ∧ xs.length < 4000 ∧ Q (.int (cntS (upTo xs xs.length))) H1 := h
    refine Call_ (ld_blt I hg hm boot_len (callWith_builtin1 (args_cons ?_ rfl) rfl rfl))
    refine Call_ (ld_blt I hg2 hm2 boot_set (callWith_type1 (args_cons (thn (pa.run pins s σ H _ I h') fun v s1 ⟨x, H1, I1, r1, q1⟩ => args_nil ?_) na) na rfl))
    obtain ⟨l, xs, rfl, hq, hz, q1⟩ := q1
    cases r1
    obtain ⟨its, r, pl, _⟩ := I1.tuple hq
    have sb : xs.length + 1 < scanBound := by unfold scanBound; omega
    refine set_of_texts (I1.ok.hd hc) pl (by simpa using strsAre_of r) sb fun g tk hS hk => args_nil ?_
    obtain ⟨o, es, ep, t, ho, hex, hd, _, _, _, hf, hn⟩ := hS
    have I2 : Inv X pins σ H1 { s1 with heap := g, toks := tk } := I1.kept fun b o e => hk b o (Heap.lt_size e) e
    have cl := cntS_le (upTo xs xs.length)
    have ul : (upTo xs xs.length).length ≤ xs.length := by unfold upTo; rw [List.length_reverse, List.length_take]; omega
    exact call_len_set ho hex hd hf (by rw [hn]; omega) ⟨.int (cntS (upTo xs xs.length)), H1, I2.tok _, ⟨_, by rw [hn]⟩, q1⟩
  · refine ha S (Rq.bind (rep := DRep X.K) h fun x ex v H1 G1 t1 r1 h1 => ?_)
    cases r1 with
    | tup e r =>
      rename_i a1 vs ds
      have h2 : Rq X.K (DRep X.K) (fun c d H' => W c d σ H') G1 H1 (match strsOf ds with
        | some xs => if Nat.blt xs.length 4000 = true then .ok (.int (cntS (upTo xs xs.length))) else .bad
        | none => .bad) Q := h1
      cases q : strsOf ds with
      | none => rw [q] at h2; exact h2.elim
      | some xs =>
        rw [q] at h2
        obtain ⟨c, h3⟩ := rq_if h2
        rw [strsOf_rep r q] at e
        exact ⟨a1, xs, rfl, SqT.of (t1.gh _ _ e), Nat.le_of_ble_eq_true c, Rq.ok_self (rep := DRep X.K) t1.gh h3 (.int _)⟩
    | _ => exact h1.elim
end
end LD

set_option maxHeartbeats 2000000
/-! Layer D, part N: new dicts, own dicts, walks over dicts, stars, while. -/
namespace LD
open PySem PySem.Spec PyProof.Rows L2
variable [Tbs]

/-! ### new dicts -/
/-- a new dict at D, not yet frozen -/
def DRq (K : PySem.W.Frag) (W : Value → Option Addr → Hp → Prop) (G H : Hp) (r : R (List (Key × DV))) (Q : VK) : Prop := match r with
  | .ok ys => ∀ D ws H' G', Tr G H G' H' → strip H D = none → G' D = none → H' D = some (.dK ws) → RP K G' ws ys → Q (.ref D) H'
  | .exc c fs => ∀ H' G' d, Tr G H G' H' → XRep K G' H' d fs → W (.ref (He.ga K c)) d H'
  | .bad => False
theorem DRq.tr {K : PySem.W.Frag} {W : Value → Option Addr → Hp → Prop} {G H G1 H1 : Hp} {r : R (List (Key × DV))} {Q : VK} (t : Tr G H G1 H1) (h : DRq K W G H r Q) : DRq K W G1 H1 r Q := by
  cases r with
  | ok ys => exact fun D ws H' G' t' hd => h D ws H' G' (t.trans t') (t.free hd)
  | exc c fs => exact fun H' G' d t' => h H' G' d (t.trans t')
  | bad => exact h
theorem DRq.bind {α β : Type} {K : PySem.W.Frag} {W : Value → Option Addr → Hp → Prop} {rep : Rel α β} {G H : Hp} {r : R α} {k : α → R (List (Key × DV))} {Q : β → Hp → Prop} {Q' : VK} (h : DRq K W G H (r.bind k) Q') (c : ∀ a, r = .ok a → ∀ b H1 G1, Tr G H G1 H1 → rep G1 b a → DRq K W G1 H1 (k a) Q' → Q b H1) : Rq K rep W G H r Q := by
  cases r with
  | ok a => exact fun b H1 G1 t p => c a rfl b H1 G1 t p (DRq.tr t h)
  | exc _ _ => exact h
  | bad => exact h
/-- an expression that makes a dict -/
structure PDD (X : Cx) (W : WX) (e : Expr) (f : Ev → R (List (Key × DV))) : Prop where
  ex : ∃ t : TE, PE X e t ∧ ∀ {B : Bas} {G H : Hp} {δ : Ev} {σ : L2.St} {Q : VK}, SOk X.K B G H δ σ → DRq X.K (fun c d H' => W c d σ H') G H (f δ) Q → t σ H Q
def tLockK (t : TE) : TE := fun σ H Q => t σ H fun x H1 => ∃ a kvs, x = .ref a ∧ H1 a = some (.dK kvs) ∧ ∀ o, Q x (upd H1 a (.frz o (.dK kvs)))
theorem pe_lock {X : Cx} {e : Expr} {t : TE} (p : PE X e t) : PE X e (tLockK t) := ⟨fun pins s σ H Q I h => thn (p.run pins s σ H _ I h) fun u s1 ⟨x, H1, I1, r, a, kvs, ex, e, q⟩ => by
  obtain ⟨o, I2⟩ := I1.lock e trivial
  exact ⟨x, _, I2, r, q o⟩⟩
def xDic (f : Ev → R (List (Key × DV))) : Ev → R DV := fun δ => (f δ).bind fun kvs => .ok (.dic kvs)
section
variable {X : Cx} {W : WX} {a b c e : Expr} {es : List Expr} {fa fb fc : Ev → R DV} {fes : Ev → R (List DV)} {fd : Ev → R (List (Key × DV))} {pos p : Pos} {k : Nat}
/-- a new dict that no one changes -/
theorem d_dic (A : PDD X W e fd) : PD X W e (xDic fd) := by
  obtain ⟨t, p, hq⟩ := A.ex
  refine ⟨_, pe_lock p, fun {B0 G H δ σ Q} S h => hq S ?_⟩
  unfold xDic at h
  cases q : fd δ with
  | bad => rw [q] at h; exact h.elim
  | exc c fs => rw [q] at h; exact h
  | ok kvs =>
    rw [q] at h
    intro D ws H' G' t hd hg hh r
    refine ⟨D, ws, rfl, hh, fun o => ?_⟩
    have t2 := tr_own_updS t (.frz o (.dK ws)) hd hg (is_na hh)
    obtain ⟨t3, gg⟩ := t2.freezeS hd hg upd_same
    exact h (.ref D) _ _ t3 (.dic upd_same (RP.mono gg r).k)
/-- name = a new dict, the name's own -/
def sSetD (i : Nat) (f : Ev → R (List (Key × DV))) : Ev → SR := fun δ => xS (f δ) δ fun kvs => .nx (δ.set i (.od kvs))
theorem ds_setD (i : Nat) {x : Str} {pos' : Pos} (hN : X.N.Nodup) (A : PDD X W e fd) (hi : X.N[i]? = some x := by rfl) (hx : Loc X.env.scope x := by first | exact Or.inl rfl | exact Or.inr rfl) (hs : swapsWith e (some (.Name x pos')) pos.line X.env = pure false := by rfl)
    (hf : X.fn x = true ∨ X.env.scope.names.lookup x = some .local := by first | exact .inl rfl | exact .inr rfl) : PSD X W (.Assign [.Name x pos'] e pos) (sSetD i fd) := by
  obtain ⟨t, p, hq⟩ := A.ex
  refine ⟨_, L2.ps_set hN hi hx p hs hf, fun {B0 G H δ σ D} S h => hq S ?_⟩
  unfold sSetD at h
  cases q : fd δ with
  | bad => rw [q] at h; exact h.elim
  | exc c fs => rw [q] at h; exact fun H' G' d t x => h σ H' G' d t.gg (S.step t) x
  | ok kvs =>
    rw [q] at h
    intro D' ws H' G' t hd hg hh r
    exact h _ _ _ t.gg (own_laid S i t hd hg rfl (fun _ _ z => nomatch z) ⟨ws, hh, r.k⟩)
/-! ### {k: v, ..} -/
structure PDPs (X : Cx) (W : WX) (pos : Pos) (keys : List (Option Expr)) (values : List Expr) (f : Ev → R (List (Key × DV))) : Prop where
  ex : ∃ trs, PPs X pos keys values trs ∧ ∀ {B : Bas} {G H : Hp} {δ : Ev} {σ : L2.St} {Q : List (V × V) → Hp → Prop}, SOk X.K B G H δ σ →
    Rq X.K (fun G' ps ds => ∃ kvs : List (Key × V), ps = kvs.map (fun kv => (kV kv.1, kv.2)) ∧ RP X.K G' kvs ds) (fun c d H' => W c d σ H') G H (f δ) Q → tPairs trs σ H Q
def xP0 : Ev → R (List (Key × DV)) := fun _ => .ok []
def xPc (fk fv : Ev → R DV) (r : Ev → R (List (Key × DV))) : Ev → R (List (Key × DV)) := fun δ => (fk δ).bind fun k => (fv δ).bind fun v => (r δ).bind fun ps => match asKey k with
  | some k => .ok ((k, v) :: ps)
  | none => .bad
theorem dp_nil : PDPs X W pos [] [] xP0 := ⟨[], pps_nil, fun {B G H δ σ Q} S h => h [] H G (Tr.refl S.gh) ⟨[], rfl, .nil⟩⟩
theorem dp_cons {keys : List (Option Expr)} {values : List Expr} (A : PD X W a fa) (B : PD X W b fb) (C : PDPs X W pos keys values fd) : PDPs X W pos (some a :: keys) (b :: values) (xPc fa fb fd) := by
  obtain ⟨ta, pa, ha⟩ := A.ex
  obtain ⟨tb, pb, hb⟩ := B.ex
  obtain ⟨trs, pc, hc⟩ := C.ex
  refine ⟨_, pps_cons pa pb pc, fun {B0 G H δ σ Q} S h => ?_⟩
  refine ha S (Rq.bind (rep := DRep X.K) h fun x ex v H1 G1 t1 r1 h1 => ?_)
  refine hb (S.step t1) (Rq.bind (rep := DRep X.K) h1 fun y ey w H2 G2 t2 r2 h2 => ?_)
  refine hc ((S.step t1).step t2) (Rq.bind h2 fun ps eps qs H3 G3 t3 ⟨kvs, e3, r3⟩ h3 => ?_)
  cases q : asKey x with
  | none => rw [q] at h3; exact h3.elim
  | some k =>
    rw [q] at h3
    have ek := asKey_rep r1 q
    subst ek e3
    exact h3 _ H3 G3 (Tr.refl t3.gh) ⟨(k, w) :: kvs, rfl, .cons (r2.mono t3.gg) r3⟩
def xDisp (f : Ev → R (List (Key × DV))) : Ev → R (List (Key × DV)) := fun δ => (f δ).bind fun ps => if Nat.ble ps.length 15 then .ok (mergeD [] ps) else .bad
theorem dd_disp {keys : List (Option Expr)} {values : List Expr} (A : PDPs X W pos keys values fd) (hall : keys.all (·.isSome) = true := by rfl) (hl : keys.length = values.length := by rfl) (h0 : keys ≠ [] := by exact fun z => nomatch z) (h15 : keys.length ≤ 15 := by exact Nat.le_of_ble_eq_true rfl) : PDD X W (.Dict keys values pos) (xDisp fd) := by
  obtain ⟨trs, pc, hc⟩ := A.ex
  refine ⟨_, pe_disp pc hall hl h0 h15, fun {B0 G H δ σ Q} S h p hp => ?_⟩
  have t0 := Tr.own S.gh (.dK []) hp
  refine hc (S.step t0) (DRq.bind (DRq.tr t0 h) fun ps eps qs H3 G3 t3 ⟨kvs, e3, r3⟩ h3 => ?_)
  cases q : Nat.ble ps.length 15 with
  | false => rw [q] at h3; exact h3.elim
  | true =>
    have h4 : Q (.ref p) (upd H3 p (.dK (mergeK [] kvs))) := by
      unfold xDisp at h
      rw [eps] at h
      have h5 : DRq X.K (fun c d H' => W c d σ H') G H (if Nat.ble ps.length 15 = true then .ok (mergeD [] ps) else .bad) Q := h
      rw [q, if_pos rfl] at h5
      have hg : G3 p = none := by rw [t3.nw p upd_same]; exact S.gh.none hp
      have t := tr_own_upd (t0.trans t3) (.dK (mergeK [] kvs)) hp hg (is_na (t3.sm _ _ upd_same))
      exact h5 p _ _ _ t (strip_none hp) hg upd_same (RP.merge r3 .nil)
    exact ⟨t3.sm _ _ upd_same, kvs, e3, by rw [r3.length]; exact Nat.le_of_ble_eq_true q, h4⟩
/-- {} -/
theorem dd_empty : PDD X W (.Dict [] [] pos) (fun _ => .ok []) := ⟨_, pe_dnewK, fun {B0 G H δ σ Q} S h p hp => h p [] _ G (Tr.own S.gh _ hp) (strip_none hp) (S.gh.none hp) upd_same .nil⟩
/-! ### dict(x) -/
def asPairs : List DV → Option (List (Key × DV))
  | [] => some []
  | .tup [k, v] :: r => (match asKey k, asPairs r with
    | some k, some ps => some ((k, v) :: ps)
    | _, _ => none)
  | _ => none
theorem asPairs_rep {K : PySem.W.Frag} {G H : Hp} (s : Gh G H) : ∀ {vs : List V} {ds : List DV} {kvs : List (Key × DV)}, DReps K G vs ds → asPairs ds = some kvs →
    ∃ (ps : List Addr) (ws : List (Key × V)), vs = ps.map V.ref ∧ Paired (fun p kv => SqT K H p [kV kv.1, kv.2]) ps ws ∧ RP K G ws kvs
  | _, _, _, .nil, e => by cases e; exact ⟨[], [], rfl, .nil, .nil⟩
  | _, _, kvs, .cons (d := d) (ds := ds) a b, e => by
    cases a with
    | tup e1 r1 =>
      rename_i p ws ys
      cases r1 with
      | nil => cases e
      | cons rk r2 =>
        cases r2 with
        | nil => cases e
        | cons rv r3 =>
          cases r3 with
          | cons _ _ => cases e
          | nil =>
            rename_i vk dk vv dv
            have e : (match asKey dk, asPairs ds with
              | some k, some ps => some ((k, dv) :: ps)
              | _, _ => none) = some kvs := e
            cases q1 : asKey dk with
            | none => rw [q1] at e; cases e
            | some k =>
              cases q2 : asPairs ds with
              | none => rw [q1, q2] at e; cases e
              | some ps =>
                rw [q1, q2] at e
                obtain rfl := Option.some.inj e
                obtain ⟨as, ws', h1, h2, h3⟩ := asPairs_rep s b q2
                have ek := asKey_rep rk q1
                subst ek h1
                exact ⟨p :: as, (k, vv) :: ws', rfl, .cons (SqT.of (s _ _ e1)) h2, .cons rv h3⟩
    | _ => cases e
def dictOf : List DV → R (List (Key × DV))
  | [.dic kvs] => .ok kvs
  | [.lst ds] => (R.ofO (asPairs ds)).bind fun ps => .ok (mergeD [] ps)
  | _ => .bad
def xDict (fes : Ev → R (List DV)) : Ev → R (List (Key × DV)) := fun δ => (fes δ).bind dictOf
theorem dd_dict (hc : X.calm = true) (hm : X.mg "dict" = none) (A : PDA X W (a :: es) fes) (hg : Gl X "dict" := by rfl)
    (he : starEach (a :: es) X.env = (false, eval a X.env) :: starEach es X.env := by rfl) (hpl : (backTo pos (starEach es X.env)).any (·.1) = false := by rfl) : PDD X W (.Call (.Name "dict" p) (a :: es) [] pos) (xDict fes) := by
  obtain ⟨ta, pa, ha⟩ := A.ex
  refine ⟨_, pe_callTy (CallR.or call_dictD (call_dictP hc)) hg hm (by decide +kernel) pa (by decide) (by decide) he hpl, fun {B0 G H δ σ Q} S h => ?_⟩
  refine ha S (DRq.bind (rep := DReps X.K) h fun dds eqs vvs H1 G1 t1 r1 h1 => ?_)
  clear eqs
  have s := t1.gh
  cases r1 with
  | nil => exact h1.elim
  | cons ra rb =>
    cases rb with
    | cons _ _ => rename_i d _ _ _ _ _ _; cases d <;> exact h1.elim
    | nil =>
      cases ra with
      | @dic a1 o vs ds e0 r => exact .inl ⟨a1, vs, rfl, .inr ⟨o, s _ _ e0⟩, fun q hq => h1 q _ _ G1 (Tr.own s _ hq) (strip_none hq) (s.none hq) upd_same r.to⟩
      | @lst a1 vs ds e0 r =>
        have h2 : DRq X.K (fun c d H' => W c d σ H') G1 H1 ((R.ofO (asPairs ds)).bind fun ps => .ok (mergeD [] ps)) Q := h1
        cases q : asPairs ds with
        | none => rw [q] at h2; exact h2.elim
        | some ps =>
          rw [q] at h2
          obtain ⟨as, ws, rfl, h3, h4⟩ := asPairs_rep s r q
          exact .inr ⟨a1, as, ws, rfl, SqL.of (s _ _ e0), h3, fun q hq => h2 q _ _ G1 (Tr.own s _ hq) (strip_none hq) (s.none hq) upd_same (RP.merge h4 .nil)⟩
      | _ => exact h1.elim

/-! ### d[k] = v, the name's own dict -/
def sPutD (i : Nat) (fv fk : Ev → R DV) : Ev → SR := fun δ => xS (fv δ) δ fun v => match δ[i]? with
  | some (.od kvs) => xS (fk δ) δ fun k => (match asKey k with
    | some k => if Nat.blt kvs.length 16777216 then .nx (δ.set i (.od (putKD kvs k v))) else .bad
    | none => .bad)
  | _ => .bad
theorem ds_putD (i : Nat) (hr : Room k X.A) {x : Str} {pos' p3 : Pos} (A : PD X W a fa) (B : PD X W b fb) (hN : X.N[i]? = some x := by rfl) (hv : Vis X.env.scope x := by first | exact Or.inl rfl | exact Or.inr (Or.inl rfl) | exact Or.inr (Or.inr rfl)) (hd : (x == ("__debug__" : Str)) = false := by decide)
    (hcd : (x == ("__classdict__" : Str)) = false := by decide) (hs : swapsWith a (some (.Subscript (.Name x pos') b p3)) pos.line X.env = pure false := by rfl) : PSD X W (.Assign [.Subscript (.Name x pos') b p3] a pos) (sPutD i fa fb) := by
  obtain ⟨ta, pa, ha⟩ := A.ex
  obtain ⟨tb, pb, hb⟩ := B.ex
  have pv' : PE X (.Name x pos') (tVar i) := L2.pv i hN hv hd hcd
  refine ⟨_, ps_dput (by have := hr.units; omega) pv' pb pa hs, fun {B0 G H δ σ D} S h => ?_⟩
  refine ha S (SRq.of S h fun v ev u H1 G1 t1 r1 h1 => ?_)
  have S1 := S.step t1
  split at h1
  · rename_i kvs e
    obtain ⟨q, es, h0, hg, vs, hp, r⟩ := S1.own e rfl
    refine ⟨_, es, hb S1 (SRq.of S1 h1 fun kd ek w H2 G2 t2 r2 h2 => ?_)⟩
    cases qk : asKey kd with
    | none => rw [qk] at h2; exact h2.elim
    | some key =>
      rw [qk] at h2
      dsimp only at h2
      cases c : Nat.blt kvs.length 16777216 with
      | false => rw [c] at h2; exact h2.elim
      | true =>
        rw [c, if_pos rfl] at h2
        have ew := asKey_rep r2 qk
        subst ew
        have hp2 := t2.sm _ _ hp
        have hg2 : G2 q = none := by rw [t2.nw q hp]; exact hg
        refine ⟨q, _, rfl, .inl ⟨vs, key, hp2, rfl, ?_, rfl⟩, h2 _ _ _ (Same.refl _) (own_upd (S1.step t2) e rfl es h0 hg2 rfl (fun _ _ z => nomatch z) ⟨_, upd_same, ((r.mono t2.gg).to.put (r1.mono t2.gg)).k⟩)⟩
        rw [r.to.length, sizeLine_eq]
        exact Nat.le_of_ble_eq_true c
  · exact h1.elim
/-- the name's own dict is changed by no one from here on -/
def frzD (δ : Ev) (i : Nat) : Ev := match δ[i]? with
  | some (.od kvs) => δ.set i (.pu (.dic kvs))
  | _ => δ
def sFzD (i : Nat) (F : Ev → SR) : Ev → SR := fun δ => match δ[i]? with
  | some (.od kvs) => F (δ.set i (.pu (.dic kvs)))
  | _ => .bad
theorem dss_frzD (i : Nat) {sts : List Stmt} {F : Ev → SR} (A : PSSD X W sts F) : PSSD X W sts (sFzD i F) := by
  obtain ⟨ta, pa, ha⟩ := A.ex
  refine ⟨fun D σ H => ∃ a kvs, σ[i]? = some (some (.ref a)) ∧ H a = some (.dK kvs) ∧ ∀ o, ta D σ (upd H a (.frz o (.dK kvs))), ⟨fun pins s σ H D I ⟨a, kvs, _, e, h⟩ => ?_⟩, fun {B0 G H δ σ D} S h => ?_⟩
  · obtain ⟨o, I2⟩ := I.lock e trivial
    exact pa.run pins s σ _ D I2 (h o)
  · unfold sFzD at h
    split at h
    · rename_i kvs e
      obtain ⟨q, es, h0, hg, vs, hp, r⟩ := S.own e rfl
      refine ⟨q, vs, es, hp, fun o => ?_⟩
      have t2 := tr_own_upd S.tr (.frz o (.dK vs)) h0 hg (is_na hp)
      obtain ⟨t3, gg⟩ := t2.freeze h0 hg upd_same
      have S' : SOk X.K B0 (upd G q (.frz o (.dK vs))) (upd H q (.frz o (.dK vs))) (δ.set i .un) (σ.set i (some (.ref q))) := by
        have Sf := S.forget i (some (.ref q))
        refine ⟨t3, Sf.len, fun j u e' => ?_, Sf.dj, Sf.me, S.h0⟩
        by_cases qi : i = j
        · subst qi
          have hi : i < δ.length := (List.getElem?_eq_some_iff.mp e).1
          rw [List.getElem?_set_self hi] at e'
          cases e'; trivial
        · have z := Sf.sl j u e'
          have ne : ∀ b, isOwn u = true → (σ.set i (some (.ref q)))[j]?.join = some (.ref b) → b ≠ q := fun b ou hb z => by
            subst z
            rw [List.getElem?_set_ne qi] at e' hb
            exact qi (S.dj i j _ u b e e' rfl ou es (join_some hb))
          exact z.step gg (fun b ob ou hb h1 => by rw [upd_ne (ne b ou hb)]; exact h1) fun b ou hb _ hgb => by rw [upd_ne (ne b ou hb)]; exact hgb
      have S2 := S'.set i (show DRep X.K _ (.ref q) (.dic kvs) from .dic upd_same (RP.mono gg r.to).k)
      rw [List.set_set, List.set_set] at S2
      have es' : σ.set i (some (.ref q)) = σ := by
        apply List.ext_getElem?
        intro j
        by_cases qj : i = j
        · subst qj
          rw [List.getElem?_set_self (List.getElem?_eq_some_iff.mp es).1, es]
        · rw [List.getElem?_set_ne qj]
      rw [es'] at S2
      exact ha S2 (h.gg gg)
    · exact h.elim
end
end LD

set_option maxHeartbeats 2000000
/-! Layer D, part O: dicts walked, stars, index, extend, while, two own lists at once. -/
namespace LD
open PySem PySem.Spec PyProof.Rows L2
variable [Tbs]

section
variable {X : Cx} {W : WX} {a b c e : Expr} {es : List Expr} {fa fb fc : Ev → R DV} {fes : Ev → R (List DV)} {fd : Ev → R (List (Key × DV))} {pos p : Pos} {k : Nat} {tg iter : Expr}
/-! ### len, list of dicts too -/
def oLenU : List DV → R DV
  | [.dic kvs] => .ok (.int kvs.length)
  | xs => oLen xs
def rLenU (X : Cx) : List V → Hp → VK → Prop := fun xs H Q => (∃ x n, xs = [x] ∧ LenV X.K x H n ∧ Q (.int n) H) ∨ ∃ a kvs, xs = [V.ref a] ∧ Rd H a (.dK kvs) ∧ Q (.int kvs.length) H
theorem call_lenU : CallR X (.builtin "len") (rLenU X) := CallR.or call_len fun pins s σ H xs us Q I r ⟨a, kvs, e, ha, q⟩ => by
  subst e
  obtain ⟨u, rfl, ru⟩ := vals1 r
  cases ru
  exact d_len I ha fun t s' I' => ⟨.int kvs.length, H, I', ⟨t, rfl⟩, q⟩
theorem cb_lenU : CbD X (rLenU X) oLenU := fun {G H vs ds Q W} s r h => by
  by_cases hd : ∃ kvs, ds = [.dic kvs]
  · obtain ⟨kvs, rfl⟩ := hd
    cases r with
    | cons ra rb =>
      cases rb
      cases ra with
      | @dic a1 o ws _ e0 r0 =>
        refine .inr ⟨a1, ws, rfl, .inr ⟨o, s _ _ e0⟩, ?_⟩
        rw [r0.to.length]
        exact Rq.ok_self (rep := DRep X.K) s h (.int _)
  · have e : oLenU ds = oLen ds := by
      unfold oLenU
      split
      · rename_i kvs; exact absurd ⟨kvs, rfl⟩ hd
      · rfl
    rw [e] at h
    exact .inl (cb_len s r h)
def oListU : List DV → R DV
  | [.dic kvs] => .ok (.lst (kvs.map fun kv => kD kv.1))
  | xs => oList xs
def rListU (X : Cx) : List V → Hp → VK → Prop := fun xs H Q => (∃ p ys, xs = [.ref p] ∧ (SqL X.K H p ys ∨ SqT X.K H p ys) ∧ ∀ l, H l = none → Q (.ref l) (upd H l (.lst ys))) ∨ ∃ (a : Addr) (kvs : List (Key × V)), xs = [.ref a] ∧ Rd H a (.dK kvs) ∧ ∀ p, H p = none → Q (.ref p) (upd H p (.lst (kvs.map fun kv => kV kv.1)))
theorem call_listU (hc : X.calm = true) : CallR X (.type "list") (rListU X) := CallR.or call_list_of (call_listD hc)
theorem keys_rep {K : PySem.W.Frag} {G : Hp} : ∀ {vs : List (Key × V)} {ds : List (Key × DV)}, RP K G vs ds → DReps K G (vs.map fun kv => kV kv.1) (ds.map fun kv => kD kv.1)
  | _, _, .nil => .nil
  | _, _, .cons (k := k) a b => .cons (kD_rep G k) (keys_rep b)
theorem cb_listU : CbD X (rListU X) oListU := fun {G H vs ds Q W} s r h => by
  by_cases hd : ∃ kvs, ds = [.dic kvs]
  · obtain ⟨kvs, rfl⟩ := hd
    cases r with
    | cons ra rb =>
      cases rb
      cases ra with
      | @dic a1 o ws _ e0 r0 =>
        exact .inr ⟨a1, ws, rfl, .inr ⟨o, s _ _ e0⟩, fun q hq => Rq.ok_new (rep := DRep X.K) s hq h (.lst upd_same ((keys_rep r0.to).mono (Same.upd (s.none hq))))⟩
  · have e : oListU ds = oList ds := by
      unfold oListU
      split
      · rename_i kvs; exact absurd ⟨kvs, rfl⟩ hd
      · rfl
    rw [e] at h
    exact .inl (cb_list s r h)
/-! ### dicts walked -/
theorem walks_keys {K : PySem.W.Frag} {G : Hp} {d : Addr} {o : Obj} {vs : List (Key × V)} {ds : List (Key × DV)} (h : G d = some (.frz o (.dK vs))) (r : RP K G vs ds) : Walks K (Itk d o vs) (ds.map fun kv => kD kv.1) G := by
  refine ⟨fun H s => ⟨s _ _ h, by rw [List.length_map, r.length]; exact Nat.le_refl _⟩, fun i H s hi => ⟨s _ _ h, by rw [List.length_map] at hi; rw [r.length]; exact hi⟩, fun i H x H' Gc g s hi y => ?_⟩
  obtain ⟨rfl, k, v, e, rfl⟩ := y
  obtain ⟨d', e', _⟩ := r.get e
  exact ⟨Gc, kD k, Tr.refl s, by rw [List.getElem?_map, e']; rfl, kD_rep Gc k⟩
theorem walks_vals {K : PySem.W.Frag} {G : Hp} {d : Addr} {o : Obj} {vs : List (Key × V)} {ds : List (Key × DV)} (h : G d = some (.frz o (.dK vs))) (r : RP K G vs ds) : Walks K (Itd d o vs) (ds.map fun kv => kv.2) G := by
  refine ⟨fun H s => ⟨s _ _ h, by rw [List.length_map, r.length]; exact Nat.le_refl _⟩, fun i H s hi => ⟨s _ _ h, by rw [List.length_map] at hi; rw [r.length]; exact hi⟩, fun i H x H' Gc g s hi y => ?_⟩
  obtain ⟨rfl, k, e⟩ := y
  obtain ⟨d', e', p⟩ := r.get e
  exact ⟨Gc, d', Tr.refl s, by rw [List.getElem?_map, e']; rfl, p.mono g⟩
theorem walks_items {K : PySem.W.Frag} {G : Hp} {d : Addr} {o : Obj} {vs : List (Key × V)} {ds : List (Key × DV)} (h : G d = some (.frz o (.dK vs))) (r : RP K G vs ds) : Walks K (Iti d o vs) (ds.map fun kv => .tup [kD kv.1, kv.2]) G := by
  refine ⟨fun H s => ⟨s _ _ h, by rw [List.length_map, r.length]; exact Nat.le_refl _⟩, fun i H s hi => ⟨s _ _ h, by rw [List.length_map] at hi; rw [r.length]; exact hi⟩, fun i H x H' Gc g s hi y => ?_⟩
  obtain ⟨T, k, v, e, rfl, hT, rfl⟩ := y
  obtain ⟨d', e', p⟩ := r.get e
  have gn := Same.upd (o := .tup [kV k, v]) (s.none hT)
  exact ⟨upd Gc T (.tup [kV k, v]), .tup [kD k, d'], Tr.new s _ hT, by rw [List.getElem?_map, e']; rfl, .tup upd_same (.cons (kD_rep _ k) (.cons ((p.mono g).mono gn) .nil))⟩
def asDicK : DV → R (List DV)
  | .dic kvs => .ok (kvs.map fun kv => kD kv.1)
  | _ => .bad
def asDicV : DV → R (List DV)
  | .dic kvs => .ok (kvs.map fun kv => kv.2)
  | _ => .bad
def asDicI : DV → R (List DV)
  | .dic kvs => .ok (kvs.map fun kv => .tup [kD kv.1, kv.2])
  | _ => .bad
theorem di_keys (A : PD X W iter fa) : PID X W tg iter (xSrc asDicK fa) := by
  obtain ⟨ta, pa, ha⟩ := A.ex
  refine ⟨_, pi_keys pa, fun {B0 G H δ σ Q} S h => ?_⟩
  refine ha S (Rq.bind (rep := DRep X.K) h fun x ex v H1 G1 t1 r1 h1 => ?_)
  cases r1 with
  | @dic a1 o vs ds e0 r => exact ⟨a1, o, rfl, .inl ⟨vs, t1.gh _ _ e0, h1 _ H1 G1 (Tr.refl t1.gh) (walks_keys e0 r.to)⟩⟩
  | _ => exact h1.elim
theorem di_values {apos cpos : Pos} (A : PD X W a fa) (hbase : attributeBase a "values" X.env (eval a X.env) = eval a X.env := by rfl) (hline : (apos.endLine == cpos.line) = true := by rfl) : PID X W tg (.Call (.Attribute a "values" apos) [] [] cpos) (xSrc asDicV fa) := by
  obtain ⟨ta, pa, ha⟩ := A.ex
  refine ⟨_, pi_values pa hbase hline, fun {B0 G H δ σ Q} S h => ?_⟩
  refine ha S (Rq.bind (rep := DRep X.K) h fun x ex v H1 G1 t1 r1 h1 => ?_)
  cases r1 with
  | @dic a1 o vs ds e0 r => exact ⟨a1, o, vs, rfl, t1.gh _ _ e0, h1 _ H1 G1 (Tr.refl t1.gh) (walks_vals e0 r.to)⟩
  | _ => exact h1.elim
theorem di_items {apos cpos tpos : Pos} {elts : List Expr} {kk : Nat} (A : PD X W a fa) (hbase : attributeBase a "items" X.env (eval a X.env) = eval a X.env := by rfl) (hline : (apos.endLine == cpos.line) = true := by rfl) : PID X W (.Tuple elts kk tpos) (.Call (.Attribute a "items" apos) [] [] cpos) (xSrc asDicI fa) := by
  obtain ⟨ta, pa, ha⟩ := A.ex
  refine ⟨_, pi_items pa hbase hline, fun {B0 G H δ σ Q} S h => ?_⟩
  refine ha S (Rq.bind (rep := DRep X.K) h fun x ex v H1 G1 t1 r1 h1 => ?_)
  cases r1 with
  | @dic a1 o vs ds e0 r => exact ⟨a1, o, vs, rfl, t1.gh _ _ e0, h1 _ H1 G1 (Tr.refl t1.gh) (walks_items e0 r.to)⟩
  | _ => exact h1.elim
/-- a list, a tuple, a text, a dict's keys -/
def asAnyU : DV → R (List DV)
  | .dic kvs => .ok (kvs.map fun kv => kD kv.1)
  | x => asAny x
theorem di_anyU (A : PD X W iter fa) : PID X W tg iter (xSrc asAnyU fa) := by
  obtain ⟨wl, pl, hl⟩ := (di_any (tg := tg) A).ex
  obtain ⟨wk, pk, hk⟩ := (di_keys (tg := tg) A).ex
  refine ⟨_, PI.or pl pk, fun {B0 G H δ σ Q} S h => ?_⟩
  unfold xSrc at h
  cases q : fa δ with
  | bad => rw [q] at h; exact h.elim
  | exc c fs => exact .inl (hl S (by unfold xSrc; rw [q] at h ⊢; exact h))
  | ok d =>
    rw [q] at h
    cases d with
    | dic kvs => exact .inr (hk S (by unfold xSrc; rw [q]; exact h))
    | _ => exact .inl (hl S (by unfold xSrc; rw [q]; exact h))
/-! ### stars -/
def asStar : DV → R (List DV)
  | .tup xs => .ok xs
  | .lst xs => .ok xs
  | .ro xs => .ok xs
  | _ => .bad
def xStar (fa : Ev → R DV) (r : Ev → R (List DV)) : Ev → R (List DV) := fun δ => (fa δ).bind fun x => (asStar x).bind fun xs => (r δ).bind fun ys => .ok (xs ++ ys)
theorem da_star (A : PD X W a fa) (B : PDA X W es fes) (hs : starEach (.Starred a p :: es) X.env = (true, eval a X.env) :: starEach es X.env := by rfl) : PDA X W (.Starred a p :: es) (xStar fa fes) := by
  obtain ⟨ta, pa, ha⟩ := A.ex
  obtain ⟨tb, pb, hb⟩ := B.ex
  refine ⟨_, StX.pa_star pa pb hs, fun {B0 G H δ σ Q} S h => ?_⟩
  refine ha S (Rq.bind (rep := DRep X.K) h fun x ex v H1 G1 t1 r1 h1 => ?_)
  have go : ∀ {q : Addr} {vs : List V} {ds : List DV}, DReps X.K G1 vs ds → (SqT X.K H1 q vs ∨ SqL X.K H1 q vs) → Rq X.K (DReps X.K) (fun c d H' => W c d σ H') G1 H1 ((fes δ).bind fun ys => .ok (ds ++ ys)) Q → ∃ p xs, V.ref q = V.ref p ∧ (SqT X.K H1 p xs ∨ SqL X.K H1 p xs) ∧ tb σ H1 fun ys H2 => Q (xs ++ ys) H2 := fun {q vs ds} r hs h2 =>
    ⟨q, vs, rfl, hs, hb (S.step t1) (Rq.bind (rep := DReps X.K) h2 fun ys ey ws H2 G2 t2 r2 h3 => Rq.ok_self (rep := DReps X.K) t2.gh h3 ((r.mono t2.gg).append r2))⟩
  cases r1 with
  | tup e r => exact go r (.inl (SqT.of (t1.gh _ _ e))) h1
  | lst e r => exact go r (.inr (SqL.of (t1.gh _ _ e))) h1
  | ro e r => exact go r (.inr (Same.seq t1.gh.s e)) h1
  | _ => exact h1.elim
/-! ### xs.index(x) -/
def oIndex : DV → DV → R DV := fun l x => match l, x with
  | .lst ds, .str z => (match strsOf ds with
    | some ys => if decide (z ∈ ys) then .ok (.int (ys.idxOf z : Nat)) else .bad
    | none => .bad)
  | _, _ => .bad
theorem mt_index : MtR X "list.index" (fun x xs H Q => ∃ p, ∃ ys : List Str, ∃ z, x = .ref p ∧ xs = [.str z] ∧ SqL X.K H p (ys.map V.str) ∧ z ∈ ys ∧ Q (.int (ys.idxOf z : Nat)) H) := by
  intro pins s σ H x xs v us Q I rx rs ⟨p, ys, z, ex, exs, hq, hz, q⟩
  subst ex exs
  cases rx
  obtain ⟨u, rfl, t, rfl⟩ := vals1 rs
  obtain ⟨its, r, pl, hl⟩ := I.list hq
  exact PySem.SeqAt.list_index_strs pl.isList (strsAre_of r) (by rw [List.length_map] at hl; exact hl) hz ⟨.int _, H, I.tok _, ⟨_, rfl⟩, q⟩
theorem od_index : ∀ {G H : Hp} {x y : V} {dx dy : DV} {Q : VK} {W : Value → Option Addr → Hp → Prop}, Gh G H → DRep X.K G x dx → DRep X.K G y dy → Rq X.K (DRep X.K) W G H (oIndex dx dy) Q →
    ∃ p, ∃ ys : List Str, ∃ z, x = .ref p ∧ [y] = [V.str z] ∧ SqL X.K H p (ys.map V.str) ∧ z ∈ ys ∧ Q (.int (ys.idxOf z : Nat)) H := by
  intro G H x y dx dy Q W s rx ry h
  cases rx with
  | @lst a1 vs ds e r =>
    cases ry with
    | str z =>
      have h2 : Rq X.K (DRep X.K) W G H (match strsOf ds with
        | some ys => if decide (z ∈ ys) = true then .ok (.int (ys.idxOf z : Nat)) else .bad
        | none => .bad) Q := h
      cases q : strsOf ds with
      | none => rw [q] at h2; exact h2.elim
      | some ys =>
        rw [q] at h2
        obtain ⟨c, h3⟩ := rq_if h2
        rw [strsOf_rep r q] at e
        exact ⟨a1, ys, z, rfl, rfl, SqL.of (s _ _ e), of_decide_eq_true c, Rq.ok_self (rep := DRep X.K) s h3 (.int _)⟩
    | _ => exact h.elim
  | _ => cases ry <;> exact h.elim
def isLstD : DV → Bool
  | .lst _ => true
  | _ => false
def xIdx (fa fb : Ev → R DV) : Ev → R DV := fun δ => (fa δ).bind fun x => if isLstD x = true then (fb δ).bind (oIndex x) else .bad
theorem d_index {apos cpos : Pos} (A : PD X W a fa) (B : PD X W b fb) (hs : starEach (b :: []) X.env = (false, eval b X.env) :: starEach [] X.env := by rfl) (hbase : attributeBase a "index" X.env (eval a X.env) = eval a X.env := by rfl)
    (hfew : ((backTo cpos (starEach [b] X.env)).all (fun x => !x.1) && (backToKw cpos (keywordEach [] X.env)).all (fun x => x.1.isSome)
      && decide (([b] : List Expr).length + ([] : List Keyword).length + (if ([] : List Keyword).isEmpty then 0 else 1) < 30)) = true := by rfl)
    (hline : (apos.endLine == cpos.line) = true := by rfl) : PD X W (.Call (.Attribute a "index" apos) [b] [] cpos) (xIdx fa fb) := by
  obtain ⟨ta, pa, ha⟩ := A.ex
  obtain ⟨tb, pb, hb⟩ := B.ex
  refine ⟨_, pe_bm F.plainAttrs_list F.slot_list_index F.type_list_index mt_index pa (pa_cons pb pa_nil hs) hbase hfew hline hs, fun {B0 G H δ σ Q} S h => ?_⟩
  refine ha S (Rq.bind (rep := DRep X.K) h fun x ex v H1 G1 t1 r1 h1 => ?_)
  cases hl : isLstD x with
  | false => rw [hl] at h1; exact h1.elim
  | true =>
    rw [hl, if_pos rfl] at h1
    refine ⟨?_, hb (S.step t1) (Rq.bind (rep := DRep X.K) h1 fun y ey w H2 G2 t2 r2 h2 => od_index t2.gh (r1.mono t2.gg) r2 h2)⟩
    cases r1 with
    | lst e r => exact .inl ⟨rfl, _, SqL.of (t1.gh _ _ e)⟩
    | _ => cases hl
/-! ### x.extend(e), x's own list -/
def sExt (i : Nat) (f : Ev → R DV) : Ev → SR := fun δ => match δ[i]? with
  | some (.ol ds) => xS (f δ) δ fun d => (match d with
    | .lst es => if Nat.ble (ds.length + es.length) 16777216 then .nx (δ.set i (.ol (ds ++ es))) else .bad
    | _ => .bad)
  | _ => .bad
theorem ds_ext (i : Nat) {x : Str} {pos' p3 p4 : Pos} (A : PD X W a fa) (hN : X.N[i]? = some x := by rfl) (hv : Vis X.env.scope x := by first | exact Or.inl rfl | exact Or.inr (Or.inl rfl) | exact Or.inr (Or.inr rfl)) (hd : (x == ("__debug__" : Str)) = false := by decide)
    (hcd : (x == ("__classdict__" : Str)) = false := by decide)
    (hs : starEach (a :: []) X.env = (false, eval a X.env) :: starEach [] X.env := by rfl) (hbase : attributeBase (.Name x pos') "extend" X.env (eval (.Name x pos') X.env) = eval (.Name x pos') X.env := by rfl)
    (hfew : ((backTo p4 (starEach [a] X.env)).all (fun x => !x.1) && (backToKw p4 (keywordEach [] X.env)).all (fun x => x.1.isSome)
      && decide (([a] : List Expr).length + ([] : List Keyword).length + (if ([] : List Keyword).isEmpty then 0 else 1) < 30)) = true := by rfl)
    (hline : (p3.endLine == p4.line) = true := by rfl) (hsw : swapsWith (.Call (.Attribute (.Name x pos') "extend" p3) [a] [] p4) none pos.line X.env = pure false := by rfl) :
    PSD X W (.Expr (.Call (.Attribute (.Name x pos') "extend" p3) [a] [] p4) pos) (sExt i fa) := by
  obtain ⟨ta, pa, ha⟩ := A.ex
  have pv' : PE X (.Name x pos') (tVar i) := L2.pv i hN hv hd hcd
  refine ⟨_, ps_expr (pe_bm F.plainAttrs_list F.slot_list_extend F.type_list_extend mt_extend pv' (pa_cons pa pa_nil hs) hbase hfew hline hs) hsw, fun {B0 G H δ σ D} S h => ?_⟩
  unfold sExt at h
  split at h
  · rename_i ds e
    obtain ⟨p, es, h0, hg, vs, hp, r⟩ := S.own e rfl
    refine ⟨_, es, .inl ⟨rfl, _, SqL.of hp⟩, ha S (SRq.of S h fun d ed v H1 G1 t1 r1 h1 => ?_)⟩
    cases r1 with
    | @lst b ws ys e1 r1 =>
      have h2 : SRq X.K W D B0 G1 (if Nat.ble (ds.length + ys.length) 16777216 = true then .nx (δ.set i (.ol (ds ++ ys))) else .bad) := h1
      cases c : Nat.ble (ds.length + ys.length) 16777216 with
      | false => rw [c] at h2; exact h2.elim
      | true =>
        rw [c, if_pos rfl] at h2
        have S1 := S.step t1
        have hp1 := t1.sm _ _ hp
        have hg1 : G1 p = none := by rw [t1.nw p hp]; exact hg
        refine ⟨p, b, vs, ws, rfl, rfl, hp1, t1.gh _ _ e1, ?_, ?_⟩
        · rw [r.length, r1.length, sizeLine_eq]; exact Nat.le_of_ble_eq_true c
        · exact h2 _ _ _ (Same.refl _) (own_upd S1 e rfl es h0 hg1 rfl (fun _ _ z => nomatch z) ⟨vs ++ ws, upd_same, (r.mono t1.gg).append r1⟩)
    | _ => exact h1.elim
  · exact h.elim
/-! ### while -/
def whileD (c : Ev → R Bool) (F : Ev → SR) : Nat → Ev → SR
  | 0, _ => .bad
  | n + 1, δ => xS (c δ) δ fun b => if b = true then (match F δ with
    | .nx δ' => whileD c F n δ'
    | .ct δ' => whileD c F n δ'
    | .bk δ' => .nx δ'
    | .rt d => .rt d
    | .ex cl fs δ' => .ex cl fs δ'
    | .bad => .bad) else .nx δ
def sWhile (n : Nat) (c : Ev → R Bool) (F : Ev → SR) : Ev → SR := whileD c F n
theorem ds_while (n : Nat) {sts : List Stmt} {gc : Ev → R Bool} {F : Ev → SR} (hp : PassesOwn (model X.prog X.w) X.A X.env X.xe) (C : PDT X W c gc) (B : PSSD X W sts F) : PSD X W (.While c sts [] pos) (sWhile n gc F) := by
  obtain ⟨tc, pc, hc⟩ := C.ex
  obtain ⟨tb, pb, hb⟩ := B.ex
  refine ⟨_, ps_while hp pc pb, fun {B0 G H δ σ D} S h => ?_⟩
  refine ⟨fun m σ H => ∃ δ' G', Same G G' ∧ SOk X.K B0 G' H δ' σ ∧ SRq X.K W D B0 G' (whileD gc F m δ'), ⟨n, δ, G, Same.refl _, S, h⟩, ?_⟩
  rintro m σ H ⟨δ', G', gg, S', q⟩
  cases m with
  | zero => exact q.elim
  | succ m =>
    unfold whileD at q
    refine hc S' (SRq.of S' q fun b eb k H1 G1 t1 r1 q1 => ?_)
    cases r1
    have S1 := S'.step t1
    cases b with
    | false =>
      rw [if_neg (by decide)] at q1 ⊢
      exact q1 σ H1 G1 (Same.refl _) S1
    | true =>
      rw [if_pos rfl] at q1 ⊢
      refine ⟨fun σ' H' => ∃ δ2 G2, Same G G2 ∧ SOk X.K B0 G2 H' δ2 σ' ∧ SRq X.K W D B0 G2 (whileD gc F m δ2), fun σ' H' z => ⟨m, Nat.lt_succ_self m, z⟩, hb S1 ?_⟩
      have gg1 := gg.trans t1.gg
      cases eF : F δ' with
      | nx δ2 => rw [eF] at q1; exact fun σ4 H4 G4 g4 S4 => ⟨δ2, G4, gg1.trans g4, S4, q1.gg g4⟩
      | ct δ2 => rw [eF] at q1; exact fun σ4 H4 G4 g4 S4 => ⟨δ2, G4, gg1.trans g4, S4, q1.gg g4⟩
      | bk δ2 => rw [eF] at q1; exact q1
      | rt d => rw [eF] at q1; exact q1
      | ex c fs δ2 => rw [eF] at q1; exact q1
      | bad => rw [eF] at q1; exact q1
end
end LD

set_option maxHeartbeats 2000000
/-! Layer D, part R: a class's own len, in, [], (). -/
namespace LD
open PySem PySem.Spec PyProof.Rows L2
variable [Tbs]

structure OwnM (K : PySem.W.Frag) (c m : Str) : Prop where
  kc : KC K c
  me : Meth K (He.ga K c) m (He.ma K (He.ga K c) m)
  fn : PySem.W.fnIn K (He.ma K (He.ga K c) m) = true
theorem ownB_ok {K : PySem.W.Frag} {c m : Str} (h : ownB c m K = true) : OwnM K c m := by
  obtain ⟨h1, h2⟩ := He.ba h
  obtain ⟨h1, h3⟩ := He.ba h1
  exact ⟨kcB_ok h1, He.meth_ok h3, h2⟩
section
variable {X : Cx} {W : WX} {a b c e : Expr} {es : List Expr} {fa fb fc : Ev → R DV} {fes : Ev → R (List DV)} {pos p : Pos} {k j : Nat} {ps : List Str} {m : Mir} {cn : Str}
theorem ins_at {pins : List (Addr × Obj)} {σ : L2.St} {H : Hp} {s : Shared} {a C dx : Addr} {fs : List (Str × V)} (I : Inv X pins σ H s) (h : H a = some (.ins C dx fs)) : ∃ od, PySem.W.InstAt s.heap a (PySem.W.instObj C dx) C (some od) := by
  obtain ⟨mA, J, _⟩ := ins_get I.hok h
  obtain ⟨od, J, _⟩ := J.look
  exact ⟨od, J⟩

/-! ### in -/
def rInO (sp : Sp) (K : PySem.W.Frag) (c : Str) (neg : Bool) : R2 := fun x y H Q => ∃ b dx fs, y = .ref b ∧ H b = some (.ins (He.ga K c) dx fs) ∧ sp [y, x] H (fun v H' => ∃ k, v = .bl k ∧ Q (.bl (if neg then !k else k)) H') E0
theorem or_inO {neg : Bool} {sp : Sp} (o : OwnM X.K cn "__contains__") (F : FO X.prog X.w X.K X.mg X.base k (He.ma X.K (He.ga X.K cn) "__contains__") ps sp) (hr : Room j X.A) (hj : k ≤ j) : OpR X (compareOp (if neg then .NotIn else .In)) (rInO sp X.K cn neg) := by
  intro pins s σ H x y v u Q I rx ry ⟨b, dx, fs, ey, hb, hsp⟩
  subst ey
  obtain rfl : u = Value.ref b := ry
  obtain ⟨fd, F, hbn⟩ := F
  obtain ⟨od, J⟩ := ins_at I hb
  obtain ⟨mm, hF⟩ := I.fr
  have go := run_fn (Q := fun v H' => ∃ k, v = V.bl k ∧ Q (.bl (if neg then !k else k)) H') (E := E0) (us := [.ref b, v]) (vs := [.ref b, x]) F (hr.mono hj) hbn .nil passL I (.cons rfl (.cons rx .nil)) (by simpa using hsp)
  have fin : wpAny (model X.prog X.w) X.A (call (.ref (He.ma X.K (He.ga X.K cn) "__contains__")) [.ref b, v]) (fun r s' => wpAny (model X.prog X.w) X.A (truthy r) (fun bb => EP X pins σ Q (.bool (if neg then !bb else bb))) X.xe s') X.xe s := by
    refine wpAny_mono go (fun r s' hq => ?_) fun _ _ z => z
    obtain ⟨z, H', I', rz, kk, ek, q⟩ := hq
    subst ek
    cases (show r = Value.bool kk from rz)
    exact wpAny_truthy_bool ⟨.bl _, H', I', rfl, q⟩
  cases neg with
  | true => exact PySem.W.notIn_K hF I.ok.mod.kin J o.me.at_ o.me.fn fin
  | false => exact PySem.W.in_K hF I.ok.mod.kin J o.me.at_ o.me.fn fin
/-- in, an instance of the class cn to the right too -/
def oInV (neg : Bool) (cn : Str) (m : Mir) (x y : DV) : R DV := match y with
  | .obj c fs => if c = cn then (match m [.obj c fs, x] with
    | .ok (.bl b) => .ok (.bl (if neg then !b else b))
    | _ => .bad) else .bad
  | y => oInU neg x y
theorem od_inV {neg : Bool} : OpD X (fun x y H Q => rInU X neg x y H Q ∨ rInO (spD X.K m) X.K cn neg x y H Q) (oInV neg cn m) := fun {G H x y dx dy Q W} s rx ry h => by
  by_cases hd : ∃ c fs, dy = .obj c fs
  · obtain ⟨c, fs, rfl⟩ := hd
    cases ry with
    | @obj b dx' _ vs _ e r =>
      have h2 : Rq X.K (DRep X.K) W G H (if c = cn then (match m [.obj c fs, dx] with
        | .ok (.bl b) => .ok (.bl (if neg then !b else b))
        | _ => .bad) else .bad) Q := h
      by_cases q : c = cn
      · rw [if_pos q] at h2
        subst q
        refine .inr ⟨b, dx', vs, rfl, s _ _ e, G, [.obj c fs, dx], s, .cons (.obj e r) (.cons rx .nil), ?_⟩
        split at h2
        · rename_i bb eb
          rw [eb]
          intro v H' G' t rv
          cases rv
          exact ⟨bb, rfl, h2 (.bl _) H' G' t (.bl _)⟩
        · exact h2.elim
      · rw [if_neg q] at h2; exact h2.elim
  · have e : oInV neg cn m dx dy = oInU neg dx dy := by
      cases dy with
      | obj c fs => exact absurd ⟨c, fs, rfl⟩ hd
      | _ => rfl
    rw [e] at h
    exact .inl (od_inU s rx ry h)
theorem or_inV {neg : Bool} (hB : ownB cn "__contains__" X.K = true) (F : FO X.prog X.w X.K X.mg X.base k (He.ma X.K (He.ga X.K cn) "__contains__") ps (spD X.K m)) (hr : Room j X.A) (hj : k ≤ j) :
    OpR X (compareOp (if neg then .NotIn else .In)) (fun x y H Q => rInU X neg x y H Q ∨ rInO (spD X.K m) X.K cn neg x y H Q) := by
  cases neg with
  | true => exact OpR.or (or_notin hr) (or_inO (neg := true) (ownB_ok hB) F hr hj)
  | false => exact OpR.or (or_in hr) (or_inO (neg := false) (ownB_ok hB) F hr hj)
/-! ### len -/
def rLenO (sp : Sp) (K : PySem.W.Frag) (c : Str) : List V → Hp → VK → Prop := fun xs H Q => ∃ b dx fs, xs = [V.ref b] ∧ H b = some (.ins (He.ga K c) dx fs) ∧ sp xs H (fun v H' => ∃ n : Int, v = .int n ∧ 0 ≤ n ∧ n < 2 ^ 63 ∧ Q (.int n) H') E0
def oLenV (cn : Str) (m : Mir) : List DV → R DV
  | [.obj c fs] => if c = cn then (match m [.obj c fs] with
    | .ok (.int n) => if decide (0 ≤ n) && decide (n < 2 ^ 63) then .ok (.int n) else .bad
    | _ => .bad) else .bad
  | xs => oLenU xs
theorem call_lenO {sp : Sp} (o : OwnM X.K cn "__len__") (F : FO X.prog X.w X.K X.mg X.base k (He.ma X.K (He.ga X.K cn) "__len__") ps sp) (hr : Room j X.A) (hj : k + 1 ≤ j) : CallR X (.builtin "len") (rLenO sp X.K cn) := by
  intro pins s σ H xs us Q I r ⟨b, dx, fs, exs, hb, hsp⟩
  subst exs
  obtain ⟨u, rfl, ru⟩ := vals1 r
  obtain rfl : u = Value.ref b := ru
  obtain ⟨fd, F, hbn⟩ := F
  obtain ⟨od, J⟩ := ins_at I hb
  obtain ⟨mm, hF⟩ := I.fr
  refine PySem.W.len_K hF I.ok.mod.kin J o.me.at_ o.me.fn ?_
  have hr1 : Room k X.A.in1 := (hr.mono hj).in1
  have hl := F.len _ _ _ _ hsp
  have b0 := hbn s [.ref b] I.kIn (by simpa using hl)
  refine wpAny_call (codeAny_mono (F.run X.A.in1 X.stack s H ⟨[.ref b], []⟩ [.ref b] [.ref b] _ E0 hr1 I.env0.in1 (by simpa using b0) (.cons rfl .nil) hsp) fun r' s' hq => ?_)
  cases r' with
  | error er => exact (passL (X := X) pins σ H s er s' I hq)
  | ok fl =>
    cases fl with
    | ret w =>
      obtain ⟨v, H', I', rv, n, en, h0, h1, q⟩ := I.after hq
      subst en
      obtain ⟨t, ew⟩ : ∃ t, w = Value.int n t := rv
      subst ew
      exact ⟨⟨h0, h1⟩, ⟨.int n, H', I'.tok _, ⟨_, rfl⟩, q⟩⟩
    | next => exact False.elim hq
    | brk => exact False.elim hq
    | cont => exact False.elim hq
def rLenV (sp : Sp) (X : Cx) (c : Str) : List V → Hp → VK → Prop := fun xs H Q => rLenU X xs H Q ∨ rLenO sp X.K c xs H Q
theorem call_lenV (hB : ownB cn "__len__" X.K = true) (F : FO X.prog X.w X.K X.mg X.base k (He.ma X.K (He.ga X.K cn) "__len__") ps (spD X.K m)) (hr : Room j X.A) (hj : k + 1 ≤ j) : CallR X (.builtin "len") (rLenV (spD X.K m) X cn) :=
  CallR.or call_lenU (call_lenO (ownB_ok hB) F hr hj)
theorem cb_lenV : CbD X (rLenV (spD X.K m) X cn) (oLenV cn m) := fun {G H vs ds Q W} s r h => by
  by_cases hd : ∃ c fs, ds = [.obj c fs]
  · obtain ⟨c, fs, rfl⟩ := hd
    cases r with
    | cons ra rb =>
      cases rb
      cases ra with
      | @obj b dx' _ vs _ e r =>
        have h2 : Rq X.K (DRep X.K) W G H (if c = cn then (match m [.obj c fs] with
          | .ok (.int n) => if decide (0 ≤ n) && decide (n < 2 ^ 63) then .ok (.int n) else .bad
          | _ => .bad) else .bad) Q := h
        by_cases q : c = cn
        · rw [if_pos q] at h2
          subst q
          refine .inr ⟨b, dx', vs, rfl, s _ _ e, G, [.obj c fs], s, .cons (.obj e r) .nil, ?_⟩
          split at h2
          · rename_i n en
            rw [en]
            split at h2
            · rename_i hn
              obtain ⟨h0, h1⟩ := He.ba hn
              intro v H' G' t rv
              cases rv
              exact ⟨n, rfl, of_decide_eq_true h0, of_decide_eq_true h1, h2 (.int _) H' G' t (.int _)⟩
            · exact h2.elim
          · exact h2.elim
        · rw [if_neg q] at h2; exact h2.elim
  · have e : oLenV cn m ds = oLenU ds := by
      unfold oLenV
      split
      · rename_i c fs; exact absurd ⟨c, fs, rfl⟩ hd
      · rfl
    rw [e] at h
    exact .inl (cb_lenU s r h)
/-! ### two names at once, lists of their own; three names -/
def sParVL (i j : Nat) (fa : Ev → R DV) : Ev → SR := fun δ => xS (fa δ) δ fun d => .nx ((δ.set j (.ol [])).set i (.pu d))
theorem ds_parVL (i j : Nat) {x y : Str} {px py pt p2 : Pos} {kt k2 pt2} (hc : X.calm = true) (hN : X.N.Nodup) (A : PD X W a fa) (hi : X.N[i]? = some x := by rfl) (hj : X.N[j]? = some y := by rfl) (hij : i ≠ j := by decide)
    (hx : X.env.scope.names.lookup x = some .local := by rfl) (hy : X.env.scope.names.lookup y = some .local := by rfl)
    (hw : swappedStores [.Tuple [.Name x px, .Name y py] kt pt] (.Tuple [a, .List [] p2] k2 pt2) X.env = pure (some [x, y]) := by rfl)
    (hs : swapsWithSole [.Tuple [.Name x px, .Name y py] kt pt] (.Tuple [a, .List [] p2] k2 pt2) pos.line X.env = pure false := by rfl)
    (hs1 : starEach (a :: [.List [] p2]) X.env = (false, eval a X.env) :: starEach [.List [] p2] X.env := by rfl) (hs2 : starEach (.List [] p2 :: []) X.env = (false, eval (.List [] p2) X.env) :: starEach [] X.env := by rfl) :
    PSD X W (.Assign [.Tuple [.Name x px, .Name y py] kt pt] (.Tuple [a, .List [] p2] k2 pt2) pos) (sParVL i j fa) := by
  obtain ⟨ta, pa, ha⟩ := A.ex
  refine ⟨_, L2.ps_par hc hN hi hj hij hx hy (pa_cons pa (pa_cons (pe_lst pa_nil) pa_nil hs2) hs1) hw hs, fun {B0 G H δ σ D} S h => ?_⟩
  refine ha S (SRq.of S h fun d e v H1 G1 t1 r1 h1 => ?_)
  refine ⟨by decide, fun p hp => ⟨v, .ref p, rfl, ?_⟩⟩
  have S2 := (own_new (S.step t1) (s := .ol []) j hp rfl (fun _ _ z => nomatch z) ⟨[], upd_same, .nil⟩).set i r1

  exact h1 _ _ _ (Same.refl _) (by rw [List.set_comm _ _ hij]; exact S2)
def sParLL (i j : Nat) : Ev → SR := fun δ => .nx ((δ.set i (.ol [])).set j (.ol []))
theorem ds_parLL (i j : Nat) {x y : Str} {px py pt p1 p2 : Pos} {kt k2 pt2} (hc : X.calm = true) (hN : X.N.Nodup) (hi : X.N[i]? = some x := by rfl) (hj : X.N[j]? = some y := by rfl) (hij : i ≠ j := by decide)
    (hx : X.env.scope.names.lookup x = some .local := by rfl) (hy : X.env.scope.names.lookup y = some .local := by rfl)
    (hw : swappedStores [.Tuple [.Name x px, .Name y py] kt pt] (.Tuple [.List [] p1, .List [] p2] k2 pt2) X.env = pure (some [x, y]) := by rfl)
    (hs : swapsWithSole [.Tuple [.Name x px, .Name y py] kt pt] (.Tuple [.List [] p1, .List [] p2] k2 pt2) pos.line X.env = pure false := by rfl)
    (hs1 : starEach (.List [] p1 :: [.List [] p2]) X.env = (false, eval (.List [] p1) X.env) :: starEach [.List [] p2] X.env := by rfl) (hs2 : starEach (.List [] p2 :: []) X.env = (false, eval (.List [] p2) X.env) :: starEach [] X.env := by rfl) :
    PSD X W (.Assign [.Tuple [.Name x px, .Name y py] kt pt] (.Tuple [.List [] p1, .List [] p2] k2 pt2) pos) (sParLL i j) := by
  refine ⟨_, L2.ps_par hc hN hi hj hij hx hy (pa_cons (pe_lst pa_nil) (pa_cons (pe_lst pa_nil) pa_nil hs2) hs1) hw hs, fun {B0 G H δ σ D} S h => ?_⟩
  refine ⟨by decide, fun p hp => ⟨by decide, fun q hq => ⟨.ref p, .ref q, rfl, ?_⟩⟩⟩
  have S1 := own_new S (s := .ol []) i hp rfl (fun _ _ z => nomatch z) ⟨[], upd_same, .nil⟩
  exact h _ _ _ (Same.refl _) (own_new S1 (s := .ol []) j hq rfl (fun _ _ z => nomatch z) ⟨[], upd_same, .nil⟩)
def sPar3 (i j l : Nat) (fa fb fc : Ev → R DV) : Ev → SR := fun δ => xS (fa δ) δ fun d => xS (fb δ) δ fun e => xS (fc δ) δ fun g => .nx (((δ.set i (.pu d)).set j (.pu e)).set l (.pu g))
theorem ds_par3 (i j l : Nat) {c : Expr} {x y z : Str} {px py pz pt : Pos} {kt k2 pt2} (hc : X.calm = true) (hN : X.N.Nodup) (A : PD X W a fa) (B : PD X W b fb) (C : PD X W c fc) (hi : X.N[i]? = some x := by rfl) (hj : X.N[j]? = some y := by rfl) (hl : X.N[l]? = some z := by rfl) (hij : i ≠ j := by decide) (hil : i ≠ l := by decide) (hjl : j ≠ l := by decide)
    (hx : X.env.scope.names.lookup x = some .local := by rfl) (hy : X.env.scope.names.lookup y = some .local := by rfl) (hz : X.env.scope.names.lookup z = some .local := by rfl)
    (hw : swappedStores [.Tuple [.Name x px, .Name y py, .Name z pz] kt pt] (.Tuple [a, b, c] k2 pt2) X.env = pure (some [x, y, z]) := by rfl)
    (hs : swapsWithSole [.Tuple [.Name x px, .Name y py, .Name z pz] kt pt] (.Tuple [a, b, c] k2 pt2) pos.line X.env = pure false := by rfl)
    (hs1 : starEach (a :: [b, c]) X.env = (false, eval a X.env) :: starEach [b, c] X.env := by rfl) (hs2 : starEach (b :: [c]) X.env = (false, eval b X.env) :: starEach [c] X.env := by rfl) (hs3 : starEach (c :: []) X.env = (false, eval c X.env) :: starEach [] X.env := by rfl) :
    PSD X W (.Assign [.Tuple [.Name x px, .Name y py, .Name z pz] kt pt] (.Tuple [a, b, c] k2 pt2) pos) (sPar3 i j l fa fb fc) := by
  obtain ⟨ta, pa, ha⟩ := A.ex
  obtain ⟨tb, pb, hb⟩ := B.ex
  obtain ⟨tc, pc, hc'⟩ := C.ex
  refine ⟨_, L2.ps_par3 hc hN hi hj hl hij hil hjl hx hy hz (pa_cons pa (pa_cons pb (pa_cons pc pa_nil hs3) hs2) hs1) hw hs, fun {B0 G H δ σ D} S h => ?_⟩
  refine ha S (SRq.of S h fun d e v H1 G1 t1 r1 h1 => ?_)
  refine hb (S.step t1) (SRq.of (S.step t1) h1 fun d' e' v' H2 G2 t2 r2 h2 => ?_)
  refine hc' ((S.step t1).step t2) (SRq.of ((S.step t1).step t2) h2 fun d'' e'' v'' H3 G3 t3 r3 h3 => ?_)
  exact ⟨v, v', v'', rfl, h3 _ _ _ (Same.refl _) ((((((S.step t1).step t2).step t3).set i (r1.mono (t2.gg.trans t3.gg))).set j (r2.mono t3.gg)).set l r3)⟩
/-! ### o[i], o(..): the class's own -/
theorem run_fnS1 {f : Addr} {fd : FuncData} {sp : Sp} {E : L2.St → XK} {CX : CXT} {pins : List (Addr × Obj)} {σ : L2.St} {H : Hp} {s : Shared} {Q : VK} {us : List Value} {vs : List V} (F : FnOk X.prog X.w X.K X.mg X.base CX k f fd ps sp) (hr : Room (k + 1) X.A) (hb : Binds X.K fd ps []) (hx : PassesAt CX X σ (E σ))
    (I : Inv X pins σ H s) (r : Vals vs us) (h : sp vs H Q (E σ)) : wpAny (model X.prog X.w) X.A.in1 (call (.ref f) us) (EP X pins σ Q) X.xe s := by
  have hl : us.length = ps.length := by rw [← r.length]; exact F.len _ _ _ _ h
  have b := hb s us I.kIn (by rw [List.append_nil]; exact hl)
  rw [List.append_nil] at b
  refine wpAny_call (codeAny_mono (F.run X.A.in1 X.stack s H ⟨us, []⟩ us vs Q (E σ) hr.in1 I.env0.in1 b r h) fun r s' hq => ?_)
  cases r with
  | error e => exact hx pins H s e s' I hq
  | ok fl =>
    cases fl with
    | ret u => exact I.after hq
    | next => exact False.elim hq
    | brk => exact False.elim hq
    | cont => exact False.elim hq
theorem d_ixOwn (tk : Takes X W) (hB : ownB cn "__getitem__" X.K = true) (F : FO X.prog X.w X.K X.mg X.base k (He.ma X.K (He.ga X.K cn) "__getitem__") ps (spD X.K m)) (hr : Room j X.A) (hj : k + 1 ≤ j)
    (A : PD X W a fa) (B : PD X W b fb) (hs : ∀ x i, subscripted b true (.ref x) i = runValue (.builtin "lifetime.subscript" ⟨[.ref x, i], []⟩) := by intro _ _; with_unfolding_all rfl) : PD X W (.Subscript a b pos) (xMeth cn "__getitem__" m fa (xCons fb xNil)) := by
  obtain ⟨ta, pa, ha⟩ := A.ex
  obtain ⟨tb, pb, hb⟩ := B.ex
  obtain ⟨fd, F, hbn⟩ := F
  have o := ownB_ok hB
  refine ⟨fun σ H Q => ta σ H fun x H1 => tb σ H1 fun y H2 => ∃ p dx fs, x = .ref p ∧ H2 p = some (.ins (He.ga X.K cn) dx fs) ∧ spD X.K m [x, y] H2 Q (WE W σ), ⟨fun pins s σ H Q I h => ?_⟩, fun {B0 G H δ σ Q} S h => ?_⟩
  · refine Subscript_ (binT pa pb I h fun v u s2 x y H2 I2 rx ry q => ?_)
    obtain ⟨p, dx, fs, ex, e, hsp⟩ := q
    subst ex
    obtain rfl : v = Value.ref p := rx
    obtain ⟨od, J⟩ := ins_at I2 e
    obtain ⟨mm, hF⟩ := I2.fr
    exact PySem.W.sub_K hF I2.ok.mod.kin J o.me.at_ o.fn o.me.fn (run_fnS1 (vs := [.ref p, y]) (E := WE W) F (hr.mono hj) hbn (passAt tk σ) I2 (.cons rfl (.cons ry .nil)) hsp) (hs _ _)
  · refine ha S (Rq.bind (rep := DRep X.K) h fun d e v H1 G1 t1 r1 h1 => ?_)
    cases r1 with
    | obj e1 r =>
      rename_i a1 dx c vs fs
      have h2 : Rq X.K (DRep X.K) (fun c d H' => W c d σ H') G1 H1 (if c = cn then (match fs.lookup ("__getitem__" : Str) with
        | none => (xCons fb xNil δ).bind fun ds => m (.obj c fs :: ds)
        | some _ => .bad) else .bad) Q := h1
      by_cases q : c = cn
      · rw [if_pos q] at h2
        subst q
        cases q2 : fs.lookup ("__getitem__" : Str) with
        | some _ => rw [q2] at h2; exact h2.elim
        | none =>
          rw [q2] at h2
          have h3 : Rq X.K (DRep X.K) (fun c d H' => W c d σ H') G1 H1 ((fb δ).bind fun d => m [.obj c fs, d]) Q := by
            have : ((xCons fb xNil δ).bind fun ds => m (.obj c fs :: ds)) = (fb δ).bind fun d => m [.obj c fs, d] := by
              unfold xCons xNil
              cases fb δ <;> rfl
            rw [← this]; exact h2
          refine hb (S.step t1) (Rq.bind (rep := DRep X.K) h3 fun d ed w H2 G2 t2 r2 h4 => ?_)
          exact ⟨a1, dx, vs, rfl, (t1.trans t2).gh _ _ (t2.gg _ _ e1), G2, [.obj c fs, d], t2.gh, .cons (.obj (t2.gg _ _ e1) (r.mono t2.gg)) (.cons r2 .nil), h4⟩
      · rw [if_neg q] at h2; exact h2.elim
    | _ => exact h1.elim
def xCallO (cn : Str) (m : Mir) (i : Nat) (fes : Ev → R (List DV)) : Ev → R DV := fun δ => (xVar i δ).bind fun d => match d with
  | .obj c fs => if c = cn then (fes δ).bind fun ds => m (.obj c fs :: ds) else .bad
  | _ => .bad
theorem own_callWith {M : Model} {A : Around} {E : Value → Shared → Prop} {s : Shared} {x : Addr} {first : List Value} {Q : Value → Shared → Prop} {args : List (Bool × Sem Value)} {kws : List (Option Str × Sem Value)} (hp : (args.any (·.1) || kws.any (·.1.isNone)) = false)
    (h : wpAny M A (evalArgs (.ref x) true args kws) (fun a t => (∃ ob, t.heap.get? x = some ob ∧ ob.data = .plain) ∧ wpAny M A (call (.ref x) (first ++ a.pos) a.kw) Q E t) E s) : wpAny M A (callWith pos (.ref x) first args kws) Q E s := by
  unfold callWith
  refine wpAny_bind (wpAny_holding (wpAny_mono h (fun a t hh => ?_) fun _ _ z => z))
  obtain ⟨⟨ob, ho, hd⟩, hc⟩ := hh
  refine wpAny_bind (wpAny_standAt ?_)
  have kp : PySem.W.Looks M t.heap (keeperOf (.ref x)) .caller := by
    refine (PySem.W.Looks.ld (part := none) ho).andThen ?_
    rw [hd]
    exact .now
  rw [hp]
  refine wpAny_bind (kp.here ?_)
  exact wpAny_bind (wpAny_mono (wpAny_operateT hc) (fun r t' hr => wpAny_bind (wpAny_holding (wpAny_point (wpAny_pure hr)))) fun _ _ z => z)
theorem d_callO (i : Nat) {x : Str} {p : Pos} (tk : Takes X W) (hB : ownB cn "__call__" X.K = true) (F : FO X.prog X.w X.K X.mg X.base k (He.ma X.K (He.ga X.K cn) "__call__") ps (spD X.K m)) (hr : Room j X.A) (hj : k ≤ j)
    (A : PDA X W (a :: es) fes) (hN : X.N[i]? = some x := by rfl) (hv : Vis X.env.scope x := by first | exact Or.inl rfl | exact Or.inr (Or.inl rfl) | exact Or.inr (Or.inr rfl)) (hdb : (x == ("__debug__" : Str)) = false := by decide) (hcd : (x == ("__classdict__" : Str)) = false := by decide)
    (he : starEach (a :: es) X.env = (false, eval a X.env) :: starEach es X.env := by rfl) (hpl : (backTo pos (starEach es X.env)).any (·.1) = false := by rfl) : PD X W (.Call (.Name x p) (a :: es) [] pos) (xCallO cn m i fes) := by
  obtain ⟨ta, pa, ha⟩ := A.ex
  obtain ⟨fd, F, hbn⟩ := F
  have o := ownB_ok hB
  obtain ⟨tv, pv, hvq⟩ := (d_var (X := X) (W := W) (pos := p) i hN hv hdb hcd).ex
  refine ⟨fun σ H Q => tv σ H fun y H1 => ∃ p dx fs, y = .ref p ∧ H1 p = some (.ins (He.ga X.K cn) dx fs) ∧ ta σ H1 fun vs H2 => H2 p = some (.ins (He.ga X.K cn) dx fs) ∧ spD X.K m (y :: vs) H2 Q (WE W σ), ⟨fun pins s σ H Q I h => ?_⟩, fun {B0 G H δ σ Q} S h => ?_⟩
  · refine wpAny_Call_Name_kw (thn (pv.run pins s σ H _ I h) fun u s1 ⟨y, H1, I1, ry, q⟩ => ?_)
    obtain ⟨q0, dx, fs, ex, e, q⟩ := q
    subst ex
    obtain rfl : u = Value.ref q0 := ry
    rw [he]
    refine own_callWith (first := []) (by show ((false || (backTo pos (starEach es X.env)).any (·.1)) || false) = false; rw [hpl]; rfl) (Calls.evalArgs_plain ?_)
    have run := thn (pa.run pos pins s1 σ H1 _ I1 q) (Q' := fun us s2 => (∃ ob, s2.heap.get? q0 = some ob ∧ ob.data = .plain) ∧ wpAny (model X.prog X.w) X.A (call (.ref q0) ([] ++ us)) (EP X pins σ Q) X.xe s2) fun us s2 ⟨vs, H2, I2, r, e2, q2⟩ => ?_
    · rw [he] at run; exact run
    obtain ⟨od2, J2⟩ := ins_at I2 e2
    refine ⟨⟨_, J2.at_, rfl⟩, ?_⟩
    · refine wpAny_call (PySem.W.kco_code I2.kIn J2 rfl o.me.at_ o.me.fn o.fn ?_)
      have r2 : Vals (.ref q0 :: vs) (.ref q0 :: us) := .cons rfl r
      have hl : (Value.ref q0 :: us).length = ps.length := by rw [← r2.length]; exact F.len _ _ _ _ q2
      have b := hbn s2 (.ref q0 :: us) I2.kIn (by rw [List.append_nil]; exact hl)
      rw [List.append_nil] at b
      refine codeAny_mono (F.run X.A X.stack s2 H2 ⟨.ref q0 :: us, []⟩ (.ref q0 :: us) (.ref q0 :: vs) Q (WE W σ) (hr.mono hj) I2.env0 b r2 q2) fun r' s' hq => ?_
      cases r' with
      | error e => exact passAt tk σ pins H2 s2 e s' I2 hq
      | ok fl =>
        cases fl with
        | ret u => exact I2.after hq
        | next => exact False.elim hq
        | brk => exact False.elim hq
        | cont => exact False.elim hq
  · refine hvq S (Rq.bind (rep := DRep X.K) h fun d e v H1 G1 t1 r1 h1 => ?_)
    cases r1 with
    | obj e1 r =>
      rename_i a1 dx c vs fs
      have h2 : Rq X.K (DRep X.K) (fun c d H' => W c d σ H') G1 H1 (if c = cn then (fes δ).bind fun ds => m (.obj c fs :: ds) else .bad) Q := h1
      by_cases q : c = cn
      · subst q
        rw [if_pos rfl] at h2
        refine ⟨a1, dx, vs, rfl, t1.gh _ _ e1, ha (S.step t1) (Rq.bind (rep := DReps X.K) h2 fun ds ed ws H2 G2 t2 r2 h3 => ?_)⟩
        exact ⟨(t1.trans t2).gh _ _ (t2.gg _ _ e1), G2, .obj c fs :: ds, t2.gh, .cons (.obj (t2.gg _ _ e1) (r.mono t2.gg)) r2, h3⟩
      · rw [if_neg q] at h2; exact h2.elim
    | _ => exact h1.elim
end
end LD

set_option maxHeartbeats 2000000
/-! Layer D, part U: dict comprehensions. -/
namespace LD
open PySem PySem.Spec PyProof.Rows L2
variable [Tbs]

def dcD (g : DV → Ev → R Ev) (ft : Ev → R Bool) (fk fv : Ev → R DV) (δ : Ev) : List DV → R (List (Key × DV))
  | [] => .ok []
  | d :: ds => match g d δ with
    | .ok δ' => (noX (ft δ')).bind fun b => if b = true then (noX (fk δ')).bind fun y => (noX (fv δ')).bind fun z => (R.ofO (asKey y)).bind fun k => (dcD g ft fk fv δ ds).bind fun ys => .ok ((k, z) :: ys) else dcD g ft fk fv δ ds
    | _ => .bad
/-- a comprehension's dict -/
def xDcs (vs : List Nat) (fi : Ev → R (List DV)) (g : DV → Ev → R Ev) (ft : Ev → R Bool) (fk fv : Ev → R DV) : Ev → R (List (Key × DV)) := fun δ => (fi δ).bind fun ds => match dcD g ft fk fv (wipeD δ vs) ds with
  | .ok ys => if small ys.length = true then .ok (mergeD [] ys) else .bad
  | _ => .bad
theorem mergeD_len : ∀ (more kvs : List (Key × DV)), (mergeD kvs more).length ≤ kvs.length + more.length
  | [], kvs => by simp [mergeD]
  | kv :: more, kvs => by
    have h := mergeD_len more (putKD kvs kv.1 kv.2)
    have h2 := putKD_len kvs kv.1 kv.2
    show (mergeD (putKD kvs kv.1 kv.2) more).length ≤ _
    simp only [List.length_cons]
    omega
theorem mergeD_snoc (kvs more : List (Key × DV)) (kv : Key × DV) : mergeD kvs (more ++ [kv]) = putKD (mergeD kvs more) kv.1 kv.2 := by
  unfold mergeD
  rw [List.foldl_append]
  rfl
section
variable {X : Cx} {W : WX} {kx vx tg iter : Expr} {ifs : List Expr} {scope : Scope} {own : List (Str × Nat)} {pos : Pos} {fi : Ev → R (List DV)} {g : DV → Ev → R Ev} {ft : Ev → R Bool} {fk fv : Ev → R DV} {ix : List Nat}
theorem dc_req {wi : TI} {vs : List Nat} {B : Bas} {G H : Hp} {δ : Ev} {σ : L2.St} {Q : VK}
    (hw : ∀ {B : Bas} {G H : Hp} {δ : Ev} {σ : L2.St} {Q : It → Hp → Prop}, SOk X.K B G H δ σ → Rq X.K (fun G' J ds => Walks X.K J ds G') (fun c d H' => W c d σ H') G H (fi δ) Q → wi σ H Q)
    (hix : ∀ i ∈ ix, i ∈ vs) (S : SOk X.K B G H δ σ) (h : DRq X.K (fun c d H' => W c d σ H') G H (xDcs vs fi g ft fk fv δ) Q) : tDc wi (cG X.K ix g) (cT X.K W0 (fun δ => noX (ft δ))) (cE X.K W0 (fun δ => noX (fk δ))) (cE X.K W0 (fun δ => noX (fv δ))) vs σ H Q := by
  refine hw S (DRq.bind (rep := fun G' J ds => Walks X.K J ds G') h fun ds e J H1 G1 t1 wk h1 => ?_)
  intro D hD
  have S1 := S.step t1
  have hgD : G1 D = none := t1.gh.none hD
  have hbD : B.H0 D = none := S1.free hD
  cases ed : dcD g ft fk fv (wipeD δ vs) ds with
  | exc _ _ => rw [ed] at h1; exact h1.elim
  | bad => rw [ed] at h1; exact h1.elim
  | ok ys =>
    rw [ed] at h1
    cases hz : small ys.length with
    | false => dsimp only at h1; rw [hz, if_neg (by decide)] at h1; exact h1.elim
    | true =>
    dsimp only at h1
    rw [hz, if_pos rfl] at h1
    have ltot : ys.length ≤ sizeLine := small_le hz
    have Sw := (S1.wipe vs)
    have hne : ∀ (i : Nat) (s : Sl), (wipeD δ vs)[i]? = some s → isOwn s = true → (wipe σ vs)[i]? ≠ some (some (V.ref D)) := fun i s e o z => by
      obtain ⟨a, es, _, _, oa⟩ := Sw.own e o
      rw [z] at es
      have : D = a := by injection es with es; injection es with es; injection es
      subst this
      exact oa.there hD
    have Sw0 : SOk X.K B G1 (upd H1 D (.dK [])) (wipeD δ vs) (wipe σ vs) := Sw.other hbD hgD hne (fun u e => by rw [hD] at e; cases e)
    have t0 : Tr G1 H1 G1 (upd H1 D (.dK [])) := Tr.own t1.gh _ hD
    refine ⟨fun i m H => i ≤ ds.length ∧ m = ds.length - i ∧ ∃ G' acc accV zs, Tr G1 H1 G' H ∧ G' D = none ∧ H D = some (.dK accV) ∧ RP X.K G' accV (mergeD [] acc) ∧ SOk X.K B G' H (wipeD δ vs) (wipe σ vs) ∧ dcD g ft fk fv (wipeD δ vs) (ds.drop i) = .ok zs ∧ acc ++ zs = ys,
      ⟨ds.length, Nat.zero_le _, by simp, G1, [], [], ys, t0, hgD, upd_same, .nil, Sw0, by simpa using ed, rfl⟩, ?_⟩
    rintro i m H' ⟨hi, rfl, G', acc, accV, zs, t', hg', hH', rA, S', el, ea⟩
    by_cases hlt : i < ds.length
    · have sG : Same G1 H' := t'.gg.trans S'.gh
      refine .inr ⟨wk.go i H' sG hlt, fun H4 => ∃ G4 acc4 accV4 zs4, Tr G1 H1 G4 H4 ∧ G4 D = none ∧ H4 D = some (.dK accV4) ∧ RP X.K G4 accV4 (mergeD [] acc4) ∧ SOk X.K B G4 H4 (wipeD δ vs) (wipe σ vs) ∧ dcD g ft fk fv (wipeD δ vs) (ds.drop (i + 1)) = .ok zs4 ∧ acc4 ++ zs4 = ys,
        fun H4 z => ⟨ds.length - (i + 1), by omega, hlt, rfl, z⟩, fun x H2 y => ?_⟩
      obtain ⟨G2, d, t2, hd, rd⟩ := wk.yld i H' x H2 G' t'.gg S'.gh hlt y
      have edr : ds.drop i = d :: ds.drop (i + 1) := by
        rw [List.drop_eq_getElem_cons hlt]
        rw [List.getElem?_eq_getElem hlt] at hd
        rw [Option.some.inj hd]
      rw [edr] at el
      unfold dcD at el
      cases eg : g d (wipeD δ vs) with
      | exc _ _ => rw [eg] at el; cases el
      | bad => rw [eg] at el; cases el
      | ok δ' =>
        rw [eg] at el
        dsimp only at el
        refine ⟨B, G2, wipeD δ vs, δ', d, S'.step t2, rd, eg, fun σ' S2 w2 => ⟨by rw [w2 vs hix, wipe_idem], ?_⟩⟩
        cases et : ft δ' with
        | exc _ _ => rw [et] at el; cases el
        | bad => rw [et] at el; cases el
        | ok b =>
          rw [et] at el
          refine ⟨B, G2, δ', S2, ?_⟩
          show Rq X.K BRep _ G2 H2 (LD.noX (ft δ')) _
          rw [et]
          intro b' H3 G3 t3 eb
          cases eb
          cases b with
          | false =>
            rw [if_neg (by decide)]
            have el : dcD g ft fk fv (wipeD δ vs) (ds.drop (i + 1)) = .ok zs := el
            have tt := t2.trans t3
            refine ⟨G3, acc, accV, zs, t'.trans tt, by rw [tt.nw D hH']; exact hg', tt.sm _ _ hH', rA.mono tt.gg, S'.step tt, el, ea⟩
          | true =>
            rw [if_pos rfl]
            have el : ((LD.noX (fk δ')).bind fun y => (LD.noX (fv δ')).bind fun z => (R.ofO (asKey y)).bind fun k => (dcD g ft fk fv (wipeD δ vs) (ds.drop (i + 1))).bind fun ys => .ok ((k, z) :: ys)) = .ok zs := el
            cases ek : fk δ' with
            | exc _ _ => rw [ek] at el; cases el
            | bad => rw [ek] at el; cases el
            | ok ykey =>
              rw [ek] at el
              refine ⟨B, G3, δ', S2.step t3, ?_⟩
              show Rq X.K (DRep X.K) _ G3 H3 (LD.noX (fk δ')) _
              rw [ek]
              intro uk H4 G4 t4 ruk
              have el : ((LD.noX (fv δ')).bind fun z => (R.ofO (asKey ykey)).bind fun k => (dcD g ft fk fv (wipeD δ vs) (ds.drop (i + 1))).bind fun ys => .ok ((k, z) :: ys)) = .ok zs := el
              cases ev : fv δ' with
              | exc _ _ => rw [ev] at el; cases el
              | bad => rw [ev] at el; cases el
              | ok yv =>
                rw [ev] at el
                refine ⟨B, G4, δ', (S2.step t3).step t4, ?_⟩
                show Rq X.K (DRep X.K) _ G4 H4 (LD.noX (fv δ')) _
                rw [ev]
                intro u H5 G5 t5 ru
                have el : ((R.ofO (asKey ykey)).bind fun k => (dcD g ft fk fv (wipeD δ vs) (ds.drop (i + 1))).bind fun ys => .ok ((k, yv) :: ys)) = .ok zs := el
                cases eq : asKey ykey with
                | none => rw [eq] at el; cases el
                | some kk =>
                  rw [eq] at el
                  have el : ((dcD g ft fk fv (wipeD δ vs) (ds.drop (i + 1))).bind fun ys => .ok ((kk, yv) :: ys)) = .ok zs := el
                  cases er : dcD g ft fk fv (wipeD δ vs) (ds.drop (i + 1)) with
                  | exc _ _ => rw [er] at el; cases el
                  | bad => rw [er] at el; cases el
                  | ok ws =>
                    rw [er] at el
                    cases el
                    have tt := ((t2.trans t3).trans t4).trans t5
                    have hg5 : G5 D = none := by rw [tt.nw D hH']; exact hg'
                    have hH5 := tt.sm _ _ hH'
                    have S5 := S'.step tt
                    have tg := (t'.trans tt)
                    refine ⟨accV, kk, asKey_rep ruk eq, hH5, ?_, G5, acc ++ [(kk, yv)], putK accV kk u, ws, tr_own_upd tg _ hD hg5 (is_na hH5), hg5, upd_same, ?_, S5.other hbD hg5 hne (is_na hH5), rfl, by simpa using ea⟩
                    · rw [rA.length]
                      have hm := mergeD_len acc []
                      have : acc.length + ((kk, yv) :: ws).length = ys.length := by rw [← ea, List.length_append]
                      rw [List.length_cons] at this
                      simp only [List.length_nil, Nat.zero_add] at hm
                      omega
                    · rw [mergeD_snoc]
                      exact (rA.mono tt.gg).put ru
    · have e : i = ds.length := by omega
      subst e
      have sG : Same G1 H' := t'.gg.trans S'.gh
      refine .inl ⟨wk.stop H' sG, ?_⟩
      rw [List.drop_length] at el
      cases el
      rw [List.append_nil] at ea
      subst ea
      exact h1 D accV H' G' t' (strip_none hD) hg' hH' rA
theorem dd_dc (hc : X.calm = true) (hN : X.N.Nodup) (ok : BlkOk X.N X.env.scope scope own) (hix : ∀ i ∈ ix, i ∈ own.map (·.2)) (I : PID X W tg iter fi)
    (hg : ∀ (s : Shared) (H : Hp) (C : Addr) (cl : List (Str × Addr)) (fp : List Addr), PGD (X.blk s H scope (compEnvC scope cl C X.env) fp) tg ix g) (ht : ∀ (s : Shared) (H : Hp) (C : Addr) (cl : List (Str × Addr)) (fp : List Addr), PDTs (X.blk s H scope (compEnvC scope cl C X.env) fp) W0 ifs ft)
    (hk : ∀ (s : Shared) (H : Hp) (C : Addr) (cl : List (Str × Addr)) (fp : List Addr), PD (X.blk s H scope (compEnvC scope cl C X.env) fp) W0 kx fk) (he : ∀ (s : Shared) (H : Hp) (C : Addr) (cl : List (Str × Addr)) (fp : List Addr), PD (X.blk s H scope (compEnvC scope cl C X.env) fp) W0 vx fv)
    (hs : ∀ x, foldedSetIterable iter X.env x = pure x := by intro _; rfl) :
    PDD X W (.DictComp kx vx [⟨tg, iter, ifs, 0⟩] scope pos) (xDcs (own.map (·.2)) fi g ft fk fv) := by
  obtain ⟨wi, pw, hw⟩ := I.ex
  refine ⟨_, pe_dc (g := cG X.K ix g) (tt := cT X.K W0 (fun δ => noX (ft δ))) (tk := cE X.K W0 (fun δ => noX (fk δ))) (tv := cE X.K W0 (fun δ => noX (fv δ))) hc hN pw ok (fun s H C cl fp => (hg s H C cl fp).can) (fun s H C cl fp => ⟨fun pins s' σ H' Q I' ⟨B, G, δ, S, q⟩ => (ht s H C cl fp).can.run pins s' σ H' Q I' ⟨B, G, δ, S, Rq.noX q⟩⟩)
    (fun s H C cl fp => ⟨fun pins s' σ H' Q I' ⟨B, G, δ, S, q⟩ => (hk s H C cl fp).can.run pins s' σ H' Q I' ⟨B, G, δ, S, Rq.noX q⟩⟩) (fun s H C cl fp => ⟨fun pins s' σ H' Q I' ⟨B, G, δ, S, q⟩ => (he s H C cl fp).can.run pins s' σ H' Q I' ⟨B, G, δ, S, Rq.noX q⟩⟩) hs, fun {B G H δ σ Q} S h => ?_⟩
  exact dc_req hw hix S h
end
end LD

set_option maxHeartbeats 2000000
/-! Layer D, part V: != of instances whose class has an own ==. -/
namespace LD
open PySem PySem.Spec PyProof.Rows L2
variable [Tbs]
section
variable {prog : Program} {w : World} {A : Around} {E : Value → Shared → Prop} {s : Shared} {K : PySem.W.Frag} {x C L f : Addr} {h₀ : Heap} {m : Str → Option Value} {ox : Obj} {od : Option Obj} {b tb : Value}
theorem ifBoundB {M : Model} {T : String} {nm : Str} {id : String} {args : List Value} {Q : Option Value → Shared → Prop} (X : K.In s.heap) (I : PySem.W.InstAt s.heap x ox C od) (hs : PySem.W.findIn K (.ref C) nm = some (some (.builtin id))) (S : Slot T nm id)
    (h : wpAny M A (call (.builtin id) (.ref x :: args)) (fun v => Q (some v)) E s) : wpAny M A (callSpecialIfBound? (.ref x) nm args) Q E s := by
  simp only [callSpecialIfBound?, bindSpecialIfBound?]
  refine wpAny_holding (wpAny_bind (wpAny_bind (wpAny_bind (I.type.here ((PySem.W.looks_findIn X hs).here ?_)))))
  simp only [S.bind]
  refine wpAny_bind (wpAny_askSetting (wpAny_ite ?_))
  have fin : wpAny M A (call (.builtin id) ([.ref x] ++ args) >>= fun v => pure (some v)) Q E s := wpAny_bind (wpAny_mono h (fun v t z => wpAny_pure z) fun _ _ z => z)
  split
  · exact wpAny_bind (wpAny_pure (wpAny_pure fin))
  · exact wpAny_tryCatch (wpAny_bind (wpAny_pure (wpAny_pure fin)))
theorem objNe_K {Q : Fin → Shared → Prop} (hu : A.units < cLine) (X : K.In s.heap) (I : PySem.W.InstAt s.heap x ox C od) (hs : PySem.W.findIn K (.ref C) "__eq__" = some (some (.ref f))) (hf : PySem.W.isFn K (.ref f) = true)
    (h : wpAny (model prog w) A (call (.ref f) [.ref x, b]) (fun v s' => ∃ k, v = .bool k ∧ Q (.done (.ret (.bool (!k)))) s') E s) :
    wpAny (model prog w) A (Builtin.«object.__ne__» ⟨[.ref x, b], []⟩) Q E s := by
  unfold Builtin.«object.__ne__»
  repeat (first
    | with_reducible refine wpAny_cRoomFor hu ?_
    | (refine wpAny_bind (m := callSpecialIfBound? (.ref x) (Str.ofString "__eq__") [b])
        (PySem.W.ifBound_K X I hs hf (wpAny_mono h (fun r s' hr => by
          obtain ⟨k, rfl, hq⟩ := hr
          repeat (first | exact hq | exact wpAny_pure hq | exact wpAny_truthy_bool hq | (refine wpAny_bind (m := truthy (.bool _)) (wpAny_truthy_bool ?_)) | wp_step)) fun _ _ e => e)))
    | wp_step)
theorem ne_K {Q : Value → Shared → Prop} (hu : A.units + 1 < cLine) (X : K.In s.heap) (I : PySem.W.InstAt s.heap x ox C od) (hb : PySem.W.Looks (model prog w) s.heap (typeOf b) tb) (hn : PySem.W.notFirst K C tb = true)
    (h1 : PySem.W.findIn K (.ref C) "__ne__" = some (some (.builtin "object.__ne__"))) (hs : PySem.W.findIn K (.ref C) "__eq__" = some (some (.ref f))) (hf : PySem.W.isFn K (.ref f) = true) (ho : PySem.W.subIn K (.ref C) (.type "object") = some true)
    (h : wpAny (model prog w) A.in1 (call (.ref f) [.ref x, b]) (fun v s' => ∃ k, v = .bool k ∧ Q (.bool (!k)) s') E s) : wpAny (model prog w) A (richCompare .NotEq (.ref x) b) Q E s := by
  have hi : PySem.W.Looks (model prog w) s.heap (isInstance (.ref x) (.type "object")) true := I.type.andThen (PySem.W.looks_subIn X ho)
  have one : wpAny (model prog w) A (tryCompare (.ref x) (cmpInfo .NotEq).2.1 b) (fun r s' => ∃ v, r = some v ∧ Q v s') E s := by
    unfold tryCompare
    refine wpAny_bind (ifBoundB (id := "object.__ne__") X I h1 F.cmp_object.ne (wpAny_call (codeAny_call_builtin F.cmp_object.ne.plain F.cmpEntry_ne (PySem.W.check_slot F.cmpKind_ne F.cmpSplit_ne hi (F.cmpArgs_ne _ _) ?_))))
    refine objNe_K (by exact hu) X I hs hf (wpAny_mono h (fun v s' hv => ?_) fun _ _ z => z)
    obtain ⟨k, rfl, q⟩ := hv
    first | exact ⟨k, rfl, wpAny_pure ⟨_, rfl, q⟩⟩ | exact ⟨k, rfl, wpAny_pure (wpAny_pure ⟨_, rfl, q⟩)⟩
  unfold richCompare
  simp only [oneThing_ref]
  refine wpAny_holding (wpAny_bind (wpAny_cRoomFor (Nat.lt_of_succ_lt hu) ?_))
  refine wpAny_bind (I.type.here (wpAny_bind (hb.here ?_)))
  split
  · rename_i q
    have e : PySem.W.subIn K tb (.ref C) = some false := by
      rcases Bool.or_eq_true_iff.mp hn with e | e
      · rw [beq_iff_eq.mp e] at q; simp at q
      · exact beq_iff_eq.mp e
    refine wpAny_bind ((PySem.W.looks_subIn X e).here ?_)
    simp only [Bool.false_eq_true, if_false]
    refine wpAny_bind (wpAny_mono one (fun r t hr => ?_) fun _ _ z => z)
    obtain ⟨v, rfl, hq⟩ := hr
    exact wpAny_pure hq
  · refine wpAny_bind (wpAny_pure ?_)
    simp only [Bool.false_eq_true, if_false]
    refine wpAny_bind (wpAny_mono one (fun r t hr => ?_) fun _ _ z => z)
    obtain ⟨v, rfl, hq⟩ := hr
    exact wpAny_pure hq
end
def oNeO (cs : List Str) (m : Mir) : DV → DV → R DV := fun x y => (oEqO cs m x y).bind fun r => match r with
  | .bl k => .ok (.bl (!k))
  | _ => .bad
def rOwnNe (sp : Sp) (K : PySem.W.Frag) (cs : List Str) : R2 := fun x y H Q => ∃ a b dx dy c c' fs gs, x = .ref a ∧ y = .ref b ∧ cs.contains c = true ∧ cs.contains c' = true ∧ H a = some (.ins (He.ga K c) dx fs) ∧ H b = some (.ins (He.ga K c') dy gs) ∧ sp [x, y] H (fun v H' => ∃ k, v = .bl k ∧ Q (.bl (!k)) H') E0
section
variable {X : Cx} {W : WX} {j : Nat}
theorem or_ownNe {f : Addr} {fd : FuncData} {ps : List Str} {k : Nat} {sp : Sp} {cs : List Str} (F : FnOk X.prog X.w X.K X.mg X.base (L2.CX X.prog X.w) k f fd ps sp) (hr : Room (k + 1) X.A) (hb : Binds X.K fd ps []) (hB : neB X.K cs f = true) (hf : PySem.W.isFn X.K (.ref f) = true) : OpR X (compareOp .NotEq) (rOwnNe sp X.K cs) := by
  intro pins s σ H x y v u Q I rx ry h
  obtain ⟨a, b, dx, dy, c, c', fs, gs, rfl, rfl, hc, hc', ha, hbb, hsp⟩ := h
  cases rx
  cases ry
  show wpAny (model X.prog X.w) X.A (richCompare .NotEq (.ref a) (.ref b)) (EP X pins σ Q) X.xe s
  obtain ⟨od, J⟩ := ins_at I ha
  obtain ⟨od', J'⟩ := ins_at I hbb
  obtain ⟨hB1, hB2⟩ := He.ba hB
  obtain ⟨k1, k2⟩ := He.ba (List.all_eq_true.mp hB1 c (by simpa using hc))
  have k3 := List.all_eq_true.mp k2 c' (by simpa using hc')
  obtain ⟨k4, k5⟩ := He.ba (List.all_eq_true.mp hB2 c (by simpa using hc))
  refine ne_K (tb := .ref (He.ga X.K c')) (by have := hr.units; omega) I.kIn J J'.type k3 (of_decide_eq_true k4) (of_decide_eq_true k1) hf (of_decide_eq_true k5) ?_
  refine wpAny_mono (run_fnS1 (Q := fun v H' => ∃ k, v = V.bl k ∧ Q (.bl (!k)) H') (E := fun _ => E0) (vs := [V.ref a, V.ref b]) F hr hb (fun pins' H' s1 e s2 I' c => passL pins' σ H' s1 e s2 I' c) I (.cons rfl (.cons rfl .nil)) hsp) (fun r s' hq => ?_) fun _ _ z => z
  obtain ⟨z, H', I', rz, kk, ek, q⟩ := hq
  subst ek
  cases (show r = Value.bool kk from rz)
  exact ⟨kk, rfl, .bl _, H', I', rfl, q⟩
theorem od_ownNe {f : Addr} {cs : List Str} {m : Mir} : OpD X (rOwnNe (spD X.K m) X.K cs) (oNeO cs m) := fun {G H x y dx dy Q W} s rx ry h => by
  cases rx with
  | obj e1 r1 =>
    cases ry with
    | obj e2 r2 =>
      rename_i a1 x1 c1 v1 f1 a2 x2 c2 v2 f2
      have h2 : Rq X.K (DRep X.K) W G H ((if (cs.contains c1 && cs.contains c2) = true then (match m [.obj c1 f1, .obj c2 f2] with
        | .ok (.bl b) => (.ok (.bl b) : R DV)
        | _ => .bad) else .bad).bind fun r => match r with
          | .bl k => .ok (.bl (!k))
          | _ => .bad) Q := h
      by_cases q : (cs.contains c1 && cs.contains c2) = true
      · rw [if_pos q] at h2
        obtain ⟨q1, q2⟩ := Bool.and_eq_true_iff.mp q
        refine ⟨a1, a2, x1, x2, c1, c2, v1, v2, rfl, rfl, q1, q2, s _ _ e1, s _ _ e2, G, [.obj c1 f1, .obj c2 f2], s, .cons (.obj e1 r1) (.cons (.obj e2 r2) .nil), ?_⟩
        cases em : m [.obj c1 f1, .obj c2 f2] with
        | bad => rw [em] at h2; exact h2.elim
        | exc _ _ => rw [em] at h2; exact h2.elim
        | ok d =>
          rw [em] at h2
          cases d with
          | bl b =>
            intro v H' G' t rv
            cases rv
            have h3 : Rq X.K (DRep X.K) W G H (.ok (.bl (!b))) Q := h2
            exact ⟨b, rfl, h3 (.bl _) H' G' t (.bl _)⟩
          | _ => exact h2.elim
      · rw [if_neg q] at h2; exact h2.elim
    | _ => exact h.elim
  | _ => cases ry <;> exact h.elim
end
section
variable {X : Cx} {W : WX} {a b : Expr} {fa fb : Ev → R DV} {pos : Pos} {k j : Nat} {ps : List Str} {m : Mir}
theorem k_neO {cs : List Str} {bn : Str} (hB : nwB cs bn X.K = true) (F : FO X.prog X.w X.K X.mg X.base k (He.ma X.K (He.ga X.K bn) "__eq__") ps (spD X.K m)) (hr : Room j X.A) (hj : k + 1 ≤ j) (A : PD X W a fa) (B : PD X W b fb) (hm : behindInMarks .NotEq b = false := by first | exact nomark _ | rfl) :
    PD X W (.Compare a [.NotEq] [b] pos) (xOp (oNeO cs m) fa fb) := by
  obtain ⟨fd, F, hb⟩ := F
  obtain ⟨h1, h2⟩ := He.ba hB
  exact d_cmp (or_ownNe F (hr.mono hj) hb h1 h2) (od_ownNe (f := 0)) A B hm
theorem kt_neO {cs : List Str} {bn : Str} (hB : nwB cs bn X.K = true) (F : FO X.prog X.w X.K X.mg X.base k (He.ma X.K (He.ga X.K bn) "__eq__") ps (spD X.K m)) (hr : Room j X.A) (hj : k + 1 ≤ j) (A : PD X W a fa) (B : PD X W b fb) (hm : behindInMarks .NotEq b = false := by first | exact nomark _ | rfl) :
    PDT X W (.Compare a [.NotEq] [b] pos) (xTest (xOp (oNeO cs m) fa fb)) := by
  obtain ⟨fd, F, hb⟩ := F
  obtain ⟨h1, h2⟩ := He.ba hB
  exact dt_cmp (or_ownNe F (hr.mono hj) hb h1 h2) (od_ownNe (f := 0)) A B hm
theorem kt_eqO {cs : List Str} {bn : Str} (hB : ewB cs bn X.K = true) (F : FO X.prog X.w X.K X.mg X.base k (He.ma X.K (He.ga X.K bn) "__eq__") ps (spD X.K m)) (hr : Room j X.A) (hj : k ≤ j) (A : PD X W a fa) (B : PD X W b fb) (hm : behindInMarks .Eq b = false := by first | exact nomark _ | rfl) :
    PDT X W (.Compare a [.Eq] [b] pos) (xTest (xOp (oEqO cs m) fa fb)) := by
  obtain ⟨fd, F, hb⟩ := F
  obtain ⟨h1, h2⟩ := He.ba hB
  exact dt_cmp (or_own F (hr.mono hj) hb h1 h2) (od_own (f := 0) (fd := fd) (ps := []) (k := 0)) A B hm
/-! ### dicts with the same flat items -/
def flSame : DV → DV → Bool
  | .non, .non => true
  | .bl x, .bl y => x == y
  | .int x, .int y => decide (x = y)
  | .str x, .str y => decide (x = y)
  | _, _ => false
theorem flSame_fl : ∀ {d e : DV}, flSame d e = true → ∃ w, d.fl = some w ∧ e.fl = some w ∧ flatB w = true
  | .non, .non, _ => ⟨_, rfl, rfl, rfl⟩
  | .bl x, .bl y, h => by
    obtain rfl : x = y := by simpa [flSame] using h
    exact ⟨_, rfl, rfl, rfl⟩
  | .int x, .int y, h => by
    obtain rfl : x = y := by simpa [flSame] using h
    exact ⟨_, rfl, rfl, rfl⟩
  | .str x, .str y, h => by
    obtain rfl : x = y := by simpa [flSame] using h
    exact ⟨_, rfl, rfl, rfl⟩
def dicSame (ks ls : List (Key × DV)) : Bool := decide (ks.length = ls.length) && ks.all fun p => match valD ls p.1 with
  | some d => flSame p.2 d
  | none => false
theorem same_rep {K : PySem.W.Frag} {G : Hp} {ws : List (Key × V)} {es : List (Key × DV)} (r2 : RP K G ws es) : ∀ {vs : List (Key × V)} {ds : List (Key × DV)}, RP K G vs ds → (ds.all fun p => match valD es p.1 with
    | some d => flSame p.2 d
    | none => false) = true → ∀ p ∈ vs, valV ws p.1 = some p.2 ∧ flatB p.2 = true
  | _, _, .nil, _ => fun p hp => by cases hp
  | _, _, .cons (k := k) (v := v) (d := d) rv r, h => fun p hp => by
    rw [List.all_cons] at h
    obtain ⟨h1, h2⟩ := Bool.and_eq_true_iff.mp h
    rcases List.mem_cons.mp hp with e | hp
    · subst e
      rcases r2.val (k := k) with ⟨z1, z2⟩ | ⟨v', d', z1, z2, z3⟩
      · dsimp only at h1; rw [z2] at h1; cases h1
      · dsimp only at h1 ⊢
        rw [z2] at h1
        obtain ⟨w, q1, q2, q3⟩ := flSame_fl h1
        have e1 := fl_eq rv q1
        have e2 := fl_eq z3 q2
        subst e1
        rw [z1, e2]
        exact ⟨rfl, q3⟩
    · exact same_rep r2 r h2 p hp
def rDicS (neg : Bool) : R2 := fun x y H Q => ∃ a b ks ls, x = .ref a ∧ y = .ref b ∧ Rd H a (.dK ks) ∧ Rd H b (.dK ls) ∧ ks.length = ls.length ∧ (∀ p ∈ ks, valV ls p.1 = some p.2 ∧ flatB p.2 = true) ∧ Q (.bl (!neg)) H
theorem or_dicEq (hu : X.A.units < cLine) : OpR X (compareOp .Eq) (rDicS false) := fun pins s σ H x y v u Q I rx ry h => by
  obtain ⟨a, b, ks, ls, rfl, rfl, ea, eb, hlen, hp, q⟩ := h
  obtain rfl : v = Value.ref a := rx
  obtain rfl : u = Value.ref b := ry
  obtain ⟨_, ya, va, ra, da⟩ := dk_rd I.hok ea
  obtain ⟨_, yb, vb, rb, db⟩ := dk_rd I.hok eb
  have hl : va.length = vb.length := ra.length.symm.trans (hlen.trans rb.length)
  exact PySem.W.keq_eq (knd := mixKind X.prog X.w) (r := true) ya yb da db hu (fun _ => hits_all rb ra hp) (fin_bl I q (by rw [hl]; simp))
theorem or_dicNe (hu : X.A.units < cLine) : OpR X (compareOp .NotEq) (rDicS true) := fun pins s σ H x y v u Q I rx ry h => by
  obtain ⟨a, b, ks, ls, rfl, rfl, ea, eb, hlen, hp, q⟩ := h
  obtain rfl : v = Value.ref a := rx
  obtain rfl : u = Value.ref b := ry
  obtain ⟨_, ya, va, ra, da⟩ := dk_rd I.hok ea
  obtain ⟨_, yb, vb, rb, db⟩ := dk_rd I.hok eb
  have hl : va.length = vb.length := ra.length.symm.trans (hlen.trans rb.length)
  exact PySem.W.keq_ne (knd := mixKind X.prog X.w) (r := true) ya yb da db hu (fun _ => hits_all rb ra hp) (fin_bl I q (by rw [hl]; simp))
/-- == or != of two dicts that have the same flat items -/
def oDicS (neg : Bool) : DV → DV → R DV := fun x y => match x, y with
  | .dic ks, .dic ls => if dicSame ks ls = true then .ok (.bl (!neg)) else .bad
  | _, _ => .bad
theorem od_dicS {neg : Bool} : OpD X (rDicS neg) (oDicS neg) := fun {G H x y dx dy Q W} s rx ry h => by
  cases rx with
  | dic e1 r1 =>
    cases ry with
    | dic e2 r2 =>
      rename_i a1 o1 v1 d1 a2 o2 v2 d2
      have h2 : Rq X.K (DRep X.K) W G H (if dicSame d1 d2 = true then .ok (.bl (!neg)) else .bad) Q := h
      by_cases q : dicSame d1 d2 = true
      · rw [if_pos q] at h2
        obtain ⟨q1, q2⟩ := Bool.and_eq_true_iff.mp q
        refine ⟨a1, a2, v1, v2, rfl, rfl, .inr ⟨_, s _ _ e1⟩, .inr ⟨_, s _ _ e2⟩, ?_, same_rep r2.to r1.to q2, Rq.ok_self (rep := DRep X.K) s h2 (.bl _)⟩
        rw [r1.to.length, r2.to.length]
        exact of_decide_eq_true q1
      · rw [if_neg q] at h2; exact h2.elim
    | _ => exact h.elim
  | _ => cases ry <;> exact h.elim
end
end LD

set_option maxHeartbeats 2000000
/-! Layer D, part W: an own list made by an addition. -/
namespace LD
open PySem PySem.Spec PyProof.Rows L2
variable [Tbs]
section
variable {X : Cx} {W : WX} {a b : Expr} {fa fb : Ev → R DV} {pos : Pos}
def sAddO (i : Nat) (fa fb : Ev → R DV) : Ev → SR := fun δ => xS (fa δ) δ fun x => xS (fb δ) δ fun y => match x, y with
  | .lst xs, .lst ys => if small (xs.length + ys.length) = true then .nx (δ.set i (.ol (xs ++ ys))) else .bad
  | _, _ => .bad
theorem ds_addO (i : Nat) {x : Str} {pos' p2 : Pos} (hN : X.N.Nodup) (A : PD X W a fa) (B : PD X W b fb) (hi : X.N[i]? = some x := by rfl) (hx : Loc X.env.scope x := by first | exact Or.inl rfl | exact Or.inr rfl) (hs : swapsWith (.BinOp a .Add b p2) (some (.Name x pos')) pos.line X.env = pure false := by rfl)
    (hf : X.fn x = true ∨ X.env.scope.names.lookup x = some .local := by first | exact .inl rfl | exact .inr rfl) : PSD X W (.Assign [.Name x pos'] (.BinOp a .Add b p2) pos) (sAddO i fa fb) := by
  obtain ⟨ta, pa, ha⟩ := A.ex
  obtain ⟨tb, pb, hb⟩ := B.ex
  refine ⟨_, L2.ps_set hN hi hx (pe_op op_cat pa pb) hs hf, fun {B0 G H δ σ D} S h => ?_⟩
  refine ha S (SRq.of S h fun d e v H1 G1 t1 r1 h1 => ?_)
  refine hb (S.step t1) (SRq.of (S.step t1) h1 fun d' e' v' H2 G2 t2 r2 h2 => ?_)
  have S2 := (S.step t1).step t2
  have r1' := r1.mono t2.gg
  cases r1' with
  | lst e1 q1 =>
    cases r2 with
    | lst e2 q2 =>
      dsimp only at h2
      split at h2
      · rename_i c
        exact ⟨_, _, _, _, rfl, rfl, S2.gh _ _ e1, S2.gh _ _ e2, by rw [q1.length, q2.length]; exact small_le c, fun p hp => h2 _ _ _ (Same.refl _) (own_new S2 i hp rfl (fun _ _ z => nomatch z) ⟨_, upd_same, q1.append q2⟩)⟩
      · exact h2.elim
    | _ => exact h2.elim
  | _ => cases r2 <;> exact h2.elim
end
end LD

set_option maxHeartbeats 2000000
/-! Layer D, part DE: == and != of lists of pairs (text, instance with an own ==), both answers; list(d.items()). -/
namespace LD
open PySem PySem.SeqAt
open AutoSeq1 (wpAny_loadPart')
open MeetsSeq MeetsSeq2 MeetsSeq3 SeqRoads2
section
variable {prog : Program} {w : World} {A : Around} {Rz : Result → Shared → Prop}
/-- the two lists stand at a turn -/
abbrev Stand (s : Shared) (l b : Addr) (N : Nat) (xs ys : Array Value) (n n2 : Nat) : Prop :=
  s.heap.get? l = some { cls := .type "list", data := .seq xs n } ∧ s.heap.get? b = some { cls := .type "list", data := .seq ys n2 } ∧ xs.size = N ∧ ys.size = N
theorem cmp_loop {neg : Bool} {c : Int} (hc : (neg = false ∧ c = 2) ∨ (neg = true ∧ c = 3)) (l b : Addr) (N : Nat) (Ig Jg : Nat → Shared → Prop)
    (hI : ∀ i s, Ig i s → ∃ xs ys n n2, Stand s l b N xs ys n n2 ∧ ∀ (h1 : i < xs.size) (h2 : i < ys.size), wpAny (model prog w) A.in1 (eqBool xs[i] ys[i]) (fun r s' => (r = true ∧ Ig (i + 1) s') ∨ (r = false ∧ Jg i s')) (fun e s' => Rz (.error e) s') s)
    (hJ : ∀ i s, Jg i s → ∃ xs ys n n2, Stand s l b N xs ys n n2 ∧ Rz (.ok (.ret (.bool neg))) s) (fin : ∀ s, Ig N s → Rz (.ok (.ret (.bool (!neg)))) s) (k : Nat) :
    ∀ i : Nat, N - i = k → i ≤ N → ∀ s, Ig i s → wpAny (model prog w) A.in1 (Builtin.«list.__eq__.loop» ⟨[.ref l, .ref b, rawInt i, rawInt c], []⟩) (GQ.FinOf prog w A Rz) (fun e s' => Rz (.error e) s') s := by
  rcases hc with ⟨hn, hc⟩ | ⟨hn, hc⟩
  all_goals
    subst hn hc
    induction k with
    | zero =>
      intro i hk hi s h
      obtain ⟨xs, ys, n, n2, ⟨hl, hb, e1, e2⟩, _⟩ := hI _ _ h
      have hi' : i = N := by omega
      have hR := fin s (hi' ▸ h)
      obtain ⟨hp, g, d, tk, os⟩ := s
      wp_walk using wpAny_loadPart' hl, wpAny_loadPart' hb
      have q1 : xs[((i : Nat) : Int).toNat]? = none := by simp; omega
      have q2 : ys[((i : Nat) : Int).toNat]? = none := by simp; omega
      rw [q1, q2]
      wp_walk using wpAny_loadPart' hl, wpAny_loadPart' hb
      first
        | (show Rz (.ok (.ret (.bool (xs.size == ys.size)))) _; rw [e1, e2]; simpa using hR)
        | (show Rz (.ok (.ret (.bool (xs.size != ys.size)))) _; rw [e1, e2]; simpa using hR)
    | succ k ih =>
      intro i hk hi s h
      obtain ⟨xs, ys, n, n2, ⟨hl, hb, e1, e2⟩, turn⟩ := hI _ _ h
      have lt1 : i < xs.size := by omega
      have lt2 : i < ys.size := by omega
      have ht := turn lt1 lt2
      obtain ⟨hp, g, d, tk, os⟩ := s
      wp_walk using wpAny_loadPart' hl, wpAny_loadPart' hb
      have q1 : xs[((i : Nat) : Int).toNat]? = some xs[i] := by simp [lt1]
      have q2 : ys[((i : Nat) : Int).toNat]? = some ys[i] := by simp [lt2]
      have ec : ((i : Int) + 1) = ((i + 1 : Nat) : Int) := by omega
      rw [q1, q2]
      refine wpAny_bind (wpAny_mono ht (fun r s2 z => ?_) fun _ _ z => z)
      rcases z with ⟨hr, z⟩ | ⟨hr, z⟩
      · subst hr
        have again := ih (i + 1) (by omega) (by omega) s2 z
        obtain ⟨hp2, g2, d2, tk2, os2⟩ := s2
        wp_walk
        rw [ec]
        exact ⟨plainId_quiet plain_eq_loop _, codeAny_builtin entry_eq_loop (by
          rw [Around.under_plainId plain_eq_loop _] <;> exact again)⟩
      · subst hr
        obtain ⟨xs', ys', m, m2, ⟨hl', hb', f1, f2⟩, hR⟩ := hJ _ _ z
        obtain ⟨hp2, g2, d2, tk2, os2⟩ := s2
        have p1 : xs'[((i : Nat) : Int).toNat]? = some (xs'[i]'(by omega)) := by simp
        have p2 : ys'[((i : Nat) : Int).toNat]? = some (ys'[i]'(by omega)) := by simp
        wp_walk using wpAny_loadPart' hl', wpAny_loadPart' hb'
        rw [p1, p2]
        wp_walk
        simpa using hR
/-- two tuples of one length, item by item -/
theorem tup2_eq (l b : Addr) (xs ys : Array Value) (n n2 : Nat) (dd dd2 : Option Addr) (sl sl2 : Array (Option Value)) (hsz : xs.size = ys.size) (Ig : Nat → Shared → Prop)
    (turn : ∀ i (h1 : i < xs.size) (h2 : i < ys.size) s, Ig i s → wpAny (model prog w) A.in1 (eqBool xs[i] ys[i]) (fun r s' => (r = true ∧ Ig (i + 1) s') ∨ (r = false ∧ Rz (.ok (.ret (.bool false))) s')) (fun e s' => Rz (.error e) s') s)
    (fin : ∀ s, Ig xs.size s → Rz (.ok (.ret (.bool true))) s) {s : Shared} (hl : s.heap.get? l = some { cls := .type "tuple", dict := dd, data := .seq xs n, slots := sl }) (hb : s.heap.get? b = some { cls := .type "tuple", dict := dd2, data := .seq ys n2, slots := sl2 }) (h : Ig 0 s) :
    wpAny (model prog w) A.in1 (Builtin.«tuple.__eq__» ⟨[.ref l, .ref b], []⟩) (GQ.FinOf prog w A Rz) (fun e s' => Rz (.error e) s') s := by
  have f2 := AutoSeq1.sub_tuple_tuple
  have hZ : (xs.toList.zip ys.toList).length = xs.size := by simp [hsz]
  have h0 := h
  obtain ⟨hp, g, d, tk, os⟩ := s
  wp_walk using wpAny_loadPart' hl, wpAny_loadPart' hb, wpAny_forIn_list _ (fun rest b s' => b.1 = none ∧ ∃ i, rest = (xs.toList.zip ys.toList).drop i ∧ i ≤ xs.size ∧ Ig i s') _
  case turn =>
    rintro ⟨y, x⟩ rest b s' ⟨hb', i, hz, hi, hI⟩
    have hlt : i < (xs.toList.zip ys.toList).length := by
      rcases Nat.lt_or_ge i (xs.toList.zip ys.toList).length with h' | h'
      · exact h'
      · rw [List.drop_of_length_le h'] at hz; cases hz
    have lt1 : i < xs.size := hZ ▸ hlt
    have lt2 : i < ys.size := hsz ▸ lt1
    rw [List.drop_eq_getElem_cons hlt] at hz
    injection hz with hyx hrest
    have hy : y = xs[i] := by have := congrArg Prod.fst hyx; simpa using this
    have hx : x = ys[i] := by have := congrArg Prod.snd hyx; simpa using this
    subst hy hx
    refine wpAny_bind (wpAny_mono (turn i lt1 lt2 s' hI) (fun r s2 q2 => ?_) fun _ _ x => x)
    rcases q2 with ⟨hr, q2⟩ | ⟨hr, q2⟩
    · subst hr
      wp_walk
      exact ⟨rfl, i + 1, hrest, lt1, q2⟩
    · subst hr
      wp_walk
      exact q2
  case fin =>
    rintro ⟨b1, b2⟩ s' ⟨hb', i, hz, hi, hI⟩
    simp only at hb'
    subst hb'
    have hge : xs.size ≤ i := by
      rcases Nat.lt_or_ge i (xs.toList.zip ys.toList).length with h' | h'
      · rw [List.drop_eq_getElem_cons h'] at hz; cases hz
      · exact hZ ▸ h'
    have hi' : i = xs.size := by omega
    have hR : Rz (.ok (.ret (.bool true))) s' := fin s' (hi' ▸ hI)
    wp_walk
    simpa [Builtin.Tuple.tupleCompareSizes, hsz] using hR
  case h =>
    exact ⟨rfl, 0, rfl, Nat.zero_le _, h0⟩
end
section
variable {prog : Program} {w : World} {A : Around} {E : Value → Shared → Prop} {s : Shared} {l b : Addr}
theorem rc_tup2 {xs ys : Array Value} {Q : Value → Shared → Prop} (hsz : xs.size = ys.size) (hu : A.units < cLine) (Ig : Nat → Shared → Prop) (hl : s.heap.IsTuple l xs) (hb : s.heap.IsTuple b ys)
    (turn : ∀ i (h1 : i < xs.size) (h2 : i < ys.size) s, Ig i s → wpAny (model prog w) A.in1 (eqBool xs[i] ys[i]) (fun r s' => (r = true ∧ Ig (i + 1) s') ∨ (r = false ∧ Q (.bool false) s')) E s)
    (fin : ∀ s, Ig xs.size s → Q (.bool true) s) (h : Ig 0 s) : wpAny (model prog w) A (richCompare .Eq (.ref l) (.ref b)) Q E s := by
  obtain ⟨⟨c1, dd, data, sl⟩, o1, k1, n, d1⟩ := id hl
  obtain ⟨⟨c2, dd2, data2, sl2⟩, o2, k2, n2, d2⟩ := id hb
  simp only at k1 d1 k2 d2
  subst k1 d1 k2 d2
  refine wpAny_richCompare_same_room (op := .Eq) ⟨_, o1, rfl⟩ ⟨_, o2, rfl⟩ F.slot_tuple_eq (GQ.call_here F.slot_tuple_eq ⟨_, o1, rfl⟩ F.entry_tuple_eq (F.args_tuple_eq_2 _ _) ?_) hu
  refine tup2_eq (Rz := wants (fun v s' => v ≠ .notImplemented ∧ Q v s') E) l b xs ys n n2 dd dd2 sl sl2 hsz Ig (fun i h1 h2 s hI => wpAny_mono (turn i h1 h2 s hI) (fun r s' z => ?_) fun _ _ z => z) (fun s' q => ⟨(fun x => nomatch x), fin s' q⟩) o1 o2 h
  rcases z with z | ⟨z1, z2⟩
  · exact .inl z
  · exact .inr ⟨z1, (fun x => nomatch x), z2⟩
/-- == and != of two lists; neg: != -/
theorem rc_list2 {neg : Bool} {xs ys : Array Value} {n n2 N : Nat} {Q : Value → Shared → Prop} (hu : A.units < cLine) (Ig Jg : Nat → Shared → Prop) (hS : Stand s l b N xs ys n n2)
    (hI : ∀ i s, Ig i s → ∃ xs ys n n2, Stand s l b N xs ys n n2 ∧ ∀ (h1 : i < xs.size) (h2 : i < ys.size), wpAny (model prog w) A.in1 (eqBool xs[i] ys[i]) (fun r s' => (r = true ∧ Ig (i + 1) s') ∨ (r = false ∧ Jg i s')) E s)
    (hJ : ∀ i s, Jg i s → ∃ xs ys n n2, Stand s l b N xs ys n n2 ∧ Q (.bool neg) s) (fin : ∀ s, Ig N s → Q (.bool (!neg)) s) (h : Ig 0 s) : wpAny (model prog w) A (richCompare (if neg = true then .NotEq else .Eq) (.ref l) (.ref b)) Q E s := by
  obtain ⟨o1, o2, e1, e2⟩ := hS
  have f3 := AutoSeq1.sub_list_list
  have hne : ¬ (xs.size != ys.size) = true := by simp [e1, e2]
  have hJ' : ∀ i s, Jg i s → ∃ xs ys n n2, Stand s l b N xs ys n n2 ∧ (Value.bool neg ≠ .notImplemented ∧ Q (.bool neg) s) := fun i s z =>
    let ⟨a1, a2, a3, a4, a5, a6⟩ := hJ i s z
    ⟨a1, a2, a3, a4, a5, (fun x => nomatch x), a6⟩
  cases neg with
  | false =>
    refine wpAny_richCompare_same_room (op := .Eq) ⟨_, o1, rfl⟩ ⟨_, o2, rfl⟩ F.slot_list_eq (GQ.call_here F.slot_list_eq ⟨_, o1, rfl⟩ F.entry_list_eq (F.args_list_eq_2 _ _) ?_) hu
    have key := cmp_loop (A := A) (Rz := wants (fun v s' => v ≠ .notImplemented ∧ Q v s') E) (neg := false) (.inl ⟨rfl, rfl⟩) l b N Ig Jg hI hJ' (fun s' q => ⟨(fun x => nomatch x), fin s' q⟩) _ 0 rfl (Nat.zero_le _) s h
    obtain ⟨hp, g, d, tk, os⟩ := s
    wp_walk using wpAny_loadPart' o1, wpAny_loadPart' o2
    exact ⟨plainId_quiet plain_eq_loop _, codeAny_builtin entry_eq_loop (by
      rw [Around.under_plainId plain_eq_loop _] <;> exact key)⟩
  | true =>
    refine wpAny_richCompare_same_room (op := .NotEq) ⟨_, o1, rfl⟩ ⟨_, o2, rfl⟩ F.slot_list_ne (GQ.call_here F.slot_list_ne ⟨_, o1, rfl⟩ F.entry_list_ne (F.args_list_ne_2 _ _) ?_) hu
    have key := cmp_loop (A := A) (Rz := wants (fun v s' => v ≠ .notImplemented ∧ Q v s') E) (neg := true) (.inr ⟨rfl, rfl⟩) l b N Ig Jg hI hJ' (fun s' q => ⟨(fun x => nomatch x), fin s' q⟩) _ 0 rfl (Nat.zero_le _) s h
    obtain ⟨hp, g, d, tk, os⟩ := s
    wp_walk using wpAny_loadPart' o1, wpAny_loadPart' o2
    exact ⟨plainId_quiet plain_eq_loop _, codeAny_builtin entry_eq_loop (by
      rw [Around.under_plainId plain_eq_loop _] <;> exact key)⟩
/-- two lists of different lengths -/
theorem rc_listN {neg : Bool} {xs ys : Array Value} {n n2 : Nat} {Q : Value → Shared → Prop} (hu : A.units < cLine) (o1 : s.heap.get? l = some { cls := .type "list", data := .seq xs n }) (o2 : s.heap.get? b = some { cls := .type "list", data := .seq ys n2 }) (hd : xs.size ≠ ys.size)
    (fin : Q (.bool neg) s) : wpAny (model prog w) A (richCompare (if neg = true then .NotEq else .Eq) (.ref l) (.ref b)) Q E s := by
  cases neg with
  | false =>
    refine wpAny_richCompare_same_room (op := .Eq) ⟨_, o1, rfl⟩ ⟨_, o2, rfl⟩ F.slot_list_eq (GQ.call_here F.slot_list_eq ⟨_, o1, rfl⟩ F.entry_list_eq (F.args_list_eq_2 _ _) ?_) hu
    exact SeqAt.list_eq_lengthsAt l b xs ys n n2 none none #[] #[] (by simpa using hd) prog w A (wants (fun v s' => v ≠ .notImplemented ∧ Q v s') E) s ⟨o1, o2, (fun x => nomatch x), fin⟩
  | true =>
    refine wpAny_richCompare_same_room (op := .NotEq) ⟨_, o1, rfl⟩ ⟨_, o2, rfl⟩ F.slot_list_ne (GQ.call_here F.slot_list_ne ⟨_, o1, rfl⟩ F.entry_list_ne (F.args_list_ne_2 _ _) ?_) hu
    exact SeqAt.list_ne_lengthsAt l b xs ys n n2 none none #[] #[] (by simpa using hd) prog w A (wants (fun v s' => v ≠ .notImplemented ∧ Q v s') E) s ⟨o1, o2, (fun x => nomatch x), fin⟩
end
end LD
namespace LD
open PySem PySem.Spec PyProof.Rows L2
variable [Tbs]
/-! ### surely different -/
def dif0 : DV → DV → Bool
  | .int a, .int b => !(a == b)
  | .str a, .str b => !(a == b)
  | _, _ => false
def difs : List DV → List DV → Bool
  | x :: xs, y :: ys => dif0 x y || difs xs ys
  | _, _ => false
def dif1 : DV → DV → Bool
  | .tup xs, .tup ys => difs xs ys
  | x, y => dif0 x y
def difF : List (Str × DV) → List (Str × DV) → Bool
  | x :: xs, y :: ys => dif1 x.2 y.2 || difF xs ys
  | _, _ => false
section
variable {K : PySem.W.Frag} {G : Hp}
theorem dif0_no {v : V} {d e : DV} (r : DRep K G v d) (r2 : DRep K G v e) : dif0 d e = false := by
  cases r with
  | int i => cases r2; simp [dif0]
  | str x => cases r2; simp [dif0]
  | _ => rfl
theorem difs_no : ∀ {vs : List V} {ds es : List DV}, DReps K G vs ds → DReps K G vs es → difs ds es = false
  | _, _, _, .nil, .nil => rfl
  | _, _, _, .cons a b, .cons c d => by
    show (dif0 _ _ || difs _ _) = false
    rw [dif0_no a c, difs_no b d] <;> rfl
theorem dif1_no {v : V} {d e : DV} (r : DRep K G v d) (r2 : DRep K G v e) : dif1 d e = false := by
  cases r with
  | tup e1 q =>
    cases r2 with
    | tup e2 q2 =>
      rw [e1] at e2
      cases e2
      exact difs_no q q2
    | _ => rfl
  | int i => exact dif0_no (.int i) r2
  | str x => exact dif0_no (.str x) r2
  | _ => rfl
theorem difF_no : ∀ {vs : List (Str × V)} {ds es : List (Str × DV)}, FReps K G vs ds → FReps K G vs es → difF ds es = false
  | _, _, _, .nil, .nil => rfl
  | _, _, _, .cons a b, .cons c d => by
    show (dif1 _ _ || difF _ _) = false
    rw [dif1_no a c, difF_no b d] <;> rfl
end
/-! ### == inside a builtin -/
def EqC (X : Cx) (n : Nat) (x y : V) (H : Hp) (Q : Bool → Hp → Prop) : Prop :=
  ∀ (A : Around) (pins : List (Addr × Obj)) (s : Shared) (σ : L2.St) (u v : Value), Sub X n A → Inv X pins σ H s → RelV x u → RelV y v → wpAny (model X.prog X.w) A (eqBool u v) (fun r s' => ∃ H', Inv X pins σ H' s' ∧ Q r H') X.xe s
def oLeaf (cs : List Str) (m : Mir) (c : Str) (fs : List (Str × DV)) (c' : Str) (gs : List (Str × DV)) : R Bool := if (cs.contains c && cs.contains c') = true then (match m [.obj c fs, .obj c' gs] with
  | .ok (.bl true) => .ok true
  | .ok (.bl false) => if difF fs gs = true then .ok false else .bad
  | _ => .bad) else .bad
def oPr (cs : List Str) (m : Mir) : DV → DV → R Bool
  | .tup [.str a, .obj c fs], .tup [.str b, .obj c' gs] => if a = b then oLeaf cs m c fs c' gs else .ok false
  | _, _ => .bad
def oPrs (cs : List Str) (m : Mir) : List DV → List DV → R Bool
  | [], [] => .ok true
  | x :: xs, y :: ys => (oPr cs m x y).bind fun b => if b = true then oPrs cs m xs ys else .ok false
  | _, _ => .bad
def oDeepL (neg : Bool) (cs : List Str) (m : Mir) : DV → DV → R DV
  | .lst xs, .lst ys => if xs.length = ys.length then (oPrs cs m xs ys).bind fun b => .ok (.bl (if neg = true then !b else b)) else .ok (.bl neg)
  | _, _ => .bad
section
variable {X : Cx} {W : WX} {f : Addr} {fd : FuncData} {ps : List Str} {k j : Nat} {m : Mir} {cs : List Str}
theorem eqC_same {n : Nat} {x : V} {a : Addr} {H : Hp} {Q : Bool → Hp → Prop} (q : Q true H) : EqC X n (.ref a) (.ref a) H Q := fun A pins s σ u v sb I rx ry => by
  cases rx
  cases ry
  exact SeqAt.EqAt.same (A := A) (s := s) (.ref a) X.prog X.w X.xe _ ⟨H, I, q⟩
theorem eqC_leaf (F : FnOk X.prog X.w X.K X.mg X.base (L2.CX X.prog X.w) k f fd ps (spD X.K m)) (hb : Binds X.K fd ps []) (hB : eqB X.K cs f = true) (hf : PySem.W.isFn X.K (.ref f) = true)
    {G H : Hp} {x y : V} {c c' : Str} {fs gs : List (Str × DV)} {r : Bool} {Q : Bool → Hp → Prop} (S : Gh G H) (rx : DRep X.K G x (.obj c fs)) (ry : DRep X.K G y (.obj c' gs)) (e : oLeaf cs m c fs c' gs = .ok r) (hQ : ∀ H' G', Tr G H G' H' → Q r H') : EqC X k x y H Q := by
  unfold oLeaf at e
  by_cases hcc : (cs.contains c && cs.contains c') = true
  case neg => rw [if_neg hcc] at e; cases e
  rw [if_pos hcc] at e
  obtain ⟨hc, hc'⟩ := Bool.and_eq_true_iff.mp hcc
  have em : m [.obj c fs, .obj c' gs] = .ok (.bl r) ∧ (r = false → difF fs gs = true) := by
    split at e
    · rename_i q; cases e; exact ⟨q, fun z => nomatch z⟩
    · rename_i q
      by_cases hd : difF fs gs = true
      · rw [if_pos hd] at e; cases e; exact ⟨q, fun _ => hd⟩
      · rw [if_neg hd] at e; cases e
    · cases e
  obtain ⟨em, hd⟩ := em
  have rx0 := rx
  have ry0 := ry
  cases rx with
  | @obj a dx _ vs _ e1 r1 =>
    cases ry with
    | @obj b dy _ ws _ e2 r2 =>
      by_cases hab : a = b
      · subst hab
        cases r with
        | true => exact eqC_same (x := .ref a) (hQ H G (Tr.refl S))
        | false =>
          have e3 := Option.some.inj (e1.symm.trans e2)
          injection e3 with _ _ e4
          subst e4
          rw [difF_no r1 r2] at hd
          cases hd rfl
      · intro A pins s σ u v sb I ru rv
        cases ru
        cases rv
        refine GQ.eqBool_refG hab ?_
        obtain ⟨od, J⟩ := ins_at I (S _ _ e1)
        obtain ⟨od', J'⟩ := ins_at I (S _ _ e2)
        obtain ⟨mm, hF⟩ := I.fr
        obtain ⟨k1, k2⟩ := He.ba (List.all_eq_true.mp hB c (by simpa using hc))
        have k3 := List.all_eq_true.mp k2 c' (by simpa using hc')
        refine PySem.W.cmp_K (op := .Eq) (tb := .ref (He.ga X.K c')) sb.room.units0 hF I.ok.mod.kin J J'.type k3 (of_decide_eq_true k1) hf ?_
        have hsp : spD X.K m [.ref a, .ref b] H (fun v H' => v = .bl r ∧ Q r H') E0 := ⟨G, [.obj c fs, .obj c' gs], S, .cons rx0 (.cons ry0 .nil), by
          rw [em]
          intro v H' G' t rv
          cases rv
          exact ⟨rfl, hQ H' G' t⟩⟩
        have e0 : Env0 X.prog X.w X.K X.mg X.base A X.stack s H := by
          have z := I.env0
          exact ⟨by rw [sb.fr] <;> exact z.frames, z.mod, z.bs, z.bsz, z.funs, z.frf, z.hok, z.bare⟩
        have hl := F.len _ _ _ _ hsp
        have rr : Vals [V.ref a, V.ref b] [Value.ref a, Value.ref b] := .cons rfl (.cons rfl .nil)
        refine wpAny_call (codeAny_mono (F.run A X.stack s H ⟨[.ref a, .ref b], []⟩ [.ref a, .ref b] [.ref a, .ref b] _ E0 sb.room e0 (by
          have z := hb s [.ref a, .ref b] I.kIn (by simpa using hl)
          simpa using z) rr hsp) fun w s' hq => ?_)
        cases w with
        | error er => exact passL pins σ H s er s' I hq
        | ok fl =>
          cases fl with
          | ret w =>
            obtain ⟨z, H', I', rz, ez, q⟩ := I.after hq
            subst ez
            cases (show w = Value.bool r from rz)
            exact ⟨r, rfl, H', I', q⟩
          | next => exact False.elim hq
          | brk => exact False.elim hq
          | cont => exact False.elim hq
theorem eqC_str {n : Nat} {a b : Str} {H : Hp} {Q : Bool → Hp → Prop} (q : Q (a == b) H) : EqC X n (.str a) (.str b) H Q := fun A pins s σ u v sb I rx ry => by
  have z := eqAt_V (A := A) (s := s) rx ry rfl rfl
  exact z X.prog X.w X.xe _ ⟨H, I, q⟩
theorem eqC_pr (F : FnOk X.prog X.w X.K X.mg X.base (L2.CX X.prog X.w) k f fd ps (spD X.K m)) (hb : Binds X.K fd ps []) (hB : eqB X.K cs f = true) (hf : PySem.W.isFn X.K (.ref f) = true)
    {G H : Hp} {x y : V} {d e : DV} {r : Bool} {Q : Bool → Hp → Prop} (S : Gh G H) (rx : DRep X.K G x d) (ry : DRep X.K G y e) (h : oPr cs m d e = .ok r) (hQ : ∀ H' G', Tr G H G' H' → Q r H') : EqC X (k + 1) x y H Q := by
  unfold oPr at h
  split at h
  case h_2 => cases h
  rename_i k1 c1 f1 k2 c2 f2
  cases rx with
  | @tup a vs _ e1 r1 =>
  cases ry with
  | @tup b ws _ e2 r2 =>
  cases r1 with
  | cons p1 q1 =>
  cases q1 with
  | cons p2 q2 =>
  cases q2
  cases r2 with
  | cons p3 q3 =>
  cases q3 with
  | cons p4 q4 =>
  cases q4
  rename_i va vb vc vd
  cases p1
  cases p3
  by_cases hab : a = b
  · subst hab
    rw [e1] at e2
    cases e2
    rw [if_pos rfl] at h
    unfold oLeaf at h
    have hr : r = true := by
      by_cases hcc : (cs.contains c1 && cs.contains c2) = true
      case neg => rw [if_neg hcc] at h; cases h
      rw [if_pos hcc] at h
      split at h
      · cases h; rfl
      · by_cases hd : difF f1 f2 = true
        · cases p2 with
          | obj z1 z2 =>
            cases p4 with
            | obj z3 z4 =>
              have e3 := Option.some.inj (z1.symm.trans z3)
              injection e3 with _ _ e4
              subst e4
              rw [difF_no z2 z4] at hd
              cases hd
        · rw [if_neg hd] at h; cases h
      · cases h
    subst hr
    exact eqC_same (x := .ref a) (hQ H G (Tr.refl S))
  · intro A pins s σ u v sb I ru rv
    cases ru
    cases rv
    refine GQ.eqBool_refG hab ?_
    obtain ⟨its, t1, t2, _⟩ := I.tuple (.inl (.inl (S _ _ e1)))
    obtain ⟨its2, t3, t4, _⟩ := I.tuple (.inl (.inl (S _ _ e2)))
    cases t1 with
    | @cons _ u1 _ _ a1 b1 =>
    cases b1 with
    | @cons _ u2 _ _ a2 b2 =>
    cases b2
    cases t3 with
    | @cons _ u3 _ _ a3 b3 =>
    cases b3 with
    | @cons _ u4 _ _ a4 b4 =>
    cases b4
    refine rc_tup2 (xs := #[u1, u2]) (ys := #[u3, u4]) rfl sb.room.units0 (fun i s' => (i = 0 ∧ Inv X pins σ H s') ∨ (i = 1 ∧ k1 = k2 ∧ Inv X pins σ H s') ∨ (i = 2 ∧ ∃ H', Inv X pins σ H' s' ∧ Q r H' ∧ r = true)) t2 t4 (fun i h1 h2 s' q => ?_) (fun s' q => ?_) (.inl ⟨rfl, I⟩)
    · rcases q with ⟨hi, J⟩ | ⟨hi, hk, J⟩ | ⟨hi, _⟩
      · subst hi
        refine wpAny_mono (eqC_str (X := X) (n := k) (a := k1) (b := k2) (H := H) (Q := fun r' H' => r' = (k1 == k2) ∧ H' = H) ⟨rfl, rfl⟩ A.in1 pins s' σ u1 u3 sb.in1 J a1 a3) (fun w s2 z => ?_) fun _ _ z => z
        obtain ⟨H', J', ew, eH⟩ := z
        subst eH
        by_cases hk : k1 = k2
        · subst hk
          exact .inl ⟨by rw [ew]; simp, .inr (.inl ⟨rfl, rfl, J'⟩)⟩
        · rw [if_neg hk] at h
          cases h
          exact .inr ⟨by rw [ew]; simpa using hk, false, rfl, _, J', hQ _ G (Tr.refl S)⟩
      · subst hi
        rw [if_pos hk] at h
        refine wpAny_mono (eqC_leaf F hb hB hf (Q := fun r' H' => r' = r ∧ Q r H') S p2 p4 h (fun H' G' t => ⟨rfl, hQ H' G' t⟩) A.in1 pins s' σ u2 u4 sb.in1 J a2 a4) (fun w s2 z => ?_) fun _ _ z => z
        obtain ⟨H', J', ew, q⟩ := z
        subst ew
        cases w with
        | true => exact .inl ⟨rfl, .inr (.inr ⟨rfl, H', J', q, rfl⟩)⟩
        | false => exact .inr ⟨rfl, false, rfl, H', J', q⟩
      · subst hi
        exact absurd h1 (by simp)
    · rcases q with ⟨hi, _⟩ | ⟨hi, _⟩ | ⟨_, H', J', q, hr⟩
      · cases hi
      · cases hi
      · subst hr
        exact ⟨true, rfl, H', J', q⟩
end
end LD
namespace LD
open PySem PySem.Spec PyProof.Rows L2
variable [Tbs]
theorem oPrs_ok {cs : List Str} {m : Mir} {x y : DV} {xs ys : List DV} {r : Bool} (h : oPrs cs m (x :: xs) (y :: ys) = .ok r) : ∃ b, oPr cs m x y = .ok b ∧ ((b = true ∧ oPrs cs m xs ys = .ok r) ∨ (b = false ∧ r = false)) := by
  have h' : (oPr cs m x y).bind (fun b => if b = true then oPrs cs m xs ys else .ok false) = .ok r := h
  cases q : oPr cs m x y with
  | ok b =>
    rw [q] at h'
    refine ⟨b, rfl, ?_⟩
    cases b with
    | true => exact .inl ⟨rfl, h'⟩
    | false => exact .inr ⟨rfl, by cases h'; rfl⟩
  | exc _ _ => rw [q] at h'; cases h'
  | bad => rw [q] at h'; cases h'
theorem oPrs_drop {cs : List Str} {m : Mir} {xs ys : List DV} {r : Bool} {i : Nat} (hx : i < xs.length) (hy : i < ys.length) (h : oPrs cs m (xs.drop i) (ys.drop i) = .ok r) :
    ∃ b, oPr cs m xs[i] ys[i] = .ok b ∧ ((b = true ∧ oPrs cs m (xs.drop (i + 1)) (ys.drop (i + 1)) = .ok r) ∨ (b = false ∧ r = false)) := by
  rw [List.drop_eq_getElem_cons hx, List.drop_eq_getElem_cons hy] at h
  exact oPrs_ok h
def cmpOf (neg : Bool) : CmpOp := if neg = true then .NotEq else .Eq
def rDeep (K : PySem.W.Frag) (neg : Bool) (cs : List Str) (m : Mir) : R2 := fun x y H Q => ∃ G d e z, Gh G H ∧ DRep K G x d ∧ DRep K G y e ∧ oDeepL neg cs m d e = .ok z ∧ ∀ H' G' v, Tr G H G' H' → DRep K G' v z → Q v H'
section
variable {X : Cx} {W : WX} {f : Addr} {fd : FuncData} {ps : List Str} {k j : Nat} {m : Mir} {cs : List Str} {neg : Bool}
theorem or_deep (F : FnOk X.prog X.w X.K X.mg X.base (L2.CX X.prog X.w) k f fd ps (spD X.K m)) (hr : Room (k + 2) X.A) (hb : Binds X.K fd ps []) (hB : eqB X.K cs f = true) (hf : PySem.W.isFn X.K (.ref f) = true) : OpR X (compareOp (cmpOf neg)) (rDeep X.K neg cs m) := by
  intro pins s σ H x y v u Q I ru rv h
  obtain ⟨G, d, e, z, S, rx, ry, hz, hQ⟩ := h
  unfold oDeepL at hz
  split at hz
  case h_2 => cases hz
  rename_i xs ys
  cases rx with
  | @lst a vs _ e1 r1 =>
  cases ry with
  | @lst b ws _ e2 r2 =>
  cases ru
  cases rv
  have goal : wpAny (model X.prog X.w) X.A (richCompare (cmpOf neg) (.ref a) (.ref b)) (EP X pins σ Q) X.xe s := by
    have std : ∀ {H' : Hp} {s' : Shared}, Inv X pins σ H' s' → Same G H' → ∃ (ia ib : List Value) (n n2 : Nat), Vals vs ia ∧ Vals ws ib ∧ s'.heap.get? a = some { cls := .type "list", data := .seq ia.toArray n } ∧ s'.heap.get? b = some { cls := .type "list", data := .seq ib.toArray n2 } := fun {H' s'} J sm => by
      obtain ⟨_, ia, n, p1, p2⟩ := J.hok a _ (sm _ _ e1)
      obtain ⟨_, ib, n2, p3, p4⟩ := J.hok b _ (sm _ _ e2)
      exact ⟨ia, ib, n, n2, p1, p3, p2, p4⟩
    have hu := hr.units0
    by_cases hlen : xs.length = ys.length
    · rw [if_pos hlen] at hz
      cases q : oPrs cs m xs ys with
      | exc _ _ => rw [q] at hz; cases hz
      | bad => rw [q] at hz; cases hz
      | ok r =>
        rw [q] at hz
        cases hz
        have stand : ∀ {H' : Hp} {s' : Shared}, Inv X pins σ H' s' → Same G H' → ∃ (xa ya : Array Value) (n n2 : Nat), Stand s' a b xs.length xa ya n n2 ∧ Vals vs xa.toList ∧ Vals ws ya.toList := fun {H' s'} J sm => by
          obtain ⟨ia, ib, n, n2, p1, p2, p3, p4⟩ := std J sm
          exact ⟨ia.toArray, ib.toArray, n, n2, ⟨p3, p4, by rw [List.size_toArray, ← p1.length, r1.length], by rw [List.size_toArray, ← p2.length, r2.length, hlen]⟩, by simpa using p1, by simpa using p2⟩
        obtain ⟨xa, ya, n, n2, hst, _, _⟩ := stand I S.s
        refine rc_list2 (Ig := fun i s' => i ≤ xs.length ∧ ∃ G' H', Tr G H G' H' ∧ Inv X pins σ H' s' ∧ oPrs cs m (xs.drop i) (ys.drop i) = .ok r) (Jg := fun i s' => ∃ G' H', Tr G H G' H' ∧ Inv X pins σ H' s' ∧ r = false) hu hst (fun i s' hi => ?_) (fun i s' hi => ?_) (fun s' hi => ?_) ⟨Nat.zero_le _, G, H, Tr.refl S, I, q⟩
        · obtain ⟨hle, G', H', t, J, ho⟩ := hi
          obtain ⟨xa, ya, n, n2, hst, va, vb⟩ := stand J (t.gg.trans t.gh.s)
          refine ⟨xa, ya, n, n2, hst, fun h1 h2 => ?_⟩
          have i1 : i < xs.length := by rw [← hst.2.2.1]; exact h1
          have i2 : i < ys.length := by omega
          obtain ⟨bb, ob, alt⟩ := oPrs_drop i1 i2 ho
          obtain ⟨x1, g1, rx1⟩ := r1.get (List.getElem?_eq_getElem i1)
          obtain ⟨y1, g2, ry1⟩ := r2.get (List.getElem?_eq_getElem i2)
          obtain ⟨u1, z1, w1⟩ := va.get g1
          obtain ⟨u2, z2, w2⟩ := vb.get g2
          have f1 : xa[i] = u1 := by
            have : xa[i]? = some u1 := by simpa using z1
            rw [Array.getElem?_eq_getElem h1] at this
            exact Option.some.inj this
          have f2 : ya[i] = u2 := by
            have : ya[i]? = some u2 := by simpa using z2
            rw [Array.getElem?_eq_getElem h2] at this
            exact Option.some.inj this
          rw [f1, f2]
          refine wpAny_mono (eqC_pr F hb hB hf (Q := fun r' H2 => r' = bb ∧ ∃ G2, Tr G H G2 H2) t.gh (rx1.mono t.gg) (ry1.mono t.gg) ob (fun H2 G2 t2 => ⟨rfl, G2, t.trans t2⟩) X.A.in1 pins s' σ u1 u2 ⟨hr.in1, rfl⟩ J w1 w2) (fun w s2 zz => ?_) fun _ _ zz => zz
          obtain ⟨H2, J2, ew, G2, t2⟩ := zz
          subst ew
          rcases alt with ⟨hb1, ho2⟩ | ⟨hb1, hr0⟩
          · exact .inl ⟨hb1, i1, G2, H2, t2, J2, ho2⟩
          · exact .inr ⟨hb1, G2, H2, t2, J2, hr0⟩
        · obtain ⟨G', H', t, J, hr0⟩ := hi
          obtain ⟨xa, ya, n, n2, hst, va, vb⟩ := stand J (t.gg.trans t.gh.s)
          refine ⟨xa, ya, n, n2, hst, ?_⟩
          subst hr0
          refine ⟨.bl neg, H', J, rfl, hQ H' G' _ t ?_⟩
          cases neg <;> exact .bl _
        · obtain ⟨hle, G', H', t, J, ho⟩ := hi
          have hr0 : r = true := by
            rw [List.drop_length, hlen, List.drop_length] at ho
            cases ho
            rfl
          subst hr0
          refine ⟨.bl (!neg), H', J, rfl, hQ H' G' _ t ?_⟩
          cases neg <;> exact .bl _
    · rw [if_neg hlen] at hz
      cases hz
      obtain ⟨ia, ib, n, n2, p1, p2, p3, p4⟩ := std I S.s
      exact rc_listN hu p3 p4 (by rw [List.size_toArray, List.size_toArray, ← p1.length, ← p2.length, r1.length, r2.length]; exact hlen) ⟨.bl neg, H, I, rfl, hQ H G _ (Tr.refl S) (.bl _)⟩
  cases neg <;> exact goal
theorem oPr_ne {d e : DV} {c : Str} {fs : List (Str × DV)} : oPr cs m d e ≠ .exc c fs := fun h => by
  unfold oPr at h
  split at h
  · split at h
    · unfold oLeaf at h
      split at h
      · split at h
        · cases h
        · split at h <;> cases h
        · cases h
      · cases h
    · cases h
  · cases h
theorem oPrs_ne {c : Str} {fs : List (Str × DV)} : ∀ {xs ys : List DV}, oPrs cs m xs ys ≠ .exc c fs
  | [], [], h => by cases h
  | [], _ :: _, h => by cases h
  | _ :: _, [], h => by cases h
  | x :: xs, y :: ys, h => by
    have h' : (oPr cs m x y).bind (fun b => if b = true then oPrs cs m xs ys else .ok false) = .exc c fs := h
    cases q : oPr cs m x y with
    | ok b =>
      rw [q] at h'
      cases b with
      | true => exact oPrs_ne (xs := xs) (ys := ys) h'
      | false => cases h'
    | exc _ _ => exact oPr_ne q
    | bad => rw [q] at h'; cases h'
theorem od_deep : OpD X (rDeep X.K neg cs m) (oDeepL neg cs m) := fun {G H x y dx dy Q W} s rx ry h => by
  cases q : oDeepL neg cs m dx dy with
  | ok z =>
    rw [q] at h
    exact ⟨G, dx, dy, z, s, rx, ry, q, fun H' G' v t r => h v H' G' t r⟩
  | bad => rw [q] at h; exact h.elim
  | exc c fs =>
    exfalso
    unfold oDeepL at q
    split at q
    · split at q
      · rename_i xs ys _
        cases q2 : oPrs cs m xs ys with
        | ok b => rw [q2] at q; cases q
        | exc _ _ => exact oPrs_ne q2
        | bad => rw [q2] at q; cases q
      · cases q
    · cases q
end
/-! ### list(d.items()) of a dict that stays -/
def itemsD : DV → R DV
  | .dic kvs => .ok (.lst (kvs.map fun kv => .tup [kD kv.1, kv.2]))
  | _ => .bad
section
variable {X : Cx} {W : WX} {a b : Expr} {fa fb : Ev → R DV} {p apos cpos pos : Pos} {k j : Nat} {ps : List Str} {m : Mir}
/-- the list at z of the tuples at as -/
def itH (H : Hp) (z : Addr) (as : List Addr) (kvs : List (Key × V)) : Hp := LiI.putT (upd H z (.lst (as.map V.ref))) as kvs
theorem itH_off {H : Hp} {z b : Addr} {as : List Addr} {kvs : List (Key × V)} (h1 : b ∉ as) (h2 : b ≠ z) : itH H z as kvs b = H b := by
  unfold itH
  rw [LiI.putT_off _ _ _ h1, upd_ne h2]
theorem itH_z {H : Hp} {z : Addr} {as : List Addr} {kvs : List (Key × V)} (h : z ∉ as) : itH H z as kvs z = some (.lst (as.map V.ref)) := by
  unfold itH
  rw [LiI.putT_off _ _ _ h, upd_same]
theorem itH_kp {H : Hp} {z b : Addr} {u : HO} {as : List Addr} {kvs : List (Key × V)} (n1 : ∀ t ∈ as, H t = none) (n2 : H z = none) (e : H b = some u) : itH H z as kvs b = some u := by
  rw [itH_off (fun h => by rw [n1 b h] at e; cases e) (fun h => by rw [h, n2] at e; cases e), e]
theorem paired_at {α β : Type} {F : α → β → Prop} : ∀ {xs : List α} {ys : List β}, Paired F xs ys → ∀ {x : α}, x ∈ xs → ∃ (i : Nat) (y : β), xs[i]? = some x ∧ ys[i]? = some y ∧ F x y := fun p _ hx => LiI.paired_ix p hx
theorem itH_ok {P : Program} {w : World} {H : Hp} {h h' : Heap} {z c : Nat} {acc : Array Value} {as : List Addr} {kvs : List (Key × V)} {vs : List (Key × Value)} (ok : HOk P w H h) (hz : kvs.length ≤ sizeLine) (kv : KV kvs vs) (hk : ∀ b o, h.get? b = some o → h'.get? b = some o)
    (hS : h'.get? z = some { cls := .type "list", dict := none, data := .seq acc c, slots := #[] }) (hl : as.length = vs.length) (hG : PySem.W.KdxG (mixKind P w) vs z h' as) (hacc : acc.toList = as.map Value.ref) (n1 : ∀ t ∈ as, H t = none) (n2 : H z = none) (hzn : z ∉ as) (nd : as.Nodup) : HOk P w (itH H z as kvs) h' := by
  have lk : kvs.length = vs.length := Paired.length kv
  have atP := LiI.putT_at as kvs (upd H z (.lst (as.map V.ref))) (by omega) nd
  intro b u e
  by_cases m : b ∈ as
  · obtain ⟨i, pk, g1, g2, g3⟩ := paired_at atP m
    have g4 : itH H z as kvs b = some (.tup [kV pk.1, pk.2]) := g3
    rw [g4] at e
    cases e
    obtain ⟨key, kk, x, f1, f2, f3⟩ := hG.pairs i b g1
    obtain ⟨qv, d1, d2, d3⟩ := LiI.paired_get kv g2
    rw [f1] at d1
    cases d1
    have rk : RelV (kV pk.1) key := d2 ▸ relV_key f2
    exact ⟨(by decide : 2 ≤ sizeLine), [key, x], .cons rk (.cons d3 .nil), _, f3, rfl, _, rfl⟩
  · by_cases m2 : b = z
    · subst m2
      rw [itH_z m] at e
      cases e
      have la : as.length ≤ sizeLine := by omega
      refine ⟨by simpa using la, acc.toList, c, hacc ▸ LiI.vals_refs as, ?_⟩
      rw [Array.toArray_toList, hS]
    · rw [itH_off m m2] at e
      exact (ok b u e).stay (fun d v _ y => hk d v y) (fun d y => itH_kp n1 n2 y) fun d xs y => itH_kp n1 n2 y
theorem itH_rep {K : PySem.W.Frag} {G H : Hp} {z : Addr} {as : List Addr} {kvs : List (Key × V)} {ds : List (Key × DV)} (S : Gh G H) (r : RP K G kvs ds) (n1 : ∀ t ∈ as, H t = none) (n2 : H z = none) (hzn : z ∉ as) (nd : as.Nodup) (hl : as.length = kvs.length) :
    ∃ G', Tr G H G' (itH H z as kvs) ∧ DRep K G' (.ref z) (.lst (ds.map fun kv => .tup [kD kv.1, kv.2])) := by
  have atP := LiI.putT_at as kvs (upd H z (.lst (as.map V.ref))) (by omega) nd
  let G' : Hp := fun b => if b ∈ as ∨ b = z then itH H z as kvs b else G b
  have gIn : ∀ {b}, (b ∈ as ∨ b = z) → G' b = itH H z as kvs b := fun h => if_pos h
  have gOut : ∀ {b}, ¬ (b ∈ as ∨ b = z) → G' b = G b := fun h => if_neg h
  have gNo : ∀ {b o}, G b = some o → ¬ (b ∈ as ∨ b = z) := fun {b o} e h => by
    have e2 := S.s _ _ e
    rcases h with h | h
    · rw [n1 b h] at e2; cases e2
    · rw [h, n2] at e2; cases e2
  have gg : Same G G' := fun b o e => by rw [gOut (gNo e)]; exact e
  have kp : ∀ b o, H b = some o → itH H z as kvs b = some o := fun b o e => itH_kp n1 n2 e
  have out : ∀ {b}, ¬ (b ∈ as ∨ b = z) → itH H z as kvs b = H b := fun h => itH_off (fun q => h (.inl q)) (fun q => h (.inr q))
  have tupA : ∀ {t}, t ∈ as → ∃ xs, itH H z as kvs t = some (.tup xs) := fun {t} h => by
    obtain ⟨i, pk, _, _, g3⟩ := paired_at atP h
    exact ⟨_, g3⟩
  refine ⟨G', ⟨fun b o e _ => kp b o e, gg, ⟨fun b o e => ?_, fun b ps e => ?_, S.tb.ext kp⟩, fun b o e _ => ?_⟩, ?_⟩
  · by_cases h : b ∈ as ∨ b = z
    · rw [gIn h] at e; exact e
    · rw [gOut h] at e; rw [out h]; exact S.s b o e
  · by_cases h : b ∈ as ∨ b = z
    · rcases h with h | h
      · obtain ⟨xs, q⟩ := tupA h
        rw [q] at e; cases e
      · rw [h, itH_z hzn] at e; cases e
    · rw [gOut h]
      rw [out h] at e
      exact S.nt b ps e
  · refine gOut fun h => ?_
    rcases h with h | h
    · rw [n1 b h] at e; cases e
    · rw [h, n2] at e; cases e
  · have lst : G' z = some (.lst (as.map V.ref)) := (gIn (.inr rfl)).trans (itH_z hzn)
    refine .lst lst ?_
    have go : ∀ {as' : List Addr} {kvs' : List (Key × V)} {ds' : List (Key × DV)}, (∀ t ∈ as', t ∈ as) → Paired (fun (t : Addr) (p : Key × V) => itH H z as kvs t = some (.tup [kV p.1, p.2])) as' kvs' → RP K G kvs' ds' → DReps K G' (as'.map V.ref) (ds'.map fun kv => .tup [kD kv.1, kv.2]) := by
      intro as' kvs' ds' hm p
      induction p generalizing ds' with
      | nil => intro r; cases r; exact .nil
      | cons h t ih =>
        intro r
        cases r with
        | cons a b => exact .cons (.tup ((gIn (.inl (hm _ List.mem_cons_self))).trans h) (.cons (kD_rep _ _) (.cons (a.mono gg) .nil))) (ih (fun t ht => hm t (List.mem_cons_of_mem _ ht)) b)
    exact go (fun _ h => h) atP r
theorem d_listItems (hc : X.calm = true) (hm : X.mg "list" = none) (A : PD X W a fa) (hg : Gl X "list" := by rfl) (hbase : attributeBase a "items" X.env (eval a X.env) = eval a X.env := by rfl) (hline : (apos.endLine == cpos.line) = true := by rfl)
    (hs : starEach [.Call (.Attribute a "items" apos) [] [] cpos] X.env = (false, eval (.Call (.Attribute a "items" apos) [] [] cpos) X.env) :: starEach [] X.env := by rfl) :
    PD X W (.Call (.Name "list" p) [.Call (.Attribute a "items" apos) [] [] cpos] [] pos) (xUn itemsD fa) := by
  obtain ⟨ta, pa, ha⟩ := A.ex
  refine ⟨fun σ H Q => ta σ H fun x H1 => ∃ (d : Addr) (kvs : List (Key × V)), x = .ref d ∧ Rd H1 d (.dK kvs) ∧
    ∀ (z : Addr) (as : List Addr), H1 z = none → (∀ t ∈ as, H1 t = none) → z ∉ as → as.Nodup → as.length = kvs.length → Q (.ref z) (itH H1 z as kvs), ⟨fun pins s σ H Q I hq => ?_⟩, fun {B G H δ σ Q} S h => ?_⟩
  · refine wpAny_Call_Name_kw (ld_blt I hg hm (by first | decide +kernel | rfl) ?_)
    refine PyProof.Rows.callWith_type1 ?_ hs rfl
    rw [hs]
    show wpAny _ _ (spliced ((false, eval (.Call (.Attribute a "items" apos) [] [] cpos) X.env) :: backTo pos (starEach [] X.env))) _ _ s
    refine Calls.spliced_cons (wpAny_Call_method (T := "dict") (id := "dict.items") hbase rfl hline F.plainAttrs_dict F.slot_dict_items F.type_dict_items (thn (pa.run pins s σ H _ I hq) fun u s1 ⟨x, H1, I1, rx, d, kvs, ex, hd, q⟩ => ?_))
    subst ex
    obtain rfl : u = Value.ref d := rx
    obtain ⟨hz, hs0, vs, kv, hdo⟩ := dk_rd I1.hok hd
    obtain ⟨ep, hat⟩ := hdo.dictAt
    have lk : kvs.length = vs.length := Paired.length kv
    have I2 : Inv X pins σ H1 { s1 with heap := s1.heap.push { cls := .type "dict_items", data := .fields #[.ref d] } } := I1.kept (t' := s1.toks) fun b o e => Heap.get?_push_of_some _ e
    refine ⟨hdo.typeIs, hdo.mapOf.noDict, ?_⟩
    show wpAny _ _ (callWith cpos (.builtin "dict.items") [.ref d] [] []) _ X.xe s1
    refine method_meetsIn F.slot_dict_items F.entry_dict_items rfl (PySem.evalArgs_none ⟨rfl, hdo.typeIs, F.args_dict_items_1 _, _, meets_dict_items (mixKind X.prog X.w) d hs0, ⟨vs, hdo⟩, Calls.spliced_nil ?_⟩)
    refine PySem.W.kdx_call (kvs := vs) (knd := mixKind X.prog X.w) (ep := ep) (I1.ok.hd hc) ⟨_, Heap.get?_push_size _ rfl, rfl, rfl⟩ (hat.push _) (by omega) fun h' tk acc c as hk hS hl hG hacc => ?_
    have nd : as.Nodup := hG.rise.imp fun {b1 b2} (lt : b1 < b2) => Nat.ne_of_lt lt
    have n1 : ∀ t ∈ as, H1 t = none := fun t ht => I2.hok.fresh (Nat.le_of_lt (hG.above t ht))
    have n2 : H1 (s1.heap.push { cls := .type "dict_items", data := .fields #[.ref d] }).objs.size = none := I2.hok.fresh (Nat.le_refl _)
    have nz : (s1.heap.push { cls := .type "dict_items", data := .fields #[.ref d] }).objs.size ∉ as := fun y => absurd (hG.above _ y) (Nat.lt_irrefl _)
    refine ⟨.ref _, _, I2.call' (ch := []) rfl ⟨fun b o e _ _ _ => hk b o e, fun b o e _ _ _ => ⟨o.slots, hk b o e⟩, fun b o e n _ => ?_, fun b o e _ => ⟨o, hk b o e⟩, fun b xs e => itH_kp n1 n2 e, fun b o u e => itH_kp n1 n2 e, fun b ps e => ⟨#[], by rw [itH_kp n1 n2 e]; simp⟩⟩
      (itH_ok (kvs := kvs) I2.hok hz kv hk hS hl hG hacc n1 n2 nz nd) I2.bare (fun b y => by simp at y), rfl, q _ as n2 n1 nz nd (by omega)⟩
    have lt := Heap.lt_size e
    rw [itH_off (fun y => absurd (Nat.lt_trans lt (hG.above b y)) (Nat.lt_irrefl _)) (Nat.ne_of_lt lt)]
    exact n
  · refine ha S (Rq.bind (rep := DRep X.K) h fun d e v H1 G1 t1 r1 h1 => ?_)
    cases r1 with
    | dic e1 r =>
      rename_i a1 o vs ds
      refine ⟨a1, vs, rfl, .inr ⟨o, t1.gh.s _ _ e1⟩, fun z as n2 n1 hzn nd hl => ?_⟩
      obtain ⟨G', t, rr⟩ := itH_rep t1.gh r.to n1 n2 hzn nd hl
      have h2 : Rq X.K (DRep X.K) (fun c d H' => W c d σ H') G1 H1 (.ok (.lst (ds.map fun kv => .tup [kD kv.1, kv.2]))) Q := h1
      exact h2 _ _ G' t rr
    | _ => exact h1.elim
/-- == of two such lists -/
theorem k_deepEq {neg : Bool} {cs : List Str} {bn : Str} (hB : ewB cs bn X.K = true) (F : FO X.prog X.w X.K X.mg X.base k (He.ma X.K (He.ga X.K bn) "__eq__") ps (spD X.K m)) (hr : Room j X.A) (hj : k + 2 ≤ j) (A : PD X W a fa) (B : PD X W b fb) (hm : behindInMarks (cmpOf neg) b = false := by first | exact nomark _ | rfl) :
    PD X W (.Compare a [cmpOf neg] [b] pos) (xOp (oDeepL neg cs m) fa fb) := by
  obtain ⟨fd, F, hb⟩ := F
  obtain ⟨h1, h2⟩ := He.ba hB
  exact d_cmp (or_deep F (hr.mono hj) hb h1 h2) od_deep A B hm
theorem kt_deepEq {neg : Bool} {cs : List Str} {bn : Str} (hB : ewB cs bn X.K = true) (F : FO X.prog X.w X.K X.mg X.base k (He.ma X.K (He.ga X.K bn) "__eq__") ps (spD X.K m)) (hr : Room j X.A) (hj : k + 2 ≤ j) (A : PD X W a fa) (B : PD X W b fb) (hm : behindInMarks (cmpOf neg) b = false := by first | exact nomark _ | rfl) :
    PDT X W (.Compare a [cmpOf neg] [b] pos) (xTest (xOp (oDeepL neg cs m) fa fb)) := by
  obtain ⟨fd, F, hb⟩ := F
  obtain ⟨h1, h2⟩ := He.ba hB
  exact dt_cmp (or_deep F (hr.mono hj) hb h1 h2) od_deep A B hm
end
end LD

set_option maxHeartbeats 2000000
/-! Layer D, part L1: a lambda handed to a def that calls it inside try. -/
namespace LD
open PySem PySem.Spec PyProof.Rows L2
section
variable [Tbs] {G H H1 : Hp}
theorem Gh.ext (s : Gh G H) (e : LamX.ExtN H H1) (t : LamX.Tabs Tbs.T H1) : Gh G H1 := by
  have nt : ∀ {b : Addr} {o : HO}, G b = some o → NT o := fun {b o} h ps z => by
    have := s.s b o h
    rw [z] at this
    rw [s.nt b ps this] at h
    cases h
  refine ⟨fun b o h => e b o (s.s b o h) (nt h), fun b ps h => ?_, t⟩
  cases q : H b with
  | none => exact s.none q
  | some o =>
    by_cases hn : NT o
    · have := e b o q hn
      rw [h] at this
      exact absurd (Option.some.inj this).symm (hn ps)
    · obtain ⟨ps', hp⟩ := Classical.not_forall.mp hn
      rw [Classical.not_not.mp hp] at q
      exact s.nt b ps' q
theorem Tr.ext (s : Gh G H) (e : LamX.ExtN H H1) (t : LamX.Tabs Tbs.T H1) : Tr G H G H1 := ⟨fun b o h n => e b o h n, Same.refl _, s.ext e t, fun _ _ _ _ => rfl⟩
end
/-- what the def makes of the lambda: False where it comes through, True where it raises what the clause takes -/
def TTw (K : PySem.W.Frag) (CS : Addr) : (XK → Hp → VK → Prop) → Hp → VK → Prop := fun tl H Q =>
  tl (fun cls _ H' => ∃ b, PySem.W.exmOne K cls (.ref CS) = some b ∧ (b = true → Q (.bl true) H') ∧ (b = false → False)) H (fun _ H' => Q (.bl false) H')
theorem told1_gives {X : Cx} {Ng : List Str} {x a e q : Str} {sg : Scope} {g CS : Addr} {cdg : Value} {j j2 : Nat} {p1 p2 p3 p4 p5 p6 p7 p8 p9 p10 : Pos} (hge : sg.names.lookup e = some .globalImplicit) (hme : X.mg e = some (.ref CS)) (hde : (e == ("__debug__" : Str)) = false) (h0 : ∀ f : Addr, (L2.start Ng [V.ref f])[0]? = some (some (V.ref f)))
    (hsw : ∀ (A : Around) (s : Shared) (H : Hp), swapsWith (.Call (.Name a p1) [] [] p2) none p3.line (cxOf C8.CX0 X.prog X.w X.K X.mg X.base Ng x sg g cdg X.A X.stack s H C8.E0).env = pure false) :
    LamX.GivesTo X Ng x sg g cdg [.Try [.Expr (.Call (.Name a p1) [] [] p2) p3, .Return (some (.Constant (.bool false) j p4)) p5] [.ExceptHandler (some (.Name e p6)) none [.Return (some (.Constant (.bool true) j2 p7)) p8] p9] [] [] p10] a q (TTw X.K CS) := by
  intro f c' s H Q tl act hc h
  have hgl : Gl (cxOf C8.CX0 X.prog X.w X.K X.mg X.base Ng x sg g cdg X.A X.stack s H C8.E0).nox e := hge
  refine ⟨_, pss_one (ps_try_only (X := (cxOf C8.CX0 X.prog X.w X.K X.mg X.base Ng x sg g cdg X.A X.stack s H C8.E0).nox) (c := .ref CS)
      (tb := fun W D σ H => ∃ Ech : XK, (∀ cls d σ' H', Ech cls d H' → W cls d σ' H') ∧ σ[0]? = some (some (.ref f)) ∧ H c' = some (LamX.CodeO c' q) ∧ tl Ech H (fun _ H' => D.rt (.bl false) H'))
      rfl rfl ⟨hgl, hde, .inl hme⟩ LamX.takes0 (fun W pn xe tk _ => ?_) (fun a oe cls d pn _ _ => pss_one (ps_ret pe_bl))), ?_⟩
  · refine ⟨fun pins s' σ H' D I h' => ?_⟩
    obtain ⟨Ech, hW, h1, h2, h3⟩ := h'
    have hp := act W pn xe Ech p1 p2 tk hW
    exact (pss_cons (ps_expr (pos := p3) hp (hsw X.A s H)) (pss_one (ps_ret (pos := p5) (pe_bl (b := false) (j := j) (pos := p4))))).run pins s' σ H' D I ⟨h1, h2, h3⟩
  · exact ⟨fun cls _ H' => ∃ b, PySem.W.exmOne X.K cls (.ref CS) = some b ∧ (b = true → Q (.bl true) H') ∧ (b = false → False), fun cls d σ' H' ⟨b, e1, e2, e3⟩ => ⟨b, e1, fun hb a _ => e2 hb, fun hb => e3 hb⟩, h0 f, hc, h⟩
def xTold (tab : List (Str × Bool)) (fe : Ev → R DV) : Ev → R DV := fun δ => match fe δ with
  | .ok _ => .ok (.bl false)
  | .exc c _ => (match tab.lookup c with
    | some true => .ok (.bl true)
    | _ => .bad)
  | .bad => .bad
/-- THE RULE: x(lambda: body) -/
theorem d_told [Tbs] {X : Cx} {W : WX} {x a e : Str} {tab : List (Str × Bool)} {g c P : Addr} {k : Nat} {pg : Arguments} {bg : List Stmt} {sg : Scope} {dV kV doc pm cdv ct oc : Value} {an od : Option Addr} {osl : Array (Option Value)} {Ng : List Str} {fe : Ev → R DV}
    {params : Arguments} {body : Expr} {scope : Scope} {p lpos pos : Pos} (hg : Gl X x) (hm : X.mg x = some (.ref g)) (hk : PySem.W.keepIn X.K (.ref g) = true) (htab : exmB X.K tab e = true)
    (lk : X.K.lookup g = some ⟨oc, od, .func (PySem.W.fnOf x x pg bg sg dV kV doc pm an cdv ct), osl⟩) (hcg : PySem.W.codeIn X.K cdv x = true) (hb : L2.Binds X.K (PySem.W.fnOf x x pg bg sg dV kV doc pm an cdv ct) [a] []) (Sg : FnScope Ng [a] sg) (hNg : Ng[0]? = some a) (hva : Vis sg a)
    (hG : LamX.GivesTo X Ng x sg g cdv bg a (X.env.qual ++ "<lambda>") (TTw X.K (He.ga X.K e)))
    (TB : LamX.TabB X.base X.mg c P) (hcode : X.env.code = .ref c) (hmT : (P, X.env.qual ++ "<lambda>") ∈ Tbs.T) (hu : ∀ p ∈ Tbs.T, p.1 = P → p.2 = X.env.qual ++ "<lambda>") (hr : Room (k + 2) X.A) (L : LamX.LamS X.env.scope scope) (hdef : defaultsOf params X.env = ([], []))
    (hbind : ∀ (q : Str) (cl : List (Str × Addr)) (pm cv ctv : Value), bindArgs (PySem.W.kla_fn "<lambda>" q params body scope cl pm cv ctv) ⟨[], []⟩ = pure [])
    (A : ∀ (A : Around) (outer : List Env) (s : Shared) (H : Hp) (E : XK) (f c' : Addr), Room k (A.deeper (LamX.lamEnv X scope s.heap.objs.size f c')) → PD (LamX.lamCx X A outer s H E scope f c') (fun cls d _ H' => E cls d H') body fe)
    (hdb : (x == ("__debug__" : Str)) = false := by decide) (hd : (a == ("__debug__" : Str)) = false := by decide) (hcd : (a == ("__classdict__" : Str)) = false := by decide) :
    PD X W (.Call (.Name x p) [.Lambda params body scope lpos] [] pos) (xTold tab fe) := by
  refine ⟨_, LamX.pe_lamcall (T := Tbs.T) (t := fun E => cE X.K (fun cls d _ H' => E cls d H') fe) hg hm hk lk hcg hb Sg hNg hva hG TB hcode hmT hu hr L hdef hbind (fun A' outer s H E f c' hr' => (A A' outer s H E f c' hr').can) hdb hd hcd, fun {B G H δ σ Q} S h => ?_⟩
  refine ⟨S.gh.tb, fun H1 eN T1 => ?_⟩
  have tE := Tr.ext S.gh eN T1
  have S1 := S.step tE
  refine ⟨B, G, δ, S1, ?_⟩
  unfold xTold at h
  cases q : fe δ with
  | ok d =>
    rw [q] at h
    exact fun b H' G' t _ => h (.bl false) H' G' (tE.trans t) (.bl false)
  | exc cl fs =>
    rw [q] at h
    dsimp only at h
    intro H' G' d t xr
    cases l : tab.lookup cl with
    | none => rw [l] at h; exact h.elim
    | some b =>
      rw [l] at h
      cases b with
      | false => exact h.elim
      | true => exact ⟨true, of_decide_eq_true (List.all_eq_true.mp htab (cl, true) (look_mem l)), fun _ => h (.bl true) H' G' (tE.trans t) (.bl true), fun z => nomatch z⟩
  | bad => rw [q] at h; exact h.elim
end LD

set_option maxHeartbeats 2000000
/-! Layer D, part L2: enumerate; exceptions with an own __init__. -/
namespace LD
open PySem PySem.Spec PyProof.Rows L2
variable [Tbs]
/-! ### enumerate -/
def enD : Nat → List DV → List DV
  | _, [] => []
  | i, x :: xs => .tup [.int (i : Nat), x] :: enD (i + 1) xs
def asEnum : List DV → R (List DV)
  | [.lst xs] => .ok (enD 0 xs)
  | [.ro xs] => .ok (enD 0 xs)
  | _ => .bad
theorem enD_len : ∀ {i : Nat} {xs : List DV}, (enD i xs).length = xs.length
  | _, [] => rfl
  | i, _ :: xs => by simp [enD, enD_len (i := i + 1) (xs := xs)]
theorem enD_get : ∀ {j i : Nat} {xs : List DV} {x : DV}, xs[i]? = some x → (enD j xs)[i]? = some (.tup [.int ((j + i : Nat) : Int), x])
  | _, _, [], _, h => by simp at h
  | j, 0, _ :: _, _, h => by simp at h; subst h; simp [enD]
  | j, i + 1, _ :: xs, _, h => by
    simp at h
    have z := enD_get (j := j + 1) (i := i) (xs := xs) h
    have e : j + 1 + i = j + (i + 1) := by omega
    rw [e] at z
    simpa [enD] using z
section
variable {X : Cx} {W : WX} {a : Expr} {es : List Expr} {fa : Ev → R DV} {fes : Ev → R (List DV)} {pos p : Pos}
theorem walks_enum {K : PySem.W.Frag} {G : Hp} {a : Addr} {vs : List V} {ds : List DV} (r : DReps K G vs ds) (h1 : ∀ H, Same G H → SqL K H a vs) : Walks K (Ite K a) (enD 0 ds) G := by
  have l1 := r.length
  refine ⟨fun H s => ⟨vs, h1 H s, ?_⟩, fun i H s hi => ?_, fun i H x H' Gc g s hi y => ?_⟩
  · rw [enD_len]; omega
  · rw [enD_len] at hi
    exact ⟨vs, vs[i]'(by omega), h1 H s, List.getElem?_eq_getElem _⟩
  · obtain ⟨T, x1, rfl, hT, rfl, hx⟩ := y
    have ex := hx vs (h1 H (g.trans s.s))
    obtain ⟨d, hd, pd⟩ := r.get' ex
    have gn := Same.upd (o := .tup [.int ((i : Nat) : Int), x1]) (s.none hT)
    have z := enD_get (j := 0) hd
    rw [Nat.zero_add] at z
    exact ⟨upd Gc T (.tup [.int ((i : Nat) : Int), x1]), .tup [.int ((i : Nat) : Int), d], Tr.new s _ hT, z, .tup upd_same (.cons (.int _) (.cons ((pd.mono g).mono gn) .nil))⟩
theorem di_enum {tpos : Pos} {elts : List Expr} {kk : Nat} (hm : X.mg "enumerate" = none) (A : PDA X W [a] fes) (hg : Gl X "enumerate" := by rfl) (hs : starEach [a] X.env = [(false, eval a X.env)] := by rfl) :
    PID X W (.Tuple elts kk tpos) (.Call (.Name "enumerate" p) [a] [] pos) (fun δ => (fes δ).bind asEnum) := by
  obtain ⟨ta, pa, ha⟩ := A.ex
  refine ⟨_, pi_enum hg hm pa hs, fun {B0 G H δ σ Q} S h => ?_⟩
  refine ha S (Rq.bind (rep := DReps X.K) h fun x ex v H1 G1 t1 r1 h1 => ?_)
  unfold asEnum at h1
  split at h1
  · cases r1 with
    | cons ra rb => cases rb; cases ra with
      | lst e1 r2 => exact ⟨_, _, rfl, Same.seq t1.gh.s (SqL.of e1), h1 _ H1 G1 (Tr.refl t1.gh) (walks_enum r2 fun H s => Same.seq s (SqL.of e1))⟩
  · cases r1 with
    | cons ra rb => cases rb; cases ra with
      | ro e1 r2 => exact ⟨_, _, rfl, Same.seq t1.gh.s e1, h1 _ H1 G1 (Tr.refl t1.gh) (walks_enum r2 fun H s => Same.seq s e1)⟩
  · exact h1.elim
end
/-! ### an exception's own __init__: self.f = part -/
def spX (K : PySem.W.Frag) (f : Str) : Sp := fun vs H Q _ => ∃ (a C : Addr) (y : V), vs = [.ref a, y] ∧ OexC K C ∧ PySem.W.findIn K (.ref C) f = some none ∧ H a = some (exo a C none) ∧
  ∀ dx, H dx = none → dx ≠ a → Q .non (upd (upd H dx (exd dx [(f, y)])) a (exo a C (some dx)))
section
variable {P : Program} {w : World} {K : PySem.W.Frag} {mg : Str → Option Value} {base : Heap}
theorem fn_x {x qual s y fn : Str} {params : Arguments} {scope : Scope} {f : Addr} {fd : FuncData} {p1 p2 p3 p4 : Pos} (D : FunD K x qual params [.Assign [.Attribute (.Name s p1) fn p2] (.Name y p3) p4] scope [] [] f fd) (S : FnScope [s, y] [s, y] scope) (hb : Binds K fd [s, y] [])
    (hv1 : Vis scope s := by first | exact Or.inl rfl | exact Or.inr (Or.inl rfl)) (hv2 : Vis scope y := by first | exact Or.inl rfl | exact Or.inr (Or.inl rfl))
    (d1 : (s == ("__debug__" : Str)) = false := by decide) (d2 : (s == ("__classdict__" : Str)) = false := by decide) (d3 : (y == ("__debug__" : Str)) = false := by decide) (d4 : (y == ("__classdict__" : Str)) = false := by decide)
    (hsw : ∀ env, swapsWith (.Name y p3) (some (.Attribute (.Name s p1) fn p2)) p4.line env = pure false := by intro _; rfl) : FO P w K mg base 1 f [s, y] (spX K fn) := by
  refine ⟨fd, D.ok S (fun vs H Q E h => ?_) fun cdv A outer sh H vs Q E hr h => ?_, hb⟩
  · obtain ⟨a, C, y, rfl, _⟩ := h
    rfl
  · obtain ⟨a, C, v, rfl, T, hno, ha, hq⟩ := h
    refine ⟨_, pss_one (ps_ost (pv 0 (x := s) rfl hv1 d1 d2) (pv 1 (x := y) rfl hv2 d3 d4) (hsw _)), ?_⟩
    refine ⟨v, rfl, .ref a, rfl, a, C, rfl, T, hno, .inl ⟨ha, fun dx h1 h2 => hq dx h1 h2⟩⟩
end
theorem oexB_ok {K : PySem.W.Frag} {x f : Str} (h : oexB x f K = true) : OexC K (He.ga K x) ∧ PySem.W.findIn K (.ref (He.ga K x)) f = some none ∧ PySem.W.findIn K (.ref (He.ga K x)) "__init__" = some (some (.ref (He.ma K (He.ga K x) "__init__"))) ∧
    PySem.W.typeIn K (.ref (He.ma K (He.ga K x) "__init__")) = some (.type "function") := by
  obtain ⟨h1, h⟩ := He.ba h
  obtain ⟨h2, h⟩ := He.ba h
  obtain ⟨h3, h⟩ := He.ba h
  obtain ⟨h4, h⟩ := He.ba h
  obtain ⟨h5, h⟩ := He.ba h
  obtain ⟨h6, h⟩ := He.ba h
  obtain ⟨h7, h8⟩ := He.ba h
  refine ⟨⟨?_, He.eqO_ok h2, of_decide_eq_true h3, of_decide_eq_true h4, h5⟩, He.eqO_ok h6, He.eqO_ok h7, of_decide_eq_true h8⟩
  split at h1
  · rename_i t dd cd sl ho
    obtain ⟨ht, h1⟩ := He.ba h1
    split at h1
    · rename_i C' bm k0 k1 k2 k3 n k5 hm hs
      obtain ⟨z1, h1⟩ := He.ba h1
      obtain ⟨z2, h1⟩ := He.ba h1
      obtain ⟨z3, h1⟩ := He.ba h1
      obtain ⟨z4, z5⟩ := He.ba h1
      obtain ⟨nm, bs, mro, ns, qn, hd, sn, sub, ab, col, del⟩ := cd
      dsimp only at hm z3 z4
      have e1 := of_decide_eq_true z1
      have e2 := of_decide_eq_true z2
      have e3 : del = false := by simpa using z3
      have e4 : t = "type" := by simpa using ht
      subst hm e2 e3 z4 e4
      have hsl : sl = #[k0, k1, k2, k3, some (.builtin "ValueError.__new__"), k5] := by
        obtain ⟨l⟩ := sl
        exact congrArg Array.mk hs
      subst hsl
      rw [e1] at ho
      exact ⟨nm, qn, ns, bs, bm, sn, sub, ab, col, dd, k0, k1, k2, k3, k5, ho, z5⟩
    · cases h1
  · cases h1
section
variable {X : Cx} {W : WX} {e : Expr} {es : List Expr} {fa : Ev → R DV} {fes : Ev → R (List DV)} {pos p pos' : Pos} {k j : Nat} {ps : List Str}
def xPartF (f : Str) (fes : Ev → R (List DV)) : Ev → R (List (Str × DV)) := fun δ => match fes δ with
  | .ok [d] => .ok [(f, d)]
  | _ => .bad
theorem upd_made {H1 : Hp} {a dx C : Addr} {u : HO} {o1 o2 o3 : HO} (ha : H1 a = none) (hd : dx ≠ a) : upd (del (upd (upd (upd H1 a o1) dx o2) a o3) a) dx u = upd H1 dx u := by
  funext b
  by_cases h1 : b = dx
  · rw [h1, upd_same, upd_same]
  · rw [upd_ne h1, upd_ne h1]
    by_cases h2 : b = a
    · rw [h2, del_same, ha]
    · rw [del_ne h2, upd_ne h2, upd_ne h1, upd_ne h2]
theorem k_raiseX {cn f : Str} (hc : X.calm = true) (tk : Takes X W) (gC : X.mg cn = some (.ref (He.ga X.K cn))) (hE : oexB cn f X.K = true) (F : FO X.prog X.w X.K X.mg X.base k (He.ma X.K (He.ga X.K cn) "__init__") ps (spX X.K f)) (hr : Room j X.A) (hj : k + 1 ≤ j)
    (A : PDA X W (e :: es) fes) (hg : Gl X cn := by rfl) (hdb : (cn == ("__debug__" : Str)) = false := by decide) (he : starEach (e :: es) X.env = (false, eval e X.env) :: starEach es X.env := by rfl) (hpl : (backTo pos (starEach es X.env)).any (·.1) = false := by rfl) :
    PSD X W (.Raise (some (.Call (.Name cn p) (e :: es) [] pos)) none pos') (sRaise cn (xPartF f fes)) := by
  obtain ⟨fd, F1, hb⟩ := F
  obtain ⟨T, hno, iC, tI⟩ := oexB_ok hE
  obtain ⟨ta, pa, ha⟩ := A.ex
  refine ds_raise hc tk ⟨_, pmk_oex (CX := L2.CX X.prog X.w) (dvs := []) (ds := []) T iC tI F1 (hr.mono hj) hb .nil passL hg gC pa hdb he hpl, fun {B G H δ σ} S h => ?_⟩
  unfold xPartF at h
  split at h
  case h_2 => exact h.elim
  rename_i fs hfs
  split at hfs
  case h_2 => cases hfs
  rename_i d hd
  cases hfs
  refine ha S ?_
  rw [hd]
  intro vs H1 G1 t1 r1
  cases r1 with
  | cons r0 rr =>
  cases rr
  rename_i v
  refine ⟨by simp, fun a ha1 => ⟨a, He.ga X.K cn, v, rfl, T, hno, upd_same, fun dx h1 h2 => ⟨rfl, dx, [(f, v)], upd_same, by rw [upd_ne h2, upd_same], ?_, ?_⟩⟩⟩
  · rw [upd_ne h2] at h1; exact h1
  · rw [upd_ne h2] at h1
    rw [upd_made (C := a) ha1 h2]
    exact h _ G1 (some dx) (t1.trans (Tr.own t1.gh _ h1)) (.inr ⟨dx, [(f, v)], rfl, upd_same, .cons r0 .nil⟩)
end
end LD

set_option maxHeartbeats 2000000
/-! Layer D, part L3: except (a, b, c), always caught; lambdas told by it. -/
namespace LD
open PySem PySem.Spec PyProof.Rows L2
theorem flyZ_push {B h : Heap} {l : List Env} {e : Addr} {Z : Obj → Prop} {o : Obj} (f : HandSPX.FlyingZ B l e Z h) : HandSPX.FlyingZ B l e Z (h.push o) := by
  obtain ⟨z1, z2, z3, oe, vs, T, oT, ts, y1, y2, y3, y4, y5, y6, y7, y8, y9⟩ := f
  have kp : ∀ {b : Addr} {u : Obj}, h.get? b = some u → (h.push o).get? b = some u := fun e => Heap.get?_push_of_some _ e
  exact ⟨fun b u q => kp (z1 b u q), z2, z3.of_keeps fun b u q _ => ⟨u, kp q, rfl⟩, oe, vs, T, oT, ts, kp y1, y2, y3, y4, y5, y6, kp y7, y8, y9⟩
theorem up_push {h : Heap} {o : Obj} : h.UpToSlots (h.push o) := fun b u e _ => ⟨u.slots, Heap.get?_push_of_some _ e⟩
/-- of an exception: one of the three, the suite goes on -/
def wTup (K : PySem.W.Frag) (cs : List Value) (ts : TS) (D : Ends) : WX := fun cls d σ H => PySem.W.exmAny K cls cs = some true ∧ ts D σ H
section
variable {X : Cx} {x1 x2 x3 : Str} {c1 c2 c3 : Value} {body suite : List Stmt} {b₀ : Stmt} {p1 p2 p3 p4 pos pos' : Pos} {kk : Nat} {tb : WX → TS} {ts : TS}
theorem ps_try_tup (hs : X.stack = X.env :: X.outer) (hf : X.env.frame = some X.env.locals) (n1 : Names X x1 c1) (n2 : Names X x2 c2) (n3 : Names X x3 c3)
    (hb : ∀ (W : WX) (pn : List (Addr × Obj)) (xe : Value → Shared → Prop), Takes (X.tr pn xe) W → PassesOwn (model X.prog X.w) X.A X.env xe → PSs (X.tr pn xe) body (tb W))
    (hsu : ∀ (a : Addr) (pn : List (Addr × Obj)), PSs (X.suite a pn) (b₀ :: suite) ts) :
    PS X (.Try body [.ExceptHandler (some (.Tuple [.Name x1 p1, .Name x2 p2, .Name x3 p3] kk p4)) none (b₀ :: suite) pos'] [] [] pos) (fun D σ H => tb (wTup X.K [c1, c2, c3] ts D) D σ H) := by
  refine ⟨fun pins s σ H D I h => ?_⟩
  have ok := I.ok
  have hfr : X.A.frames = some (X.env :: X.outer) := by rw [ok.frames, hs]
  refine wpAny_Try_except (wpAny_mono ((hb (wTup X.K [c1, c2, c3] ts D) (X.pn ++ pins) (fun e z1 => wpAny (model X.prog X.w) X.A (noteFrame e X.env) (fun _ z2 => wpAny (model X.prog X.w) X.A (setFlight e none) (fun _ z3 =>
    wpAny (model X.prog X.w) X.A (handleBy e X.env [.ExceptHandler (some (.Tuple [.Name x1 p1, .Name x2 p2, .Name x3 p3] kk p4)) none (b₀ :: suite) pos']) (SP X pins D) X.xe z3) X.xe z2) X.xe z1) (fun u s' xx => ?_) PassesOwn.looking).run [] s σ H D (I.toTry _) h) (fun f s1 hsp => ?_) (fun e s1 he => he))
  · obtain ⟨a, B, sI, pins', σ', H', cls, d, rfl, J', nb, up, sky, na, os, ag, hx, ht⟩ := xx
    have J : Inv X pins σ' H' sI := J'.ofTry ok
    have sky' : Sky B (X.env :: X.outer) a (Zc cls d) X.env.locals s'.heap := hs ▸ sky
    show wpAny _ X.A (noteFrame (.ref a) X.env) _ _ _
    refine Sky.land Zc.steady hfr hf sky' fun h3 fl3 up3 => ?_
    have J3 : Inv X pins σ' H' { s' with heap := h3 } := J.landed nb fl3.1 (up.trans up3) os ag
    obtain ⟨oe3, vs3, he3, hz3, hd3⟩ := fl3.there
    have nfr : a ∉ frs (X.env :: X.outer) := fun hm => by
      obtain ⟨_, o', e', hnf⟩ := fl3.2.2.1.mem hm
      rw [he3] at e'
      cases e'
      exact hnf _ hd3
    have nL : a ≠ X.env.locals := fun z => nfr (List.mem_filterMap.mpr ⟨_, .head _, by rw [hf, z]⟩)
    have nF : a ∉ X.fs := fun hm => by
      obtain ⟨e, he, q⟩ := List.mem_filterMap.mp hm
      exact nfr (List.mem_filterMap.mpr ⟨e, .tail _ he, q⟩)
    have S3 := J3.suite he3 hd3 na nL nF
    refine wpAny_handleBy_cons (codeAny_handlers_test ?_) (by intro q; cases q)
    have name : ∀ {x : Str} {c : Value} {p : Pos} {Q : Value → Shared → Prop} {E : Value → Shared → Prop}, Names X x c → Q c { s' with heap := h3 } → wpAny (model X.prog X.w) (X.A.mark (some (.ref a))) (eval (.Name x p) X.env) Q E { s' with heap := h3 } := fun {x c p Q E} n q => by
      obtain ⟨hg, hdb, hm | ⟨hm, hv, hnn⟩⟩ := n
      · exact ld_glob (X := X.suite a ((a, oe3) :: (X.pn ++ pins))) S3 hg hm q hdb
      · exact ld_blt (X := X.suite a ((a, oe3) :: (X.pn ++ pins))) S3 hg hm hv q hnn hdb
    refine wpAny_Tuple (wpAny_items_cons (name n1 (wpAny_items_cons (name n2 (wpAny_items_cons (name n3 (wpAny_items_nil ⟨by size_fits, ?_⟩)))))))
    have kp : ∀ b o, h3.get? b = some o → (h3.push { cls := .type "tuple", data := .seq [c1, c2, c3].toArray }).get? b = some o := fun _ _ z => Heap.get?_push_of_some _ z
    have kI : X.K.In (h3.push { cls := .type "tuple", data := .seq [c1, c2, c3].toArray }) := J3.kIn.keeps kp
    have LT : PySem.W.Looks (model X.prog X.w) (h3.push { cls := .type "tuple", data := .seq [c1, c2, c3].toArray }) (typeOf (.ref a)) cls := fun A Q E s k q => wpAny_typeOf_ref (k _ _ (kp _ _ he3)) (hz3.1 ▸ q)
    refine (PySem.W.exm_tup3 kI LT (Heap.get?_push_size h3 rfl) hx).here (codeAny_handlers_suite ?_)
    refine HandSPX.lands_againZ (flyZ_push fl3) fun h4 fl4 up4 => ?_
    have J4 : Inv X pins σ' H' { s' with heap := h4 } := J.landed nb fl4.1 (((up.trans up3).trans up_push).trans up4) os ag
    obtain ⟨oe4, vs4, he4, hz4, hd4⟩ := fl4.there
    refine wpAny_mono ((hsu a ((a, oe4) :: (X.pn ++ pins))).run [] _ _ H' _ (J4.suite he4 hd4 na nL nF) ht) (fun f s6 hsp => ?_) (fun _ _ z => z.elim)
    cases f with
    | ret u => exact let ⟨v6, σ6, H6, S6, r6, q6⟩ := hsp; ⟨_, _, _, S6.unsuite ok, r6, q6⟩
    | next => exact let ⟨σ6, H6, S6, q6⟩ := hsp; ⟨_, _, S6.unsuite ok, q6⟩
    | brk => exact let ⟨σ6, H6, S6, q6⟩ := hsp; ⟨_, _, S6.unsuite ok, q6⟩
    | cont => exact let ⟨σ6, H6, S6, q6⟩ := hsp; ⟨_, _, S6.unsuite ok, q6⟩
  · cases f with
    | ret u => exact let ⟨v, σ', H', J', r, q⟩ := hsp; ⟨v, σ', H', J'.ofTry ok, r, q⟩
    | next => exact let ⟨σ', H', J', q⟩ := hsp; wpAny_execs_nil ⟨σ', H', J'.ofTry ok, q⟩
    | brk => exact let ⟨σ', H', J', q⟩ := hsp; ⟨σ', H', J'.ofTry ok, q⟩
    | cont => exact let ⟨σ', H', J', q⟩ := hsp; ⟨σ', H', J'.ofTry ok, q⟩
end
/-- what a def makes of the lambda: False where it comes through, True where it raises one of the three -/
def TTw3 (K : PySem.W.Frag) (cs : List Value) : (XK → Hp → VK → Prop) → Hp → VK → Prop := fun tl H Q =>
  tl (fun cls _ H' => PySem.W.exmAny K cls cs = some true ∧ Q (.bl true) H') H (fun _ H' => Q (.bl false) H')
theorem told3_gives {X : Cx} {Ng : List Str} {x a e1 e2 e3 q : Str} {sg : Scope} {g : Addr} {c1 c2 c3 : Addr} {cdg : Value} {j j2 kk : Nat} {p1 p2 p3 p4 p5 p6 p7 p8 p9 p10 p11 p12 p13 : Pos}
    (g1 : sg.names.lookup e1 = some .globalImplicit) (m1 : X.mg e1 = some (.ref c1)) (d1 : (e1 == ("__debug__" : Str)) = false) (g2 : sg.names.lookup e2 = some .globalImplicit) (m2 : X.mg e2 = some (.ref c2)) (d2 : (e2 == ("__debug__" : Str)) = false)
    (g3 : sg.names.lookup e3 = some .globalImplicit) (m3 : X.mg e3 = some (.ref c3)) (d3 : (e3 == ("__debug__" : Str)) = false) (h0 : ∀ f : Addr, (L2.start Ng [V.ref f])[0]? = some (some (V.ref f)))
    (hsw : ∀ env, swapsWith (.Call (.Name a p1) [] [] p2) none p3.line env = pure false) :
    LamX.GivesTo X Ng x sg g cdg [.Try [.Expr (.Call (.Name a p1) [] [] p2) p3, .Return (some (.Constant (.bool false) j p4)) p5] [.ExceptHandler (some (.Tuple [.Name e1 p6, .Name e2 p11, .Name e3 p12] kk p13)) none [.Return (some (.Constant (.bool true) j2 p7)) p8] p9] [] [] p10] a q (TTw3 X.K [.ref c1, .ref c2, .ref c3]) := by
  intro f c' s H Q tl act hc h
  refine ⟨_, pss_one (ps_try_tup (X := (cxOf C8.CX0 X.prog X.w X.K X.mg X.base Ng x sg g cdg X.A X.stack s H C8.E0).nox) (c1 := .ref c1) (c2 := .ref c2) (c3 := .ref c3)
      (tb := fun W D σ H => ∃ Ech : XK, (∀ cls d σ' H', Ech cls d H' → W cls d σ' H') ∧ σ[0]? = some (some (.ref f)) ∧ H c' = some (LamX.CodeO c' q) ∧ tl Ech H (fun _ H' => D.rt (.bl false) H'))
      rfl rfl ⟨g1, d1, .inl m1⟩ ⟨g2, d2, .inl m2⟩ ⟨g3, d3, .inl m3⟩ (fun W pn xe tk _ => ?_) (fun a pn => pss_one (ps_ret pe_bl))), ?_⟩
  · refine ⟨fun pins s' σ H' D I h' => ?_⟩
    obtain ⟨Ech, hW, h1, h2, h3⟩ := h'
    have hp := act W pn xe Ech p1 p2 tk hW
    exact (pss_cons (ps_expr (pos := p3) hp (hsw _)) (pss_one (ps_ret (pos := p5) (pe_bl (b := false) (j := j) (pos := p4))))).run pins s' σ H' D I ⟨h1, h2, h3⟩
  · exact ⟨fun cls _ H' => PySem.W.exmAny X.K cls [.ref c1, .ref c2, .ref c3] = some true ∧ Q (.bl true) H', fun cls d σ' H' z => z, h0 f, hc, h⟩
def xTold3 (cs : List Str) (fe : Ev → R DV) : Ev → R DV := fun δ => match fe δ with
  | .ok _ => .ok (.bl false)
  | .exc c _ => if cs.contains c = true then .ok (.bl true) else .bad
  | .bad => .bad
/-- THE RULE: x(lambda: body) -/
theorem d_told3 [Tbs] {X : Cx} {W : WX} {x a : Str} {es cs : List Str} {g c P : Addr} {k : Nat} {pg : Arguments} {bg : List Stmt} {sg : Scope} {dV kV doc pm cdv ct oc : Value} {an od : Option Addr} {osl : Array (Option Value)} {Ng : List Str} {fe : Ev → R DV}
    {params : Arguments} {body : Expr} {scope : Scope} {p lpos pos : Pos} (hg : Gl X x) (hm : X.mg x = some (.ref g)) (hk : PySem.W.keepIn X.K (.ref g) = true) (htab : exm3B X.K cs es = true)
    (lk : X.K.lookup g = some ⟨oc, od, .func (PySem.W.fnOf x x pg bg sg dV kV doc pm an cdv ct), osl⟩) (hcg : PySem.W.codeIn X.K cdv x = true) (hb : L2.Binds X.K (PySem.W.fnOf x x pg bg sg dV kV doc pm an cdv ct) [a] []) (Sg : FnScope Ng [a] sg) (hNg : Ng[0]? = some a) (hva : Vis sg a)
    (hG : LamX.GivesTo X Ng x sg g cdv bg a (X.env.qual ++ "<lambda>") (TTw3 X.K (es.map fun e => .ref (He.ga X.K e))))
    (TB : LamX.TabB X.base X.mg c P) (hcode : X.env.code = .ref c) (hmT : (P, X.env.qual ++ "<lambda>") ∈ Tbs.T) (hu : ∀ p ∈ Tbs.T, p.1 = P → p.2 = X.env.qual ++ "<lambda>") (hr : Room (k + 2) X.A) (L : LamX.LamS X.env.scope scope) (hdef : defaultsOf params X.env = ([], []))
    (hbind : ∀ (q : Str) (cl : List (Str × Addr)) (pm cv ctv : Value), bindArgs (PySem.W.kla_fn "<lambda>" q params body scope cl pm cv ctv) ⟨[], []⟩ = pure [])
    (A : ∀ (A : Around) (outer : List Env) (s : Shared) (H : Hp) (E : XK) (f c' : Addr), Room k (A.deeper (LamX.lamEnv X scope s.heap.objs.size f c')) → PD (LamX.lamCx X A outer s H E scope f c') (fun cls d _ H' => E cls d H') body fe)
    (hdb : (x == ("__debug__" : Str)) = false := by decide) (hd : (a == ("__debug__" : Str)) = false := by decide) (hcd : (a == ("__classdict__" : Str)) = false := by decide) :
    PD X W (.Call (.Name x p) [.Lambda params body scope lpos] [] pos) (xTold3 cs fe) := by
  refine ⟨_, LamX.pe_lamcall (T := Tbs.T) (t := fun E => cE X.K (fun cls d _ H' => E cls d H') fe) hg hm hk lk hcg hb Sg hNg hva hG TB hcode hmT hu hr L hdef hbind (fun A' outer s H E f c' hr' => (A A' outer s H E f c' hr').can) hdb hd hcd, fun {B G H δ σ Q} S h => ?_⟩
  refine ⟨S.gh.tb, fun H1 eN T1 => ?_⟩
  have tE := Tr.ext S.gh eN T1
  refine ⟨B, G, δ, S.step tE, ?_⟩
  unfold xTold3 at h
  cases q : fe δ with
  | ok d =>
    rw [q] at h
    exact fun b H' G' t _ => h (.bl false) H' G' (tE.trans t) (.bl false)
  | exc cl fs =>
    rw [q] at h
    dsimp only at h
    by_cases hc : cs.contains cl = true
    · rw [if_pos hc] at h
      intro H' G' d t xr
      exact ⟨of_decide_eq_true (List.all_eq_true.mp htab cl (by simpa using hc)), h (.bl true) H' G' (tE.trans t) (.bl true)⟩
    · rw [if_neg hc] at h; exact h.elim
  | bad => rw [q] at h; exact h.elim
end LD

set_option maxHeartbeats 2000000
/-! Layer D, part L4: defs that make lambdas: their tables; the head's Hook; the end. -/
namespace LD
open PySem PySem.Spec PyProof.Rows L2
def lamQ (q : Str) : Str := (q ++ ".<locals>.") ++ "<lambda>"
def tblsOf (K : PySem.W.Frag) (tf : List MkE) : List (Addr × Str) := tf.map fun p => ((He.cT K p.1).2, lamQ p.2)
/-- what the making of a lambda asks of the context -/
structure Mk [Tbs] (X : Cx) : Prop where
  ex : ∃ c P, LamX.TabB X.base X.mg c P ∧ X.env.code = .ref c ∧ (P, X.env.qual ++ "<lambda>") ∈ Tbs.T ∧ ∀ p ∈ Tbs.T, p.1 = P → p.2 = X.env.qual ++ "<lambda>"
structure FxT [Tbs] (P : Program) (fa : List Fk) (fn : List DefE) (tf : List MkE) (K : PySem.W.Frag) (mg : Str → Option Value) (base : Heap) : Prop extends Fx P fa fn K mg where
  tt : Tbs.T = tblsOf K tf
  tb : ∀ p ∈ tf, LamX.TabB base mg (He.cT K p.1).1 (He.cT K p.1).2
  nd : tdB tf K = true
theorem nodup_inj {α β : Type} {f : α → β} : ∀ {l : List α}, (l.map f).Nodup → ∀ {x y : α}, x ∈ l → y ∈ l → f x = f y → x = y
  | [], _, x, y, hx, _, _ => by cases hx
  | a :: l, h, x, y, hx, hy, e => by
    obtain ⟨h1, h2⟩ := List.nodup_cons.mp (show (f a :: l.map f).Nodup from h)
    rcases List.mem_cons.mp hx with e1 | hx
    · rcases List.mem_cons.mp hy with e2 | hy
      · rw [e1, e2]
      · exact absurd (List.mem_map.mpr ⟨y, hy, by rw [← e, e1]⟩) h1
    · rcases List.mem_cons.mp hy with e2 | hy
      · exact absurd (List.mem_map.mpr ⟨x, hx, by rw [e, e2]⟩) h1
      · exact nodup_inj h2 hx hy e
section
variable [Tbs] {P : Program} {w : World} {fa : List Fk} {fn : List DefE} {tf : List MkE} {K : PySem.W.Frag} {mg : Str → Option Value} {base : Heap}
theorem FxT.mk_ (x : FxT P fa fn tf K mg base) {p : MkE} (hp : p ∈ tf) {X : Cx} (h1 : X.base = base) (h2 : X.mg = mg) (h3 : X.env.code = .ref (He.cT K p.1).1) (h4 : X.env.qual ++ "<lambda>" = lamQ p.2) : Mk X := by
  refine ⟨(He.cT K p.1).1, (He.cT K p.1).2, ?_, h3, ?_, fun q hq e => ?_⟩
  · rw [h1, h2]; exact x.tb p hp
  · rw [x.tt, h4]
    exact List.mem_map.mpr ⟨p, hp, rfl⟩
  · rw [x.tt] at hq
    obtain ⟨p2, hp2, e2⟩ := List.mem_map.mp hq
    subst e2
    have := nodup_inj (of_decide_eq_true x.nd) hp2 hp e
    rw [this, h4]
theorem okC {x qual : Str} {params : Arguments} {body : List Stmt} {scope : Scope} {dvs : List V} {kws : List (Str × V)} {f : Addr} {fd : FuncData} {CX : CXT} {N ps : List Str} {k : Nat} {sp : Sp} {p : He.Defn} (hp : He.fAd K p = f) (D : FunD K x qual params body scope dvs kws f fd) (S : FnScope N ps scope)
    (len : ∀ vs H Q E, sp vs H Q E → vs.length = ps.length)
    (hbody : ∀ (A : Around) (outer : List Env) (s : Shared) (H : Hp) (vs : List V) (Q : VK) (E : XK), Room k (A.deeper (envOfC qual scope s.heap.objs.size f (.ref (He.cT K p).1))) → sp vs H Q E →
      ∃ t, PSs (cxOf CX P w K mg base N qual scope f (.ref (He.cT K p).1) A outer s H E) body t ∧ t { nx := fun _ H' => Q .non H', rt := Q } (L2.start N vs) H) : FnOk P w K mg base CX (k + 1) f fd ps sp := by
  obtain ⟨oc, od, dV, kV, doc, pm, an, cdv, ct, osl, e, lk, hcd, _, _⟩ := D.ex
  obtain ⟨c, ec⟩ := He.codeIn_ref hcd
  have hk : (He.cT K p).1 = c := He.codeOf_eq (p := p) (by rw [hp]; exact lk) (by rw [e, ec] <;> rfl)
  subst e
  rw [hk] at hbody
  subst ec
  exact fn_of lk hcd S len fun A outer s H vs Q E hr hsp => hbody A outer s H vs Q E hr hsp
theorem fn_dC {x qual : Str} {params : Arguments} {body : List Stmt} {scope : Scope} {dvs : List V} {kws : List (Str × V)} {f : Addr} {fd : FuncData} {N ps : List Str} {k : Nat} {F : Ev → SR} {p : He.Defn} (hp : He.fAd K p = f)
    (D : FunD K x qual params body scope dvs kws f fd) (S : FnScope N ps scope) (hle : ps.length ≤ N.length)
    (hbody : ∀ (A : Around) (outer : List Env) (s : Shared) (H : Hp) (E : XK), Room k (A.deeper (envOfC qual scope s.heap.objs.size f (.ref (He.cT K p).1))) →
      PSSD (cxOf (L2.CX P w) P w K mg base N qual scope f (.ref (He.cT K p).1) A outer s H E) (fun cls d _ H' => E cls d H') body F) : FnOk P w K mg base (L2.CX P w) (k + 1) f fd ps (spD K (mir N.length ps.length F)) := by
  have key : ∀ {G H : Hp} {ds : List DV} {Q : VK} {E : XK}, Rq K (DRep K) (fun c d H' => E c d H') G H (mir N.length ps.length F ds) Q → ds.length = ps.length := fun {G H ds Q E} h => by
    unfold mir at h
    cases c : Nat.beq ds.length ps.length with
    | true => exact Nat.eq_of_beq_eq_true c
    | false => rw [c] at h; exact h.elim
  refine okC hp D S (fun vs H Q E h => ?_) fun A outer s H vs Q E hr h => ?_
  · obtain ⟨G, ds, s, r, h⟩ := h
    rw [r.length]
    exact key h
  · obtain ⟨G, ds, s1, r, h⟩ := h
    have hl := key h
    obtain ⟨t, pt, ht⟩ := (hbody A outer s H E hr).ex
    refine ⟨t, pt, ht (B := ⟨strip H, G, none⟩) (sok_args (k := N.length - ps.length) s1 r (by rw [r.length, hl])) ?_⟩
    unfold mir at h
    rw [show Nat.beq ds.length ps.length = true from (by rw [hl]; exact Nat.beq_refl _)] at h
    rw [if_pos rfl] at h
    cases q : F (ds.map Sl.pu ++ List.replicate (N.length - ps.length) Sl.un) with
    | nx δ => rw [q] at h; exact fun σ H' G' g S' => h .non H' G' S'.tr.strip .non
    | rt d => rw [q] at h; exact fun v H' G' t p => h v H' G' t.strip p
    | ex c fs δ => rw [q] at h; exact fun σ H' G' dx g S' x => h H' G' dx S'.tr.strip x
    | bk δ => rw [q] at h; exact h.elim
    | ct δ => rw [q] at h; exact h.elim
    | bad => rw [q] at h; exact h.elim
/-- a maker's def, as printed -/
theorem fn_kC {x qual : Str} {params : Arguments} {body : List Stmt} {scope : Scope} {dvs : List V} {kws : List (Str × V)} {f : Addr} {fd : FuncData} {N ps : List Str} {k : Nat} {F : Ev → SR} {p : MkE} (y : FxT P fa fn tf K mg base) (hm : p ∈ tf) (hp : He.fAd K p.1 = f) (hq : p.2 = qual)
    (D : FunD K x qual params body scope dvs kws f fd) (S : FnScope N ps scope) (hle : ps.length ≤ N.length) (hb : Binds K fd ps [])
    (hbody : ∀ (cdv : Value) (A : Around) (outer : List Env) (s : Shared) (H : Hp) (E : XK), Mk (cxOf (L2.CX P w) P w K mg base N qual scope f cdv A outer s H E) → Room k (cxOf (L2.CX P w) P w K mg base N qual scope f cdv A outer s H E).A →
      Takes (cxOf (L2.CX P w) P w K mg base N qual scope f cdv A outer s H E) (fun cls d _ H' => E cls d H') →
      Own (cxOf (L2.CX P w) P w K mg base N qual scope f cdv A outer s H E) → PSSD (cxOf (L2.CX P w) P w K mg base N qual scope f cdv A outer s H E) (fun cls d _ H' => E cls d H') body F) : FO P w K mg base (k + 1) f ps (spD K (mir N.length ps.length F)) :=
  ⟨fd, fn_dC hp D S hle fun A outer s H E hr => hbody _ A outer s H E (y.mk_ hm rfl rfl rfl (by rw [hq] <;> rfl)) hr (takes_of rfl rfl rfl rfl) (passes_of rfl), hb⟩
/-- the law's own def, a maker -/
def FLT (P : Program) (w : World) (K : PySem.W.Frag) (mg : Str → Option Value) (base : Heap) (k : Nat) (f : Addr) (fd : FuncData) (x : Str) (m : Mir) : Prop :=
  FnOk P w K mg base (L2.CX P w) k f fd [x] (spD K m)
end
/-! ### a lambda told -/
section
variable [Tbs] {X : Cx} {W : WX} {x a : Str} {es cs : List Str} {k : Nat} {pg : Arguments} {bg : List Stmt} {sg : Scope} {fd : FuncData} {Ng : List Str} {fe : Ev → R DV} {params : Arguments} {body : Expr} {scope : Scope} {p lpos pos : Pos}
theorem k_told3 (M : Mk X) (D : FunD X.K x x pg bg sg [] [] (He.ga X.K x) fd) (hb : L2.Binds X.K fd [a] []) (Sg : FnScope Ng [a] sg) (hNg : Ng[0]? = some a) (hva : Vis sg a) (hm : X.mg x = some (.ref (He.ga X.K x))) (htab : exm3B X.K cs es = true)
    (hG : ∀ cdv, LamX.GivesTo X Ng x sg (He.ga X.K x) cdv bg a (X.env.qual ++ "<lambda>") (TTw3 X.K (es.map fun e => .ref (He.ga X.K e)))) (hr : Room (k + 2) X.A) (L : LamX.lamSB X.env.scope scope = true)
    (A : ∀ (A : Around) (outer : List Env) (s : Shared) (H : Hp) (E : XK) (f c' : Addr), Room k (LamX.lamCx X A outer s H E scope f c').A → Takes (LamX.lamCx X A outer s H E scope f c') (fun cls d _ H' => E cls d H') → PD (LamX.lamCx X A outer s H E scope f c') (fun cls d _ H' => E cls d H') body fe)
    (hg : Gl X x := by rfl) (hdef : defaultsOf params X.env = ([], []) := by rfl)
    (hbind : ∀ (q : Str) (cl : List (Str × Addr)) (pm cv ctv : Value), bindArgs (PySem.W.kla_fn "<lambda>" q params body scope cl pm cv ctv) ⟨[], []⟩ = pure [] := by intros; rfl)
    (hdb : (x == ("__debug__" : Str)) = false := by decide) (hd : (a == ("__debug__" : Str)) = false := by decide) (hcd : (a == ("__classdict__" : Str)) = false := by decide) :
    PD X W (.Call (.Name x p) [.Lambda params body scope lpos] [] pos) (xTold3 cs fe) := by
  obtain ⟨c, P, TB, hcode, hmT, hu⟩ := M.ex
  obtain ⟨oc, od, dV, kV, doc, pm, an, cdv, ct, osl, rfl, lk, hcg, _, _⟩ := D.ex
  exact d_told3 hg hm D.kp htab lk hcg hb Sg hNg hva (hG cdv) TB hcode hmT hu hr (LamX.lamS_by L) hdef hbind (fun A' outer s H E f c' hr' => A A' outer s H E f c' hr' (takes_of rfl rfl rfl rfl)) hdb hd hcd
theorem k_told {e : Str} {tab : List (Str × Bool)} (M : Mk X) (D : FunD X.K x x pg bg sg [] [] (He.ga X.K x) fd) (hb : L2.Binds X.K fd [a] []) (Sg : FnScope Ng [a] sg) (hNg : Ng[0]? = some a) (hva : Vis sg a) (hm : X.mg x = some (.ref (He.ga X.K x))) (htab : exmB X.K tab e = true)
    (hG : ∀ cdv, LamX.GivesTo X Ng x sg (He.ga X.K x) cdv bg a (X.env.qual ++ "<lambda>") (TTw X.K (He.ga X.K e))) (hr : Room (k + 2) X.A) (L : LamX.lamSB X.env.scope scope = true)
    (A : ∀ (A : Around) (outer : List Env) (s : Shared) (H : Hp) (E : XK) (f c' : Addr), Room k (LamX.lamCx X A outer s H E scope f c').A → Takes (LamX.lamCx X A outer s H E scope f c') (fun cls d _ H' => E cls d H') → PD (LamX.lamCx X A outer s H E scope f c') (fun cls d _ H' => E cls d H') body fe)
    (hg : Gl X x := by rfl) (hdef : defaultsOf params X.env = ([], []) := by rfl)
    (hbind : ∀ (q : Str) (cl : List (Str × Addr)) (pm cv ctv : Value), bindArgs (PySem.W.kla_fn "<lambda>" q params body scope cl pm cv ctv) ⟨[], []⟩ = pure [] := by intros; rfl)
    (hdb : (x == ("__debug__" : Str)) = false := by decide) (hd : (a == ("__debug__" : Str)) = false := by decide) (hcd : (a == ("__classdict__" : Str)) = false := by decide) :
    PD X W (.Call (.Name x p) [.Lambda params body scope lpos] [] pos) (xTold tab fe) := by
  obtain ⟨c, P, TB, hcode, hmT, hu⟩ := M.ex
  obtain ⟨oc, od, dV, kV, doc, pm, an, cdv, ct, osl, rfl, lk, hcg, _, _⟩ := D.ex
  exact d_told hg hm D.kp htab lk hcg hb Sg hNg hva (hG cdv) TB hcode hmT hu hr (LamX.lamS_by L) hdef hbind (fun A' outer s H E f c' hr' => A A' outer s H E f c' hr' (takes_of rfl rfl rfl rfl)) hdb hd hcd
end
/-! ### the Hook -/
structure SaysL4 (P : Program) (fa : List Fk) (fn : List DefE) (tf : List MkE) (h : Heap) (K : PySem.W.Frag) : Prop where
  s : SaysL P fa fn K
  hd : ∀ p ∈ tf, PySem.W.codeHdIn K (He.cT K p.1).1 (He.cT K p.1).2 = true
  out : ∀ p ∈ tf, K.lookup (He.cT K p.1).2 = none
  empty : ∀ p ∈ tf, h.get? (He.cT K p.1).2 = some { cls := .none, data := .fields #[] }
  nd : tdB tf K = true
theorem says4_of {P : Program} {n : Nat} {fa : List Fk} {fn : List DefE} {tf : List MkE} {h : Heap} (e : obs4G P n fa fn tf h.get? = (valL fn, true)) : SaysL4 P fa fn tf h (He.frT h.get? (cStatics :: He.asD h.get? n)) := by
  have e1 : obsL P fa fn (He.frT h.get? (cStatics :: He.asD h.get? n)) = valL fn := congrArg (fun z : AlL4 => z.1) e
  obtain ⟨e2, e3⟩ := He.ba (show (tdB tf _ && He.tabsB h.get? (tf.map (·.1)) _) = true from congrArg (fun z : AlL4 => z.2) e)
  have key : ∀ p ∈ tf, PySem.W.codeHdIn (He.frT h.get? (cStatics :: He.asD h.get? n)) (He.cT (He.frT h.get? (cStatics :: He.asD h.get? n)) p.1).1 (He.cT (He.frT h.get? (cStatics :: He.asD h.get? n)) p.1).2 = true ∧
      ∃ o, h.get? (He.cT (He.frT h.get? (cStatics :: He.asD h.get? n)) p.1).2 = some o ∧ He.emptyTab o = true := fun p hp => by
    obtain ⟨k1, k2⟩ := He.ba (List.all_eq_true.mp e3 p.1 (List.mem_map.mpr ⟨p, hp, rfl⟩))
    refine ⟨k1, ?_⟩
    split at k2
    · rename_i o q; exact ⟨o, q, k2⟩
    · cases k2
  exact ⟨e1, fun p hp => (key p hp).1, fun p hp => let ⟨_, o, q, z⟩ := key p hp; He.frT_none q z, fun p hp => let ⟨_, o, q, z⟩ := key p hp; by rw [q, He.emptyTab_eq z], e2⟩
def hook4 (P : Program) (n : Nat) (fa : List Fk) (fn : List DefE) (tf : List MkE) : PySem.W.Hook where
  α := AlL4
  obs := fun s => obs4G P n fa fn tf s.heap.get?
  val := fun _ => (valL fn, true)
  says := fun _ h => ∃ K : PySem.W.Frag, K.In h ∧ SaysL4 P fa fn tf h K
  of := fun _ _ e => ⟨_, He.frT_in, says4_of e⟩
  keeps := fun _ _ _ ⟨K, hK, c⟩ k => ⟨K, hK.keeps k, c.s, c.hd, c.out, fun p hp => k _ _ (c.empty p hp), c.nd⟩
theorem obs4G_eq {P : Program} {n : Nat} {fa : List Fk} {fn : List DefE} {tf : List MkE} {g : Addr → Option Obj} {s : Shared} (h : ∀ a, g a = s.heap.get? a) : obs4G P n fa fn tf g = (hook4 P n fa fn tf).obs s := by
  obtain rfl : g = s.heap.get? := funext h
  rfl
/-- the end: what walk_ofTsE wants -/
theorem law_F4 {l : PySem.W.OpenLaw} {fa : List Fk} {fn : List DefE} {tf : List MkE} {n k i : Nat} {x : Str} {m : Mir} {name : Str} (hi : fa[i]? = some (glB "law"))
    (ok : ∀ [Tbs] {w : World} {K : PySem.W.Frag} {mg : Str → Option Value}, Fx l.prog fa fn K mg → ∃ fd : FuncData, (∀ (s : Shared) (v : Value), BindsTo s fd ⟨[v], []⟩ [(x, v)]) ∧ ∀ base : Heap, FxT l.prog fa fn tf K mg base → FLT l.prog w K mg base k (He.ga K "law") fd x m)
    (hm : ∀ ns : List Int, ns.length ≤ n → m [.ro (ns.map DV.int)] = .ok (.bl true)) (hn : name = "law") :
    ∀ (w : World) (mg : Str → Option Value) (f : Addr) (h : Heap), (∃ K : PySem.W.Frag, K.In h ∧ SaysL4 l.prog fa fn tf h K) → h.Ns mainGlobals mg → mg name = some (.ref f) → ∃ K : PySem.W.Frag, K.In h ∧ LamX.LawAtS l w K CX0 k n x mg f h := by
  intro w mg f h ⟨K, KX, c⟩ G hmg
  subst hn
  letI : Tbs := ⟨tblsOf K tf⟩
  have X : Fx l.prog fa fn K mg := ⟨⟨h, KX, G⟩, c.s⟩
  obtain ⟨fd, hb, hF⟩ := ok (w := w) X
  have e := hmg.symm.trans (X.gl (n := "law") (X.f i hi))
  cases e
  have mem : ∀ {p : Addr × Addr}, p ∈ tf.map (fun q => He.cT K q.1) → ∃ q ∈ tf, p = He.cT K q.1 := fun hp => let ⟨q, hq, e⟩ := List.mem_map.mp hp; ⟨q, hq, e.symm⟩
  refine ⟨K, KX, fd, tf.map (fun q => He.cT K q.1), fun vs H Q _ => spD K m vs H Q fun _ _ _ => False, fun p hp => ?_, fun p hp => ?_, fun p hp => ?_, hb, fun H a ns hl _ hT hS => ?_, fun base K1 _ hB => ?_⟩
  · obtain ⟨q, hq, rfl⟩ := mem hp; exact c.empty q hq
  · obtain ⟨q, hq, rfl⟩ := mem hp; exact c.out q hq
  · obtain ⟨q, hq, rfl⟩ := mem hp; exact PySem.W.codeHd_of_K KX (c.hd q hq)
  · refine sp_law hm hl hS fun p hp => ?_
    obtain ⟨q, hq, e⟩ := List.mem_map.mp (show p ∈ tblsOf K tf from hp)
    subst e
    exact LamX.TabS.nil (hT _ (List.mem_map.mpr ⟨q, hq, rfl⟩))
  · exact to0 (hF base ⟨X, rfl, fun p hp => hB _ (List.mem_map.mpr ⟨p, hp, rfl⟩), c.nd⟩)
section
variable [Tbs] {P : Program} {w : World} {fa : List Fk} {fn : List DefE} {tf : List MkE} {K : PySem.W.Frag} {mg : Str → Option Value}
theorem fn_klC {x y qual : Str} {params : Arguments} {body : List Stmt} {scope : Scope} {f : Addr} {fd : FuncData} {N : List Str} {k : Nat} {F : Ev → SR} {p : MkE} (hm : p ∈ tf) (hp : He.fAd K p.1 = f) (hq : p.2 = qual)
    (D : FunD K x qual params body scope [] [] f fd) (S : FnScope N [y] scope) (hle : [y].length ≤ N.length) (hb : ∀ (kV doc pm : Value) (an : Option Addr) (cdv ct : Value) (us : List Value), us.length = [y].length → bindArgs (PySem.W.fnOf x qual params body scope .none kV doc pm an cdv ct) ⟨us, []⟩ = pure ([y].zip us))
    (hbody : ∀ (base : Heap) (z : FxT P fa fn tf K mg base) (cdv : Value) (A : Around) (outer : List Env) (s : Shared) (H : Hp) (E : XK), Mk (cxOf (L2.CX P w) P w K mg base N qual scope f cdv A outer s H E) → Room k (cxOf (L2.CX P w) P w K mg base N qual scope f cdv A outer s H E).A →
      Takes (cxOf (L2.CX P w) P w K mg base N qual scope f cdv A outer s H E) (fun cls d _ H' => E cls d H') →
      Own (cxOf (L2.CX P w) P w K mg base N qual scope f cdv A outer s H E) → PSSD (cxOf (L2.CX P w) P w K mg base N qual scope f cdv A outer s H E) (fun cls d _ H' => E cls d H') body F) :
    ∃ fd : FuncData, (∀ (s : Shared) (v : Value), BindsTo s fd ⟨[v], []⟩ [(y, v)]) ∧ ∀ base : Heap, FxT P fa fn tf K mg base → FLT P w K mg base (k + 1) f fd y (mir N.length 1 F) :=
  ⟨fd, fun s v => FunD.bindsA (ps := [y]) D hb s [v] rfl, fun base z => fn_dC hp D S hle fun A outer s H E hr => hbody base z _ A outer s H E (z.mk_ hm rfl rfl rfl (by rw [hq] <;> rfl)) hr (takes_of rfl rfl rfl rfl) (passes_of rfl)⟩
end
end LD
namespace LD
open PySem PySem.Spec PyProof.Rows L2
/-- statements of which nothing is told -/
theorem dss_bad [Tbs] {X : Cx} {W : WX} {ss : List Stmt} : PSSD X W ss sBad := ⟨fun _ _ _ => False, ⟨fun _ _ _ _ _ _ h => h.elim⟩, fun _ h => h⟩
end LD

set_option maxHeartbeats 0
/-! Printed by wip/gen/gen.py: the defs' mirrors and derivations. -/
namespace G39
open PySem PySem.Spec PyProof.Rows L2 LD
@[simp] theorem T0_non  : oIsi T0 (.non) = .ok (.bl false) := rfl
@[simp] theorem T0_bl {b : Bool} : oIsi T0 (.bl b) = .ok (.bl false) := rfl
@[simp] theorem T0_int {b : Int} : oIsi T0 (.int b) = .ok (.bl false) := rfl
@[simp] theorem T0_str {b : Str} : oIsi T0 (.str b) = .ok (.bl true) := rfl
@[simp] theorem T0_tup {b : List DV} : oIsi T0 (.tup b) = .ok (.bl false) := rfl
@[simp] theorem T0_lst {b : List DV} : oIsi T0 (.lst b) = .ok (.bl false) := rfl
@[simp] theorem T0_ro {b : List DV} : oIsi T0 (.ro b) = .ok (.bl false) := rfl
@[simp] theorem T0_dic {b : List (Key × DV)} : oIsi T0 (.dic b) = .ok (.bl false) := rfl
@[simp] theorem T0_Event {b : List (Str × DV)} : oIsi T0 (.obj "Event" b) = .ok (.bl false) := rfl
@[simp] theorem T0_After {b : List (Str × DV)} : oIsi T0 (.obj "After" b) = .ok (.bl false) := rfl
@[simp] theorem T0_Close {b : List (Str × DV)} : oIsi T0 (.obj "Close" b) = .ok (.bl false) := rfl
@[simp] theorem T0_Log {b : List (Str × DV)} : oIsi T0 (.obj "Log" b) = .ok (.bl false) := rfl
@[simp] theorem T0_Choice {b : List (Str × DV)} : oIsi T0 (.obj "Choice" b) = .ok (.bl false) := rfl
@[simp] theorem T1_non  : oIsi T1 (.non) = .ok (.bl false) := rfl
@[simp] theorem T1_bl {b : Bool} : oIsi T1 (.bl b) = .ok (.bl true) := rfl
@[simp] theorem T1_int {b : Int} : oIsi T1 (.int b) = .ok (.bl true) := rfl
@[simp] theorem T1_str {b : Str} : oIsi T1 (.str b) = .ok (.bl false) := rfl
@[simp] theorem T1_tup {b : List DV} : oIsi T1 (.tup b) = .ok (.bl false) := rfl
@[simp] theorem T1_lst {b : List DV} : oIsi T1 (.lst b) = .ok (.bl false) := rfl
@[simp] theorem T1_ro {b : List DV} : oIsi T1 (.ro b) = .ok (.bl false) := rfl
@[simp] theorem T1_dic {b : List (Key × DV)} : oIsi T1 (.dic b) = .ok (.bl false) := rfl
@[simp] theorem T1_Event {b : List (Str × DV)} : oIsi T1 (.obj "Event" b) = .ok (.bl false) := rfl
@[simp] theorem T1_After {b : List (Str × DV)} : oIsi T1 (.obj "After" b) = .ok (.bl false) := rfl
@[simp] theorem T1_Close {b : List (Str × DV)} : oIsi T1 (.obj "Close" b) = .ok (.bl false) := rfl
@[simp] theorem T1_Log {b : List (Str × DV)} : oIsi T1 (.obj "Log" b) = .ok (.bl false) := rfl
@[simp] theorem T1_Choice {b : List (Str × DV)} : oIsi T1 (.obj "Choice" b) = .ok (.bl false) := rfl
@[simp] theorem T2_non  : oIsi T2 (.non) = .ok (.bl false) := rfl
@[simp] theorem T2_bl {b : Bool} : oIsi T2 (.bl b) = .ok (.bl true) := rfl
@[simp] theorem T2_int {b : Int} : oIsi T2 (.int b) = .ok (.bl false) := rfl
@[simp] theorem T2_str {b : Str} : oIsi T2 (.str b) = .ok (.bl false) := rfl
@[simp] theorem T2_tup {b : List DV} : oIsi T2 (.tup b) = .ok (.bl false) := rfl
@[simp] theorem T2_lst {b : List DV} : oIsi T2 (.lst b) = .ok (.bl false) := rfl
@[simp] theorem T2_ro {b : List DV} : oIsi T2 (.ro b) = .ok (.bl false) := rfl
@[simp] theorem T2_dic {b : List (Key × DV)} : oIsi T2 (.dic b) = .ok (.bl false) := rfl
@[simp] theorem T2_Event {b : List (Str × DV)} : oIsi T2 (.obj "Event" b) = .ok (.bl false) := rfl
@[simp] theorem T2_After {b : List (Str × DV)} : oIsi T2 (.obj "After" b) = .ok (.bl false) := rfl
@[simp] theorem T2_Close {b : List (Str × DV)} : oIsi T2 (.obj "Close" b) = .ok (.bl false) := rfl
@[simp] theorem T2_Log {b : List (Str × DV)} : oIsi T2 (.obj "Log" b) = .ok (.bl false) := rfl
@[simp] theorem T2_Choice {b : List (Str × DV)} : oIsi T2 (.obj "Choice" b) = .ok (.bl false) := rfl
@[simp] theorem T3_non  : oIsi T3 (.non) = .ok (.bl false) := rfl
@[simp] theorem T3_bl {b : Bool} : oIsi T3 (.bl b) = .ok (.bl false) := rfl
@[simp] theorem T3_int {b : Int} : oIsi T3 (.int b) = .ok (.bl false) := rfl
@[simp] theorem T3_str {b : Str} : oIsi T3 (.str b) = .ok (.bl false) := rfl
@[simp] theorem T3_tup {b : List DV} : oIsi T3 (.tup b) = .ok (.bl true) := rfl
@[simp] theorem T3_lst {b : List DV} : oIsi T3 (.lst b) = .ok (.bl false) := rfl
@[simp] theorem T3_ro {b : List DV} : oIsi T3 (.ro b) = .ok (.bl false) := rfl
@[simp] theorem T3_dic {b : List (Key × DV)} : oIsi T3 (.dic b) = .ok (.bl false) := rfl
@[simp] theorem T3_Event {b : List (Str × DV)} : oIsi T3 (.obj "Event" b) = .ok (.bl false) := rfl
@[simp] theorem T3_After {b : List (Str × DV)} : oIsi T3 (.obj "After" b) = .ok (.bl false) := rfl
@[simp] theorem T3_Close {b : List (Str × DV)} : oIsi T3 (.obj "Close" b) = .ok (.bl false) := rfl
@[simp] theorem T3_Log {b : List (Str × DV)} : oIsi T3 (.obj "Log" b) = .ok (.bl false) := rfl
@[simp] theorem T3_Choice {b : List (Str × DV)} : oIsi T3 (.obj "Choice" b) = .ok (.bl false) := rfl
@[simp] theorem T4_non  : oIsi T4 (.non) = .ok (.bl false) := rfl
@[simp] theorem T4_bl {b : Bool} : oIsi T4 (.bl b) = .ok (.bl false) := rfl
@[simp] theorem T4_int {b : Int} : oIsi T4 (.int b) = .ok (.bl false) := rfl
@[simp] theorem T4_str {b : Str} : oIsi T4 (.str b) = .ok (.bl false) := rfl
@[simp] theorem T4_tup {b : List DV} : oIsi T4 (.tup b) = .ok (.bl false) := rfl
@[simp] theorem T4_lst {b : List DV} : oIsi T4 (.lst b) = .ok (.bl false) := rfl
@[simp] theorem T4_ro {b : List DV} : oIsi T4 (.ro b) = .ok (.bl false) := rfl
@[simp] theorem T4_dic {b : List (Key × DV)} : oIsi T4 (.dic b) = .ok (.bl false) := rfl
@[simp] theorem T4_Event {b : List (Str × DV)} : oIsi T4 (.obj "Event" b) = .ok (.bl true) := rfl
@[simp] theorem T4_After {b : List (Str × DV)} : oIsi T4 (.obj "After" b) = .ok (.bl false) := rfl
@[simp] theorem T4_Close {b : List (Str × DV)} : oIsi T4 (.obj "Close" b) = .ok (.bl false) := rfl
@[simp] theorem T4_Log {b : List (Str × DV)} : oIsi T4 (.obj "Log" b) = .ok (.bl false) := rfl
@[simp] theorem T4_Choice {b : List (Str × DV)} : oIsi T4 (.obj "Choice" b) = .ok (.bl false) := rfl
@[simp] theorem T5_non  : oIsi T5 (.non) = .ok (.bl false) := rfl
@[simp] theorem T5_bl {b : Bool} : oIsi T5 (.bl b) = .ok (.bl false) := rfl
@[simp] theorem T5_int {b : Int} : oIsi T5 (.int b) = .ok (.bl false) := rfl
@[simp] theorem T5_str {b : Str} : oIsi T5 (.str b) = .ok (.bl false) := rfl
@[simp] theorem T5_tup {b : List DV} : oIsi T5 (.tup b) = .ok (.bl false) := rfl
@[simp] theorem T5_lst {b : List DV} : oIsi T5 (.lst b) = .ok (.bl false) := rfl
@[simp] theorem T5_ro {b : List DV} : oIsi T5 (.ro b) = .ok (.bl false) := rfl
@[simp] theorem T5_dic {b : List (Key × DV)} : oIsi T5 (.dic b) = .ok (.bl false) := rfl
@[simp] theorem T5_Event {b : List (Str × DV)} : oIsi T5 (.obj "Event" b) = .ok (.bl false) := rfl
@[simp] theorem T5_After {b : List (Str × DV)} : oIsi T5 (.obj "After" b) = .ok (.bl false) := rfl
@[simp] theorem T5_Close {b : List (Str × DV)} : oIsi T5 (.obj "Close" b) = .ok (.bl true) := rfl
@[simp] theorem T5_Log {b : List (Str × DV)} : oIsi T5 (.obj "Log" b) = .ok (.bl false) := rfl
@[simp] theorem T5_Choice {b : List (Str × DV)} : oIsi T5 (.obj "Choice" b) = .ok (.bl false) := rfl
@[simp] theorem T6_non  : oIsi T6 (.non) = .ok (.bl false) := rfl
@[simp] theorem T6_bl {b : Bool} : oIsi T6 (.bl b) = .ok (.bl false) := rfl
@[simp] theorem T6_int {b : Int} : oIsi T6 (.int b) = .ok (.bl false) := rfl
@[simp] theorem T6_str {b : Str} : oIsi T6 (.str b) = .ok (.bl false) := rfl
@[simp] theorem T6_tup {b : List DV} : oIsi T6 (.tup b) = .ok (.bl false) := rfl
@[simp] theorem T6_lst {b : List DV} : oIsi T6 (.lst b) = .ok (.bl false) := rfl
@[simp] theorem T6_ro {b : List DV} : oIsi T6 (.ro b) = .ok (.bl false) := rfl
@[simp] theorem T6_dic {b : List (Key × DV)} : oIsi T6 (.dic b) = .ok (.bl false) := rfl
@[simp] theorem T6_Event {b : List (Str × DV)} : oIsi T6 (.obj "Event" b) = .ok (.bl false) := rfl
@[simp] theorem T6_After {b : List (Str × DV)} : oIsi T6 (.obj "After" b) = .ok (.bl true) := rfl
@[simp] theorem T6_Close {b : List (Str × DV)} : oIsi T6 (.obj "Close" b) = .ok (.bl false) := rfl
@[simp] theorem T6_Log {b : List (Str × DV)} : oIsi T6 (.obj "Log" b) = .ok (.bl false) := rfl
@[simp] theorem T6_Choice {b : List (Str × DV)} : oIsi T6 (.obj "Choice" b) = .ok (.bl false) := rfl
@[simp] theorem T7_non  : oIsi T7 (.non) = .ok (.bl false) := rfl
@[simp] theorem T7_bl {b : Bool} : oIsi T7 (.bl b) = .ok (.bl false) := rfl
@[simp] theorem T7_int {b : Int} : oIsi T7 (.int b) = .ok (.bl false) := rfl
@[simp] theorem T7_str {b : Str} : oIsi T7 (.str b) = .ok (.bl false) := rfl
@[simp] theorem T7_tup {b : List DV} : oIsi T7 (.tup b) = .ok (.bl false) := rfl
@[simp] theorem T7_lst {b : List DV} : oIsi T7 (.lst b) = .ok (.bl false) := rfl
@[simp] theorem T7_ro {b : List DV} : oIsi T7 (.ro b) = .ok (.bl false) := rfl
@[simp] theorem T7_dic {b : List (Key × DV)} : oIsi T7 (.dic b) = .ok (.bl true) := rfl
@[simp] theorem T7_Event {b : List (Str × DV)} : oIsi T7 (.obj "Event" b) = .ok (.bl false) := rfl
@[simp] theorem T7_After {b : List (Str × DV)} : oIsi T7 (.obj "After" b) = .ok (.bl false) := rfl
@[simp] theorem T7_Close {b : List (Str × DV)} : oIsi T7 (.obj "Close" b) = .ok (.bl false) := rfl
@[simp] theorem T7_Log {b : List (Str × DV)} : oIsi T7 (.obj "Log" b) = .ok (.bl false) := rfl
@[simp] theorem T7_Choice {b : List (Str × DV)} : oIsi T7 (.obj "Choice" b) = .ok (.bl false) := rfl
@[simp] theorem T8_non  : oIsi T8 (.non) = .ok (.bl false) := rfl
@[simp] theorem T8_bl {b : Bool} : oIsi T8 (.bl b) = .ok (.bl false) := rfl
@[simp] theorem T8_int {b : Int} : oIsi T8 (.int b) = .ok (.bl false) := rfl
@[simp] theorem T8_str {b : Str} : oIsi T8 (.str b) = .ok (.bl false) := rfl
@[simp] theorem T8_tup {b : List DV} : oIsi T8 (.tup b) = .ok (.bl false) := rfl
@[simp] theorem T8_lst {b : List DV} : oIsi T8 (.lst b) = .ok (.bl false) := rfl
@[simp] theorem T8_ro {b : List DV} : oIsi T8 (.ro b) = .ok (.bl false) := rfl
@[simp] theorem T8_dic {b : List (Key × DV)} : oIsi T8 (.dic b) = .ok (.bl false) := rfl
@[simp] theorem T8_Event {b : List (Str × DV)} : oIsi T8 (.obj "Event" b) = .ok (.bl false) := rfl
@[simp] theorem T8_After {b : List (Str × DV)} : oIsi T8 (.obj "After" b) = .ok (.bl true) := rfl
@[simp] theorem T8_Close {b : List (Str × DV)} : oIsi T8 (.obj "Close" b) = .ok (.bl true) := rfl
@[simp] theorem T8_Log {b : List (Str × DV)} : oIsi T8 (.obj "Log" b) = .ok (.bl false) := rfl
@[simp] theorem T8_Choice {b : List (Str × DV)} : oIsi T8 (.obj "Choice" b) = .ok (.bl false) := rfl
@[simp] theorem T9_non  : oIsi T9 (.non) = .ok (.bl false) := rfl
@[simp] theorem T9_bl {b : Bool} : oIsi T9 (.bl b) = .ok (.bl false) := rfl
@[simp] theorem T9_int {b : Int} : oIsi T9 (.int b) = .ok (.bl false) := rfl
@[simp] theorem T9_str {b : Str} : oIsi T9 (.str b) = .ok (.bl false) := rfl
@[simp] theorem T9_tup {b : List DV} : oIsi T9 (.tup b) = .ok (.bl false) := rfl
@[simp] theorem T9_lst {b : List DV} : oIsi T9 (.lst b) = .ok (.bl false) := rfl
@[simp] theorem T9_ro {b : List DV} : oIsi T9 (.ro b) = .ok (.bl false) := rfl
@[simp] theorem T9_dic {b : List (Key × DV)} : oIsi T9 (.dic b) = .ok (.bl false) := rfl
@[simp] theorem T9_Event {b : List (Str × DV)} : oIsi T9 (.obj "Event" b) = .ok (.bl false) := rfl
@[simp] theorem T9_After {b : List (Str × DV)} : oIsi T9 (.obj "After" b) = .ok (.bl false) := rfl
@[simp] theorem T9_Close {b : List (Str × DV)} : oIsi T9 (.obj "Close" b) = .ok (.bl false) := rfl
@[simp] theorem T9_Log {b : List (Str × DV)} : oIsi T9 (.obj "Log" b) = .ok (.bl true) := rfl
@[simp] theorem T9_Choice {b : List (Str × DV)} : oIsi T9 (.obj "Choice" b) = .ok (.bl false) := rfl
abbrev N_is_name : List Str := ["value", "letter"]
def F_is_name : Ev → SR := sRet (xAndV (xIsi T0 (xVar 0)) (xAndV (xChain oLe oLe (xC (.int 1)) (xCB oLenU (xCons (xVar 0) (xNil))) (xC (.int 8))) (xCB oAll (xCons (xLc [1] (xSrc asAnyU (xVar 0)) (gN 1) (xYes) (xOp (oInU false) (xVar 1) (xC (.str "abcdefghijklmnopqrstuvwxyz")))) (xNil)))))
theorem sc_is_name : FnScope N_is_name ["value"] (defScope s_is_name) := ⟨rfl, rfl, rfl, by decide +kernel, rfl, by decide +kernel, by decide +kernel⟩
def m_is_name : Mir := mir 2 1 F_is_name
theorem ok_is_name [Tbs] {w : World} {K : PySem.W.Frag} {mg : Str → Option Value} {base : Heap} (x : FxT PP fa fn tf K mg base) : FO PP w K mg base 1 (He.ga K "is_name") ["value"] (spD K m_is_name) := by
  obtain ⟨fd, D⟩ := x.c.def_ 0 (d := d_is_name)
  have hN := sc_is_name.nd
  exact fn_k D sc_is_name (by decide) (FunD.bindsN D fun _ _ _ _ _ _ us hl => match us, hl with | [_], _ => rfl) fun cdv A outer s H E hr tk po => dss_one (ds_ret (d_and (k_isi (x.f 1) (x.fr (x.f 2)) (d_var 0) (cl_ty (x.fr (x.f 0)) (by decide +kernel))) (d_and (d_chain op_le op_le od_le od_le (d_int) (d_callB call_lenU cb_lenU (x.fr (x.f 3)) (by decide +kernel) (da_cons (d_var 0) (da_nil))) (d_gint (x.it (x.f 4)))) (d_one (d_callB (cr_all rfl) cb_all (x.fr (x.f 6)) (by decide +kernel) (da_cons (d_lc (own := [("letter", 1)]) rfl hN (blkOk_by (by kernel_rfl)) (by decide) (di_anyU (d_var 0)) (fun _ _ _ _ _ => dg_name 1 hN) (fun _ _ _ _ _ => dts_nil) (fun _ _ _ _ _ => d_cmp (or_in hr) od_inU (d_var 1) (d_gstr (x.st (x.f 5))))) (da_nil)))))))
abbrev N_is_whole : List Str := ["value"]
def F_is_whole : Ev → SR := sRet (xAndV (xIsi T1 (xVar 0)) (xNotV (xIsi T2 (xVar 0))))
theorem sc_is_whole : FnScope N_is_whole ["value"] (defScope s_is_whole) := ⟨rfl, rfl, rfl, by decide +kernel, rfl, by decide +kernel, by decide +kernel⟩
def m_is_whole : Mir := mir 1 1 F_is_whole
theorem ok_is_whole [Tbs] {w : World} {K : PySem.W.Frag} {mg : Str → Option Value} {base : Heap} (x : FxT PP fa fn tf K mg base) : FO PP w K mg base 1 (He.ga K "is_whole") ["value"] (spD K m_is_whole) := by
  obtain ⟨fd, D⟩ := x.c.def_ 1 (d := d_is_whole)
  have hN := sc_is_whole.nd
  exact fn_k D sc_is_whole (by decide) (FunD.bindsN D fun _ _ _ _ _ _ us hl => match us, hl with | [_], _ => rfl) fun cdv A outer s H E hr tk po => dss_one (ds_ret (d_and (k_isi (x.f 8) (x.fr (x.f 2)) (d_var 0) (cl_ty (x.fr (x.f 7)) (by decide +kernel))) (d_one (d_not (k_isi (x.f 10) (x.fr (x.f 2)) (d_var 0) (cl_ty (x.fr (x.f 9)) (by decide +kernel)))))))
abbrev N_is_integer : List Str := ["value", "low", "high"]
def F_is_integer : Ev → SR := sRet (xAndV (xCall m_is_whole (xCons (xVar 0) (xNil))) (xChain oLe oLe (xVar 1) (xVar 0) (xVar 2)))
theorem sc_is_integer : FnScope N_is_integer ["value", "low", "high"] (defScope s_is_integer) := ⟨rfl, rfl, rfl, by decide +kernel, rfl, by decide +kernel, by decide +kernel⟩
def m_is_integer : Mir := mir 3 3 F_is_integer
theorem ok_is_integer [Tbs] {w : World} {K : PySem.W.Frag} {mg : Str → Option Value} {base : Heap} (x : FxT PP fa fn tf K mg base) : FO PP w K mg base 2 (He.ga K "is_integer") ["value", "low", "high"] (spD K m_is_integer) := by
  obtain ⟨fd, D⟩ := x.c.def_ 2 (d := d_is_integer)
  have hN := sc_is_integer.nd
  exact fn_k D sc_is_integer (by decide) (FunD.bindsN D fun _ _ _ _ _ _ us hl => match us, hl with | [_, _, _], _ => rfl) fun cdv A outer s H E hr tk po => dss_one (ds_ret (d_and (k_call tk (ok_is_whole x) hr (by decide) (x.gl (x.f 11)) (x.f 12) (da_cons (d_var 0) (da_nil))) (d_one (d_chain op_le op_le od_le od_le (d_var 1) (d_var 0) (d_var 2)))))
abbrev N_Event_init : List Str := ["self", "machine", "time"]
def F_Event_init : Ev → SR := sSeq (sIf (xOr (xNot (xTest (xCall m_is_name (xCons (xVar 1) (xNil))))) (xNot (xTest (xCall m_is_integer (xCons (xVar 2) (xCons (xC (.int 0)) (xCons (xC (.int 999)) (xNil)))))))) (sRaise "InvalidEvent" (fun _ => .ok [])) (sNx)) (sSeq (sFldD ["Event"] 0 "host" (xVar 1)) (sFldD ["Event"] 0 "clock" (xVar 2)))
theorem sc_Event_init : FnScope N_Event_init ["self", "machine", "time"] (defScope s_Event_init) := ⟨rfl, rfl, rfl, by decide +kernel, rfl, by decide +kernel, by decide +kernel⟩
def m_Event_init : Imi := imi 3 2 F_Event_init
theorem ok_Event_init [Tbs] {w : World} {K : PySem.W.Frag} {mg : Str → Option Value} {base : Heap} (x : FxT PP fa fn tf K mg base) : FO PP w K mg base 3 (He.ma K (He.ga K "Event") "__init__") ["self", "machine", "time"] (spI K 2 m_Event_init) := by
  obtain ⟨fd, D⟩ := x.c.def_ 3 (d := d_Event_init)
  have hN := sc_Event_init.nd
  exact fn_ki D sc_Event_init rfl (by decide) (FunD.bindsN D fun _ _ _ _ _ _ us hl => match us, hl with | [_, _, _], _ => rfl) fun cdv A outer s H E hr tk po => dss_cons (ds_if (dw_pt (dw_or (dt_not (dt_val (k_call tk (ok_is_name x) hr (by decide) (x.gl (x.f 13)) (x.f 14) (da_cons (d_var 1) (da_nil))))) (dw_or1 (dt_not (dt_val (k_call tk (ok_is_integer x) hr (by decide) (x.gl (x.f 16)) (x.f 17) (da_cons (d_var 2) (da_cons (d_int) (da_cons (d_gint (x.it (x.f 15))) (da_nil)))))))))) (dss_one (k_raise rfl tk (x.gl (x.f 18)) (x.f 19))) (dss_nil)) (dss_cons (k_sfld 0 (x.f 20) (d_var 1)) (dss_one (k_sfld 0 (x.f 21) (d_var 2))))
abbrev N_Fact_init : List Str := ["self", "one", "other", "numbers", "low", "number"]
def F_Fact_init : Ev → SR := sSeq (sIf (xOr (xNot (xTest (xCall m_is_name (xCons (xVar 1) (xNil))))) (xOr (xNot (xTest (xCall m_is_name (xCons (xVar 2) (xNil))))) (xTest (xOp oEq (xVar 1) (xVar 2))))) (sRaise "InvalidFact" (fun _ => .ok [])) (sNx)) (sSeq (sIf (xNot (xTest (xCB oAll (xCons (xLc [5] (xSrc asAnyU (xVar 3)) (gN 5) (xYes) (xCall m_is_integer (xCons (xVar 5) (xCons (xVar 4) (xCons (xC (.int 999)) (xNil)))))) (xNil))))) (sRaise "InvalidFact" (fun _ => .ok [])) (sNx)) (sSeq (sFldD ["After", "Close"] 0 "pair" (xTup (xCons (xVar 1) (xCons (xVar 2) (xNil))))) (sFldD ["After", "Close"] 0 "bounds" (xVar 3))))
theorem sc_Fact_init : FnScope N_Fact_init ["self", "one", "other", "numbers", "low"] (defScope s_Fact_init) := ⟨rfl, rfl, rfl, by decide +kernel, rfl, by decide +kernel, by decide +kernel⟩
def m_Fact_init : Imi := imi 6 4 F_Fact_init
theorem ok_Fact_init [Tbs] {w : World} {K : PySem.W.Frag} {mg : Str → Option Value} {base : Heap} (x : FxT PP fa fn tf K mg base) : FO PP w K mg base 3 (He.ma K (He.ga K "Fact") "__init__") ["self", "one", "other", "numbers", "low"] (spI K 4 m_Fact_init) := by
  obtain ⟨fd, D⟩ := x.c.def_ 4 (d := d_Fact_init)
  have hN := sc_Fact_init.nd
  exact fn_ki D sc_Fact_init rfl (by decide) (FunD.bindsN D fun _ _ _ _ _ _ us hl => match us, hl with | [_, _, _, _, _], _ => rfl) fun cdv A outer s H E hr tk po => dss_cons (ds_if (dw_pt (dw_or (dt_not (dt_val (k_call tk (ok_is_name x) hr (by decide) (x.gl (x.f 13)) (x.f 14) (da_cons (d_var 1) (da_nil))))) (dw_or (dt_not (dt_val (k_call tk (ok_is_name x) hr (by decide) (x.gl (x.f 13)) (x.f 14) (da_cons (d_var 2) (da_nil))))) (dw_or1 (dt_cmp (op_eqD hr.units) od_eq (d_var 1) (d_var 2)))))) (dss_one (k_raise rfl tk (x.gl (x.f 22)) (x.f 23))) (dss_nil)) (dss_cons (ds_if (dt_not (dt_val (d_callB (cr_all rfl) cb_all (x.fr (x.f 6)) (by decide +kernel) (da_cons (d_lc (own := [("number", 5)]) rfl hN (blkOk_by (by kernel_rfl)) (by decide) (di_anyU (d_var 3)) (fun _ _ _ _ _ => dg_name 5 hN) (fun _ _ _ _ _ => dts_nil) (fun _ _ _ _ _ => k_call tk0 (ok_is_integer x) hr (by decide) (x.gl (x.f 16)) (x.f 17) (da_cons (d_var 5) (da_cons (d_var 4) (da_cons (d_gint (x.it (x.f 15))) (da_nil)))))) (da_nil))))) (dss_one (k_raise rfl tk (x.gl (x.f 22)) (x.f 23))) (dss_nil)) (dss_cons (k_sfld 0 (x.f 24) (d_tup (da_cons (d_var 1) (da_cons (d_var 2) (da_nil))))) (dss_one (k_sfld 0 (x.f 25) (d_var 3)))))
abbrev N_After_init : List Str := ["self", "one", "other", "least", "__class__"]
def A_After_init : Ev → R (List DV) := xCons (xVar 1) (xCons (xVar 2) (xCons (xTup (xCons (xVar 3) (xNil))) (xCons (xUn oNeg (xC (.int 999))) (xNil))))
def F_After_init : Ev → SR := sNx
def m_After_init : Imi := imS "After" 5 3 A_After_init m_Fact_init 4 F_After_init
theorem sc_After_init : NdefX.NScope N_After_init ["self", "one", "other", "least"] ["__class__"] (defScope s_After_init) := NdefX.nscope_by (by kernel_rfl)
theorem ok_After_init [Tbs] {w : World} {K : PySem.W.Frag} {mg : Str → Option Value} {base : Heap} (x : FxT PP fa fn tf K mg base) : FO PP w K mg base 5 (He.ma K (He.ga K "After") "__init__") ["self", "one", "other", "least"] (spI K 3 m_After_init) := by
  obtain ⟨fd, D⟩ := x.c.sup_ 5 (d := d_After_init)
  have hN := sc_After_init.nd
  exact fn_ks D sc_After_init rfl rfl rfl rfl (by rfl) (by rfl) (x.fr (x.f 26)) (D.bindsN fun _ _ _ _ _ _ _ us hl => match us, hl with | [_, _, _, _], _ => rfl) ((ok_Fact_init x).mono (by decide)) (fun NF A outer s H E h1 h2 hr tk => by
    cases NF; cases h1; cases h2
    exact da_cons (d_var 1) (da_cons (d_var 2) (da_cons (d_tup (da_cons (d_var 3) (da_nil))) (da_cons (d_un un_neg (fun s r h => od_neg s r h) (d_gint (x.it (x.f 15)))) (da_nil))))) (fun NF A outer s H E h1 h2 hr tk => by
    cases NF; cases h1; cases h2
    exact dss_nil)
abbrev N_Close_init : List Str := ["self", "machine", "other", "most", "__class__"]
def A_Close_init : Ev → R (List DV) := xCons (xVar 1) (xCons (xVar 2) (xCons (xTup (xCons (xVar 3) (xNil))) (xCons (xC (.int 0)) (xNil))))
def F_Close_init : Ev → SR := sNx
def m_Close_init : Imi := imS "Close" 5 3 A_Close_init m_Fact_init 4 F_Close_init
theorem sc_Close_init : NdefX.NScope N_Close_init ["self", "machine", "other", "most"] ["__class__"] (defScope s_Close_init) := NdefX.nscope_by (by kernel_rfl)
theorem ok_Close_init [Tbs] {w : World} {K : PySem.W.Frag} {mg : Str → Option Value} {base : Heap} (x : FxT PP fa fn tf K mg base) : FO PP w K mg base 5 (He.ma K (He.ga K "Close") "__init__") ["self", "machine", "other", "most"] (spI K 3 m_Close_init) := by
  obtain ⟨fd, D⟩ := x.c.sup_ 6 (d := d_Close_init)
  have hN := sc_Close_init.nd
  exact fn_ks D sc_Close_init rfl rfl rfl rfl (by rfl) (by rfl) (x.fr (x.f 26)) (D.bindsN fun _ _ _ _ _ _ _ us hl => match us, hl with | [_, _, _, _], _ => rfl) ((ok_Fact_init x).mono (by decide)) (fun NF A outer s H E h1 h2 hr tk => by
    cases NF; cases h1; cases h2
    exact da_cons (d_var 1) (da_cons (d_var 2) (da_cons (d_tup (da_cons (d_var 3) (da_nil))) (da_cons (d_int) (da_nil))))) (fun NF A outer s H E h1 h2 hr tk => by
    cases NF; cases h1; cases h2
    exact dss_nil)
abbrev N_InvalidLog_init : List Str := ["self", "part"]
theorem sc_InvalidLog_init : FnScope N_InvalidLog_init ["self", "part"] (defScope s_InvalidLog_init) := ⟨rfl, rfl, rfl, by decide +kernel, rfl, by decide +kernel, by decide +kernel⟩
theorem ok_InvalidLog_init [Tbs] {w : World} {K : PySem.W.Frag} {mg : Str → Option Value} {base : Heap} (x : FxT PP fa fn tf K mg base) : FO PP w K mg base 1 (He.ma K (He.ga K "InvalidLog") "__init__") ["self", "part"] (spX K "part") := by
  obtain ⟨fd, D⟩ := x.c.def_ 7 (d := d_InvalidLog_init)
  exact fn_x D sc_InvalidLog_init (FunD.bindsN D fun _ _ _ _ _ _ us hl => match us, hl with | [_, _], _ => rfl)
abbrev N_are_names : List Str := ["value", "name"]
def F_are_names : Ev → SR := sRet (xAndV (xIsi T3 (xVar 0)) (xAndV (xCB oAll (xCons (xLc [1] (xSrc asAnyU (xVar 0)) (gN 1) (xYes) (xCall m_is_name (xCons (xVar 1) (xNil)))) (xNil))) (xOp oEq (xUn oLenSet (xVar 0)) (xCB oLenU (xCons (xVar 0) (xNil))))))
theorem sc_are_names : FnScope N_are_names ["value"] (defScope s_are_names) := ⟨rfl, rfl, rfl, by decide +kernel, rfl, by decide +kernel, by decide +kernel⟩
def m_are_names : Mir := mir 2 1 F_are_names
theorem ok_are_names [Tbs] {w : World} {K : PySem.W.Frag} {mg : Str → Option Value} {base : Heap} (x : FxT PP fa fn tf K mg base) : FO PP w K mg base 2 (He.ga K "are_names") ["value"] (spD K m_are_names) := by
  obtain ⟨fd, D⟩ := x.c.def_ 8 (d := d_are_names)
  have hN := sc_are_names.nd
  exact fn_k D sc_are_names (by decide) (FunD.bindsN D fun _ _ _ _ _ _ us hl => match us, hl with | [_], _ => rfl) fun cdv A outer s H E hr tk po => dss_one (ds_ret (d_and (k_isi (x.f 28) (x.fr (x.f 2)) (d_var 0) (cl_ty (x.fr (x.f 27)) (by decide +kernel))) (d_and (d_callB (cr_all rfl) cb_all (x.fr (x.f 6)) (by decide +kernel) (da_cons (d_lc (own := [("name", 1)]) rfl hN (blkOk_by (by kernel_rfl)) (by decide) (di_anyU (d_var 0)) (fun _ _ _ _ _ => dg_name 1 hN) (fun _ _ _ _ _ => dts_nil) (fun _ _ _ _ _ => k_call tk0 (ok_is_name x) hr (by decide) (x.gl (x.f 13)) (x.f 14) (da_cons (d_var 1) (da_nil)))) (da_nil))) (d_one (d_cmp (op_eqD hr.units) od_eq (d_lenSet rfl (x.fr (x.f 3)) (x.fr (x.f 29)) (d_var 0)) (d_callB call_lenU cb_lenU (x.fr (x.f 3)) (by decide +kernel) (da_cons (d_var 0) (da_nil))))))))
abbrev N_is_event_of : List Str := ["value", "machines"]
def F_is_event_of : Ev → SR := sRet (xAndV (xIsi T4 (xVar 0)) (xOp (oInU false) (xFld ["Event"] "host" (xVar 0)) (xVar 1)))
theorem sc_is_event_of : FnScope N_is_event_of ["value", "machines"] (defScope s_is_event_of) := ⟨rfl, rfl, rfl, by decide +kernel, rfl, by decide +kernel, by decide +kernel⟩
def m_is_event_of : Mir := mir 2 2 F_is_event_of
theorem ok_is_event_of [Tbs] {w : World} {K : PySem.W.Frag} {mg : Str → Option Value} {base : Heap} (x : FxT PP fa fn tf K mg base) : FO PP w K mg base 1 (He.ga K "is_event_of") ["value", "machines"] (spD K m_is_event_of) := by
  obtain ⟨fd, D⟩ := x.c.def_ 9 (d := d_is_event_of)
  have hN := sc_is_event_of.nd
  exact fn_k D sc_is_event_of (by decide) (FunD.bindsN D fun _ _ _ _ _ _ us hl => match us, hl with | [_, _], _ => rfl) fun cdv A outer s H E hr tk po => dss_one (ds_ret (d_and (k_isi (x.f 31) (x.fr (x.f 2)) (d_var 0) (cl_own (x.gl (x.f 30)))) (d_one (d_cmp (or_in hr) od_inU (k_fld (x.f 20) (d_var 0)) (d_var 1)))))
abbrev N_is_fact_of : List Str := ["value", "machines", "events", "name"]
def F_is_fact_of : Ev → SR := sSeq (sIf (xTest (xIsi T5 (xVar 0))) (sRet (xCB oAll (xCons (xLc [3] (xSrc asAnyU (xFld ["After", "Close"] "pair" (xVar 0))) (gN 3) (xYes) (xOp (oInU false) (xVar 3) (xVar 1))) (xNil)))) (sNx)) (sRet (xAndV (xIsi T6 (xVar 0)) (xCB oAll (xCons (xLc [3] (xSrc asAnyU (xFld ["After", "Close"] "pair" (xVar 0))) (gN 3) (xYes) (xOp (oInU false) (xVar 3) (xVar 2))) (xNil)))))
theorem sc_is_fact_of : FnScope N_is_fact_of ["value", "machines", "events"] (defScope s_is_fact_of) := ⟨rfl, rfl, rfl, by decide +kernel, rfl, by decide +kernel, by decide +kernel⟩
def m_is_fact_of : Mir := mir 4 3 F_is_fact_of
theorem ok_is_fact_of [Tbs] {w : World} {K : PySem.W.Frag} {mg : Str → Option Value} {base : Heap} (x : FxT PP fa fn tf K mg base) : FO PP w K mg base 1 (He.ga K "is_fact_of") ["value", "machines", "events"] (spD K m_is_fact_of) := by
  obtain ⟨fd, D⟩ := x.c.def_ 10 (d := d_is_fact_of)
  have hN := sc_is_fact_of.nd
  exact fn_k D sc_is_fact_of (by decide) (FunD.bindsN D fun _ _ _ _ _ _ us hl => match us, hl with | [_, _, _], _ => rfl) fun cdv A outer s H E hr tk po => dss_cons (ds_if (dt_val (k_isi (x.f 33) (x.fr (x.f 2)) (d_var 0) (cl_own (x.gl (x.f 32))))) (dss_one (ds_ret (d_callB (cr_all rfl) cb_all (x.fr (x.f 6)) (by decide +kernel) (da_cons (d_lc (own := [("name", 3)]) rfl hN (blkOk_by (by kernel_rfl)) (by decide) (di_anyU (k_fld (x.f 24) (d_var 0))) (fun _ _ _ _ _ => dg_name 3 hN) (fun _ _ _ _ _ => dts_nil) (fun _ _ _ _ _ => d_cmp (or_in hr) od_inU (d_var 3) (d_var 1))) (da_nil))))) (dss_nil)) (dss_one (ds_ret (d_and (k_isiT (x.f 36) (by decide) (x.fr (x.f 2)) (d_var 0) (cls_cons (cl_own (x.gl (x.f 34))) (cls_cons (cl_own (x.gl (x.f 35))) (cls_nil)))) (d_one (d_callB (cr_all rfl) cb_all (x.fr (x.f 6)) (by decide +kernel) (da_cons (d_lc (own := [("name", 3)]) rfl hN (blkOk_by (by kernel_rfl)) (by decide) (di_anyU (k_fld (x.f 24) (d_var 0))) (fun _ _ _ _ _ => dg_name 3 hN) (fun _ _ _ _ _ => dts_nil) (fun _ _ _ _ _ => d_cmp (or_in hr) od_inU (d_var 3) (d_var 2))) (da_nil)))))))
abbrev N_Log_init : List Str := ["self", "machines", "events", "facts", "name", "event", "fact"]
def B_Log_init_1 : Ev → SR := sIf (xOr (xNot (xTest (xCall m_is_name (xCons (xVar 4) (xNil))))) (xNot (xTest (xCall m_is_event_of (xCons (xVar 5) (xCons (xVar 1) (xNil))))))) (sRaise "InvalidLog" (xPartF "part" (xCons (xVar 4) (xNil)))) (sNx)
def B_Log_init_2 : Ev → SR := sIf (xOr (xNot (xTest (xCall m_is_name (xCons (xVar 4) (xNil))))) (xNot (xTest (xCall m_is_fact_of (xCons (xVar 6) (xCons (xVar 1) (xCons (xVar 2) (xNil)))))))) (sRaise "InvalidLog" (xPartF "part" (xCons (xVar 4) (xNil)))) (sNx)
def F_Log_init : Ev → SR := sSeq (sIf (xOr (xNot (xTest (xCall m_are_names (xCons (xVar 1) (xNil))))) (xNot (xTest (xChain oLe oLe (xC (.int 1)) (xCB oLenU (xCons (xVar 1) (xNil))) (xC (.int 4)))))) (sRaise "InvalidLog" (xPartF "part" (xCons (xC (.str "MACHINES")) (xNil)))) (sNx)) (sSeq (sIf (xOr (xNot (xTest (xIsi T7 (xVar 2)))) (xNot (xTest (xChain oLe oLe (xC (.int 2)) (xCB oLenU (xCons (xVar 2) (xNil))) (xC (.int 6)))))) (sRaise "InvalidLog" (xPartF "part" (xCons (xC (.str "EVENTS")) (xNil)))) (sNx)) (sSeq (sFor (xSrc asDicI (xVar 2)) (gT 2 (gsCons (gN 4) (gsCons (gN 5) (gsNil)))) (B_Log_init_1)) (sSeq (sIf (xOr (xNot (xTest (xIsi T7 (xVar 3)))) (xTest (xOp oGt (xCB oLenU (xCons (xVar 3) (xNil))) (xC (.int 6))))) (sRaise "InvalidLog" (xPartF "part" (xCons (xC (.str "FACTS")) (xNil)))) (sNx)) (sSeq (sFor (xSrc asDicI (xVar 3)) (gT 2 (gsCons (gN 4) (gsCons (gN 6) (gsNil)))) (B_Log_init_2)) (sSeq (sFldD ["Log"] 0 "hosts" (xVar 1)) (sSeq (sFldD ["Log"] 0 "places" (xDic (xDict (xCons (xVar 2) (xNil))))) (sFldD ["Log"] 0 "known" (xDic (xDict (xCons (xVar 3) (xNil)))))))))))
theorem sc_Log_init : FnScope N_Log_init ["self", "machines", "events", "facts"] (defScope s_Log_init) := ⟨rfl, rfl, rfl, by decide +kernel, rfl, by decide +kernel, by decide +kernel⟩
def m_Log_init : Imi := imi 7 3 F_Log_init
theorem ok_Log_init [Tbs] {w : World} {K : PySem.W.Frag} {mg : Str → Option Value} {base : Heap} (x : FxT PP fa fn tf K mg base) : FO PP w K mg base 3 (He.ma K (He.ga K "Log") "__init__") ["self", "machines", "events", "facts"] (spI K 3 m_Log_init) := by
  obtain ⟨fd, D⟩ := x.c.def_ 11 (d := d_Log_init)
  have hN := sc_Log_init.nd
  exact fn_ki D sc_Log_init rfl (by decide) (FunD.bindsN D fun _ _ _ _ _ _ us hl => match us, hl with | [_, _, _, _], _ => rfl) fun cdv A outer s H E hr tk po => dss_cons (ds_if (dw_pt (dw_or (dt_not (dt_val (k_call tk (ok_are_names x) hr (by decide) (x.gl (x.f 37)) (x.f 38) (da_cons (d_var 1) (da_nil))))) (dw_or1 (dt_not (dt_chain op_le op_le od_le od_le (d_int) (d_callB call_lenU cb_lenU (x.fr (x.f 3)) (by decide +kernel) (da_cons (d_var 1) (da_nil))) (d_gint (x.it (x.f 39)))))))) (dss_one (k_raiseX rfl tk (x.gl (x.f 40)) (x.f 41) (ok_InvalidLog_init x) hr (by decide) (da_cons (d_str) (da_nil)))) (dss_nil)) (dss_cons (ds_if (dw_pt (dw_or (dt_not (dt_val (k_isi (x.f 43) (x.fr (x.f 2)) (d_var 2) (cl_ty (x.fr (x.f 42)) (by decide +kernel))))) (dw_or1 (dt_not (dt_chain op_le op_le od_le od_le (d_int) (d_callB call_lenU cb_lenU (x.fr (x.f 3)) (by decide +kernel) (da_cons (d_var 2) (da_nil))) (d_gint (x.it (x.f 44)))))))) (dss_one (k_raiseX rfl tk (x.gl (x.f 40)) (x.f 41) (ok_InvalidLog_init x) hr (by decide) (da_cons (d_str) (da_nil)))) (dss_nil)) (dss_cons (ds_for po rfl (di_items (d_var 2)) (dg_tup rfl (dgs_cons (dg_name 4 hN) (dgs_cons (dg_name 5 hN) (dgs_nil)))) (dss_one (ds_if (dw_pt (dw_or (dt_not (dt_val (k_call tk (ok_is_name x) hr (by decide) (x.gl (x.f 13)) (x.f 14) (da_cons (d_var 4) (da_nil))))) (dw_or1 (dt_not (dt_val (k_call tk (ok_is_event_of x) hr (by decide) (x.gl (x.f 45)) (x.f 46) (da_cons (d_var 5) (da_cons (d_var 1) (da_nil))))))))) (dss_one (k_raiseX rfl tk (x.gl (x.f 40)) (x.f 41) (ok_InvalidLog_init x) hr (by decide) (da_cons (d_var 4) (da_nil)))) (dss_nil)))) (dss_cons (ds_if (dw_pt (dw_or (dt_not (dt_val (k_isi (x.f 43) (x.fr (x.f 2)) (d_var 3) (cl_ty (x.fr (x.f 42)) (by decide +kernel))))) (dw_or1 (dt_cmp op_gt od_gt (d_callB call_lenU cb_lenU (x.fr (x.f 3)) (by decide +kernel) (da_cons (d_var 3) (da_nil))) (d_gint (x.it (x.f 47))))))) (dss_one (k_raiseX rfl tk (x.gl (x.f 40)) (x.f 41) (ok_InvalidLog_init x) hr (by decide) (da_cons (d_str) (da_nil)))) (dss_nil)) (dss_cons (ds_for po rfl (di_items (d_var 3)) (dg_tup rfl (dgs_cons (dg_name 4 hN) (dgs_cons (dg_name 6 hN) (dgs_nil)))) (dss_one (ds_if (dw_pt (dw_or (dt_not (dt_val (k_call tk (ok_is_name x) hr (by decide) (x.gl (x.f 13)) (x.f 14) (da_cons (d_var 4) (da_nil))))) (dw_or1 (dt_not (dt_val (k_call tk (ok_is_fact_of x) hr (by decide) (x.gl (x.f 48)) (x.f 49) (da_cons (d_var 6) (da_cons (d_var 1) (da_cons (d_var 2) (da_nil)))))))))) (dss_one (k_raiseX rfl tk (x.gl (x.f 40)) (x.f 41) (ok_InvalidLog_init x) hr (by decide) (da_cons (d_var 4) (da_nil)))) (dss_nil)))) (dss_cons (k_sfld 0 (x.f 50) (d_var 1)) (dss_cons (k_sfld 0 (x.f 51) (d_dic (dd_dict rfl (x.fr (x.f 42)) (da_cons (d_var 2) (da_nil))))) (dss_one (k_sfld 0 (x.f 52) (d_dic (dd_dict rfl (x.fr (x.f 42)) (da_cons (d_var 3) (da_nil))))))))))))
abbrev N__law_logs : List Str := ["_law_x", "_law_y", "_law_f", "_law_g", "_law_found"]
def F__law_logs : Ev → SR := sSeq (sAsg (xTup (xCons (xMake "Event" 2 m_Event_init (xCons (xC (.str "a")) (xCons (xC (.int 1)) (xNil)))) (xCons (xMake "Event" 2 m_Event_init (xCons (xC (.str "b")) (xCons (xC (.int 2)) (xNil)))) (xCons (xMake "After" 3 m_After_init (xCons (xC (.str "x")) (xCons (xC (.str "y")) (xCons (xC (.int 1)) (xNil))))) (xCons (xMake "Close" 3 m_Close_init (xCons (xC (.str "a")) (xCons (xC (.str "b")) (xCons (xC (.int 2)) (xNil))))) (xNil)))))) (gT 4 (gsCons (gN 0) (gsCons (gN 1) (gsCons (gN 2) (gsCons (gN 3) (gsNil))))))) (sSeq (sNewL 4 (xCons (xMake "Log" 3 m_Log_init (xCons (xTup (xCons (xC (.str "a")) (xCons (xC (.str "b")) (xNil)))) (xCons (xDic (xDisp (xPc (xC (.str "x")) (xVar 0) (xPc (xC (.str "y")) (xVar 1) (xP0))))) (xCons (xDic (xDisp (xPc (xC (.str "f")) (xVar 2) (xPc (xC (.str "g")) (xVar 3) (xP0))))) (xNil))))) (xCons (xMake "Log" 3 m_Log_init (xCons (xTup (xCons (xC (.str "b")) (xCons (xC (.str "a")) (xNil)))) (xCons (xDic (xDisp (xPc (xC (.str "x")) (xVar 0) (xPc (xC (.str "y")) (xVar 1) (xP0))))) (xCons (xDic (xDisp (xPc (xC (.str "f")) (xVar 2) (xPc (xC (.str "g")) (xVar 3) (xP0))))) (xNil))))) (xNil)))) (sFz 4 (sSeq (sAddO 4 (xVar 4) (xLst (xCons (xMake "Log" 3 m_Log_init (xCons (xTup (xCons (xC (.str "a")) (xCons (xC (.str "b")) (xNil)))) (xCons (xDic (xDisp (xPc (xC (.str "y")) (xVar 1) (xPc (xC (.str "x")) (xVar 0) (xP0))))) (xCons (xDic (xDisp (xPc (xC (.str "f")) (xVar 2) (xPc (xC (.str "g")) (xVar 3) (xP0))))) (xNil))))) (xNil)))) (sFz 4 (sSeq (sAddO 4 (xVar 4) (xLst (xCons (xMake "Log" 3 m_Log_init (xCons (xTup (xCons (xC (.str "a")) (xCons (xC (.str "b")) (xNil)))) (xCons (xDic (xDisp (xPc (xC (.str "x")) (xVar 0) (xPc (xC (.str "y")) (xVar 1) (xP0))))) (xCons (xDic (xDisp (xPc (xC (.str "g")) (xVar 3) (xPc (xC (.str "f")) (xVar 2) (xP0))))) (xNil))))) (xNil)))) (sFz 4 (sSeq (sAddO 4 (xVar 4) (xLst (xCons (xMake "Log" 3 m_Log_init (xCons (xTup (xCons (xC (.str "a")) (xCons (xC (.str "b")) (xNil)))) (xCons (xDic (xDisp (xPc (xC (.str "x")) (xVar 0) (xPc (xC (.str "y")) (xVar 1) (xP0))))) (xCons (xDic (xDisp (xPc (xC (.str "f")) (xVar 2) (xP0)))) (xNil))))) (xCons (xMake "Log" 3 m_Log_init (xCons (xTup (xCons (xC (.str "a")) (xCons (xC (.str "b")) (xNil)))) (xCons (xDic (xDisp (xPc (xC (.str "x")) (xVar 0) (xPc (xC (.str "y")) (xVar 1) (xP0))))) (xCons (xDic (xDisp (xPc (xC (.str "f")) (xVar 3) (xPc (xC (.str "g")) (xVar 2) (xP0))))) (xNil))))) (xNil))))) (sSeq (sApp 4 (xMake "Log" 3 m_Log_init (xCons (xTup (xCons (xC (.str "a")) (xCons (xC (.str "b")) (xCons (xC (.str "c")) (xNil))))) (xCons (xDic (xDisp (xPc (xC (.str "x")) (xVar 0) (xPc (xC (.str "y")) (xVar 1) (xP0))))) (xCons (xDic (xDisp (xPc (xC (.str "f")) (xVar 2) (xPc (xC (.str "g")) (xVar 3) (xP0))))) (xNil)))))) (sFz 4 (sRet (xOp oAdd (xVar 4) (xLst (xCons (xMake "Log" 3 m_Log_init (xCons (xTup (xCons (xC (.str "a")) (xCons (xC (.str "b")) (xNil)))) (xCons (xDic (xDisp (xPc (xC (.str "x")) (xVar 0) (xPc (xC (.str "y")) (xMake "Event" 2 m_Event_init (xCons (xC (.str "b")) (xCons (xC (.int 3)) (xNil)))) (xP0))))) (xCons (xDic (xDisp (xPc (xC (.str "f")) (xVar 2) (xPc (xC (.str "g")) (xVar 3) (xP0))))) (xNil))))) (xNil))))))))))))))
theorem sc__law_logs : FnScope N__law_logs [] (defScope s__law_logs) := ⟨rfl, rfl, rfl, by decide +kernel, rfl, by decide +kernel, by decide +kernel⟩
def m__law_logs : Mir := mir 5 0 F__law_logs
theorem ok__law_logs [Tbs] {w : World} {K : PySem.W.Frag} {mg : Str → Option Value} {base : Heap} (x : FxT PP fa fn tf K mg base) : FO PP w K mg base 7 (He.ga K "_law_logs") [] (spD K m__law_logs) := by
  obtain ⟨fd, D⟩ := x.c.def_ 12 (d := d__law_logs)
  have hN := sc__law_logs.nd
  exact fn_k D sc__law_logs (by decide) (FunD.bindsN D fun _ _ _ _ _ _ us hl => match us, hl with | [], _ => rfl) fun cdv A outer s H E hr tk po => dss_cons (ds_asg (d_tup (da_cons (k_make tk (ok_Event_init x) hr (by decide) (x.gl (x.f 30)) (x.f 55) (da_cons (d_str) (da_cons (d_int) (da_nil)))) (da_cons (k_make tk (ok_Event_init x) hr (by decide) (x.gl (x.f 30)) (x.f 55) (da_cons (d_str) (da_cons (d_int) (da_nil)))) (da_cons (k_make tk (ok_After_init x) hr (by decide) (x.gl (x.f 34)) (x.f 54) (da_cons (d_str) (da_cons (d_str) (da_cons (d_int) (da_nil))))) (da_cons (k_make tk (ok_Close_init x) hr (by decide) (x.gl (x.f 32)) (x.f 53) (da_cons (d_str) (da_cons (d_str) (da_cons (d_int) (da_nil))))) (da_nil)))))) (dg_tup rfl (dgs_cons (dg_name 0 hN) (dgs_cons (dg_name 1 hN) (dgs_cons (dg_name 2 hN) (dgs_cons (dg_name 3 hN) (dgs_nil))))))) (dss_cons (ds_newL 4 hN (da_cons (k_make tk (ok_Log_init x) hr (by decide) (x.gl (x.f 56)) (x.f 57) (da_cons (d_tup (da_cons (d_str) (da_cons (d_str) (da_nil)))) (da_cons (d_dic (dd_disp (dp_cons (d_str) (d_var 0) (dp_cons (d_str) (d_var 1) (dp_nil))))) (da_cons (d_dic (dd_disp (dp_cons (d_str) (d_var 2) (dp_cons (d_str) (d_var 3) (dp_nil))))) (da_nil))))) (da_cons (k_make tk (ok_Log_init x) hr (by decide) (x.gl (x.f 56)) (x.f 57) (da_cons (d_tup (da_cons (d_str) (da_cons (d_str) (da_nil)))) (da_cons (d_dic (dd_disp (dp_cons (d_str) (d_var 0) (dp_cons (d_str) (d_var 1) (dp_nil))))) (da_cons (d_dic (dd_disp (dp_cons (d_str) (d_var 2) (dp_cons (d_str) (d_var 3) (dp_nil))))) (da_nil))))) (da_nil)))) (dss_frz 4 (dss_cons (ds_addO 4 hN (d_var 4) (d_lst (da_cons (k_make tk (ok_Log_init x) hr (by decide) (x.gl (x.f 56)) (x.f 57) (da_cons (d_tup (da_cons (d_str) (da_cons (d_str) (da_nil)))) (da_cons (d_dic (dd_disp (dp_cons (d_str) (d_var 1) (dp_cons (d_str) (d_var 0) (dp_nil))))) (da_cons (d_dic (dd_disp (dp_cons (d_str) (d_var 2) (dp_cons (d_str) (d_var 3) (dp_nil))))) (da_nil))))) (da_nil)))) (dss_frz 4 (dss_cons (ds_addO 4 hN (d_var 4) (d_lst (da_cons (k_make tk (ok_Log_init x) hr (by decide) (x.gl (x.f 56)) (x.f 57) (da_cons (d_tup (da_cons (d_str) (da_cons (d_str) (da_nil)))) (da_cons (d_dic (dd_disp (dp_cons (d_str) (d_var 0) (dp_cons (d_str) (d_var 1) (dp_nil))))) (da_cons (d_dic (dd_disp (dp_cons (d_str) (d_var 3) (dp_cons (d_str) (d_var 2) (dp_nil))))) (da_nil))))) (da_nil)))) (dss_frz 4 (dss_cons (ds_addO 4 hN (d_var 4) (d_lst (da_cons (k_make tk (ok_Log_init x) hr (by decide) (x.gl (x.f 56)) (x.f 57) (da_cons (d_tup (da_cons (d_str) (da_cons (d_str) (da_nil)))) (da_cons (d_dic (dd_disp (dp_cons (d_str) (d_var 0) (dp_cons (d_str) (d_var 1) (dp_nil))))) (da_cons (d_dic (dd_disp (dp_cons (d_str) (d_var 2) (dp_nil)))) (da_nil))))) (da_cons (k_make tk (ok_Log_init x) hr (by decide) (x.gl (x.f 56)) (x.f 57) (da_cons (d_tup (da_cons (d_str) (da_cons (d_str) (da_nil)))) (da_cons (d_dic (dd_disp (dp_cons (d_str) (d_var 0) (dp_cons (d_str) (d_var 1) (dp_nil))))) (da_cons (d_dic (dd_disp (dp_cons (d_str) (d_var 3) (dp_cons (d_str) (d_var 2) (dp_nil))))) (da_nil))))) (da_nil))))) (dss_cons (ds_app 4 (k_make tk (ok_Log_init x) hr (by decide) (x.gl (x.f 56)) (x.f 57) (da_cons (d_tup (da_cons (d_str) (da_cons (d_str) (da_cons (d_str) (da_nil))))) (da_cons (d_dic (dd_disp (dp_cons (d_str) (d_var 0) (dp_cons (d_str) (d_var 1) (dp_nil))))) (da_cons (d_dic (dd_disp (dp_cons (d_str) (d_var 2) (dp_cons (d_str) (d_var 3) (dp_nil))))) (da_nil)))))) (dss_frz 4 (dss_one (ds_ret (d_op op_addA od_add (d_var 4) (d_lst (da_cons (k_make tk (ok_Log_init x) hr (by decide) (x.gl (x.f 56)) (x.f 57) (da_cons (d_tup (da_cons (d_str) (da_cons (d_str) (da_nil)))) (da_cons (d_dic (dd_disp (dp_cons (d_str) (d_var 0) (dp_cons (d_str) (k_make tk (ok_Event_init x) hr (by decide) (x.gl (x.f 30)) (x.f 55) (da_cons (d_str) (da_cons (d_int) (da_nil)))) (dp_nil))))) (da_cons (d_dic (dd_disp (dp_cons (d_str) (d_var 2) (dp_cons (d_str) (d_var 3) (dp_nil))))) (da_nil))))) (da_nil)))))))))))))))
abbrev N_Event_eq : List Str := ["self", "other"]
def F_Event_eq : Ev → SR := sRet (xAndV (xIsi T4 (xVar 1)) (xAndV (xOp oEq (xFld ["Event"] "host" (xVar 0)) (xFld ["Event"] "host" (xVar 1))) (xOp oEq (xFld ["Event"] "clock" (xVar 0)) (xFld ["Event"] "clock" (xVar 1)))))
theorem sc_Event_eq : FnScope N_Event_eq ["self", "other"] (defScope s_Event_eq) := ⟨rfl, rfl, rfl, by decide +kernel, rfl, by decide +kernel, by decide +kernel⟩
def m_Event_eq : Mir := mir 2 2 F_Event_eq
theorem ok_Event_eq [Tbs] {w : World} {K : PySem.W.Frag} {mg : Str → Option Value} {base : Heap} (x : FxT PP fa fn tf K mg base) : FO PP w K mg base 1 (He.ma K (He.ga K "Event") "__eq__") ["self", "other"] (spD K m_Event_eq) := by
  obtain ⟨fd, D⟩ := x.c.def_ 13 (d := d_Event_eq)
  have hN := sc_Event_eq.nd
  exact fn_k D sc_Event_eq (by decide) (FunD.bindsN D fun _ _ _ _ _ _ us hl => match us, hl with | [_, _], _ => rfl) fun cdv A outer s H E hr tk po => dss_one (ds_ret (d_and (k_isi (x.f 31) (x.fr (x.f 2)) (d_var 1) (cl_own (x.gl (x.f 30)))) (d_and (d_cmp (op_eqD hr.units) od_eq (k_fld (x.f 20) (d_var 0)) (k_fld (x.f 20) (d_var 1))) (d_one (d_cmp (op_eqD hr.units) od_eq (k_fld (x.f 21) (d_var 0)) (k_fld (x.f 21) (d_var 1)))))))
abbrev N_Fact_eq : List Str := ["self", "other"]
def F_Fact_eq : Ev → SR := sSeq (sIf (xOr (xNot (xTest (xIsi T8 (xVar 1)))) (xTest (xOp oNe (xCon [("After", .str "after"), ("Close", .str "close")] "WORD" (xVar 0)) (xCon [("After", .str "after"), ("Close", .str "close")] "WORD" (xVar 1))))) (sRet (xC (.bl false))) (sNx)) (sRet (xAndV (xOp oEq (xFld ["After", "Close"] "pair" (xVar 0)) (xFld ["After", "Close"] "pair" (xVar 1))) (xOp oEq (xFld ["After", "Close"] "bounds" (xVar 0)) (xFld ["After", "Close"] "bounds" (xVar 1)))))
theorem sc_Fact_eq : FnScope N_Fact_eq ["self", "other"] (defScope s_Fact_eq) := ⟨rfl, rfl, rfl, by decide +kernel, rfl, by decide +kernel, by decide +kernel⟩
def m_Fact_eq : Mir := mir 2 2 F_Fact_eq
theorem ok_Fact_eq [Tbs] {w : World} {K : PySem.W.Frag} {mg : Str → Option Value} {base : Heap} (x : FxT PP fa fn tf K mg base) : FO PP w K mg base 1 (He.ma K (He.ga K "Fact") "__eq__") ["self", "other"] (spD K m_Fact_eq) := by
  obtain ⟨fd, D⟩ := x.c.def_ 14 (d := d_Fact_eq)
  have hN := sc_Fact_eq.nd
  exact fn_k D sc_Fact_eq (by decide) (FunD.bindsN D fun _ _ _ _ _ _ us hl => match us, hl with | [_, _], _ => rfl) fun cdv A outer s H E hr tk po => dss_cons (ds_if (dw_pt (dw_or (dt_not (dt_val (k_isi (x.f 59) (x.fr (x.f 2)) (d_var 1) (cl_own (x.gl (x.f 58)))))) (dw_or1 (dt_cmp (op_neD hr.units) od_ne (k_con (x.f 60) (d_var 0)) (k_con (x.f 60) (d_var 1)))))) (dss_one (ds_ret (d_bl))) (dss_nil)) (dss_one (ds_ret (d_and (d_cmp (op_eqD hr.units) od_eq (k_fld (x.f 24) (d_var 0)) (k_fld (x.f 24) (d_var 1))) (d_one (d_cmp (op_eqD hr.units) od_eq (k_fld (x.f 25) (d_var 0)) (k_fld (x.f 25) (d_var 1)))))))
abbrev N_Log_eq : List Str := ["self", "other"]
def F_Log_eq : Ev → SR := sSeq (sIf (xOr (xNot (xTest (xIsi T9 (xVar 1)))) (xTest (xOp oNe (xFld ["Log"] "hosts" (xVar 0)) (xFld ["Log"] "hosts" (xVar 1))))) (sRet (xC (.bl false))) (sNx)) (sSeq (sIf (xTest (xOp (oDeepL true ["Event"] m_Event_eq) (xUn itemsD (xFld ["Log"] "places" (xVar 0))) (xUn itemsD (xFld ["Log"] "places" (xVar 1))))) (sRet (xC (.bl false))) (sNx)) (sRet (xOp (oDeepL false ["After", "Close"] m_Fact_eq) (xUn itemsD (xFld ["Log"] "known" (xVar 0))) (xUn itemsD (xFld ["Log"] "known" (xVar 1))))))
theorem sc_Log_eq : FnScope N_Log_eq ["self", "other"] (defScope s_Log_eq) := ⟨rfl, rfl, rfl, by decide +kernel, rfl, by decide +kernel, by decide +kernel⟩
def m_Log_eq : Mir := mir 2 2 F_Log_eq
theorem ok_Log_eq [Tbs] {w : World} {K : PySem.W.Frag} {mg : Str → Option Value} {base : Heap} (x : FxT PP fa fn tf K mg base) : FO PP w K mg base 4 (He.ma K (He.ga K "Log") "__eq__") ["self", "other"] (spD K m_Log_eq) := by
  obtain ⟨fd, D⟩ := x.c.def_ 15 (d := d_Log_eq)
  have hN := sc_Log_eq.nd
  exact fn_k D sc_Log_eq (by decide) (FunD.bindsN D fun _ _ _ _ _ _ us hl => match us, hl with | [_, _], _ => rfl) fun cdv A outer s H E hr tk po => dss_cons (ds_if (dw_pt (dw_or (dt_not (dt_val (k_isi (x.f 61) (x.fr (x.f 2)) (d_var 1) (cl_own (x.gl (x.f 56)))))) (dw_or1 (dt_cmp (op_neD hr.units) od_ne (k_fld (x.f 50) (d_var 0)) (k_fld (x.f 50) (d_var 1)))))) (dss_one (ds_ret (d_bl))) (dss_nil)) (dss_cons (ds_if (kt_deepEq (neg := true) (x.f 63) (ok_Event_eq x) hr (by decide) (d_listItems rfl (x.fr (x.f 62)) (k_fld (x.f 51) (d_var 0))) (d_listItems rfl (x.fr (x.f 62)) (k_fld (x.f 51) (d_var 1)))) (dss_one (ds_ret (d_bl))) (dss_nil)) (dss_one (ds_ret (k_deepEq (neg := false) (x.f 64) (ok_Fact_eq x) hr (by decide) (d_listItems rfl (x.fr (x.f 62)) (k_fld (x.f 52) (d_var 0))) (d_listItems rfl (x.fr (x.f 62)) (k_fld (x.f 52) (d_var 1)))))))
abbrev N_check_log : List Str := ["log"]
def F_check_log : Ev → SR := sIf (xNot (xTest (xIsi T9 (xVar 0)))) (sRaise "InvalidLog" (xPartF "part" (xCons (xC .non) (xNil)))) (sNx)
theorem sc_check_log : FnScope N_check_log ["log"] (defScope s_check_log) := ⟨rfl, rfl, rfl, by decide +kernel, rfl, by decide +kernel, by decide +kernel⟩
def m_check_log : Mir := mir 1 1 F_check_log
theorem ok_check_log [Tbs] {w : World} {K : PySem.W.Frag} {mg : Str → Option Value} {base : Heap} (x : FxT PP fa fn tf K mg base) : FO PP w K mg base 3 (He.ga K "check_log") ["log"] (spD K m_check_log) := by
  obtain ⟨fd, D⟩ := x.c.def_ 16 (d := d_check_log)
  have hN := sc_check_log.nd
  exact fn_k D sc_check_log (by decide) (FunD.bindsN D fun _ _ _ _ _ _ us hl => match us, hl with | [_], _ => rfl) fun cdv A outer s H E hr tk po => dss_one (ds_if (dt_not (dt_val (k_isi (x.f 61) (x.fr (x.f 2)) (d_var 0) (cl_own (x.gl (x.f 56)))))) (dss_one (k_raiseX rfl tk (x.gl (x.f 40)) (x.f 41) (ok_InvalidLog_init x) hr (by decide) (da_cons (d_non) (da_nil)))) (dss_nil))
abbrev N_check_set : List Str := ["log", "some", "name"]
def F_check_set : Ev → SR := sSeq (sIf (xOr (xNot (xTest (xIsi T3 (xVar 1)))) (xNot (xTest (xCB oAll (xCons (xLc [2] (xSrc asAnyU (xVar 1)) (gN 2) (xYes) (xIsi T0 (xVar 2))) (xNil)))))) (sRaise "InvalidSet" (fun _ => .ok [])) (sNx)) (sIf (xTest (xOp oNe (xCB oListU (xCons (xVar 1) (xNil))) (xLc [2] (xSrc asAnyU (xFld ["Log"] "known" (xVar 0))) (gN 2) (xTest (xOp (oInU false) (xVar 2) (xVar 1))) (xVar 2)))) (sRaise "InvalidSet" (fun _ => .ok [])) (sNx))
theorem sc_check_set : FnScope N_check_set ["log", "some"] (defScope s_check_set) := ⟨rfl, rfl, rfl, by decide +kernel, rfl, by decide +kernel, by decide +kernel⟩
def m_check_set : Mir := mir 3 2 F_check_set
theorem ok_check_set [Tbs] {w : World} {K : PySem.W.Frag} {mg : Str → Option Value} {base : Heap} (x : FxT PP fa fn tf K mg base) : FO PP w K mg base 1 (He.ga K "check_set") ["log", "some"] (spD K m_check_set) := by
  obtain ⟨fd, D⟩ := x.c.def_ 17 (d := d_check_set)
  have hN := sc_check_set.nd
  exact fn_k D sc_check_set (by decide) (FunD.bindsN D fun _ _ _ _ _ _ us hl => match us, hl with | [_, _], _ => rfl) fun cdv A outer s H E hr tk po => dss_cons (ds_if (dw_pt (dw_or (dt_not (dt_val (k_isi (x.f 28) (x.fr (x.f 2)) (d_var 1) (cl_ty (x.fr (x.f 27)) (by decide +kernel))))) (dw_or1 (dt_not (dt_val (d_callB (cr_all rfl) cb_all (x.fr (x.f 6)) (by decide +kernel) (da_cons (d_lc (own := [("name", 2)]) rfl hN (blkOk_by (by kernel_rfl)) (by decide) (di_anyU (d_var 1)) (fun _ _ _ _ _ => dg_name 2 hN) (fun _ _ _ _ _ => dts_nil) (fun _ _ _ _ _ => k_isi (x.f 1) (x.fr (x.f 2)) (d_var 2) (cl_ty (x.fr (x.f 0)) (by decide +kernel)))) (da_nil)))))))) (dss_one (k_raise rfl tk (x.gl (x.f 65)) (x.f 66))) (dss_nil)) (dss_one (ds_if (dt_cmp (op_neD hr.units) od_ne (d_callTy (call_listU rfl) cb_listU (x.fr (x.f 62)) (by decide +kernel) (da_cons (d_var 1) (da_nil))) (d_lc (own := [("name", 2)]) rfl hN (blkOk_by (by kernel_rfl)) (by decide) (di_anyU (k_fld (x.f 52) (d_var 0))) (fun _ _ _ _ _ => dg_name 2 hN) (fun _ _ _ _ _ => dts_one (dt_cmp (or_in hr) od_inU (d_var 2) (d_var 1))) (fun _ _ _ _ _ => d_var 2))) (dss_one (k_raise rfl tk (x.gl (x.f 65)) (x.f 66))) (dss_nil)))
abbrev N_check_prices : List Str := ["log", "prices", "name"]
def F_check_prices : Ev → SR := sSeq (sIf (xOr (xNot (xTest (xIsi T7 (xVar 1)))) (xTest (xOp oNe (xCB oLenU (xCons (xVar 1) (xNil))) (xCB oLenU (xCons (xFld ["Log"] "known" (xVar 0)) (xNil)))))) (sRaise "InvalidPrices" (fun _ => .ok [])) (sNx)) (sIf (xNot (xTest (xCB oAll (xCons (xLc [2] (xSrc asAnyU (xFld ["Log"] "known" (xVar 0))) (gN 2) (xYes) (xAndV (xOp (oInU false) (xVar 2) (xVar 1)) (xCall m_is_integer (xCons (xOp oIxU (xVar 1) (xVar 2)) (xCons (xC (.int 0)) (xCons (xC (.int 99)) (xNil))))))) (xNil))))) (sRaise "InvalidPrices" (fun _ => .ok [])) (sNx))
theorem sc_check_prices : FnScope N_check_prices ["log", "prices"] (defScope s_check_prices) := ⟨rfl, rfl, rfl, by decide +kernel, rfl, by decide +kernel, by decide +kernel⟩
def m_check_prices : Mir := mir 3 2 F_check_prices
theorem ok_check_prices [Tbs] {w : World} {K : PySem.W.Frag} {mg : Str → Option Value} {base : Heap} (x : FxT PP fa fn tf K mg base) : FO PP w K mg base 3 (He.ga K "check_prices") ["log", "prices"] (spD K m_check_prices) := by
  obtain ⟨fd, D⟩ := x.c.def_ 18 (d := d_check_prices)
  have hN := sc_check_prices.nd
  exact fn_k D sc_check_prices (by decide) (FunD.bindsN D fun _ _ _ _ _ _ us hl => match us, hl with | [_, _], _ => rfl) fun cdv A outer s H E hr tk po => dss_cons (ds_if (dw_pt (dw_or (dt_not (dt_val (k_isi (x.f 43) (x.fr (x.f 2)) (d_var 1) (cl_ty (x.fr (x.f 42)) (by decide +kernel))))) (dw_or1 (dt_cmp (op_neD hr.units) od_ne (d_callB call_lenU cb_lenU (x.fr (x.f 3)) (by decide +kernel) (da_cons (d_var 1) (da_nil))) (d_callB call_lenU cb_lenU (x.fr (x.f 3)) (by decide +kernel) (da_cons (k_fld (x.f 52) (d_var 0)) (da_nil))))))) (dss_one (k_raise rfl tk (x.gl (x.f 67)) (x.f 68))) (dss_nil)) (dss_one (ds_if (dt_not (dt_val (d_callB (cr_all rfl) cb_all (x.fr (x.f 6)) (by decide +kernel) (da_cons (d_lc (own := [("name", 2)]) rfl hN (blkOk_by (by kernel_rfl)) (by decide) (di_anyU (k_fld (x.f 52) (d_var 0))) (fun _ _ _ _ _ => dg_name 2 hN) (fun _ _ _ _ _ => dts_nil) (fun _ _ _ _ _ => d_and (d_cmp (or_in hr) od_inU (d_var 2) (d_var 1)) (d_one (k_call tk0 (ok_is_integer x) hr (by decide) (x.gl (x.f 16)) (x.f 17) (da_cons (d_ixU hr (d_var 1) (d_var 2)) (da_cons (d_int) (da_cons (d_gint (x.it (x.f 69))) (da_nil)))))))) (da_nil))))) (dss_one (k_raise rfl tk (x.gl (x.f 67)) (x.f 68))) (dss_nil)))
abbrev N_cost_of : List Str := ["some", "prices", "name"]
def F_cost_of : Ev → SR := sRet (xCB oSum (xCons (xLc [2] (xSrc asAnyU (xVar 0)) (gN 2) (xYes) (xOp oIxU (xVar 1) (xVar 2))) (xNil)))
theorem sc_cost_of : FnScope N_cost_of ["some", "prices"] (defScope s_cost_of) := ⟨rfl, rfl, rfl, by decide +kernel, rfl, by decide +kernel, by decide +kernel⟩
def m_cost_of : Mir := mir 3 2 F_cost_of
theorem ok_cost_of [Tbs] {w : World} {K : PySem.W.Frag} {mg : Str → Option Value} {base : Heap} (x : FxT PP fa fn tf K mg base) : FO PP w K mg base 1 (He.ga K "cost_of") ["some", "prices"] (spD K m_cost_of) := by
  obtain ⟨fd, D⟩ := x.c.def_ 19 (d := d_cost_of)
  have hN := sc_cost_of.nd
  exact fn_k D sc_cost_of (by decide) (FunD.bindsN D fun _ _ _ _ _ _ us hl => match us, hl with | [_, _], _ => rfl) fun cdv A outer s H E hr tk po => dss_one (ds_ret (d_callB (cr_sum rfl) cb_sum (x.fr (x.f 70)) (by decide +kernel) (da_cons (d_lc (own := [("name", 2)]) rfl hN (blkOk_by (by kernel_rfl)) (by decide) (di_anyU (d_var 0)) (fun _ _ _ _ _ => dg_name 2 hN) (fun _ _ _ _ _ => dts_nil) (fun _ _ _ _ _ => d_ixU hr (d_var 1) (d_var 2))) (da_nil))))
abbrev N_price_of : List Str := ["log", "some", "prices"]
def F_price_of : Ev → SR := sSeq (sDrop (xCall m_check_log (xCons (xVar 0) (xNil)))) (sSeq (sDrop (xCall m_check_set (xCons (xVar 0) (xCons (xVar 1) (xNil))))) (sSeq (sDrop (xCall m_check_prices (xCons (xVar 0) (xCons (xVar 2) (xNil))))) (sRet (xCall m_cost_of (xCons (xVar 1) (xCons (xVar 2) (xNil)))))))
theorem sc_price_of : FnScope N_price_of ["log", "some", "prices"] (defScope s_price_of) := ⟨rfl, rfl, rfl, by decide +kernel, rfl, by decide +kernel, by decide +kernel⟩
def m_price_of : Mir := mir 3 3 F_price_of
theorem ok_price_of [Tbs] {w : World} {K : PySem.W.Frag} {mg : Str → Option Value} {base : Heap} (x : FxT PP fa fn tf K mg base) : FO PP w K mg base 4 (He.ga K "price_of") ["log", "some", "prices"] (spD K m_price_of) := by
  obtain ⟨fd, D⟩ := x.c.def_ 20 (d := d_price_of)
  have hN := sc_price_of.nd
  exact fn_k D sc_price_of (by decide) (FunD.bindsN D fun _ _ _ _ _ _ us hl => match us, hl with | [_, _, _], _ => rfl) fun cdv A outer s H E hr tk po => dss_cons (ds_drop (k_call tk (ok_check_log x) hr (by decide) (x.gl (x.f 71)) (x.f 72) (da_cons (d_var 0) (da_nil)))) (dss_cons (ds_drop (k_call tk (ok_check_set x) hr (by decide) (x.gl (x.f 73)) (x.f 74) (da_cons (d_var 0) (da_cons (d_var 1) (da_nil))))) (dss_cons (ds_drop (k_call tk (ok_check_prices x) hr (by decide) (x.gl (x.f 75)) (x.f 76) (da_cons (d_var 0) (da_cons (d_var 2) (da_nil))))) (dss_one (ds_ret (k_call tk (ok_cost_of x) hr (by decide) (x.gl (x.f 77)) (x.f 78) (da_cons (d_var 1) (da_cons (d_var 2) (da_nil))))))))
abbrev N__law_is_wrong : List Str := ["_law_call"]
theorem sc__law_is_wrong : FnScope N__law_is_wrong ["_law_call"] (defScope s__law_is_wrong) := ⟨rfl, rfl, rfl, by decide +kernel, rfl, by decide +kernel, by decide +kernel⟩
abbrev N_check_pair : List Str := ["log", "one", "other"]
def F_check_pair : Ev → SR := sSeq (sIf (xOr (xNot (xTest (xIsi T0 (xVar 1)))) (xOr (xNot (xTest (xIsi T0 (xVar 2)))) (xTest (xOp oEq (xVar 1) (xVar 2))))) (sRaise "InvalidPair" (fun _ => .ok [])) (sNx)) (sIf (xOr (xTest (xOp (oInU true) (xVar 1) (xFld ["Log"] "places" (xVar 0)))) (xTest (xOp (oInU true) (xVar 2) (xFld ["Log"] "places" (xVar 0))))) (sRaise "InvalidPair" (fun _ => .ok [])) (sNx))
theorem sc_check_pair : FnScope N_check_pair ["log", "one", "other"] (defScope s_check_pair) := ⟨rfl, rfl, rfl, by decide +kernel, rfl, by decide +kernel, by decide +kernel⟩
def m_check_pair : Mir := mir 3 3 F_check_pair
theorem ok_check_pair [Tbs] {w : World} {K : PySem.W.Frag} {mg : Str → Option Value} {base : Heap} (x : FxT PP fa fn tf K mg base) : FO PP w K mg base 1 (He.ga K "check_pair") ["log", "one", "other"] (spD K m_check_pair) := by
  obtain ⟨fd, D⟩ := x.c.def_ 22 (d := d_check_pair)
  have hN := sc_check_pair.nd
  exact fn_k D sc_check_pair (by decide) (FunD.bindsN D fun _ _ _ _ _ _ us hl => match us, hl with | [_, _, _], _ => rfl) fun cdv A outer s H E hr tk po => dss_cons (ds_if (dw_pt (dw_or (dt_not (dt_val (k_isi (x.f 1) (x.fr (x.f 2)) (d_var 1) (cl_ty (x.fr (x.f 0)) (by decide +kernel))))) (dw_or (dt_not (dt_val (k_isi (x.f 1) (x.fr (x.f 2)) (d_var 2) (cl_ty (x.fr (x.f 0)) (by decide +kernel))))) (dw_or1 (dt_cmp (op_eqD hr.units) od_eq (d_var 1) (d_var 2)))))) (dss_one (k_raise rfl tk (x.gl (x.f 79)) (x.f 80))) (dss_nil)) (dss_one (ds_if (dw_pt (dw_or (dt_cmp (or_notin hr) od_inU (d_var 1) (k_fld (x.f 51) (d_var 0))) (dw_or1 (dt_cmp (or_notin hr) od_inU (d_var 2) (k_fld (x.f 51) (d_var 0)))))) (dss_one (k_raise rfl tk (x.gl (x.f 79)) (x.f 80))) (dss_nil)))
abbrev N_choose : List Str := ["log", "one", "other", "some", "prices", "rows", "larger", "best", "doubt", "doubts"]
def F_choose : Ev → SR := sSeq (sDrop (xCall m_check_log (xCons (xVar 0) (xNil)))) (sSeq (sDrop (xCall m_check_pair (xCons (xVar 0) (xCons (xVar 1) (xCons (xVar 2) (xNil)))))) (sSeq (sDrop (xCall m_check_set (xCons (xVar 0) (xCons (xVar 3) (xNil))))) (sSeq (sDrop (xCall m_check_prices (xCons (xVar 0) (xCons (xVar 4) (xNil))))) (sBad))))
theorem sc_choose : FnScope N_choose ["log", "one", "other", "some", "prices"] (defScope s_choose) := ⟨rfl, rfl, rfl, by decide +kernel, rfl, by decide +kernel, by decide +kernel⟩
def m_choose : Mir := mir 10 5 F_choose
theorem ok_choose [Tbs] {w : World} {K : PySem.W.Frag} {mg : Str → Option Value} {base : Heap} (x : FxT PP fa fn tf K mg base) : FO PP w K mg base 4 (He.ga K "choose") ["log", "one", "other", "some", "prices"] (spD K m_choose) := by
  obtain ⟨fd, D⟩ := x.c.def_ 23 (d := d_choose)
  have hN := sc_choose.nd
  exact fn_k D sc_choose (by decide) (FunD.bindsN D fun _ _ _ _ _ _ us hl => match us, hl with | [_, _, _, _, _], _ => rfl) fun cdv A outer s H E hr tk po => dss_cons (ds_drop (k_call tk (ok_check_log x) hr (by decide) (x.gl (x.f 71)) (x.f 72) (da_cons (d_var 0) (da_nil)))) (dss_cons (ds_drop (k_call tk (ok_check_pair x) hr (by decide) (x.gl (x.f 81)) (x.f 82) (da_cons (d_var 0) (da_cons (d_var 1) (da_cons (d_var 2) (da_nil)))))) (dss_cons (ds_drop (k_call tk (ok_check_set x) hr (by decide) (x.gl (x.f 73)) (x.f 74) (da_cons (d_var 0) (da_cons (d_var 3) (da_nil))))) (dss_cons (ds_drop (k_call tk (ok_check_prices x) hr (by decide) (x.gl (x.f 75)) (x.f 76) (da_cons (d_var 0) (da_cons (d_var 4) (da_nil))))) (dss_bad))))
abbrev N_Log_machines : List Str := ["self"]
def F_Log_machines : Ev → SR := sRet (xFld ["Log"] "hosts" (xVar 0))
theorem sc_Log_machines : FnScope N_Log_machines ["self"] (defScope s_Log_machines) := ⟨rfl, rfl, rfl, by decide +kernel, rfl, by decide +kernel, by decide +kernel⟩
def m_Log_machines : Mir := mir 1 1 F_Log_machines
theorem ok_Log_machines [Tbs] {w : World} {K : PySem.W.Frag} {mg : Str → Option Value} {base : Heap} (x : FxT PP fa fn tf K mg base) : FO PP w K mg base 1 ((Wh.prop "Log" "machines").adr K) ["self"] (spD K m_Log_machines) := by
  obtain ⟨fd, D⟩ := x.c.def_ 24 (d := d_Log_machines)
  have hN := sc_Log_machines.nd
  exact fn_k D sc_Log_machines (by decide) (FunD.bindsN D fun _ _ _ _ _ _ us hl => match us, hl with | [_], _ => rfl) fun cdv A outer s H E hr tk po => dss_one (ds_ret (k_fld (x.f 50) (d_var 0)))
abbrev N_Log_events : List Str := ["self"]
def F_Log_events : Ev → SR := sRet (xCB oListU (xCons (xFld ["Log"] "places" (xVar 0)) (xNil)))
theorem sc_Log_events : FnScope N_Log_events ["self"] (defScope s_Log_events) := ⟨rfl, rfl, rfl, by decide +kernel, rfl, by decide +kernel, by decide +kernel⟩
def m_Log_events : Mir := mir 1 1 F_Log_events
theorem ok_Log_events [Tbs] {w : World} {K : PySem.W.Frag} {mg : Str → Option Value} {base : Heap} (x : FxT PP fa fn tf K mg base) : FO PP w K mg base 1 ((Wh.prop "Log" "events").adr K) ["self"] (spD K m_Log_events) := by
  obtain ⟨fd, D⟩ := x.c.def_ 25 (d := d_Log_events)
  have hN := sc_Log_events.nd
  exact fn_k D sc_Log_events (by decide) (FunD.bindsN D fun _ _ _ _ _ _ us hl => match us, hl with | [_], _ => rfl) fun cdv A outer s H E hr tk po => dss_one (ds_ret (d_callTy (call_listU rfl) cb_listU (x.fr (x.f 62)) (by decide +kernel) (da_cons (k_fld (x.f 51) (d_var 0)) (da_nil))))
abbrev N_Log_facts : List Str := ["self"]
def F_Log_facts : Ev → SR := sRet (xCB oListU (xCons (xFld ["Log"] "known" (xVar 0)) (xNil)))
theorem sc_Log_facts : FnScope N_Log_facts ["self"] (defScope s_Log_facts) := ⟨rfl, rfl, rfl, by decide +kernel, rfl, by decide +kernel, by decide +kernel⟩
def m_Log_facts : Mir := mir 1 1 F_Log_facts
theorem ok_Log_facts [Tbs] {w : World} {K : PySem.W.Frag} {mg : Str → Option Value} {base : Heap} (x : FxT PP fa fn tf K mg base) : FO PP w K mg base 1 ((Wh.prop "Log" "facts").adr K) ["self"] (spD K m_Log_facts) := by
  obtain ⟨fd, D⟩ := x.c.def_ 26 (d := d_Log_facts)
  have hN := sc_Log_facts.nd
  exact fn_k D sc_Log_facts (by decide) (FunD.bindsN D fun _ _ _ _ _ _ us hl => match us, hl with | [_], _ => rfl) fun cdv A outer s H E hr tk po => dss_one (ds_ret (d_callTy (call_listU rfl) cb_listU (x.fr (x.f 62)) (by decide +kernel) (da_cons (k_fld (x.f 52) (d_var 0)) (da_nil))))
abbrev N_Event_machine : List Str := ["self"]
def F_Event_machine : Ev → SR := sRet (xFld ["Event"] "host" (xVar 0))
theorem sc_Event_machine : FnScope N_Event_machine ["self"] (defScope s_Event_machine) := ⟨rfl, rfl, rfl, by decide +kernel, rfl, by decide +kernel, by decide +kernel⟩
def m_Event_machine : Mir := mir 1 1 F_Event_machine
theorem ok_Event_machine [Tbs] {w : World} {K : PySem.W.Frag} {mg : Str → Option Value} {base : Heap} (x : FxT PP fa fn tf K mg base) : FO PP w K mg base 1 ((Wh.prop "Event" "machine").adr K) ["self"] (spD K m_Event_machine) := by
  obtain ⟨fd, D⟩ := x.c.def_ 27 (d := d_Event_machine)
  have hN := sc_Event_machine.nd
  exact fn_k D sc_Event_machine (by decide) (FunD.bindsN D fun _ _ _ _ _ _ us hl => match us, hl with | [_], _ => rfl) fun cdv A outer s H E hr tk po => dss_one (ds_ret (k_fld (x.f 20) (d_var 0)))
abbrev N_Log_getitem : List Str := ["self", "name"]
def F_Log_getitem : Ev → SR := sSeq (sIf (xOr (xNot (xTest (xIsi T0 (xVar 1)))) (xTest (xOp (oInU true) (xVar 1) (xFld ["Log"] "places" (xVar 0))))) (sRaise "InvalidName" (fun _ => .ok [])) (sNx)) (sRet (xOp oIxU (xFld ["Log"] "places" (xVar 0)) (xVar 1)))
theorem sc_Log_getitem : FnScope N_Log_getitem ["self", "name"] (defScope s_Log_getitem) := ⟨rfl, rfl, rfl, by decide +kernel, rfl, by decide +kernel, by decide +kernel⟩
def m_Log_getitem : Mir := mir 2 2 F_Log_getitem
theorem ok_Log_getitem [Tbs] {w : World} {K : PySem.W.Frag} {mg : Str → Option Value} {base : Heap} (x : FxT PP fa fn tf K mg base) : FO PP w K mg base 1 (He.ma K (He.ga K "Log") "__getitem__") ["self", "name"] (spD K m_Log_getitem) := by
  obtain ⟨fd, D⟩ := x.c.def_ 28 (d := d_Log_getitem)
  have hN := sc_Log_getitem.nd
  exact fn_k D sc_Log_getitem (by decide) (FunD.bindsN D fun _ _ _ _ _ _ us hl => match us, hl with | [_, _], _ => rfl) fun cdv A outer s H E hr tk po => dss_cons (ds_if (dw_pt (dw_or (dt_not (dt_val (k_isi (x.f 1) (x.fr (x.f 2)) (d_var 1) (cl_ty (x.fr (x.f 0)) (by decide +kernel))))) (dw_or1 (dt_cmp (or_notin hr) od_inU (d_var 1) (k_fld (x.f 51) (d_var 0)))))) (dss_one (k_raise rfl tk (x.gl (x.f 83)) (x.f 84))) (dss_nil)) (dss_one (ds_ret (d_ixU hr (k_fld (x.f 51) (d_var 0)) (d_var 1))))
abbrev N__law_is_refused : List Str := ["_law_call"]
theorem sc__law_is_refused : FnScope N__law_is_refused ["_law_call"] (defScope s__law_is_refused) := ⟨rfl, rfl, rfl, by decide +kernel, rfl, by decide +kernel, by decide +kernel⟩
abbrev N__law_wrong : List Str := ["_law_call", "_law_good", "_law_bad", "_law_event", "_law_other"]
def F__law_wrong : Ev → SR := sSeq (sPar 3 4 (xMake "Event" 2 m_Event_init (xCons (xC (.str "a")) (xCons (xC (.int 1)) (xNil)))) (xMake "Event" 2 m_Event_init (xCons (xC (.str "a")) (xCons (xC (.int 2)) (xNil))))) (sSeq (sIf (xTest (xOp oEq (xVar 0) (xC (.int 0)))) (sRet (xMake "Event" 2 m_Event_init (xCons (xVar 2) (xCons (xC (.int 1)) (xNil))))) (sNx)) (sSeq (sIf (xTest (xOp oEq (xVar 0) (xC (.int 1)))) (sRet (xMake "After" 3 m_After_init (xCons (xVar 2) (xCons (xVar 1) (xCons (xC (.int 1)) (xNil)))))) (sNx)) (sSeq (sIf (xTest (xOp oEq (xVar 0) (xC (.int 2)))) (sRet (xMake "Close" 3 m_Close_init (xCons (xVar 1) (xCons (xVar 2) (xCons (xC (.int 1)) (xNil)))))) (sNx)) (sSeq (sIf (xTest (xOp oEq (xVar 0) (xC (.int 3)))) (sRet (xMake "Log" 3 m_Log_init (xCons (xTup (xCons (xC (.str "a")) (xCons (xVar 2) (xNil)))) (xCons (xDic (xDisp (xPc (xC (.str "x")) (xVar 3) (xPc (xC (.str "y")) (xVar 4) (xP0))))) (xCons (xDic (fun _ => .ok [])) (xNil)))))) (sNx)) (sSeq (sIf (xTest (xOp oEq (xVar 0) (xC (.int 4)))) (sRet (xMake "Log" 3 m_Log_init (xCons (xTup (xCons (xC (.str "a")) (xNil))) (xCons (xDic (xDisp (xPc (xC (.str "x")) (xVar 3) (xPc (xVar 2) (xVar 4) (xP0))))) (xCons (xDic (fun _ => .ok [])) (xNil)))))) (sNx)) (sRet (xMake "Log" 3 m_Log_init (xCons (xTup (xCons (xC (.str "a")) (xNil))) (xCons (xDic (xDisp (xPc (xC (.str "x")) (xVar 3) (xPc (xC (.str "y")) (xVar 4) (xP0))))) (xCons (xDic (xDisp (xPc (xVar 2) (xMake "After" 3 m_After_init (xCons (xC (.str "x")) (xCons (xC (.str "y")) (xCons (xC (.int 1)) (xNil))))) (xP0)))) (xNil)))))))))))
theorem sc__law_wrong : FnScope N__law_wrong ["_law_call", "_law_good", "_law_bad"] (defScope s__law_wrong) := ⟨rfl, rfl, rfl, by decide +kernel, rfl, by decide +kernel, by decide +kernel⟩
def m__law_wrong : Mir := mir 5 3 F__law_wrong
theorem ok__law_wrong [Tbs] {w : World} {K : PySem.W.Frag} {mg : Str → Option Value} {base : Heap} (x : FxT PP fa fn tf K mg base) : FO PP w K mg base 7 (He.ga K "_law_wrong") ["_law_call", "_law_good", "_law_bad"] (spD K m__law_wrong) := by
  obtain ⟨fd, D⟩ := x.c.def_ 30 (d := d__law_wrong)
  have hN := sc__law_wrong.nd
  exact fn_k D sc__law_wrong (by decide) (FunD.bindsN D fun _ _ _ _ _ _ us hl => match us, hl with | [_, _, _], _ => rfl) fun cdv A outer s H E hr tk po => dss_cons (ds_par 3 4 rfl hN (k_make tk (ok_Event_init x) hr (by decide) (x.gl (x.f 30)) (x.f 55) (da_cons (d_str) (da_cons (d_int) (da_nil)))) (k_make tk (ok_Event_init x) hr (by decide) (x.gl (x.f 30)) (x.f 55) (da_cons (d_str) (da_cons (d_int) (da_nil))))) (dss_cons (ds_if (dt_cmp (op_eqD hr.units) od_eq (d_var 0) (d_int)) (dss_one (ds_ret (k_make tk (ok_Event_init x) hr (by decide) (x.gl (x.f 30)) (x.f 55) (da_cons (d_var 2) (da_cons (d_int) (da_nil)))))) (dss_nil)) (dss_cons (ds_if (dt_cmp (op_eqD hr.units) od_eq (d_var 0) (d_int)) (dss_one (ds_ret (k_make tk (ok_After_init x) hr (by decide) (x.gl (x.f 34)) (x.f 54) (da_cons (d_var 2) (da_cons (d_var 1) (da_cons (d_int) (da_nil))))))) (dss_nil)) (dss_cons (ds_if (dt_cmp (op_eqD hr.units) od_eq (d_var 0) (d_int)) (dss_one (ds_ret (k_make tk (ok_Close_init x) hr (by decide) (x.gl (x.f 32)) (x.f 53) (da_cons (d_var 1) (da_cons (d_var 2) (da_cons (d_int) (da_nil))))))) (dss_nil)) (dss_cons (ds_if (dt_cmp (op_eqD hr.units) od_eq (d_var 0) (d_int)) (dss_one (ds_ret (k_make tk (ok_Log_init x) hr (by decide) (x.gl (x.f 56)) (x.f 57) (da_cons (d_tup (da_cons (d_str) (da_cons (d_var 2) (da_nil)))) (da_cons (d_dic (dd_disp (dp_cons (d_str) (d_var 3) (dp_cons (d_str) (d_var 4) (dp_nil))))) (da_cons (d_dic (dd_empty)) (da_nil))))))) (dss_nil)) (dss_cons (ds_if (dt_cmp (op_eqD hr.units) od_eq (d_var 0) (d_int)) (dss_one (ds_ret (k_make tk (ok_Log_init x) hr (by decide) (x.gl (x.f 56)) (x.f 57) (da_cons (d_tup (da_cons (d_str) (da_nil))) (da_cons (d_dic (dd_disp (dp_cons (d_str) (d_var 3) (dp_cons (d_var 2) (d_var 4) (dp_nil))))) (da_cons (d_dic (dd_empty)) (da_nil))))))) (dss_nil)) (dss_one (ds_ret (k_make tk (ok_Log_init x) hr (by decide) (x.gl (x.f 56)) (x.f 57) (da_cons (d_tup (da_cons (d_str) (da_nil))) (da_cons (d_dic (dd_disp (dp_cons (d_str) (d_var 3) (dp_cons (d_str) (d_var 4) (dp_nil))))) (da_cons (d_dic (dd_disp (dp_cons (d_var 2) (k_make tk (ok_After_init x) hr (by decide) (x.gl (x.f 34)) (x.f 54) (da_cons (d_str) (da_cons (d_str) (da_cons (d_int) (da_nil))))) (dp_nil)))) (da_nil))))))))))))
abbrev N__law_names_right : List Str := ["_law_good", "_law_bad", "_law_events", "_law_facts", "_law_log", "_law_call"]
def B__law_names_right_1 : Ev → SR := sIf (xNot (xTest (xTold3 ["InvalidEvent", "InvalidFact", "InvalidLog"] (xCall m__law_wrong (xCons (xVar 5) (xCons (xVar 0) (xCons (xVar 1) (xNil)))))))) (sRet (xC (.bl false))) (sNx)
def F__law_names_right : Ev → SR := sSeq (sAsg (xTup (xCons (xC (.str "abcdefgh")) (xCons (xC (.str "abcdefghi")) (xNil)))) (gT 2 (gsCons (gN 0) (gsCons (gN 1) (gsNil))))) (sSeq (sPar 2 3 (xDic (xDisp (xPc (xVar 0) (xMake "Event" 2 m_Event_init (xCons (xVar 0) (xCons (xC (.int 999)) (xNil)))) (xPc (xC (.str "b")) (xMake "Event" 2 m_Event_init (xCons (xC (.str "a")) (xCons (xC (.int 0)) (xNil)))) (xP0))))) (xDic (xDisp (xPc (xVar 0) (xMake "After" 3 m_After_init (xCons (xVar 0) (xCons (xC (.str "b")) (xCons (xC (.int 1)) (xNil))))) (xPc (xC (.str "c")) (xMake "Close" 3 m_Close_init (xCons (xVar 0) (xCons (xC (.str "a")) (xCons (xC (.int 0)) (xNil))))) (xP0)))))) (sSeq (sSet 4 (xMake "Log" 3 m_Log_init (xCons (xTup (xCons (xVar 0) (xCons (xC (.str "a")) (xNil)))) (xCons (xVar 2) (xCons (xVar 3) (xNil)))))) (sSeq (sIf (xOr (xTest (xOp oNe (xProps ["Log"] m_Log_machines (xVar 4)) (xTup (xCons (xVar 0) (xCons (xC (.str "a")) (xNil)))))) (xOr (xTest (xOp oNe (xProps ["Log"] m_Log_events (xVar 4)) (xLst (xCons (xVar 0) (xCons (xC (.str "b")) (xNil)))))) (xTest (xOp oNe (xProps ["Log"] m_Log_facts (xVar 4)) (xLst (xCons (xVar 0) (xCons (xC (.str "c")) (xNil)))))))) (sRet (xC (.bl false))) (sNx)) (sSeq (sIf (xTest (xOp oNe (xProps ["Event"] m_Event_machine (xMeth "Log" "__getitem__" m_Log_getitem (xVar 4) (xCons (xVar 0) xNil))) (xVar 0))) (sRet (xC (.bl false))) (sNx)) (sSeq (sFor (xSrc asAnyU (xLst (xCons (xC (.int 0)) (xCons (xC (.int 1)) (xCons (xC (.int 2)) (xCons (xC (.int 3)) (xCons (xC (.int 4)) (xCons (xC (.int 5)) (xNil))))))))) (gN 5) (B__law_names_right_1)) (sRet (xC (.bl true))))))))
theorem sc__law_names_right : FnScope N__law_names_right [] (defScope s__law_names_right) := ⟨rfl, rfl, rfl, by decide +kernel, rfl, by decide +kernel, by decide +kernel⟩
def m__law_names_right : Mir := mir 6 0 F__law_names_right
theorem ok__law_names_right [Tbs] {w : World} {K : PySem.W.Frag} {mg : Str → Option Value} {base : Heap} (x : FxT PP fa fn tf K mg base) : FO PP w K mg base 10 (He.ga K "_law_names_right") [] (spD K m__law_names_right) := by
  obtain ⟨fd, D⟩ := x.c.def_ 31 (d := d__law_names_right)
  obtain ⟨fd__law_is_refused, D__law_is_refused⟩ := x.c.def_ 29 (d := d__law_is_refused)
  have hN := sc__law_names_right.nd
  exact fn_kC (p := (("_law_names_right", none), "_law_names_right")) x (by decide) rfl rfl D sc__law_names_right (by decide) (FunD.bindsN D fun _ _ _ _ _ _ us hl => match us, hl with | [], _ => rfl) fun cdv A outer s H E mk hr tk po => dss_cons (ds_asg (d_tup (da_cons (d_str) (da_cons (d_str) (da_nil)))) (dg_tup rfl (dgs_cons (dg_name 0 hN) (dgs_cons (dg_name 1 hN) (dgs_nil))))) (dss_cons (ds_par 2 3 rfl hN (d_dic (dd_disp (dp_cons (d_var 0) (k_make tk (ok_Event_init x) hr (by decide) (x.gl (x.f 30)) (x.f 55) (da_cons (d_var 0) (da_cons (d_int) (da_nil)))) (dp_cons (d_str) (k_make tk (ok_Event_init x) hr (by decide) (x.gl (x.f 30)) (x.f 55) (da_cons (d_str) (da_cons (d_int) (da_nil)))) (dp_nil))))) (d_dic (dd_disp (dp_cons (d_var 0) (k_make tk (ok_After_init x) hr (by decide) (x.gl (x.f 34)) (x.f 54) (da_cons (d_var 0) (da_cons (d_str) (da_cons (d_int) (da_nil))))) (dp_cons (d_str) (k_make tk (ok_Close_init x) hr (by decide) (x.gl (x.f 32)) (x.f 53) (da_cons (d_var 0) (da_cons (d_str) (da_cons (d_int) (da_nil))))) (dp_nil)))))) (dss_cons (ds_set 4 hN (k_make tk (ok_Log_init x) hr (by decide) (x.gl (x.f 56)) (x.f 57) (da_cons (d_tup (da_cons (d_var 0) (da_cons (d_str) (da_nil)))) (da_cons (d_var 2) (da_cons (d_var 3) (da_nil)))))) (dss_cons (ds_if (dw_pt (dw_or (dt_cmp (op_neD hr.units) od_ne (k_props (x.f 85) (ok_Log_machines x) hr (by decide) (d_var 4)) (d_tup (da_cons (d_var 0) (da_cons (d_str) (da_nil))))) (dw_or (dt_cmp (op_neD hr.units) od_ne (k_props (x.f 86) (ok_Log_events x) hr (by decide) (d_var 4)) (d_lst (da_cons (d_var 0) (da_cons (d_str) (da_nil))))) (dw_or1 (dt_cmp (op_neD hr.units) od_ne (k_props (x.f 87) (ok_Log_facts x) hr (by decide) (d_var 4)) (d_lst (da_cons (d_var 0) (da_cons (d_str) (da_nil))))))))) (dss_one (ds_ret (d_bl))) (dss_nil)) (dss_cons (ds_if (dt_cmp (op_neD hr.units) od_ne (k_props (x.f 89) (ok_Event_machine x) hr (by decide) (d_ixOwn tk (x.f 88) (ok_Log_getitem x) hr (by decide) (d_var 4) (d_var 0))) (d_var 0)) (dss_one (ds_ret (d_bl))) (dss_nil)) (dss_cons (ds_for po rfl (di_anyU (d_lst (da_cons (d_int) (da_cons (d_int) (da_cons (d_int) (da_cons (d_int) (da_cons (d_int) (da_cons (d_int) (da_nil))))))))) (dg_name 5 hN) (dss_one (ds_if (dt_not (dt_val (k_told3 (k := 7) mk D__law_is_refused (FunD.bindsN D__law_is_refused fun _ _ _ _ _ _ us hl => match us, hl with | [_], _ => rfl) sc__law_is_refused rfl (by first | exact Or.inl rfl | exact Or.inr (Or.inl rfl)) (x.gl (x.f 92)) (x.f 93) (fun cdv => told3_gives (e1 := "InvalidEvent") (e2 := "InvalidFact") (e3 := "InvalidLog") rfl (x.gl (x.f 18)) (by decide) rfl (x.gl (x.f 22)) (by decide) rfl (x.gl (x.f 40)) (by decide) (fun _ => rfl) (fun _ => rfl)) (hr.mono (by decide)) (by kernel_rfl) (fun A outer s H E f c' hr tk => k_call tk (ok__law_wrong x) hr (by decide) (x.gl (x.f 90)) (x.f 91) (da_cons (d_var 5) (da_cons (d_var 0) (da_cons (d_var 1) (da_nil)))))))) (dss_one (ds_ret (d_bl))) (dss_nil)))) (dss_one (ds_ret (d_bl))))))))
abbrev N_law : List Str := ["_law_script", "_law_number", "_law_others", "_law_place", "_law_one", "_law_other", "_law_at", "_law_log", "_law_good", "_law_cases", "_law_prices"]
def B_law_1 : Ev → SR := sIf (xTest (xOp oNe (xLc [5] (xSrc asAnyU (xVar 2)) (gN 5) (xYes) (xOp (oEqO ["Log"] m_Log_eq) (xVar 4) (xVar 5))) (xLc [6] (xIt asRange1 (xCons (xCB oLenU (xCons (xVar 2) (xNil))) (xNil))) (gN 6) (xYes) (xOp oEq (xVar 3) (xVar 6))))) (sRet (xC (.bl false))) (sNx)
def B_law_2 : Ev → SR := sSeq (sIf (xNot (xTest (xTold [("TimeError", false), ("InvalidEvent", false), ("InvalidFact", false), ("InvalidLog", false), ("InvalidName", false), ("InvalidSet", false), ("InvalidPair", false), ("InvalidPrices", true)] (xCall m_price_of (xCons (xVar 7) (xCons (xTup (xNil)) (xCons (xVar 10) (xNil)))))))) (sRet (xC (.bl false))) (sNx)) (sIf (xNot (xTest (xTold [("TimeError", false), ("InvalidEvent", false), ("InvalidFact", false), ("InvalidLog", false), ("InvalidName", false), ("InvalidSet", false), ("InvalidPair", false), ("InvalidPrices", true)] (xCall m_choose (xCons (xVar 7) (xCons (xC (.str "x")) (xCons (xC (.str "y")) (xCons (xTup (xNil)) (xCons (xVar 10) (xNil)))))))))) (sRet (xC (.bl false))) (sNx))
def F_law : Ev → SR := sSeq (sSet 1 (xOp oMod (xCB oAbs (xCons (xCB oSum (xCons (xSl (xVar 0) (xNo) (xPart (xC (.int 9)))) (xNil))) (xNil))) (xC (.int 99)))) (sSeq (sSet 2 (fun _ => m__law_logs [])) (sSeq (sFor (xIt asEnum (xCons (fun _ => m__law_logs []) (xNil))) (gT 2 (gsCons (gN 3) (gsCons (gN 4) (gsNil)))) (B_law_1)) (sSeq (sAsg (xTup (xCons (xOp oIxU (xVar 2) (xC (.int 0))) (xCons (xDic (xDisp (xPc (xC (.str "g")) (xVar 1) (xPc (xC (.str "f")) (xC (.int 1)) (xP0))))) (xNil)))) (gT 2 (gsCons (gN 7) (gsCons (gN 8) (gsNil))))) (sSeq (sIf (xTest (xOp oNe (xCall m_price_of (xCons (xVar 7) (xCons (xTup (xCons (xC (.str "f")) (xCons (xC (.str "g")) (xNil)))) (xCons (xVar 8) (xNil))))) (xOp oAdd (xVar 1) (xC (.int 1))))) (sRet (xC (.bl false))) (sNx)) (sSeq (sSet 9 (xLst (xCons (xDic (xDisp (xPc (xC (.str "g")) (xVar 1) (xPc (xC (.str "f")) (xC (.int 1)) (xPc (xC (.str "h")) (xC (.int 1)) (xP0)))))) (xCons (xDic (xDisp (xPc (xC (.str "g")) (xVar 1) (xP0)))) (xCons (xDic (xDisp (xPc (xC (.str "f")) (xC (.int 1)) (xPc (xC (.str "h")) (xVar 1) (xP0))))) (xNil)))))) (sSeq (sSet 9 (xOp oAdd (xVar 9) (xLst (xCons (xDic (xDisp (xPc (xC (.str "f")) (xC (.int 1)) (xPc (xC (.str "g")) (xVar 1) (xPc (xC (.str "x")) (xC (.int 0)) (xP0)))))) (xCons (xDic (fun _ => .ok [])) (xNil)))))) (sSeq (sFor (xSrc asAnyU (xVar 9)) (gN 10) (B_law_2)) (sRet (fun _ => m__law_names_right [])))))))))
theorem sc_law : FnScope N_law ["_law_script"] (defScope s_law) := ⟨rfl, rfl, rfl, by decide +kernel, rfl, by decide +kernel, by decide +kernel⟩
def m_law : Mir := mir 11 1 F_law
theorem ok_law [Tbs] {w : World} {K : PySem.W.Frag} {mg : Str → Option Value} (x0 : Fx PP fa fn K mg) : ∃ fd : FuncData, (∀ (s : Shared) (v : Value), BindsTo s fd ⟨[v], []⟩ [("_law_script", v)]) ∧ ∀ base : Heap, FxT PP fa fn tf K mg base → FLT PP w K mg base 11 (He.ga K "law") fd "_law_script" m_law := by
  obtain ⟨fd, D⟩ := x0.c.def_ 32 (d := d_law)
  obtain ⟨fd__law_is_wrong, D__law_is_wrong⟩ := x0.c.def_ 21 (d := d__law_is_wrong)
  have hN := sc_law.nd
  exact fn_klC (p := (("law", none), "law")) (by decide) rfl rfl D sc_law (by decide) (fun _ _ _ _ _ _ us hl => match us, hl with | [_], _ => rfl) fun base x cdv A outer s H E mk hr tk po => dss_cons (ds_set 1 hN (d_op op_mod od_mod (d_callB call_abs cb_abs (x.fr (x.f 94)) (by decide +kernel) (da_cons (d_callB (cr_sum rfl) cb_sum (x.fr (x.f 70)) (by decide +kernel) (da_cons (d_slice (d_var 0) (do_none) (do_some (d_int))) (da_nil))) (da_nil))) (d_int))) (dss_cons (ds_set 2 hN (k_call0 tk (ok__law_logs x) hr (by decide) (x.gl (x.f 95)) (x.f 96))) (dss_cons (ds_for po rfl (di_enum (x.fr (x.f 97)) (da_cons (k_call0 tk (ok__law_logs x) hr (by decide) (x.gl (x.f 95)) (x.f 96)) (da_nil))) (dg_tup rfl (dgs_cons (dg_name 3 hN) (dgs_cons (dg_name 4 hN) (dgs_nil)))) (dss_one (ds_if (dt_cmp (op_neD hr.units) od_ne (d_lc (own := [("_law_other", 5)]) rfl hN (blkOk_by (by kernel_rfl)) (by decide) (di_anyU (d_var 2)) (fun _ _ _ _ _ => dg_name 5 hN) (fun _ _ _ _ _ => dts_nil) (fun _ _ _ _ _ => k_eqO (x.f 98) (ok_Log_eq x) hr (by decide) (d_var 4) (d_var 5))) (d_lc (own := [("_law_at", 6)]) rfl hN (blkOk_by (by kernel_rfl)) (by decide) (di_range1 (x.fr (x.f 99)) (da_cons (d_callB call_lenU cb_lenU (x.fr (x.f 3)) (by decide +kernel) (da_cons (d_var 2) (da_nil))) (da_nil))) (fun _ _ _ _ _ => dg_name 6 hN) (fun _ _ _ _ _ => dts_nil) (fun _ _ _ _ _ => d_cmp (op_eqD hr.units) od_eq (d_var 3) (d_var 6)))) (dss_one (ds_ret (d_bl))) (dss_nil)))) (dss_cons (ds_asg (d_tup (da_cons (d_ixU hr (d_var 2) (d_int)) (da_cons (d_dic (dd_disp (dp_cons (d_str) (d_var 1) (dp_cons (d_str) (d_int) (dp_nil))))) (da_nil)))) (dg_tup rfl (dgs_cons (dg_name 7 hN) (dgs_cons (dg_name 8 hN) (dgs_nil))))) (dss_cons (ds_if (dt_cmp (op_neD hr.units) od_ne (k_call tk (ok_price_of x) hr (by decide) (x.gl (x.f 100)) (x.f 101) (da_cons (d_var 7) (da_cons (d_tup (da_cons (d_str) (da_cons (d_str) (da_nil)))) (da_cons (d_var 8) (da_nil))))) (d_op op_addA od_add (d_var 1) (d_int))) (dss_one (ds_ret (d_bl))) (dss_nil)) (dss_cons (ds_set 9 hN (d_lst (da_cons (d_dic (dd_disp (dp_cons (d_str) (d_var 1) (dp_cons (d_str) (d_int) (dp_cons (d_str) (d_int) (dp_nil)))))) (da_cons (d_dic (dd_disp (dp_cons (d_str) (d_var 1) (dp_nil)))) (da_cons (d_dic (dd_disp (dp_cons (d_str) (d_int) (dp_cons (d_str) (d_var 1) (dp_nil))))) (da_nil)))))) (dss_cons (ds_set 9 hN (d_op op_addA od_add (d_var 9) (d_lst (da_cons (d_dic (dd_disp (dp_cons (d_str) (d_int) (dp_cons (d_str) (d_var 1) (dp_cons (d_str) (d_int) (dp_nil)))))) (da_cons (d_dic (dd_empty)) (da_nil)))))) (dss_cons (ds_for po rfl (di_anyU (d_var 9)) (dg_name 10 hN) (dss_cons (ds_if (dt_not (dt_val (k_told (k := 8) mk D__law_is_wrong (FunD.bindsN D__law_is_wrong fun _ _ _ _ _ _ us hl => match us, hl with | [_], _ => rfl) sc__law_is_wrong rfl (by first | exact Or.inl rfl | exact Or.inr (Or.inl rfl)) (x.gl (x.f 102)) (x.f 103) (fun cdv => told1_gives rfl (x.gl (x.f 67)) (by decide) (fun _ => rfl) (fun _ _ _ => rfl)) (hr.mono (by decide)) (by kernel_rfl) (fun A outer s H E f c' hr tk => k_call tk (ok_price_of x) hr (by decide) (x.gl (x.f 100)) (x.f 101) (da_cons (d_var 7) (da_cons (d_tup (da_nil)) (da_cons (d_var 10) (da_nil)))))))) (dss_one (ds_ret (d_bl))) (dss_nil)) (dss_one (ds_if (dt_not (dt_val (k_told (k := 8) mk D__law_is_wrong (FunD.bindsN D__law_is_wrong fun _ _ _ _ _ _ us hl => match us, hl with | [_], _ => rfl) sc__law_is_wrong rfl (by first | exact Or.inl rfl | exact Or.inr (Or.inl rfl)) (x.gl (x.f 102)) (x.f 103) (fun cdv => told1_gives rfl (x.gl (x.f 67)) (by decide) (fun _ => rfl) (fun _ _ _ => rfl)) (hr.mono (by decide)) (by kernel_rfl) (fun A outer s H E f c' hr tk => k_call tk (ok_choose x) hr (by decide) (x.gl (x.f 104)) (x.f 105) (da_cons (d_var 7) (da_cons (d_str) (da_cons (d_str) (da_cons (d_tup (da_nil)) (da_cons (d_var 10) (da_nil)))))))))) (dss_one (ds_ret (d_bl))) (dss_nil))))) (dss_one (ds_ret (k_call0 tk (ok__law_names_right x) hr (by decide) (x.gl (x.f 106)) (x.f 107)))))))))))
end G39

set_option maxHeartbeats 0
/-! k39's mathematics: the number lies in 0 .. 98, the rest is looked at number by number by the kernel. -/
namespace G39
open PySem PySem.Spec PyProof.Rows L2 LD
def isT : R DV → Bool
  | .ok (.bl true) => true
  | _ => false
theorem isT_ok {r : R DV} (h : isT r = true) : r = .ok (.bl true) := by
  unfold isT at h
  split at h
  · rfl
  · cases h
theorem ints_of : ∀ ns : List Int, asInts (ns.map DV.int) = some ns
  | [] => rfl
  | n :: ns => by
    show (asInts (ns.map DV.int)).map (n :: ·) = _
    rw [ints_of ns] <;> rfl
theorem cut_map (ns : List Int) (lo hi : Option Int) : ∃ ms : List Int, LD.cutD (ns.map DV.int) lo hi = ms.map DV.int := by
  unfold LD.cutD
  rw [← List.map_drop, ← List.map_take]
  exact ⟨_, rfl⟩
/-- the number drawn from the script -/
def numF : Ev → R DV := xOp oMod (xCB oAbs (xCons (xCB oSum (xCons (xSl (xVar 0) (xNo) (xPart (xC (.int 9)))) (xNil))) (xNil))) (xC (.int 99))
def δ0 (l : List DV) : Ev := .pu (.ro l) :: List.replicate 10 .un
theorem num_ok (ns : List Int) : ∃ n : Nat, n < 99 ∧ numF (δ0 (ns.map DV.int)) = .ok (.int (n : Int)) := by
  obtain ⟨ms, hm⟩ := cut_map ns none (some 9)
  have e1 : xCB oSum (xCons (xSl (xVar 0) xNo (xPart (xC (.int 9)))) xNil) (δ0 (ns.map DV.int)) = .ok (.int ms.sum) := by
    show oLs asInts (fun ns => .ok (.int ns.sum)) [.lst (LD.cutD (ns.map DV.int) none (some 9))] = _
    rw [hm]
    show (R.ofO (asInts (ms.map DV.int))).bind _ = _
    rw [ints_of]
    rfl
  have e2 : ∃ i : Int, numF (δ0 (ns.map DV.int)) = .ok (.int (i % 99)) := by
    refine ⟨if ms.sum < 0 then -ms.sum else ms.sum, ?_⟩
    show ((xCons (xCB oSum (xCons (xSl (xVar 0) xNo (xPart (xC (.int 9)))) xNil)) xNil (δ0 (ns.map DV.int))).bind oAbs).bind _ = _
    have e3 : xCons (xCB oSum (xCons (xSl (xVar 0) xNo (xPart (xC (.int 9)))) xNil)) xNil (δ0 (ns.map DV.int)) = .ok [.int ms.sum] := by
      show (xCB oSum (xCons (xSl (xVar 0) xNo (xPart (xC (.int 9)))) xNil) (δ0 (ns.map DV.int))).bind _ = _
      rw [e1] <;> rfl
    rw [e3] <;> rfl
  obtain ⟨i, e2⟩ := e2
  have h1 : 0 ≤ i % 99 := Int.emod_nonneg _ (by decide)
  have h2 : i % 99 < 99 := Int.emod_lt_of_pos _ (by decide)
  exact ⟨(i % 99).toNat, by omega, by rw [e2, Int.toNat_of_nonneg h1]⟩
/-- what a def answers -/
def endR : SR → R DV
  | .nx _ => .ok .non
  | .rt d => .ok d
  | .ex c fs _ => .exc c fs
  | _ => .bad
theorem seq_set {i : Nat} {f : Ev → R DV} {F : Ev → SR} {δ : Ev} {d : DV} (h : f δ = .ok d) : sSeq (sSet i f) F δ = F (δ.set i (.pu d)) := by
  unfold sSeq sSet
  rw [h] <;> rfl
def restF (F : Ev → SR) : Prop := F_law = sSeq (sSet 1 numF) F
theorem law_at {F : Ev → SR} (hF : restF F) (l : List DV) {n : Nat} (h : numF (δ0 l) = .ok (.int (n : Int))) : m_law [.ro l] = endR (F ((δ0 l).set 1 (.pu (.int (n : Int))))) := by
  have e : F_law (δ0 l) = F ((δ0 l).set 1 (.pu (.int (n : Int)))) := by
    rw [hF]
    exact seq_set h
  rw [← e]
  show (match F_law (δ0 l) with
    | .nx _ => (.ok .non : R DV)
    | .rt d => .ok d
    | .ex c fs _ => .exc c fs
    | _ => .bad) = _
  cases F_law (δ0 l) <;> rfl
/-- what stands behind the number -/
def restG : Ev → SR := sSeq (sSet 2 (fun _ => m__law_logs [])) (sSeq (sFor (xIt asEnum (xCons (fun _ => m__law_logs []) (xNil))) (gT 2 (gsCons (gN 3) (gsCons (gN 4) (gsNil)))) (B_law_1)) (sSeq (sAsg (xTup (xCons (xOp oIxU (xVar 2) (xC (.int 0))) (xCons (xDic (xDisp (xPc (xC (.str "g")) (xVar 1) (xPc (xC (.str "f")) (xC (.int 1)) (xP0))))) (xNil)))) (gT 2 (gsCons (gN 7) (gsCons (gN 8) (gsNil))))) (sSeq (sIf (xTest (xOp oNe (xCall m_price_of (xCons (xVar 7) (xCons (xTup (xCons (xC (.str "f")) (xCons (xC (.str "g")) (xNil)))) (xCons (xVar 8) (xNil))))) (xOp oAdd (xVar 1) (xC (.int 1))))) (sRet (xC (.bl false))) (sNx)) (sSeq (sSet 9 (xLst (xCons (xDic (xDisp (xPc (xC (.str "g")) (xVar 1) (xPc (xC (.str "f")) (xC (.int 1)) (xPc (xC (.str "h")) (xC (.int 1)) (xP0)))))) (xCons (xDic (xDisp (xPc (xC (.str "g")) (xVar 1) (xP0)))) (xCons (xDic (xDisp (xPc (xC (.str "f")) (xC (.int 1)) (xPc (xC (.str "h")) (xVar 1) (xP0))))) (xNil)))))) (sSeq (sSet 9 (xOp oAdd (xVar 9) (xLst (xCons (xDic (xDisp (xPc (xC (.str "f")) (xC (.int 1)) (xPc (xC (.str "g")) (xVar 1) (xPc (xC (.str "x")) (xC (.int 0)) (xP0)))))) (xCons (xDic (fun _ => .ok [])) (xNil)))))) (sSeq (sFor (xSrc asAnyU (xVar 9)) (gN 10) (B_law_2)) (sRet (fun _ => m__law_names_right []))))))))
def chunk (l : List DV) (c : Nat) : Bool := (List.range 9).all fun n => isT (endR (restG ((δ0 l).set 1 (.pu (.int ((9 * c + n : Nat) : Int))))))
theorem ch0 (l : List DV) : chunk l 0 = true := by kernel_rfl
theorem ch1 (l : List DV) : chunk l 1 = true := by kernel_rfl
theorem ch2 (l : List DV) : chunk l 2 = true := by kernel_rfl
theorem ch3 (l : List DV) : chunk l 3 = true := by kernel_rfl
theorem ch4 (l : List DV) : chunk l 4 = true := by kernel_rfl
theorem ch5 (l : List DV) : chunk l 5 = true := by kernel_rfl
theorem ch6 (l : List DV) : chunk l 6 = true := by kernel_rfl
theorem ch7 (l : List DV) : chunk l 7 = true := by kernel_rfl
theorem ch8 (l : List DV) : chunk l 8 = true := by kernel_rfl
theorem ch9 (l : List DV) : chunk l 9 = true := by kernel_rfl
theorem ch10 (l : List DV) : chunk l 10 = true := by kernel_rfl
theorem ch_all (l : List DV) : ∀ c, c < 11 → chunk l c = true
  | 0, _ => ch0 l
  | 1, _ => ch1 l
  | 2, _ => ch2 l
  | 3, _ => ch3 l
  | 4, _ => ch4 l
  | 5, _ => ch5 l
  | 6, _ => ch6 l
  | 7, _ => ch7 l
  | 8, _ => ch8 l
  | 9, _ => ch9 l
  | 10, _ => ch10 l
  | n + 11, h => absurd h (by omega)
theorem law_ok (ns : List Int) : m_law [.ro (ns.map DV.int)] = .ok (.bl true) := by
  obtain ⟨n, hn, e⟩ := num_ok ns
  rw [law_at (F := restG) rfl _ e]
  have h := List.all_eq_true.mp (ch_all (ns.map DV.int) (n / 9) (by omega)) (n % 9) (List.mem_range.mpr (by omega))
  have en : 9 * (n / 9) + n % 9 = n := by omega
  rw [en] at h
  exact isT_ok h
end G39

set_option maxHeartbeats 0
namespace G39
open PySem PySem.W PySem.Calls PyProof.Rows LD HandSHeadRun
abbrev hk : Hook := hook4 PP 5 fa fn tf
theorem ob_eq (s : SharedT) : ob s = hk.obs s.abs := obs4G_eq (getT_eq s)
theorem run (w : World) : RunEq Rw (PySem.W.view Rw.prog [71]) hk ob 40000 looseN w := fun os => run0 w os
end G39
open PySem PySem.W PySem.Calls PyProof.Rows
theorem PySem.Challenge.cw_surelater_k39_promises_holds : PySem.Challenge.rw_surelater_k39_promises.Holds := by
  w_on; o_law
  refine HandSHeadRun.head_any (r := OpenLaw.row PySem.Challenge.rw_surelater_k39_promises) (q := view (OpenLaw.row PySem.Challenge.rw_surelater_k39_promises).prog [71]) (H := G39.hk) (ob := G39.ob) (M := 40000) (loose := G39.looseN) (d := HandSHeadRun.topDef (OpenLaw.row PySem.Challenge.rw_surelater_k39_promises).prog 71) (kwd := []) G39.ob_eq
    (by kernel_rfl) (fun s => by kernel_rfl) G39.run (by kernel_rfl) (by kernel_rfl) (by kernel_rfl) (by rfl) (by first | assumption | decide +kernel) (by decide +kernel) ⟨rfl, rfl, rfl, rfl, rfl, by decide +kernel⟩ ?hw ?hc
  case hw => w_witness2
  case hc =>
    refine LamX.walk_ofTsE (l := PySem.Challenge.rw_surelater_k39_promises) (n := 63) (k := 11) (x := "_law_script") (CX := fun _ => L2.CX0) rfl (by decide) (by kernel_rfl) ⟨rfl, by decide, by decide⟩ ?F (fun _ _ _ _ _ z => z)
    exact LD.law_F4 (l := PySem.Challenge.rw_surelater_k39_promises) (fa := G39.fa) (fn := G39.fn) (tf := G39.tf) (i := G39.lawFact) (m := G39.m_law) (by rfl) (fun x => G39.ok_law x) (fun ns _ => G39.law_ok ns) (by kernel_rfl)
