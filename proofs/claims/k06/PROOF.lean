import PyProof.Rows.All
import Wide.All
import OpenK.AllK
import Wide.FinOn
import HandS.Words
import HandS.ExcField
import HandS.Head0
import HandS.Head1
import HandS.Head2
import HandS.HeadHook1
import HandS.HeadHook2
import HandS.HeadHook3
import PySem.Challenge.RW_indexlogs_k06_records_taken_back
import HandS.ForMost
import HandS.Strs
import HandS.Exc
import HandS.WordsExc
import HandS.ExcOwn
import HandS.Property
import HandS.Ends
import HandS.Defaults
import HandS.ExcInit
import HandS.ExcIs
import HandS.IsInst
import HandS.ClsMeth
import HandS.TryOnly
import HandS.Wide
import HandS.SortInts
import HandS.RaiseMore
import HandS.Deep
import HandS.More
import HandS.Conv
import HandS.Iter
import HandS.DictComp
import HandS.Style
import KE.DatumIndex
import PyProof.ReprReads
import KE.KSuper
import HandS.Nested
import HandS.Star
import PyProof.DictTable
import HandS.FStr
import HandS.OwnEq
import PyProof.NeKinds
import KE.SortData
import KE.SortLaws
import KE.DataMinMax
import HandS.Text
import PyProof.ReprRoads
import HandS.SetFor
import HandS.GenList
import KE.KDictZip
import HandS.Zip
import PyProof.InstNe
import HandS.Sort
import KE.KDictList
import KE.DataCmp
import HandS.WideBits
import HandS.Set
import HandS.SetKeys
import PyProof.EnumMake
import HandS.Dict
set_option Elab.async false
set_option linter.all false
set_option maxRecDepth 100000
set_option maxHeartbeats 4000000
namespace Hk
open PySem PySem.Spec PyProof.Rows L2 He
abbrev Pa : Type := PySem.W.Frag → Addr
/-- the thing that class x finds under the name m -/
def mp (x m : Str) : Pa := fun K => ma K (ga K x) m
/-- the getter of the property a of class x -/
def gp (x a : Str) : Pa := fun K => match PySem.W.recIn K (ma K (ga K x) a) "property" with
  | some (.ref g :: _) => g
  | _ => 0
/-- the def that super() finds -/
def up (x m : Str) : Pa := fun K => match PySem.W.ks_superIn K (ga K x) (ga K x) m with
  | some (some (.ref g)) => g
  | _ => 0
/-- a def: where it is found, its name, its qualified name, its text, the names of its cells -/
structure Fd where
  at_ : Pa
  name : Str
  qual : Str
  st : Stmt
  clo : List Str := []
abbrev FnT : Type := Option (Str × Str × Arguments × FuncBody × Scope × Addr × List Str × Addr)
def fnT (K : PySem.W.Frag) (a : Addr) : FnT := match K.lookup a with
  | some ⟨_, _, .func fd, _⟩ => some (fd.name, fd.qualname, fd.params, fd.body, fd.scope, fd.globals, fd.closure.map (·.1), fd.builtins)
  | _ => none
def Fd.val (d : Fd) : FnT := some (d.name, d.qual, defArgs d.st, .stmts (defBody d.st), defScope d.st, mainGlobals, d.clo, builtinsNs)
def noneB : Value → Bool
  | .none => true
  | _ => false
def Fd.ok (K : PySem.W.Frag) (d : Fd) : Bool := PySem.W.keepIn K (.ref (d.at_ K)) && (match K.lookup (d.at_ K) with
  | some ⟨_, _, .func fd, _⟩ => PySem.W.codeIn K fd.code d.qual && noneB fd.defaults
  | _ => false)
/-! ### tests -/
abbrev Te : Type := PySem.W.Frag → Bool
def tyB (x : Str) : Te := fun K => eqO (PySem.W.findIn K (.ref (ga K x)) "__class__") (some (some (.builtin "object.__class__"))) && (eqO (PySem.W.specialIn K (.builtin "object.__class__") "__get__") (some (some (.builtin "getset_descriptor.__get__"))) && (decide (PySem.W.takesIn K (.builtin "object.__class__") = some true) && decide (PySem.W.mroIn K (ga K x) (.type "object") = some true)))
def cvB (x a : Str) (v : Dv) : Te := fun K => PySem.W.readsIn K (ga K x) (.type "type") && (eqO (PySem.W.specialIn K (.ref (ga K x)) "__getattribute__") (some (some (.builtin "type.__getattribute__"))) && (match PySem.W.findCls K (.ref (ga K x)) (.type "type") a with
  | some (.val u) => relB (v.v K) u
  | _ => false))
def prB (x a : Str) : Te := fun K => eqO (PySem.W.findIn K (.ref (ga K x)) a) (some (some (.ref (ma K (ga K x) a)))) && (eqO (PySem.W.specialIn K (.ref (ma K (ga K x) a)) "__get__") (some (some (.builtin "property.__get__"))) && (decide (PySem.W.takesIn K (.ref (ma K (ga K x) a)) = some true) && (match PySem.W.recIn K (ma K (ga K x) a) "property" with
  | some (.ref g :: _) => true
  | _ => false)))
def kiB (x y : Str) (b : Bool) : Te := fun K => decide (PySem.W.kitOne K (.ref (ga K x)) (.ref (ga K y)) = some b)
def soB (x : Str) (t : String) (b : Bool) : Te := fun K => decide (PySem.W.kitOne K (.ref (ga K x)) (.type t) = some b)
def exB (x : Str) : Te := fun K => eqO (PySem.W.findIn K (.ref (ga K x)) "__getattribute__") (some (some (.builtin "BaseException.__getattribute__"))) && (eqO (PySem.W.findIn K (.ref (ga K x)) "__getattr__") (some none) && (decide (PySem.W.subIn K (.ref (ga K x)) (.type "BaseException") = some true) && (PySem.W.hasDictIn K (ga K x) && tyB x K)))
def xfB' (x f : Str) : Te := fun K => xfB K (ga K x) && eqO (PySem.W.findIn K (.ref (ga K x)) f) (some none)
/-- a class of exceptions with an __init__ of its own, as an object -/
def oxB (x : Str) : Te := fun K => (match K.lookup (ga K x) with
  | some ⟨.type c, _, .cls cd, sl⟩ => decide (c = "type") && ((match cd.mro with
    | .ref C :: bm => decide (C = ga K x) && PySem.HandSPX.refsVE bm
    | _ => false) && (cd.hasDict && (!cd.hasDel && (match sl.toList with
    | [_, _, _, _, some (.builtin n), _] => decide (n = "ValueError.__new__")
    | _ => false))))
  | _ => false) && (eqO (PySem.W.findIn K (.ref (ga K x)) "__setattr__") (some (some (.builtin "object.__setattr__"))) && (decide (PySem.W.subIn K (.ref (ga K x)) (.type "BaseException") = some true) && (decide (PySem.W.typeIn K (.ref (ga K x)) = some (.type "type")) && PySem.W.keepIn K (.ref (ga K x)))))
/-- its __init__; the class y whose __init__ that one calls -/
def oiB (x y : Str) : Te := fun K => eqO (PySem.W.findIn K (.ref (ga K x)) "__init__") (some (some (.ref (ma K (ga K x) "__init__")))) && (decide (PySem.W.typeIn K (.ref (ma K (ga K x) "__init__")) = some (.type "function")) && (PySem.W.readsIn K (ga K y) (.type "type") && (eqO (PySem.W.specialIn K (.ref (ga K y)) "__getattribute__") (some (some (.builtin "type.__getattribute__"))) && (match PySem.W.findCls K (.ref (ga K y)) (.type "type") "__init__" with
  | some (.val (.builtin n)) => decide (n = "ValueError.__init__")
  | _ => false))))
def spB (fl x m : Str) : Te := fun K => (match K.lookup (ma K (ga K x) m) with
  | some ⟨_, _, .func fd, _⟩ => (match fd.code with
    | .ref cda => (match K.lookup cda with
      | some ⟨_, _, .fields vs, _⟩ => (match (vs[2]? : Option Value) with
        | some (Value.str file _) => fl == file
        | _ => false)
      | _ => false)
    | _ => false) && (match fd.closure with
    | [(_, cc)] => (match K.lookup cc with
      | some ⟨_, _, .cell (some v), _⟩ => decide (v = .ref (ga K x))
      | _ => false)
    | _ => false)
  | _ => false) && ((PySem.W.clsIn K (ga K x)).isSome && ((Fa.meth x m).ok K && (decide (PySem.W.mroIn K (ga K x) (.ref (ga K x)) = some true) && (eqO (PySem.W.ks_superIn K (ga K x) (ga K x) m) (some (some (.ref (up x m K)))) && (decide (PySem.W.typeIn K (.ref (up x m K)) = some (.type "function")) && PySem.W.fnIn K (up x m K))))))
/-! ### the Hook -/
abbrev AlH : Type := Bool × List FnT
def obsB (fn : List Fd) (ex : List (List Te)) (K : PySem.W.Frag) : AlH := ((ex.all fun l => l.all fun f => f K) && fn.all fun d => d.ok K, fn.map fun d => fnT K (d.at_ K))
def valB (fn : List Fd) : AlH := (true, fn.map Fd.val)
/-- what the things at these addresses name -/
def kids (g : Addr → Option Obj) (p : Obj → Bool) (as : List Addr) : List Addr := as.flatMap fun a => match g a with
  | some o => (match p o with
    | true => refsD o
    | false => [])
  | none => []
def isD (o : Obj) : Bool := match o.data with
  | .dict _ _ => true
  | _ => false
def isF (o : Obj) : Bool := match o.data with
  | .func _ => true
  | _ => false
def noD (o : Obj) : Bool := match o.data with
  | .dict _ _ => false
  | .cls _ => false
  | _ => true
/-- the module's names, what these name, what stands in the classes' dicts, what that names, the code of getters -/
def as4 (g : Addr → Option Obj) (l3 : List Addr) (l4 : List Addr) : List Addr := l3 ++ (l4 ++ kids g isF l4)
def as3 (g : Addr → Option Obj) (l2 : List Addr) (l3 : List Addr) : List Addr := l2 ++ as4 g l3 (kids g noD l3)
def as2 (g : Addr → Option Obj) (l1 : List Addr) (l2 : List Addr) : List Addr := l1 ++ as3 g l2 (kids g isD l2)
def as1 (g : Addr → Option Obj) (l1 : List Addr) : List Addr := as2 g l1 (kids g (fun _ => true) l1)
def asB (g : Addr → Option Obj) : List Addr := cStatics :: mainGlobals :: as1 g (kids g (fun _ => true) [mainGlobals])
def obsBG (fn : List Fd) (ex : List (List Te)) (g : Addr → Option Obj) : AlH := obsB fn ex (frG g (asB g))
def hookB (fn : List Fd) (ex : List (List Te)) : PySem.W.Hook where
  α := AlH
  obs := fun s => obsBG fn ex s.heap.get?
  val := fun _ => valB fn
  says := fun _ h => ∃ K : PySem.W.Frag, K.In h ∧ obsB fn ex K = valB fn
  of := fun _ _ e => ⟨_, frG_in, e⟩
  keeps := fun _ _ _ ⟨K, hK, c⟩ k => ⟨K, PySem.W.Frag.In.keeps hK k, c⟩
/-! ### promises by names -/
def Dx (x : Str) (st : Stmt) : Fd := ⟨fun K => ga K x, x, x, st, []⟩
def Dy (x m q : Str) (st : Stmt) : Fd := ⟨mp x m, m, q, st, []⟩
def Dg (x a n q : Str) (st : Stmt) : Fd := ⟨gp x a, n, q, st, []⟩
end Hk
namespace K
open PySem PySem.Spec PyProof.Rows L2
def top (i : Nat) : Stmt := PySem.Challenge.pw_indexlogs_k06_records_taken_back.main.body.getD i (.Pass ⟨0, 0, 0, 0⟩)
abbrev s_is_integer : Stmt := top 25
abbrev s_is_item : Stmt := top 26
abbrev s_are_items : Stmt := top 27
abbrev s_need_items : Stmt := top 28
abbrev s_Record_init : Stmt := inClass (top 29) 2
abbrev s_Record_stands : Stmt := inClass (top 29) 18
abbrev s_Record_has_room : Stmt := inClass (top 29) 19
abbrev s_Record_others : Stmt := inClass (top 29) 20
abbrev s_Record_put_in : Stmt := inClass (top 29) 21
abbrev s_Inserted_can_apply : Stmt := inClass (top 30) 3
abbrev s_Removed_can_apply : Stmt := inClass (top 31) 3
abbrev s_Fronted_can_apply : Stmt := inClass (top 32) 3
abbrev s_Record_can_apply : Stmt := inClass (top 29) 11
abbrev s_Inserted_can_end : Stmt := inClass (top 30) 4
abbrev s_Removed_can_end : Stmt := inClass (top 31) 4
abbrev s_Fronted_can_end : Stmt := inClass (top 32) 4
abbrev s_Record_can_end : Stmt := inClass (top 29) 12
abbrev s_Inserted_after : Stmt := inClass (top 30) 5
abbrev s_Removed_after : Stmt := inClass (top 31) 5
abbrev s_Fronted_after : Stmt := inClass (top 32) 5
abbrev s_Record_after : Stmt := inClass (top 29) 13
abbrev s_Inserted_before : Stmt := inClass (top 30) 6
abbrev s_Removed_before : Stmt := inClass (top 31) 6
abbrev s_Fronted_before : Stmt := inClass (top 32) 6
abbrev s_Record_before : Stmt := inClass (top 29) 14
abbrev s_Record_applies : Stmt := inClass (top 29) 15
abbrev s_Record_applied : Stmt := inClass (top 29) 16
abbrev s_Record_taken_back : Stmt := inClass (top 29) 17
abbrev s_law_source : Stmt := top 37
abbrev s_law_pick : Stmt := top 38
abbrev s_law_shuffled : Stmt := top 39
abbrev s_law_names : Stmt := top 40
abbrev s_law_make : Stmt := top 41
abbrev s_law_class : Stmt := top 42
abbrev s_law_undone : Stmt := top 43
abbrev s_law_shelf : Stmt := top 44
abbrev s_law_case : Stmt := top 45
abbrev s_law_no_shelves : Stmt := top 46
abbrev s_law_told : Stmt := top 47
abbrev s_law_row_right : Stmt := top 48
abbrev s_law : Stmt := top 49
abbrev s_Impossible_init : Stmt := inClass (top 12) 0
abbrev s_Record_item : Stmt := inClass (top 29) 4
abbrev s_Record_slot : Stmt := inClass (top 29) 5
end K
namespace K
open PySem PySem.Spec PyProof.Rows L2
open Hk He
def Ze_fn0 : List Fd := [Dy "Impossible" "__init__" "Impossible.__init__" s_Impossible_init, Dy "Inserted" "__init__" "Record.__init__" s_Record_init, Dg "Inserted" "item" "item" "Record.item" s_Record_item, Dg "Inserted" "slot" "slot" "Record.slot" s_Record_slot, Dy "Inserted" "can_apply" "Inserted.can_apply" s_Inserted_can_apply, Dy "Inserted" "can_end" "Inserted.can_end" s_Inserted_can_end, Dy "Inserted" "after" "Inserted.after" s_Inserted_after, Dy "Inserted" "before" "Inserted.before" s_Inserted_before, Dy "Inserted" "applies" "Record.applies" s_Record_applies, Dy "Inserted" "applied" "Record.applied" s_Record_applied, Dy "Inserted" "taken_back" "Record.taken_back" s_Record_taken_back, Dy "Inserted" "stands" "Record.stands" s_Record_stands, Dy "Inserted" "has_room" "Record.has_room" s_Record_has_room, Dy "Inserted" "others" "Record.others" s_Record_others, Dy "Inserted" "put_in" "Record.put_in" s_Record_put_in, Dy "Removed" "__init__" "Record.__init__" s_Record_init, Dg "Removed" "item" "item" "Record.item" s_Record_item, Dg "Removed" "slot" "slot" "Record.slot" s_Record_slot, Dy "Removed" "can_apply" "Removed.can_apply" s_Removed_can_apply, Dy "Removed" "can_end" "Removed.can_end" s_Removed_can_end, Dy "Removed" "after" "Removed.after" s_Removed_after, Dy "Removed" "before" "Removed.before" s_Removed_before, Dy "Removed" "applies" "Record.applies" s_Record_applies, Dy "Removed" "applied" "Record.applied" s_Record_applied, Dy "Removed" "taken_back" "Record.taken_back" s_Record_taken_back, Dy "Removed" "stands" "Record.stands" s_Record_stands, Dy "Removed" "has_room" "Record.has_room" s_Record_has_room, Dy "Removed" "others" "Record.others" s_Record_others, Dy "Removed" "put_in" "Record.put_in" s_Record_put_in, Dy "Fronted" "__init__" "Record.__init__" s_Record_init]
def Ze_fn1 : List Fd := [Dg "Fronted" "item" "item" "Record.item" s_Record_item, Dg "Fronted" "slot" "slot" "Record.slot" s_Record_slot, Dy "Fronted" "can_apply" "Fronted.can_apply" s_Fronted_can_apply, Dy "Fronted" "can_end" "Fronted.can_end" s_Fronted_can_end, Dy "Fronted" "after" "Fronted.after" s_Fronted_after, Dy "Fronted" "before" "Fronted.before" s_Fronted_before, Dy "Fronted" "applies" "Record.applies" s_Record_applies, Dy "Fronted" "applied" "Record.applied" s_Record_applied, Dy "Fronted" "taken_back" "Record.taken_back" s_Record_taken_back, Dy "Fronted" "stands" "Record.stands" s_Record_stands, Dy "Fronted" "has_room" "Record.has_room" s_Record_has_room, Dy "Fronted" "others" "Record.others" s_Record_others, Dy "Fronted" "put_in" "Record.put_in" s_Record_put_in, Dy "Record" "__init__" "Record.__init__" s_Record_init, Dg "Record" "item" "item" "Record.item" s_Record_item, Dg "Record" "slot" "slot" "Record.slot" s_Record_slot, Dy "Record" "can_apply" "Record.can_apply" s_Record_can_apply, Dy "Record" "can_end" "Record.can_end" s_Record_can_end, Dy "Record" "after" "Record.after" s_Record_after, Dy "Record" "before" "Record.before" s_Record_before, Dy "Record" "applies" "Record.applies" s_Record_applies, Dy "Record" "applied" "Record.applied" s_Record_applied, Dy "Record" "taken_back" "Record.taken_back" s_Record_taken_back, Dy "Record" "stands" "Record.stands" s_Record_stands, Dy "Record" "has_room" "Record.has_room" s_Record_has_room, Dy "Record" "others" "Record.others" s_Record_others, Dy "Record" "put_in" "Record.put_in" s_Record_put_in, Dx "is_integer" s_is_integer, Dx "is_item" s_is_item, Dx "are_items" s_are_items]
def Ze_fn2 : List Fd := [Dx "need_items" s_need_items, Dx "_law_source" s_law_source, Dx "_law_pick" s_law_pick, Dx "_law_shuffled" s_law_shuffled, Dx "_law_names" s_law_names, Dx "_law_make" s_law_make, Dx "_law_class" s_law_class, Dx "_law_undone" s_law_undone, Dx "_law_shelf" s_law_shelf, Dx "_law_case" s_law_case, Dx "_law_no_shelves" s_law_no_shelves, Dx "_law_told" s_law_told, Dx "_law_row_right" s_law_row_right, Dx "law" s_law]
def Ze_fn : List Fd := Ze_fn0 ++ Ze_fn1 ++ Ze_fn2
def Ze_ex0 : List Te := [fun K => (Fa.free "ValueError").ok K, fun K => (Fa.free "abs").ok K, fun K => (Fa.free "all").ok K, fun K => (Fa.free "bool").ok K, fun K => (Fa.free "int").ok K, fun K => (Fa.free "isinstance").ok K, fun K => (Fa.free "len").ok K, fun K => (Fa.free "list").ok K, fun K => (Fa.free "max").ok K, fun K => (Fa.free "min").ok K, fun K => (Fa.free "range").ok K, fun K => (Fa.free "repr").ok K, fun K => (Fa.free "set").ok K, fun K => (Fa.free "str").ok K, fun K => (Fa.free "tuple").ok K, fun K => (Fa.str "LETTERS" "abcdefghijklmnopqrstuvwxyz").ok K, fun K => (Fa.int "MOST_ITEMS" 60).ok K, fun K => (Fa.int "MOST_LETTERS" 8).ok K, fun K => (Fa.glo "Inserted").ok K, fun K => (Fa.glo "Removed").ok K, fun K => (Fa.glo "Fronted").ok K, fun K => (Fa.glo "Record").ok K, fun K => (Fa.glo "LogError").ok K, fun K => (Fa.glo "NoItem").ok K, fun K => (Fa.glo "NoIndex").ok K, fun K => (Fa.glo "NoList").ok K, fun K => (Fa.glo "NoLog").ok K, fun K => (Fa.glo "NoSeen").ok K, fun K => (Fa.glo "NoClients").ok K, fun K => (Fa.glo "NoNumber").ok K]
def Ze_ex1 : List Te := [fun K => (Fa.glo "NoPosition").ok K, fun K => (Fa.glo "Nothing").ok K, fun K => (Fa.glo "Impossible").ok K, fun K => (Fa.glo "TooMany").ok K, fun K => (Fa.glo "NoText").ok K, oxB "Impossible", oiB "Impossible" "LogError", xfB' "Impossible" "reason", fun K => (Fa.exc "NoIndex").ok K, fun K => (Fa.exc "NoItem").ok K, fun K => (Fa.exc "NoList").ok K, fun K => (Fa.cls "Inserted").ok K, tyB "Inserted", fun K => (Fa.mkr "Inserted").ok K, fun K => (Fa.noat "Inserted" "held_item").ok K, fun K => (Fa.noat "Inserted" "held_slot").ok K, fun K => conB K "Inserted" "SIGN" (.str "+"), prB "Inserted" "item", prB "Inserted" "slot", fun K => (Fa.meth "Inserted" "can_apply").ok K, fun K => (Fa.meth "Inserted" "can_end").ok K, fun K => (Fa.meth "Inserted" "after").ok K, fun K => (Fa.meth "Inserted" "before").ok K, fun K => (Fa.meth "Inserted" "applies").ok K, fun K => (Fa.meth "Inserted" "applied").ok K, fun K => (Fa.meth "Inserted" "taken_back").ok K, fun K => (Fa.meth "Inserted" "stands").ok K, fun K => (Fa.meth "Inserted" "has_room").ok K, fun K => (Fa.meth "Inserted" "others").ok K, fun K => (Fa.meth "Inserted" "put_in").ok K]
def Ze_ex2 : List Te := [fun K => (Fa.cls "Removed").ok K, tyB "Removed", fun K => (Fa.mkr "Removed").ok K, fun K => (Fa.noat "Removed" "held_item").ok K, fun K => (Fa.noat "Removed" "held_slot").ok K, fun K => conB K "Removed" "SIGN" (.str "-"), prB "Removed" "item", prB "Removed" "slot", fun K => (Fa.meth "Removed" "can_apply").ok K, fun K => (Fa.meth "Removed" "can_end").ok K, fun K => (Fa.meth "Removed" "after").ok K, fun K => (Fa.meth "Removed" "before").ok K, fun K => (Fa.meth "Removed" "applies").ok K, fun K => (Fa.meth "Removed" "applied").ok K, fun K => (Fa.meth "Removed" "taken_back").ok K, fun K => (Fa.meth "Removed" "stands").ok K, fun K => (Fa.meth "Removed" "has_room").ok K, fun K => (Fa.meth "Removed" "others").ok K, fun K => (Fa.meth "Removed" "put_in").ok K, fun K => (Fa.cls "Fronted").ok K, tyB "Fronted", fun K => (Fa.mkr "Fronted").ok K, fun K => (Fa.noat "Fronted" "held_item").ok K, fun K => (Fa.noat "Fronted" "held_slot").ok K, fun K => conB K "Fronted" "SIGN" (.str "^"), prB "Fronted" "item", prB "Fronted" "slot", fun K => (Fa.meth "Fronted" "can_apply").ok K, fun K => (Fa.meth "Fronted" "can_end").ok K, fun K => (Fa.meth "Fronted" "after").ok K]
def Ze_ex3 : List Te := [fun K => (Fa.meth "Fronted" "before").ok K, fun K => (Fa.meth "Fronted" "applies").ok K, fun K => (Fa.meth "Fronted" "applied").ok K, fun K => (Fa.meth "Fronted" "taken_back").ok K, fun K => (Fa.meth "Fronted" "stands").ok K, fun K => (Fa.meth "Fronted" "has_room").ok K, fun K => (Fa.meth "Fronted" "others").ok K, fun K => (Fa.meth "Fronted" "put_in").ok K, fun K => (Fa.cls "Record").ok K, tyB "Record", fun K => (Fa.mkr "Record").ok K, fun K => (Fa.noat "Record" "held_item").ok K, fun K => (Fa.noat "Record" "held_slot").ok K, fun K => conB K "Record" "SIGN" (.str ""), prB "Record" "item", prB "Record" "slot", fun K => (Fa.meth "Record" "can_apply").ok K, fun K => (Fa.meth "Record" "can_end").ok K, fun K => (Fa.meth "Record" "after").ok K, fun K => (Fa.meth "Record" "before").ok K, fun K => (Fa.meth "Record" "applies").ok K, fun K => (Fa.meth "Record" "applied").ok K, fun K => (Fa.meth "Record" "taken_back").ok K, fun K => (Fa.meth "Record" "stands").ok K, fun K => (Fa.meth "Record" "has_room").ok K, fun K => (Fa.meth "Record" "others").ok K, fun K => (Fa.meth "Record" "put_in").ok K, cvB "Record" "MOST" (.int 60), soB "Inserted" "list" false, soB "Inserted" "str" false]
def Ze_ex4 : List Te := [soB "Removed" "list" false, soB "Removed" "str" false, soB "Fronted" "list" false, soB "Fronted" "str" false, soB "Record" "list" false, soB "Record" "str" false, exB "Impossible", kiB "Impossible" "NoItem" false, kiB "Impossible" "NoIndex" false, kiB "Impossible" "NoList" false, kiB "Impossible" "NoLog" false, kiB "Impossible" "NoSeen" false, kiB "Impossible" "NoClients" false, kiB "Impossible" "NoNumber" false, kiB "Impossible" "NoPosition" false, kiB "Impossible" "Nothing" false, kiB "Impossible" "Impossible" true, kiB "Impossible" "TooMany" false, kiB "Impossible" "NoText" false, soB "Impossible" "ValueError" true, fun K => (Fa.exm "Impossible" "LogError" true).ok K, exB "NoIndex", kiB "NoIndex" "NoItem" false, kiB "NoIndex" "NoIndex" true, kiB "NoIndex" "NoList" false, kiB "NoIndex" "NoLog" false, kiB "NoIndex" "NoSeen" false, kiB "NoIndex" "NoClients" false, kiB "NoIndex" "NoNumber" false, kiB "NoIndex" "NoPosition" false]
def Ze_ex5 : List Te := [kiB "NoIndex" "Nothing" false, kiB "NoIndex" "Impossible" false, kiB "NoIndex" "TooMany" false, kiB "NoIndex" "NoText" false, soB "NoIndex" "ValueError" true, fun K => (Fa.exm "NoIndex" "LogError" true).ok K, exB "NoItem", kiB "NoItem" "NoItem" true, kiB "NoItem" "NoIndex" false, kiB "NoItem" "NoList" false, kiB "NoItem" "NoLog" false, kiB "NoItem" "NoSeen" false, kiB "NoItem" "NoClients" false, kiB "NoItem" "NoNumber" false, kiB "NoItem" "NoPosition" false, kiB "NoItem" "Nothing" false, kiB "NoItem" "Impossible" false, kiB "NoItem" "TooMany" false, kiB "NoItem" "NoText" false, soB "NoItem" "ValueError" true, fun K => (Fa.exm "NoItem" "LogError" true).ok K, exB "NoList", kiB "NoList" "NoItem" false, kiB "NoList" "NoIndex" false, kiB "NoList" "NoList" true, kiB "NoList" "NoLog" false, kiB "NoList" "NoSeen" false, kiB "NoList" "NoClients" false, kiB "NoList" "NoNumber" false, kiB "NoList" "NoPosition" false]
def Ze_ex6 : List Te := [kiB "NoList" "Nothing" false, kiB "NoList" "Impossible" false, kiB "NoList" "TooMany" false, kiB "NoList" "NoText" false, soB "NoList" "ValueError" true, fun K => (Fa.exm "NoList" "LogError" true).ok K, fun K => (Fa.glo "is_integer").ok K, fun K => (Fa.glo "is_item").ok K, fun K => (Fa.glo "are_items").ok K, fun K => (Fa.glo "need_items").ok K, fun K => (Fa.glo "_law_source").ok K, fun K => (Fa.glo "_law_pick").ok K, fun K => (Fa.glo "_law_shuffled").ok K, fun K => (Fa.glo "_law_names").ok K, fun K => (Fa.glo "_law_make").ok K, fun K => (Fa.glo "_law_class").ok K, fun K => (Fa.glo "_law_undone").ok K, fun K => (Fa.glo "_law_shelf").ok K, fun K => (Fa.glo "_law_case").ok K, fun K => (Fa.glo "_law_no_shelves").ok K, fun K => (Fa.glo "_law_told").ok K, fun K => (Fa.glo "_law_row_right").ok K, fun K => (Fa.glo "law").ok K]
def Ze_ex : List (List Te) := [Ze_ex0, Ze_ex1, Ze_ex2, Ze_ex3, Ze_ex4, Ze_ex5, Ze_ex6]
def Ze_nm0 : List Str := ["_wall", "LogError", "NoItem", "NoIndex", "NoList", "NoLog", "NoSeen", "NoClients", "NoNumber", "NoPosition", "Nothing", "Impossible", "TooMany", "NoText", "LETTERS", "DIGITS", "MOST_ITEMS", "MOST_LETTERS", "AT", "INSERTED", "REMOVED", "FRONTED", "SIGNS", "is_integer", "is_item", "are_items", "need_items", "Record", "Inserted", "Removed"]
def Ze_nm1 : List Str := ["Fronted", "is_number", "parts_of", "made", "_law_source", "_law_pick", "_law_shuffled", "_law_names", "_law_make", "_law_class", "_law_undone", "_law_shelf", "_law_case", "_law_no_shelves", "_law_told", "_law_row_right"]
def Ze_names : List Str := Ze_nm0 ++ Ze_nm1
abbrev Ze_RR : PySem.W.OpenRow := PySem.W.OpenLaw.row PySem.Challenge.rw_indexlogs_k06_records_taken_back
abbrev Ze_hk : PySem.W.Hook := hookB Ze_fn Ze_ex
def Ze_ob (s : PySem.W.SharedT) : AlH := obsBG Ze_fn Ze_ex (HandSHeadRun.getT s)
theorem Ze_run (w : World) : HandSHeadRun.RunEq Ze_RR (PySem.W.view Ze_RR.prog [49]) Ze_hk Ze_ob 60000 Ze_names w := by
  intro os
  kernel_rfl
end K
/-! len(set(xs)), xs a list of texts of any length below some thousands -/
namespace U
open PySem PySem.Spec PyProof.Rows L2
/-- the texts of a list, each once -/
def ddS (acc : List Str) (x : Str) : List Str := if acc.any (· == x) = true then acc else acc ++ [x]
def dd (xs : List Str) : List Str := xs.foldl ddS []
theorem ddS_any (acc : List Str) (x k : Str) : (ddS acc x).any (· == k) = (acc.any (· == k) || decide (k = x)) := by
  unfold ddS
  by_cases c : acc.any (· == x) = true
  · rw [if_pos c]
    by_cases q : k = x
    · subst q; rw [c]; simp
    · simp [q]
  · rw [if_neg c, List.any_append]
    by_cases q : k = x
    · subst q; simp
    · have z : (x == k) = false := by
        rw [beq_eq_false_iff_ne]; exact fun e => q e.symm
      simp [z, q]
theorem ddS_len (acc : List Str) (x : Str) : (ddS acc x).length = if acc.any (· == x) = true then acc.length else acc.length + 1 := by
  unfold ddS; split <;> simp
theorem dd_take {xs : List Str} {i : Nat} (h : i < xs.length) : dd (xs.take (i + 1)) = ddS (dd (xs.take i)) (xs.getD i Str.empty) := by
  unfold dd
  have e : xs.take (i + 1) = xs.take i ++ [xs.getD i Str.empty] := by
    rw [List.take_add_one, List.getElem?_eq_getElem h]; simp [List.getD, h]
  rw [e, List.foldl_append]; rfl
theorem dd_le (xs : List Str) : (dd xs).length ≤ xs.length := by
  unfold dd
  suffices h : ∀ (l acc : List Str), (l.foldl ddS acc).length ≤ acc.length + l.length by simpa using h xs []
  intro l
  induction l with
  | nil => intro acc; simp
  | cons x l ih =>
    intro acc
    have h1 := ih (ddS acc x)
    have h2 : (ddS acc x).length ≤ acc.length + 1 := by rw [ddS_len]; split <;> omega
    simp only [List.foldl_cons, List.length_cons]
    omega
section
variable {prog : Program} {w : World} {A : Around} {R : Result → Shared → Prop} {I : Addr} {fp wr : List Addr} {G : Array GenState → Array GenState → Prop} {n : Nat} {P : Nat → Value → Prop} {St : Nat → Shared → Prop}
abbrev HasT (prog : Program) (w : World) (h : Heap) (S : Addr) (l : List Str) : Prop := h.SetOf (PySem.strKind prog w) S (fun k => l.any (· == k)) l.length
theorem HasT.moved {h h' : Heap} {S : Addr} {l : List Str} (x : HasT prog w h S l) (k : ∀ o, h.get? S = some o → h'.get? S = some o) : HasT prog w h' S l := by
  obtain ⟨o, es, ep, t, q, r⟩ := x
  exact ⟨o, es, ep, t, k o q, r⟩
theorem loopT (W : WalksS prog w A.in1 I fp wr G n P St) {S : Addr} (hS : S ∉ fp) {xs : List Str} (hl : xs.length = n) (hb : n + 1 < scanBound) (hv : ∀ i v, P i v → ∃ t, v = .str (xs.getD i Str.empty) t) :
    ∀ (m i : Nat) (s : Shared), m = n - i → i ≤ n → St i s → HasT prog w s.heap S (dd (xs.take i)) →
      (∀ s', Moved (S :: wr) G s s' → HasT prog w s'.heap S (dd xs) → R (.ok (.ret .none)) s') → codeAny (model prog w) A (.builtin "set.update.loop" ⟨[.ref S, .ref I], []⟩) R s := by
  have nw : S ∉ wr := fun z => hS (W.sub _ z)
  have up : ∀ b ∈ wr, b ∈ S :: wr := fun b z => List.mem_cons_of_mem _ z
  intro m
  induction m with
  | zero =>
    intro i s hm hi st x fin
    obtain rfl : i = n := by omega
    refine codeAny_builtin PyProof.Rows.F.entry_set_update_loop ?_
    rw [Around.under_plainId PyProof.Rows.F.plain_set_update_loop _]
    refine (show wpAny _ A.in1 (pyNext (.ref I) >>= _) _ _ s from wpAny_bind (W.done s _ _ st fun s' mv => ?_))
    refine (show wpAny _ A.in1 (ret Value.none) _ _ s' from wpAny_pure (fin s' (mv.mono up) ?_))
    have y := HasT.moved x fun o q => mv.heap S _ nw q
    rwa [← hl, List.take_length] at y
  | succ m ih =>
    intro i s hm hi st x fin
    have lt : i < n := by omega
    refine codeAny_builtin PyProof.Rows.F.entry_set_update_loop ?_
    rw [Around.under_plainId PyProof.Rows.F.plain_set_update_loop _]
    refine (show wpAny _ A.in1 (pyNext (.ref I) >>= _) _ _ s from wpAny_bind (W.item i s _ _ lt st fun v s' pv st' mv => ?_))
    obtain ⟨t, rfl⟩ := hv i v pv
    have y := HasT.moved x fun o q => mv.heap S _ nw q
    refine (show wpAny _ A.in1 (holding [Value.str (xs.getD i Str.empty) t] (setAdd S (.str (xs.getD i Str.empty) t)) >>= _) _ _ s' from wpAny_bind (wpAny_holding ?_))
    unfold setAdd
    refine wpAny_holding (wpAny_bind ((PySem.strKind prog w).pyHash (k := xs.getD i Str.empty) (strKind_is _ _ _ _) ?_))
    have few : (dd (xs.take i)).length + 1 < scanBound := by
      have := dd_le (xs.take i)
      rw [List.length_take] at this
      omega
    refine wpAny_setAddHashed_of (knd := PySem.strKind prog w) (s := { s' with toks := s'.toks + 1 }) (strKind_is _ _ _ _) rfl y few fun h' sb z => ?_
    have z' : HasT prog w h' S (dd (xs.take (i + 1))) := by
      have e := dd_take (xs := xs) (i := i) (by omega)
      exact SetOf_congr z (fun k => by rw [e, ddS_any]) (by rw [e, ddS_len])
    refine wpAny_pure ⟨plainId_quiet PyProof.Rows.F.plain_set_update_loop _, ih (i + 1) _ (by omega) lt (W.frame _ s' _ _ st' (Nat.le_succ _) fun b hb o e => ?_) z' fun s2 mv2 z2 => ?_⟩
    · rw [sb.2 b fun q : b = S => hS (q ▸ hb)]
      exact e
    · refine fin s2 (Moved.trans W.gtrans ((mv.mono up).then_heap (Nat.le_succ _) fun b o hb e => ?_) mv2) z2
      rw [sb.2 b fun q : b = S => hb (q ▸ List.mem_cons_self)]
      exact e
end
section
variable {prog : Program} {w : World} {A : Around} {E : Value → Shared → Prop} {s : Shared}
abbrev nilSet (led : Bool) : Obj := { cls := .type "set", dict := none, data := .set #[] 0 (.fresh 0 0 led) }
set_option maxHeartbeats 6400000 in
theorem set_of_texts {l : Addr} {items : Array Value} {xs : List Str} {Q : Value → Shared → Prop} (calm : A.handled = none) (hl : s.heap.IsList l items) (hi : StrsAre items.toList xs) (hb : xs.length + 1 < scanBound)
    (h : ∀ (h' : Heap) (tk : Nat), HasT prog w h' s.heap.objs.size (dd xs) → (∀ b o, b < s.heap.objs.size → s.heap.get? b = some o → h'.get? b = some o) → Q (.ref s.heap.objs.size) { s with heap := h', toks := tk }) :
    wpAny (model prog w) A (call (.type "set") [.ref l]) Q E s := by
  obtain ⟨c, tl, hmro⟩ := PySem.F.called_set.mro
  have hmade := PySem.F.called_set.made; have hsub := PySem.F.called_set.sub
  refine wpAny_call (codeAny_of_tree (show wpAny _ _ (callAny (.type "set") _) _ _ _ from wpAny_pure ⟨Code.quiet_builtin _ (by decide +kernel), codeAny_builtin PySem.F.entry_type_call ?_⟩))
  rw [Around.under_plain (weight_type_call_type "set" [.ref l] []) rfl]
  have g1 := PySem.F.called_set.notType; have g2 := PySem.F.called_set.canCreate; have g3 := PySem.F.typeCall_set_1 (.ref l)
  repeat (any_goals (first | assumption | wp_step))
  refine codeAny_mono (code_set_new_1 (.ref l) (E := E) (Q₁ := fun obj s₁ => ∃ led : Bool, obj = .ref s.heap.objs.size ∧ s₁ = { s with heap := s.heap.push (nilSet led) }) fun led => ⟨led, rfl, rfl⟩) fun r s₁ hr => ?_
  match r, hr with
  | .error e, hr => exact hr
  | .ok (.ret obj), hr =>
    obtain ⟨led, rfl, rfl⟩ := hr
    have here : (s.heap.push (nilSet led)).get? s.heap.objs.size = some (nilSet led) := Heap.get?_push_size _ rfl
    have ty : Shared.TypeIs { s with heap := s.heap.push (nilSet led) } (.ref s.heap.objs.size) "set" := ⟨_, here, rfl⟩
    have q1 := PySem.F.called_set.init.lookup; have q2 := PySem.F.called_set.init.bind (.ref s.heap.objs.size)
    repeat (any_goals (first | assumption | wp_step))
    refine codeAny_mono (codeAny_call_builtin (R := wants (fun r s₂ => r = .none ∧ ∃ h' tk, s₂ = { s with heap := h', toks := tk } ∧ HasT prog w h' s.heap.objs.size (dd xs) ∧ (∀ b o, b < s.heap.objs.size → s.heap.get? b = some o → h'.get? b = some o)) E)
      PySem.F.called_set.init.plain PySem.F.entry_set_init (check_set_init_1 ty ?_)) fun r₂ s₂ hr₂ => ?_
    · obtain ⟨ol, hol, hcl, nl, hdl⟩ := hl
      obtain ⟨ocls, odict, odata, oslots⟩ := ol
      simp only at hcl hdl
      subst hcl; subst hdl
      have hol' : (s.heap.push (nilSet led)).get? l = some { cls := .type "list", dict := odict, data := .seq items nl, slots := oslots } := Heap.get?_push_of_some _ hol
      have w1 := PySem.F.sub_list_set; have w2 := PySem.F.sub_list_frozenset
      have w3 : (Value.type "list" == Value.type "dict") = false := by decide
      have il : (s.heap.push (nilSet led)).IsList l items := ⟨_, hol', rfl, nl, rfl⟩
      unfold Builtin.«set.__init__» noKeywords Builtin.Frozenset.updateFrom
      generalize hPI : pyIter = PI
      wp_walk
      subst hPI
      refine wpAny_pyIter_list il (wpAny_bind (wpAny_runValue ?_))
      have ll : l < s.heap.objs.size := Heap.lt_size hol
      have c3 : A.in1.in1.in1.handled = none := by simp [calm]
      have ne : l ≠ (s.heap.push (nilSet led)).objs.size := by rw [Heap.size_push]; exact Nat.ne_of_lt (Nat.lt_succ_of_lt ll)
      have nf : s.heap.objs.size ∉ [(s.heap.push (nilSet led)).objs.size, l] := by
        rw [Heap.size_push]
        simp only [List.mem_cons, List.not_mem_nil, or_false, not_or]
        exact ⟨Nat.ne_of_lt (Nat.lt_succ_self _), Nat.ne_of_gt ll⟩
      have sz : xs.length = items.size := by rw [← StrsAre.len_eq hi, Array.length_toList]
      have vl : ∀ (i : Nat) (v : Value), items[i]? = some v → ∃ t, v = .str (xs.getD i Str.empty) t := fun i v hv => SS.strs_at hi i v (by rw [Array.getElem?_toList]; exact hv)
      refine loopT (Walks.list c3 _ l ne items).toS nf sz (by rw [← sz]; exact hb) vl (items.size - 0) 0 _ rfl (Nat.zero_le _) ⟨⟨_, Heap.get?_push_size _ rfl, rfl, rfl⟩, il.push _⟩ ?b0 ?b1
      case b0 =>
        have hget : ((s.heap.push (nilSet led)).push { cls := .type "list_iterator", data := .fields #[.ref l, .int 0 0] }).get? s.heap.objs.size = some (nilSet led) := Heap.get?_push_of_some _ here
        exact SetOf_congr ((setObjOf_fresh (knd := PySem.strKind prog w) led).setOf hget (by unfold scanBound; omega)) (fun _ => rfl) rfl
      case b1 =>
        intro s' mv z
        obtain ⟨h', g', d', tk', os'⟩ := s'
        obtain rfl : g' = s.gens := mv.gens
        obtain rfl : d' = s.drawn := mv.drawn
        obtain rfl : os' = s.os := mv.os
        refine (show wpAny _ _ _ _ _ _ from wpAny_pure (show wpAny _ _ (ret Value.none) _ _ _ from wpAny_pure ⟨rfl, h', tk', rfl, z, fun b o hb e => ?_⟩))
        refine mv.heap b o ?_ (Heap.get?_push_of_some _ (Heap.get?_push_of_some _ e))
        rw [Heap.size_push]
        simp only [List.mem_cons, List.not_mem_nil, or_false, not_or]
        exact ⟨Nat.ne_of_lt hb, Nat.ne_of_lt (Nat.lt_succ_of_lt hb)⟩
    · match r₂, hr₂ with
      | .error e, hr₂ => exact hr₂
      | .ok (.ret r), hr₂ =>
        obtain ⟨rfl, h', tk, rfl, z, k⟩ := hr₂
        repeat (any_goals (first | assumption | wp_step))
        exact h _ _ z k
end
section
variable {X : Cx}
/-- len(set(xs)): how many different texts -/
def tLenSetT (K : PySem.W.Frag) (ta : TE) : TE := fun σ H Q => ta σ H fun x H1 => ∃ l, ∃ xs : List Str, x = .ref l ∧ SqL K H1 l (xs.map V.str) ∧ xs.length ≤ 1000 ∧ Q (.int (dd xs).length) H1
theorem pe_lenSetT {a : Expr} {ta : TE} {p p2 q pos : Pos} (hg : Gl X "len") (hm : X.mg "len" = none) (hg2 : Gl X "set") (hm2 : X.mg "set" = none) (ha : PE X a ta) (hc : X.calm = true := by rfl)
    (na : starEach [a] X.env = (false, eval a X.env) :: starEach [] X.env := by rfl) : PE X (.Call (.Name "len" p) [.Call (.Name "set" p2) [a] [] q] [] pos) (tLenSetT X.K ta) := by
  refine ⟨fun pins s σ H Q I h => Call_ (ld_blt I hg hm boot_len (PyProof.Rows.callWith_builtin1 (PyProof.Rows.args_cons ?_ rfl) rfl rfl))⟩
  refine Call_ (ld_blt I hg2 hm2 boot_set (PyProof.Rows.callWith_type1 (PyProof.Rows.args_cons (thn (ha.run pins s σ H _ I h) fun v s1 ⟨x, H1, I1, r1, q1⟩ => PyProof.Rows.args_nil ?_) na) na rfl))
  obtain ⟨l, xs, rfl, hq, few, q1⟩ := q1
  cases r1
  obtain ⟨its, r, pl, hz⟩ := I1.list hq
  refine set_of_texts (I1.ok.hd hc) pl.isList (by simpa using strsAre_of r) (by unfold scanBound; omega) fun h' tk x k => PyProof.Rows.args_nil ?_
  obtain ⟨o, es, ep, t, ho, hex, hd, _, _, _, hf, hn⟩ := x
  have I2 : Inv X pins σ H1 { s1 with heap := h', toks := tk } := I1.kept fun b o e => k b o (Heap.lt_size e) e
  have dl := dd_le xs
  exact call_len_set ho hex hd hf (by rw [hn] <;> omega) ⟨.int (dd xs).length, H1, I2.tok _, ⟨_, by rw [hn]⟩, q1⟩
end
end U
/-! promises of defs that are called where nothing is being shown (no guard stands): repr of data may be asked within -/
namespace U
open PySem PySem.Spec PyProof.Rows L2
/-- no repr is under way; asked of the levels from 20 on alone -/
abbrev Quiet (k : Nat) (B : Around) : Prop := 20 ≤ k → B.guards = some []
theorem Quiet.le {j k : Nat} {B : Around} (q : Quiet j B) (h : k ≤ j) : Quiet k B := fun z => q (Nat.le_trans z h)
structure FnG (P : Program) (w : World) (K : PySem.W.Frag) (mg : Str → Option Value) (base : Heap) (k : Nat) (f : Addr) (fd : FuncData) (ps : List Str) (sp : Sp) : Prop where
  len : ∀ vs H Q E, sp vs H Q E → vs.length = ps.length
  run : ∀ (B : Around) (outs : List Env) (t : Shared) (H : Hp) (gv : Args) (us : List Value) (vs : List V) (Q : VK) (E : XK), Room k B → Quiet k B → Env0 P w K mg base B outs t H →
    BindsTo t fd gv (ps.zip us) → Vals vs us → sp vs H Q E → codeAny (model P w) B (.call (.ref f) gv) (CR (L2.CX P w) outs P w H t Q E) t
section
variable {P : Program} {w : World} {K : PySem.W.Frag} {mg : Str → Option Value} {base : Heap}
theorem FnG.of {k : Nat} {f : Addr} {fd : FuncData} {ps : List Str} {sp : Sp} (F : FnOk P w K mg base (L2.CX P w) k f fd ps sp) : FnG P w K mg base k f fd ps sp :=
  ⟨F.len, fun B outs t H gv us vs Q E r _ => F.run B outs t H gv us vs Q E r⟩
/-- a def by its body, read where no repr is under way -/
theorem fnG_body {k : Nat} {f : Addr} {nm ql : Str} {pr : Arguments} {bd : List Stmt} {sc : Scope} {dV kV doc pm cdv ct oc : Value} {an od : Option Addr} {osl : Array (Option Value)} {N ps : List Str} {sp : Sp}
    (at_ : K.lookup f = some ⟨oc, od, .func (PySem.W.fnOf nm ql pr bd sc dV kV doc pm an cdv ct), osl⟩) (cd : PySem.W.codeIn K cdv ql = true) (S : FnScope N ps sc) (ln : ∀ vs H Q E, sp vs H Q E → vs.length = ps.length)
    (body : ∀ (B : Around) (outs : List Env) (t : Shared) (H : Hp) (vs : List V) (Q : VK) (E : XK), Room k (B.deeper (envOfC ql sc t.heap.objs.size f cdv)) → Quiet k (B.deeper (envOfC ql sc t.heap.objs.size f cdv)) → sp vs H Q E →
      ∃ T, PSs (cxOf (L2.CX P w) P w K mg base N ql sc f cdv B outs t H E) bd T ∧ T { nx := fun _ G => Q .non G, rt := Q } (start N vs) H) :
    FnG P w K mg base (k + 1) f (PySem.W.fnOf nm ql pr bd sc dV kV doc pm an cdv ct) ps sp where
  len := ln
  run := fun B outs t H gv us vs Q E rm qt e0 bi rv want => by
    have kin : K.In t.heap := e0.mod.kin.keeps fun b o z => (e0.bs b o z).1
    have unl : t.heap.NoLimit := e0.mod.nolimit.keeps fun b o z => (e0.bs b o z).1
    have kinds : ∀ z ∈ ps.zip us, sc.names.lookup z.1 = some .local ∨ (sc.names.lookup z.1 = some .cell ∧ ((cellsFrom (t.heap.objs.size + 1) sc.names []).lookup z.1).isSome = true) := fun z hz =>
      (S.par z.1 (List.of_mem_zip (a := z.1) (b := z.2) hz).1).imp id fun c => ⟨c, PySem.W.cellsFrom_some _ _ _ (.inl c)⟩
    refine codeAny_call_function rm.depth (kin _ _ at_) rfl S.co S.gen rfl (PySem.W.codeRec_of kin cd) (bi _ _ _ _ (wpAny_newFunctionEnv_cells S.kind kinds ?_))
    intro env ee t1 ic
    cases ee
    refine ⟨unl.keeps ic.toInCall.keep, codeAny_func ?_⟩
    obtain ⟨T, d, hT⟩ := body B outs t H vs Q E (rm.deeper _) (fun z => qt (Nat.le_succ_of_le z)) want
    refine wpAny_mono (d.run [] t1 (start N vs) H _ (inv_start S rm.hd e0 (ln _ _ _ _ want) rv ic) hT) (fun fl t2 z => ?_) fun _ _ z => z
    match fl, z with
    | .ret u, ⟨v, _, G, J, ru, q⟩ => exact ⟨v, G, J.os, J.bare, J.base, J.hok, ru, q⟩
    | .next, ⟨_, G, J, q⟩ => exact ⟨V.non, G, J.os, J.bare, J.base, J.hok, rfl, q⟩
    | .brk, ⟨_, _, _, q⟩ => exact q.elim
    | .cont, ⟨_, _, _, q⟩ => exact q.elim
end
section
variable {X : Cx} {k : Nat} {f C : Addr} {fd : FuncData} {ps : List Str} {sp : Sp} {dvs : List V} {ds : List Value} {E : XK}
def Back (X : Cx) (pins : List (Addr × Obj)) (σ : L2.St) (Q : VK) : Result → Shared → Prop
  | .ok (.ret u), t => EP X pins σ Q u t
  | .ok _, _ => False
  | .error e, t => X.xe e t
theorem back_of {pins : List (Addr × Obj)} {σ : L2.St} {H : Hp} {s s' : Shared} {Q : VK} {r : Result} (I : Inv X pins σ H s) (hx : PassesAt (L2.CX X.prog X.w) X σ E) (h : CR (L2.CX X.prog X.w) X.stack X.prog X.w H s Q E r s') :
    Back X pins σ Q r s' := by
  match r, h with
  | .error e, h => exact hx pins H s e s' I h
  | .ok (.ret u), h => exact I.after h
  | .ok .next, h => exact h
  | .ok .brk, h => exact h
  | .ok .cont, h => exact h
theorem run_g {pins : List (Addr × Obj)} {σ : L2.St} {H : Hp} {s : Shared} {Q : VK} {us ws : List Value} {kw : List (Str × Value)} {vs : List V} (F : FnG X.prog X.w X.K X.mg X.base k f fd ps sp) (rm : Room k X.A) (qt : Quiet k X.A) (hx : PassesAt (L2.CX X.prog X.w) X σ E)
    (I : Inv X pins σ H s) (b : BindsTo s fd ⟨us, kw⟩ (ps.zip ws)) (r : Vals vs ws) (h : sp vs H Q E) : wpAny (model X.prog X.w) X.A (call (.ref f) us kw) (EP X pins σ Q) X.xe s := by
  refine wpAny_call (codeAny_mono (F.run X.A X.stack s H _ ws vs Q E rm qt I.env0 b r h) fun r t z => ?_)
  have y := back_of I hx z
  clear z
  match r, y with
  | .error _, y => exact y
  | .ok (.ret _), y => exact y
theorem run_gb {pins : List (Addr × Obj)} {σ : L2.St} {H : Hp} {s : Shared} {Q : VK} {us : List Value} {vs : List V} (F : FnG X.prog X.w X.K X.mg X.base k f fd ps sp) (rm : Room k X.A) (qt : Quiet k X.A) (hb : Binds X.K fd ps ds) (hd : Vals dvs ds) (hx : PassesAt (L2.CX X.prog X.w) X σ E)
    (I : Inv X pins σ H s) (r : Vals vs us) (h : sp (vs ++ dvs) H Q E) : wpAny (model X.prog X.w) X.A (call (.ref f) us) (EP X pins σ Q) X.xe s := by
  have r2 := r.append hd
  exact run_g F rm qt hx I (hb s us I.kIn (r2.length.symm.trans (F.len _ _ _ _ h))) r2 h
theorem quiet_make {k : Nat} {B : Around} (q : Quiet (k + 1) B) (C : Addr) (us : List Value) (kw : List (Str × Value)) : Quiet k (B.under (.builtin "type.__call__" ⟨.ref C :: us, kw⟩)) := fun z => by
  have q : B.guards = some [] := q (Nat.le_succ_of_le z)
  first | exact q | (simpa [Around.under, Code.guards, Code.isGuard, pushGuards] using q)
theorem run_mkG {pins : List (Addr × Obj)} {σ : L2.St} {H : Hp} {s : Shared} {Q : VK} {us : List Value} {vs : List V} (M : Mk X.K C f) (F : FnG X.prog X.w X.K X.mg X.base k f fd ps sp) (rm : Room (k + 1) X.A) (qt : Quiet (k + 1) X.A) (hb : Binds X.K fd ps []) (hx : PassesAt (L2.CX X.prog X.w) X σ E)
    (I : Inv X pins σ H s) (r : Vals vs us) (h : ∀ p dx, H p = none → H dx = none → dx ≠ p → sp (.ref p :: vs) (upd (upd H dx (.own p)) p (.ins C dx [])) (fun v G => v = .non ∧ Q (.ref p) G) E) :
    wpAny (model X.prog X.w) X.A (call (.ref C) us) (EP X pins σ Q) X.xe s := by
  have J := Inv.made (C := C) I
  have want := h _ _ (I.hok.fresh (Nat.le_succ _)) (I.hok.fresh (Nat.le_refl _)) (Nat.ne_of_lt (Nat.lt_succ_self _))
  have r2 : Vals (V.ref (s.heap.objs.size + 1) :: vs) (Value.ref (s.heap.objs.size + 1) :: us) := .cons rfl r
  have bi := hb { s with heap := (s.heap.push PySem.W.emptyDict).push (PySem.W.instObj C s.heap.objs.size) } (Value.ref (s.heap.objs.size + 1) :: us) J.kIn (by rw [List.append_nil, ← r2.length]; exact F.len _ _ _ _ want)
  rw [List.append_nil] at bi
  refine wpAny_call (make_map (f := f) I.kIn M.makes M.init (beq_iff_eq.mp M.fn) (codeAny_mono (F.run _ X.stack _ _ _ _ _ _ E (rm.make C us []) (quiet_make qt C us []) (J.env0.make C us []) bi r2 want) fun r t z => ?_))
  have y := back_of J hx z
  clear z
  match r, y with
  | .error _, y => exact y
  | .ok (.ret u), y =>
    obtain ⟨v, G, J2, ru, ev, q⟩ := y
    subst ev
    exact ⟨ru, V.ref (s.heap.objs.size + 1), G, J2, rfl, q⟩
end
/-- the head: the law's def is called where no repr is under way -/
theorem law_callG {P : Program} {w : World} {K : PySem.W.Frag} {mg mb : Str → Option Value} {k : Nat} {fa a : Addr} {fd : FuncData} {x : Str} {sp : Sp} {t : Shared} {vs : List Value} {ns : List Int}
    (kin : K.In t.heap) (gN : t.heap.Ns mainGlobals mg) (bN : t.heap.Ns builtinsNs mb) (bB : ∀ x : Str, x ≠ "__name__" → mb x = bootBuiltins x) (nl : t.heap.NoLimit) (gz : t.gens = #[])
    (ob : t.heap.get? a = some { cls := .type "list", data := .seq vs.toArray }) (inz : IntsAre vs ns) (fits : ns.length ≤ sizeLine) (rm : Room k callerA)
    (F : ∀ base : Heap, K.In base → base.Ns mainGlobals mg → FnG P w K mg base k fa fd [x] sp) (bi : ∀ (s : Shared) (u : Value), BindsTo s fd ⟨[u], []⟩ [(x, u)])
    (want : ∀ H : Hp, SqL K H a (ns.map V.int) → sp [.ref a] H (fun v _ => v = .bl true) fun _ _ _ => False) :
    codeAny (model P w) callerA (.call (.ref fa) ⟨[.ref a], []⟩) (fun r s' => r = .ok (.ret (.bool true)) ∧ OldK t.heap s'.heap ∧ s'.os = t.os ∧ AllBare s'.gens) t := by
  have vals := vals_ints inz
  have len := inz.length
  suffices go : ∀ H : Hp, (∀ b u, H b = some u → b = a ∧ K.lookup a = none ∧ u = .frz { cls := .type "list", data := .seq vs.toArray } (.lst (ns.map V.int))) → SqL K H a (ns.map V.int) → HOk P w H t.heap →
      codeAny (model P w) callerA (.call (.ref fa) ⟨[.ref a], []⟩) (fun r s' => r = .ok (.ret (.bool true)) ∧ OldK t.heap s'.heap ∧ s'.os = t.os ∧ AllBare s'.gens) t by
    cases lk : K.lookup a with
    | some o =>
      have z := kin a o lk
      rw [ob] at z
      cases z
      exact go (fun _ => none) (fun b u z => nomatch z) (.inr ⟨_, vs.toArray, _, lk, rfl, rfl, rfl, by rw [List.size_toArray, len]; exact fits, by simpa using vals⟩) fun b u z => nomatch z
    | none =>
      have at_ : ∀ b u, (if b = a then some (HO.frz { cls := .type "list", data := .seq vs.toArray } (.lst (ns.map V.int))) else none) = some u → b = a ∧ u = .frz { cls := .type "list", data := .seq vs.toArray } (.lst (ns.map V.int)) := fun b u z => by
        split at z
        · rename_i e; cases z; exact ⟨e, rfl⟩
        · cases z
      refine go (fun b => if b = a then some (.frz { cls := .type "list", data := .seq vs.toArray } (.lst (ns.map V.int))) else none) (fun b u z => ⟨(at_ b u z).1, lk, (at_ b u z).2⟩) (.inl (.inr ⟨_, if_pos rfl⟩)) fun b u z => ?_
      obtain ⟨rfl, rfl⟩ := at_ b u z
      exact ⟨ob, by rw [List.length_map]; exact fits, vs, _, vals, ob⟩
  intro H only sq hok
  have free : ∀ {b : Addr} {o : Obj}, t.heap.get? b = some o → o.data ≠ .seq vs.toArray → H b = none := fun {b o} z ne => by
    cases e : H b with
    | none => rfl
    | some u => obtain ⟨rfl, _⟩ := only b u e; rw [ob] at z; cases z; exact absurd rfl ne
  have names : ∀ {b : Addr} {m : Str → Option Value}, t.heap.Ns b m → (hidT t.heap H).Ns b m := fun {b m} ⟨o, es, ep, z, d, r⟩ => ⟨o, es, ep, hidT_get z (free z (by rw [d]; exact fun z => nomatch z)), d, r⟩
  have kin2 : K.In (hidT t.heap H) := fun b o z => hidT_get (kin b o z) (by
    cases e : H b with
    | none => rfl
    | some u => obtain ⟨rfl, z2, _⟩ := only b u e; rw [z2] at z; cases z)
  have md : Mod K mg (hidT t.heap H) := ⟨kin2, names gN, ⟨mb, names bN, bB⟩, let ⟨mc, z1, z2⟩ := nl; ⟨mc, names z1, z2⟩⟩
  have e0 : Env0 P w K mg (hidT t.heap H) callerA [] t H := ⟨rfl, md, fun b o z => of_hidT z, Nat.le_of_eq (hidT_size _ _), trivial, fun b z => absurd (show b ∈ ([] : List Addr) from z) (by simp), hok, .of_eq gz⟩
  refine codeAny_mono ((F _ kin2 (names gN)).run callerA [] t H ⟨[.ref a], []⟩ [.ref a] [.ref a] _ _ rm (fun _ => rfl) e0 (bi t (.ref a)) (.cons rfl .nil) (want H sq)) fun r s' z => ?_
  match r, z with
  | .error e, z => obtain ⟨_, _, _, _, _, _, _, _, _, _, _, _, z⟩ := z; exact z.elim
  | .ok (.ret u), ⟨v, G, os, bare, un, hok', ru, q⟩ =>
    have q : v = .bl true := q
    subst q
    obtain rfl : u = Value.bool true := ru
    refine ⟨rfl, OldK.of_keep fun b o z => ?_, os, bare⟩
    cases e : H b with
    | none => exact un.keep b o z e (by intro y; exact absurd (show b ∈ ([] : List Addr) from y) (by simp)) (by simp)
    | some u =>
      obtain ⟨rfl, _, rfl⟩ := only b u e
      obtain ⟨z2, _⟩ := hok' _ _ (un.frzs _ _ _ e)
      rw [ob] at z
      cases z
      exact z2
end U
/-! exceptions that were caught, as values: they are tracked in the abstract heap -/
namespace U
open PySem PySem.Spec PyProof.Rows L2
/-- at a: an exception of the class cls that was caught; d: its dict -/
def exV (cls : Value) (d : Option Addr) (a : Addr) : HO := .ext fun h => ∃ (oe : Obj) (vs : Array Value), h.get? a = some oe ∧ Zc cls d oe ∧ oe.data = .fields vs
theorem exV_ok {P : Program} {w : World} {H : Hp} {h : Heap} {a : Addr} {cls : Value} {d : Option Addr} {oe : Obj} {vs : Array Value} (e : h.get? a = some oe) (z : Zc cls d oe) (q : oe.data = .fields vs) : ObjOk P w H h a (exV cls d a) :=
  ⟨⟨oe, vs, e, z, q⟩, ⟨oe, e⟩, fun _ _ ⟨o, v, i, j⟩ k => ⟨o, v, k o i, j⟩⟩
theorem exV_at {P : Program} {w : World} {H : Hp} {h : Heap} {a : Addr} {cls : Value} {d : Option Addr} (x : HOk P w H h) (e : H a = some (exV cls d a)) : ∃ (oe : Obj) (vs : Array Value), h.get? a = some oe ∧ Zc cls d oe ∧ oe.data = .fields vs := by
  have y : ObjOk P w H h a (.ext fun h => ∃ (oe : Obj) (vs : Array Value), h.get? a = some oe ∧ Zc cls d oe ∧ oe.data = .fields vs) := x a _ e
  exact y.1
/-! ### isinstance -/
section
open PySem.W PySem.Calls
variable {prog : Program} {w : World} {Ar : Around} {Ex : Value → Shared → Prop} {sh : Shared} {K : Frag} {x Dc : Addr} {ob : Obj} {od : Option Obj}
theorem fo_data {name : Str} {g a : Value} (h1 : (clsIn K Dc).isSome = true) (h2 : findIn K (.ref Dc) name = some (some a)) (h3 : specialIn K a "__get__" = some (some g)) (h4 : takesIn K a = some true) : findObj K Dc od name = some (.bind g a) := by
  obtain ⟨cd, h1⟩ := Option.isSome_iff_exists.mp h1
  unfold findObj; rw [h1, Option.bind_some, h2, Option.bind_some]
  simp [h3, h4]
theorem cls_of_exc {Qo : Option Value → Shared → Prop} (C : ExcC K Dc) (ki : K.In sh.heap) (I : InstAt sh.heap x ob Dc od) (fin : Qo (some (.ref Dc)) { sh with toks := sh.toks + 1 }) : wpAny (model prog w) Ar (getAttr? (.ref x) "__class__") Qo Ex sh := by
  have f0 : findObj K Dc od "__class__" = some (.bind (.builtin "getset_descriptor.__get__") (.builtin "object.__class__")) := fo_data (by obtain ⟨c0, e0, _⟩ := any_some C.hd; rw [e0]; rfl) C.ha C.hn C.ht
  obtain ⟨hp, gn, dr, tk, so⟩ := sh
  have T0 := I.type (M := model prog w)
  have T1 := looks_findIn (M := model prog w) ki C.hg
  have T2 := looks_findIn (M := model prog w) ki C.hk
  have T3 := looks_find (M := model prog w) ki I f0
  have su : Looks (model prog w) hp (isInstance (.ref x) (.type "BaseException")) true := T0.andThen (looks_subIn ki C.hs)
  have n0 : (false && onTheHeap (Value.builtin "BaseException.__getattribute__")) = false := rfl
  have n1 : (onTheHeap (Value.ref Dc) && Value.builtin "BaseException.__getattribute__" == Value.builtin "object.__getattribute__") = false := by rw [show (Value.builtin "BaseException.__getattribute__" == Value.builtin "object.__getattribute__") = false by decide +kernel]; rfl
  unfold getAttr? getAttrBy? getAttrBy; refine wpAny_bind (wpAny_mkText (wpAny_bind (wpAny_attempt (wpAny_holding (wpAny_bind (T0.at (wpAny_bind (T1.at ?_))))))))
  show wpAny _ _ (if (onTheHeap (Value.ref Dc) && Value.builtin "BaseException.__getattribute__" == Value.builtin "object.__getattribute__") = true then _ else _) _ _ _
  rw [n1, if_neg Bool.false_ne_true]; unfold getAttrByItsOwn hookBefore
  refine wpAny_bind ?_; rw [if_pos (show onTheHeap (Value.ref Dc) = true from rfl)]
  refine T2.at ?_; refine wpAny_bind (wpAny_attempt (wpAny_holding ?_)); unfold callGetattribute
  rw [n0, if_neg Bool.false_ne_true]; unfold boundAndCalled; rw [PySem.F.excAttr_ValueError.ga.bind (.ref x)]; refine wpAny_bind (wpAny_pure ?_)
  show wpAny _ _ (call (.builtin "BaseException.__getattribute__") [.ref x, .str "__class__" tk]) _ _ _
  refine wpAny_call (codeAny_call_builtin PySem.F.excAttr_ValueError.ga.plain PySem.F.entry_bexc_ga (@check_slot (model prog w) _ _ ⟨hp, gn, dr, tk + 1, so⟩ "BaseException.__getattribute__" "BaseException" "__getattribute__" (.ref x) [.str "__class__" tk] [] _ (by decide +kernel) (by decide +kernel) su (PySem.F.args_bexc_ga (.ref x) (.str "__class__" tk)) ?_))
  unfold Builtin.«object.__getattribute__»; refine wpAny_bind (wpAny_of_eq (a := ((Value.ref x : Value), [Value.str "__class__" tk])) (by first | rfl | (simp only [slotArgs]; rfl)) ?_)
  refine wpAny_bind (wpAny_pure (wpAny_bind (T0.at (wpAny_bind (T3.at ?_)))))
  show wpAny _ _ (holding [Value.builtin "object.__class__"] (call (.builtin "getset_descriptor.__get__") [.builtin "object.__class__", .ref x, .ref Dc]) >>= ret) _ _ _
  refine wpAny_bind (wpAny_holding (wpAny_call (class_get (s := ⟨hp, gn, dr, tk + 1, so⟩) (ox := ob) (od := od) ki I C.hm (wpAny_pure ?_))))
  show wpAny _ _ (handedOut (.ref Dc)) _ _ _
  rw [handedOut_of (v := .ref Dc) rfl]
  first | exact wpAny_pure (wpAny_pure fin) | exact wpAny_pure fin | exact wpAny_pure (wpAny_bind (wpAny_pure (wpAny_pure fin)))
theorem kitx_exc (C : ExcC K Dc) : KitX K (.ref x) (.ref Dc) (fun h => InstAt h x ob Dc od) where
  ty := fun _ _ _ I => I.type
  it := fun _ _ ki _ => by
    obtain ⟨c0, e0, _⟩ := any_some C.hd
    unfold clsIn at e0
    split at e0
    · rename_i c1 d1 c2 s1 lo
      intro A1 Q1 E1 s2 kp fin
      unfold isType loadHead; exact wpAny_bind (wpAny_loadPart (kp _ _ (ki _ _ lo)) (wpAny_pure fin))
    · cases e0
  ne := fun h tp dd its n sl ki at_ => by
    obtain ⟨c0, e0, _⟩ := any_some C.hd
    refine Bool.eq_false_iff.mpr fun z => ?_
    obtain rfl : Dc = tp := Value.ref.inj (beq_iff_eq.mp z)
    unfold clsIn at e0
    split at e0
    · rename_i c1 d1 c2 s1 lo
      have z2 := (ki _ _ lo).symm.trans at_; cases z2
    · cases e0
  ca := fun ki I k => cls_of_exc C ki I k
end
/-- the type of a value, of a caught exception too -/
inductive TyZ (K : PySem.W.Frag) (H : Hp) : V → Value → Prop where
  | x {v : V} {t : Value} (h : TyX K H v t) : TyZ K H v t
  | exc0 {a D : Addr} (h : H a = some (exV (.ref D) none a)) (C : ExcC K D) : TyZ K H (.ref a) (.ref D)
  | exc1 {a D dd : Addr} {fs : List (Str × V)} (h : H a = some (exV (.ref D) (some dd) a)) (hd : H dd = some (.xd fs)) (C : ExcC K D) : TyZ K H (.ref a) (.ref D)
section
variable {X : Cx} {pins : List (Addr × Obj)} {σ : L2.St} {H : Hp} {s : Shared}
theorem inst0 {a D : Addr} (I : Inv X pins σ H s) (h : H a = some (exV (.ref D) none a)) : ∃ oe, PySem.W.InstAt s.heap a oe D none := by
  obtain ⟨oe, vs, e, z, q⟩ := exV_at I.hok h
  exact ⟨oe, e, z.1, by unfold PySem.W.notCls; rw [q] <;> rfl, by rw [z.2]; trivial⟩
theorem inst1 {a D dd : Addr} {fs : List (Str × V)} (I : Inv X pins σ H s) (h : H a = some (exV (.ref D) (some dd) a)) (hd : H dd = some (.xd fs)) : ∃ (oe od : Obj) (mA : Str → Option Value), PySem.W.InstAt s.heap a oe D (some od) ∧ (∀ f, RelO (fs.lookup f) (mA f)) ∧ ∀ n, PySem.W.lookIn n od = some (mA n) := by
  obtain ⟨oe, vs, e, z, q⟩ := exV_at I.hok h
  have hx : ObjOk X.prog X.w H s.heap dd (.xd fs) := I.hok dd _ hd
  obtain ⟨mA, hns, hr⟩ := hx
  obtain ⟨od, ho, hl⟩ := lookIn_ns hns
  exact ⟨oe, od, mA, ⟨e, z.1, by unfold PySem.W.notCls; rw [q] <;> rfl, by rw [z.2]; exact ho⟩, hr, hl⟩
theorem kit_ofZ {x : V} {u t : Value} (I : Inv X pins σ H s) (rx : RelV x u) (ty : TyZ X.K H x t) : ∃ P : Heap → Prop, PySem.W.KitX X.K u t P ∧ P s.heap ∧ u ≠ .builtin "__main__.__loader__#opaque" := by
  cases ty with
  | x h => exact kit_of I rx h
  | exc0 h C =>
    obtain ⟨oe, J⟩ := inst0 I h
    cases rx
    exact ⟨_, kitx_exc C, J, fun z => nomatch z⟩
  | exc1 h hd C =>
    obtain ⟨oe, od, mA, J, _⟩ := inst1 I h hd
    cases rx
    exact ⟨_, kitx_exc C, J, fun z => nomatch z⟩
/-- isinstance(x, c) and isinstance(x, (c, ..)) -/
def Isi (K : PySem.W.Frag) (H : Hp) (x c : V) (b : Bool) : Prop := (∃ (t u : Value), ClsV c u ∧ TyZ K H x t ∧ PySem.W.kitOne K t u = some b) ∨ ∃ (t : Value) (tp : Addr) (cs : List V) (us : List Value), c = .ref tp ∧ SqT K H tp cs ∧ Paired ClsV cs us ∧ TyZ K H x t ∧ PySem.W.kitAny K t us = some b
def cIsi (K : PySem.W.Frag) : List V → Hp → VK → Prop := fun xs H Q => match xs with
  | [x, c] => ∃ b, Isi K H x c b ∧ Q (.bl b) H
  | _ => False
theorem call_cIsi : CallR X (.builtin "isinstance") (cIsi X.K) := by
  intro pins s σ H xs us Q I r h
  match xs, r, h with
  | [x, c], r, h =>
    obtain ⟨b, h, q⟩ := h
    obtain ⟨u1, u2, rfl, r1, r2⟩ := vals2 r
    rcases h with ⟨t, u, k, ty, e⟩ | ⟨t, tp, cs, ws, rfl, hT, k, ty, e⟩
    · obtain rfl := k.eq r2
      obtain ⟨P, Z, p, hx⟩ := kit_ofZ I r1 ty
      exact PySem.W.kia_one Z I.kIn p e hx fun tk => ⟨.bl b, H, I.tok tk, rfl, q⟩
    · cases (show u2 = Value.ref tp from r2)
      obtain ⟨P, Z, p, hx⟩ := kit_ofZ I r1 ty
      have fin : ∀ {o : Obj} {its : Array Value} {n : Nat}, s.heap.get? tp = some o → o.cls = .type "tuple" → o.data = .seq its n → Vals cs its.toList → wpAny (model X.prog X.w) X.A (PySem.call (.builtin "isinstance") [u1, .ref tp]) (EP X pins σ Q) X.xe s := by
        intro o its n g1 g2 g3 rv
        have e3 := ClsV.all k rv
        obtain ⟨oc, od, dt, sl⟩ := o
        simp only at g2 g3
        subst g2 g3
        have e4 : its = ws.toArray := by rw [← e3]
        subst e4
        exact PySem.W.kia_tup Z I.kIn p g1 e hx fun tk => ⟨.bl b, H, I.tok tk, rfl, q⟩
      rcases hT with r | ⟨o, its, n, g1, g2, g3, _, rv⟩
      · obtain ⟨_, its, rv, o, g1, g2, n, g3⟩ := r.ok I.hok
        exact fin g1 g2 g3 rv
      · exact fin (I.kIn _ _ g1) g2 g3 rv
end
end U
/-! rules by the construct alone: what is asked is found by the values -/
namespace U
open PySem PySem.Spec PyProof.Rows L2 ClX
/-! ### defs, classes, methods as they may be called; what they may raise goes to E -/
structure Fn (P : Program) (w : World) (K : PySem.W.Frag) (mg : Str → Option Value) (base : Heap) (k : Nat) (x : Str) (sp : Sp) : Prop where
  ex : ∃ (f : Addr) (fd : FuncData) (ps : List Str) (ds : List Value) (dvs : List V) (sp' : Sp), FnG P w K mg base k f fd ps sp' ∧ mg x = some (.ref f) ∧ PySem.W.keepIn K (.ref f) = true ∧ Binds K fd ps ds ∧ Vals dvs ds ∧ ∀ vs H Q E, sp vs H Q E → sp' (vs ++ dvs) H Q E
structure Mkr (P : Program) (w : World) (K : PySem.W.Frag) (mg : Str → Option Value) (base : Heap) (k : Nat) (x : Str) (C : Addr) (sp : Sp) : Prop where
  ex : ∃ (f : Addr) (fd : FuncData) (ps : List Str), Mk K C f ∧ FnG P w K mg base k f fd ps sp ∧ mg x = some (.ref C) ∧ Binds K fd ps []
structure Mth (P : Program) (w : World) (K : PySem.W.Frag) (mg : Str → Option Value) (base : Heap) (k : Nat) (C : Addr) (m : Str) (sp : Sp) : Prop where
  ex : ∃ (f : Addr) (fd : FuncData) (ps : List Str), Cls K C ∧ Meth K C m f ∧ FnG P w K mg base k f fd ps sp ∧ Binds K fd ps []
/-- where a call stands: the level at hand and what becomes of an exception (E); in a comprehension's block E is E0 -/
abbrev XS := L2.St → XK
abbrev E0s : XS := fun _ => E0
structure At (X : Cx) (j : Nat) (E : XS) : Prop where
  hr : Room j X.A
  hx : ∀ σ, PassesAt (L2.CX X.prog X.w) X σ (E σ)
  qt : Quiet j X.A
theorem At.e0 {X : Cx} {j : Nat} (hr : Room j X.A) (qt : Quiet j X.A) : At X j E0s := ⟨hr, fun σ pins H s e s' I c => passL pins σ H s e s' I c, qt⟩
theorem At.of {X : Cx} {j : Nat} {E : XK} (hr : Room j X.A) (qt : Quiet j X.A) (tk : Takes X (fun cls d _ H => E cls d H)) : At X j (fun _ => E) := ⟨hr, fun σ pins H s e s' I c => passes_call tk (fun _ _ _ _ h => h) pins σ H s e s' I c, qt⟩
theorem At.ofW {X : Cx} {j : Nat} {W : WX} (hr : Room j X.A) (qt : Quiet j X.A) (tk : Takes X W) : At X j (WE W) := ⟨hr, fun σ => passAt tk σ, qt⟩
def tFn (P : Program) (w : World) (K : PySem.W.Frag) (mg : Str → Option Value) (base : Heap) (x : Str) (j : Nat) (E : XS) (t : TA) : TE := fun σ H Q => ∃ k sp, Fn P w K mg base k x sp ∧ k ≤ j ∧ t σ H fun vs H1 => sp vs H1 Q (E σ)
def tMkr (P : Program) (w : World) (K : PySem.W.Frag) (mg : Str → Option Value) (base : Heap) (x : Str) (j : Nat) (E : XS) (t : TA) : TE := fun σ H Q => ∃ k C sp, Mkr P w K mg base k x C sp ∧ k + 1 ≤ j ∧ t σ H fun vs H1 =>
  ∀ p dx, H1 p = none → H1 dx = none → dx ≠ p → sp (.ref p :: vs) (upd (upd H1 dx (.own p)) p (.ins C dx [])) (fun v H' => v = .non ∧ Q (.ref p) H') (E σ)
def tMth (P : Program) (w : World) (K : PySem.W.Frag) (mg : Str → Option Value) (base : Heap) (m : Str) (j : Nat) (E : XS) (ta : TE) (t : TA) : TE := fun σ H Q => ta σ H fun x H1 => ∃ a C dx fs k sp, x = .ref a ∧ H1 a = some (.ins C dx fs) ∧ Mth P w K mg base k C m sp ∧ k ≤ j ∧ fs.lookup m = none ∧
  t σ H1 fun vs H2 => sp (.ref a :: vs) H2 Q (E σ)
section
variable {X : Cx} {j : Nat} {E : XS} {x m : Str} {e o : Expr} {es : List Expr} {t : TA} {ta tb te : TE} {p pos apos : Pos}
theorem pe_fn (a : At X j E) (hg : Gl X x) (ha : PA X (e :: es) t)
    (hdb : (x == ("__debug__" : Str)) = false := by decide) (he : starEach (e :: es) X.env = (false, eval e X.env) :: starEach es X.env := by rfl) (hpl : (backTo pos (starEach es X.env)).any (·.1) = false := by rfl) :
    PE X (.Call (.Name x p) (e :: es) [] pos) (tFn X.prog X.w X.K X.mg X.base x j E t) := by
  refine ⟨fun pins s σ H Q I h => ?_⟩
  obtain ⟨k, sp, F, hk, h⟩ := h
  obtain ⟨f, fd, ps, ds, dvs, sp', F, hm, kp, b, rd, im⟩ := F.ex
  refine wpAny_Call_Name_kw (ld_glob I hg hm (PySem.W.callWith_K (h₀ := X.base) I.ok.mod.kin kp (thn (ha.run pos pins s σ H _ I h) fun us s1 ⟨vs, H1, I1, r, q⟩ => ⟨I1.kIn, ?_⟩) he hpl) hdb)
  exact run_gb F (a.hr.mono hk) (a.qt.le hk) b rd (a.hx σ) I1 r (im _ _ _ _ q)
theorem pe_mkr (a : At X j E) (hg : Gl X x) (ha : PA X (e :: es) t)
    (hdb : (x == ("__debug__" : Str)) = false := by decide) (he : starEach (e :: es) X.env = (false, eval e X.env) :: starEach es X.env := by rfl) (hpl : (backTo pos (starEach es X.env)).any (·.1) = false := by rfl) :
    PE X (.Call (.Name x p) (e :: es) [] pos) (tMkr X.prog X.w X.K X.mg X.base x j E t) := by
  refine ⟨fun pins s σ H Q I h => ?_⟩
  obtain ⟨k, C, sp, F, hk, h⟩ := h
  obtain ⟨f, fd, ps, M, F, hm, b⟩ := F.ex
  refine wpAny_Call_Name_kw (ld_glob I hg hm (PySem.W.callWith_K (h₀ := X.base) I.ok.mod.kin M.kp (thn (ha.run pos pins s σ H _ I h) fun us s1 ⟨vs, H1, I1, r, q⟩ => ⟨I1.kIn, ?_⟩) he hpl) hdb)
  exact run_mkG M F (a.hr.mono hk) (a.qt.le hk) b (a.hx σ) I1 r q
theorem pe_mth {pl : Sem Bool} (a : At X j E) (ho : PE X o ta) (ha : PA X (e :: es) t)
    (hst : starEach (e :: es) X.env = (false, eval e X.env) :: starEach es X.env := by rfl) (hpl : (backTo pos (starEach es X.env)).any (·.1) = false := by rfl)
    (ht : eval (.Call (.Attribute o m apos) (e :: es) [] pos) X.env = (do
      let ov ← eval o X.env
      standAt apos.atName
      let (f, first) ← holding [ov] (getMethod ov m pl)
      callWith pos f first (backTo pos (starEach (e :: es) X.env)) (backToKw pos (keywordEach [] X.env))) := by rfl) :
    PE X (.Call (.Attribute o m apos) (e :: es) [] pos) (tMth X.prog X.w X.K X.mg X.base m j E ta t) := by
  refine ⟨fun pins s σ H Q I h => PySem.W.methodCall_KW (pl := pl) (thn (ho.run pins s σ H _ I h) fun u s1 ⟨x, H1, I1, rx, y, C, dx, fs, k, sp, ex, ea, M, hk, l, q⟩ => ?_) ht⟩
  subst ex
  obtain rfl : u = Value.ref y := rx
  obtain ⟨f, fd, ps, c, hm, F, b⟩ := M.ex
  refine getmeth_ok I1 ea c hm l (PySem.W.callWith_K (first := [.ref y]) (h₀ := X.base) I.ok.mod.kin hm.kp (thn (ha.run pos pins s1 σ H1 _ I1 q) fun us s2 ⟨vs, H2, I2, r, q2⟩ => ⟨I2.kIn, ?_⟩) hst hpl)
  exact run_gb (us := .ref y :: us) (vs := .ref y :: vs) F (a.hr.mono hk) (a.qt.le hk) b .nil (a.hx σ) I2 (.cons rfl r) (by rw [List.append_nil]; exact q2)
/-! ### attributes -/
/-- reading the attribute f of what stands at a gives v -/
inductive Att (P : Program) (w : World) (K : PySem.W.Frag) (mg : Str → Option Value) (base : Heap) (H : Hp) (a : Addr) (f : Str) (v : V) : Prop where
  | fld {C dx : Addr} {fs : List (Str × V)} (h : H a = some (.ins C dx fs)) (c : Cls K C) (n : NoAttr K C f) (l : fs.lookup f = some v)
  | con {C dx : Addr} {fs : List (Str × V)} {u : Value} (h : H a = some (.ins C dx fs)) (c : Cls K C) (k : Con K C f v u) (l : fs.lookup f = none)
  | prop {C dx p g : Addr} {fs : List (Str × V)} {f' : Str} {fd : FuncData} (h : H a = some (.ins C dx fs)) (c : Cls K C) (pr : PropOf K C f p g) (F : FnOk P w K mg base (L2.CX P w) 1 g fd ["self"] (getSp C f')) (b : Binds K fd ["self"] []) (l : fs.lookup f' = some v)
  | cls {mc u : Value} (r : CRead K a mc) (k : CVal K a mc f v u)
  | exc {C dd : Addr} {fs : List (Str × V)} (h : H a = some (exV (.ref C) (some dd) a)) (hd : H dd = some (.xd fs)) (x : XfC K C) (n : PySem.W.findIn K (.ref C) f = some none) (l : fs.lookup f = some v)
def tAtt (P : Program) (w : World) (K : PySem.W.Frag) (mg : Str → Option Value) (base : Heap) (f : Str) (ta : TE) : TE := fun σ H Q => ta σ H fun x H1 => ∃ a v, x = .ref a ∧ Att P w K mg base H1 a f v ∧ Q v H1
theorem pe_att {f : Str} (hr : Room j X.A) (he : PE X e ta) (hj : 2 ≤ j := by decide) (hab : attributeBase e f X.env (eval e X.env) = eval e X.env := by rfl) : PE X (.Attribute e f pos) (tAtt X.prog X.w X.K X.mg X.base f ta) := by
  refine ⟨fun pins s σ H Q I h => attr_of hab (thn (he.run pins s σ H _ I h) fun u s1 ⟨x, H1, I1, rx, a, v, ex, at_, q⟩ => ?_)⟩
  subst ex
  obtain rfl : u = Value.ref a := rx
  cases at_ with
  | fld h c n l => exact getattr_ok I1 h c n l fun u' s2 I2 ru => ⟨v, H1, I2, ru, q⟩
  | con h c k l => exact getcon_ok I1 h c k l fun s2 I2 => ⟨v, H1, I2, k.rel, q⟩
  | prop h c pr F b l => exact getprop_ok (E := E0) (dvs := []) I1 h c pr F (hr.mono hj) b .nil passL ⟨a, _, _, v, rfl, h, l, q⟩
  | cls r k => exact getcval_ok I1 r k fun s2 I2 => ⟨v, H1, I2, k.rel, q⟩
  | exc h hd x n l =>
    obtain ⟨oe, od, mA, J, hr', hl⟩ := inst1 I1 h hd
    obtain ⟨u', hu, ru⟩ := RelO.some_of (v := v) (o := mA f) (by rw [← l]; exact hr' f)
    exact HandSPX.exc_get I1.kIn J x.ga x.gg x.exC (PySem.W.findObj_own x.hdC n rfl (by rw [hl, hu])) (handed_of ru) ⟨v, H1, I1.tok _, ru, q⟩
/-- the attribute of a caught exception -/
def tAttE (K : PySem.W.Frag) (f : Str) (ta : TE) : TE := fun σ H Q => ta σ H fun x H1 => ∃ (a C dd : Addr) (fs : List (Str × V)) (v : V), x = .ref a ∧ H1 a = some (exV (.ref C) (some dd) a) ∧ H1 dd = some (.xd fs) ∧ XfC K C ∧ PySem.W.findIn K (.ref C) f = some none ∧ fs.lookup f = some v ∧ Q v H1
theorem pe_attE {f : Str} (he : PE X e ta) (hab : attributeBase e f X.env (eval e X.env) = eval e X.env := by rfl) : PE X (.Attribute e f pos) (tAttE X.K f ta) := by
  refine ⟨fun pins s σ H Q I h => attr_of hab (thn (he.run pins s σ H _ I h) fun u s1 ⟨x, H1, I1, rx, a, C, dd, fs, v, ex, h, hd, xc, n, l, q⟩ => ?_)⟩
  subst ex
  obtain rfl : u = Value.ref a := rx
  obtain ⟨oe, od, mA, J, hr', hl⟩ := inst1 I1 h hd
  obtain ⟨u', hu, ru⟩ := RelO.some_of (v := v) (o := mA f) (by rw [← l]; exact hr' f)
  exact HandSPX.exc_get I1.kIn J xc.ga xc.gg xc.exC (PySem.W.findObj_own xc.hdC n rfl (by rw [hl, hu])) (handed_of ru) ⟨v, H1, I1.tok _, ru, q⟩
/-! ### operators by the values -/
def uAdd : R2 := fun x y H Q => match x, y with
  | .int i, .int j => Q (.int (i + j)) H
  | .str a, .str b => a.length + b.length ≤ sizeLine ∧ Q (.str (a ++ b)) H
  | .ref l, .ref b => ∃ xs zs, H l = some (.lst xs) ∧ H b = some (.lst zs) ∧ xs.length + zs.length ≤ sizeLine ∧ ∀ p, H p = none → Q (.ref p) (upd H p (.lst (xs ++ zs)))
  | _, _ => False
theorem op_uAdd : OpR X (binaryOp .Add) uAdd := by
  intro pins s σ H x y v u Q I rx ry h
  match x, y, h with
  | .int i, .int j, h => exact op_add pins s σ H _ _ v u Q I rx ry ⟨i, j, rfl, rfl, h⟩
  | .str a, .str b, h => exact op_add_str pins s σ H _ _ v u Q I rx ry ⟨a, b, rfl, rfl, h⟩
  | .ref l, .ref b, h =>
    obtain ⟨xs, zs, h⟩ := h
    exact op_cat pins s σ H _ _ v u Q I rx ry ⟨l, b, xs, zs, rfl, rfl, h⟩
def uSub : R2 := fun x y H Q => match x, y with
  | .int i, .int j => Q (.int (i - j)) H
  | _, _ => False
theorem op_uSub : OpR X (binaryOp .Sub) uSub := by
  intro pins s σ H x y v u Q I rx ry h
  match x, y, h with
  | .int i, .int j, h => exact op_sub pins s σ H _ _ v u Q I rx ry ⟨i, j, rfl, rfl, h⟩
def uMul : R2 := fun x y H Q => match x, y with
  | .int i, .int j => (CMul i j ∨ CMulW i j) ∧ Q (.int (i * j)) H
  | .ref l, .int k => ∃ xs, H l = some (.lst xs) ∧ -(2 ^ 63) ≤ k ∧ k < 2 ^ 63 ∧ xs.length * k.toNat ≤ sizeLine ∧ ∀ p, H p = none → Q (.ref p) (upd H p (.lst (List.replicate k.toNat xs).flatten))
  | _, _ => False
theorem op_uMul : OpR X (binaryOp .Mult) uMul := by
  intro pins s σ H x y v u Q I rx ry h
  match x, y, h with
  | .int i, .int j, h =>
    obtain ⟨c, h⟩ := h
    rcases c with c | c
    · exact op_mul pins s σ H _ _ v u Q I rx ry ⟨i, j, rfl, rfl, c, h⟩
    · exact op_mulW pins s σ H _ _ v u Q I rx ry ⟨i, j, rfl, rfl, c, h⟩
  | .ref l, .int k, h =>
    obtain ⟨xs, h⟩ := h
    exact op_rep pins s σ H _ _ v u Q I rx ry ⟨l, k, xs, rfl, rfl, h⟩
def uDiv : R2 := fun x y H Q => match x, y with
  | .int i, .int j => (0 < j ∧ j.natAbs.log2 < 9000) ∧ Q (.int (i / j)) H
  | _, _ => False
theorem op_uDiv : OpR X (binaryOp .FloorDiv) uDiv := by
  intro pins s σ H x y v u Q I rx ry h
  match x, y, h with
  | .int i, .int j, h => exact op_fdivW pins s σ H _ _ v u Q I rx ry ⟨i, j, rfl, rfl, h⟩
def uMod : R2 := fun x y H Q => match x, y with
  | .int i, .int j => 0 < j ∧ Q (.int (i % j)) H
  | _, _ => False
theorem op_uMod : OpR X (binaryOp .Mod) uMod := by
  intro pins s σ H x y v u Q I rx ry h
  match x, y, h with
  | .int i, .int j, h => exact op_mod pins s σ H _ _ v u Q I rx ry ⟨i, j, rfl, rfl, h⟩
def uPow : R2 := fun x y H Q => match x, y with
  | .int i, .int j => (0 ≤ j ∧ (Builtin.Int.intBits i : Int) * j ≤ 2 ^ 27) ∧ Q (.int (i ^ j.toNat)) H
  | _, _ => False
theorem op_uPow : OpR X (binaryOp .Pow) uPow := by
  intro pins s σ H x y v u Q I rx ry h
  match x, y, h with
  | .int i, .int j, h =>
    exact opI (C := fun i j => 0 ≤ j ∧ (Builtin.Int.intBits i : Int) * j ≤ 2 ^ 27) (g := fun i j => i ^ j.toNat) (fun _ _ _ _ _ _ _ hc q => pow_int hc.1 hc.2 q) pins s σ H _ _ v u Q I rx ry ⟨i, j, rfl, rfl, h⟩
def uCmp (g : Int → Int → Bool) (gs : List Nat → List Nat → Bool) : R2 := fun x y H Q => match x, y with
  | .int i, .int j => Q (.bl (g i j)) H
  | .str a, .str b => Q (.bl (gs a.cps.toList b.cps.toList)) H
  | _, _ => False
def uLt : R2 := uCmp (fun i j => decide (i < j)) (fun a b => decide (a < b))
def uLe : R2 := uCmp (fun i j => decide (i ≤ j)) (fun a b => !decide (b < a))
def uGt : R2 := uCmp (fun i j => decide (j < i)) (fun a b => decide (b < a))
def uGe : R2 := uCmp (fun i j => decide (j ≤ i)) (fun a b => !decide (a < b))
theorem op_uLt : OpR X (compareOp .Lt) uLt := by
  intro pins s σ H x y v u Q I rx ry h
  match x, y, h with
  | .int i, .int j, h => exact op_lt pins s σ H _ _ v u Q I rx ry ⟨i, j, rfl, rfl, h⟩
  | .str i, .str j, h => exact op_lt_str pins s σ H _ _ v u Q I rx ry ⟨i, j, rfl, rfl, h⟩
theorem op_uLe : OpR X (compareOp .LtE) uLe := by
  intro pins s σ H x y v u Q I rx ry h
  match x, y, h with
  | .int i, .int j, h => exact op_le pins s σ H _ _ v u Q I rx ry ⟨i, j, rfl, rfl, h⟩
  | .str i, .str j, h => exact op_le_str pins s σ H _ _ v u Q I rx ry ⟨i, j, rfl, rfl, h⟩
theorem op_uGt : OpR X (compareOp .Gt) uGt := by
  intro pins s σ H x y v u Q I rx ry h
  match x, y, h with
  | .int i, .int j, h => exact op_gt pins s σ H _ _ v u Q I rx ry ⟨i, j, rfl, rfl, h⟩
  | .str i, .str j, h => exact op_gt_str pins s σ H _ _ v u Q I rx ry ⟨i, j, rfl, rfl, h⟩
theorem op_uGe : OpR X (compareOp .GtE) uGe := by
  intro pins s σ H x y v u Q I rx ry h
  match x, y, h with
  | .int i, .int j, h => exact op_ge pins s σ H _ _ v u Q I rx ry ⟨i, j, rfl, rfl, h⟩
  | .str i, .str j, h => exact op_ge_str pins s σ H _ _ v u Q I rx ry ⟨i, j, rfl, rfl, h⟩
/-- x == y: scalars; else data of any depth, or two lists of unlike lengths -/
def uEqB (K : PySem.W.Frag) (neg : Bool) : R2 := fun x y H Q =>
  (∃ d e, Dp K H x d ∧ Dp K H y e ∧ SeqAt.shaped d = true ∧ SeqAt.shaped e = true ∧ Q (.bl (if neg = true then !PyData.eqv d e else PyData.eqv d e)) H) ∨
  (∃ p q xs ys, x = .ref p ∧ y = .ref q ∧ SqL K H p xs ∧ SqL K H q ys ∧ xs.length ≠ ys.length ∧ Q (.bl neg) H)
def uEq (K : PySem.W.Frag) : R2 := fun x y H Q => if scal x y = true then Q (.bl (decide (x = y))) H else uEqB K false x y H Q
def uNe (K : PySem.W.Frag) : R2 := fun x y H Q => if scal x y = true then Q (.bl (!decide (x = y))) H else uEqB K true x y H Q
theorem len_ne {p q : Addr} {xs ys : List V} {pins : List (Addr × Obj)} {s : Shared} {σ : L2.St} {H : Hp} (I : Inv X pins σ H s) (h1 : SqL X.K H p xs) (h2 : SqL X.K H q ys) (hn : xs.length ≠ ys.length) :
    ∃ its its2 : Array Value, s.heap.IsList p its ∧ s.heap.IsList q its2 ∧ (its.size != its2.size) = true := by
  obtain ⟨its, r, pl, _⟩ := I.list h1
  obtain ⟨its2, r2, pl2, _⟩ := I.list h2
  refine ⟨_, _, pl.isList, pl2.isList, ?_⟩
  have e1 := r.length
  have e2 := r2.length
  simp only [List.size_toArray, bne_iff_ne, ne_eq]
  omega
theorem op_uEq (hr : Room j X.A) : OpR X (compareOp .Eq) (uEq X.K) := by
  intro pins s σ H x y v u Q I rx ry h
  unfold uEq at h
  split at h
  · rename_i c; exact op_eq pins s σ H _ _ v u Q I rx ry ⟨c, h⟩
  · rcases h with h | ⟨p, q, xs, ys, rfl, rfl, h1, h2, hn, h⟩
    · exact op_eqD hr.units pins s σ H _ _ v u Q I rx ry h
    · cases rx
      cases ry
      obtain ⟨its, its2, l1, l2, ne⟩ := len_ne I h1 h2 hn
      exact SeqAt.RcAt.lists_lengths l1 l2 ne hr.units0 X.prog X.w _ _ ⟨.bl false, H, I, rfl, h⟩
theorem op_uNe (hr : Room j X.A) : OpR X (compareOp .NotEq) (uNe X.K) := by
  intro pins s σ H x y v u Q I rx ry h
  unfold uNe at h
  split at h
  · rename_i c; exact op_ne pins s σ H _ _ v u Q I rx ry ⟨c, h⟩
  · rcases h with h | ⟨p, q, xs, ys, rfl, rfl, h1, h2, hn, h⟩
    · exact op_neD hr.units pins s σ H _ _ v u Q I rx ry h
    · cases rx
      cases ry
      obtain ⟨its, its2, l1, l2, ne⟩ := len_ne I h1 h2 hn
      exact SeqAt.RcNeAt.lists_lengths l1 l2 ne hr.units0 X.prog X.w _ _ ⟨.bl true, H, I, rfl, h⟩
/-- in, not in: a sign in a text, a flat value in a list or tuple -/
def uIn (K : PySem.W.Frag) (neg : Bool) : R2 := fun x y H Q => match y with
  | .str z => ∃ c : Nat, x = .str ⟨#[c]⟩ ∧ Q (.bl (if neg = true then !decide (c ∈ z.cps.toList) else decide (c ∈ z.cps.toList))) H
  | .ref p => (∃ xs, (SqL K H p xs ∨ SqT K H p xs) ∧ flatV x = true ∧ xs.all flatV = true ∧ Q (.bl (if neg = true then !inV x xs else inV x xs)) H) ∨
    (∃ d ds, Dp K H x d ∧ Dp K H (.ref p) (.list ds) ∧ SeqAt.shaped d = true ∧ SeqAt.shaped (.list ds) = true ∧ Q (.bl (if neg = true then !ds.any fun z => PyData.eqv z d else ds.any fun z => PyData.eqv z d)) H) ∨
    ∃ o, DGet H p x o ∧ Q (.bl (if neg = true then !o.isSome else o.isSome)) H
  | _ => False
theorem units65 (hr : Room j X.A) : X.A.units + 65 < cLine := by
  have := hr.un
  omega
theorem op_uIn (hr : Room j X.A) : OpR X (compareOp .In) (uIn X.K false) := by
  intro pins s σ H x y v u Q I rx ry h
  match y, h with
  | .str z, h => obtain ⟨c, e, h⟩ := h; exact op_in_sign pins s σ H _ _ v u Q I rx ry ⟨c, z, e, rfl, h⟩
  | .ref p, .inl h => obtain ⟨xs, h1, h2, h3, h⟩ := h; exact op_in_seq pins s σ H _ _ v u Q I rx ry ⟨p, xs, rfl, h1, h2, h3, h⟩
  | .ref p, .inr (.inl h) => exact op_inD (units65 hr) pins s σ H _ _ v u Q I rx ry h
  | .ref p, .inr (.inr h) =>
    obtain ⟨o, g, q⟩ := h
    obtain rfl : u = Value.ref p := ry
    exact d_in (hu_of hr) I g rx fun s3 I3 => ⟨.bl o.isSome, H, I3, rfl, q⟩
theorem op_uNotIn (hr : Room j X.A) : OpR X (compareOp .NotIn) (uIn X.K true) := by
  intro pins s σ H x y v u Q I rx ry h
  match y, h with
  | .str z, h => obtain ⟨c, e, h⟩ := h; exact op_notIn_sign pins s σ H _ _ v u Q I rx ry ⟨c, z, e, rfl, h⟩
  | .ref p, .inl h => obtain ⟨xs, h1, h2, h3, h⟩ := h; exact op_notIn_seq pins s σ H _ _ v u Q I rx ry ⟨p, xs, rfl, h1, h2, h3, h⟩
  | .ref p, .inr (.inl h) => exact op_notInD (units65 hr) pins s σ H _ _ v u Q I rx ry h
  | .ref p, .inr (.inr h) =>
    obtain ⟨o, g, q⟩ := h
    obtain rfl : u = Value.ref p := ry
    exact d_notIn (hu_of hr) I g rx fun s3 I3 => ⟨.bl (!o.isSome), H, I3, rfl, q⟩
/-- x is None -/
def uIs : R2 := fun x y H Q => y = .non ∧ Q (.bl (decide (x = .non))) H
theorem op_uIs : OpR X (compareOp .Is) uIs := op_isN
/-- x[i] -/
def uIx (K : PySem.W.Frag) : R2 := fun x y H Q => match x, y with
  | .ref p, .int i => ∃ xs v, (SqL K H p xs ∨ SqT K H p xs) ∧ atI xs i = some v ∧ Q v H
  | .str z, .int i => ∃ c, z.length ≤ sizeLine ∧ atI z.cps.toList i = some c ∧ Q (.str ⟨#[c]⟩) H
  | _, _ => False
theorem ix_u : IxR X (uIx X.K) := by
  intro value slice pins s σ H x y v u Q I rx ry h hs
  match x, y, h with
  | .ref p, .int i, h =>
    obtain ⟨xs, v, h1, h2, h⟩ := h
    exact ix_seq value slice pins s σ H _ _ _ u Q I rx ry (h1.elim (fun z => .inl ⟨p, xs, i, v, rfl, rfl, z, h2, h⟩) fun z => .inr (.inl ⟨p, xs, i, v, rfl, rfl, z, h2, h⟩)) hs
  | .str z, .int i, h =>
    obtain ⟨c, h1, h2, h⟩ := h
    exact ix_seq value slice pins s σ H _ _ _ u Q I rx ry (.inr (.inr ⟨z, i, c, rfl, rfl, h1, h2, h⟩)) hs
/-- -x -/
def uNeg : V → Hp → VK → Prop := fun x H Q => match x with
  | .int i => Q (.int (-i)) H
  | _ => False
theorem un_uNeg : UnR X (unaryOp .USub) uNeg := by
  intro pins s σ H x v Q I rx h
  match x, h with
  | .int i, h => exact un_neg pins s σ H _ v Q I rx ⟨i, rfl, h⟩
/-! ### calls of builtins by the values -/
def cLen (K : PySem.W.Frag) : List V → Hp → VK → Prop := fun xs H Q => match xs with
  | [.ref p] => ∃ ys, (SqL K H p ys ∨ SqT K H p ys) ∧ Q (.int ys.length) H
  | [.str z] => z.length ≤ sizeLine ∧ Q (.int z.length) H
  | _ => False
theorem call_cLen : CallR X (.builtin "len") (cLen X.K) := by
  intro pins s σ H xs us Q I r h
  match xs, h with
  | [.ref p], h => obtain ⟨ys, h⟩ := h; exact call_len_seq pins s σ H _ us Q I r ⟨p, ys, rfl, h⟩
  | [.str z], h => exact call_len_str pins s σ H _ us Q I r ⟨z, rfl, h⟩
def cAbs : List V → Hp → VK → Prop := fun xs H Q => match xs with
  | [.int i] => Q (.int (if i < 0 then -i else i)) H
  | _ => False
theorem call_cAbs : CallR X (.builtin "abs") cAbs := by
  intro pins s σ H xs us Q I r h
  match xs, h with
  | [.int i], h => exact call_abs pins s σ H _ us Q I r ⟨i, rfl, h⟩
def cMax (K : PySem.W.Frag) : List V → Hp → VK → Prop := fun xs H Q => match xs with
  | [.int i, .int j] => Q (.int (if j > i then j else i)) H
  | [.ref p] => ∃ ns : List Int, SqL K H p (ns.map V.int) ∧ 0 < ns.length ∧ ∀ m, m ∈ ns → (∀ y ∈ ns, y ≤ m) → Q (.int m) H
  | _ => False
theorem call_cMax (hc : X.calm = true) : CallR X (.builtin "max") (cMax X.K) := by
  intro pins s σ H xs us Q I r h
  match xs, h with
  | [.int i, .int j], h => exact call_max2 hc pins s σ H _ us Q I r ⟨i, j, rfl, h⟩
  | [.ref p], h => obtain ⟨ns, h1, h2, h⟩ := h; exact cr_max hc pins s σ H _ us Q I r ⟨p, ns, rfl, h1, h2, h⟩
def cMin (K : PySem.W.Frag) : List V → Hp → VK → Prop := fun xs H Q => match xs with
  | [.int i, .int j] => Q (.int (if j < i then j else i)) H
  | _ => False
theorem call_cMin (hc : X.calm = true) : CallR X (.builtin "min") (cMin X.K) := by
  intro pins s σ H xs us Q I r h
  match xs, h with
  | [.int i, .int j], h => exact call_min2 hc pins s σ H _ us Q I r ⟨i, j, rfl, h⟩
def cAll (K : PySem.W.Frag) : List V → Hp → VK → Prop := fun xs H Q => match xs with
  | [.ref p] => ∃ bs : List Bool, SqL K H p (bs.map V.bl) ∧ Q (.bl (bs.all id)) H
  | _ => False
theorem call_cAll (hc : X.calm = true) : CallR X (.builtin "all") (cAll X.K) := by
  intro pins s σ H xs us Q I r h
  match xs, h with
  | [.ref p], h => obtain ⟨bs, h⟩ := h; exact cr_all hc pins s σ H _ us Q I r ⟨p, bs, rfl, h⟩
def cList (K : PySem.W.Frag) : List V → Hp → VK → Prop := fun xs H Q => match xs with
  | [.ref p] => ∃ ys, (SqL K H p ys ∨ SqT K H p ys) ∧ ∀ l, H l = none → Q (.ref l) (upd H l (.lst ys))
  | _ => False
theorem call_cList : CallR X (.type "list") (cList X.K) := by
  intro pins s σ H xs us Q I r h
  match xs, h with
  | [.ref p], h => obtain ⟨ys, h⟩ := h; exact call_list_of pins s σ H _ us Q I r ⟨p, ys, rfl, h⟩
def cTuple (K : PySem.W.Frag) : List V → Hp → VK → Prop := fun xs H Q => match xs with
  | [.ref p] => ∃ ys, (SqL K H p ys ∧ ∀ l, H l = none → Q (.ref l) (upd H l (.tup ys))) ∨ (SqT K H p ys ∧ Q (.ref p) H)
  | _ => False
theorem call_cTuple : CallR X (.type "tuple") (cTuple X.K) := by
  intro pins s σ H xs us Q I r h
  match xs, h with
  | [.ref p], h => obtain ⟨ys, h⟩ := h; exact call_tuple_of pins s σ H _ us Q I r ⟨p, ys, rfl, h⟩
/-- repr(int), repr(data) -/
def cRepr (K : PySem.W.Frag) : List V → Hp → VK → Prop := fun xs H Q => match xs with
  | [.int i] => i.natAbs.log2 < 1920 ∧ Q (.str (toString i)) H
  | [.non] => Q (.str "None") H
  | [.bl b] => Q (.str (if b then "True" else "False")) H
  | [.ref p] => ∃ d, Dp K H (.ref p) d ∧ d.showable = true ∧ d.hasDict = false ∧ d.depth ≤ 60 ∧ d.shown.length ≤ sizeLine ∧ Q (.str d.shown) H
  | _ => False
theorem call_cRepr (hr : Room j X.A) (qt0 : Quiet j X.A) (hq : 20 ≤ j := by decide) : CallR X (.builtin "repr") (cRepr X.K) := by
  have qt := qt0 hq
  intro pins s σ H xs us Q I r h
  match xs, h with
  | [.int i], h => exact SkE.call_repr_int pins s σ H _ us Q I r ⟨i, rfl, h⟩
  | [.non], h =>
    cases r with
    | cons r0 r1 =>
      cases r1
      obtain rfl : _ = Value.none := r0
      exact PySem.P.repr_of_none ⟨.str "None", H, I.tok _, ⟨_, rfl⟩, h⟩
  | [.bl b], h =>
    cases r with
    | cons r0 r1 =>
      cases r1
      obtain rfl : _ = Value.bool b := r0
      exact PySem.P.repr_of_bool ⟨.str (if b then "True" else "False"), H, I.tok _, ⟨_, rfl⟩, h⟩
  | [.ref p], h =>
    obtain ⟨d, dp, sh, nd, de, sz, q⟩ := h
    cases r with
    | cons r0 r1 =>
      cases r1
      cases r0
      obtain ⟨as, rd⟩ := Dp.reads I d (.ref p) (.ref p) dp rfl
      refine repr_of_reads' rd sh (fun z => by rw [nd] at z; cases z) qt (by have := hr.un; omega) (fun _ _ z => z) (fun h' u tk kp => ?_) sz
      exact ⟨.str d.shown, H, I.kept (t' := tk) kp, ⟨_, rfl⟩, q⟩
/-! ### x *= y -/
/-! ### names of the module -/
theorem pe_g {v : V} (hg : Gl X x) (h : ∃ u, X.mg x = some u ∧ RelV v u) (hdb : (x == ("__debug__" : Str)) = false := by decide) : PE X (.Name x pos) (tC v) := by
  obtain ⟨u, hm, r⟩ := h
  exact pe_glob hg hm r hdb
/-! ### a, b, c = x, y, z: three locals -/
/-! ### calls by keywords alone (behind the receiver of a method) -/
structure KB (K : PySem.W.Frag) (fd : FuncData) (ps : List Str) (n : Nat) (ks : List Str) (g : List Value → List Value) (gV : List V → List V) : Prop where
  to : ∀ (s : Shared) (us ws : List Value), K.In s.heap → us.length = n → ws.length = ks.length → BindsTo s fd ⟨us, ks.zip ws⟩ (ps.zip (us ++ g ws))
  rel : ∀ {zs : List V} {ws : List Value}, Vals zs ws → Vals (gV zs) (g ws)
structure MthK (P : Program) (w : World) (K : PySem.W.Frag) (mg : Str → Option Value) (base : Heap) (k : Nat) (C : Addr) (m : Str) (ks : List Str) (gV : List V → List V) (sp : Sp) : Prop where
  ex : ∃ (f : Addr) (fd : FuncData) (ps : List Str) (g : List Value → List Value), Cls K C ∧ Meth K C m f ∧ FnG P w K mg base k f fd ps sp ∧ KB K fd ps 1 ks g gV
def tMthK (P : Program) (w : World) (K : PySem.W.Frag) (mg : Str → Option Value) (base : Heap) (m : Str) (ks : List Str) (j : Nat) (E : XS) (ta : TE) (t : TA) : TE := fun σ H Q => ta σ H fun x H1 => ∃ a C dx fs k gV sp, x = .ref a ∧ H1 a = some (.ins C dx fs) ∧ MthK P w K mg base k C m ks gV sp ∧ k ≤ j ∧ fs.lookup m = none ∧
  t σ H1 fun vs H2 => vs.length = ks.length ∧ sp (.ref a :: gV vs) H2 Q (E σ)
theorem run_kb {k n : Nat} {f : Addr} {fd : FuncData} {ps ks : List Str} {sp : Sp} {g : List Value → List Value} {gV : List V → List V} {pins : List (Addr × Obj)} {σ : L2.St} {H : Hp} {s : Shared} {Q : VK} {us ws : List Value} {vs zs : List V} (F : FnG X.prog X.w X.K X.mg X.base k f fd ps sp) (a : At X j E) (hk : k ≤ j)
    (hb : KB X.K fd ps n ks g gV) (I : Inv X pins σ H s) (r : Vals vs us) (hn : us.length = n) (rz : Vals zs ws) (hl : zs.length = ks.length) (h : sp (vs ++ gV zs) H Q (E σ)) : wpAny (model X.prog X.w) X.A (call (.ref f) us (ks.zip ws)) (EP X pins σ Q) X.xe s :=
  run_g F (a.hr.mono hk) (a.qt.le hk) (a.hx σ) I (hb.to s us ws I.kIn hn (by rw [← rz.length]; exact hl)) (r.append (hb.rel rz)) h
section
variable {ks : List Str} {kws : List Keyword}
theorem pe_mthK {pl : Sem Bool} (a : At X j E) (ho : PE X o ta) (hkw : PK X kws t) (hall : (backToKw pos (keywordEach kws X.env)).all (·.1.isSome) = true := by rfl) (hks : (backToKw pos (keywordEach kws X.env)).filterMap (·.1) = ks := by rfl)
    (hpl : ((backTo pos (starEach [] X.env)).any (·.1) || (backToKw pos (keywordEach kws X.env)).any (·.1.isNone)) = false := by rfl)
    (ht : eval (.Call (.Attribute o m apos) [] kws pos) X.env = (do
      let ov ← eval o X.env
      standAt apos.atName
      let (f, first) ← holding [ov] (getMethod ov m pl)
      callWith pos f first (backTo pos (starEach [] X.env)) (backToKw pos (keywordEach kws X.env))) := by rfl) :
    PE X (.Call (.Attribute o m apos) [] kws pos) (tMthK X.prog X.w X.K X.mg X.base m ks j E ta t) := by
  refine ⟨fun pins s σ H Q I h => PySem.W.methodCall_KW (pl := pl) (thn (ho.run pins s σ H _ I h) fun u s1 ⟨x, H1, I1, rx, y, C, dx, fs, k, gV, sp, ex, ea, M, hk, l, q⟩ => ?_) ht⟩
  subst ex
  obtain rfl : u = Value.ref y := rx
  obtain ⟨f, fd, ps, g, c, hm, F, b⟩ := M.ex
  refine getmeth_ok I1 ea c hm l (PySem.W.callWith_KW0 (first := [.ref y]) (h₀ := X.base) I.ok.mod.kin hm.kp hall ?_ hpl)
  refine thn (hkw.run pos pins s1 σ H1 _ I1 q) fun ws s2 ⟨zs, H2, I2, rz, hl, q2⟩ => ⟨I2.kIn, ?_⟩
  rw [hks]
  exact run_kb (us := [.ref y]) (vs := [.ref y]) F a hk b I2 (.cons rfl .nil) rfl rz hl q2
end
end
/-! ### isinstance, told by the kinds -/
section
variable {K : PySem.W.Frag} {H : Hp}
/-- instances of C are told by their class -/
structure InsTy (K : PySem.W.Frag) (C : Addr) : Prop where
  ha : PySem.W.findIn K (.ref C) "__class__" = some (some (.builtin "object.__class__"))
  hn : PySem.W.specialIn K (.builtin "object.__class__") "__get__" = some (some (.builtin "getset_descriptor.__get__"))
  ht : PySem.W.takesIn K (.builtin "object.__class__") = some true
  hm : PySem.W.mroIn K C (.type "object") = some true
end
/-! ### a def, by what is true of its body's reading -/
section
variable {P : Program} {w : World} {K : PySem.W.Frag} {mg : Str → Option Value} {base : Heap}
/-- the def x of the module stands as st -/
structure Df (K : PySem.W.Frag) (mg : Str → Option Value) (x : Str) (st : Stmt) (ps : List Str) : Prop where
  ex : ∃ (f : Addr) (fd : FuncData), Fun K x x st f fd ∧ mg x = some (.ref f) ∧ Binds K fd ps []
/-- the method m of the class at C stands as st (of the class qual names) -/
structure Dm (K : PySem.W.Frag) (C : Addr) (m qual : Str) (st : Stmt) (ps : List Str) : Prop where
  cls : Cls K C
  ex : ∃ (f : Addr) (fd : FuncData), Fun K m qual st f fd ∧ Meth K C m f ∧ Binds K fd ps []
/-- the class x at C is made by the __init__ st -/
structure Dk (K : PySem.W.Frag) (mg : Str → Option Value) (x : Str) (C : Addr) (qual : Str) (st : Stmt) (ps : List Str) : Prop where
  ex : ∃ (f : Addr) (fd : FuncData), Fun K "__init__" qual st f fd ∧ Mk K C f ∧ mg x = some (.ref C) ∧ Binds K fd ps []
abbrev Der (P : Program) (w : World) (K : PySem.W.Frag) (mg : Str → Option Value) (base : Heap) (N : List Str) (qual : Str) (st : Stmt) (lv : Nat) (t : XK → TS) : Prop :=
  ∀ {f : Addr} {cdv : Value} {Ar : Around} {outer : List Env} {s : Shared} {H : Hp} {E : XK}, Room lv (Ar.deeper (PyProof.Rows.envOfC qual (defScope st) s.heap.objs.size f cdv)) → Quiet lv (Ar.deeper (PyProof.Rows.envOfC qual (defScope st) s.heap.objs.size f cdv)) → PSs (cxOf (L2.CX P w) P w K mg base N qual (defScope st) f cdv Ar outer s H E) (defBody st) (t E)
abbrev Pur (N ps : List Str) (t : XK → TS) (sp : Sp) : Prop := ∀ vs H Q E, sp vs H Q E → vs.length = ps.length ∧ t E { nx := fun _ H' => Q .non H', rt := Q } (start N vs) H
theorem fnok_of {x qual : Str} {st : Stmt} {f : Addr} {fd : FuncData} {N ps : List Str} {lv : Nat} {t : XK → TS} {sp : Sp} (F : Fun K x qual st f fd) (S : FnScope N ps (defScope st)) (D : Der P w K mg base N qual st lv t) (p : Pur N ps t sp) : FnG P w K mg base (lv + 1) f fd ps sp := by
  obtain ⟨oc, od, kV, doc, pm, an, cdv, ct, osl, rfl, lk, hcd⟩ := F.ex
  exact fnG_body lk hcd S (fun vs H Q E h => (p vs H Q E h).1) fun Ar outer s H vs Q E hr qt h => ⟨t E, D hr qt, (p vs H Q E h).2⟩
/-- a def with keyword-only defaults -/
structure Dfd (K : PySem.W.Frag) (mg : Str → Option Value) (x : Str) (st : Stmt) (ps : List Str) (dvs : List V) : Prop where
  ex : ∃ (f : Addr) (fd : FuncData) (ds : List Value), Fun K x x st f fd ∧ mg x = some (.ref f) ∧ Vals dvs ds ∧ Binds K fd ps ds
theorem Dfd.fn {x : Str} {st : Stmt} {N ps : List Str} {dvs : List V} {lv : Nat} {t : XK → TS} {sp sp' : Sp} (d : Dfd K mg x st ps dvs) (S : FnScope N ps (defScope st)) (D : Der P w K mg base N x st lv t) (p : Pur N ps t sp') (im : ∀ vs H Q E, sp vs H Q E → sp' (vs ++ dvs) H Q E) : Fn P w K mg base (lv + 1) x sp := by
  obtain ⟨f, fd, ds, F, hm, rd, b⟩ := d.ex
  exact ⟨f, fd, ps, ds, dvs, sp', fnok_of F S D p, hm, F.kp, b, rd, im⟩
theorem Df.fn {x : Str} {st : Stmt} {N ps : List Str} {lv : Nat} {t : XK → TS} {sp : Sp} (d : Df K mg x st ps) (S : FnScope N ps (defScope st)) (D : Der P w K mg base N x st lv t) (p : Pur N ps t sp) : Fn P w K mg base (lv + 1) x sp := by
  obtain ⟨f, fd, F, hm, b⟩ := d.ex
  exact ⟨f, fd, ps, [], [], sp, fnok_of F S D p, hm, F.kp, b, .nil, fun vs H Q E h => by rw [List.append_nil]; exact h⟩
theorem Dm.mth {m qual : Str} {C : Addr} {st : Stmt} {N ps : List Str} {lv : Nat} {t : XK → TS} {sp : Sp} (d : Dm K C m qual st ps) (S : FnScope N ps (defScope st)) (D : Der P w K mg base N qual st lv t) (p : Pur N ps t sp) : Mth P w K mg base (lv + 1) C m sp := by
  obtain ⟨f, fd, F, hm, b⟩ := d.ex
  exact ⟨f, fd, ps, d.cls, hm, fnok_of F S D p, b⟩
theorem Dk.mkr {x qual : Str} {C : Addr} {st : Stmt} {N ps : List Str} {lv : Nat} {t : XK → TS} {sp : Sp} (d : Dk K mg x C qual st ps) (S : FnScope N ps (defScope st)) (D : Der P w K mg base N qual st lv t) (p : Pur N ps t sp) : Mkr P w K mg base (lv + 1) x C sp := by
  obtain ⟨f, fd, F, M, hm, b⟩ := d.ex
  exact ⟨f, fd, ps, M, fnok_of F S D p, hm, b⟩
end
/-! ### comprehensions that read alone; loops -/
theorem _root_.L2.Same.new {H : Hp} {p : Addr} {o : HO} (h : H p = none) : Same H (upd H p o) := fun a u e => by rw [upd_ne (ne_of_none e h)]; exact e
theorem _root_.L2.Same.tup {K : PySem.W.Frag} {H H' : Hp} {a : Addr} {xs : List V} (e : Same H H') (h : SqT K H a xs) : SqT K H' a xs := by
  rcases h with (h | ⟨o, h⟩) | h
  · exact .inl (.inl (e _ _ h))
  · exact .inl (.inr ⟨o, e _ _ h⟩)
  · exact .inr h
/-! ### data -/
section
variable {K : PySem.W.Frag} {H H' : Hp}
/-- data of depth at most n -/
def okD (n : Nat) (d : PyData) : Prop := d.canLay0 = true ∧ d.depth ≤ n
theorem okD.list {n : Nat} {ds : List PyData} (h : ∀ d ∈ ds, okD n d) : okD (n + 1) (.list ds) := by
  have q : PyData.canLayAll0 ds = true ∧ PyData.depthAll ds ≤ n := by
    induction ds with
    | nil => exact ⟨rfl, Nat.zero_le _⟩
    | cons d ds ih =>
      have h1 := h d List.mem_cons_self
      have h2 := ih fun x hx => h x (List.mem_cons_of_mem _ hx)
      exact ⟨by unfold PyData.canLayAll0; rw [h1.1, h2.1]; rfl, Nat.max_le.mpr ⟨h1.2, h2.2⟩⟩
  exact ⟨by unfold PyData.canLay0; exact q.1, by unfold PyData.depth; exact Nat.succ_le_succ q.2⟩
theorem okD.tuple {n : Nat} {ds : List PyData} (h : ∀ d ∈ ds, okD n d) : okD (n + 1) (.tuple ds) := by
  have q := okD.list h
  exact ⟨by have := q.1; unfold PyData.canLay0 at this ⊢; exact this, by have := q.2; unfold PyData.depth at this ⊢; exact this⟩
theorem okD.int {n : Nat} {i : Int} : okD n (.int i) := ⟨rfl, Nat.zero_le _⟩
theorem okD.bool {n : Nat} {i : Bool} : okD n (.bool i) := ⟨rfl, Nat.zero_le _⟩
theorem okD.str {n : Nat} {z : Str} (h : PyData.strOk z = true) : okD n (.str z) := ⟨by unfold PyData.canLay0; exact h, Nat.zero_le _⟩
theorem okD.shaped {n : Nat} {d : PyData} (h : okD n d) (hn : n ≤ 64) : SeqAt.shaped d = true := by
  unfold SeqAt.shaped
  rw [h.1, decide_eq_true (Nat.le_trans h.2 hn)]; rfl
end
/-! ### comprehensions that make new things -/
/-- xs are related to as, item by item -/
structure Rel2 {α : Type} (Rl : V → α → Prop) (xs : List V) (as : List α) : Prop where
  len : xs.length = as.length
  at_ : ∀ (i : Nat) (x : V) (a : α), xs[i]? = some x → as[i]? = some a → Rl x a
theorem Rel2.nil {α : Type} {Rl : V → α → Prop} : Rel2 Rl [] [] := ⟨rfl, fun i x a h => by simp at h⟩
theorem Rel2.imp {α : Type} {Rl Rl' : V → α → Prop} {xs : List V} {as : List α} (h : Rel2 Rl xs as) (q : ∀ x a, Rl x a → Rl' x a) : Rel2 Rl' xs as := ⟨h.len, fun i x a h1 h2 => q x a (h.at_ i x a h1 h2)⟩
end U
/-! data that may be shown -/
namespace U
open PySem PySem.Spec PyProof.Rows L2
/-- data of depth at most n and weight at most k that may be shown -/
structure okR (n k : Nat) (d : PyData) : Prop where
  lay : d.canLay0 = true
  dep : d.depth ≤ n
  wgt : d.weight ≤ k
  sh : d.showable = true
  ls : d.leavesShort 13 = true
theorem okR.mono {n k n' k' : Nat} {d : PyData} (h : okR n k d) (h1 : n ≤ n') (h2 : k ≤ k') : okR n' k' d := ⟨h.lay, Nat.le_trans h.dep h1, Nat.le_trans h.wgt h2, h.sh, h.ls⟩
theorem okR.repr {n k : Nat} {d : PyData} (h : okR n k d) (hn : n ≤ 60) (hk : k ≤ 1000000) : d.showable = true ∧ d.hasDict = false ∧ d.depth ≤ 60 ∧ d.shown.length ≤ sizeLine :=
  ⟨h.sh, PyData.hasDict_of_canLay d h.lay, Nat.le_trans h.dep hn, PyData.shown_fits (B := 13) (by decide) (by decide) h.ls (Nat.le_trans h.wgt (Nat.le_trans hk (by decide)))⟩
theorem okR.str {n : Nat} {z : Str} (h : PyData.strOk z = true) : okR n z.cps.size (.str z) := by
  refine ⟨by unfold PyData.canLay0; exact h, Nat.zero_le _, Nat.le_refl _, rfl, ?_⟩
  exact PyData.leavesShort_of_canLay0 13 _ (by unfold PyData.canLay0; exact h) rfl
theorem okR.bool {n : Nat} {b : Bool} : okR n 0 (.bool b) := ⟨rfl, Nat.zero_le _, Nat.le_refl _, rfl, rfl⟩
theorem okR.non {n : Nat} : okR n 0 .none := ⟨rfl, Nat.zero_le _, Nat.le_refl _, rfl, rfl⟩
theorem okR_all {n k : Nat} : ∀ {ds : List PyData}, (∀ d ∈ ds, okR n k d) → PyData.canLayAll0 ds = true ∧ PyData.depthAll ds ≤ n ∧ PyData.weightAll ds ≤ (k + 1) * ds.length ∧ PyData.showableAll ds = true ∧ PyData.leavesShortAll 13 ds = true
  | [], _ => ⟨rfl, Nat.zero_le _, Nat.zero_le _, rfl, rfl⟩
  | d :: ds, h => by
    have h1 := h d List.mem_cons_self
    obtain ⟨a, b, c, e, f⟩ := okR_all fun x hx => h x (List.mem_cons_of_mem _ hx)
    refine ⟨by unfold PyData.canLayAll0; rw [h1.lay, a]; rfl, Nat.max_le.mpr ⟨h1.dep, b⟩, ?_, by unfold PyData.showableAll; rw [h1.sh, e]; rfl, by unfold PyData.leavesShortAll; rw [h1.ls, f]; rfl⟩
    have := h1.wgt
    show d.weight + 1 + PyData.weightAll ds ≤ (k + 1) * (ds.length + 1)
    rw [Nat.mul_add, Nat.mul_one]
    omega
theorem okR.list {n k : Nat} {ds : List PyData} (h : ∀ d ∈ ds, okR n k d) : okR (n + 1) ((k + 1) * ds.length) (.list ds) := by
  obtain ⟨a, b, c, e, f⟩ := okR_all h
  exact ⟨by unfold PyData.canLay0; exact a, by unfold PyData.depth; exact Nat.succ_le_succ b, c, e, f⟩
theorem okR.tuple {n k : Nat} {ds : List PyData} (h : ∀ d ∈ ds, okR n k d) : okR (n + 1) ((k + 1) * ds.length) (.tuple ds) := by
  obtain ⟨a, b, c, e, f⟩ := okR_all h
  exact ⟨by unfold PyData.canLay0; exact a, by unfold PyData.depth; exact Nat.succ_le_succ b, c, e, f⟩
theorem okR.int {n : Nat} {i : Int} (h : i.natAbs < 1024) : okR n 10 (.int i) := by
  have lg : i.natAbs ≠ 0 → i.natAbs.log2 < 10 := fun h0 => (Nat.log2_lt h0).mpr h
  refine ⟨rfl, Nat.zero_le _, ?_, ?_, ?_⟩
  · show (if i == 0 then 0 else i.natAbs.log2 + 1) ≤ 10
    split
    · omega
    · rename_i z
      have : i ≠ 0 := by simpa using z
      have := lg (by omega)
      omega
  · show decide (i.natAbs.log2 < 1920) = true
    by_cases z : i.natAbs = 0
    · rw [z]; decide
    · have := lg z; exact decide_eq_true (by omega)
  · show decide ((PyData.shown (.int i)).length ≤ 13) = true
    have e : ∀ k : Nat, k < 1024 → (PyData.shown (.int (k : Int))).length ≤ 13 ∧ (PyData.shown (.int (-(k : Int)))).length ≤ 13 := by decide +kernel
    have := e i.natAbs h
    rcases Int.natAbs_eq i with z | z
    · rw [z]; exact decide_eq_true this.1
    · rw [z]; exact decide_eq_true this.2
end U
/-! super().m() in a method -/
namespace U
open PySem PySem.Spec PyProof.Rows L2
open NdefX (NScope envF ncx startF CellsAt inv_startN NF)
end U
/-! trees: values without addresses; what a heap says of them -/
namespace Z
open PySem PySem.Spec PyProof.Rows L2 U
/-- a value as a tree; loc n: the n-th thing of the store; cl, obj: classes by number -/
inductive D where
  | non | bl (b : Bool) | int (i : Int) | str (z : Str) | ty (n : String) | cl (c : Nat) | loc (n : Nat)
  | list (ds : List D) | scr (ds : List D) | tup (ds : List D) | dict (kvs : List (Key × D)) | obj (c : Nat) (fs : List (Str × D)) | exc (c : Nat) (fs : List (Str × D))
/-- what is given: the module's things, the classes' addresses -/
structure Cz where
  K : PySem.W.Frag
  cad : Nat → Addr
mutual
inductive Tr (c : Cz) (ρ : List Addr) (F : Hp) : V → D → Prop
  | non : Tr c ρ F .non .non
  | bl (b : Bool) : Tr c ρ F (.bl b) (.bl b)
  | int (i : Int) : Tr c ρ F (.int i) (.int i)
  | str (z : Str) : Tr c ρ F (.str z) (.str z)
  | ty (n : String) : Tr c ρ F (.ty n) (.ty n)
  | cl (k : Nat) : Tr c ρ F (.ref (c.cad k)) (.cl k)
  | loc {n : Nat} {a : Addr} (h : ρ[n]? = some a) : Tr c ρ F (.ref a) (.loc n)
  | list {a : Addr} {vs : List V} {ds : List D} (h : F a = some (.lst vs)) (r : TrAll c ρ F vs ds) : Tr c ρ F (.ref a) (.list ds)
  | scr {a : Addr} {vs : List V} {ds : List D} (h : SqL c.K F a vs) (r : TrAll c ρ F vs ds) : Tr c ρ F (.ref a) (.scr ds)
  | tup {a : Addr} {vs : List V} {ds : List D} (h : SqT c.K F a vs) (r : TrAll c ρ F vs ds) : Tr c ρ F (.ref a) (.tup ds)
  | dict {a : Addr} {kvs : List (Key × V)} {ds : List (Key × D)} (h : Rd F a (.dK kvs)) (r : TrK c ρ F kvs ds) : Tr c ρ F (.ref a) (.dict ds)
  | obj {a dx : Addr} {k : Nat} {fs : List (Str × V)} {ds : List (Str × D)} (h : F a = some (.ins (c.cad k) dx fs)) (r : TrF c ρ F fs ds) : Tr c ρ F (.ref a) (.obj k ds)
  | exc0 {a : Addr} {k : Nat} (h : F a = some (exV (.ref (c.cad k)) none a)) : Tr c ρ F (.ref a) (.exc k [])
  | exc1 {a dd : Addr} {k : Nat} {fs : List (Str × V)} {ds : List (Str × D)} (h : F a = some (exV (.ref (c.cad k)) (some dd) a)) (hd : F dd = some (.xd fs)) (r : TrF c ρ F fs ds) : Tr c ρ F (.ref a) (.exc k ds)
inductive TrAll (c : Cz) (ρ : List Addr) (F : Hp) : List V → List D → Prop
  | nil : TrAll c ρ F [] []
  | cons {v : V} {d : D} {vs : List V} {ds : List D} (h : Tr c ρ F v d) (r : TrAll c ρ F vs ds) : TrAll c ρ F (v :: vs) (d :: ds)
inductive TrK (c : Cz) (ρ : List Addr) (F : Hp) : List (Key × V) → List (Key × D) → Prop
  | nil : TrK c ρ F [] []
  | cons {k : Key} {v : V} {d : D} {vs : List (Key × V)} {ds : List (Key × D)} (h : Tr c ρ F v d) (r : TrK c ρ F vs ds) : TrK c ρ F ((k, v) :: vs) ((k, d) :: ds)
inductive TrF (c : Cz) (ρ : List Addr) (F : Hp) : List (Str × V) → List (Str × D) → Prop
  | nil : TrF c ρ F [] []
  | cons {k : Str} {v : V} {d : D} {vs : List (Str × V)} {ds : List (Str × D)} (h : Tr c ρ F v d) (r : TrF c ρ F vs ds) : TrF c ρ F ((k, v) :: vs) ((k, d) :: ds)
end
theorem pre_get {α : Type} {l l' : List α} (h : l <+: l') {n : Nat} {a : α} (e : l[n]? = some a) : l'[n]? = some a := by
  obtain ⟨t, rfl⟩ := h
  rw [List.getElem?_append_left (List.getElem?_eq_some_iff.mp e).1]; exact e
theorem _root_.L2.Same.rd {H H' : Hp} {a : Addr} {u : HO} (s : Same H H') (h : Rd H a u) : Rd H' a u := by
  rcases h with h | ⟨o, h⟩
  · exact .inl (s _ _ h)
  · exact .inr ⟨o, s _ _ h⟩
section
variable {c : Cz} {ρ ρ' : List Addr} {F F' : Hp}
theorem tr_mono (hρ : ρ <+: ρ') (s : Same F F') : (∀ v d, Tr c ρ F v d → Tr c ρ' F' v d) ∧ (∀ vs ds, TrAll c ρ F vs ds → TrAll c ρ' F' vs ds) ∧ (∀ vs ds, TrK c ρ F vs ds → TrK c ρ' F' vs ds) ∧ (∀ vs ds, TrF c ρ F vs ds → TrF c ρ' F' vs ds) := by
  refine ⟨fun v d h => ?_, fun v d h => ?_, fun v d h => ?_, fun v d h => ?_⟩
  · exact Tr.rec (motive_1 := fun v d _ => Tr c ρ' F' v d) (motive_2 := fun v d _ => TrAll c ρ' F' v d) (motive_3 := fun v d _ => TrK c ρ' F' v d) (motive_4 := fun v d _ => TrF c ρ' F' v d) .non .bl .int .str .ty .cl (fun h => .loc (pre_get hρ h)) (fun h _ r => .list (s _ _ h) r) (fun h _ r => .scr (s.seq h) r) (fun h _ r => .tup (s.tup h) r) (fun h _ r => .dict (s.rd h) r) (fun h _ r => .obj (s _ _ h) r) (fun h => .exc0 (s _ _ h)) (fun h hd _ r => .exc1 (s _ _ h) (s _ _ hd) r) .nil (fun _ _ h r => .cons h r) .nil (fun _ _ h r => .cons h r) .nil (fun _ _ h r => .cons h r) h
  · exact TrAll.rec (motive_1 := fun v d _ => Tr c ρ' F' v d) (motive_2 := fun v d _ => TrAll c ρ' F' v d) (motive_3 := fun v d _ => TrK c ρ' F' v d) (motive_4 := fun v d _ => TrF c ρ' F' v d) .non .bl .int .str .ty .cl (fun h => .loc (pre_get hρ h)) (fun h _ r => .list (s _ _ h) r) (fun h _ r => .scr (s.seq h) r) (fun h _ r => .tup (s.tup h) r) (fun h _ r => .dict (s.rd h) r) (fun h _ r => .obj (s _ _ h) r) (fun h => .exc0 (s _ _ h)) (fun h hd _ r => .exc1 (s _ _ h) (s _ _ hd) r) .nil (fun _ _ h r => .cons h r) .nil (fun _ _ h r => .cons h r) .nil (fun _ _ h r => .cons h r) h
  · exact TrK.rec (motive_1 := fun v d _ => Tr c ρ' F' v d) (motive_2 := fun v d _ => TrAll c ρ' F' v d) (motive_3 := fun v d _ => TrK c ρ' F' v d) (motive_4 := fun v d _ => TrF c ρ' F' v d) .non .bl .int .str .ty .cl (fun h => .loc (pre_get hρ h)) (fun h _ r => .list (s _ _ h) r) (fun h _ r => .scr (s.seq h) r) (fun h _ r => .tup (s.tup h) r) (fun h _ r => .dict (s.rd h) r) (fun h _ r => .obj (s _ _ h) r) (fun h => .exc0 (s _ _ h)) (fun h hd _ r => .exc1 (s _ _ h) (s _ _ hd) r) .nil (fun _ _ h r => .cons h r) .nil (fun _ _ h r => .cons h r) .nil (fun _ _ h r => .cons h r) h
  · exact TrF.rec (motive_1 := fun v d _ => Tr c ρ' F' v d) (motive_2 := fun v d _ => TrAll c ρ' F' v d) (motive_3 := fun v d _ => TrK c ρ' F' v d) (motive_4 := fun v d _ => TrF c ρ' F' v d) .non .bl .int .str .ty .cl (fun h => .loc (pre_get hρ h)) (fun h _ r => .list (s _ _ h) r) (fun h _ r => .scr (s.seq h) r) (fun h _ r => .tup (s.tup h) r) (fun h _ r => .dict (s.rd h) r) (fun h _ r => .obj (s _ _ h) r) (fun h => .exc0 (s _ _ h)) (fun h hd _ r => .exc1 (s _ _ h) (s _ _ hd) r) .nil (fun _ _ h r => .cons h r) .nil (fun _ _ h r => .cons h r) .nil (fun _ _ h r => .cons h r) h
theorem Tr.mono {v : V} {d : D} (h : Tr c ρ F v d) (hρ : ρ <+: ρ') (s : Same F F') : Tr c ρ' F' v d := (tr_mono hρ s).1 v d h
theorem TrAll.mono {v : List V} {d : List D} (h : TrAll c ρ F v d) (hρ : ρ <+: ρ') (s : Same F F') : TrAll c ρ' F' v d := (tr_mono hρ s).2.1 v d h
theorem TrK.mono {v : List (Key × V)} {d : List (Key × D)} (h : TrK c ρ F v d) (hρ : ρ <+: ρ') (s : Same F F') : TrK c ρ' F' v d := (tr_mono hρ s).2.2.1 v d h
theorem TrF.mono {v : List (Str × V)} {d : List (Str × D)} (h : TrF c ρ F v d) (hρ : ρ <+: ρ') (s : Same F F') : TrF c ρ' F' v d := (tr_mono hρ s).2.2.2 v d h
/-- what one thing says -/
inductive CellO (c : Cz) (ρ : List Addr) (F : Hp) : HO → D → Prop
  | list {vs : List V} {ds : List D} (r : TrAll c ρ F vs ds) : CellO c ρ F (.lst vs) (.list ds)
  | tup {vs : List V} {ds : List D} (r : TrAll c ρ F vs ds) : CellO c ρ F (.tup vs) (.tup ds)
  | dict {kvs : List (Key × V)} {ds : List (Key × D)} (r : TrK c ρ F kvs ds) : CellO c ρ F (.dK kvs) (.dict ds)
  | obj {dx : Addr} {k : Nat} {fs : List (Str × V)} {ds : List (Str × D)} (r : TrF c ρ F fs ds) : CellO c ρ F (.ins (c.cad k) dx fs) (.obj k ds)
theorem CellO.mono {o : HO} {d : D} (h : CellO c ρ F o d) (hρ : ρ <+: ρ') (s : Same F F') : CellO c ρ' F' o d := by
  cases h with
  | list r => exact .list (r.mono hρ s)
  | tup r => exact .tup (r.mono hρ s)
  | dict r => exact .dict (r.mono hρ s)
  | obj r => exact .obj (r.mono hρ s)
theorem CellO.tr {o : HO} {d : D} {p : Addr} (h : CellO c ρ F o d) (s : Same F F') (e : F' p = some o) : Tr c ρ F' (.ref p) d := by
  cases h with
  | list r => exact .list e (r.mono (List.prefix_refl _) s)
  | tup r => exact .tup (.inl (.inl e)) (r.mono (List.prefix_refl _) s)
  | dict r => exact .dict (.inl e) (r.mono (List.prefix_refl _) s)
  | obj r => exact .obj e (r.mono (List.prefix_refl _) s)
end
/-- a state: what is frozen (F), whose cells may change (O), the heap (H), the store's cells (ρ) -/
structure Wd where
  F : Hp
  O : Addr → Prop
  H : Hp
  ρ : List Addr
structure Le (w w' : Wd) : Prop where
  fz : Same w.F w'.F
  nf : ∀ b, w'.F b ≠ none → w.F b ≠ none ∨ w.O b ∨ w.H b = none
  fr : ∀ b o, w.H b = some o → ¬ w.O b → w'.H b = some o
  no : ∀ b, w'.O b → w.O b ∨ w.H b = none
  dm : ∀ b, w.H b ≠ none → w'.H b ≠ none
  pr : w.ρ <+: w'.ρ
theorem Le.refl {w : Wd} : Le w w := ⟨Same.refl _, fun _ h => .inl h, fun _ _ h _ => h, fun _ h => .inl h, fun _ h => h, List.prefix_refl _⟩
theorem Le.dm' {w w' : Wd} (h : Le w w') {b : Addr} (e : w'.H b = none) : w.H b = none := by
  cases z : w.H b with
  | none => rfl
  | some o => exact absurd e (h.dm b (by rw [z]; simp))
theorem Le.trans {w w' w'' : Wd} (h : Le w w') (k : Le w' w'') : Le w w'' where
  fz := h.fz.trans k.fz
  nf := fun b z => by
    rcases k.nf b z with z | z | z
    · exact h.nf b z
    · exact .inr (h.no b z)
    · exact .inr (.inr (h.dm' z))
  fr := fun b o e n => k.fr b o (h.fr b o e n) fun z => (h.no b z).elim n fun z => by rw [z] at e; cases e
  no := fun b z => (k.no b z).elim (h.no b) fun z => .inr (h.dm' z)
  dm := fun b z => k.dm b (h.dm b z)
  pr := h.pr.trans k.pr
/-- a variable: shared, or the only one that knows its thing -/
inductive A where | s (d : D) | o (d : D)
/-- what an expression gives: a value that stays, a new thing, the thing of the variable i -/
inductive Rs where | v (d : D) | fr (d : D) | al (i : Nat)
structure S where
  env : List (Option A)
  μ : List D
structure Xn where
  c : Nat
  fs : List (Str × D)
inductive Rz (β : Type) where | ok (b : β) | ex (x : Xn)
abbrev M (β : Type) := S → Option (Rz β × S)
def bnd {β γ : Type} (m : M β) (k : β → M γ) : M γ := fun s => match m s with
  | some (.ok b, s1) => k b s1
  | some (.ex x, s1) => some (.ex x, s1)
  | none => none
def ret {β : Type} (b : β) : M β := fun s => some (.ok b, s)
def opt {β : Type} (o : Option β) : M β := fun s => match o with
  | some b => some (.ok b, s)
  | none => none
def peek (s : S) : Rs → Option D
  | .v (.loc n) => s.μ[n]?
  | .v d => some d
  | .fr d => some d
  | .al i => match s.env[i]? with
    | some (some (.o d)) => some d
    | some (some (.s d)) => some d
    | _ => none
/-- the value stays from here on -/
def stab (r : Rs) : M D := fun s => match r with
  | .v d => some (.ok d, s)
  | .fr d => some (.ok d, s)
  | .al i => match s.env[i]? with
    | some (some (.o d)) => some (.ok d, { s with env := s.env.set i (some (.s d)) })
    | some (some (.s d)) => some (.ok d, s)
    | _ => none
section
variable (c : Cz)
/-- the variable's value -/
def Va (w : Wd) (v : V) : A → Prop
  | .s d => Tr c w.ρ w.F v d
  | .o d => ∃ p o, v = .ref p ∧ w.O p ∧ p ∉ w.ρ ∧ w.H p = some o ∧ CellO c w.ρ w.F o d
structure R (w : Wd) (σ : L2.St) (s : S) : Prop where
  ok : Same w.F w.H
  ow : ∀ b, w.O b → w.F b = none ∧ w.H b ≠ none
  len : w.ρ.length = s.μ.length
  nd : w.ρ.Nodup
  sz : s.env.length = σ.length
  st : ∀ (n : Nat) (p : Addr) (d : D), w.ρ[n]? = some p → s.μ[n]? = some d → w.O p ∧ ∃ o, w.H p = some o ∧ CellO c w.ρ w.F o d
  vr : ∀ (i : Nat) (a : A), s.env[i]? = some (some a) → ∃ v, σ[i]? = some (some v) ∧ Va c w v a
  ne : ∀ (i j : Nat) (p : Addr) (d e : D), s.env[i]? = some (some (.o d)) → s.env[j]? = some (some (.o e)) → σ[i]? = some (some (.ref p)) → σ[j]? = some (some (.ref p)) → i = j
/-- what came: w0 is where it began -/
def Rv (w0 w : Wd) (σ : L2.St) (v : V) : Rs → Prop
  | .v d => Tr c w.ρ w.F v d
  | .fr d => ∃ p o, v = .ref p ∧ w0.H p = none ∧ w.H p = some o ∧ CellO c w.ρ w.F o d ∧ w.F p = none ∧ ¬ w.O p
  | .al i => σ[i]? = some (some v)
/-- an exception's own dict -/
def Xa (w : Wd) (d : Option Addr) (x : Xn) : Prop := (x.fs = [] ∧ d = none) ∨ ∃ a ws, d = some a ∧ w.F a = some (.xd ws) ∧ TrF c w.ρ w.F ws x.fs
/-- a value that is looked at now -/
inductive Pk (w : Wd) : V → D → Prop
  | sc {v : V} {d : D} (h : Tr c w.ρ w.F v d) : Pk w v d
  | cell {p : Addr} {o : HO} {d : D} (e : w.H p = some o) (h : CellO c w.ρ w.F o d) : Pk w (.ref p) d
end
section
variable {c : Cz} {w w' w0 w1 : Wd} {σ : L2.St} {s : S} {v : V} {r : Rs} {d : D}
theorem Rv.base (l : Le w0 w1) (h : Rv c w1 w σ v r) : Rv c w0 w σ v r := by
  cases r with
  | v d => exact h
  | fr d => obtain ⟨p, o, e, n, q⟩ := h; exact ⟨p, o, e, l.dm' n, q⟩
  | al i => exact h
theorem Rv.mono (h : Rv c w0 w σ v r) (l : Le w w') : Rv c w0 w' σ v r := by
  cases r with
  | v d => exact Tr.mono h l.pr l.fz
  | fr d =>
    obtain ⟨p, o, e, n, q, ce, f, no⟩ := h
    refine ⟨p, o, e, n, l.fr p o q no, ce.mono l.pr l.fz, ?_, fun z => (l.no p z).elim no fun z => by rw [z] at q; cases q⟩
    cases z : w'.F p with
    | none => rfl
    | some u =>
      rcases l.nf p (by rw [z]; simp) with y | y | y
      · exact absurd f y
      · exact absurd y no
      · rw [y] at q; cases q
  | al i => exact h
theorem peek_pk (R1 : R c w σ s) (h : Rv c w0 w σ v r) (e : peek s r = some d) : Pk c w v d := by
  cases r with
  | v u =>
    cases u with
    | loc n =>
      cases h with
      | loc hn =>
        obtain ⟨_, o, e1, e2⟩ := R1.st n _ d hn e
        exact .cell e1 e2
    | _ => cases e; exact .sc h
  | fr u =>
    obtain ⟨p, o, rfl, _, q, ce, _⟩ := h
    cases e
    exact .cell q ce
  | al i =>
    unfold peek at e
    simp only at e
    split at e
    · rename_i u hu
      cases e
      obtain ⟨x, hx, p, o, rfl, _, _, q, ce⟩ := R1.vr i _ hu
      rw [h] at hx
      cases hx
      exact .cell q ce
    · rename_i u hu
      cases e
      obtain ⟨x, hx, t⟩ := R1.vr i _ hu
      rw [h] at hx
      cases hx
      exact .sc t
    · cases e
theorem Pk.list {ds : List D} (ok : Same w.F w.H) (h : Pk c w v (.list ds)) : ∃ a vs, v = .ref a ∧ w.H a = some (.lst vs) ∧ TrAll c w.ρ w.F vs ds := by
  cases h with
  | sc h => cases h with | list h r => exact ⟨_, _, rfl, ok _ _ h, r⟩
  | cell e h => cases h with | list r => exact ⟨_, _, rfl, e, r⟩
theorem Pk.scr {ds : List D} (ok : Same w.F w.H) (h : Pk c w v (.scr ds)) : ∃ a vs, v = .ref a ∧ SqL c.K w.H a vs ∧ TrAll c w.ρ w.F vs ds := by
  cases h with
  | sc h => cases h with | scr h r => exact ⟨_, _, rfl, ok.seq h, r⟩
  | cell e h => cases h
theorem Pk.tup {ds : List D} (ok : Same w.F w.H) (h : Pk c w v (.tup ds)) : ∃ a vs, v = .ref a ∧ SqT c.K w.H a vs ∧ TrAll c w.ρ w.F vs ds := by
  cases h with
  | sc h => cases h with | tup h r => exact ⟨_, _, rfl, ok.tup h, r⟩
  | cell e h => cases h with | tup r => exact ⟨_, _, rfl, .inl (.inl e), r⟩
theorem Pk.dict {ds : List (Key × D)} (ok : Same w.F w.H) (h : Pk c w v (.dict ds)) : ∃ a vs, v = .ref a ∧ Rd w.H a (.dK vs) ∧ TrK c w.ρ w.F vs ds := by
  cases h with
  | sc h => cases h with | dict h r => exact ⟨_, _, rfl, ok.rd h, r⟩
  | cell e h => cases h with | dict r => exact ⟨_, _, rfl, .inl e, r⟩
theorem Pk.obj {k : Nat} {ds : List (Str × D)} (ok : Same w.F w.H) (h : Pk c w v (.obj k ds)) : ∃ a dx vs, v = .ref a ∧ w.H a = some (.ins (c.cad k) dx vs) ∧ TrF c w.ρ w.F vs ds := by
  cases h with
  | sc h => cases h with | obj h r => exact ⟨_, _, _, rfl, ok _ _ h, r⟩
  | cell e h => cases h with | obj r => exact ⟨_, _, _, rfl, e, r⟩
theorem Pk.int {i : Int} (h : Pk c w v (.int i)) : v = .int i := by
  cases h with
  | sc h => cases h; rfl
  | cell e h => cases h
theorem Pk.str {i : Str} (h : Pk c w v (.str i)) : v = .str i := by
  cases h with
  | sc h => cases h; rfl
  | cell e h => cases h
theorem Pk.bl {i : Bool} (h : Pk c w v (.bl i)) : v = .bl i := by
  cases h with
  | sc h => cases h; rfl
  | cell e h => cases h
theorem Pk.non (h : Pk c w v .non) : v = .non := by
  cases h with
  | sc h => cases h; rfl
  | cell e h => cases h
theorem Pk.ty {n : String} (h : Pk c w v (.ty n)) : v = .ty n := by
  cases h with
  | sc h => cases h; rfl
  | cell e h => cases h
theorem Pk.cl {n : Nat} (h : Pk c w v (.cl n)) : v = .ref (c.cad n) := by
  cases h with
  | sc h => cases h; rfl
  | cell e h => cases h
/-- the state behind a new thing -/
def Wd.new (w : Wd) (p : Addr) (o : HO) : Wd := ⟨w.F, w.O, upd w.H p o, w.ρ⟩
theorem Va.new {a : A} {p : Addr} {o : HO} (h : Va c w v a) (hp : w.H p = none) : Va c (w.new p o) v a := by
  cases a with
  | s d => exact h
  | o d =>
    obtain ⟨q, u, e, h1, h2, h3, h4⟩ := h
    exact ⟨q, u, e, h1, h2, by show upd w.H p o q = _; rw [upd_ne (ne_of_none h3 hp)]; exact h3, h4⟩
theorem R.new {p : Addr} {o : HO} (R1 : R c w σ s) (hp : w.H p = none) : R c (w.new p o) σ s where
  ok := fun b u e => by show upd w.H p o b = _; rw [upd_ne (ne_of_none (R1.ok _ _ e) hp)]; exact R1.ok _ _ e
  ow := fun b z => ⟨(R1.ow b z).1, by
    show upd w.H p o b ≠ none
    have : b ≠ p := fun e => (R1.ow b z).2 (by rw [e]; exact hp)
    rw [upd_ne this]; exact (R1.ow b z).2⟩
  len := R1.len
  nd := R1.nd
  sz := R1.sz
  st := fun n q d e1 e2 => by
    obtain ⟨h1, u, h2, h3⟩ := R1.st n q d e1 e2
    exact ⟨h1, u, by show upd w.H p o q = _; rw [upd_ne (ne_of_none h2 hp)]; exact h2, h3⟩
  vr := fun i a e => by
    obtain ⟨v, h1, h2⟩ := R1.vr i a e
    exact ⟨v, h1, h2.new hp⟩
  ne := R1.ne
theorem Le.new {p : Addr} {o : HO} (hp : w.H p = none) : Le w (w.new p o) where
  fz := Same.refl _
  nf := fun _ z => .inl z
  fr := fun b u e _ => by show upd w.H p o b = _; rw [upd_ne (ne_of_none e hp)]; exact e
  no := fun _ z => .inl z
  dm := fun b z => by
    show upd w.H p o b ≠ none
    by_cases e : b = p
    · rw [e, upd_same]; simp
    · rw [upd_ne e]; exact z
  pr := List.prefix_refl _
theorem Rv.new {p : Addr} {o : HO} (R1 : R c w σ s) (hp : w.H p = none) (h : CellO c w.ρ w.F o d) : Rv c w (w.new p o) σ (.ref p) (.fr d) := by
  refine ⟨p, o, rfl, hp, upd_same, h, ?_, fun z => (R1.ow p z).2 hp⟩
  cases e : w.F p with
  | none => exact e
  | some u => exact absurd (R1.ok _ _ e) (by rw [hp]; simp)
/-- a new thing that stays -/
def Wd.keep (w : Wd) (p : Addr) (o : HO) : Wd := ⟨upd w.F p o, w.O, w.H, w.ρ⟩
theorem same_keep {p : Addr} {o : HO} (h : w.F p = none) : Same w.F (w.keep p o).F := Same.new h
theorem R.keep {p : Addr} {o : HO} (R1 : R c w σ s) (hp : w.F p = none) (ho : w.H p = some o) (no : ¬ w.O p) : R c (w.keep p o) σ s where
  ok := fun b u e => by
    by_cases z : b = p
    · subst z
      have : upd w.F b o b = some u := e
      rw [upd_same] at this
      cases this
      exact ho
    · have : upd w.F p o b = some u := e
      rw [upd_ne z] at this
      exact R1.ok _ _ this
  ow := fun b z => ⟨by
    show upd w.F p o b = none
    have : b ≠ p := fun e => no (e ▸ z)
    rw [upd_ne this]; exact (R1.ow b z).1, (R1.ow b z).2⟩
  len := R1.len
  nd := R1.nd
  sz := R1.sz
  st := fun n q d e1 e2 => by
    obtain ⟨h1, u, h2, h3⟩ := R1.st n q d e1 e2
    exact ⟨h1, u, h2, h3.mono (List.prefix_refl _) (same_keep hp)⟩
  vr := fun i a e => by
    obtain ⟨v, h1, h2⟩ := R1.vr i a e
    refine ⟨v, h1, ?_⟩
    cases a with
    | s d => exact Tr.mono h2 (List.prefix_refl _) (same_keep hp)
    | o d => obtain ⟨q, u, e, h1, h2, h3, h4⟩ := h2; exact ⟨q, u, e, h1, h2, h3, h4.mono (List.prefix_refl _) (same_keep hp)⟩
  ne := R1.ne
/-- a variable's thing stays from here on -/
def Wd.frz (w : Wd) (p : Addr) (o : HO) : Wd := ⟨upd w.F p o, fun b => w.O b ∧ b ≠ p, w.H, w.ρ⟩
theorem frz_ok {i : Nat} (R1 : R c w σ s) (h : s.env[i]? = some (some (.o d))) (hv : σ[i]? = some (some v)) :
    ∃ w', Le w w' ∧ w'.H = w.H ∧ R c w' σ { s with env := s.env.set i (some (.s d)) } ∧ Tr c w'.ρ w'.F v d := by
  obtain ⟨x, hx, p, o, rfl, hO, hρ, hH, ce⟩ := R1.vr i _ h
  rw [hv] at hx
  cases hx
  have hF := (R1.ow p hO).1
  have sm : Same w.F (w.frz p o).F := Same.new hF
  have tr : Tr c w.ρ (w.frz p o).F (.ref p) d := ce.tr sm upd_same
  refine ⟨w.frz p o, ⟨sm, fun b z => ?_, fun b u e _ => e, fun b z => .inl z.1, fun b z => z, List.prefix_refl _⟩, rfl, ⟨fun b u e => ?_, fun b z => ⟨?_, (R1.ow b z.1).2⟩, R1.len, R1.nd, (List.length_set ..).trans R1.sz, fun n q u e1 e2 => ?_, fun j a e => ?_, fun j k q u z e1 e2 e3 e4 => ?_⟩, tr⟩
  · by_cases e : b = p
    · exact .inr (.inl (e ▸ hO))
    · have : upd w.F p o b ≠ none := z
      rw [upd_ne e] at this
      exact .inl this
  · by_cases z : b = p
    · subst z
      have : upd w.F b o b = some u := e
      rw [upd_same] at this
      cases this
      exact hH
    · have : upd w.F p o b = some u := e
      rw [upd_ne z] at this
      exact R1.ok _ _ this
  · show upd w.F p o b = none
    rw [upd_ne z.2]; exact (R1.ow b z.1).1
  · obtain ⟨h1, u, h2, h3⟩ := R1.st n q u e1 e2
    exact ⟨⟨h1, fun z => hρ (by rw [← z]; exact List.mem_of_getElem? e1)⟩, u, h2, h3.mono (List.prefix_refl _) sm⟩
  · by_cases ij : i = j
    · subst ij
      have hi : i < s.env.length := (List.getElem?_eq_some_iff.mp h).1
      rw [List.getElem?_set_self hi] at e
      cases e
      exact ⟨_, hv, tr⟩
    · rw [List.getElem?_set_ne ij] at e
      obtain ⟨x, h1, h2⟩ := R1.vr j a e
      refine ⟨x, h1, ?_⟩
      cases a with
      | s u => exact Tr.mono h2 (List.prefix_refl _) sm
      | o u =>
        obtain ⟨q, y, rfl, h3, h4, h5, h6⟩ := h2
        exact ⟨q, y, rfl, ⟨h3, fun z => ij (R1.ne i j q d u h e (by rw [z]; exact hv) h1)⟩, h4, h5, h6.mono (List.prefix_refl _) sm⟩
  · have g : ∀ {j : Nat} {u : D}, (s.env.set i (some (A.s d)))[j]? = some (some (A.o u)) → s.env[j]? = some (some (A.o u)) := by
      intro j u e
      by_cases ij : i = j
      · subst ij
        have hi : i < s.env.length := (List.getElem?_eq_some_iff.mp h).1
        rw [List.getElem?_set_self hi] at e
        cases e
      · rw [List.getElem?_set_ne ij] at e; exact e
    exact R1.ne j k q u z (g e1) (g e2) e3 e4
/-- stab, told by states -/
theorem stab_ok {s' : S} (R1 : R c w σ s) (l : Le w0 w) (h : Rv c w0 w σ v r) (e : stab r s = some (.ok d, s')) :
    ∃ w', Le w0 w' ∧ w'.H = w.H ∧ R c w' σ s' ∧ Tr c w'.ρ w'.F v d := by
  cases r with
  | v u => cases e; exact ⟨w, l, rfl, R1, h⟩
  | fr u =>
    cases e
    obtain ⟨p, o, rfl, n, q, ce, f, no⟩ := h
    refine ⟨w.keep p o, ⟨l.fz.trans (same_keep f), fun b z => ?_, l.fr, l.no, l.dm, l.pr⟩, rfl, R1.keep f q no, ce.tr (same_keep f) upd_same⟩
    by_cases e : b = p
    · exact .inr (.inr (e ▸ n))
    · have : upd w.F p o b ≠ none := z
      rw [upd_ne e] at this
      exact l.nf b this
  | al i =>
    unfold stab at e
    simp only at e
    split at e
    · rename_i u hu
      cases e
      obtain ⟨w', l', eh, R', t⟩ := frz_ok R1 hu h
      exact ⟨w', l.trans l', eh, R', t⟩
    · rename_i u hu
      cases e
      obtain ⟨x, hx, t⟩ := R1.vr i _ hu
      rw [h] at hx
      cases hx
      exact ⟨w, l, rfl, R1, t⟩
    · cases e
theorem stab_not_ex {x : Xn} {s' : S} (e : stab r s = some (.ex x, s')) : False := by
  unfold stab at e
  cases r with
  | v _ => cases e
  | fr _ => cases e
  | al i => simp only at e; split at e <;> cases e
end
end Z
/-! readings of expressions as functions on trees -/
namespace Z
open PySem PySem.Spec PyProof.Rows L2 U
/-- none of the new things stands at p -/
inductive NoFr (p : Addr) : List V → List Rs → Prop
  | nil : NoFr p [] []
  | cons {v : V} {r : Rs} {vs : List V} {rs : List Rs} (h : ∀ d, r = .fr d → v ≠ .ref p) (t : NoFr p vs rs) : NoFr p (v :: vs) (r :: rs)
section
variable (c : Cz)
def PostE (w : Wd) (σ : L2.St) (s' : S) (Q : VK) (E : XS) : Rz Rs → Prop
  | .ok r => ∀ w' v, Le w w' → R c w' σ s' → Rv c w w' σ v r → Q v w'.H
  | .ex x => ∀ w' d, Le w w' → R c w' σ s' → Xa c w' d x → E σ (.ref (c.cad x.c)) d w'.H
def Sim (E : XS) (t : TE) (T : M Rs) : Prop := ∀ w σ s out s' Q, R c w σ s → T s = some (out, s') → PostE c w σ s' Q E out → t σ w.H Q
def PostA (w : Wd) (σ : L2.St) (s' : S) (Q : List V → Hp → Prop) (E : XS) : Rz (List D) → Prop
  | .ok ds => ∀ w' vs, Le w w' → R c w' σ s' → TrAll c w'.ρ w'.F vs ds → Q vs w'.H
  | .ex x => ∀ w' d, Le w w' → R c w' σ s' → Xa c w' d x → E σ (.ref (c.cad x.c)) d w'.H
/-- arguments that are handed on -/
def SimA (E : XS) (t : TA) (T : M (List D)) : Prop := ∀ w σ s out s' Q, R c w σ s → T s = some (out, s') → PostA c w σ s' Q E out → t σ w.H Q
inductive RvAll (w0 w : Wd) (σ : L2.St) : List V → List Rs → Prop
  | nil : RvAll w0 w σ [] []
  | cons {v : V} {r : Rs} {vs : List V} {rs : List Rs} (h : Rv c w0 w σ v r) (t : RvAll w0 w σ vs rs) (ne : ∀ d p, r = .fr d → v = .ref p → NoFr p vs rs) : RvAll w0 w σ (v :: vs) (r :: rs)
def PostP (w : Wd) (σ : L2.St) (s' : S) (Q : List V → Hp → Prop) (E : XS) : Rz (List Rs) → Prop
  | .ok ds => ∀ w' vs, Le w w' → R c w' σ s' → RvAll c w w' σ vs ds → Q vs w'.H
  | .ex x => ∀ w' d, Le w w' → R c w' σ s' → Xa c w' d x → E σ (.ref (c.cad x.c)) d w'.H
/-- arguments that are looked at -/
def SimP (E : XS) (t : TA) (T : M (List Rs)) : Prop := ∀ w σ s out s' Q, R c w σ s → T s = some (out, s') → PostP c w σ s' Q E out → t σ w.H Q
def PostT (w : Wd) (σ : L2.St) (s' : S) (Q : Bool → Hp → Prop) (E : XS) : Rz Bool → Prop
  | .ok b => ∀ w', Le w w' → R c w' σ s' → Q b w'.H
  | .ex x => ∀ w' d, Le w w' → R c w' σ s' → Xa c w' d x → E σ (.ref (c.cad x.c)) d w'.H
def SimT (E : XS) (t : TT) (T : M Bool) : Prop := ∀ w σ s out s' Q, R c w σ s → T s = some (out, s') → PostT c w σ s' Q E out → t σ w.H Q
/-- what an operation on values owes -/
def RQ (w : Wd) (r : Rs) (Q : VK) : Prop := match r with
  | .v d => ∀ v, Tr c w.ρ w.F v d → Q v w.H
  | .fr d => ∀ p o, w.H p = none → CellO c w.ρ w.F o d → Q (.ref p) (upd w.H p o)
  | .al _ => True
def OpS (op : R2) (f : D → D → Option Rs) : Prop := ∀ w x y d e r Q, Same w.F w.H → Pk c w x d → Pk c w y e → f d e = some r → RQ c w r Q → op x y w.H Q
def UnS (op : V → Hp → VK → Prop) (f : D → Option Rs) : Prop := ∀ w x d r Q, Same w.F w.H → Pk c w x d → f d = some r → RQ c w r Q → op x w.H Q
inductive PkAll (w : Wd) : List V → List D → Prop
  | nil : PkAll w [] []
  | cons {v : V} {d : D} {vs : List V} {ds : List D} (h : Pk c w v d) (r : PkAll w vs ds) : PkAll w (v :: vs) (d :: ds)
def CallS (op : List V → Hp → VK → Prop) (f : List D → Option Rs) : Prop := ∀ w xs ds r Q, Same w.F w.H → PkAll c w xs ds → f ds = some r → RQ c w r Q → op xs w.H Q
end
def pk (r : Rs) : M D := fun s => opt (peek s r) s
def pks : List Rs → M (List D)
  | [] => ret []
  | r :: rs => bnd (pk r) fun d => bnd (pks rs) fun ds => ret (d :: ds)
def TC (d : D) : M Rs := ret (.v d)
def TVar (i : Nat) : M Rs := fun s => match s.env[i]? with
  | some (some (.s d)) => some (.ok (.v d), s)
  | some (some (.o _)) => some (.ok (.al i), s)
  | _ => none
def TOp (f : D → D → Option Rs) (a b : M Rs) : M Rs := bnd a fun x => bnd b fun y => bnd (pk x) fun d => bnd (pk y) fun e => opt (f d e)
def TUn (f : D → Option Rs) (a : M Rs) : M Rs := bnd a fun x => bnd (pk x) fun d => opt (f d)
def asB : D → M Bool
  | .bl b => ret b
  | _ => fun _ => none
def TB (a : M Rs) : M Bool := bnd a fun x => bnd (pk x) asB
def TNotV (a : M Rs) : M Rs := bnd (TB a) fun b => ret (.v (.bl (!b)))
def TAndV (a b : M Rs) : M Rs := bnd (TB a) fun x => if x = true then b else ret (.v (.bl false))
def TOrV (a b : M Rs) : M Rs := bnd (TB a) fun x => if x = true then ret (.v (.bl true)) else b
def TIf {β : Type} (t : M Bool) (a b : M β) : M β := bnd t fun x => if x = true then a else b
def TNot (t : M Bool) : M Bool := bnd t fun x => ret (!x)
def TAnd (t u : M Bool) : M Bool := bnd t fun x => if x = true then u else ret false
def TOr (t u : M Bool) : M Bool := bnd t fun x => if x = true then ret true else u
def TYes : M Bool := ret true
def TChain (f g : D → D → Option Rs) (a b k : M Rs) : M Rs := bnd a fun x => bnd b fun y => bnd (pk x) fun d => bnd (pk y) fun e => bnd (opt (f d e)) fun r => match r with
  | .v (.bl z) => if z = true then bnd k fun q => bnd (pk y) fun e2 => bnd (pk q) fun u => opt (g e2 u) else ret (.v (.bl false))
  | _ => fun _ => none
def TNil : M (List D) := ret []
def TCons (a : M Rs) (t : M (List D)) : M (List D) := bnd a fun x => bnd (stab x) fun d => bnd t fun ds => ret (d :: ds)
def TStar (a : M Rs) (t : M (List D)) : M (List D) := bnd a fun x => bnd (pk x) fun d => match d with
  | .list xs => bnd t fun ds => ret (xs ++ ds)
  | .tup xs => bnd t fun ds => ret (xs ++ ds)
  | .scr xs => bnd t fun ds => ret (xs ++ ds)
  | _ => fun _ => none
def PNil : M (List Rs) := ret []
def PCons (a : M Rs) (t : M (List Rs)) : M (List Rs) := bnd a fun x => bnd t fun xs => ret (x :: xs)
def fits (n : Nat) : Bool := decide (n ≤ 16777216)
def TLst (t : M (List D)) : M Rs := bnd t fun ds => if fits ds.length = true then ret (.fr (.list ds)) else fun _ => none
def TTup (t : M (List D)) : M Rs := bnd t fun ds => if fits ds.length = true then ret (.fr (.tup ds)) else fun _ => none
def TCB (f : List D → Option Rs) (t : M (List Rs)) : M Rs := bnd t fun rs => bnd (pks rs) fun ds => opt (f ds)
theorem fits_le {n : Nat} (h : fits n = true) : n ≤ sizeLine := by
  have := of_decide_eq_true h
  unfold sizeLine
  omega
section
variable {β γ : Type} {m : M β} {k : β → M γ} {s s' : S} {out : Rz γ}
theorem bnd_some (h : bnd m k s = some (out, s')) : (∃ b s1, m s = some (.ok b, s1) ∧ k b s1 = some (out, s')) ∨ (∃ x, m s = some (.ex x, s') ∧ out = .ex x) := by
  unfold bnd at h
  split at h
  · rename_i b s1 e; exact .inl ⟨b, s1, e, h⟩
  · rename_i x s1 e; cases h; exact .inr ⟨x, e, rfl⟩
  · cases h
theorem opt_some {o : Option β} {z : Rz β} (h : opt o s = some (z, s')) : ∃ b, o = some b ∧ z = .ok b ∧ s' = s := by
  unfold opt at h
  split at h
  · cases h; exact ⟨_, rfl, rfl, rfl⟩
  · cases h
theorem bnd_opt {o : Option β} (h : bnd (opt o) k s = some (out, s')) : ∃ b, o = some b ∧ k b s = some (out, s') := by
  rcases bnd_some h with ⟨b, s1, e, q⟩ | ⟨x, e, _⟩
  · obtain ⟨b', e1, e2, e3⟩ := opt_some e
    cases e2; subst e3
    exact ⟨b, e1, q⟩
  · obtain ⟨b', _, e2, _⟩ := opt_some e
    cases e2
theorem bnd_pk {r : Rs} {k : D → M γ} (h : bnd (pk r) k s = some (out, s')) : ∃ d, peek s r = some d ∧ k d s = some (out, s') := bnd_opt (o := peek s r) h
end
theorem bnd_pks {γ : Type} {s s' : S} {out : Rz γ} : ∀ {rs : List Rs} {k : List D → M γ}, bnd (pks rs) k s = some (out, s') → ∃ ds, rs.map (peek s) = ds.map some ∧ k ds s = some (out, s')
  | [], k, h => ⟨[], rfl, h⟩
  | r :: rs, k, h => by
    rcases bnd_some h with ⟨b, s1, e, h⟩ | ⟨x, e, _⟩
    · obtain ⟨d, e1, e2⟩ := bnd_pk e
      obtain ⟨ds, e3, e4⟩ := bnd_pks e2
      cases e4
      exact ⟨d :: ds, by simp [e1, e3], h⟩
    · obtain ⟨d, e1, e2⟩ := bnd_pk e
      obtain ⟨ds, e3, e4⟩ := bnd_pks e2
      cases e4
section
variable {c : Cz} {E : XS} {w w0 : Wd} {σ : L2.St} {s : S}
theorem RvAll.mono {w' : Wd} (l : Le w w') : ∀ {vs : List V} {rs : List Rs}, RvAll c w0 w σ vs rs → RvAll c w0 w' σ vs rs
  | _, _, .nil => .nil
  | _, _, .cons h t n => .cons (h.mono l) (t.mono l) n
theorem RvAll.base {w1 : Wd} (l : Le w0 w1) : ∀ {vs : List V} {rs : List Rs}, RvAll c w1 w σ vs rs → RvAll c w0 w σ vs rs
  | _, _, .nil => .nil
  | _, _, .cons h t n => .cons (h.base l) (t.base l) n
theorem RvAll.pk (R1 : R c w σ s) : ∀ {vs : List V} {rs : List Rs} {ds : List D}, RvAll c w0 w σ vs rs → rs.map (peek s) = ds.map some → PkAll c w vs ds
  | _, _, [], .nil, _ => .nil
  | _, _, _ :: _, .nil, e => by cases e
  | _, _, [], .cons h t _, e => by cases e
  | _, _, d :: ds, .cons h t _, e => by
    simp only [List.map_cons, List.cons.injEq] at e
    exact .cons (peek_pk R1 h e.1) (RvAll.pk R1 t e.2)
theorem RvAll.noFr {p : Addr} {o : HO} (hp : w0.H p = some o) : ∀ {vs : List V} {rs : List Rs}, RvAll c w0 w σ vs rs → NoFr p vs rs
  | _, _, .nil => .nil
  | _, _, .cons h t _ => .cons (fun d e1 e2 => by subst e1; subst e2; obtain ⟨q, o, e, n, _⟩ := h; cases e; rw [hp] at n; cases n) (t.noFr hp)
theorem rq_post {r : Rs} {Q : VK} (R1 : R c w σ s) (l : Le w0 w) (post : PostE c w0 σ s Q E (.ok r)) : RQ c w r Q := by
  cases r with
  | v d => exact fun v t => post w v l R1 t
  | fr d => exact fun p o hp ce => post (w.new p o) (.ref p) (l.trans (Le.new hp)) (R1.new hp) ((Rv.new R1 hp ce).base l)
  | al i => trivial
theorem sim_C {v : V} {d : D} (h : ∀ ρ F, Tr c ρ F v d) : Sim c E (tC v) (TC d) := by
  intro w σ s out s' Q R1 e post
  cases e
  exact post w v Le.refl R1 (h _ _)
theorem sim_Var {i : Nat} : Sim c E (tVar i) (TVar i) := by
  intro w σ s out s' Q R1 e post
  unfold TVar at e
  split at e
  · rename_i d hd
    cases e
    obtain ⟨v, h1, h2⟩ := R1.vr i _ hd
    exact ⟨v, h1, post w v Le.refl R1 h2⟩
  · rename_i d hd
    cases e
    obtain ⟨v, h1, h2⟩ := R1.vr i _ hd
    exact ⟨v, h1, post w v Le.refl R1 h1⟩
  · cases e
theorem sim_Op {op : R2} {f : D → D → Option Rs} {ta tb : TE} {Ta Tb : M Rs} (ho : OpS c op f) (ha : Sim c E ta Ta) (hb : Sim c E tb Tb) : Sim c E (tOp op ta tb) (TOp f Ta Tb) := by
  intro w σ s out s' Q R1 e post
  rcases bnd_some e with ⟨x, s1, e1, e⟩ | ⟨x, e1, rfl⟩
  · refine ha w σ s _ s1 _ R1 e1 fun w1 v1 l1 R2 rv1 => ?_
    rcases bnd_some e with ⟨y, s2, e2, e⟩ | ⟨x', e2, rfl⟩
    · refine hb w1 σ s1 _ s2 _ R2 e2 fun w2 v2 l2 R3 rv2 => ?_
      obtain ⟨d, p1, e⟩ := bnd_pk e
      obtain ⟨d2, p2, e⟩ := bnd_pk e
      obtain ⟨r, e3, rfl, rfl⟩ := opt_some e
      exact ho w2 v1 v2 d d2 r Q R3.ok (peek_pk R3 (rv1.mono l2) p1) (peek_pk R3 rv2 p2) e3 (rq_post R3 (l1.trans l2) post)
    · exact hb w1 σ s1 _ s' _ R2 e2 fun w2 d l2 R3 xa => post w2 d (l1.trans l2) R3 xa
  · exact ha w σ s _ s' _ R1 e1 fun w1 d l1 R2 xa => post w1 d l1 R2 xa
theorem sim_Un {op : V → Hp → VK → Prop} {f : D → Option Rs} {ta : TE} {Ta : M Rs} (ho : UnS c op f) (ha : Sim c E ta Ta) : Sim c E (tUn op ta) (TUn f Ta) := by
  intro w σ s out s' Q R1 e post
  rcases bnd_some e with ⟨x, s1, e1, e⟩ | ⟨x, e1, rfl⟩
  · refine ha w σ s _ s1 _ R1 e1 fun w1 v1 l1 R2 rv1 => ?_
    obtain ⟨d, p1, e⟩ := bnd_pk e
    obtain ⟨r, e3, rfl, rfl⟩ := opt_some e
    exact ho w1 v1 d r Q R2.ok (peek_pk R2 rv1 p1) e3 (rq_post R2 l1 post)
  · exact ha w σ s _ s' _ R1 e1 fun w1 d l1 R2 xa => post w1 d l1 R2 xa
theorem asB_some {d : D} {s s' : S} {out : Rz Bool} (h : asB d s = some (out, s')) : ∃ b, d = .bl b ∧ out = .ok b ∧ s' = s := by
  cases d with
  | bl b => cases h; exact ⟨b, rfl, rfl, rfl⟩
  | _ => cases h
/-- a value that is a bool -/
theorem tb_run {ta : TE} {Ta : M Rs} (ha : Sim c E ta Ta) {out : Rz Bool} {s' : S} {Q : Bool → Hp → Prop} (R1 : R c w σ s) (e : TB Ta s = some (out, s')) (post : PostT c w σ s' Q E out) : ta σ w.H fun x H1 => ∃ k, x = .bl k ∧ Q k H1 := by
  rcases bnd_some e with ⟨x, s1, e1, e⟩ | ⟨x, e1, rfl⟩
  · refine ha w σ s _ s1 _ R1 e1 fun w1 v1 l1 R2 rv1 => ?_
    obtain ⟨d, p1, e⟩ := bnd_pk e
    obtain ⟨b, rfl, rfl, rfl⟩ := asB_some e
    exact ⟨b, (peek_pk R2 rv1 p1).bl, post w1 l1 R2⟩
  · exact ha w σ s _ s' _ R1 e1 fun w1 d l1 R2 xa => post w1 d l1 R2 xa
theorem sim_B {ta : TE} {Ta : M Rs} (ha : Sim c E ta Ta) : SimT c E (tB ta) (TB Ta) := fun w σ s out s' Q R1 e post => tb_run ha R1 e post
theorem sim_Test {ta : TE} {Ta : M Rs} (ha : Sim c E ta Ta) : SimT c E (tTest ta) (TB Ta) := fun w σ s out s' Q R1 e post => tb_run ha R1 e post
theorem sim_NotV {ta : TE} {Ta : M Rs} (ha : Sim c E ta Ta) : Sim c E (tNotV ta) (TNotV Ta) := by
  intro w σ s out s' Q R1 e post
  rcases bnd_some e with ⟨b, s1, e1, e⟩ | ⟨x, e1, rfl⟩
  · cases e
    exact tb_run ha (Q := fun k H1 => Q (.bl (!k)) H1) R1 e1 fun w1 l1 R2 => post w1 _ l1 R2 (.bl _)
  · exact tb_run ha (Q := fun k H1 => Q (.bl (!k)) H1) R1 e1 post
theorem sim_AndV {ta tb : TE} {Ta Tb : M Rs} (ha : Sim c E ta Ta) (hb : Sim c E tb Tb) : Sim c E (tAndV ta tb) (TAndV Ta Tb) := by
  intro w σ s out s' Q R1 e post
  rcases bnd_some e with ⟨b, s1, e1, e⟩ | ⟨x, e1, rfl⟩
  · refine tb_run ha (Q := fun k H1 => if k = true then tb σ H1 Q else Q (.bl false) H1) R1 e1 fun w1 l1 R2 => ?_
    cases b with
    | true =>
      refine hb w1 σ s1 out s' Q R2 e ?_
      cases out with
      | ok r => exact fun w2 v l2 R3 rv => post w2 v (l1.trans l2) R3 (rv.base l1)
      | ex x => exact fun w2 d l2 R3 xa => post w2 d (l1.trans l2) R3 xa
    | false => cases e; exact post w1 _ l1 R2 (.bl _)
  · exact tb_run ha (Q := fun k H1 => if k = true then tb σ H1 Q else Q (.bl false) H1) R1 e1 post
theorem sim_If {t : TT} {T : M Bool} {ta tb : TE} {Ta Tb : M Rs} (ht : SimT c E t T) (ha : Sim c E ta Ta) (hb : Sim c E tb Tb) : Sim c E (tIf t ta tb) (TIf T Ta Tb) := by
  intro w σ s out s' Q R1 e post
  rcases bnd_some e with ⟨b, s1, e1, e⟩ | ⟨x, e1, rfl⟩
  · refine ht w σ s _ s1 _ R1 e1 fun w1 l1 R2 => ?_
    have post2 : PostE c w1 σ s' Q E out := by
      cases out with
      | ok r => exact fun w2 v l2 R3 rv => post w2 v (l1.trans l2) R3 (rv.base l1)
      | ex x => exact fun w2 d l2 R3 xa => post w2 d (l1.trans l2) R3 xa
    cases b with
    | true => exact ha w1 σ s1 out s' Q R2 e post2
    | false => exact hb w1 σ s1 out s' Q R2 e post2
  · exact ht w σ s _ s' _ R1 e1 post
theorem sim_Not {t : TT} {T : M Bool} (ht : SimT c E t T) : SimT c E (tNot t) (TNot T) := by
  intro w σ s out s' Q R1 e post
  rcases bnd_some e with ⟨b, s1, e1, e⟩ | ⟨x, e1, rfl⟩
  · cases e; exact ht w σ s _ _ _ R1 e1 fun w1 l1 R2 => post w1 l1 R2
  · exact ht w σ s _ s' _ R1 e1 post
theorem sim_And {t u : TT} {T U : M Bool} (ht : SimT c E t T) (hu : SimT c E u U) : SimT c E (tAnd t u) (TAnd T U) := by
  intro w σ s out s' Q R1 e post
  rcases bnd_some e with ⟨b, s1, e1, e⟩ | ⟨x, e1, rfl⟩
  · refine ht w σ s _ s1 _ R1 e1 fun w1 l1 R2 => ?_
    cases b with
    | true =>
      refine hu w1 σ s1 out s' Q R2 e ?_
      cases out with
      | ok r => exact fun w2 l2 R3 => post w2 (l1.trans l2) R3
      | ex x => exact fun w2 d l2 R3 xa => post w2 d (l1.trans l2) R3 xa
    | false => cases e; exact post w1 l1 R2
  · exact ht w σ s _ s' _ R1 e1 post
theorem sim_Or {t u : TT} {T U : M Bool} (ht : SimT c E t T) (hu : SimT c E u U) : SimT c E (tOr t u) (TOr T U) := by
  intro w σ s out s' Q R1 e post
  rcases bnd_some e with ⟨b, s1, e1, e⟩ | ⟨x, e1, rfl⟩
  · refine ht w σ s _ s1 _ R1 e1 fun w1 l1 R2 => ?_
    cases b with
    | false =>
      refine hu w1 σ s1 out s' Q R2 e ?_
      cases out with
      | ok r => exact fun w2 l2 R3 => post w2 (l1.trans l2) R3
      | ex x => exact fun w2 d l2 R3 xa => post w2 d (l1.trans l2) R3 xa
    | true => cases e; exact post w1 l1 R2
  · exact ht w σ s _ s' _ R1 e1 post
theorem sim_Yes : SimT c E tYes TYes := by
  intro w σ s out s' Q R1 e post
  cases e; exact post w Le.refl R1
theorem sim_Chain {op op2 : R2} {f g : D → D → Option Rs} {ta tb tk : TE} {Ta Tb Tk : M Rs} (ho : OpS c op f) (ho2 : OpS c op2 g) (ha : Sim c E ta Ta) (hb : Sim c E tb Tb) (hk : Sim c E tk Tk) : Sim c E (tChain op op2 ta tb tk) (TChain f g Ta Tb Tk) := by
  intro w σ s out s' Q R1 e post
  rcases bnd_some e with ⟨x, s1, e1, e⟩ | ⟨x, e1, rfl⟩
  · refine ha w σ s _ s1 _ R1 e1 fun w1 v1 l1 R2 rv1 => ?_
    rcases bnd_some e with ⟨y, s2, e2, e⟩ | ⟨x', e2, rfl⟩
    · refine hb w1 σ s1 _ s2 _ R2 e2 fun w2 v2 l2 R3 rv2 => ?_
      obtain ⟨d, p1, e⟩ := bnd_pk e
      obtain ⟨d2, p2, e⟩ := bnd_pk e
      obtain ⟨r, e3, e⟩ := bnd_opt e
      have pa := peek_pk R3 (rv1.mono l2) p1
      have pb := peek_pk R3 rv2 p2
      match r, e, e3 with
      | .v (.bl z), e, e3 =>
        refine ho w2 v1 v2 d d2 _ _ R3.ok pa pb e3 fun v tv => ?_
        cases tv
        refine ⟨z, rfl, ?_⟩
        cases z with
        | false => cases e; exact post w2 _ (l1.trans l2) R3 (.bl _)
        | true =>
          rcases bnd_some e with ⟨q, s3, e4, e⟩ | ⟨x', e4, rfl⟩
          · refine hk w2 σ s2 _ s3 _ R3 e4 fun w3 v3 l3 R4 rv3 => ?_
            obtain ⟨d3, p3, e⟩ := bnd_pk e
            obtain ⟨d4, p4, e⟩ := bnd_pk e
            obtain ⟨r, e5, rfl, rfl⟩ := opt_some e
            exact ho2 w3 v2 v3 d3 d4 r Q R4.ok (peek_pk R4 (rv2.mono l3) p3) (peek_pk R4 rv3 p4) e5 (rq_post R4 ((l1.trans l2).trans l3) post)
          · exact hk w2 σ s2 _ s' _ R3 e4 fun w3 d l3 R4 xa => post w3 d ((l1.trans l2).trans l3) R4 xa
    · exact hb w1 σ s1 _ s' _ R2 e2 fun w2 d l2 R3 xa => post w2 d (l1.trans l2) R3 xa
  · exact ha w σ s _ s' _ R1 e1 fun w1 d l1 R2 xa => post w1 d l1 R2 xa
theorem sim_Nil : SimA c E tNil TNil := by
  intro w σ s out s' Q R1 e post
  cases e; exact post w [] Le.refl R1 .nil
theorem sim_Cons {ta : TE} {Ta : M Rs} {t : TA} {T : M (List D)} (ha : Sim c E ta Ta) (ht : SimA c E t T) : SimA c E (tCons ta t) (TCons Ta T) := by
  intro w σ s out s' Q R1 e post
  rcases bnd_some e with ⟨x, s1, e1, e⟩ | ⟨x, e1, rfl⟩
  · refine ha w σ s _ s1 _ R1 e1 fun w1 v1 l1 R2 rv1 => ?_
    rcases bnd_some e with ⟨d, s2, e2, e⟩ | ⟨x', e2, rfl⟩
    · obtain ⟨w2, l2, eH, R3, tr⟩ := stab_ok R2 l1 rv1 e2
      rw [← eH]
      rcases bnd_some e with ⟨ds, s3, e3, e⟩ | ⟨x', e3, rfl⟩
      · cases e
        exact ht w2 σ s2 _ _ _ R3 e3 fun w3 vs l3 R4 ta => post w3 _ (l2.trans l3) R4 (.cons (tr.mono l3.pr l3.fz) ta)
      · exact ht w2 σ s2 _ s' _ R3 e3 fun w3 d l3 R4 xa => post w3 d (l2.trans l3) R4 xa
    · exact (stab_not_ex e2).elim
  · exact ha w σ s _ s' _ R1 e1 fun w1 d l1 R2 xa => post w1 d l1 R2 xa
theorem TrAll.append {ρ : List Addr} {F : Hp} : ∀ {vs us : List V} {ds es : List D}, TrAll c ρ F vs ds → TrAll c ρ F us es → TrAll c ρ F (vs ++ us) (ds ++ es)
  | _, _, _, _, .nil, h => h
  | _, _, _, _, .cons a b, h => .cons a (b.append h)
theorem sim_Star {ta : TE} {Ta : M Rs} {t : TA} {T : M (List D)} (ha : Sim c E ta Ta) (ht : SimA c E t T) : SimA c E (StX.tStar c.K ta t) (TStar Ta T) := by
  intro w σ s out s' Q R1 e post
  rcases bnd_some e with ⟨x, s1, e1, e⟩ | ⟨x, e1, rfl⟩
  · refine ha w σ s _ s1 _ R1 e1 fun w1 v1 l1 R2 rv1 => ?_
    obtain ⟨d, p1, e⟩ := bnd_pk e
    have pa := peek_pk R2 rv1 p1
    have go : ∀ {xs : List D} {us : List V}, TrAll c w1.ρ w1.F us xs → bnd T (fun ds => ret (xs ++ ds)) s1 = some (out, s') → t σ w1.H fun ys H2 => Q (us ++ ys) H2 := by
      intro xs us tu e
      rcases bnd_some e with ⟨ds, s3, e3, e⟩ | ⟨x', e3, rfl⟩
      · cases e
        exact ht w1 σ s1 _ _ _ R2 e3 fun w3 vs l3 R4 ta => post w3 _ (l1.trans l3) R4 ((tu.mono l3.pr l3.fz).append ta)
      · exact ht w1 σ s1 _ s' _ R2 e3 fun w3 d l3 R4 xa => post w3 d (l1.trans l3) R4 xa
    match d, e, pa with
    | .list xs, e, pa => obtain ⟨a, us, rfl, hs, tu⟩ := pa.list R2.ok; exact ⟨a, us, rfl, .inr (.inl (.inl hs)), go tu e⟩
    | .tup xs, e, pa => obtain ⟨a, us, rfl, hs, tu⟩ := pa.tup R2.ok; exact ⟨a, us, rfl, .inl hs, go tu e⟩
    | .scr xs, e, pa => obtain ⟨a, us, rfl, hs, tu⟩ := pa.scr R2.ok; exact ⟨a, us, rfl, .inr hs, go tu e⟩
  · exact ha w σ s _ s' _ R1 e1 fun w1 d l1 R2 xa => post w1 d l1 R2 xa
theorem sim_PNil : SimP c E tNil PNil := by
  intro w σ s out s' Q R1 e post
  cases e; exact post w [] Le.refl R1 .nil
theorem sim_PCons {ta : TE} {Ta : M Rs} {t : TA} {T : M (List Rs)} (ha : Sim c E ta Ta) (ht : SimP c E t T) : SimP c E (tCons ta t) (PCons Ta T) := by
  intro w σ s out s' Q R1 e post
  rcases bnd_some e with ⟨x, s1, e1, e⟩ | ⟨x, e1, rfl⟩
  · refine ha w σ s _ s1 _ R1 e1 fun w1 v1 l1 R2 rv1 => ?_
    rcases bnd_some e with ⟨ds, s3, e3, e⟩ | ⟨x', e3, rfl⟩
    · cases e
      exact ht w1 σ s1 _ _ _ R2 e3 fun w3 vs l3 R4 ta => post w3 _ (l1.trans l3) R4 (.cons (rv1.mono l3) (ta.base l1) fun d p e1 e2 => by subst e1; subst e2; obtain ⟨q, o, e, n, h, _⟩ := rv1; cases e; exact ta.noFr h)
    · exact ht w1 σ s1 _ s' _ R2 e3 fun w3 d l3 R4 xa => post w3 d (l1.trans l3) R4 xa
  · exact ha w σ s _ s' _ R1 e1 fun w1 d l1 R2 xa => post w1 d l1 R2 xa
theorem trall_len {ρ : List Addr} {F : Hp} : ∀ {vs : List V} {ds : List D}, TrAll c ρ F vs ds → vs.length = ds.length
  | _, _, .nil => rfl
  | _, _, .cons _ b => congrArg (· + 1) (trall_len b)
theorem sim_Lst {t : TA} {T : M (List D)} (ht : SimA c E t T) : Sim c E (tLst t) (TLst T) := by
  intro w σ s out s' Q R1 e post
  rcases bnd_some e with ⟨ds, s1, e1, e⟩ | ⟨x, e1, rfl⟩
  · by_cases f : fits ds.length = true
    · rw [if_pos f] at e
      cases e
      refine ht w σ s _ _ _ R1 e1 fun w1 vs l1 R2 ta => ⟨by rw [trall_len ta]; exact fits_le f, fun p hp => ?_⟩
      exact rq_post (E := E) R2 l1 post p _ hp (.list ta)
    · rw [if_neg f] at e; cases e
  · exact ht w σ s _ s' _ R1 e1 post
theorem sim_Tup {t : TA} {T : M (List D)} (ht : SimA c E t T) : Sim c E (tTup t) (TTup T) := by
  intro w σ s out s' Q R1 e post
  rcases bnd_some e with ⟨ds, s1, e1, e⟩ | ⟨x, e1, rfl⟩
  · by_cases f : fits ds.length = true
    · rw [if_pos f] at e
      cases e
      refine ht w σ s _ _ _ R1 e1 fun w1 vs l1 R2 ta => ⟨by rw [trall_len ta]; exact fits_le f, fun p hp => ?_⟩
      exact rq_post (E := E) R2 l1 post p _ hp (.tup ta)
    · rw [if_neg f] at e; cases e
  · exact ht w σ s _ s' _ R1 e1 post
theorem sim_CB {op : List V → Hp → VK → Prop} {f : List D → Option Rs} {t : TA} {T : M (List Rs)} (ho : CallS c op f) (ht : SimP c E t T) : Sim c E (tCB op t) (TCB f T) := by
  intro w σ s out s' Q R1 e post
  rcases bnd_some e with ⟨rs, s1, e1, e⟩ | ⟨x, e1, rfl⟩
  · refine ht w σ s _ s1 _ R1 e1 fun w1 vs l1 R2 rv => ?_
    obtain ⟨ds, e2, e⟩ := bnd_pks e
    obtain ⟨r, e3, rfl, rfl⟩ := opt_some e
    exact ho w1 vs ds r Q R2.ok (rv.pk R2 e2) e3 (rq_post R2 l1 post)
  · exact ht w σ s _ s' _ R1 e1 post
end
end Z
/-! readings of statements as functions on trees -/
namespace Z
open PySem PySem.Spec PyProof.Rows L2 U
inductive Fl where | nx | rt (r : Rs) | bk | ct | ex (x : Xn)
abbrev TSd := S → Option (Fl × S)
section
variable (c : Cz)
def PostS (w : Wd) (D : Ends) (E : XS) (s' : S) : Fl → Prop
  | .nx => ∀ w' σ', Le w w' → R c w' σ' s' → D.nx σ' w'.H
  | .rt r => ∀ w' σ' v, Le w w' → R c w' σ' s' → Rv c w w' σ' v r → D.rt v w'.H
  | .bk => ∀ w' σ', Le w w' → R c w' σ' s' → D.bk σ' w'.H
  | .ct => ∀ w' σ', Le w w' → R c w' σ' s' → D.ct σ' w'.H
  | .ex x => ∀ w' σ' d, Le w w' → R c w' σ' s' → Xa c w' d x → E σ' (.ref (c.cad x.c)) d w'.H
def SimS (E : XS) (t : TS) (T : TSd) : Prop := ∀ w σ s fl s' D, R c w σ s → T s = some (fl, s') → PostS c w D E s' fl → t D σ w.H
end
def sb {β : Type} (m : M β) (k : β → TSd) : TSd := fun s => match m s with
  | some (.ok b, s1) => k b s1
  | some (.ex x, s1) => some (.ex x, s1)
  | none => none
theorem sb_some {β : Type} {m : M β} {k : β → TSd} {s s' : S} {fl : Fl} (h : sb m k s = some (fl, s')) : (∃ b s1, m s = some (.ok b, s1) ∧ k b s1 = some (fl, s')) ∨ (∃ x, m s = some (.ex x, s') ∧ fl = .ex x) := by
  unfold sb at h
  split at h
  · rename_i b s1 e; exact .inl ⟨b, s1, e, h⟩
  · rename_i x s1 e; cases h; exact .inr ⟨x, e, rfl⟩
  · cases h
def nxt (o : Option S) : Option (Fl × S) := match o with
  | some s => some (.nx, s)
  | none => none
theorem nxt_some {o : Option S} {fl : Fl} {s' : S} (h : nxt o = some (fl, s')) : o = some s' ∧ fl = .nx := by
  cases o with
  | none => cases h
  | some s => cases h; exact ⟨rfl, rfl⟩
def TNext : TSd := fun s => some (.nx, s)
def TBreak : TSd := fun s => some (.bk, s)
def TCont : TSd := fun s => some (.ct, s)
def TSeq (T U : TSd) : TSd := fun s => match T s with
  | some (.nx, s1) => U s1
  | x => x
def TRet (T : M Rs) : TSd := sb T fun r s => some (.rt r, s)
def TRetN : TSd := fun s => some (.rt (.v .non), s)
def TDrop (T : M Rs) : TSd := sb T fun _ s => some (.nx, s)
def TIfS (t : M Bool) (T U : TSd) : TSd := sb t fun b => if b = true then T else U
def setV (i : Nat) (a : A) (s : S) : Option S := if i < s.env.length then some { s with env := s.env.set i (some a) } else none
/-- a variable's thing is shared from here on -/
def res1 (r : Rs) : M Rs := match r with
  | .al i => bnd (stab (.al i)) fun d => ret (.v d)
  | r => ret r
def asg (i : Nat) (r : Rs) (s : S) : Option S := match r with
  | .v d => setV i (.s d) s
  | .fr d => setV i (.o d) s
  | .al _ => none
def TAsg (T : M Rs) (i : Nat) : TSd := sb T fun r => sb (res1 r) fun r s => nxt (asg i r s)
section
variable {c : Cz} {E : XS} {w w0 : Wd} {σ : L2.St} {s s' : S}
theorem PostS.from {D : Ends} {fl : Fl} (l : Le w0 w) (h : PostS c w0 D E s' fl) : PostS c w D E s' fl := by
  cases fl with
  | nx => exact fun w' σ' l' R' => h w' σ' (l.trans l') R'
  | rt r => exact fun w' σ' v l' R' rv => h w' σ' v (l.trans l') R' (rv.base l)
  | bk => exact fun w' σ' l' R' => h w' σ' (l.trans l') R'
  | ct => exact fun w' σ' l' R' => h w' σ' (l.trans l') R'
  | ex x => exact fun w' σ' d l' R' xa => h w' σ' d (l.trans l') R' xa
theorem sim_Next : SimS c E tNext TNext := by
  intro w σ s fl s' D R1 e post
  cases e; exact post w σ Le.refl R1
theorem sim_Seq {t u : TS} {T U : TSd} (ht : SimS c E t T) (hu : SimS c E u U) : SimS c E (tSeq t u) (TSeq T U) := by
  intro w σ s fl s' D R1 e post
  unfold TSeq at e
  split at e
  · rename_i s1 e1
    exact ht w σ s _ s1 _ R1 e1 fun w1 σ1 l1 R2 => hu w1 σ1 s1 fl s' D R2 e (post.from l1)
  · rename_i ne
    refine ht w σ s fl s' _ R1 e ?_
    cases fl with
    | nx => exact absurd e (ne s')
    | rt r => exact post
    | bk => exact post
    | ct => exact post
    | ex x => exact post
theorem sim_Ret {t : TE} {T : M Rs} (ht : Sim c E t T) : SimS c E (tRet t) (TRet T) := by
  intro w σ s fl s' D R1 e post
  rcases sb_some e with ⟨r, s1, e1, e⟩ | ⟨x, e1, rfl⟩
  · cases e
    exact ht w σ s _ _ _ R1 e1 fun w1 v l1 R2 rv => post w1 σ v l1 R2 rv
  · exact ht w σ s _ _ _ R1 e1 fun w1 d l1 R2 xa => post w1 σ d l1 R2 xa
theorem sim_Drop {t : TE} {T : M Rs} (ht : Sim c E t T) : SimS c E (tDrop t) (TDrop T) := by
  intro w σ s fl s' D R1 e post
  rcases sb_some e with ⟨r, s1, e1, e⟩ | ⟨x, e1, rfl⟩
  · cases e
    exact ht w σ s _ _ _ R1 e1 fun w1 v l1 R2 rv => post w1 σ l1 R2
  · exact ht w σ s _ _ _ R1 e1 fun w1 d l1 R2 xa => post w1 σ d l1 R2 xa
theorem sim_IfS {b : TT} {B : M Bool} {t u : TS} {T U : TSd} (hb : SimT c E b B) (ht : SimS c E t T) (hu : SimS c E u U) : SimS c E (tIfS b t u) (TIfS B T U) := by
  intro w σ s fl s' D R1 e post
  rcases sb_some e with ⟨z, s1, e1, e⟩ | ⟨x, e1, rfl⟩
  · refine hb w σ s _ s1 _ R1 e1 fun w1 l1 R2 => ?_
    cases z with
    | true => exact ht w1 σ s1 fl s' D R2 e (post.from l1)
    | false => exact hu w1 σ s1 fl s' D R2 e (post.from l1)
  · exact hb w σ s _ s' _ R1 e1 fun w1 d l1 R2 xa => post w1 σ d l1 R2 xa
/-! ### assignments -/
theorem setV_some {i : Nat} {a : A} (h : setV i a s = some s') : i < s.env.length ∧ s' = { s with env := s.env.set i (some a) } := by
  unfold setV at h
  split at h
  · rename_i z; cases h; exact ⟨z, rfl⟩
  · cases h
/-- a shared value given to a variable -/
theorem setS_ok {i : Nat} {v : V} {d : D} (R1 : R c w σ s) (t : Tr c w.ρ w.F v d) (h : setV i (.s d) s = some s') : R c w (σ.set i (some v)) s' := by
  obtain ⟨hi, rfl⟩ := setV_some h
  have hi2 : i < σ.length := by rw [← R1.sz]; exact hi
  refine ⟨R1.ok, R1.ow, R1.len, R1.nd, by simp [R1.sz], R1.st, fun j a e => ?_, fun j k p u z e1 e2 e3 e4 => ?_⟩
  · by_cases ij : i = j
    · subst ij
      rw [List.getElem?_set_self hi] at e
      cases e
      exact ⟨v, List.getElem?_set_self hi2, t⟩
    · rw [List.getElem?_set_ne ij] at e
      rw [List.getElem?_set_ne ij]
      exact R1.vr j a e
  · have g : ∀ {j : Nat} {u : D}, (s.env.set i (some (A.s d)))[j]? = some (some (A.o u)) → i ≠ j ∧ s.env[j]? = some (some (A.o u)) := by
      intro j u e
      by_cases ij : i = j
      · subst ij
        rw [List.getElem?_set_self hi] at e
        cases e
      · rw [List.getElem?_set_ne ij] at e; exact ⟨ij, e⟩
    obtain ⟨n1, e1⟩ := g e1
    obtain ⟨n2, e2⟩ := g e2
    rw [List.getElem?_set_ne n1] at e3
    rw [List.getElem?_set_ne n2] at e4
    exact R1.ne j k p u z e1 e2 e3 e4
def Wd.own (w : Wd) (p : Addr) : Wd := ⟨w.F, fun b => w.O b ∨ b = p, w.H, w.ρ⟩
theorem R.rho {n : Nat} {p : Addr} (R1 : R c w σ s) (h : w.ρ[n]? = some p) : w.O p := by
  have hn : n < s.μ.length := by rw [← R1.len]; exact (List.getElem?_eq_some_iff.mp h).1
  exact (R1.st n p _ h (List.getElem?_eq_getElem hn)).1
theorem R.rho' {p : Addr} (R1 : R c w σ s) (h : p ∈ w.ρ) : w.O p := by
  obtain ⟨n, h⟩ := List.mem_iff_getElem?.mp h
  exact R1.rho h
/-- a new thing given to a variable -/
theorem setO_ok {i : Nat} {p : Addr} {o : HO} {d : D} (R1 : R c w σ s) (hp : w.H p = some o) (ce : CellO c w.ρ w.F o d) (hf : w.F p = none) (no : ¬ w.O p) (h : setV i (.o d) s = some s') : R c (w.own p) (σ.set i (some (.ref p))) s' := by
  obtain ⟨hi, rfl⟩ := setV_some h
  have hi2 : i < σ.length := by rw [← R1.sz]; exact hi
  refine ⟨R1.ok, fun b z => ?_, R1.len, R1.nd, by simp [R1.sz], fun n q u e1 e2 => ?_, fun j a e => ?_, fun j k q u z e1 e2 e3 e4 => ?_⟩
  · rcases z with z | rfl
    · exact R1.ow b z
    · exact ⟨hf, by show w.H b ≠ none; rw [hp]; simp⟩
  · obtain ⟨h1, h2⟩ := R1.st n q u e1 e2
    exact ⟨.inl h1, h2⟩
  · by_cases ij : i = j
    · subst ij
      rw [List.getElem?_set_self hi] at e
      cases e
      exact ⟨.ref p, List.getElem?_set_self hi2, p, o, rfl, .inr rfl, fun z => no (R1.rho' z), hp, ce⟩
    · rw [List.getElem?_set_ne ij] at e
      rw [List.getElem?_set_ne ij]
      obtain ⟨v, h1, h2⟩ := R1.vr j a e
      refine ⟨v, h1, ?_⟩
      cases a with
      | s u => exact h2
      | o u => obtain ⟨q, y, e, h3, h4⟩ := h2; exact ⟨q, y, e, .inl h3, h4⟩
  · have g : ∀ {j : Nat} {u : D} {q : Addr}, (s.env.set i (some (A.o d)))[j]? = some (some (A.o u)) → (σ.set i (some (.ref p)))[j]? = some (some (.ref q)) → (i = j ∧ q = p) ∨ (i ≠ j ∧ s.env[j]? = some (some (A.o u)) ∧ σ[j]? = some (some (.ref q)) ∧ w.O q) := by
      intro j u q e e'
      by_cases ij : i = j
      · subst ij
        rw [List.getElem?_set_self hi2] at e'
        cases e'
        exact .inl ⟨rfl, rfl⟩
      · rw [List.getElem?_set_ne ij] at e e'
        obtain ⟨v, h1, p', o', rfl, h3, _⟩ := R1.vr j _ e
        rw [e'] at h1
        cases h1
        exact .inr ⟨ij, e, e', h3⟩
    rcases g e1 e3 with ⟨rfl, rfl⟩ | ⟨n1, a1, b1, c1⟩
    · rcases g e2 e4 with ⟨rfl, _⟩ | ⟨n2, a2, b2, c2⟩
      · rfl
      · exact absurd c2 no
    · rcases g e2 e4 with ⟨rfl, rfl⟩ | ⟨n2, a2, b2, c2⟩
      · exact absurd c1 no
      · exact R1.ne j k q u z a1 a2 b1 b2
theorem Le.own {p : Addr} (l : Le w0 w) (n : w0.H p = none) : Le w0 (w.own p) := ⟨l.fz, l.nf, l.fr, fun b z => z.elim (l.no b) fun e => .inr (e ▸ n), l.dm, l.pr⟩
theorem asg_ok {i : Nat} {v : V} {r : Rs} (R1 : R c w σ s) (l : Le w0 w) (h : Rv c w0 w σ v r) (e : asg i r s = some s') :
    ∃ w', Le w0 w' ∧ w'.H = w.H ∧ w'.F = w.F ∧ w'.ρ = w.ρ ∧ (∀ b, w'.O b → w.O b ∨ (v = .ref b ∧ ∃ d, r = .fr d)) ∧ R c w' (σ.set i (some v)) s' := by
  cases r with
  | v d => exact ⟨w, l, rfl, rfl, rfl, fun b z => .inl z, setS_ok R1 h e⟩
  | fr d =>
    obtain ⟨p, o, rfl, n, q, ce, f, no⟩ := h
    exact ⟨w.own p, l.own n, rfl, rfl, rfl, fun b z => z.elim .inl fun z => .inr ⟨by rw [z], d, rfl⟩, setO_ok R1 q ce f no e⟩
  | al j => cases e
theorem res1_ok {v : V} {r r' : Rs} (R1 : R c w σ s) (h : Rv c w0 w σ v r) (e : res1 r s = some (.ok r', s')) : ∃ w', Le w w' ∧ w'.H = w.H ∧ R c w' σ s' ∧ Rv c w0 w' σ v r' ∧ ((∃ d, r' = .fr d) → r' = r) := by
  cases r with
  | v d => cases e; exact ⟨w, Le.refl, rfl, R1, h, fun _ => rfl⟩
  | fr d => cases e; exact ⟨w, Le.refl, rfl, R1, h, fun _ => rfl⟩
  | al i =>
    rcases bnd_some e with ⟨d, s1, e1, e⟩ | ⟨x, e1, h⟩
    · cases e
      obtain ⟨w', l', eh, R', t⟩ := stab_ok R1 Le.refl (w0 := w) (r := .al i) h e1
      exact ⟨w', l', eh, R', t, fun ⟨d, z⟩ => by cases z⟩
    · exact (stab_not_ex e1).elim
theorem res1_not_ex {r : Rs} {x : Xn} (e : res1 r s = some (.ex x, s')) : False := by
  cases r with
  | v d => cases e
  | fr d => cases e
  | al i =>
    rcases bnd_some e with ⟨d, s1, e1, e⟩ | ⟨x, e1, h⟩
    · cases e
    · exact stab_not_ex e1
theorem sim_Asg {t : TE} {T : M Rs} {i : Nat} (ht : Sim c E t T) : SimS c E (tAsg t (gName i)) (TAsg T i) := by
  intro w σ s fl s' D R1 e post
  rcases sb_some e with ⟨r, s1, e1, e⟩ | ⟨x, e1, rfl⟩
  · refine ht w σ s _ s1 _ R1 e1 fun w1 v l1 R2 rv => ?_
    rcases sb_some e with ⟨r', s2, e2, e⟩ | ⟨x, e2, rfl⟩
    · obtain ⟨w2, l2, eh, R3, rv2, _⟩ := res1_ok R2 rv e2
      obtain ⟨e3, rfl⟩ := nxt_some e
      obtain ⟨w3, l3, eh3, _, _, _, R4⟩ := asg_ok R3 (l1.trans l2) rv2 e3
      show D.nx (σ.set i (some v)) w1.H
      rw [← eh, ← eh3]
      exact post w3 _ l3 R4
    · exact (res1_not_ex e2).elim
  · exact ht w σ s _ _ _ R1 e1 fun w1 d l1 R2 xa => post w1 σ d l1 R2 xa
end
/-- several values given to several variables -/
def res : List Rs → M (List Rs)
  | [] => ret []
  | r :: rs => bnd (res1 r) fun r => bnd (res rs) fun rs => ret (r :: rs)
def asgs : List Nat → List Rs → S → Option S
  | [], [], s => some s
  | i :: is, r :: rs, s => (asg i r s).bind fun s => asgs is rs s
  | _, _, _ => none
def TPar (is : List Nat) (T : M (List Rs)) : TSd := sb T fun rs => sb (res rs) fun rs s => nxt (asgs is rs s)
def setVs : List Nat → List V → L2.St → L2.St
  | i :: is, v :: vs, σ => setVs is vs (σ.set i (some v))
  | _, _, σ => σ
section
variable {c : Cz} {E : XS} {w w0 : Wd} {σ : L2.St} {s s' : S}
inductive VF : List Rs → Prop
  | nil : VF []
  | cons {r : Rs} {rs : List Rs} (h : ∀ i, r ≠ .al i) (t : VF rs) : VF (r :: rs)
theorem res_ok : ∀ {w : Wd} {s s' : S} {vs : List V} {rs rs' : List Rs}, R c w σ s → RvAll c w0 w σ vs rs → res rs s = some (.ok rs', s') → ∃ w', Le w w' ∧ w'.H = w.H ∧ R c w' σ s' ∧ RvAll c w0 w' σ vs rs' ∧ VF rs' ∧ ∀ p, NoFr p vs rs → NoFr p vs rs'
  | w, s, s', _, _, rs', R1, .nil, e => by cases e; exact ⟨w, Le.refl, rfl, R1, .nil, .nil, fun p h => h⟩
  | w, s, s', _, _, rs', R1, .cons (v := v) (r := r) h t ne, e => by
    rcases bnd_some e with ⟨r', s1, e1, e⟩ | ⟨x, e1, h⟩
    · obtain ⟨w1, l1, h1, R2, rv, fe⟩ := res1_ok R1 h e1
      rcases bnd_some e with ⟨rs2, s2, e2, e⟩ | ⟨x, e2, h⟩
      · cases e
        obtain ⟨w2, l2, h2, R3, ra, vf, nf⟩ := res_ok R2 (t.mono l1) e2
        have na : ∀ i, r' ≠ .al i := fun i z => by
          subst z
          cases r with
          | v d => cases e1
          | fr d => cases e1
          | al j =>
            rcases bnd_some e1 with ⟨d, s1, e1, e⟩ | ⟨x, e1, h⟩
            · cases e
            · cases h
        refine ⟨w2, l1.trans l2, h2.trans h1, R3, .cons (rv.mono l2) ra fun d p z1 z2 => nf p (ne d p ?_ z2), .cons na vf, fun p h => ?_⟩
        · rw [← fe ⟨d, z1⟩]; exact z1
        · cases h with
          | cons h1 h2 => exact .cons (fun d z => h1 d (by rw [← fe ⟨d, z⟩]; exact z)) (nf p h2)
      · cases h
    · cases h
theorem res_not_ex : ∀ {s s' : S} {rs : List Rs} {x : Xn}, res rs s = some (.ex x, s') → False
  | s, s', [], x, e => by cases e
  | s, s', r :: rs, x, e => by
    rcases bnd_some e with ⟨r', s1, e1, e⟩ | ⟨x, e1, h⟩
    · rcases bnd_some e with ⟨rs2, s2, e2, e⟩ | ⟨x, e2, h⟩
      · cases e
      · exact res_not_ex e2
    · exact res1_not_ex e1
theorem asgs_ok : ∀ {w : Wd} {σ : L2.St} {s s' : S} {is : List Nat} {vs : List V} {rs : List Rs}, R c w σ s → Le w0 w → RvAll c w0 w σ vs rs → VF rs → asgs is rs s = some s' → ∃ w', Le w0 w' ∧ w'.H = w.H ∧ R c w' (setVs is vs σ) s'
  | w, σ, s, s', [], _, _, R1, l, .nil, _, e => by cases e; exact ⟨w, l, rfl, R1⟩
  | w, σ, s, s', i :: is, _, _, R1, l, .nil, _, e => by cases e
  | w, σ, s, s', [], _, _, R1, l, .cons .., _, e => by cases e
  | w, σ, s, s', i :: is, _, _, R1, l, .cons (v := v) (r := r) (vs := vs) (rs := rs) h t ne, .cons na vf, e => by
    unfold asgs at e
    cases e1 : asg i r s with
    | none => rw [e1] at e; cases e
    | some s1 =>
      rw [e1] at e
      obtain ⟨w1, l1, h1, hF, hρ, hO, R2⟩ := asg_ok R1 l h e1
      have ra : RvAll c w0 w1 (σ.set i (some v)) vs rs := by
        have go : ∀ {vs : List V} {rs : List Rs}, RvAll c w0 w σ vs rs → VF rs → (∀ d p, r = Rs.fr d → v = .ref p → NoFr p vs rs) → RvAll c w0 w1 (σ.set i (some v)) vs rs := by
          intro vs rs ra
          induction ra with
          | nil => exact fun _ _ => .nil
          | cons h t ne ih =>
            rename_i v' r' vs' rs'
            intro vf nf
            cases vf with
            | cons na vf =>
              refine .cons ?_ (ih vf fun d p a b => by cases nf d p a b with | cons _ t => exact t) ne
              cases r' with
              | v d => show Tr c w1.ρ w1.F _ _; rw [hF, hρ]; exact h
              | al j => exact absurd rfl (na j)
              | fr d =>
                obtain ⟨p, o, rfl, n, q, ce, f, no⟩ := h
                refine ⟨p, o, rfl, n, by rw [h1]; exact q, by rw [hF, hρ]; exact ce, by rw [hF]; exact f, fun z => ?_⟩
                rcases hO p z with z | ⟨z, d', z2⟩
                · exact no z
                · cases nf d' p z2 z with
                  | cons hh _ => exact hh d rfl rfl
        exact go t vf ne
      obtain ⟨w2, l2, h2, R3⟩ := asgs_ok R2 l1 ra vf e
      exact ⟨w2, l2, h2.trans h1, R3⟩
theorem par_run {t : TA} {T : M (List Rs)} {is : List Nat} (ht : SimP c E t T) {fl : Fl} {D : Ends} (R1 : R c w σ s) (e : TPar is T s = some (fl, s')) (post : PostS c w D E s' fl) {Q : List V → Hp → Prop} (hq : ∀ vs H1, vs.length = is.length → D.nx (setVs is vs σ) H1 → Q vs H1) : t σ w.H Q := by
  rcases sb_some e with ⟨rs, s1, e1, e⟩ | ⟨x, e1, rfl⟩
  · refine ht w σ s _ s1 _ R1 e1 fun w1 vs l1 R2 rv => ?_
    rcases sb_some e with ⟨rs', s2, e2, e⟩ | ⟨x, e2, rfl⟩
    · obtain ⟨w2, l2, eh, R3, rv2, vf, _⟩ := res_ok R2 rv e2
      obtain ⟨e3, rfl⟩ := nxt_some e
      obtain ⟨w3, l3, eh3, R4⟩ := asgs_ok R3 (l1.trans l2) rv2 vf e3
      refine hq vs w1.H ?_ (by rw [← eh, ← eh3]; exact post w3 _ l3 R4)
      have g : ∀ {vs : List V} {rs : List Rs} {is : List Nat} {s s' : S}, RvAll c w w2 σ vs rs → asgs is rs s = some s' → vs.length = is.length := by
        intro vs rs is s s' ra
        induction ra generalizing is s with
        | nil =>
          intro e
          cases is with
          | nil => rfl
          | cons _ _ => cases e
        | cons h t ne ih =>
          intro e
          cases is with
          | nil => cases e
          | cons i is =>
            unfold asgs at e
            cases e1 : asg i _ s with
            | none => rw [e1] at e; cases e
            | some s1 => rw [e1] at e; exact congrArg (· + 1) (ih e)
      exact g rv2 e3
    · exact (res_not_ex e2).elim
  · exact ht w σ s _ _ _ R1 e1 fun w1 d l1 R2 xa => post w1 σ d l1 R2 xa
theorem len2 {vs : List V} (h : vs.length = 2) : ∃ a b, vs = [a, b] := by
  match vs, h with
  | [a, b], _ => exact ⟨a, b, rfl⟩
/-- a reading of arguments may be weakened at its end -/
theorem sim_Par {t : TA} {T : M (List Rs)} {i j : Nat} (ht : SimP c E t T) : SimS c E (tPar i j t) (TPar [i, j] T) := by
  intro w σ s fl s' D R1 e post
  refine par_run ht R1 e post fun vs H hl q => ?_
  obtain ⟨a, b, rfl⟩ := len2 hl
  exact ⟨a, b, rfl, q⟩
end
end Z
/-! loops, comprehensions, changes in place -/
namespace Z
open PySem PySem.Spec PyProof.Rows L2 U
/-! ### targets -/
abbrev GD := D → S → Option S
abbrev GDs := List D → S → Option S
def GName (i : Nat) : GD := fun d s => setV i (.s d) s
def GNil : GDs := fun ds s => match ds with
  | [] => some s
  | _ => none
def GCons (g : GD) (h : GDs) : GDs := fun ds s => match ds with
  | d :: ds => (g d s).bind (h ds)
  | [] => none
def GTup (n : Nat) (h : GDs) : GD := fun d s => match d with
  | .tup ds => if ds.length = n then h ds s else none
  | _ => none
section
variable (c : Cz)
/-- a target, its variables ix -/
def SimG (ix : List Nat) (g : TG) (G : GD) : Prop := ∀ w σ s v d s' Q, R c w σ s → Tr c w.ρ w.F v d → G d s = some s' → (∀ σ', R c w σ' s' → (∀ vs, (∀ i ∈ ix, i ∈ vs) → wipe σ' vs = wipe σ vs) → Q σ' w.H) → g v σ w.H Q
def SimGs (ix : List Nat) (g : TGs) (G : GDs) : Prop := ∀ w σ s v d s' Q, R c w σ s → TrAll c w.ρ w.F v d → G d s = some s' → (∀ σ', R c w σ' s' → (∀ vs, (∀ i ∈ ix, i ∈ vs) → wipe σ' vs = wipe σ vs) → Q σ' w.H) → g v σ w.H Q
end
theorem wipe_set {i : Nat} {x : Option V} : ∀ {vs : List Nat} {σ : L2.St}, i ∈ vs → wipe (σ.set i x) vs = wipe σ vs
  | [], σ, h => by cases h
  | v :: vs, σ, h => by
    unfold wipe
    by_cases e : i = v
    · subst e
      by_cases m : i ∈ vs
      · rw [wipe_set m]
      · have : ∀ (vs : List Nat) (σ : L2.St), i ∉ vs → wipe (σ.set i x) vs = (wipe σ vs).set i x := by
          intro vs
          induction vs with
          | nil => intro σ _; rfl
          | cons u us ih =>
            intro σ hu
            simp only [List.mem_cons, not_or] at hu
            unfold wipe
            rw [ih σ hu.2, List.set_comm _ _ hu.1]
        rw [this vs σ m, List.set_set]
    · rw [wipe_set (by cases h with | head => exact absurd rfl e | tail _ h => exact h)]
section
variable {c : Cz} {E : XS} {w w0 : Wd} {σ : L2.St} {s s' : S}
theorem sim_GName {i : Nat} : SimG c [i] (gName i) (GName i) := fun w σ s v d s' Q R1 t e q => q _ (setS_ok R1 t e) fun vs h => wipe_set (h i (by simp))
theorem sim_GNil : SimGs c [] gNil GNil := by
  intro w σ s v d s' Q R1 t e q
  cases t with
  | nil => cases e; exact ⟨rfl, q σ R1 fun _ _ => rfl⟩
  | cons _ _ => cases e
theorem sim_GCons {ix iy : List Nat} {g : TG} {G : GD} {h : TGs} {G2 : GDs} (hg : SimG c ix g G) (hh : SimGs c iy h G2) : SimGs c (ix ++ iy) (gCons g h) (GCons G G2) := by
  intro w σ s v d s' Q R1 t e q
  cases t with
  | nil => cases e
  | cons t1 t2 =>
    unfold GCons at e
    simp only [Option.bind_eq_some_iff] at e
    obtain ⟨s1, e1, e2⟩ := e
    refine ⟨_, _, rfl, hg w σ s _ _ s1 _ R1 t1 e1 fun σ1 R2 w1 => hh w σ1 s1 _ _ s' _ R2 t2 e2 fun σ2 R3 w2 => q σ2 R3 fun vs hv => ?_⟩
    rw [w2 vs fun i hi => hv i (List.mem_append_right _ hi), w1 vs fun i hi => hv i (List.mem_append_left _ hi)]
theorem sim_GTup {n : Nat} {ix : List Nat} {g : TGs} {G : GDs} (hg : SimGs c ix g G) : SimG c ix (gTup c.K n g) (GTup n G) := by
  intro w σ s v d s' Q R1 t e q
  unfold GTup at e
  split at e
  · rename_i ds
    split at e
    · rename_i hn
      cases t with
      | tup h r => exact ⟨_, _, rfl, R1.ok.tup h, (trall_len r).trans hn, hg w σ s _ _ s' Q R1 r e q⟩
    · cases e
  · cases e
end
/-! ### what a loop walks -/
section
variable (c : Cz)
structure GoesD (w : Wd) (J : It) (ds : List D) : Prop where
  go : ∀ w2 i, Le w w2 → Same w2.F w2.H → i < ds.length → J.go i w2.H
  stop : ∀ w2, Le w w2 → Same w2.F w2.H → J.stop ds.length w2.H
  yld : ∀ w2 i d x H', Le w w2 → Same w2.F w2.H → ds[i]? = some d → J.yld i w2.H x H' → ∃ w3, w3.H = H' ∧ Le w2 w3 ∧ (∀ σ s, R c w2 σ s → R c w3 σ s) ∧ Tr c w3.ρ w3.F x d
def PostI (w : Wd) (σ : L2.St) (s' : S) (Q : It → Hp → Prop) (E : XS) : Rz (List D) → Prop
  | .ok ds => ∀ w' J, Le w w' → R c w' σ s' → GoesD c w' J ds → Q J w'.H
  | .ex x => ∀ w' d, Le w w' → R c w' σ s' → Xa c w' d x → E σ (.ref (c.cad x.c)) d w'.H
def SimI (E : XS) (t : TI) (T : M (List D)) : Prop := ∀ w σ s out s' Q, R c w σ s → T s = some (out, s') → PostI c w σ s' Q E out → t σ w.H Q
end
/-- the items of a list that stays -/
def itemsL : D → Option (List D)
  | .list ds => some ds
  | .scr ds => some ds
  | _ => none
def ILst (T : M Rs) : M (List D) := bnd T fun r => bnd (stab r) fun d => opt (itemsL d)
def ITup (T : M Rs) : M (List D) := bnd T fun r => bnd (stab r) fun d => opt (match d with | .tup ds => some ds | _ => none)
def IStr (T : M Rs) : M (List D) := bnd T fun r => bnd (pk r) fun d => opt (match d with | .str z => some (z.cps.toList.map fun k => D.str ⟨#[k]⟩) | _ => none)
def rngD (lo : Int) (n : Nat) : List D := (List.range n).map fun (k : Nat) => D.int (lo + (k : Int))
def smallI (i : Int) : Bool := decide (-(2 ^ 62) ≤ i) && decide (i < 2 ^ 62)
def IRng1 (T : M (List D)) : M (List D) := bnd T fun ds => opt (match ds with | [.int j] => if smallI j = true then some (rngD 0 j.toNat) else none | _ => none)
def IRng2 (T : M (List D)) : M (List D) := bnd T fun ds => opt (match ds with | [.int i, .int j] => if (smallI i && smallI j) = true then some (rngD i (j - i).toNat) else none | _ => none)
def enumD (ds : List D) : List D := ds.mapIdx fun i d => D.tup [.int (i : Nat), d]
def IEnum (T : M (List D)) : M (List D) := bnd T fun ds => opt (match ds with | [d] => (itemsL d).map enumD | _ => none)
def IZip (T : M (List D)) : M (List D) := bnd T fun ds => opt (match ds with | [a, b] => (match itemsL a, itemsL b with | some xs, some ys => some ((xs.zip ys).map fun p => D.tup [p.1, p.2]) | _, _ => none) | _ => none)
section
variable {c : Cz} {E : XS} {w w0 : Wd} {σ : L2.St} {s s' : S}
theorem itemsL_some {v : V} {d : D} {ds : List D} {ρ : List Addr} {F : Hp} (t : Tr c ρ F v d) (h : itemsL d = some ds) : ∃ a vs, v = .ref a ∧ SqL c.K F a vs ∧ TrAll c ρ F vs ds := by
  cases d with
  | list xs => cases h; cases t with | list h r => exact ⟨_, _, rfl, .inl (.inl h), r⟩
  | scr xs => cases h; cases t with | scr h r => exact ⟨_, _, rfl, h, r⟩
  | _ => cases h
theorem trall_get {ρ : List Addr} {F : Hp} : ∀ {vs : List V} {ds : List D} {i : Nat} {v : V} {d : D}, TrAll c ρ F vs ds → vs[i]? = some v → ds[i]? = some d → Tr c ρ F v d
  | _, _, 0, _, _, .cons h _, e1, e2 => by simp at e1 e2; subst e1; subst e2; exact h
  | _, _, i + 1, _, _, .cons _ t, e1, e2 => trall_get t (by simpa using e1) (by simpa using e2)
  | _, _, _, _, _, .nil, e1, _ => by simp at e1
theorem goesD_list {a : Addr} {vs : List V} {ds : List D} (h : SqL c.K w.F a vs) (r : TrAll c w.ρ w.F vs ds) : GoesD c w (Itl c.K a) ds where
  go := fun w2 i l ok hi => by
    have hl := trall_len r
    exact ⟨vs, vs[i], ok.seq (l.fz.seq h), by simp [show i < vs.length by omega]⟩
  stop := fun w2 l ok => ⟨vs, ok.seq (l.fz.seq h), by rw [trall_len r]; exact Nat.le_refl _⟩
  yld := fun w2 i d x H' l ok hd y => by
    obtain ⟨rfl, y⟩ := y
    exact ⟨w2, rfl, Le.refl, fun _ _ h => h, (trall_get r (y vs (ok.seq (l.fz.seq h))) hd).mono l.pr l.fz⟩
theorem goesD_str {z : Str} : GoesD c w (Its z) (z.cps.toList.map fun k => D.str ⟨#[k]⟩) where
  go := fun w2 i l ok hi => by show i < z.cps.size; simpa using hi
  stop := fun w2 l ok => by show z.cps.size ≤ _; simp
  yld := fun w2 i d x H' l ok hd y => by
    obtain ⟨rfl, k, hk, rfl⟩ := y
    rw [List.getElem?_map, Array.getElem?_toList, hk] at hd
    cases hd
    exact ⟨w2, rfl, Le.refl, fun _ _ h => h, .str _⟩
theorem goesD_rng {lo : Int} {n : Nat} : GoesD c w (Itr lo n) (rngD lo n) where
  go := fun w2 i l ok hi => by show i < n; simpa [rngD] using hi
  stop := fun w2 l ok => by show n ≤ _; simp [rngD]
  yld := fun w2 i d x H' l ok hd y => by
    obtain ⟨rfl, rfl⟩ := y
    unfold rngD at hd
    rw [List.getElem?_map] at hd
    by_cases hi : i < n
    · rw [List.getElem?_range hi] at hd
      cases hd
      exact ⟨w2, rfl, Le.refl, fun _ _ h => h, .int _⟩
    · rw [List.getElem?_eq_none (by simpa using hi)] at hd; cases hd
theorem sim_ILst {t : TE} {T : M Rs} (ht : Sim c E t T) : SimI c E (iList c.K t) (ILst T) := by
  intro w σ s out s' Q R1 e post
  rcases bnd_some e with ⟨r, s1, e1, e⟩ | ⟨x, e1, rfl⟩
  · refine ht w σ s _ s1 _ R1 e1 fun w1 v l1 R2 rv => ?_
    rcases bnd_some e with ⟨d, s2, e2, e⟩ | ⟨x, e2, rfl⟩
    · obtain ⟨w2, l2, eh, R3, tr⟩ := stab_ok R2 l1 rv e2
      obtain ⟨ds, e3, rfl, rfl⟩ := opt_some e
      obtain ⟨a, vs, rfl, hs, ta⟩ := itemsL_some tr e3
      rw [← eh]
      exact ⟨a, rfl, ⟨vs, R3.ok.seq hs⟩, post w2 _ l2 R3 (goesD_list hs ta)⟩
    · exact (stab_not_ex e2).elim
  · exact ht w σ s _ _ _ R1 e1 fun w1 d l1 R2 xa => post w1 d l1 R2 xa
theorem sim_IStr {t : TE} {T : M Rs} (ht : Sim c E t T) : SimI c E (iStr t) (IStr T) := by
  intro w σ s out s' Q R1 e post
  rcases bnd_some e with ⟨r, s1, e1, e⟩ | ⟨x, e1, rfl⟩
  · refine ht w σ s _ s1 _ R1 e1 fun w1 v l1 R2 rv => ?_
    obtain ⟨d, p1, e⟩ := bnd_pk e
    obtain ⟨ds, e3, rfl, rfl⟩ := opt_some e
    have pa := peek_pk R2 rv p1
    split at e3
    · cases e3
      exact ⟨_, pa.str, post w1 _ l1 R2 goesD_str⟩
    · cases e3
  · exact ht w σ s _ _ _ R1 e1 fun w1 d l1 R2 xa => post w1 d l1 R2 xa
theorem trall1 {ρ : List Addr} {F : Hp} {vs : List V} {d : D} (h : TrAll c ρ F vs [d]) : ∃ v, vs = [v] ∧ Tr c ρ F v d := by
  cases h with
  | cons a b => cases b; exact ⟨_, rfl, a⟩
theorem sim_IRng1 {t : TA} {T : M (List D)} (ht : SimA c E t T) : SimI c E (iRng1 t) (IRng1 T) := by
  intro w σ s out s' Q R1 e post
  rcases bnd_some e with ⟨r, s1, e1, e⟩ | ⟨x, e1, rfl⟩
  · refine ht w σ s _ s1 _ R1 e1 fun w1 vs l1 R2 ta => ?_
    obtain ⟨ds, e3, rfl, rfl⟩ := opt_some e
    split at e3
    · rename_i j
      split at e3
      · rename_i hs
        cases e3
        obtain ⟨v, rfl, tv⟩ := trall1 ta
        cases tv
        unfold smallI at hs
        simp only [Bool.and_eq_true, decide_eq_true_eq] at hs
        exact ⟨j, rfl, hs.1, hs.2, post w1 _ l1 R2 goesD_rng⟩
      · cases e3
    · cases e3
  · exact ht w σ s _ _ _ R1 e1 fun w1 d l1 R2 xa => post w1 d l1 R2 xa
end
/-! ### for, while -/
def forD (G : GD) (T : TSd) : List D → TSd
  | [], s => some (.nx, s)
  | d :: ds, s => match G d s with
    | none => none
    | some s1 => match T s1 with
      | some (.nx, s2) => forD G T ds s2
      | some (.ct, s2) => forD G T ds s2
      | some (.bk, s2) => some (.nx, s2)
      | some (.rt r, s2) => some (.rt r, s2)
      | some (.ex x, s2) => some (.ex x, s2)
      | none => none
def TFor (I : M (List D)) (G : GD) (T : TSd) : TSd := sb I fun ds => forD G T ds
section
variable {c : Cz} {E : XS} {w w0 : Wd} {σ : L2.St} {s s' : S}
theorem sim_For {i : TI} {I : M (List D)} {ix : List Nat} {g : TG} {G : GD} {t : TS} {T : TSd} (hi : SimI c E i I) (hg : SimG c ix g G) (ht : SimS c E t T) : SimS c E (tFor i g t) (TFor I G T) := by
  intro w σ s fl s' D R1 e post
  rcases sb_some e with ⟨ds, s1, e1, e⟩ | ⟨x, e1, rfl⟩
  · refine hi w σ s _ s1 _ R1 e1 fun w1 J l1 R2 gs => ?_
    refine ⟨fun k m σ2 H2 => m = ds.length - k ∧ k ≤ ds.length ∧ ∃ w2 s2, Le w1 w2 ∧ R c w2 σ2 s2 ∧ w2.H = H2 ∧ forD G T (ds.drop k) s2 = some (fl, s'), ⟨ds.length, by simp, Nat.zero_le _, w1, s1, Le.refl, R2, rfl, by simpa using e⟩, ?_⟩
    rintro k m σ2 H2 ⟨rfl, hk, w2, s2, l2, R3, rfl, e2⟩
    by_cases hlt : k < ds.length
    · refine .inr ⟨gs.go w2 k l2 R3.ok hlt, fun σ' H' => k + 1 ≤ ds.length ∧ ∃ w3 s3, Le w1 w3 ∧ R c w3 σ' s3 ∧ w3.H = H' ∧ forD G T (ds.drop (k + 1)) s3 = some (fl, s'), fun σ' H' ⟨h1, h2⟩ => ⟨ds.length - (k + 1), by omega, rfl, h1, h2⟩, fun x H' y => ?_⟩
      obtain ⟨w3, rfl, l3, r3, tx⟩ := gs.yld w2 k ds[k] x H' l2 R3.ok (List.getElem?_eq_getElem hlt) y
      have R4 := r3 _ _ R3
      rw [List.drop_eq_getElem_cons hlt] at e2
      unfold forD at e2
      split at e2
      · cases e2
      · rename_i s3 e3
        refine hg w3 σ2 s2 x _ s3 _ R4 tx e3 fun σ3 R5 _ => ?_
        have l13 := l2.trans l3
        have lw3 := l1.trans l13
        split at e2
        · rename_i s4 e4
          exact ht w3 σ3 s3 _ s4 _ R5 e4 fun w4 σ4 l4 R6 => ⟨hlt, w4, s4, l13.trans l4, R6, rfl, e2⟩
        · rename_i s4 e4
          exact ht w3 σ3 s3 _ s4 _ R5 e4 fun w4 σ4 l4 R6 => ⟨hlt, w4, s4, l13.trans l4, R6, rfl, e2⟩
        · rename_i s4 e4
          cases e2
          exact ht w3 σ3 s3 _ _ _ R5 e4 fun w4 σ4 l4 R6 => post w4 σ4 (lw3.trans l4) R6
        · rename_i r s4 e4
          cases e2
          exact ht w3 σ3 s3 _ _ _ R5 e4 fun w4 σ4 v l4 R6 rv => post w4 σ4 v (lw3.trans l4) R6 (rv.base lw3)
        · rename_i r s4 e4
          cases e2
          exact ht w3 σ3 s3 _ _ _ R5 e4 fun w4 σ4 d l4 R6 xa => post w4 σ4 d (lw3.trans l4) R6 xa
        · cases e2
    · obtain rfl : k = ds.length := by omega
      rw [List.drop_length] at e2
      cases e2
      exact .inl ⟨gs.stop w2 l2 R3.ok, post w2 σ2 (l1.trans l2) R3⟩
  · exact hi w σ s _ _ _ R1 e1 fun w1 d l1 R2 xa => post w1 σ d l1 R2 xa
end
end Z
/-! comprehensions, changes in place, attributes, calls -/
namespace Z
open PySem PySem.Spec PyProof.Rows L2 U
/-! ### comprehensions -/
def wipeE (vs : List Nat) (e : List (Option A)) : List (Option A) := match vs with
  | [] => e
  | v :: vs => (wipeE vs e).set v none
def restE (vs : List Nat) (e0 e1 : List (Option A)) : List (Option A) := match vs with
  | [] => e1
  | v :: vs => (restE vs e0 e1).set v (match e0[v]? with
    | some (some (.s d)) => some (.s d)
    | _ => none)
def lcD (G : GD) (B : M Bool) (T : M Rs) (vs : List Nat) : List D → List D → M (List D)
  | [], acc, s => some (.ok acc, s)
  | d :: ds, acc, s => match G d s with
    | none => none
    | some s1 => match B s1 with
      | some (.ok true, s2) => (match bnd T stab s2 with
        | some (.ok e, s3) => lcD G B T vs ds (acc ++ [e]) { s3 with env := wipeE vs s3.env }
        | _ => none)
      | some (.ok false, s2) => lcD G B T vs ds acc { s2 with env := wipeE vs s2.env }
      | _ => none
def TLc (I : M (List D)) (G : GD) (B : M Bool) (T : M Rs) (vs : List Nat) : M Rs := bnd I fun ds s => if fits ds.length = true then (match lcD G B T vs ds [] { s with env := wipeE vs s.env } with
  | some (.ok es, s2) => some (.ok (.fr (.list es)), { s2 with env := restE vs s.env s2.env })
  | _ => none) else none
def toKey : D → Option Key
  | .int i => some (.inl i)
  | .str z => some (.inr z)
  | _ => none
def putD (kvs : List (Key × D)) (k : Key) (v : D) : List (Key × D) :=
  if (kvs.any fun kv => decide (kv.1 = k)) = true then kvs.map (fun kv => if kv.1 = k then (kv.1, v) else kv) else kvs ++ [(k, v)]
def valD (kvs : List (Key × D)) (k : Key) : Option D := (kvs.find? fun kv => decide (kv.1 = k)).map (·.2)
theorem wipe_get {j : Nat} : ∀ {vs : List Nat} {σ : L2.St}, j ∉ vs → (wipe σ vs)[j]? = σ[j]?
  | [], σ, _ => rfl
  | v :: vs, σ, h => by
    simp only [List.mem_cons, not_or] at h
    unfold wipe
    rw [List.getElem?_set_ne (Ne.symm h.1), wipe_get h.2]
theorem wipeE_len : ∀ {vs : List Nat} {e : List (Option A)}, (wipeE vs e).length = e.length
  | [], _ => rfl
  | v :: vs, e => by unfold wipeE; rw [List.length_set, wipeE_len]
theorem restE_len {e0 : List (Option A)} : ∀ {vs : List Nat} {e : List (Option A)}, (restE vs e0 e).length = e.length
  | [], _ => rfl
  | v :: vs, e => by unfold restE; rw [List.length_set, restE_len]
theorem wipeE_some {j : Nat} {a : A} : ∀ {vs : List Nat} {e : List (Option A)}, (wipeE vs e)[j]? = some (some a) → j ∉ vs ∧ e[j]? = some (some a)
  | [], _, h => ⟨by simp, h⟩
  | v :: vs, e, h => by
    unfold wipeE at h
    by_cases z : v = j
    · subst z
      by_cases hv : v < (wipeE vs e).length
      · rw [List.getElem?_set_self hv] at h; cases h
      · rw [List.getElem?_eq_none (by simpa using hv)] at h; cases h
    · rw [List.getElem?_set_ne z] at h
      obtain ⟨h1, h2⟩ := wipeE_some h
      exact ⟨by simp only [List.mem_cons, not_or]; exact ⟨fun e => z e.symm, h1⟩, h2⟩
theorem restE_some {j : Nat} {a : A} {e0 : List (Option A)} : ∀ {vs : List Nat} {e : List (Option A)}, (restE vs e0 e)[j]? = some (some a) → (e0[j]? = some (some a) ∧ ∃ d, a = .s d) ∨ (j ∉ vs ∧ e[j]? = some (some a))
  | [], _, h => .inr ⟨by simp, h⟩
  | v :: vs, e, h => by
    unfold restE at h
    by_cases z : v = j
    · subst z
      by_cases hv : v < (restE vs e0 e).length
      · rw [List.getElem?_set_self hv] at h
        split at h
        · rename_i d hd; cases h; exact .inl ⟨hd, d, rfl⟩
        · cases h
      · rw [List.getElem?_eq_none (by simpa using hv)] at h; cases h
    · rw [List.getElem?_set_ne z] at h
      rcases restE_some h with h | ⟨h1, h2⟩
      · exact .inl h
      · exact .inr ⟨by simp only [List.mem_cons, not_or]; exact ⟨fun e => z e.symm, h1⟩, h2⟩
theorem wipe_wipe : ∀ {vs : List Nat} {σ : L2.St}, wipe (wipe σ vs) vs = wipe σ vs := by
  intro vs σ
  apply List.ext_getElem?
  intro j
  by_cases h : j ∈ vs
  · have g : ∀ σ : L2.St, ∀ vs : List Nat, j ∈ vs → (wipe σ vs)[j]? = if j < σ.length then some none else none := by
      intro σ vs
      induction vs with
      | nil => intro h; cases h
      | cons v vs ih =>
        intro h
        unfold wipe
        by_cases e : v = j
        · subst e
          by_cases hl : v < σ.length
          · rw [if_pos hl, List.getElem?_set_self (by rw [wipe_length]; exact hl)]
          · rw [if_neg hl, List.getElem?_eq_none (by simp [wipe_length]; omega)]
        · rw [List.getElem?_set_ne e]
          exact ih (by cases h with | head => exact absurd rfl e | tail _ h => exact h)
    rw [g _ _ h, g _ _ h, wipe_length]
  · rw [wipe_get h]
section
variable {c : Cz} {E : XS} {w w0 w1 w2 : Wd} {σ : L2.St} {s s' s2 : S}
theorem R.wipe {vs : List Nat} (R1 : R c w σ s) : R c w (L2.wipe σ vs) { s with env := wipeE vs s.env } := by
  refine ⟨R1.ok, R1.ow, R1.len, R1.nd, by show (wipeE vs s.env).length = _; rw [wipeE_len, wipe_length, R1.sz], R1.st, fun j a e => ?_, fun j k p u z e1 e2 e3 e4 => ?_⟩
  · obtain ⟨h1, h2⟩ := wipeE_some e
    obtain ⟨v, h3, h4⟩ := R1.vr j a h2
    exact ⟨v, by rw [wipe_get h1]; exact h3, h4⟩
  · exact R1.ne j k p u z (wipeE_some e1).2 (wipeE_some e2).2 (wipe_some e3).1 (wipe_some e4).1
theorem R.rest {vs : List Nat} (R1 : R c w1 σ s) (l : Le w1 w2) (R2 : R c w2 (L2.wipe σ vs) s2) : R c w2 σ { s2 with env := restE vs s.env s2.env } := by
  refine ⟨R2.ok, R2.ow, R2.len, R2.nd, by show (restE vs s.env s2.env).length = _; rw [restE_len, R2.sz, wipe_length], R2.st, fun j a e => ?_, fun j k p u z e1 e2 e3 e4 => ?_⟩
  · rcases restE_some e with ⟨h1, d, rfl⟩ | ⟨h1, h2⟩
    · obtain ⟨v, h3, h4⟩ := R1.vr j _ h1
      exact ⟨v, h3, Tr.mono h4 l.pr l.fz⟩
    · obtain ⟨v, h3, h4⟩ := R2.vr j a h2
      exact ⟨v, (wipe_some h3).1, h4⟩
  · rcases restE_some e1 with ⟨_, d, h⟩ | ⟨h1, h2⟩
    · cases h
    · rcases restE_some e2 with ⟨_, d, h⟩ | ⟨h3, h4⟩
      · cases h
      · exact R2.ne j k p u z h2 h4 (by rw [wipe_get h1]; exact e3) (by rw [wipe_get h3]; exact e4)
/-- a cell that nobody knows is written -/
theorem R.poke {p : Addr} {o : HO} (R1 : R c w σ s) (hf : w.F p = none) (no : ¬ w.O p) : R c (w.new p o) σ s where
  ok := fun b u e => by
    show upd w.H p o b = _
    have : b ≠ p := fun z => by rw [z] at e; have e : w.F p = some u := e; rw [hf] at e; cases e
    rw [upd_ne this]; exact R1.ok _ _ e
  ow := fun b z => ⟨(R1.ow b z).1, by
    show upd w.H p o b ≠ none
    have : b ≠ p := fun e => no (e ▸ z)
    rw [upd_ne this]; exact (R1.ow b z).2⟩
  len := R1.len
  nd := R1.nd
  sz := R1.sz
  st := fun n q d e1 e2 => by
    obtain ⟨h1, u, h2, h3⟩ := R1.st n q d e1 e2
    have n : q ≠ p := fun e => no (e ▸ h1)
    exact ⟨h1, u, by show upd w.H p o q = _; rw [upd_ne n]; exact h2, h3⟩
  vr := fun i a e => by
    obtain ⟨v, h1, h2⟩ := R1.vr i a e
    refine ⟨v, h1, ?_⟩
    cases a with
    | s d => exact h2
    | o d =>
      obtain ⟨q, u, e, h1, h2, h3, h4⟩ := h2
      have n : q ≠ p := fun e => no (e ▸ h1)
      exact ⟨q, u, e, h1, h2, by show upd w.H p o q = _; rw [upd_ne n]; exact h3, h4⟩
  ne := R1.ne
theorem Le.poke {p : Addr} {o : HO} (l : Le w0 w) (hp : w0.H p = none) : Le w0 (w.new p o) where
  fz := l.fz
  nf := l.nf
  fr := fun b u e n => by show upd w.H p o b = _; rw [upd_ne (ne_of_none e hp)]; exact l.fr b u e n
  no := l.no
  dm := fun b z => by
    show upd w.H p o b ≠ none
    by_cases e : b = p
    · rw [e, upd_same]; simp
    · rw [upd_ne e]; exact l.dm b z
  pr := l.pr
theorem trall_snoc {ρ : List Addr} {F : Hp} {v : V} {d : D} {vs : List V} {ds : List D} (h : TrAll c ρ F vs ds) (t : Tr c ρ F v d) : TrAll c ρ F (vs ++ [v]) (ds ++ [d]) := h.append (.cons t .nil)
theorem sim_Lc {i : TI} {I : M (List D)} {ix vs : List Nat} {g : TG} {G : GD} {b : TT} {B : M Bool} {t : TE} {T : M Rs} (hix : ix.all (vs.contains ·) = true) (hi : SimI c E i I) (hg : SimG c ix g G) (hb : SimT c E0s b B) (ht : Sim c E0s t T) : Sim c E (tLc i g b t vs) (TLc I G B T vs) := by
  have hix : ∀ i ∈ ix, i ∈ vs := fun i hi => by simpa using List.all_eq_true.mp hix i hi
  intro w σ s out s' Q R1 e post
  rcases bnd_some e with ⟨ds, s1, e1, e⟩ | ⟨x, e1, rfl⟩
  · refine hi w σ s _ s1 _ R1 e1 fun w1 J l1 R2 gs => ?_
    by_cases hf : fits ds.length = true
    · rw [if_pos hf] at e
      split at e
      · rename_i es s2 e2
        cases e
        intro Dd hD
        refine ⟨fun k m H => m = ds.length - k ∧ k ≤ ds.length ∧ ∃ w3 s3 acc, Le w1 w3 ∧ R c w3 (wipe σ vs) s3 ∧ w3.H = H ∧ Rv c w1 w3 σ (.ref Dd) (.fr (.list acc)) ∧ acc.length ≤ k ∧ lcD G B T vs (ds.drop k) acc s3 = some (.ok es, s2), ?_, ?_⟩
        · exact ⟨ds.length, by simp, Nat.zero_le _, w1.new Dd (.lst []), _, [], Le.new hD, R2.wipe.new hD, rfl, Rv.new R2 hD (.list .nil), Nat.le_refl _, by simpa using e2⟩
        rintro k m H ⟨rfl, hk, w3, s3, acc, l3, R3, rfl, rv, hacc, e3⟩
        by_cases hlt : k < ds.length
        · refine .inr ⟨gs.go w3 k l3 R3.ok hlt, fun H' => k + 1 ≤ ds.length ∧ ∃ w3 s3 acc, Le w1 w3 ∧ R c w3 (wipe σ vs) s3 ∧ w3.H = H' ∧ Rv c w1 w3 σ (.ref Dd) (.fr (.list acc)) ∧ acc.length ≤ k + 1 ∧ lcD G B T vs (ds.drop (k + 1)) acc s3 = some (.ok es, s2), fun H' ⟨h1, h2⟩ => ⟨ds.length - (k + 1), by omega, rfl, h1, h2⟩, fun x H' y => ?_⟩
          obtain ⟨w4, rfl, l4, r4, tx⟩ := gs.yld w3 k ds[k] x H' l3 R3.ok (List.getElem?_eq_getElem hlt) y
          have R4 := r4 _ _ R3
          have rv4 := rv.mono l4
          have l14 := l3.trans l4
          rw [List.drop_eq_getElem_cons hlt] at e3
          unfold lcD at e3
          split at e3
          · cases e3
          · rename_i s5 e5
            refine hg w4 _ s3 x _ s5 _ R4 tx e5 fun σ5 R5 hw => ?_
            have hw' := (hw vs hix).trans wipe_wipe
            refine ⟨hw', ?_⟩
            split at e3
            · rename_i s6 e6
              refine hb w4 σ5 s5 _ s6 _ R5 e6 fun w6 l6 R6 => ?_
              rw [if_pos rfl]
              split at e3
              · rename_i u s7 e7
                rcases bnd_some e7 with ⟨r, s8, e8, e9⟩ | ⟨x', e8, h⟩
                · refine ht w6 σ5 s6 _ s8 _ R6 e8 fun w8 v l8 R8 rv8 => ?_
                  obtain ⟨w9, l9, eh, R9, tr⟩ := stab_ok R8 l8 rv8 e9
                  obtain ⟨p, o, ep, n1, q, ce, f, no⟩ := (rv4.mono l6).mono l9
                  cases ep
                  cases ce with
                  | list ta =>
                    rename_i ws
                    have hl := trall_len ta
                    refine ⟨ws, by rw [← eh]; exact q, ?_, hlt, w9.new Dd (.lst (ws ++ [v])), _, acc ++ [u], (((l14.trans l6).trans l9).poke hD), ?_, by rw [← eh]; rfl, ?_, by simp; omega, e3⟩
                    · have := fits_le hf; omega
                    · have := (R9.poke (o := .lst (ws ++ [v])) f no).wipe (vs := vs)
                      rw [hw'] at this
                      exact this
                    · exact ⟨Dd, _, rfl, hD, upd_same, .list (trall_snoc ta tr), f, no⟩
                · cases h
              · cases e3
            · rename_i s6 e6
              refine hb w4 σ5 s5 _ s6 _ R5 e6 fun w6 l6 R6 => ?_
              rw [if_neg (by decide)]
              refine ⟨hlt, w6, _, acc, l14.trans l6, ?_, rfl, rv4.mono l6, by omega, e3⟩
              have := R6.wipe (vs := vs)
              rw [hw'] at this
              exact this
            · cases e3
        · obtain rfl : k = ds.length := by omega
          rw [List.drop_length] at e3
          cases e3
          exact .inl ⟨gs.stop w3 l3 R3.ok, post w3 _ (l1.trans l3) (R2.rest l3 R3) (rv.base l1)⟩
      · cases e
    · rw [if_neg hf] at e; cases e
  · exact hi w σ s _ _ _ R1 e1 fun w1 d l1 R2 xa => post w1 d l1 R2 xa
theorem toKey_some {v : V} {d : D} {k : Key} {ρ : List Addr} {F : Hp} (t : Tr c ρ F v d) (h : toKey d = some k) : v = kV k := by
  cases d with
  | int i => cases h; cases t; rfl
  | str i => cases h; cases t; rfl
  | _ => cases h
end
end Z
/-! changes in place, attributes, calls -/
namespace Z
open PySem PySem.Spec PyProof.Rows L2 U
/-- the thing is changed: what comes of it, what it is then -/
def mutD {β : Type} (r : Rs) (f : D → Option (β × D)) : M β := fun s => match r with
  | .al i => (match s.env[i]? with
    | some (some (.o d)) => (match f d with
      | some (b, d') => some (.ok b, { s with env := s.env.set i (some (.o d')) })
      | none => none)
    | _ => none)
  | .v (.loc n) => (match s.μ[n]? with
    | some d => (match f d with
      | some (b, d') => some (.ok b, { s with μ := s.μ.set n d' })
      | none => none)
    | none => none)
  | _ => none
section
variable {c : Cz} {E : XS} {w w0 w1 w2 : Wd} {σ : L2.St} {s s' s2 : S} {v : V} {r : Rs}
theorem Le.upd {p : Addr} {o : HO} (hO : w.O p) : Le w (w.new p o) where
  fz := Same.refl _
  nf := fun _ z => .inl z
  fr := fun b u e n => by
    have : b ≠ p := fun z => n (z ▸ hO)
    show L2.upd w.H p o b = _; rw [upd_ne this]; exact e
  no := fun _ z => .inl z
  dm := fun b z => by
    show L2.upd w.H p o b ≠ none
    by_cases e : b = p
    · rw [e, upd_same]; simp
    · rw [upd_ne e]; exact z
  pr := List.prefix_refl _
theorem R.updV {i : Nat} {p : Addr} {o : HO} {d d' : D} (R1 : R c w σ s) (hi : s.env[i]? = some (some (.o d))) (hv : σ[i]? = some (some (.ref p))) (ce : CellO c w.ρ w.F o d') : R c (w.new p o) σ { s with env := s.env.set i (some (.o d')) } := by
  obtain ⟨x, hx, q, u, rfl, hO, hρ, hH, _⟩ := R1.vr i _ hi
  rw [hv] at hx
  cases hx
  have hf := (R1.ow p hO).1
  have hil : i < s.env.length := (List.getElem?_eq_some_iff.mp hi).1
  have ge : ∀ {j : Nat} {a : A}, (s.env.set i (some (A.o d')))[j]? = some (some a) → (i = j ∧ a = .o d') ∨ (i ≠ j ∧ s.env[j]? = some (some a)) := by
    intro j a e
    by_cases ij : i = j
    · subst ij
      rw [List.getElem?_set_self hil] at e
      cases e
      exact .inl ⟨rfl, rfl⟩
    · rw [List.getElem?_set_ne ij] at e; exact .inr ⟨ij, e⟩
  refine ⟨fun b u e => ?_, fun b z => ⟨(R1.ow b z).1, ?_⟩, R1.len, R1.nd, (List.length_set ..).trans R1.sz, fun n q d e1 e2 => ?_, fun j a e => ?_, fun j k q d e e1 e2 e3 e4 => ?_⟩
  · show L2.upd w.H p o b = _
    have : b ≠ p := fun z => by rw [z] at e; have e : w.F p = some u := e; rw [hf] at e; cases e
    rw [upd_ne this]; exact R1.ok _ _ e
  · show L2.upd w.H p o b ≠ none
    by_cases e : b = p
    · rw [e, upd_same]; simp
    · rw [upd_ne e]; exact (R1.ow b z).2
  · obtain ⟨h1, u, h2, h3⟩ := R1.st n q d e1 e2
    have n : q ≠ p := fun e => hρ (by rw [← e]; exact List.mem_of_getElem? e1)
    exact ⟨h1, u, by show L2.upd w.H p o q = _; rw [upd_ne n]; exact h2, h3⟩
  · rcases ge e with ⟨rfl, rfl⟩ | ⟨ij, e⟩
    · exact ⟨.ref p, hv, p, o, rfl, hO, hρ, upd_same, ce⟩
    · obtain ⟨x, h1, h2⟩ := R1.vr j a e
      refine ⟨x, h1, ?_⟩
      cases a with
      | s d => exact h2
      | o u =>
        obtain ⟨q, y, rfl, h3, h4, h5, h6⟩ := h2
        have n : q ≠ p := fun z => ij (R1.ne i j p d u hi e hv (by rw [← z]; exact h1))
        exact ⟨q, y, rfl, h3, h4, by show L2.upd w.H p o q = _; rw [upd_ne n]; exact h5, h6⟩
  · have g : ∀ {j : Nat} {d : D}, (s.env.set i (some (A.o d')))[j]? = some (some (A.o d)) → ∃ d, s.env[j]? = some (some (A.o d)) := by
      intro j d e
      rcases ge e with ⟨rfl, _⟩ | ⟨_, e⟩
      · exact ⟨_, hi⟩
      · exact ⟨_, e⟩
    obtain ⟨_, e1⟩ := g e1
    obtain ⟨_, e2⟩ := g e2
    exact R1.ne j k q _ _ e1 e2 e3 e4
theorem nodup_get {α : Type} : ∀ {l : List α} {i j : Nat} {a : α}, l.Nodup → l[i]? = some a → l[j]? = some a → i = j
  | [], _, _, _, _, h, _ => by simp at h
  | x :: l, 0, 0, a, nd, h, h' => rfl
  | x :: l, 0, j + 1, a, nd, h, h' => by
    simp at h h'
    subst h
    exact absurd (List.mem_of_getElem? h') (List.nodup_cons.mp nd).1
  | x :: l, i + 1, 0, a, nd, h, h' => by
    simp at h h'
    subst h'
    exact absurd (List.mem_of_getElem? h) (List.nodup_cons.mp nd).1
  | x :: l, i + 1, j + 1, a, nd, h, h' => by
    simp at h h'
    exact congrArg (· + 1) (nodup_get (List.nodup_cons.mp nd).2 h h')
theorem R.updL {n : Nat} {p : Addr} {o : HO} {d' : D} (R1 : R c w σ s) (hn : w.ρ[n]? = some p) (ce : CellO c w.ρ w.F o d') : R c (w.new p o) σ { s with μ := s.μ.set n d' } := by
  have hO := R1.rho hn
  have hf := (R1.ow p hO).1
  refine ⟨fun b u e => ?_, fun b z => ⟨(R1.ow b z).1, ?_⟩, by show w.ρ.length = (s.μ.set n d').length; rw [List.length_set]; exact R1.len, R1.nd, R1.sz, fun m q d e1 e2 => ?_, fun j a e => ?_, R1.ne⟩
  · show L2.upd w.H p o b = _
    have : b ≠ p := fun z => by rw [z] at e; have e : w.F p = some u := e; rw [hf] at e; cases e
    rw [upd_ne this]; exact R1.ok _ _ e
  · show L2.upd w.H p o b ≠ none
    by_cases e : b = p
    · rw [e, upd_same]; simp
    · rw [upd_ne e]; exact (R1.ow b z).2
  · by_cases e : n = m
    · subst e
      have e1 : w.ρ[n]? = some q := e1
      rw [hn] at e1
      cases e1
      have e2 : (s.μ.set n d')[n]? = some d := e2
      rw [List.getElem?_set_self (by rw [← R1.len]; exact (List.getElem?_eq_some_iff.mp hn).1)] at e2
      cases e2
      exact ⟨hO, o, upd_same, ce⟩
    · have e2 : (s.μ.set n d')[m]? = some d := e2
      rw [List.getElem?_set_ne e] at e2
      obtain ⟨h1, u, h2, h3⟩ := R1.st m q d e1 e2
      have ne : q ≠ p := fun z => e (nodup_get R1.nd hn (by rw [← z]; exact e1))
      exact ⟨h1, u, by show L2.upd w.H p o q = _; rw [upd_ne ne]; exact h2, h3⟩
  · obtain ⟨x, h1, h2⟩ := R1.vr j a e
    refine ⟨x, h1, ?_⟩
    cases a with
    | s d => exact h2
    | o u =>
      obtain ⟨q, y, rfl, h3, h4, h5, h6⟩ := h2
      have n : q ≠ p := fun z => h4 (by rw [z]; exact List.mem_of_getElem? hn)
      exact ⟨q, y, rfl, h3, h4, by show L2.upd w.H p o q = _; rw [upd_ne n]; exact h5, h6⟩
theorem mut_ok {β : Type} {f : D → Option (β × D)} {b : β} (R1 : R c w σ s) (h : Rv c w0 w σ v r) (e : mutD r f s = some (.ok b, s')) :
    ∃ p o d d', v = .ref p ∧ w.H p = some o ∧ CellO c w.ρ w.F o d ∧ f d = some (b, d') ∧ peek s r = some d ∧ ∀ o', CellO c w.ρ w.F o' d' → R c (w.new p o') σ s' ∧ Le w (w.new p o') := by
  unfold mutD at e
  split at e
  · rename_i i
    split at e
    · rename_i d hd
      split at e
      · rename_i b' d' e1
        cases e
        obtain ⟨x, hx, p, o, rfl, hO, hρ, hH, ce⟩ := R1.vr i _ hd
        rw [h] at hx
        cases hx
        exact ⟨p, o, d, d', rfl, hH, ce, e1, by unfold peek; simp only [hd], fun o' ce' => ⟨R1.updV hd h ce', Le.upd hO⟩⟩
      · cases e
    · cases e
  · rename_i n
    split at e
    · rename_i d hd
      split at e
      · rename_i b' d' e1
        cases e
        cases h with
        | loc hn =>
          obtain ⟨hO, o, hH, ce⟩ := R1.st n _ d hn hd
          exact ⟨_, o, d, d', rfl, hH, ce, e1, hd, fun o' ce' => ⟨R1.updL hn ce', Le.upd hO⟩⟩
      · cases e
    · cases e
  · cases e
theorem mut_not_ex {β : Type} {f : D → Option (β × D)} {x : Xn} (e : mutD r f s = some (.ex x, s')) : False := by
  unfold mutD at e
  split at e
  · split at e
    · split at e <;> cases e
    · cases e
  · split at e
    · split at e <;> cases e
    · cases e
  · cases e
end
def isL : D → Bool
  | .list _ => true
  | _ => false
def TBM (f : List D → D → Option (D × D)) (o : M Rs) (t : M (List D)) : M Rs := bnd o fun r => bnd (pk r) fun d => if isL d = true then bnd t fun ds => bnd (mutD r (f ds)) fun d => ret (.v d) else fun _ => none
/-- a method that changes a list, its argument being looked at -/
def TBP (f : List D → D → Option (D × D)) (o : M Rs) (t : M (List Rs)) : M Rs := bnd o fun r => bnd (pk r) fun d => if isL d = true then bnd t fun rs => bnd (pks rs) fun ds => bnd (mutD r (f ds)) fun d => ret (.v d) else fun _ => none
section
variable (c : Cz)
def BmS (r : V → List V → Hp → VK → Prop) (f : List D → D → Option (D × D)) : Prop := ∀ (w : Wd) (p : Addr) (o : HO) (d : D) (ds : List D) (vs : List V) (res d' : D) (Q : VK), Same w.F w.H → w.H p = some o → CellO c w.ρ w.F o d → TrAll c w.ρ w.F vs ds → f ds d = some (res, d') → (∀ o' v', CellO c w.ρ w.F o' d' → Tr c w.ρ w.F v' res → Q v' (upd w.H p o')) → r (.ref p) vs w.H Q
end
section
variable {c : Cz} {E : XS} {w w0 w1 w2 : Wd} {σ : L2.St} {s s' s2 : S} {v : V} {r : Rs}
theorem isL_some {d : D} (h : isL d = true) : ∃ ds, d = .list ds := by
  cases d with
  | list ds => exact ⟨ds, rfl⟩
  | _ => cases h
theorem sim_BM {op : V → List V → Hp → VK → Prop} {f : List D → D → Option (D × D)} {to : TE} {To : M Rs} {t : TA} {T : M (List D)} (ho : BmS c op f) (hto : Sim c E to To) (ht : SimA c E t T) : Sim c E (tBM c.K "list" op to t) (TBM f To T) := by
  intro w σ s out s' Q R1 e post
  rcases bnd_some e with ⟨r, s1, e1, e⟩ | ⟨x, e1, rfl⟩
  · refine hto w σ s _ s1 _ R1 e1 fun w1 v l1 R2 rv => ?_
    obtain ⟨d0, p0, e⟩ := bnd_pk e
    by_cases hd : isL d0 = true
    · rw [if_pos hd] at e
      obtain ⟨xs, rfl⟩ := isL_some hd
      obtain ⟨a, us, rfl, hH, _⟩ := (peek_pk R2 rv p0).list R2.ok
      refine ⟨.inl ⟨rfl, us, .inl (.inl hH)⟩, ?_⟩
      rcases bnd_some e with ⟨ds, s2, e2, e⟩ | ⟨x, e2, rfl⟩
      · refine ht w1 σ s1 _ s2 _ R2 e2 fun w2 vs l2 R3 ta => ?_
        rcases bnd_some e with ⟨y, s3, e3, e⟩ | ⟨x, e3, rfl⟩
        · obtain ⟨p, o, d, d', ep, hp, ce, ef, _, k⟩ := mut_ok R3 (rv.mono l2) e3
          cases ep
          cases e
          refine ho w2 _ o d ds vs y d' Q R3.ok hp ce ta ef fun o' v' ce' tr => ?_
          obtain ⟨R4, l4⟩ := k o' ce'
          exact post _ v' ((l1.trans l2).trans l4) R4 tr
        · exact (mut_not_ex e3).elim
      · exact ht w1 σ s1 _ _ _ R2 e2 fun w2 d l2 R3 xa => post w2 d (l1.trans l2) R3 xa
    · rw [if_neg hd] at e; cases e
  · exact hto w σ s _ _ _ R1 e1 fun w1 d l1 R2 xa => post w1 d l1 R2 xa
theorem sim_BM0 {op : V → List V → Hp → VK → Prop} {f : List D → D → Option (D × D)} {to : TE} {To : M Rs} (ho : BmS c op f) (hto : Sim c E to To) : Sim c E (tBM0 c.K "list" op to) (TBM f To TNil) := by
  intro w σ s out s' Q R1 e post
  exact sim_BM (t := tNil) ho hto sim_Nil w σ s out s' Q R1 e post
/-! ### x += y, o[i] = v, d[k] = v, o.f = v -/
end
def TAug (i : Nat) (f : D → D → Option Rs) (T : M Rs) : TSd := sb (TVar i) fun x => sb T fun y => sb (bnd (pk x) fun d => bnd (pk y) fun e => opt (f d e)) fun r s => nxt (asg i r s)
/-- o[i] = v -/
def TSub (o i t : M Rs) : TSd := sb t fun r => sb (stab r) fun d => sb o fun ro => sb i fun ri => sb (pk ri) fun k => sb (mutD ro fun l => match l, k with
  | .list xs, .int k => (ixN xs.length k).map fun j => ((), D.list (xs.set j d))
  | _, _ => none) fun _ s => some (.nx, s)
def TDPut (o i t : M Rs) : TSd := sb t fun r => sb (stab r) fun d => sb o fun ro => sb i fun ri => sb (pk ri) fun k => sb (mutD ro fun l => match l, toKey k with
  | .dict kvs, some k => if kvs.length < 16777216 then some ((), D.dict (putD kvs k d)) else none
  | _, _ => none) fun _ s => some (.nx, s)
def putFd (f : Str) (v : D) : List (Str × D) → List (Str × D)
  | [] => [(f, v)]
  | (g, x) :: r => if g = f then (g, v) :: r else (g, x) :: putFd f v r
/-- o.f = v, for the classes that ok tells -/
def TFld (ok : Nat → Bool) (f : Str) (o t : M Rs) : TSd := sb t fun r => sb (stab r) fun d => sb o fun ro => sb (mutD ro fun l => match l with
  | .obj k fs => if (ok k && decide (fs.length < 1000)) = true then some ((), D.obj k (putFd f d fs)) else none
  | _ => none) fun _ s => some (.nx, s)
section
variable {c : Cz} {E : XS} {w w0 w1 w2 : Wd} {σ : L2.St} {s s' s2 : S} {v : V} {r : Rs}
theorem trall_set {ρ : List Addr} {F : Hp} {u : V} {d : D} (t : Tr c ρ F u d) : ∀ {vs : List V} {ds : List D} (j : Nat), TrAll c ρ F vs ds → TrAll c ρ F (vs.set j u) (ds.set j d)
  | _, _, _, .nil => .nil
  | _, _, 0, .cons _ b => .cons t b
  | _, _, j + 1, .cons a b => .cons a (trall_set t j b)
theorem sb_pk {r : Rs} {k : D → TSd} {fl : Fl} (h : sb (pk r) k s = some (fl, s')) : ∃ d, peek s r = some d ∧ k d s = some (fl, s') := by
  rcases sb_some h with ⟨d, s1, e1, e⟩ | ⟨x, e1, _⟩
  · obtain ⟨d', h1, h2, rfl⟩ := opt_some (o := peek s r) e1
    cases h2
    exact ⟨d, h1, e⟩
  · obtain ⟨d', h1, h2, _⟩ := opt_some (o := peek s r) e1
    cases h2
theorem sim_Sub {o i t : TE} {O I T : M Rs} (ho : Sim c E o O) (hi : Sim c E i I) (ht : Sim c E t T) : SimS c E (tAsg t (gSub o i rSetL)) (TSub O I T) := by
  intro w σ s fl s' D R1 e post
  rcases sb_some e with ⟨r, s1, e1, e⟩ | ⟨x, e1, rfl⟩
  · refine ht w σ s _ s1 _ R1 e1 fun w1 v l1 R2 rv => ?_
    rcases sb_some e with ⟨d, s2, e2, e⟩ | ⟨x, e2, rfl⟩
    · obtain ⟨w2, l2, eh, R3, tr⟩ := stab_ok R2 l1 rv e2
      rw [← eh]
      rcases sb_some e with ⟨ro, s3, e3, e⟩ | ⟨x, e3, rfl⟩
      · refine ho w2 σ s2 _ s3 _ R3 e3 fun w3 vo l3 R4 rvo => ?_
        rcases sb_some e with ⟨ri, s4, e4, e⟩ | ⟨x, e4, rfl⟩
        · refine hi w3 σ s3 _ s4 _ R4 e4 fun w4 vi l4 R5 rvi => ?_
          obtain ⟨dk, pk1, e⟩ := sb_pk e
          rcases sb_some e with ⟨_, s5, e5, e⟩ | ⟨x, e5, rfl⟩
          · obtain ⟨p, ob, dl, d', rfl, hp, ce, ef, hpk, k⟩ := mut_ok R5 (rvo.mono l4) e5
            clear hpk
            cases e
            split at ef
            · rename_i xs kk
              obtain ⟨j, ej, ef⟩ := Option.map_eq_some_iff.mp ef
              cases ef
              cases ce with
              | list ta =>
                rename_i ws
                have hk := (peek_pk R5 rvi pk1).int
                subst hk
                refine ⟨p, ws, kk, j, rfl, rfl, hp, by rw [trall_len ta]; exact ej, ?_⟩
                obtain ⟨R6, l6⟩ := k (.lst (ws.set j v)) (.list (trall_set (tr.mono (l3.trans l4).pr (l3.trans l4).fz) j ta))
                exact post _ σ (l2.trans ((l3.trans l4).trans l6)) R6
            · cases ef
          · exact (mut_not_ex e5).elim
        · exact hi w3 σ s3 _ _ _ R4 e4 fun w4 d l4 R5 xa => post w4 σ d (l2.trans (l3.trans l4)) R5 xa
      · exact ho w2 σ s2 _ _ _ R3 e3 fun w3 d l3 R4 xa => post w3 σ d (l2.trans l3) R4 xa
    · exact (stab_not_ex e2).elim
  · exact ht w σ s _ _ _ R1 e1 fun w1 d l1 R2 xa => post w1 σ d l1 R2 xa
theorem Pk.key {d : D} {k : Key} (h : Pk c w v d) (e : toKey d = some k) : v = kV k := by
  cases d with
  | int i => cases e; exact h.int
  | str i => cases e; exact h.str
  | _ => cases e
theorem trf_put {ρ : List Addr} {F : Hp} {f : Str} {u : V} {d : D} (t : Tr c ρ F u d) : ∀ {vs : List (Str × V)} {ds : List (Str × D)}, TrF c ρ F vs ds → TrF c ρ F (putF f u vs) (putFd f d ds)
  | _, _, .nil => .cons t .nil
  | _, _, .cons (k := k) h r => by
    unfold putF putFd
    by_cases e : k = f
    · rw [if_pos e, if_pos e]; exact .cons t r
    · rw [if_neg e, if_neg e]; exact .cons h (trf_put t r)
theorem trf_len {ρ : List Addr} {F : Hp} : ∀ {vs : List (Str × V)} {ds : List (Str × D)}, TrF c ρ F vs ds → vs.length = ds.length
  | _, _, .nil => rfl
  | _, _, .cons _ t => congrArg (· + 1) (trf_len t)
theorem trf_look {ρ : List Addr} {F : Hp} {f : Str} : ∀ {vs : List (Str × V)} {ds : List (Str × D)}, TrF c ρ F vs ds → (∀ d, ds.lookup f = some d → ∃ v, vs.lookup f = some v ∧ Tr c ρ F v d) ∧ (ds.lookup f = none → vs.lookup f = none)
  | _, _, .nil => ⟨fun d h => (by cases h), fun _ => rfl⟩
  | _, _, .cons (k := k) (v := v) (d := d) h r => by
    obtain ⟨h1, h2⟩ := trf_look (f := f) r
    simp only [List.lookup_cons]
    cases e : (f == k) with
    | true => exact ⟨fun d' z => by cases z; exact ⟨v, rfl, h⟩, fun z => by cases z⟩
    | false => exact ⟨h1, h2⟩
end
end Z
/-! attributes, calls, defs -/
namespace Z
open PySem PySem.Spec PyProof.Rows L2 U
abbrev FT := List D → List D → Option (Rz Rs × List D)
def call (F : FT) (ds : List D) : M Rs := fun s => match F ds s.μ with
  | some (.ok (.v d), μ) => some (.ok (.v d), { s with μ := μ })
  | some (.ok (.fr d), μ) => some (.ok (.fr d), { s with μ := μ })
  | some (.ex x, μ) => some (.ex x, { s with μ := μ })
  | _ => none
section
variable (c : Cz)
def PostF (w : Wd) (μ' : List D) (Q : VK) (E : XK) : Rz Rs → Prop
  | .ok r => ∀ w' v, Le w w' → R c w' [] ⟨[], μ'⟩ → Rv c w w' [] v r → Q v w'.H
  | .ex x => ∀ w' d, Le w w' → R c w' [] ⟨[], μ'⟩ → Xa c w' d x → E (.ref (c.cad x.c)) d w'.H
/-- the promise of a def that is the function F on trees -/
def spF (F : FT) : Sp := fun vs H Q E => ∃ w ds μ out μ', w.H = H ∧ (∀ b, w.O b → b ∈ w.ρ) ∧ R c w [] ⟨[], μ⟩ ∧ TrAll c w.ρ w.F vs ds ∧ F ds μ = some (out, μ') ∧ PostF c w μ' Q E out
def PostK (w : Wd) (p : Addr) (μ' : List D) (Q : VK) (E : XK) : Rz Rs → Prop
  | .ok r => ∀ w', Le w w' → R c w' [] ⟨[], μ'⟩ → (∀ w0 : Wd, w0.H p = none → Rv c w0 w' [] (.ref p) r) → Q .non w'.H
  | .ex x => ∀ w' d, Le w w' → R c w' [] ⟨[], μ'⟩ → Xa c w' d x → E (.ref (c.cad x.c)) d w'.H
/-- the promise of an __init__ of the class k -/
def spI (k : Nat) (F : FT) : Sp := fun vs H Q E => ∃ w p args ds μ out μ', vs = .ref p :: args ∧ w.H = H ∧ (∀ b, w.O b → b ∈ w.ρ ∨ b = p) ∧ R c w [some (.ref p)] ⟨[some (.o (.obj k []))], μ⟩ ∧ TrAll c w.ρ w.F args ds ∧ F ds μ = some (out, μ') ∧ PostK c w p μ' Q E out
end
section
variable {c : Cz} {E : XS} {w w0 w1 w' : Wd} {σ : L2.St} {s s' : S}
def Wd.callee (w : Wd) : Wd := ⟨w.F, fun b => b ∈ w.ρ, w.H, w.ρ⟩
def Wd.back (w w' : Wd) : Wd := ⟨w'.F, fun b => w.O b ∨ b ∈ w'.ρ, w'.H, w'.ρ⟩
theorem R.callee (R1 : R c w σ s) : R c w.callee [] ⟨[], s.μ⟩ :=
  ⟨R1.ok, fun b z => R1.ow b (R1.rho' z), R1.len, R1.nd, rfl, fun n p d e1 e2 => ⟨List.mem_of_getElem? e1, (R1.st n p d e1 e2).2⟩, fun i a e => by simp at e, fun i j p d e h => by simp at h⟩
theorem R.back {μ' : List D} (R1 : R c w σ s) (l : Le w.callee w') (R2 : R c w' [] ⟨[], μ'⟩) : R c (w.back w') σ { s with μ := μ' } := by
  have fn : ∀ b, w.O b → w'.F b = none := fun b z => by
    cases e : w'.F b with
    | none => rfl
    | some u =>
      rcases l.nf b (by rw [e]; simp) with y | y | y
      · exact absurd (R1.ow b z).1 y
      · have : b ∈ w'.ρ := by obtain ⟨t, ht⟩ := l.pr; rw [← ht]; exact List.mem_append_left _ y
        rw [(R2.ow b (R2.rho' this)).1] at e
        cases e
      · exact absurd y (R1.ow b z).2
  refine ⟨R2.ok, fun b z => ?_, R2.len, R2.nd, R1.sz, fun n p d e1 e2 => ⟨.inr (List.mem_of_getElem? e1), (R2.st n p d e1 e2).2⟩, fun i a e => ?_, R1.ne⟩
  · rcases z with z | z
    · exact ⟨fn b z, l.dm b (R1.ow b z).2⟩
    · exact R2.ow b (R2.rho' z)
  · obtain ⟨v, h1, h2⟩ := R1.vr i a e
    refine ⟨v, h1, ?_⟩
    cases a with
    | s d => exact Tr.mono h2 l.pr l.fz
    | o d =>
      obtain ⟨p, o, rfl, h3, h4, h5, h6⟩ := h2
      refine ⟨p, o, rfl, .inl h3, fun z => ?_, l.fr p o h5 h4, h6.mono l.pr l.fz⟩
      rcases l.no p (R2.rho' z) with y | y
      · exact h4 y
      · have y : w.H p = none := y
        rw [h5] at y; cases y
theorem Le.back {μ' : List D} (R1 : R c w σ s) (l : Le w.callee w') (R2 : R c w' [] ⟨[], μ'⟩) : Le w (w.back w') where
  fz := l.fz
  nf := fun b z => by
    rcases l.nf b z with y | y | y
    · exact .inl y
    · exact .inr (.inl (R1.rho' y))
    · exact .inr (.inr y)
  fr := fun b o e n => l.fr b o e fun z => n (R1.rho' z)
  no := fun b z => by
    rcases z with z | z
    · exact .inl z
    · rcases l.no b (R2.rho' z) with y | y
      · exact .inl (R1.rho' y)
      · exact .inr y
  dm := l.dm
  pr := l.pr
theorem Rv.back {μ' : List D} {v : V} {r : Rs} (R1 : R c w σ s) (R2 : R c w' [] ⟨[], μ'⟩) (h : Rv c w.callee w' [] v r) : Rv c w (w.back w') σ v r := by
  cases r with
  | v d => exact h
  | fr d =>
    obtain ⟨p, o, rfl, n, q, ce, f, no⟩ := h
    refine ⟨p, o, rfl, n, q, ce, f, fun z => ?_⟩
    rcases z with z | z
    · exact (R1.ow p z).2 n
    · exact no (R2.rho' z)
  | al i => exact absurd h (by simp [Rv])
theorem call_ok {F : FT} {vs : List V} {ds : List D} {out : Rz Rs} {Q : VK} (R1 : R c w σ s) (l : Le w0 w) (ta : TrAll c w.ρ w.F vs ds) (e : call F ds s = some (out, s')) (post : PostE c w0 σ s' Q E out) : spF c F vs w.H Q (E σ) := by
  unfold call at e
  split at e
  · rename_i d μ e1
    cases e
    exact ⟨w.callee, ds, s.μ, _, μ, rfl, fun b z => z, R1.callee, ta, e1, fun w' v l' R' rv => post (w.back w') v (l.trans (Le.back R1 l' R')) (R1.back l' R') ((rv.back R1 R').base l)⟩
  · rename_i d μ e1
    cases e
    exact ⟨w.callee, ds, s.μ, _, μ, rfl, fun b z => z, R1.callee, ta, e1, fun w' v l' R' rv => post (w.back w') v (l.trans (Le.back R1 l' R')) (R1.back l' R') ((rv.back R1 R').base l)⟩
  · rename_i x μ e1
    cases e
    exact ⟨w.callee, ds, s.μ, _, μ, rfl, fun b z => z, R1.callee, ta, e1, fun w' d l' R' xa => post (w.back w') d (l.trans (Le.back R1 l' R')) (R1.back l' R') xa⟩
  · cases e
end
def TFn (F : FT) (T : M (List D)) : M Rs := bnd T fun ds => call F ds
def TFnK (F : FT) (n : Nat) (g : List D → List D) (T : M (List D)) : M Rs := bnd T fun ds => if ds.length = n then call F (g ds) else fun _ => none
/-- o.m(..): the classes' methods by their numbers -/
def meth (tab : Nat → Option FT) (m : Str) (d0 : D) (k : FT → M Rs) : M Rs := match d0 with
  | .obj c fs => if (fs.lookup m).isNone = true then (match tab c with
    | some F => k F
    | none => fun _ => none) else fun _ => none
  | _ => fun _ => none
def TMth (tab : Nat → Option FT) (m : Str) (o : M Rs) (T : M (List D)) : M Rs := bnd o fun r => bnd (stab r) fun d => bnd (pk (.v d)) fun d0 => meth tab m d0 fun F => bnd T fun ds => call F (d :: ds)
def TMthK (tab : Nat → Option FT) (m : Str) (n : Nat) (g : List D → List D) (o : M Rs) (T : M (List D)) : M Rs := bnd o fun r => bnd (stab r) fun d => bnd (pk (.v d)) fun d0 => meth tab m d0 fun F => bnd T fun ds => if ds.length = n then call F (d :: g ds) else fun _ => none
section
variable {c : Cz} {E : XS} {w w0 w1 w' : Wd} {σ : L2.St} {s s' : S} {P : Program} {wl : World} {mg : Str → Option Value} {base : Heap} {x m : Str} {j k : Nat} {F : FT} {t : TA} {T : M (List D)} {to : TE} {To : M Rs}
theorem sim_Fn (h : Fn P wl c.K mg base k x (spF c F)) (hk : k ≤ j) (ht : SimA c E t T) : Sim c E (tFn P wl c.K mg base x j E t) (TFn F T) := by
  intro w σ s out s' Q R1 e post
  refine ⟨k, _, h, hk, ?_⟩
  rcases bnd_some e with ⟨ds, s1, e1, e⟩ | ⟨x, e1, rfl⟩
  · exact ht w σ s _ s1 _ R1 e1 fun w1 vs l1 R2 ta => call_ok R2 l1 ta e post
  · exact ht w σ s _ _ _ R1 e1 post
theorem meth_some {tab : Nat → Option FT} {d0 : D} {f : FT → M Rs} {out : Rz Rs} (h : meth tab m d0 f s = some (out, s')) : ∃ k fs F, d0 = .obj k fs ∧ fs.lookup m = none ∧ tab k = some F ∧ f F s = some (out, s') := by
  unfold meth at h
  split at h
  · rename_i k fs
    by_cases hl : (fs.lookup m).isNone = true
    · rw [if_pos hl] at h
      cases hF : tab k with
      | some F => rw [hF] at h; exact ⟨k, fs, F, rfl, by simpa using hl, hF, h⟩
      | none => rw [hF] at h; cases h
    · rw [if_neg hl] at h; cases h
  · cases h
theorem peekv_pk {v : V} {d d0 : D} (R1 : R c w σ s) (t : Tr c w.ρ w.F v d) (e : peek s (.v d) = some d0) : Pk c w v d0 := peek_pk (w0 := w) (r := .v d) R1 t e
theorem sim_Mth {tab : Nat → Option FT} (h : ∀ k F, tab k = some F → ∃ lv, lv ≤ j ∧ Mth P wl c.K mg base lv (c.cad k) m (spF c F)) (ho : Sim c E to To) (ht : SimA c E t T) : Sim c E (tMth P wl c.K mg base m j E to t) (TMth tab m To T) := by
  intro w σ s out s' Q R1 e post
  rcases bnd_some e with ⟨r, s1, e1, e⟩ | ⟨x, e1, rfl⟩
  · refine ho w σ s _ s1 _ R1 e1 fun w1 v l1 R2 rv => ?_
    rcases bnd_some e with ⟨d, s2, e2, e⟩ | ⟨x, e2, rfl⟩
    · obtain ⟨w2, l2, eh, R3, tr⟩ := stab_ok R2 l1 rv e2
      obtain ⟨d0, p0, e⟩ := bnd_pk e
      obtain ⟨k, fs, F, rfl, hl, hF, e⟩ := meth_some e
      obtain ⟨a, dx, vs0, rfl, hH, tf⟩ := (peekv_pk R3 tr p0).obj R3.ok
      obtain ⟨lv, hlv, M⟩ := h k F hF
      rw [← eh]
      refine ⟨a, c.cad k, dx, vs0, lv, _, rfl, hH, M, hlv, (trf_look tf).2 hl, ?_⟩
      rcases bnd_some e with ⟨ds, s3, e3, e⟩ | ⟨x, e3, rfl⟩
      · exact ht w2 σ s2 _ s3 _ R3 e3 fun w3 vs l3 R4 ta => call_ok R4 (l2.trans l3) (.cons (tr.mono l3.pr l3.fz) ta) e post
      · exact ht w2 σ s2 _ _ _ R3 e3 fun w3 d l3 R4 xa => post w3 d (l2.trans l3) R4 xa
    · exact (stab_not_ex e2).elim
  · exact ho w σ s _ _ _ R1 e1 post
theorem sim_MthK {ks : List Str} {tab : Nat → Option FT} {gV : List V → List V} {g : List D → List D} (h : ∀ k F, tab k = some F → ∃ lv, lv ≤ j ∧ MthK P wl c.K mg base lv (c.cad k) m ks gV (spF c F)) (hg : ∀ {ρ F vs ds}, TrAll c ρ F vs ds → TrAll c ρ F (gV vs) (g ds)) (ho : Sim c E to To) (ht : SimA c E t T) : Sim c E (tMthK P wl c.K mg base m ks j E to t) (TMthK tab m ks.length g To T) := by
  intro w σ s out s' Q R1 e post
  rcases bnd_some e with ⟨r, s1, e1, e⟩ | ⟨x, e1, rfl⟩
  · refine ho w σ s _ s1 _ R1 e1 fun w1 v l1 R2 rv => ?_
    rcases bnd_some e with ⟨d, s2, e2, e⟩ | ⟨x, e2, rfl⟩
    · obtain ⟨w2, l2, eh, R3, tr⟩ := stab_ok R2 l1 rv e2
      obtain ⟨d0, p0, e⟩ := bnd_pk e
      obtain ⟨k, fs, F, rfl, hl, hF, e⟩ := meth_some e
      obtain ⟨a, dx, vs0, rfl, hH, tf⟩ := (peekv_pk R3 tr p0).obj R3.ok
      obtain ⟨lv, hlv, M⟩ := h k F hF
      rw [← eh]
      refine ⟨a, c.cad k, dx, vs0, lv, gV, _, rfl, hH, M, hlv, (trf_look tf).2 hl, ?_⟩
      rcases bnd_some e with ⟨ds, s3, e3, e⟩ | ⟨x, e3, rfl⟩
      · refine ht w2 σ s2 _ s3 _ R3 e3 fun w3 vs l3 R4 ta => ?_
        by_cases hn : ds.length = ks.length
        · rw [if_pos hn] at e
          exact ⟨(trall_len ta).trans hn, call_ok R4 (l2.trans l3) (.cons (tr.mono l3.pr l3.fz) (hg ta)) e post⟩
        · rw [if_neg hn] at e; cases e
      · exact ht w2 σ s2 _ _ _ R3 e3 fun w3 d l3 R4 xa => post w3 d (l2.trans l3) R4 xa
    · exact (stab_not_ex e2).elim
  · exact ho w σ s _ _ _ R1 e1 post
/-- a new object: the cell of its attributes, then __init__ -/
theorem sim_Mkr {cn : Nat} (h : Mkr P wl c.K mg base k x (c.cad cn) (spI c cn F)) (hk : k + 1 ≤ j) (ht : SimA c E t T) : Sim c E (tMkr P wl c.K mg base x j E t) (TFn F T) := by
  intro w σ s out s' Q R1 e post
  refine ⟨k, _, _, h, hk, ?_⟩
  rcases bnd_some e with ⟨ds, s1, e1, e⟩ | ⟨x, e1, rfl⟩
  · refine ht w σ s _ s1 _ R1 e1 fun w1 vs l1 R2 ta => fun p dx hp hdx ne => ?_
    have np : ∀ b, b ∈ w1.ρ → b ≠ p := fun b z y => (R2.ow b (R2.rho' z)).2 (by rw [y]; exact hp)
    have ndx : ∀ b, b ∈ w1.ρ → b ≠ dx := fun b z y => (R2.ow b (R2.rho' z)).2 (by rw [y]; exact hdx)
    have fp : w1.F p = none := by
      cases z : w1.F p with
      | none => rfl
      | some u => exact absurd (R2.ok _ _ z) (by rw [hp]; simp)
    have hp2 : upd w1.H dx (.own p) p = none := by rw [upd_ne (Ne.symm ne)]; exact hp
    -- the state at the call
    have Rc := ((R2.callee.new (p := dx) (o := .own p) hdx).new (p := p) (o := .ins (c.cad cn) dx []) hp2)
    have Rk : R c ⟨w1.F, fun b => b ∈ w1.ρ ∨ b = p, upd (upd w1.H dx (.own p)) p (.ins (c.cad cn) dx []), w1.ρ⟩ [some (.ref p)] ⟨[some (.o (.obj cn []))], s1.μ⟩ := by
      refine ⟨Rc.ok, fun b z => ?_, Rc.len, Rc.nd, rfl, fun n q d a1 a2 => ⟨.inl (Rc.st n q d a1 a2).1, (Rc.st n q d a1 a2).2⟩, fun i a hi => ?_, fun i i' q d d' a1 a2 _ _ => ?_⟩
      · rcases z with z | rfl
        · exact Rc.ow b z
        · exact ⟨fp, by show upd _ b _ b ≠ none; rw [upd_same]; simp⟩
      · match i, hi with
        | 0, hi =>
          cases hi
          exact ⟨.ref p, rfl, p, _, rfl, .inr rfl, fun z => np p z rfl, upd_same, .obj .nil⟩
        | i + 1, hi => simp at hi
      · match i, i', a1, a2 with
        | 0, 0, _, _ => rfl
        | 0, i + 1, _, a2 => simp at a2
        | i + 1, _, a1, _ => simp at a1
    -- back
    have back : ∀ {w' : Wd} {μ' : List D}, Le ⟨w1.F, fun b => b ∈ w1.ρ ∨ b = p, upd (upd w1.H dx (.own p)) p (.ins (c.cad cn) dx []), w1.ρ⟩ w' → R c w' [] ⟨[], μ'⟩ → Le w1.callee ⟨w'.F, fun b => b ∈ w'.ρ, w'.H, w'.ρ⟩ ∧ R c ⟨w'.F, fun b => b ∈ w'.ρ, w'.H, w'.ρ⟩ [] ⟨[], μ'⟩ := by
      intro w' μ' l' R'
      have low : Le w1.callee ((w1.callee.new dx (.own p)).new p (.ins (c.cad cn) dx [])) := (Le.new (w := w1.callee) hdx).trans (Le.new (w := w1.callee.new dx (.own p)) hp2)
      refine ⟨⟨l'.fz, fun b z => ?_, fun b o a1 a2 => ?_, fun b z => ?_, fun b z => l'.dm b (low.dm b z), l'.pr⟩, R'.callee⟩
      · rcases l'.nf b z with y | y | y
        · exact .inl y
        · rcases y with y | rfl
          · exact .inr (.inl y)
          · exact .inr (.inr hp)
        · exact .inr (.inr (low.dm' y))
      · have hb : b ≠ p := ne_of_none a1 hp
        exact l'.fr b o (low.fr b o a1 a2) fun z => z.elim a2 hb
      · rcases l'.no b (R'.rho' z) with y | y
        · rcases y with y | rfl
          · exact .inl y
          · exact .inr hp
        · exact .inr (low.dm' y)
    unfold call at e
    split at e
    · rename_i d μ e2
      cases e
      refine ⟨_, p, vs, ds, s1.μ, _, μ, rfl, rfl, fun b z => z, Rk, ta, e2, fun w' l' R' rv => ⟨rfl, ?_⟩⟩
      obtain ⟨l2, R3⟩ := back l' R'
      exact post (w1.back ⟨w'.F, fun b => b ∈ w'.ρ, w'.H, w'.ρ⟩) (.ref p) (l1.trans (Le.back R2 l2 R3)) (R2.back l2 R3) (rv w1 hp)
    · rename_i d μ e2
      cases e
      refine ⟨_, p, vs, ds, s1.μ, _, μ, rfl, rfl, fun b z => z, Rk, ta, e2, fun w' l' R' rv => ⟨rfl, ?_⟩⟩
      obtain ⟨l2, R3⟩ := back l' R'
      refine post (w1.back ⟨w'.F, fun b => b ∈ w'.ρ, w'.H, w'.ρ⟩) (.ref p) (l1.trans (Le.back R2 l2 R3)) (R2.back l2 R3) (Rv.base l1 ?_)
      refine Rv.back R2 R3 ?_
      obtain ⟨q, o, eq, n, h1, h2, h3, h4⟩ := rv w1 hp
      cases eq
      exact ⟨p, o, rfl, n, h1, h2, h3, fun z => h4 (R'.rho' z)⟩
    · rename_i x μ e2
      cases e
      refine ⟨_, p, vs, ds, s1.μ, _, μ, rfl, rfl, fun b z => z, Rk, ta, e2, fun w' d l' R' xa => ?_⟩
      obtain ⟨l2, R3⟩ := back l' R'
      exact post (w1.back ⟨w'.F, fun b => b ∈ w'.ρ, w'.H, w'.ρ⟩) d (l1.trans (Le.back R2 l2 R3)) (R2.back l2 R3) xa
    · cases e
  · exact ht w σ s _ _ _ R1 e1 post
end
/-! ### defs -/
/-- what a body gives to its caller -/
def outF : Option (Fl × S) → Option (Rz Rs × List D)
  | some (.rt (.v d), s) => some (.ok (.v d), s.μ)
  | some (.rt (.fr d), s) => some (.ok (.fr d), s.μ)
  | some (.rt (.al i), s) => (match s.env[i]? with
    | some (some (.o d)) => some (.ok (.fr d), s.μ)
    | some (some (.s d)) => some (.ok (.v d), s.μ)
    | _ => none)
  | some (.nx, s) => some (.ok (.v .non), s.μ)
  | some (.ex x, s) => some (.ex x, s.μ)
  | _ => none
def env0 (n : Nat) (ds : List D) : List (Option A) := ds.map (fun d => some (.s d)) ++ List.replicate (n - ds.length) none
/-- a def of m parameters and n names, by its body -/
def runF (m n : Nat) (T : TSd) : FT := fun ds μ => if ds.length = m then outF (T ⟨env0 n ds, μ⟩) else none
section
variable {c : Cz} {E : XS} {w : Wd}
theorem env0_R {N : List Str} {vs : List V} {ds : List D} {μ : List D} (R1 : R c w [] ⟨[], μ⟩) (ta : TrAll c w.ρ w.F vs ds) : R c w (start N vs) ⟨env0 N.length ds, μ⟩ := by
  have hl := trall_len ta
  have get : ∀ {i : Nat} {a : A}, (env0 N.length ds)[i]? = some (some a) → ∃ d, ds[i]? = some d ∧ a = .s d := by
    intro i a e
    unfold env0 at e
    by_cases hi : i < ds.length
    · rw [List.getElem?_append_left (by simpa using hi), List.getElem?_map, List.getElem?_eq_getElem hi] at e
      cases e
      exact ⟨_, List.getElem?_eq_getElem hi, rfl⟩
    · rw [List.getElem?_append_right (by simpa using hi), List.getElem?_replicate] at e
      split at e <;> cases e
  refine ⟨R1.ok, R1.ow, R1.len, R1.nd, by simp [env0, L2.start, hl], R1.st, fun i a e => ?_, fun i j p d e h => ?_⟩
  · obtain ⟨d, hd, rfl⟩ := get e
    have hi : i < vs.length := by rw [hl]; exact (List.getElem?_eq_some_iff.mp hd).1
    refine ⟨vs[i], ?_, trall_get ta (List.getElem?_eq_getElem hi) hd⟩
    unfold L2.start
    rw [List.getElem?_append_left (by simpa using hi), List.getElem?_map, List.getElem?_eq_getElem hi]
    rfl
  · obtain ⟨d, _, z⟩ := get h
    cases z
theorem R.bare {σ : L2.St} {s : S} (R1 : R c w σ s) : R c w [] ⟨[], s.μ⟩ :=
  ⟨R1.ok, R1.ow, R1.len, R1.nd, rfl, R1.st, fun i a e => by simp at e, fun i j p d e h => by simp at h⟩
/-- a def whose body is T -/
theorem pur_F {N ps : List Str} {t : XS → TS} {T : TSd} (h : ∀ E, SimS c E (t E) T) : Pur N ps (fun E => t fun _ => E) (spF c (runF ps.length N.length T)) := by
  intro vs H Q E hsp
  obtain ⟨w, ds, μ, out, μ', rfl, hO, R1, ta, e, post⟩ := hsp
  unfold runF at e
  by_cases hl : ds.length = ps.length
  · rw [if_pos hl] at e
    refine ⟨(trall_len ta).trans hl, ?_⟩
    have R2 := env0_R (N := N) R1 ta
    cases eT : T ⟨env0 N.length ds, μ⟩ with
    | none => rw [eT] at e; cases e
    | some p =>
      obtain ⟨fl, s'⟩ := p
      rw [eT] at e
      refine h (fun _ => E) w (start N vs) _ fl s' _ R2 eT ?_
      unfold outF at e
      split at e
      · rename_i d s2 e2
        cases e2; cases e
        exact fun w' σ' v l R' rv => post w' v l R'.bare rv
      · rename_i d s2 e2
        cases e2; cases e
        exact fun w' σ' v l R' rv => post w' v l R'.bare rv
      · rename_i i s2 e2
        cases e2
        split at e
        · rename_i d hd
          cases e
          refine fun w' σ' v l R' rv => ?_
          obtain ⟨x, hx, p, o, rfl, hO', hρ, hH, ce⟩ := R'.vr i _ hd
          have rv : σ'[i]? = some (some v) := rv
          rw [rv] at hx
          cases hx
          refine post w'.callee (.ref p) ⟨l.fz, l.nf, l.fr, fun b z => l.no b (R'.rho' z), l.dm, l.pr⟩ R'.callee ⟨p, o, rfl, ?_, hH, ce, (R'.ow p hO').1, hρ⟩
          rcases l.no p hO' with z | z
          · have := hO p z
            obtain ⟨tl, ht⟩ := l.pr
            exact absurd (by rw [← ht]; exact List.mem_append_left _ this) hρ
          · exact z
        · rename_i d hd
          cases e
          refine fun w' σ' v l R' rv => ?_
          obtain ⟨x, hx, tr⟩ := R'.vr i _ hd
          have rv : σ'[i]? = some (some v) := rv
          rw [rv] at hx
          cases hx
          exact post w' v l R'.bare tr
        · cases e
      · rename_i s2 e2
        cases e2; cases e
        exact fun w' σ' l R' => post w' .non l R'.bare .non
      · rename_i x s2 e2
        cases e2; cases e
        exact fun w' σ' d l R' xa => post w' d l R'.bare xa
      · cases e
  · rw [if_neg hl] at e; cases e
end
end Z
/-! __init__, attributes -/
namespace Z
open PySem PySem.Spec PyProof.Rows L2 U ClX
section
variable (c : Cz)
def PostN (w : Wd) (σ : L2.St) (D : Ends) (E : XS) (s' : S) : Fl → Prop
  | .nx => ∀ w', Le w w' → R c w' σ s' → D.nx σ w'.H
  | .rt r => ∀ w' v, Le w w' → R c w' σ s' → Rv c w w' σ v r → D.rt v w'.H
  | .bk => ∀ w', Le w w' → R c w' σ s' → D.bk σ w'.H
  | .ct => ∀ w', Le w w' → R c w' σ s' → D.ct σ w'.H
  | .ex x => ∀ w' d, Le w w' → R c w' σ s' → Xa c w' d x → E σ (.ref (c.cad x.c)) d w'.H
/-- a statement that gives no variable -/
def SimN (E : XS) (t : TS) (T : TSd) : Prop := ∀ w σ s fl s' D, R c w σ s → T s = some (fl, s') → PostN c w σ D E s' fl → t D σ w.H
end
section
variable {c : Cz} {E : XS} {w w0 : Wd} {σ : L2.St} {s s' : S}
theorem PostN.from {D : Ends} {fl : Fl} (l : Le w0 w) (h : PostN c w0 σ D E s' fl) : PostN c w σ D E s' fl := by
  cases fl with
  | nx => exact fun w' l' R' => h w' (l.trans l') R'
  | rt r => exact fun w' v l' R' rv => h w' v (l.trans l') R' (rv.base l)
  | bk => exact fun w' l' R' => h w' (l.trans l') R'
  | ct => exact fun w' l' R' => h w' (l.trans l') R'
  | ex x => exact fun w' d l' R' xa => h w' d (l.trans l') R' xa
theorem simN_Next : SimN c E tNext TNext := by
  intro w σ s fl s' D R1 e post
  cases e; exact post w Le.refl R1
theorem simN_Seq {t u : TS} {T U : TSd} (ht : SimN c E t T) (hu : SimN c E u U) : SimN c E (tSeq t u) (TSeq T U) := by
  intro w σ s fl s' D R1 e post
  unfold TSeq at e
  split at e
  · rename_i s1 e1
    exact ht w σ s _ s1 _ R1 e1 fun w1 l1 R2 => hu w1 σ s1 fl s' D R2 e (post.from l1)
  · rename_i ne
    refine ht w σ s fl s' _ R1 e ?_
    cases fl with
    | nx => exact absurd e (ne s')
    | rt r => exact post
    | bk => exact post
    | ct => exact post
    | ex x => exact post
theorem simN_IfS {b : TT} {B : M Bool} {t u : TS} {T U : TSd} (hb : SimT c E b B) (ht : SimN c E t T) (hu : SimN c E u U) : SimN c E (tIfS b t u) (TIfS B T U) := by
  intro w σ s fl s' D R1 e post
  rcases sb_some e with ⟨z, s1, e1, e⟩ | ⟨x, e1, rfl⟩
  · refine hb w σ s _ s1 _ R1 e1 fun w1 l1 R2 => ?_
    cases z with
    | true => exact ht w1 σ s1 fl s' D R2 e (post.from l1)
    | false => exact hu w1 σ s1 fl s' D R2 e (post.from l1)
  · exact hb w σ s _ s' _ R1 e1 fun w1 d l1 R2 xa => post w1 d l1 R2 xa
theorem simN_Fld {ok : Nat → Bool} {f : Str} {o t : TE} {O T : M Rs} (hok : ∀ k, ok k = true → Cls c.K (c.cad k) ∧ NoAttr c.K (c.cad k) f) (ho : Sim c E o O) (ht : Sim c E t T) : SimN c E (sFld c.K o t f) (TFld ok f O T) := by
  intro w σ s fl s' D R1 e post
  rcases sb_some e with ⟨r, s1, e1, e⟩ | ⟨x, e1, rfl⟩
  · refine ht w σ s _ s1 _ R1 e1 fun w1 v l1 R2 rv => ?_
    rcases sb_some e with ⟨d, s2, e2, e⟩ | ⟨x, e2, rfl⟩
    · obtain ⟨w2, l2, eh, R3, tr⟩ := stab_ok R2 l1 rv e2
      rw [← eh]
      rcases sb_some e with ⟨ro, s3, e3, e⟩ | ⟨x, e3, rfl⟩
      · refine ho w2 σ s2 _ s3 _ R3 e3 fun w3 vo l3 R4 rvo => ?_
        rcases sb_some e with ⟨_, s5, e5, e⟩ | ⟨x, e5, rfl⟩
        · obtain ⟨p, ob, dl, d', rfl, hp, ce, ef, hpk, k⟩ := mut_ok R4 rvo e5
          clear hpk
          cases e
          split at ef
          · rename_i kk fs
            split at ef
            · rename_i hb
              simp only [Bool.and_eq_true, decide_eq_true_eq] at hb
              cases ef
              cases ce with
              | obj ta =>
                rename_i dx ws
                obtain ⟨h1, h2⟩ := hok kk hb.1
                refine ⟨p, _, dx, ws, rfl, hp, h1, h2, by rw [trf_len ta]; exact hb.2, ?_⟩
                obtain ⟨R6, l6⟩ := k (.ins (c.cad kk) dx (putF f v ws)) (.obj (trf_put (tr.mono l3.pr l3.fz) ta))
                exact post _ (l2.trans (l3.trans l6)) R6
            · cases ef
          · cases ef
        · exact (mut_not_ex e5).elim
      · exact ho w2 σ s2 _ _ _ R3 e3 fun w3 d l3 R4 xa => post w3 d (l2.trans l3) R4 xa
    · exact (stab_not_ex e2).elim
  · exact ht w σ s _ _ _ R1 e1 fun w1 d l1 R2 xa => post w1 d l1 R2 xa
end
def outI : Option (Fl × S) → Option (Rz Rs × List D)
  | some (.nx, s) => (match s.env[(0 : Nat)]? with
    | some (some (.o d)) => some (.ok (.fr d), s.μ)
    | some (some (.s d)) => some (.ok (.v d), s.μ)
    | _ => none)
  | some (.ex x, s) => some (.ex x, s.μ)
  | _ => none
def envI (n k : Nat) (ds : List D) : List (Option A) := some (.o (.obj k [])) :: (ds.map (fun d => some (.s d)) ++ List.replicate (n - (ds.length + 1)) none)
/-- an __init__ of the class k, by its body -/
def runI (m n k : Nat) (T : TSd) : FT := fun ds μ => if ds.length + 1 = m then outI (T ⟨envI n k ds, μ⟩) else none
section
variable {c : Cz} {E : XS} {w : Wd}
theorem envI_R {k : Nat} {N : List Str} {p : Addr} {vs : List V} {ds : List D} {μ : List D} (R1 : R c w [some (.ref p)] ⟨[some (.o (.obj k []))], μ⟩) (ta : TrAll c w.ρ w.F vs ds) : R c w (L2.start N (.ref p :: vs)) ⟨envI N.length k ds, μ⟩ := by
  have hl := trall_len ta
  have get : ∀ {i : Nat} {a : A}, (envI N.length k ds)[i]? = some (some a) → (i = 0 ∧ a = .o (.obj k [])) ∨ ∃ j d, i = j + 1 ∧ ds[j]? = some d ∧ a = .s d := by
    intro i a e
    unfold envI at e
    cases i with
    | zero => cases e; exact .inl ⟨rfl, rfl⟩
    | succ i =>
      rw [List.getElem?_cons_succ] at e
      by_cases hi : i < ds.length
      · rw [List.getElem?_append_left (by simpa using hi), List.getElem?_map, List.getElem?_eq_getElem hi] at e
        cases e
        exact .inr ⟨i, _, rfl, List.getElem?_eq_getElem hi, rfl⟩
      · rw [List.getElem?_append_right (by simpa using hi), List.getElem?_replicate] at e
        split at e <;> cases e
  refine ⟨R1.ok, R1.ow, R1.len, R1.nd, by simp [envI, L2.start, hl], R1.st, fun i a e => ?_, fun i j p d e h h' => ?_⟩
  · rcases get e with ⟨rfl, rfl⟩ | ⟨j, d, rfl, hd, rfl⟩
    · obtain ⟨v, h1, h2⟩ := R1.vr 0 _ rfl
      cases h1
      exact ⟨.ref p, rfl, h2⟩
    · have hi : j < vs.length := by rw [hl]; exact (List.getElem?_eq_some_iff.mp hd).1
      refine ⟨vs[j], ?_, trall_get ta (List.getElem?_eq_getElem hi) hd⟩
      unfold L2.start
      rw [List.getElem?_append_left (by simpa using hi), List.getElem?_map, List.getElem?_cons_succ, List.getElem?_eq_getElem hi]
      rfl
  · rcases get h with ⟨rfl, _⟩ | ⟨_, _, _, _, z⟩
    · rcases get h' with ⟨rfl, _⟩ | ⟨_, _, _, _, z⟩
      · exact fun _ _ => rfl
      · cases z
    · cases z
theorem pur_I {k : Nat} {N ps : List Str} {t : XS → TS} {T : TSd} (h : ∀ E, SimN c E (t E) T) : Pur N ps (fun E => t fun _ => E) (spI c k (runI ps.length N.length k T)) := by
  intro vs H Q E hsp
  obtain ⟨w, p, args, ds, μ, out, μ', rfl, rfl, hO, R1, ta, e, post⟩ := hsp
  unfold runI at e
  by_cases hl : ds.length + 1 = ps.length
  · rw [if_pos hl] at e
    refine ⟨by rw [List.length_cons, trall_len ta]; exact hl, ?_⟩
    have R2 := envI_R (N := N) R1 ta
    cases eT : T ⟨envI N.length k ds, μ⟩ with
    | none => rw [eT] at e; cases e
    | some q =>
      obtain ⟨fl, s'⟩ := q
      rw [eT] at e
      refine h (fun _ => E) w _ _ fl s' _ R2 eT ?_
      unfold outI at e
      split at e
      · rename_i s2 e2
        cases e2
        split at e
        · rename_i d hd
          cases e
          refine fun w' l R' => ?_
          obtain ⟨x, hx, p', o, rfl, hO', hρ, hH, ce⟩ := R'.vr 0 _ hd
          cases hx
          exact post w'.callee ⟨l.fz, l.nf, l.fr, fun b z => l.no b (R'.rho' z), l.dm, l.pr⟩ R'.callee fun w0 h0 => ⟨p, o, rfl, h0, hH, ce, (R'.ow p hO').1, hρ⟩
        · rename_i d hd
          cases e
          refine fun w' l R' => ?_
          obtain ⟨x, hx, tr⟩ := R'.vr 0 _ hd
          cases hx
          exact post w' l R'.bare fun w0 _ => tr
        · cases e
      · rename_i x s2 e2
        cases e2; cases e
        exact fun w' d l R' xa => post w' d l R'.bare xa
      · cases e
  · rw [if_neg hl] at e; cases e
end
/-! ### attributes -/
inductive AK where | fld | con (d : D) | get (f : Str) | xf
def attD (tab : Nat → Option AK) (ct : Nat → Option D) (f : Str) : D → Option D
  | .obj k fs => (match tab k with
    | some .fld => fs.lookup f
    | some (.con d) => if (fs.lookup f).isNone = true then some d else none
    | some (.get g) => fs.lookup g
    | _ => none)
  | .exc k fs => (match tab k with
    | some .xf => fs.lookup f
    | _ => none)
  | .cl k => ct k
  | _ => none
def TAtt (tab : Nat → Option AK) (ct : Nat → Option D) (f : Str) (a : M Rs) : M Rs := bnd a fun r => bnd (pk r) fun d0 => bnd (opt (attD tab ct f d0)) fun d => ret (.v d)
structure AttOk (c : Cz) (P : Program) (wl : World) (mg : Str → Option Value) (base : Heap) (f : Str) (tab : Nat → Option AK) (ct : Nat → Option D) : Prop where
  fld : ∀ k, tab k = some .fld → Cls c.K (c.cad k) ∧ NoAttr c.K (c.cad k) f
  con : ∀ k d, tab k = some (.con d) → Cls c.K (c.cad k) ∧ ∃ v u, Con c.K (c.cad k) f v u ∧ ∀ ρ F, Tr c ρ F v d
  get : ∀ k g, tab k = some (.get g) → Cls c.K (c.cad k) ∧ ∃ p ga fd, PropOf c.K (c.cad k) f p ga ∧ FnOk P wl c.K mg base (L2.CX P wl) 1 ga fd ["self"] (getSp (c.cad k) g) ∧ Binds c.K fd ["self"] []
  xf : ∀ k, tab k = some .xf → XfC c.K (c.cad k) ∧ PySem.W.findIn c.K (.ref (c.cad k)) f = some none
  cls : ∀ k d, ct k = some d → ∃ v mc u, CRead c.K (c.cad k) mc ∧ CVal c.K (c.cad k) mc f v u ∧ ∀ ρ F, Tr c ρ F v d
section
variable {c : Cz} {E : XS} {P : Program} {wl : World} {mg : Str → Option Value} {base : Heap}
theorem sim_Att {f : Str} {tab : Nat → Option AK} {ct : Nat → Option D} {t : TE} {T : M Rs} (h : AttOk c P wl mg base f tab ct) (ht : Sim c E t T) : Sim c E (tAtt P wl c.K mg base f t) (TAtt tab ct f T) := by
  intro w σ s out s' Q R1 e post
  rcases bnd_some e with ⟨r, s1, e1, e⟩ | ⟨x, e1, rfl⟩
  · refine ht w σ s _ s1 _ R1 e1 fun w1 v l1 R2 rv => ?_
    obtain ⟨d0, p0, e⟩ := bnd_pk e
    obtain ⟨d, ed, e⟩ := bnd_opt e
    cases e
    have pk := peek_pk R2 rv p0
    unfold attD at ed
    split at ed
    · rename_i k fs
      obtain ⟨a, dx, ws, rfl, hH, tf⟩ := pk.obj R2.ok
      split at ed
      · rename_i hk
        obtain ⟨h1, h2⟩ := h.fld k hk
        obtain ⟨u, hu, tu⟩ := (trf_look tf).1 d ed
        exact ⟨a, u, rfl, .fld hH h1 h2 hu, post w1 u l1 R2 tu⟩
      · rename_i d' hk
        by_cases hn : (fs.lookup f).isNone = true
        · rw [if_pos hn] at ed
          cases ed
          obtain ⟨h1, u, u', h2, tu⟩ := h.con k d hk
          exact ⟨a, u, rfl, .con hH h1 h2 ((trf_look tf).2 (by simpa using hn)), post w1 u l1 R2 (tu _ _)⟩
        · rw [if_neg hn] at ed; cases ed
      · rename_i g hk
        obtain ⟨h1, p, ga, fd, h2, h3, h4⟩ := h.get k g hk
        obtain ⟨u, hu, tu⟩ := (trf_look tf).1 d ed
        exact ⟨a, u, rfl, .prop hH h1 h2 h3 h4 hu, post w1 u l1 R2 tu⟩
      · cases ed
    · rename_i k fs
      split at ed
      · rename_i hk
        obtain ⟨h1, h2⟩ := h.xf k hk
        cases pk with
        | sc p =>
          cases p with
          | exc0 h => cases ed
          | exc1 h hd r =>
            obtain ⟨u, hu, tu⟩ := (trf_look r).1 d ed
            exact ⟨_, u, rfl, .exc (R2.ok _ _ h) (R2.ok _ _ hd) h1 h2 hu, post w1 u l1 R2 tu⟩
        | cell q ce => cases ce
      · cases ed
    · rename_i k
      obtain ⟨u, mc, u', h1, h2, tu⟩ := h.cls k d ed
      exact ⟨_, u, pk.cl, .cls h1 h2, post w1 u l1 R2 (tu _ _)⟩
    · cases ed
  · exact ht w σ s _ _ _ R1 e1 post
def attE (tab : Nat → Option AK) (f : Str) : D → Option D
  | .exc k fs => (match tab k with
    | some .xf => fs.lookup f
    | _ => none)
  | _ => none
def TAttE (tab : Nat → Option AK) (f : Str) (a : M Rs) : M Rs := bnd a fun r => bnd (pk r) fun d0 => bnd (opt (attE tab f d0)) fun d => ret (.v d)
theorem sim_AttE {f : Str} {tab : Nat → Option AK} {ct : Nat → Option D} {t : TE} {T : M Rs} (h : AttOk c P wl mg base f tab ct) (ht : Sim c E t T) : Sim c E (tAttE c.K f t) (TAttE tab f T) := by
  intro w σ s out s' Q R1 e post
  rcases bnd_some e with ⟨r, s1, e1, e⟩ | ⟨x, e1, rfl⟩
  · refine ht w σ s _ s1 _ R1 e1 fun w1 v l1 R2 rv => ?_
    obtain ⟨d0, p0, e⟩ := bnd_pk e
    obtain ⟨d, ed, e⟩ := bnd_opt e
    cases e
    have pk := peek_pk R2 rv p0
    unfold attE at ed
    split at ed
    · rename_i k fs
      split at ed
      · rename_i hk
        obtain ⟨h1, h2⟩ := h.xf k hk
        cases pk with
        | sc p =>
          cases p with
          | exc0 h => cases ed
          | exc1 h hd r =>
            obtain ⟨u, hu, tu⟩ := (trf_look r).1 d ed
            exact ⟨_, _, _, _, u, rfl, R2.ok _ _ h, R2.ok _ _ hd, h1, h2, hu, post w1 u l1 R2 tu⟩
        | cell q ce => cases ce
      · cases ed
    · cases ed
  · exact ht w σ s _ _ _ R1 e1 post
end
end Z
/-! operations on trees -/
namespace Z
open PySem PySem.Spec PyProof.Rows L2 U ClX
mutual
def toP : D → Option PyData
  | .non => some .none
  | .bl b => some (.bool b)
  | .int i => some (.int i)
  | .str z => some (.str z)
  | .list ds => (toPs ds).map .list
  | .scr ds => (toPs ds).map .list
  | .tup ds => (toPs ds).map .tuple
  | .ty _ => none
  | .cl _ => none
  | .loc _ => none
  | .dict _ => none
  | .obj _ _ => none
  | .exc _ _ => none
def toPs : List D → Option (List PyData)
  | [] => some []
  | d :: ds => match toP d, toPs ds with
    | some p, some ps => some (p :: ps)
    | _, _ => none
end
section
variable {c : Cz} {w : Wd} {v : V}
theorem tr_dp {ρ : List Addr} {F H : Hp} (ok : Same F H) : (∀ {v d}, Tr c ρ F v d → ∀ p, toP d = some p → Dp c.K H v p) ∧ (∀ {vs ds}, TrAll c ρ F vs ds → ∀ ps, toPs ds = some ps → DpAll c.K H vs ps) := by
  have sc : ∀ {a : Addr} {vs : List V}, F a = some (.lst vs) → SqL c.K H a vs := fun h => .inl (.inl (ok _ _ h))
  refine ⟨fun h => ?_, fun h => ?_⟩
  · exact Tr.rec (motive_1 := fun v d _ => ∀ p, toP d = some p → Dp c.K H v p) (motive_2 := fun vs ds _ => ∀ ps, toPs ds = some ps → DpAll c.K H vs ps) (motive_3 := fun _ _ _ => True) (motive_4 := fun _ _ _ => True)
      (fun p e => by unfold toP at e; cases e; exact .non) (fun b p e => by unfold toP at e; cases e; exact .bl _) (fun b p e => by unfold toP at e; cases e; exact .int _) (fun b p e => by unfold toP at e; cases e; exact .str _)
      (fun b p e => by unfold toP at e; cases e) (fun b p e => by unfold toP at e; cases e) (fun b p e => by unfold toP at e; cases e)
      (fun h _ ih p e => by unfold toP at e; obtain ⟨q, e1, rfl⟩ := Option.map_eq_some_iff.mp e; exact .lst (sc h) (ih q e1))
      (fun h _ ih p e => by unfold toP at e; obtain ⟨q, e1, rfl⟩ := Option.map_eq_some_iff.mp e; exact .lst (ok.seq h) (ih q e1))
      (fun h _ ih p e => by unfold toP at e; obtain ⟨q, e1, rfl⟩ := Option.map_eq_some_iff.mp e; exact .tup (ok.tup h) (ih q e1))
      (fun h _ ih p e => by unfold toP at e; cases e) (fun h _ ih p e => by unfold toP at e; cases e) (fun h p e => by unfold toP at e; cases e) (fun h hd _ ih p e => by unfold toP at e; cases e)
      (fun p e => by unfold toPs at e; cases e; exact .nil)
      (fun _ _ ih1 ih2 p e => by
        unfold toPs at e
        split at e
        · rename_i a b e1 e2; cases e; exact .cons (ih1 a e1) (ih2 b e2)
        · cases e) trivial (fun _ _ _ _ => trivial) trivial (fun _ _ _ _ => trivial) h
  · exact TrAll.rec (motive_1 := fun v d _ => ∀ p, toP d = some p → Dp c.K H v p) (motive_2 := fun vs ds _ => ∀ ps, toPs ds = some ps → DpAll c.K H vs ps) (motive_3 := fun _ _ _ => True) (motive_4 := fun _ _ _ => True)
      (fun p e => by unfold toP at e; cases e; exact .non) (fun b p e => by unfold toP at e; cases e; exact .bl _) (fun b p e => by unfold toP at e; cases e; exact .int _) (fun b p e => by unfold toP at e; cases e; exact .str _)
      (fun b p e => by unfold toP at e; cases e) (fun b p e => by unfold toP at e; cases e) (fun b p e => by unfold toP at e; cases e)
      (fun h _ ih p e => by unfold toP at e; obtain ⟨q, e1, rfl⟩ := Option.map_eq_some_iff.mp e; exact .lst (sc h) (ih q e1))
      (fun h _ ih p e => by unfold toP at e; obtain ⟨q, e1, rfl⟩ := Option.map_eq_some_iff.mp e; exact .lst (ok.seq h) (ih q e1))
      (fun h _ ih p e => by unfold toP at e; obtain ⟨q, e1, rfl⟩ := Option.map_eq_some_iff.mp e; exact .tup (ok.tup h) (ih q e1))
      (fun h _ ih p e => by unfold toP at e; cases e) (fun h _ ih p e => by unfold toP at e; cases e) (fun h p e => by unfold toP at e; cases e) (fun h hd _ ih p e => by unfold toP at e; cases e)
      (fun p e => by unfold toPs at e; cases e; exact .nil)
      (fun _ _ ih1 ih2 p e => by
        unfold toPs at e
        split at e
        · rename_i a b e1 e2; cases e; exact .cons (ih1 a e1) (ih2 b e2)
        · cases e) trivial (fun _ _ _ _ => trivial) trivial (fun _ _ _ _ => trivial) h
theorem Pk.dp {d : D} {p : PyData} (ok : Same w.F w.H) (h : Pk c w v d) (e : toP d = some p) : Dp c.K w.H v p := by
  cases h with
  | sc h => exact (tr_dp ok).1 h p e
  | cell e1 h =>
    cases h with
    | list r => unfold toP at e; obtain ⟨q, e2, rfl⟩ := Option.map_eq_some_iff.mp e; exact .lst (.inl (.inl e1)) ((tr_dp ok).2 r q e2)
    | tup r => unfold toP at e; obtain ⟨q, e2, rfl⟩ := Option.map_eq_some_iff.mp e; exact .tup (.inl (.inl e1)) ((tr_dp ok).2 r q e2)
    | dict r => unfold toP at e; cases e
    | obj r => unfold toP at e; cases e
end
/-! ### operators -/
def vAdd : D → D → Option Rs
  | .int i, .int j => some (.v (.int (i + j)))
  | .str a, .str b => if fits (a.length + b.length) = true then some (.v (.str (a ++ b))) else none
  | .list xs, .list ys => if fits (xs.length + ys.length) = true then some (.fr (.list (xs ++ ys))) else none
  | _, _ => none
def vSub : D → D → Option Rs
  | .int i, .int j => some (.v (.int (i - j)))
  | _, _ => none
def mulOk (i j : Int) : Bool := (decide (-(2 ^ 64) < i) && decide (i < 2 ^ 64)) || (decide (-(2 ^ 64) < j) && decide (j < 2 ^ 64)) || decide (i.natAbs.log2 + j.natAbs.log2 < 1000000)
def vMul : D → D → Option Rs
  | .int i, .int j => if mulOk i j = true then some (.v (.int (i * j))) else none
  | .list xs, .int k => if (decide (-(2 ^ 63) ≤ k) && decide (k < 2 ^ 63) && fits (xs.length * k.toNat)) = true then some (.fr (.list (List.replicate k.toNat xs).flatten)) else none
  | _, _ => none
def vDiv : D → D → Option Rs
  | .int i, .int j => if (decide (0 < j) && decide (j.natAbs.log2 < 9000)) = true then some (.v (.int (i / j))) else none
  | _, _ => none
def vMod : D → D → Option Rs
  | .int i, .int j => if 0 < j then some (.v (.int (i % j))) else none
  | _, _ => none
def vPow : D → D → Option Rs
  | .int i, .int j => if (decide (0 ≤ j) && decide ((Builtin.Int.intBits i : Int) * j ≤ 2 ^ 27)) = true then some (.v (.int (i ^ j.toNat))) else none
  | _, _ => none
def vCmp (g : Int → Int → Bool) (gs : List Nat → List Nat → Bool) : D → D → Option Rs
  | .int i, .int j => some (.v (.bl (g i j)))
  | .str a, .str b => some (.v (.bl (gs a.cps.toList b.cps.toList)))
  | _, _ => none
def vLt := vCmp (fun i j => decide (i < j)) (fun a b => decide (a < b))
def vLe := vCmp (fun i j => decide (i ≤ j)) (fun a b => !decide (b < a))
def vGt := vCmp (fun i j => decide (j < i)) (fun a b => decide (b < a))
def vGe := vCmp (fun i j => decide (j ≤ i)) (fun a b => !decide (a < b))
def eqS : D → D → Option Bool
  | .int i, .int j => some (decide (i = j))
  | .str a, .str b => some (decide (a = b))
  | .bl a, .bl b => some (decide (a = b))
  | .non, .non => some true
  | .non, .int _ => some false
  | .int _, .non => some false
  | .non, .bl _ => some false
  | .bl _, .non => some false
  | .non, .str _ => some false
  | .str _, .non => some false
  | .int _, .str _ => some false
  | .str _, .int _ => some false
  | .bl _, .str _ => some false
  | .str _, .bl _ => some false
  | _, _ => none
def eqD (d e : D) : Option Bool := match toP d, toP e with
  | some p, some q => if (SeqAt.shaped p && SeqAt.shaped q) = true then some (PyData.eqv p q) else none
  | _, _ => none
def eqL : D → D → Option Bool
  | .list xs, .list ys => if xs.length = ys.length then eqD (.list xs) (.list ys) else some false
  | d, e => eqD d e
def eqA (d e : D) : Option Bool := match eqS d e with
  | some b => some b
  | none => eqL d e
def vEq (d e : D) : Option Rs := (eqA d e).map fun b => .v (.bl b)
def vNe (d e : D) : Option Rs := (eqA d e).map fun b => .v (.bl (!b))
def vIs (d e : D) : Option Rs := match e with
  | .non => (match d with
    | .non => some (.v (.bl true))
    | _ => some (.v (.bl false)))
  | _ => none
def vIsNot (d e : D) : Option Rs := match e with
  | .non => (match d with
    | .non => some (.v (.bl false))
    | _ => some (.v (.bl true)))
  | _ => none
def flatD : D → Bool
  | .non => true
  | .bl _ => true
  | .int _ => true
  | .str _ => true
  | _ => false
def eqF : D → D → Bool
  | .non, .non => true
  | .bl a, .bl b => a == b
  | .bl a, .int b => (if a then 1 else 0) == b
  | .int a, .bl b => a == (if b then 1 else 0)
  | .int a, .int b => a == b
  | .str a, .str b => a == b
  | _, _ => false
def inF (d : D) (ds : List D) : Bool := ds.any fun e => eqF e d
def inL (d : D) (ds : List D) : Option Bool := if (flatD d && ds.all flatD) = true then some (inF d ds) else (match toP d, toPs ds with
  | some p, some ps => if (SeqAt.shaped p && SeqAt.shaped (.list ps)) = true then some (ps.any fun z => PyData.eqv z p) else none
  | _, _ => none)
def inA (d e : D) : Option Bool := match e with
  | .str z => (match d with
    | .str x => (match x.cps.toList with
      | [k] => some (decide (k ∈ z.cps.toList))
      | _ => none)
    | _ => none)
  | .list ds => inL d ds
  | .scr ds => inL d ds
  | .tup ds => if (flatD d && ds.all flatD) = true then some (inF d ds) else none
  | .dict kvs => (toKey d).map fun k => (valD kvs k).isSome
  | _ => none
def vIn (d e : D) : Option Rs := (inA d e).map fun b => .v (.bl b)
def vNotIn (d e : D) : Option Rs := (inA d e).map fun b => .v (.bl (!b))
def vIx : D → D → Option Rs
  | .list ds, .int i => (atI ds i).map .v
  | .scr ds, .int i => (atI ds i).map .v
  | .tup ds, .int i => (atI ds i).map .v
  | .str z, .int i => if fits z.length = true then (atI z.cps.toList i).map fun k => .v (.str ⟨#[k]⟩) else none
  | _, _ => none
def vIp (f : Int → Int → Int) : D → D → Option Rs
  | .int i, .int j => some (.v (.int (f i j)))
  | _, _ => none
def vNeg : D → Option Rs
  | .int i => some (.v (.int (-i)))
  | _ => none
section
variable {c : Cz}
theorem os_Add : OpS c uAdd vAdd := by
  intro w x y d e r Q ok px py hf rq
  unfold vAdd at hf
  split at hf
  · cases hf; rw [px.int, py.int]; exact rq _ (.int _)
  · split at hf
    · rename_i h; cases hf; rw [px.str, py.str]; exact ⟨fits_le h, rq _ (.str _)⟩
    · cases hf
  · split at hf
    · rename_i h; cases hf
      obtain ⟨a, vs, rfl, h1, t1⟩ := px.list ok
      obtain ⟨b, us, rfl, h2, t2⟩ := py.list ok
      exact ⟨vs, us, h1, h2, by rw [trall_len t1, trall_len t2]; exact fits_le h, fun p hp => rq p _ hp (.list (t1.append t2))⟩
    · cases hf
  · cases hf
theorem os_Sub : OpS c uSub vSub := by
  intro w x y d e r Q ok px py hf rq
  unfold vSub at hf
  split at hf
  · cases hf; rw [px.int, py.int]; exact rq _ (.int _)
  · cases hf
theorem mulOk_c {i j : Int} (h : mulOk i j = true) : CMul i j ∨ CMulW i j := by
  unfold mulOk at h
  simp only [Bool.or_eq_true, Bool.and_eq_true, decide_eq_true_eq] at h
  exact h
theorem rep_tr {ρ : List Addr} {F : Hp} {vs : List V} {ds : List D} (t : TrAll c ρ F vs ds) : ∀ n : Nat, TrAll c ρ F (List.replicate n vs).flatten (List.replicate n ds).flatten
  | 0 => .nil
  | n + 1 => by simp only [List.replicate_succ, List.flatten_cons]; exact t.append (rep_tr t n)
theorem os_Mul : OpS c uMul vMul := by
  intro w x y d e r Q ok px py hf rq
  unfold vMul at hf
  split at hf
  · split at hf
    · rename_i h; cases hf; rw [px.int, py.int]; exact ⟨mulOk_c h, rq _ (.int _)⟩
    · cases hf
  · split at hf
    · rename_i h; cases hf
      obtain ⟨a, vs, rfl, h1, t1⟩ := px.list ok
      rw [py.int]
      simp only [Bool.and_eq_true, decide_eq_true_eq] at h
      exact ⟨vs, h1, h.1.1, h.1.2, by rw [trall_len t1]; exact fits_le h.2, fun p hp => rq p _ hp (.list (rep_tr t1 _))⟩
    · cases hf
  · cases hf
theorem os_Div : OpS c uDiv vDiv := by
  intro w x y d e r Q ok px py hf rq
  unfold vDiv at hf
  split at hf
  · split at hf
    · rename_i h; cases hf; rw [px.int, py.int]
      simp only [Bool.and_eq_true, decide_eq_true_eq] at h
      exact ⟨h, rq _ (.int _)⟩
    · cases hf
  · cases hf
theorem os_Mod : OpS c uMod vMod := by
  intro w x y d e r Q ok px py hf rq
  unfold vMod at hf
  split at hf
  · split at hf
    · rename_i h; cases hf; rw [px.int, py.int]; exact ⟨h, rq _ (.int _)⟩
    · cases hf
  · cases hf
theorem os_Pow : OpS c uPow vPow := by
  intro w x y d e r Q ok px py hf rq
  unfold vPow at hf
  split at hf
  · split at hf
    · rename_i h; cases hf; rw [px.int, py.int]
      simp only [Bool.and_eq_true, decide_eq_true_eq] at h
      exact ⟨h, rq _ (.int _)⟩
    · cases hf
  · cases hf
theorem os_Cmp {g : Int → Int → Bool} {gs : List Nat → List Nat → Bool} : OpS c (uCmp g gs) (vCmp g gs) := by
  intro w x y d e r Q ok px py hf rq
  unfold vCmp at hf
  split at hf
  · cases hf; rw [px.int, py.int]; exact rq _ (.bl _)
  · cases hf; rw [px.str, py.str]; exact rq _ (.bl _)
  · cases hf
theorem os_Lt : OpS c uLt vLt := os_Cmp
theorem os_Le : OpS c uLe vLe := os_Cmp
theorem os_Gt : OpS c uGt vGt := os_Cmp
theorem os_Ge : OpS c uGe vGe := os_Cmp
theorem eqS_ok {w : Wd} {x y : V} {d e : D} {b : Bool} (px : Pk c w x d) (py : Pk c w y e) (h : eqS d e = some b) : scal x y = true ∧ decide (x = y) = b := by
  unfold eqS at h
  split at h <;> cases h
  · rw [px.int, py.int]; exact ⟨rfl, by simp⟩
  · rw [px.str, py.str]; exact ⟨rfl, by simp⟩
  · rw [px.bl, py.bl]; exact ⟨rfl, by simp⟩
  · rw [px.non, py.non]; exact ⟨rfl, rfl⟩
  · rw [px.non, py.int]; exact ⟨rfl, rfl⟩
  · rw [px.int, py.non]; exact ⟨rfl, rfl⟩
  · rw [px.non, py.bl]; exact ⟨rfl, rfl⟩
  · rw [px.bl, py.non]; exact ⟨rfl, rfl⟩
  · rw [px.non, py.str]; exact ⟨rfl, rfl⟩
  · rw [px.str, py.non]; exact ⟨rfl, rfl⟩
  · rw [px.int, py.str]; exact ⟨rfl, rfl⟩
  · rw [px.str, py.int]; exact ⟨rfl, rfl⟩
  · rw [px.bl, py.str]; exact ⟨rfl, rfl⟩
  · rw [px.str, py.bl]; exact ⟨rfl, rfl⟩
theorem eqS_scal {w : Wd} {x y : V} {d e : D} (px : Pk c w x d) (py : Pk c w y e) (h : eqS d e = none) : scal x y = false := by
  cases px with
  | cell _ _ => cases y <;> rfl
  | sc hx =>
    cases py with
    | cell _ _ => cases x <;> rfl
    | sc hy => cases hx <;> cases hy <;> first | rfl | (cases h; done)
theorem eqL_ok {w : Wd} {x y : V} {d e : D} {b neg : Bool} {Q : VK} (ok : Same w.F w.H) (px : Pk c w x d) (py : Pk c w y e) (h : eqL d e = some b) (q : Q (.bl (if neg = true then !b else b)) w.H) : uEqB c.K neg x y w.H Q := by
  have dat : ∀ {d e : D}, Pk c w x d → Pk c w y e → eqD d e = some b → uEqB c.K neg x y w.H Q := by
    intro d e px py h
    unfold eqD at h
    split at h
    · rename_i p r e1 e2
      split at h
      · rename_i hs
        cases h
        simp only [Bool.and_eq_true] at hs
        exact .inl ⟨p, r, px.dp ok e1, py.dp ok e2, hs.1, hs.2, q⟩
      · cases h
    · cases h
  unfold eqL at h
  split at h
  · rename_i xs ys
    split at h
    · exact dat px py h
    · rename_i hn
      cases h
      obtain ⟨a, vs, rfl, h1, t1⟩ := px.list ok
      obtain ⟨b, us, rfl, h2, t2⟩ := py.list ok
      refine .inr ⟨a, b, vs, us, rfl, rfl, .inl (.inl h1), .inl (.inl h2), by rw [trall_len t1, trall_len t2]; exact hn, ?_⟩
      cases neg <;> exact q
  · exact dat px py h
theorem os_Eq : OpS c (uEq c.K) vEq := by
  intro w x y d e r Q ok px py hf rq
  obtain ⟨b, hb, rfl⟩ := Option.map_eq_some_iff.mp hf
  unfold eqA at hb
  unfold uEq
  split at hb
  · rename_i b' h
    cases hb
    obtain ⟨h1, h2⟩ := eqS_ok px py h
    rw [if_pos h1, h2]
    exact rq _ (.bl _)
  · rename_i h
    rw [eqS_scal px py h, if_neg (by decide)]
    exact eqL_ok ok px py hb (rq _ (.bl _))
theorem os_Ne : OpS c (uNe c.K) vNe := by
  intro w x y d e r Q ok px py hf rq
  obtain ⟨b, hb, rfl⟩ := Option.map_eq_some_iff.mp hf
  unfold eqA at hb
  unfold uNe
  split at hb
  · rename_i b' h
    cases hb
    obtain ⟨h1, h2⟩ := eqS_ok px py h
    rw [if_pos h1, h2]
    exact rq _ (.bl _)
  · rename_i h
    rw [eqS_scal px py h, if_neg (by decide)]
    exact eqL_ok ok px py hb (rq _ (.bl _))
theorem pk_non {w : Wd} {x : V} {d : D} (px : Pk c w x d) : decide (x = .non) = (match d with | .non => true | _ => false) := by
  cases px with
  | cell _ h => cases h <;> rfl
  | sc h => cases h <;> rfl
theorem os_Is : OpS c uIs vIs := by
  intro w x y d e r Q ok px py hf rq
  unfold vIs at hf
  split at hf
  · have h := pk_non px
    split at hf <;> cases hf
    · rw [py.non]; exact ⟨rfl, by rw [h]; exact rq _ (.bl _)⟩
    · rename_i hn
      rw [py.non]
      refine ⟨rfl, ?_⟩
      rw [h]
      cases d <;> first | exact absurd rfl hn | exact rq _ (.bl _)
  · cases hf
theorem pk_flat {w : Wd} {x : V} {d : D} (px : Pk c w x d) (h : flatD d = true) : flatV x = true := by
  cases px with
  | cell _ h' => cases h' <;> cases h
  | sc h' => cases h' <;> first | rfl | (cases h; done)
theorem tr_flat {ρ : List Addr} {F : Hp} : ∀ {vs : List V} {ds : List D}, TrAll c ρ F vs ds → ds.all flatD = true → vs.all flatV = true
  | _, _, .nil, _ => rfl
  | _, _, .cons h t, e => by
    simp only [List.all_cons, Bool.and_eq_true] at e ⊢
    refine ⟨?_, tr_flat t e.2⟩
    have e := e.1
    cases h <;> first | rfl | (cases e; done)
theorem tr_eqF {w : Wd} {x y : V} {d e : D} {ρ : List Addr} {F : Hp} (t : Tr c ρ F y e) (px : Pk c w x d) (h : flatD d = true) : eqV y x = eqF e d := by
  cases px with
  | cell _ h' => cases h' <;> cases h
  | sc h' => cases h' <;> first | (cases h; done) | (cases t <;> rfl)
theorem tr_inF {w : Wd} {x : V} {d : D} {ρ : List Addr} {F : Hp} (px : Pk c w x d) (h : flatD d = true) : ∀ {vs : List V} {ds : List D}, TrAll c ρ F vs ds → inV x vs = inF d ds
  | _, _, .nil => rfl
  | _, _, .cons t r => by
    have := tr_inF px h r
    unfold inV inF at this ⊢
    simp only [List.any_cons]
    rw [this, tr_eqF t px h]
theorem trk_val {ρ : List Addr} {F : Hp} {k : Key} : ∀ {vs : List (Key × V)} {ds : List (Key × D)}, TrK c ρ F vs ds → (∀ d, valD ds k = some d → ∃ v, valV vs k = some v ∧ Tr c ρ F v d) ∧ (valD ds k = none → valV vs k = none)
  | _, _, .nil => ⟨fun d h => (by cases h), fun _ => rfl⟩
  | _, _, .cons (k := k') (v := v) (d := d) h r => by
    obtain ⟨h1, h2⟩ := trk_val (k := k) r
    unfold valD valV at h1 h2 ⊢
    simp only [List.find?_cons]
    by_cases e : k' = k
    · simp only [e, decide_true]
      exact ⟨fun d' z => (by cases z; exact ⟨v, rfl, h⟩), fun z => (by cases z)⟩
    · simp only [e, decide_false]
      exact ⟨h1, h2⟩
theorem trk_val_some {ρ : List Addr} {F : Hp} {k : Key} {vs : List (Key × V)} {ds : List (Key × D)} (t : TrK c ρ F vs ds) : (valV vs k).isSome = (valD ds k).isSome := by
  obtain ⟨h1, h2⟩ := trk_val (k := k) t
  cases e : valD ds k with
  | none => rw [h2 e]; rfl
  | some d => obtain ⟨v, h, _⟩ := h1 d e; rw [h]; rfl
theorem inA_ok {w : Wd} {x y : V} {d e : D} {b neg : Bool} {Q : VK} (ok : Same w.F w.H) (px : Pk c w x d) (py : Pk c w y e) (h : inA d e = some b) (q : Q (.bl (if neg = true then !b else b)) w.H) : uIn c.K neg x y w.H Q := by
  have lst : ∀ {a : Addr} {vs : List V} {ds : List D}, SqL c.K w.H a vs → TrAll c w.ρ w.F vs ds → inL d ds = some b → uIn c.K neg x (.ref a) w.H Q := by
    intro a vs ds hs ta h
    unfold inL at h
    split at h
    · rename_i hf
      cases h
      simp only [Bool.and_eq_true] at hf
      exact .inl ⟨vs, .inl hs, pk_flat px hf.1, tr_flat ta hf.2, by rw [tr_inF px hf.1 ta]; exact q⟩
    · split at h
      · rename_i p ps e1 e2
        split at h
        · rename_i hs2
          cases h
          simp only [Bool.and_eq_true] at hs2
          exact .inr (.inl ⟨p, ps, px.dp ok e1, .lst hs ((tr_dp ok).2 ta ps e2), hs2.1, hs2.2, q⟩)
        · cases h
      · cases h
  unfold inA at h
  split at h
  · rename_i z
    split at h
    · rename_i z2
      split at h
      · rename_i k hk
        cases h
        rw [py.str, px.str]
        refine ⟨k, ?_, q⟩
        congr 1
        cases z2 with
        | mk a =>
          have : a.toList = [k] := hk
          congr 1
          exact Array.toList_inj.mp this
      · cases h
    · cases h
  · obtain ⟨a, vs, rfl, h1, t1⟩ := py.list ok; exact lst (.inl (.inl h1)) t1 h
  · obtain ⟨a, vs, rfl, h1, t1⟩ := py.scr ok; exact lst h1 t1 h
  · obtain ⟨a, vs, rfl, h1, t1⟩ := py.tup ok
    split at h
    · rename_i hf
      cases h
      simp only [Bool.and_eq_true] at hf
      exact .inl ⟨vs, .inr h1, pk_flat px hf.1, tr_flat t1 hf.2, by rw [tr_inF px hf.1 t1]; exact q⟩
    · cases h
  · obtain ⟨a, vs, rfl, h1, t1⟩ := py.dict ok
    obtain ⟨k, hk, rfl⟩ := Option.map_eq_some_iff.mp h
    refine .inr (.inr ⟨valV vs k, .inl ⟨vs, k, h1, px.key hk, rfl⟩, ?_⟩)
    rw [trk_val_some t1]; exact q
  · cases h
theorem os_In : OpS c (uIn c.K false) vIn := by
  intro w x y d e r Q ok px py hf rq
  obtain ⟨b, hb, rfl⟩ := Option.map_eq_some_iff.mp hf
  exact inA_ok ok px py hb (rq _ (.bl _))
theorem os_NotIn : OpS c (uIn c.K true) vNotIn := by
  intro w x y d e r Q ok px py hf rq
  obtain ⟨b, hb, rfl⟩ := Option.map_eq_some_iff.mp hf
  exact inA_ok ok px py hb (rq _ (.bl _))
theorem atI_tr {ρ : List Addr} {F : Hp} {vs : List V} {ds : List D} {i : Int} {d : D} (t : TrAll c ρ F vs ds) (h : atI ds i = some d) : ∃ v, atI vs i = some v ∧ Tr c ρ F v d := by
  unfold atI at h ⊢
  rw [trall_len t]
  obtain ⟨j, h1, h2⟩ := Option.bind_eq_some_iff.mp h
  have hj : j < vs.length := by rw [trall_len t]; exact (List.getElem?_eq_some_iff.mp h2).1
  refine ⟨vs[j], ?_, trall_get t (List.getElem?_eq_getElem hj) h2⟩
  rw [h1]
  exact List.getElem?_eq_getElem hj
theorem os_Ix : OpS c (uIx c.K) vIx := by
  intro w x y d e r Q ok px py hf rq
  unfold vIx at hf
  split at hf
  · obtain ⟨d', hd, rfl⟩ := Option.map_eq_some_iff.mp hf
    obtain ⟨a, vs, rfl, h1, t1⟩ := px.list ok
    obtain ⟨v, hv, tv⟩ := atI_tr t1 hd
    rw [py.int]
    exact ⟨vs, v, .inl (.inl (.inl h1)), hv, rq _ tv⟩
  · obtain ⟨d', hd, rfl⟩ := Option.map_eq_some_iff.mp hf
    obtain ⟨a, vs, rfl, h1, t1⟩ := px.scr ok
    obtain ⟨v, hv, tv⟩ := atI_tr t1 hd
    rw [py.int]
    exact ⟨vs, v, .inl h1, hv, rq _ tv⟩
  · obtain ⟨d', hd, rfl⟩ := Option.map_eq_some_iff.mp hf
    obtain ⟨a, vs, rfl, h1, t1⟩ := px.tup ok
    obtain ⟨v, hv, tv⟩ := atI_tr t1 hd
    rw [py.int]
    exact ⟨vs, v, .inr h1, hv, rq _ tv⟩
  · split at hf
    · rename_i h
      obtain ⟨k, hk, rfl⟩ := Option.map_eq_some_iff.mp hf
      rw [px.str, py.int]
      exact ⟨k, fits_le h, hk, rq _ (.str _)⟩
    · cases hf
  · cases hf
theorem us_Neg : UnS c uNeg vNeg := by
  intro w x d r Q ok px hf rq
  unfold vNeg at hf
  split at hf
  · cases hf; rw [px.int]; exact rq _ (.int _)
  · cases hf
end
end Z
/-! built-in functions on trees, slices, d[k] -/
namespace Z
open PySem PySem.Spec PyProof.Rows L2 U ClX
def seqD : D → Option (List D)
  | .list ds => some ds
  | .scr ds => some ds
  | .tup ds => some ds
  | _ => none
def asI : D → Option Int
  | .int i => some i
  | _ => none
def asS : D → Option Str
  | .str z => some z
  | _ => none
def asBl : D → Option Bool
  | .bl b => some b
  | _ => none
def bLen : List D → Option Rs
  | [.str z] => if fits z.length = true then some (.v (.int z.length)) else none
  | [d] => (seqD d).map fun ds => .v (.int ds.length)
  | _ => none
def bAbs : List D → Option Rs
  | [.int i] => some (.v (.int (if i < 0 then -i else i)))
  | _ => none
def maxI : List Int → Option Int
  | [] => none
  | i :: is => some (is.foldl (fun a b => if b > a then b else a) i)
def bMax : List D → Option Rs
  | [.int i, .int j] => some (.v (.int (if j > i then j else i)))
  | [.list ds] => (ds.mapM asI).bind fun ns => (maxI ns).map fun m => .v (.int m)
  | _ => none
def bMin : List D → Option Rs
  | [.int i, .int j] => some (.v (.int (if j < i then j else i)))
  | _ => none
def bAll : List D → Option Rs
  | [.list ds] => (ds.mapM asBl).map fun bs => .v (.bl (bs.all id))
  | _ => none
def bList : List D → Option Rs
  | [d] => (seqD d).map fun ds => .fr (.list ds)
  | _ => none
def bTuple : List D → Option Rs
  | [.list ds] => some (.fr (.tup ds))
  | [.scr ds] => some (.fr (.tup ds))
  | _ => none
def bInt : List D → Option Rs
  | [.int i] => some (.v (.int i))
  | [.bl k] => some (.v (.int (if k = true then 1 else 0)))
  | _ => none
def reprOk (p : PyData) : Bool := p.showable && !p.hasDict && decide (p.depth ≤ 60) && decide (p.shown.length ≤ 16777216)
section
variable {c : Cz} {w : Wd}
theorem pkall1 {vs : List V} {d : D} (h : PkAll c w vs [d]) : ∃ v, vs = [v] ∧ Pk c w v d := by
  cases h with
  | cons a b => cases b; exact ⟨_, rfl, a⟩
theorem pkall2 {vs : List V} {d e : D} (h : PkAll c w vs [d, e]) : ∃ v u, vs = [v, u] ∧ Pk c w v d ∧ Pk c w u e := by
  cases h with
  | cons a b => obtain ⟨u, rfl, q⟩ := pkall1 b; exact ⟨_, u, rfl, a, q⟩
theorem Pk.seq {v : V} {d : D} {ds : List D} (ok : Same w.F w.H) (h : Pk c w v d) (e : seqD d = some ds) : ∃ a vs, v = .ref a ∧ (SqL c.K w.H a vs ∨ SqT c.K w.H a vs) ∧ TrAll c w.ρ w.F vs ds := by
  cases d with
  | list xs => cases e; obtain ⟨a, vs, rfl, h1, t⟩ := h.list ok; exact ⟨a, vs, rfl, .inl (.inl (.inl h1)), t⟩
  | scr xs => cases e; obtain ⟨a, vs, rfl, h1, t⟩ := h.scr ok; exact ⟨a, vs, rfl, .inl h1, t⟩
  | tup xs => cases e; obtain ⟨a, vs, rfl, h1, t⟩ := h.tup ok; exact ⟨a, vs, rfl, .inr h1, t⟩
  | _ => cases e
theorem cs_Len : CallS c (cLen c.K) bLen := by
  intro w xs ds r Q ok pa hf rq
  unfold bLen at hf
  split at hf
  · split at hf
    · rename_i h; cases hf
      obtain ⟨v, rfl, p⟩ := pkall1 pa
      rw [p.str]
      exact ⟨fits_le h, rq _ (.int _)⟩
    · cases hf
  · obtain ⟨es, he, rfl⟩ := Option.map_eq_some_iff.mp hf
    obtain ⟨v, rfl, p⟩ := pkall1 pa
    obtain ⟨a, vs, rfl, h1, t⟩ := p.seq ok he
    exact ⟨vs, h1, by rw [trall_len t]; exact rq _ (.int _)⟩
  · cases hf
theorem cs_Abs : CallS c cAbs bAbs := by
  intro w xs ds r Q ok pa hf rq
  unfold bAbs at hf
  split at hf
  · cases hf
    obtain ⟨v, rfl, p⟩ := pkall1 pa
    rw [p.int]
    exact rq _ (.int _)
  · cases hf
theorem mapM_ints {ρ : List Addr} {F : Hp} : ∀ {vs : List V} {ds : List D} {ns : List Int}, TrAll c ρ F vs ds → ds.mapM asI = some ns → vs = ns.map V.int
  | _, _, ns, .nil, e => by simp at e; subst e; rfl
  | _, _, ns, .cons (d := d) h t, e => by
    rw [List.mapM_cons] at e
    cases d with
    | int i =>
      simp only [asI, Option.pure_def, Option.bind_eq_bind, Option.bind_some, Option.bind_eq_some_iff] at e
      obtain ⟨ms, e1, e2⟩ := e
      cases e2
      cases h
      rw [mapM_ints t e1]; rfl
    | _ => simp [asI] at e
theorem mapM_bools {ρ : List Addr} {F : Hp} : ∀ {vs : List V} {ds : List D} {ns : List Bool}, TrAll c ρ F vs ds → ds.mapM asBl = some ns → vs = ns.map V.bl
  | _, _, ns, .nil, e => by simp at e; subst e; rfl
  | _, _, ns, .cons (d := d) h t, e => by
    rw [List.mapM_cons] at e
    cases d with
    | bl i =>
      simp only [asBl, Option.pure_def, Option.bind_eq_bind, Option.bind_some, Option.bind_eq_some_iff] at e
      obtain ⟨ms, e1, e2⟩ := e
      cases e2
      cases h
      rw [mapM_bools t e1]; rfl
    | _ => simp [asBl] at e
theorem mapM_strs {ρ : List Addr} {F : Hp} : ∀ {vs : List V} {ds : List D} {ns : List Str}, TrAll c ρ F vs ds → ds.mapM asS = some ns → vs = ns.map V.str
  | _, _, ns, .nil, e => by simp at e; subst e; rfl
  | _, _, ns, .cons (d := d) h t, e => by
    rw [List.mapM_cons] at e
    cases d with
    | str i =>
      simp only [asS, Option.pure_def, Option.bind_eq_bind, Option.bind_some, Option.bind_eq_some_iff] at e
      obtain ⟨ms, e1, e2⟩ := e
      cases e2
      cases h
      rw [mapM_strs t e1]; rfl
    | _ => simp [asS] at e
theorem foldl_max : ∀ (is : List Int) (i : Int), (∀ y ∈ i :: is, y ≤ is.foldl (fun a b => if b > a then b else a) i) ∧ is.foldl (fun a b => if b > a then b else a) i ∈ i :: is
  | [], i => by simp
  | j :: is, i => by
    obtain ⟨h1, h2⟩ := foldl_max is (if j > i then j else i)
    simp only [List.foldl_cons]
    have m1 : i ≤ (if j > i then j else i) := by split <;> omega
    have m2 : j ≤ (if j > i then j else i) := by split <;> omega
    refine ⟨fun y hy => ?_, ?_⟩
    · have h3 := h1 (if j > i then j else i) List.mem_cons_self
      rcases List.mem_cons.mp hy with e | hy
      · rw [e]; exact Int.le_trans m1 h3
      · rcases List.mem_cons.mp hy with e | hy
        · rw [e]; exact Int.le_trans m2 h3
        · exact h1 y (List.mem_cons_of_mem _ hy)
    · rcases List.mem_cons.mp h2 with h | h
      · rw [h]; split <;> simp
      · exact List.mem_cons_of_mem _ (List.mem_cons_of_mem _ h)
theorem cs_Max : CallS c (cMax c.K) bMax := by
  intro w xs ds r Q ok pa hf rq
  unfold bMax at hf
  split at hf
  · cases hf
    obtain ⟨v, u, rfl, p, q⟩ := pkall2 pa
    rw [p.int, q.int]
    exact rq _ (.int _)
  · obtain ⟨ns, h1, h2⟩ := Option.bind_eq_some_iff.mp hf
    obtain ⟨m, h3, rfl⟩ := Option.map_eq_some_iff.mp h2
    obtain ⟨v, rfl, p⟩ := pkall1 pa
    obtain ⟨a, vs, rfl, h4, t⟩ := p.list ok
    have e := mapM_ints t h1
    subst e
    cases ns with
    | nil => cases h3
    | cons i is =>
      cases h3
      refine ⟨i :: is, .inl (.inl h4), by simp, fun m h5 h6 => ?_⟩
      obtain ⟨h7, h8⟩ := foldl_max is i
      have : m = is.foldl (fun a b => if b > a then b else a) i := Int.le_antisymm (h7 m h5) (h6 _ h8)
      rw [this]
      exact rq _ (.int _)
  · cases hf
theorem cs_Min : CallS c (cMin c.K) bMin := by
  intro w xs ds r Q ok pa hf rq
  unfold bMin at hf
  split at hf
  · cases hf
    obtain ⟨v, u, rfl, p, q⟩ := pkall2 pa
    rw [p.int, q.int]
    exact rq _ (.int _)
  · cases hf
theorem cs_All : CallS c (cAll c.K) bAll := by
  intro w xs ds r Q ok pa hf rq
  unfold bAll at hf
  split at hf
  · obtain ⟨bs, h1, rfl⟩ := Option.map_eq_some_iff.mp hf
    obtain ⟨v, rfl, p⟩ := pkall1 pa
    obtain ⟨a, vs, rfl, h4, t⟩ := p.list ok
    have e := mapM_bools t h1
    subst e
    exact ⟨bs, .inl (.inl h4), rq _ (.bl _)⟩
  · cases hf
theorem cs_List : CallS c (cList c.K) bList := by
  intro w xs ds r Q ok pa hf rq
  unfold bList at hf
  split at hf
  · obtain ⟨es, he, rfl⟩ := Option.map_eq_some_iff.mp hf
    obtain ⟨v, rfl, p⟩ := pkall1 pa
    obtain ⟨a, vs, rfl, h1, t⟩ := p.seq ok he
    exact ⟨vs, h1, fun l hl => rq l _ hl (.list t)⟩
  · cases hf
theorem cs_Tuple : CallS c (cTuple c.K) bTuple := by
  intro w xs ds r Q ok pa hf rq
  unfold bTuple at hf
  split at hf
  · cases hf
    obtain ⟨v, rfl, p⟩ := pkall1 pa
    obtain ⟨a, vs, rfl, h1, t⟩ := p.list ok
    exact ⟨vs, .inl ⟨.inl (.inl h1), fun l hl => rq l _ hl (.tup t)⟩⟩
  · cases hf
    obtain ⟨v, rfl, p⟩ := pkall1 pa
    obtain ⟨a, vs, rfl, h1, t⟩ := p.scr ok
    exact ⟨vs, .inl ⟨h1, fun l hl => rq l _ hl (.tup t)⟩⟩
  · cases hf
theorem tr_ints {ρ : List Addr} {F : Hp} : ∀ ns : List Int, TrAll c ρ F (ns.map V.int) (ns.map D.int)
  | [] => .nil
  | i :: is => .cons (.int i) (tr_ints is)
theorem reprOk_c {p : PyData} (h : reprOk p = true) : p.showable = true ∧ p.hasDict = false ∧ p.depth ≤ 60 ∧ p.shown.length ≤ sizeLine := by
  unfold reprOk at h
  simp only [Bool.and_eq_true, Bool.not_eq_true', decide_eq_true_eq] at h
  exact ⟨h.1.1.1, h.1.1.2, h.1.2, h.2⟩
end
/-! ### isinstance -/
def bty : D → Option String
  | .non => some "NoneType"
  | .bl _ => some "bool"
  | .int _ => some "int"
  | .str _ => some "str"
  | .list _ => some "list"
  | .scr _ => some "list"
  | .tup _ => some "tuple"
  | .dict _ => some "dict"
  | _ => none
/-- sub: own class against own class; so: own class against a built-in one; bo: a built-in one against an own one -/
structure Kin where
  sub : Nat → Nat → Option Bool
  so : Nat → String → Option Bool
  bo : String → Nat → Option Bool
  xs : Nat → Nat → Option Bool := fun _ _ => none
  xo : Nat → String → Option Bool := fun _ _ => none
def isiA (kn : Kin) : D → D → Option Bool
  | .obj k _, .cl j => kn.sub k j
  | .obj k _, .ty n => kn.so k n
  | .exc k _, .cl j => kn.xs k j
  | .exc k _, .ty n => kn.xo k n
  | d, .cl j => (bty d).bind fun t => kn.bo t j
  | d, .ty n => (bty d).bind fun t => kitB t n
  | _, _ => none
def isiT (kn : Kin) (d : D) : List D → Option Bool
  | [] => some false
  | e :: es => (isiA kn d e).bind fun b => if b = true then some true else isiT kn d es
def bIsi (kn : Kin) : List D → Option Rs
  | [d, e] => (isiA kn d e).map fun b => .v (.bl b)
  | _ => none
def isCl : D → Bool
  | .cl _ => true
  | .ty _ => true
  | _ => false
/-- isinstance(x, (c, ..)) -/
def bIsiT (kn : Kin) : List D → Option Rs
  | [d, .tup es] => if es ≠ [] ∧ es.all isCl = true then (isiT kn d es).map fun b => .v (.bl b) else none
  | _ => none
structure KinOk (c : Cz) (kn : Kin) : Prop where
  sub : ∀ k j b, kn.sub k j = some b → Cls c.K (c.cad k) ∧ InsTy c.K (c.cad k) ∧ PySem.W.kitOne c.K (.ref (c.cad k)) (.ref (c.cad j)) = some b
  so : ∀ k n b, kn.so k n = some b → Cls c.K (c.cad k) ∧ InsTy c.K (c.cad k) ∧ PySem.W.kitOne c.K (.ref (c.cad k)) (.type n) = some b
  bo : ∀ t j b, kn.bo t j = some b → PySem.W.kitOne c.K (.type t) (.ref (c.cad j)) = some b
  xs : ∀ k j b, kn.xs k j = some b → ExcC c.K (c.cad k) ∧ PySem.W.kitOne c.K (.ref (c.cad k)) (.ref (c.cad j)) = some b
  xo : ∀ k n b, kn.xo k n = some b → ExcC c.K (c.cad k) ∧ PySem.W.kitOne c.K (.ref (c.cad k)) (.type n) = some b
section
variable {c : Cz} {w : Wd}
theorem tyx_list {H : Hp} {a : Addr} {vs : List V} (h : SqL c.K H a vs) : TyX c.K H (.ref a) (.type "list") := by
  rcases h with (h | ⟨o, h⟩) | ⟨o, its, n, h, hc, _⟩
  · exact .base (.lst h)
  · exact .base (.frz h)
  · exact .kList h hc
theorem tyx_tup {H : Hp} {a : Addr} {vs : List V} (h : SqT c.K H a vs) : TyX c.K H (.ref a) (.type "tuple") := by
  rcases h with (h | ⟨o, h⟩) | ⟨o, its, n, h, hc, _⟩
  · exact .base (.tup h)
  · exact .fTuple h
  · exact .kTuple h hc
theorem Pk.tyx {v : V} {d : D} {t : String} (ok : Same w.F w.H) (h : Pk c w v d) (e : bty d = some t) : TyX c.K w.H v (.type t) := by
  cases d with
  | non => cases e; rw [h.non]; exact .base .non
  | bl b => cases e; rw [h.bl]; exact .base (.bl _)
  | int b => cases e; rw [h.int]; exact .base (.int _)
  | str b => cases e; rw [h.str]; exact .base (.str _)
  | list b => cases e; obtain ⟨a, vs, rfl, h1, _⟩ := h.list ok; exact .base (.lst h1)
  | scr b => cases e; obtain ⟨a, vs, rfl, h1, _⟩ := h.scr ok; exact tyx_list h1
  | tup b => cases e; obtain ⟨a, vs, rfl, h1, _⟩ := h.tup ok; exact tyx_tup h1
  | dict b =>
    cases e
    obtain ⟨a, vs, rfl, h1, _⟩ := h.dict ok
    rcases h1 with h1 | ⟨o, h1⟩
    · exact .base (.dK h1)
    · exact .fDict h1
  | _ => cases e
theorem tyz_exc {v : V} {k : Nat} {fs : List (Str × D)} (ok : Same w.F w.H) (h : Pk c w v (.exc k fs)) (C : ExcC c.K (c.cad k)) : TyZ c.K w.H v (.ref (c.cad k)) := by
  cases h with
  | sc h =>
    cases h with
    | exc0 h => exact .exc0 (ok _ _ h) C
    | exc1 h hd r => exact .exc1 (ok _ _ h) (ok _ _ hd) C
  | cell e h => cases h
/-- the type of a value -/
def tyV (c : Cz) : D → Option Value
  | .obj k _ => some (.ref (c.cad k))
  | .exc k _ => some (.ref (c.cad k))
  | d => (bty d).map .type
theorem tyV_b {d : D} {t : String} (h : bty d = some t) : tyV c d = some (.type t) := by
  cases d <;> first | (cases h; done) | (cases h; rfl)
/-- one class: what kitOne says of it -/
theorem isiA_ok {kn : Kin} (K : KinOk c kn) {v u : V} {d e : D} {b : Bool} (ok : Same w.F w.H) (p : Pk c w v d) (q : Pk c w u e) (h : isiA kn d e = some b) : ∃ t u', ClsV u u' ∧ TyZ c.K w.H v t ∧ PySem.W.kitOne c.K t u' = some b ∧ tyV c d = some t := by
  unfold isiA at h
  split at h
  · obtain ⟨h1, h2, h3⟩ := K.sub _ _ _ h
    obtain ⟨a, dx, vs, rfl, hH, _⟩ := p.obj ok
    rw [q.cl]
    exact ⟨_, _, .own _, .x (.base (.ins hH h1 h2.ha h2.hn h2.ht h2.hm)), h3, rfl⟩
  · obtain ⟨h1, h2, h3⟩ := K.so _ _ _ h
    obtain ⟨a, dx, vs, rfl, hH, _⟩ := p.obj ok
    rw [q.ty]
    exact ⟨_, _, .ty _, .x (.base (.ins hH h1 h2.ha h2.hn h2.ht h2.hm)), h3, rfl⟩
  · obtain ⟨h1, h2⟩ := K.xs _ _ _ h
    rw [q.cl]
    exact ⟨_, _, .own _, tyz_exc ok p h1, h2, rfl⟩
  · obtain ⟨h1, h2⟩ := K.xo _ _ _ h
    rw [q.ty]
    exact ⟨_, _, .ty _, tyz_exc ok p h1, h2, rfl⟩
  · obtain ⟨t, ht, hb⟩ := Option.bind_eq_some_iff.mp h
    rw [q.cl]
    exact ⟨_, _, .own _, .x (p.tyx ok ht), K.bo _ _ _ hb, tyV_b ht⟩
  · obtain ⟨t, ht, hb⟩ := Option.bind_eq_some_iff.mp h
    rw [q.ty]
    exact ⟨_, _, .ty _, .x (p.tyx ok ht), kit_ty hb, tyV_b ht⟩
  · cases h
theorem cs_Isi {kn : Kin} (K : KinOk c kn) : CallS c (cIsi c.K) (bIsi kn) := by
  intro w xs ds r Q ok pa hf rq
  unfold bIsi at hf
  split at hf
  · obtain ⟨b, hb, rfl⟩ := Option.map_eq_some_iff.mp hf
    obtain ⟨v, u, rfl, p, q⟩ := pkall2 pa
    obtain ⟨t, u', h1, h2, h3, _⟩ := isiA_ok K ok p q hb
    exact ⟨b, .inl ⟨t, u', h1, h2, h3⟩, rq _ (.bl _)⟩
  · cases hf
theorem kitAny_cut {K : PySem.W.Frag} {t u : Value} {us : List Value} (h : PySem.W.kitOne K t u = some true) : PySem.W.kitAny K t (u :: us) = some true := kitAny_cons h (fun z => nomatch z) fun _ => rfl
theorem kitAny_next {K : PySem.W.Frag} {t u : Value} {us : List Value} {b : Bool} (h : PySem.W.kitOne K t u = some false) (r : PySem.W.kitAny K t us = some b) : PySem.W.kitAny K t (u :: us) = some b := kitAny_cons h (fun _ => r) fun z => nomatch z
/-- the classes of a display, as values -/
theorem clsv_all : ∀ {vs : List V} {es : List D}, TrAll c w.ρ w.F vs es → (∀ e ∈ es, (∃ j, e = .cl j) ∨ ∃ n, e = .ty n) → ∃ us, Paired ClsV vs us
  | _, _, .nil, _ => ⟨[], .nil⟩
  | _, _, .cons h r, hc => by
    obtain ⟨us, p⟩ := clsv_all r fun e he => hc e (List.mem_cons_of_mem _ he)
    rcases hc _ (List.mem_cons_self ..) with ⟨j, rfl⟩ | ⟨n, rfl⟩
    · cases h; exact ⟨_, .cons (.own _) p⟩
    · cases h; exact ⟨_, .cons (.ty _) p⟩
theorem isCl_ok {e : D} (h : isCl e = true) : (∃ j, e = .cl j) ∨ ∃ n, e = .ty n := by
  cases e with
  | cl j => exact .inl ⟨j, rfl⟩
  | ty n => exact .inr ⟨n, rfl⟩
  | _ => cases h
theorem clsv_eq {v : V} {u u' : Value} (h : ClsV v u) (k : ClsV v u') : u = u' := by cases h <;> cases k <;> rfl
theorem isiT_ok {kn : Kin} (K : KinOk c kn) {v : V} {d : D} {t : Value} (ok : Same w.F w.H) (p : Pk c w v d) (ty : ∀ e b, isiA kn d e = some b → ∀ u, Tr c w.ρ w.F u e → ∃ u', ClsV u u' ∧ PySem.W.kitOne c.K t u' = some b) : ∀ {vs : List V} {es : List D} {us : List Value} {b : Bool}, TrAll c w.ρ w.F vs es → Paired ClsV vs us → isiT kn d es = some b → PySem.W.kitAny c.K t us = some b
  | _, _, _, b, .nil, .nil, h => by cases h; rfl
  | _, _, _, b, .cons h r, .cons k ks, e => by
    unfold isiT at e
    obtain ⟨b1, e1, e⟩ := Option.bind_eq_some_iff.mp e
    obtain ⟨u', k1, k2⟩ := ty _ _ e1 _ h
    have : u' = _ := clsv_eq k1 k
    subst this
    cases b1 with
    | true => rw [if_pos rfl] at e; cases e; exact kitAny_cut k2
    | false => rw [if_neg (by decide)] at e; exact kitAny_next k2 (isiT_ok K ok p ty r ks e)
theorem cs_IsiT {kn : Kin} (K : KinOk c kn) : CallS c (cIsi c.K) (bIsiT kn) := by
  intro w xs ds r Q ok pa hf rq
  unfold bIsiT at hf
  split at hf
  · rename_i d es
    split at hf
    · rename_i hc
      obtain ⟨b, hb, rfl⟩ := Option.map_eq_some_iff.mp hf
      obtain ⟨v, u, rfl, p, q⟩ := pkall2 pa
      obtain ⟨a, vs, rfl, hT, tr⟩ := q.tup ok
      refine ⟨b, .inr ?_, rq _ (.bl _)⟩
      obtain ⟨us, pu⟩ := clsv_all tr fun e he => isCl_ok (List.all_eq_true.mp hc.2 e he)
      cases tr with
      | nil => exact absurd rfl hc.1
      | @cons v0 d0 vs0 ds0 h r =>
        have hb' := hb
        unfold isiT at hb'
        obtain ⟨b1, e1, _⟩ := Option.bind_eq_some_iff.mp hb'
        obtain ⟨t, u', _, ty, _, et⟩ := isiA_ok K ok p (.sc h) e1
        refine ⟨t, a, _, us, rfl, hT, pu, ty, isiT_ok K ok p (fun e b h1 u h2 => ?_) (.cons h r) pu hb⟩
        obtain ⟨t2, u2, k1, _, k3, et2⟩ := isiA_ok K ok p (.sc h2) h1
        rw [et] at et2
        cases et2
        exact ⟨u2, k1, k3⟩
    · cases hf
  · cases hf
end
/-! ### slices -/
def TNoP : M (Option Int) := ret none
def TPart (a : M Rs) : M (Option Int) := bnd a fun r => bnd (pk r) fun d => bnd (opt (asI d)) fun i => ret (some i)
def cutL {α : Type} (xs : List α) (lo hi : Option Int) : List α := (xs.drop (HT.sIx xs.length 0 lo)).take (HT.sIx xs.length xs.length hi - HT.sIx xs.length 0 lo)
def slL (d : D) (lo hi : Option Int) : Option Rs := match d with
  | .list ds => some (.fr (.list (cutL ds lo hi)))
  | .scr ds => some (.fr (.list (cutL ds lo hi)))
  | _ => none
def slS (d : D) (lo hi : Option Int) : Option Rs := match d with
  | .str z => if fits z.length = true then some (.v (.str (cutS z lo hi))) else none
  | _ => none
def TSl (f : D → Option Int → Option Int → Option Rs) (a : M Rs) (lo hi : M (Option Int)) : M Rs := bnd a fun r => bnd lo fun l => bnd hi fun h => bnd (pk r) fun d => opt (f d l h)
def revL : D → Option Rs
  | .list ds => some (.fr (.list ds.reverse))
  | .scr ds => some (.fr (.list ds.reverse))
  | _ => none
def TRevL (a : M Rs) : M Rs := TUn revL a
def getD (d k : D) : Option D := match d with
  | .dict kvs => (toKey k).bind fun k => valD kvs k
  | _ => none
def TDGet (a b : M Rs) : M Rs := bnd a fun x => bnd b fun y => bnd (pk x) fun d => bnd (pk y) fun k => bnd (opt (getD d k)) fun r => ret (.v r)
def TDNew : M Rs := ret (.fr (.dict []))
section
variable (c : Cz)
def PostO (w : Wd) (σ : L2.St) (s' : S) (Q : Option Int → Hp → Prop) (E : XS) : Rz (Option Int) → Prop
  | .ok b => ∀ w', Le w w' → R c w' σ s' → Q b w'.H
  | .ex x => ∀ w' d, Le w w' → R c w' σ s' → Xa c w' d x → E σ (.ref (c.cad x.c)) d w'.H
def SimO (E : XS) (t : TO) (T : M (Option Int)) : Prop := ∀ w σ s out s' Q, R c w σ s → T s = some (out, s') → PostO c w σ s' Q E out → t σ w.H Q
def SlS (op : V → Option Int → Option Int → Hp → VK → Prop) (f : D → Option Int → Option Int → Option Rs) : Prop := ∀ w x d lo hi r Q, Same w.F w.H → Pk c w x d → f d lo hi = some r → RQ c w r Q → op x lo hi w.H Q
end
section
variable {c : Cz} {E : XS}
theorem sim_NoP : SimO c E tNoPart TNoP := by
  intro w σ s out s' Q R1 e post
  cases e; exact post w Le.refl R1
theorem sim_Part {t : TE} {T : M Rs} (ht : Sim c E t T) : SimO c E (tPart t) (TPart T) := by
  intro w σ s out s' Q R1 e post
  rcases bnd_some e with ⟨r, s1, e1, e⟩ | ⟨x, e1, rfl⟩
  · refine ht w σ s _ s1 _ R1 e1 fun w1 v l1 R2 rv => ?_
    obtain ⟨d, p, e⟩ := bnd_pk e
    obtain ⟨i, hi, e⟩ := bnd_opt e
    cases e
    cases d with
    | int j => cases hi; exact ⟨_, (peek_pk R2 rv p).int, post w1 l1 R2⟩
    | _ => cases hi
  · exact ht w σ s _ _ _ R1 e1 post
theorem sim_Sl {op : V → Option Int → Option Int → Hp → VK → Prop} {f : D → Option Int → Option Int → Option Rs} {t : TE} {T : M Rs} {tl th : TO} {Tl Th : M (Option Int)} (ho : SlS c op f) (ht : Sim c E t T) (hl : SimO c E tl Tl) (hh : SimO c E th Th) : Sim c E (tSl op t tl th) (TSl f T Tl Th) := by
  intro w σ s out s' Q R1 e post
  rcases bnd_some e with ⟨r, s1, e1, e⟩ | ⟨x, e1, rfl⟩
  · refine ht w σ s _ s1 _ R1 e1 fun w1 v l1 R2 rv => ?_
    rcases bnd_some e with ⟨lo, s2, e2, e⟩ | ⟨x, e2, rfl⟩
    · refine hl w1 σ s1 _ s2 _ R2 e2 fun w2 l2 R3 => ?_
      rcases bnd_some e with ⟨hi, s3, e3, e⟩ | ⟨x, e3, rfl⟩
      · refine hh w2 σ s2 _ s3 _ R3 e3 fun w3 l3 R4 => ?_
        obtain ⟨d, p, e⟩ := bnd_pk e
        obtain ⟨r', e4, rfl, rfl⟩ := opt_some e
        exact ho w3 v d lo hi r' Q R4.ok (peek_pk R4 ((rv.mono l2).mono l3) p) e4 (rq_post R4 ((l1.trans l2).trans l3) post)
      · exact hh w2 σ s2 _ _ _ R3 e3 fun w3 d l3 R4 xa => post w3 d ((l1.trans l2).trans l3) R4 xa
    · exact hl w1 σ s1 _ _ _ R2 e2 fun w2 d l2 R3 xa => post w2 d (l1.trans l2) R3 xa
  · exact ht w σ s _ _ _ R1 e1 post
theorem trall_drop {ρ : List Addr} {F : Hp} : ∀ {vs : List V} {ds : List D} (n : Nat), TrAll c ρ F vs ds → TrAll c ρ F (vs.drop n) (ds.drop n)
  | _, _, 0, t => t
  | _, _, _ + 1, .nil => .nil
  | _, _, n + 1, .cons _ t => trall_drop n t
theorem trall_take {ρ : List Addr} {F : Hp} : ∀ {vs : List V} {ds : List D} (n : Nat), TrAll c ρ F vs ds → TrAll c ρ F (vs.take n) (ds.take n)
  | _, _, 0, t => .nil
  | _, _, _ + 1, .nil => .nil
  | _, _, n + 1, .cons h t => .cons h (trall_take n t)
theorem trall_rev {ρ : List Addr} {F : Hp} : ∀ {vs : List V} {ds : List D}, TrAll c ρ F vs ds → TrAll c ρ F vs.reverse ds.reverse
  | _, _, .nil => .nil
  | _, _, .cons h t => by simp only [List.reverse_cons]; exact (trall_rev t).append (.cons h .nil)
theorem cut_tr {ρ : List Addr} {F : Hp} {vs : List V} {ds : List D} {lo hi : Option Int} (t : TrAll c ρ F vs ds) : TrAll c ρ F (cutV vs lo hi) (cutL ds lo hi) := by
  unfold cutV cutL
  rw [trall_len t]
  exact trall_take _ (trall_drop _ t)
theorem ss_L : SlS c (rSlL c.K) slL := by
  intro w x d lo hi r Q ok px hf rq
  unfold slL at hf
  split at hf
  · cases hf
    obtain ⟨a, vs, rfl, h1, t⟩ := px.list ok
    exact ⟨a, vs, rfl, .inl (.inl h1), fun p hp => rq p _ hp (.list (cut_tr t))⟩
  · cases hf
    obtain ⟨a, vs, rfl, h1, t⟩ := px.scr ok
    exact ⟨a, vs, rfl, h1, fun p hp => rq p _ hp (.list (cut_tr t))⟩
  · cases hf
theorem sim_RevL {t : TE} {T : M Rs} (ht : Sim c E t T) : Sim c E (tRevL c.K t) (TRevL T) := by
  refine sim_Un (op := fun x H1 Q => ∃ a xs, x = .ref a ∧ SqL c.K H1 a xs ∧ ∀ p, H1 p = none → Q (.ref p) (upd H1 p (.lst xs.reverse))) ?_ ht
  intro w x d r Q ok px hf rq
  unfold revL at hf
  split at hf
  · cases hf
    obtain ⟨a, vs, rfl, h1, t⟩ := px.list ok
    exact ⟨a, vs, rfl, .inl (.inl h1), fun p hp => rq p _ hp (.list (trall_rev t))⟩
  · cases hf
    obtain ⟨a, vs, rfl, h1, t⟩ := px.scr ok
    exact ⟨a, vs, rfl, h1, fun p hp => rq p _ hp (.list (trall_rev t))⟩
  · cases hf
theorem sim_DNew : Sim c E tDNewK TDNew := by
  intro w σ s out s' Q R1 e post
  cases e
  exact fun p hp => rq_post (E := E) R1 Le.refl post p _ hp (.dict .nil)
/-! ### methods of lists -/
def mAppend (ds : List D) (d : D) : Option (D × D) := match ds, d with
  | [y], .list xs => if xs.length < 16777216 then some (.non, .list (xs ++ [y])) else none
  | _, _ => none
def mPopAt (ds : List D) (d : D) : Option (D × D) := match ds, d with
  | [.int i], .list xs => if (decide (-(2 ^ 63) ≤ i) && decide (i < 2 ^ 63)) = true then (seqIndex? i xs.length).bind fun k => (xs[k]?).map fun y => (y, .list (xs.eraseIdx k)) else none
  | _, _ => none
def mExtend (ds : List D) (d : D) : Option (D × D) := match ds, d with
  | [.list ys], .list xs => if fits (xs.length + ys.length) = true then some (.non, .list (xs ++ ys)) else none
  | _, _ => none
def mReverse (ds : List D) (d : D) : Option (D × D) := match ds, d with
  | [], .list xs => some (.non, .list xs.reverse)
  | _, _ => none
theorem bm_append : BmS c rAppend mAppend := by
  intro w p o d ds vs res d' Q ok hp ce ta hf q
  unfold mAppend at hf
  split at hf
  · split at hf
    · rename_i h; cases hf
      obtain ⟨v, rfl, tv⟩ := trall1 ta
      cases ce with
      | list t => exact ⟨p, _, v, rfl, rfl, hp, by rw [trall_len t]; exact h, q _ _ (.list (trall_snoc t tv)) .non⟩
    · cases hf
  · cases hf
theorem trall_erase {ρ : List Addr} {F : Hp} : ∀ {vs : List V} {ds : List D} (k : Nat), TrAll c ρ F vs ds → TrAll c ρ F (vs.eraseIdx k) (ds.eraseIdx k)
  | _, _, _, .nil => .nil
  | _, _, 0, .cons _ t => t
  | _, _, k + 1, .cons h t => .cons h (trall_erase k t)
theorem trall_at {ρ : List Addr} {F : Hp} {vs : List V} {ds : List D} {k : Nat} {d : D} (t : TrAll c ρ F vs ds) (h : ds[k]? = some d) : ∃ v, vs[k]? = some v ∧ Tr c ρ F v d := by
  have hk : k < vs.length := by rw [trall_len t]; exact (List.getElem?_eq_some_iff.mp h).1
  exact ⟨vs[k], List.getElem?_eq_getElem hk, trall_get t (List.getElem?_eq_getElem hk) h⟩
theorem bm_popAt : BmS c rPopAt mPopAt := by
  intro w p o d ds vs res d' Q ok hp ce ta hf q
  unfold mPopAt at hf
  split at hf
  · split at hf
    · rename_i hs
      simp only [Bool.and_eq_true, decide_eq_true_eq] at hs
      obtain ⟨k, hk, e⟩ := Option.bind_eq_some_iff.mp hf
      obtain ⟨y, hy, e⟩ := Option.map_eq_some_iff.mp e
      cases e
      obtain ⟨v, rfl, tv⟩ := trall1 ta
      cases tv
      cases ce with
      | list t =>
        obtain ⟨v, hv, tv⟩ := trall_at t hy
        exact ⟨p, _, _, k, v, rfl, rfl, hp, hs.1, hs.2, by rw [trall_len t]; exact hk, hv, q _ _ (.list (trall_erase k t)) tv⟩
    · cases hf
  · cases hf
theorem bm_reverse : BmS c rReverse mReverse := by
  intro w p o d ds vs res d' Q ok hp ce ta hf q
  unfold mReverse at hf
  split at hf
  · cases hf
    cases ta
    cases ce with
    | list t => exact ⟨p, _, rfl, rfl, hp, q _ _ (.list (trall_rev t)) .non⟩
  · cases hf
/-- xs.index(y) -/
def ixF (d : D) : List D → Nat → Option Nat
  | [], _ => none
  | e :: es, n => if eqF e d = true then some n else ixF d es (n + 1)
def indexD (d : D) (es : List D) : Option Rs := match d, es with
  | .list ds, [e] => if (flatD e && ds.all flatD) = true then (ixF e ds 0).map fun n : Nat => .v (.int (n : Int)) else none
  | .scr ds, [e] => if (flatD e && ds.all flatD) = true then (ixF e ds 0).map fun n : Nat => .v (.int (n : Int)) else none
  | _, _ => none
def TIndex (o : M Rs) (t : M (List Rs)) : M Rs := bnd o fun r => bnd (pk r) fun d0 => if (itemsL d0).isSome = true then bnd t fun rs => bnd (pk r) fun d => bnd (pks rs) fun es => opt (indexD d es) else fun _ => none
theorem ixF_ok {ρ : List Addr} {F : Hp} {w : Wd} {x : V} {d : D} (px : Pk c w x d) (hf : flatD d = true) : ∀ {vs : List V} {ds : List D} {n m : Nat}, TrAll c ρ F vs ds → ixF d ds n = some m → ∃ j z, m = n + j ∧ vs[j]? = some z ∧ eqV z x = true ∧ ∀ (k : Nat) (z' : V), k < j → vs[k]? = some z' → eqV z' x = false
  | _, _, n, m, .nil, h => by cases h
  | _, _, n, m, .cons (v := v) (d := e) t r, h => by
    unfold ixF at h
    split at h
    · rename_i he
      cases h
      exact ⟨0, v, rfl, rfl, (tr_eqF t px hf).trans he, fun k z' hk => absurd hk (Nat.not_lt_zero _)⟩
    · rename_i he
      obtain ⟨j, z, rfl, h1, h2, h3⟩ := ixF_ok px hf r h
      refine ⟨j + 1, z, by omega, by simpa using h1, h2, fun k z' hk hz => ?_⟩
      cases k with
      | zero => simp at hz; subst hz; rw [tr_eqF t px hf]; simpa using he
      | succ k => exact h3 k z' (by omega) (by simpa using hz)
theorem sim_Index {to : TE} {To : M Rs} {t : TA} {T : M (List Rs)} (ho : Sim c E to To) (ht : SimP c E t T) : Sim c E (tBM c.K "list" (rIndex c.K) to t) (TIndex To T) := by
  intro w σ s out s' Q R1 e post
  rcases bnd_some e with ⟨r, s1, e1, e⟩ | ⟨x, e1, rfl⟩
  · refine ho w σ s _ s1 _ R1 e1 fun w1 v l1 R2 rv => ?_
    obtain ⟨d0, p0, e⟩ := bnd_pk e
    by_cases hs : (itemsL d0).isSome = true
    · rw [if_pos hs] at e
      have isq : ∀ {w : Wd} {d : D} {xs : List D}, Same w.F w.H → Pk c w v d → itemsL d = some xs → ∃ a vs, v = .ref a ∧ SqL c.K w.H a vs ∧ TrAll c w.ρ w.F vs xs := by
        intro w d xs ok p h
        cases d with
        | list ys => cases h; obtain ⟨a, vs, e, h1, t⟩ := p.list ok; exact ⟨a, vs, e, .inl (.inl h1), t⟩
        | scr ys => cases h; obtain ⟨a, vs, e, h1, t⟩ := p.scr ok; exact ⟨a, vs, e, h1, t⟩
        | _ => cases h
      obtain ⟨xs, hx⟩ := Option.isSome_iff_exists.mp hs
      obtain ⟨a, vs, rfl, h1, _⟩ := isq R2.ok (peek_pk R2 rv p0) hx
      refine ⟨.inl ⟨rfl, vs, h1⟩, ?_⟩
      rcases bnd_some e with ⟨rs, s2, e2, e⟩ | ⟨x, e2, rfl⟩
      · refine ht w1 σ s1 _ s2 _ R2 e2 fun w2 us l2 R3 ta => ?_
        obtain ⟨d, p, e⟩ := bnd_pk e
        obtain ⟨es, ed, e⟩ := bnd_pks e
        obtain ⟨r', e3, rfl, rfl⟩ := opt_some e
        have pa := ta.pk R3 ed
        have pd := peek_pk R3 (rv.mono l2) p
        have fin : ∀ {ys : List D} {e : D}, itemsL d = some ys → es = [e] → (flatD e && ys.all flatD) = true → (ixF e ys 0).map (fun n : Nat => Rs.v (.int (n : Int))) = some r' → rIndex c.K (.ref a) us w2.H Q := by
          intro ys e hi he hf hx
          subst he
          obtain ⟨n, hn, rfl⟩ := Option.map_eq_some_iff.mp hx
          simp only [Bool.and_eq_true] at hf
          obtain ⟨u, rfl, pu⟩ := pkall1 pa
          obtain ⟨a', ws, ea, h2, t2⟩ := isq R3.ok pd hi
          cases ea
          obtain ⟨j, z, rfl, h3, h4, h5⟩ := ixF_ok pu hf.1 t2 hn
          exact ⟨_, ws, u, j, z, rfl, rfl, h2, pk_flat pu hf.1, tr_flat t2 hf.2, h3, h4, h5, by rw [show 0 + j = j by omega] at post; exact post w2 _ (l1.trans l2) R3 (.int _)⟩
        unfold indexD at e3
        split at e3
        · split at e3
          · rename_i hf; exact fin rfl rfl hf e3
          · cases e3
        · split at e3
          · rename_i hf; exact fin rfl rfl hf e3
          · cases e3
        · cases e3
      · exact ht w1 σ s1 _ _ _ R2 e2 fun w2 d l2 R3 xa => post w2 d (l1.trans l2) R3 xa
    · rw [if_neg hs] at e; cases e
  · exact ho w σ s _ _ _ R1 e1 post
end
end Z
/-! more statements; things kept in the store; the law's own call -/
namespace Z
open PySem PySem.Spec PyProof.Rows L2 U ClX
def TAsgG (T : M Rs) (G : GD) : TSd := sb T fun r => sb (stab r) fun d s => nxt (G d s)
/-- a new thing is kept in the store -/
def TKeep (T : M Rs) : M Rs := bnd T fun r s => match r with
  | .fr d => some (.ok (.v (.loc s.μ.length)), { s with μ := s.μ ++ [d] })
  | _ => none
section
variable {c : Cz} {E : XS} {w w0 : Wd} {σ : L2.St} {s s' : S}
theorem sim_AsgG {t : TE} {T : M Rs} {ix : List Nat} {g : TG} {G : GD} (ht : Sim c E t T) (hg : SimG c ix g G) : SimS c E (tAsg t g) (TAsgG T G) := by
  intro w σ s fl s' D R1 e post
  rcases sb_some e with ⟨r, s1, e1, e⟩ | ⟨x, e1, rfl⟩
  · refine ht w σ s _ s1 _ R1 e1 fun w1 v l1 R2 rv => ?_
    rcases sb_some e with ⟨d, s2, e2, e⟩ | ⟨x, e2, rfl⟩
    · obtain ⟨w2, l2, eh, R3, tr⟩ := stab_ok R2 l1 rv e2
      obtain ⟨e3, rfl⟩ := nxt_some e
      rw [← eh]
      exact hg w2 σ s2 v d s' _ R3 tr e3 fun σ' R4 _ => post w2 σ' l2 R4
    · exact (stab_not_ex e2).elim
  · exact ht w σ s _ _ _ R1 e1 fun w1 d l1 R2 xa => post w1 σ d l1 R2 xa
def Wd.store (w : Wd) (p : Addr) : Wd := ⟨w.F, fun b => w.O b ∨ b = p, w.H, w.ρ ++ [p]⟩
theorem R.store {p : Addr} {o : HO} {d : D} (R1 : R c w σ s) (hp : w.H p = some o) (ce : CellO c w.ρ w.F o d) (hf : w.F p = none) (no : ¬ w.O p) : R c (w.store p) σ { s with μ := s.μ ++ [d] } := by
  have pr : w.ρ <+: w.ρ ++ [p] := List.prefix_append _ _
  refine ⟨R1.ok, fun b z => ?_, by show (w.ρ ++ [p]).length = (s.μ ++ [d]).length; simp [R1.len], ?_, R1.sz, fun n q u e1 e2 => ?_, fun j a e => ?_, R1.ne⟩
  · rcases z with z | rfl
    · exact R1.ow b z
    · exact ⟨hf, by show w.H b ≠ none; rw [hp]; simp⟩
  · show (w.ρ ++ [p]).Nodup
    rw [List.nodup_append]
    refine ⟨R1.nd, by simp, fun a ha b hb e => ?_⟩
    simp at hb
    subst hb
    exact no (R1.rho' (e ▸ ha))
  · have e1 : (w.ρ ++ [p])[n]? = some q := e1
    have e2 : (s.μ ++ [d])[n]? = some u := e2
    by_cases hn : n < w.ρ.length
    · rw [List.getElem?_append_left hn] at e1
      rw [List.getElem?_append_left (by rw [← R1.len]; exact hn)] at e2
      obtain ⟨h1, y, h2, h3⟩ := R1.st n q u e1 e2
      exact ⟨.inl h1, y, h2, h3.mono pr (Same.refl _)⟩
    · have hl : n < (w.ρ ++ [p]).length := (List.getElem?_eq_some_iff.mp e1).1
      have : n = w.ρ.length := by simp at hl; omega
      subst this
      rw [List.getElem?_append_right (Nat.le_refl _), Nat.sub_self] at e1
      rw [List.getElem?_append_right (by rw [R1.len]; exact Nat.le_refl _), R1.len, Nat.sub_self] at e2
      cases e1; cases e2
      exact ⟨.inr rfl, o, hp, ce.mono pr (Same.refl _)⟩
  · obtain ⟨v, h1, h2⟩ := R1.vr j a e
    refine ⟨v, h1, ?_⟩
    cases a with
    | s u => exact Tr.mono h2 pr (Same.refl _)
    | o u =>
      obtain ⟨q, y, e, h3, h4, h5, h6⟩ := h2
      refine ⟨q, y, e, .inl h3, fun z => ?_, h5, h6.mono pr (Same.refl _)⟩
      have z : q ∈ w.ρ ++ [p] := z
      rcases List.mem_append.mp z with z | z
      · exact h4 z
      · simp at z; subst z; exact no h3
theorem sim_Keep {t : TE} {T : M Rs} (ht : Sim c E t T) : Sim c E t (TKeep T) := by
  intro w σ s out s' Q R1 e post
  rcases bnd_some e with ⟨r, s1, e1, e⟩ | ⟨x, e1, rfl⟩
  · split at e
    · rename_i d
      cases e
      refine ht w σ s _ s1 _ R1 e1 fun w1 v l1 R2 rv => ?_
      obtain ⟨p, o, rfl, n, q, ce, f, no⟩ := rv
      refine post (w1.store p) (.ref p) ⟨l1.fz, l1.nf, l1.fr, fun b z => z.elim (l1.no b) fun z => .inr (z ▸ n), l1.dm, l1.pr.trans (List.prefix_append _ _)⟩ (R2.store q ce f no) (.loc ?_)
      show (w1.ρ ++ [p])[s1.μ.length]? = some p
      rw [← R2.len, List.getElem?_append_right (Nat.le_refl _), Nat.sub_self]; rfl
    · cases e
  · exact ht w σ s _ _ _ R1 e1 post
/-- the law's own call -/
theorem law_sp {F : FT} {K : PySem.W.Frag} {cad : Nat → Addr} {H : Hp} {a : Addr} {ns : List Int} {Q : VK} {E : XK} (hs : SqL K H a (ns.map V.int)) (h : ∃ μ, F [.scr (ns.map D.int)] [] = some (.ok (.v (.bl true)), μ)) (q : ∀ H', Q (.bl true) H') : spF ⟨K, cad⟩ F [.ref a] H Q E := by
  obtain ⟨μ, h⟩ := h
  refine ⟨⟨H, fun _ => False, H, []⟩, [.scr (ns.map D.int)], [], _, μ, rfl, fun b z => z.elim, ⟨Same.refl _, fun b z => z.elim, rfl, List.nodup_nil, rfl, fun n p d e => by simp at e, fun i a e => by simp at e, fun i j p d e h => by simp at h⟩, .cons (.scr hs (tr_ints ns)) .nil, h, fun w' v l R' rv => ?_⟩
  cases rv
  exact q _
end
/-! ### keywords -/
theorem _root_.U.Dm.mthK1 {P : Program} {w : World} {K : PySem.W.Frag} {mg : Str → Option Value} {base : Heap} {m qual k : Str} {C : Addr} {st : Stmt} {N : List Str} {lv : Nat} {t : XK → TS} {sp : Sp} (d : Dm K C m qual st ["self", k]) (S : FnScope N ["self", k] (defScope st)) (D : Der P w K mg base N qual st lv t) (p : Pur N ["self", k] t sp)
    (h : ∀ (kV doc pm : Value) (an : Option Addr) (cdv ct a u : Value), bindArgs (PySem.W.fnOf m qual (defArgs st) (defBody st) (defScope st) .none kV doc pm an cdv ct) ⟨[a], [(k, u)]⟩ = pure ([(("self" : Str), a), (k, u)] : List (Str × Value))) : MthK P w K mg base (lv + 1) C m [k] id sp := by
  obtain ⟨f, fd, F, hm, b⟩ := d.ex
  refine ⟨f, fd, ["self", k], id, d.cls, hm, fnok_of F S D p, ?_⟩
  obtain ⟨oc, od, kV, doc, pm, an, cdv, ct, osl, rfl, lk, hcd⟩ := F.ex
  refine ⟨fun s us ws _ hu hw => ?_, fun r => r⟩
  match us, ws, hu, hw with
  | [a], [u], _, _ => exact .of_eq (h kV doc pm an cdv ct a u)
/-! ### orders of keywords -/
end Z
/-! super().m(..), methods that are one return with it -/
namespace Z
open PySem PySem.Spec PyProof.Rows L2 U ClX
open NdefX (NScope envF ncx startF CellsAt inv_startN NF)
end Z
namespace Z
open PySem PySem.Spec PyProof.Rows L2 U ClX
open NdefX (NScope envF ncx startF CellsAt inv_startN NF)
/-- super().m(..) in a method of the class kid -/
def TSup (kid : Nat) (F : FT) (T : M (List D)) : M Rs := bnd (TVar 0) fun r => bnd (stab r) fun d => bnd (pk (.v d)) fun d0 => match d0 with
  | .obj k _ => if k = kid then bnd T fun ds => call F (d :: ds) else fun _ => none
  | _ => fun _ => none
end Z
/-! {k: v}, len(set(..)), insert -/
namespace Z
open PySem PySem.Spec PyProof.Rows L2 U ClX
/-- {k: v} -/
def tDct1 (tk tv : TE) : TE := fun σ H Q => ∀ p, H p = none → tk σ (upd H p (.dK [])) fun y H1 => tv σ H1 fun z H2 => ∃ k, y = kV k ∧ H2 p = some (.dK []) ∧ Q (.ref p) (upd H2 p (.dK [(k, z)]))
section
variable {X : Cx}
theorem pe_dct1 {k v : Expr} {pos : Pos} {tk tv : TE} (hk : PE X k tk) (hv : PE X v tv) : PE X (.Dict [some k] [v] pos) (tDct1 tk tv) := by
  refine ⟨fun pins s σ H Q I h => ?_⟩
  refine wpAny_Dict_walk (knd := mixKind X.prog X.w) rfl rfl (by simp) (by simp) ?_
  have hf : H s.heap.objs.size = none := I.hok.fresh (Nat.le_refl _)
  have I0 : Inv X pins σ (upd H s.heap.objs.size (.dK [])) { s with heap := s.heap.push { cls := .type "dict", data := .dict #[] } } := I.laid (a := s.heap.objs.size) (o := .dK []) (t' := s.toks) (fun _ _ q => Heap.get?_push_of_some _ q) (Nat.le_refl _) (dk_empty s.heap I.big)
  refine pairTrees_cons_walk (thn (hk.run pins _ σ _ _ I0 (h _ hf)) fun u s1 ⟨y, H1, I1, ry, q1⟩ => thn (hv.run pins s1 σ H1 _ I1 q1) fun w s2 ⟨z, H2, I2, rz, key, ey, e2, q2⟩ => pairTrees_nil_walk ?_)
  subst ey
  obtain ⟨sz, hd, vs, rel, dd⟩ := dk_of I2.hok e2
  cases rel
  refine ⟨[(key, w)], ⟨kV_is ry, rfl, trivial⟩, dd, fun h' dd' hs => ?_⟩
  have he : ∃ q, h'.get? s.heap.objs.size = some q := let ⟨q, _, _, hq, _⟩ := dd'; ⟨q, hq⟩
  have rel2 : KV [(key, z)] [(key, w)] := .cons ⟨rfl, rz⟩ .nil
  exact ⟨.ref s.heap.objs.size, _, d_write I2 (by rw [e2]; exact True.intro) hs he (dk_new (by show 1 ≤ sizeLine; decide) hd rel2 dd'), rfl, q2⟩
end
def TDct1 (a b : M Rs) : M Rs := bnd a fun x => bnd (stab x) fun dk => bnd b fun y => bnd (stab y) fun dv => bnd (opt (toKey dk)) fun k => ret (.fr (.dict [(k, dv)]))
section
variable {c : Cz} {E : XS} {w w0 : Wd} {σ : L2.St} {s s' : S}
theorem sim_Dct1 {ta tb : TE} {Ta Tb : M Rs} (ha : Sim c E ta Ta) (hb : Sim c E tb Tb) : Sim c E (tDct1 ta tb) (TDct1 Ta Tb) := by
  intro w σ s out s' Q R1 e post
  intro p hp
  have R0 := R1.new (o := .dK []) hp
  have rv0 := Rv.new (d := .dict []) R1 hp (.dict .nil)
  have l0 : Le w (w.new p (.dK [])) := Le.new hp
  rcases bnd_some e with ⟨x, s1, e1, e⟩ | ⟨x, e1, rfl⟩
  · refine ha (w.new p (.dK [])) σ s _ s1 _ R0 e1 fun w1 v1 l1 R2 rv1 => ?_
    rcases bnd_some e with ⟨dk, s2, e2, e⟩ | ⟨x', e2, rfl⟩
    · obtain ⟨w2, l2, eh2, R3, tk⟩ := stab_ok R2 l1 rv1 e2
      rw [← eh2]
      rcases bnd_some e with ⟨y, s3, e3, e⟩ | ⟨x', e3, rfl⟩
      · refine hb w2 σ s2 _ s3 _ R3 e3 fun w3 v3 l3 R4 rv3 => ?_
        rcases bnd_some e with ⟨dv, s4, e4, e⟩ | ⟨x', e4, rfl⟩
        · obtain ⟨w4, l4, eh4, R5, tv⟩ := stab_ok R4 l3 rv3 e4
          rw [← eh4]
          obtain ⟨k, ek, e⟩ := bnd_opt e
          cases e
          have L := l2.trans l4
          obtain ⟨p', o, ep, n, q, ce, f, no⟩ := rv0.mono L
          cases ep
          cases ce with
          | dict t =>
            cases t
            refine ⟨k, toKey_some (tk.mono l4.pr l4.fz) ek, q, ?_⟩
            exact post (w4.new p (.dK [(k, v3)])) (.ref p) ((l0.trans L).poke hp) (R5.poke f no) ⟨p, _, rfl, hp, upd_same, .dict (.cons tv .nil), f, no⟩
        · exact (stab_not_ex e4).elim
      · exact hb w2 σ s2 _ _ _ R3 e3 fun w3 d l3 R4 xa => post w3 d ((l0.trans l2).trans l3) R4 xa
    · exact (stab_not_ex e2).elim
  · exact ha (w.new p (.dK [])) σ s _ _ _ R0 e1 fun w1 d l1 R2 xa => post w1 d (l0.trans l1) R2 xa
/-- len(set(texts)) -/
def lenSet (d : D) : Option Rs := match d with
  | .list ds => (ds.mapM asS).bind fun zs => if zs.length ≤ 1000 then some (.v (.int (dd zs).length)) else none
  | _ => none
def TLenSet (a : M Rs) : M Rs := TUn lenSet a
theorem sim_LenSet {t : TE} {T : M Rs} (ht : Sim c E t T) : Sim c E (tLenSetT c.K t) (TLenSet T) := by
  refine sim_Un (op := fun x H1 Q => ∃ l, ∃ xs : List Str, x = .ref l ∧ SqL c.K H1 l (xs.map V.str) ∧ xs.length ≤ 1000 ∧ Q (.int (dd xs).length) H1) ?_ ht
  intro w x d r Q ok px hf rq
  unfold lenSet at hf
  split at hf
  · obtain ⟨zs, h1, h2⟩ := Option.bind_eq_some_iff.mp hf
    split at h2
    · rename_i h; cases h2
      obtain ⟨a, vs, rfl, h4, t⟩ := px.list ok
      have e := mapM_strs t h1
      subst e
      exact ⟨a, zs, rfl, .inl (.inl h4), h, rq _ (.int _)⟩
    · cases h2
  · cases hf
end
def mergeD (acc more : List (Key × D)) : List (Key × D) := more.foldl (fun acc kv => putD acc kv.1 kv.2) acc
/-! ### orders of keywords -/
end Z
/-! raise X('m'), raise X(v) with X's own __init__, try with one clause -/
namespace U
open PySem PySem.Spec PyProof.Rows L2 ClX
/-! ### raise -/
def tRaise (C : Addr) (E : XS) : TS := fun _ σ H => E σ (.ref C) none H
/-- what an own exception class without __init__ must be -/
structure ExcN (K : PySem.W.Frag) (mg : Str → Option Value) (x : Str) (C : Addr) : Prop where
  ex : PySem.W.excIn K C [.type "ValueError", .type "Exception", .type "BaseException", .type "object"] "ValueError.__new__" = true
  gC : mg x = some (.ref C)
  kC : PySem.W.keepIn K (.ref C) = true
  sC : PySem.W.subIn K (.ref C) (.type "BaseException") = some true
  tC : PySem.W.typeIn K (.ref C) = some (.type "type")
section
variable {X : Cx} {j : Nat} {E : XS}
theorem ps_raiseN {x m : Str} {C : Addr} {i : Nat} {p p2 pos pos2 : Pos} (hc : X.calm = true) (tk : Takes X (fun cls d σ H => E σ cls d H)) (N : ExcN X.K X.mg x C) (hg : Gl X x) (hdb : (x == ("__debug__" : Str)) = false := by decide) :
    PS X (.Raise (some (.Call (.Name x p) [.Constant (.str m) i p2] [] pos)) none pos2) (tRaise C E) :=
  ps_raise (W := fun cls d σ H => E σ cls d H) hc tk (pmk_own F.excBase_ValueError N.ex N.gC N.kC (raises_own N.sC N.tC) hg hdb)
/-- the promise of the __init__ of such a class: it keeps its argument as f -/
def spX (C : Addr) (f : Str) : Sp := fun vs H Q _ => ∃ (a : Addr) (y : V), vs = [.ref a, y] ∧ H a = some (exo a C none) ∧ ∀ d, H d = none → d ≠ a → Q .non (upd (upd H d (exd d [(f, y)])) a (exo a C (some d)))
/-- raise X(v): v is kept as the attribute f -/
def tRaiseF (C : Addr) (f : Str) (E : XS) (t : TE) : TS := fun _ σ H => tMkO C (spX C f) [] (tCons t tNil) σ H fun cls d H' => E σ cls d H'
/-- B.__init__(self, 'm') -/
theorem pe_binit {x : Str} {B : Addr} {mc : Value} {e : Expr} {es : List Expr} {ta : TA} {p1 p2 pos : Pos} {pl : Sem Bool} (hg : Gl X x) (hm : X.mg x = some (.ref B)) (r : CRead X.K B mc) (vV : PySem.W.findCls X.K (.ref B) mc "__init__" = some (.val (.builtin "ValueError.__init__"))) (ha : PA X (e :: es) ta)
    (hc : eval (.Call (.Attribute (.Name x p1) "__init__" p2) (e :: es) [] pos) X.env = (do
      let ov ← eval (.Name x p1) X.env
      standAt p2.atName
      let (f, first) ← holding [ov] (getMethod ov "__init__" pl)
      callWith pos f first (backTo pos (starEach (e :: es) X.env)) (backToKw pos (keywordEach [] X.env))) := by rfl)
    (hdb : (x == ("__debug__" : Str)) = false := by decide) (he : starEach (e :: es) X.env = (false, eval e X.env) :: starEach es X.env := by rfl) (hpl : (backTo pos (starEach es X.env)).any (·.1) = false := by rfl) :
    PE X (.Call (.Attribute (.Name x p1) "__init__" p2) (e :: es) [] pos) (tVeI X.K ta) := by
  refine ⟨fun pins s σ H Q I h => ?_⟩
  refine PySem.W.methodCall_KW (ld_glob I hg hm (PySem.W.method_cls I.kIn r.ga (PySem.W.cls_value I.kIn r.rd vV rfl ?_)) hdb) hc
  show wpAny _ _ (callWith pos (Value.builtin "ValueError.__init__") [] (backTo pos (starEach (e :: es) X.env)) []) _ _ _
  refine PyProof.Rows.callWith_method1 (thn (ha.run pos pins _ σ H _ (I.tok _) h) fun us s1 ⟨vs, H1, I1, r1, a, C, ws, ev, hl, T, ea, q⟩ => ?_) he hpl
  subst ev
  cases r1 with
  | @cons _ u0 _ ur ra rw' =>
    cases (show u0 = Value.ref a from ra)
    exact oinit_ok T I1 ea (by rw [← Paired.length rw', sizeLine_eq]; omega) fun s' J => ⟨.non, H1, J, rfl, q⟩
/-- the reading of such an __init__'s body -/
theorem init_pur {z1 z2 : Str} {C : Addr} {K : PySem.W.Frag} {f m : Str} {vs : List V} {H : Hp} {Q : VK} {E : XK} (T : OexC K C) (n : PySem.W.findIn K (.ref C) f = some none) (h : spX C f vs H Q E) :
    tSeq (tDrop (tVeI K (tCons (tVar 0) (tCons (tC (.str m)) tNil)))) (tOst K f (tVar 0) (tVar 1)) { nx := fun _ H' => Q .non H', rt := Q } (start [z1, z2] vs) H := by
  obtain ⟨a, y, rfl, ea, q⟩ := h
  exact ⟨.ref a, rfl, a, C, [.str m], rfl, (by show 1 ≤ 1000; decide), T, ea, y, rfl, .ref a, rfl, a, C, rfl, T, n, .inl ⟨ea, fun d hd hne => q d hd hne⟩⟩
/-- raise X(v), X's __init__ keeping v as f -/
structure ExcF (P : Program) (K : PySem.W.Frag) (mg : Str → Option Value) (x : Str) (C : Addr) (f : Str) : Prop where
  T : OexC K C
  gC : mg x = some (.ref C)
  ex : ∃ (fI : Addr) (fd : FuncData) (ps : List Str), PySem.W.findIn K (.ref C) "__init__" = some (some (.ref fI)) ∧ PySem.W.typeIn K (.ref fI) = some (.type "function") ∧ (∀ w base, FnOk P w K mg base (L2.CX P w) 2 fI fd ps (spX C f)) ∧ Binds K fd ps []
theorem upd_del {H : Hp} {a d : Addr} {o1 o2 o3 o4 : HO} (na : H a = none) (hne : d ≠ a) : upd (del (upd (upd (upd H a o1) d o2) a o4) a) d o3 = upd H d o3 := by
  funext b
  by_cases e : b = d
  · subst e; rw [upd_same, upd_same]
  · rw [upd_ne e, upd_ne e]
    by_cases e2 : b = a
    · subst e2; rw [del_same, na]
    · rw [del_ne e2, upd_ne e2, upd_ne e, upd_ne e2]
theorem ps_raiseF {x f : Str} {C : Addr} {e : Expr} {te : TE} {p pos pos2 : Pos} (hc : X.calm = true) (tk : Takes X (fun cls d σ H => E σ cls d H)) (hr : Room j X.A) (N : ExcF X.prog X.K X.mg x C f) (hg : Gl X x) (he : PE X e te) (hj : 3 ≤ j := by decide)
    (hdb : (x == ("__debug__" : Str)) = false := by decide) (hst : starEach [e] X.env = (false, eval e X.env) :: starEach [] X.env := by rfl) (hpl : (backTo pos (starEach [] X.env)).any (·.1) = false := by rfl) :
    PS X (.Raise (some (.Call (.Name x p) [e] [] pos)) none pos2) (tRaiseF C f E te) := by
  obtain ⟨fI, fd, ps, iC, tI, F1, hb⟩ := N.ex
  exact ps_raise (W := fun cls d σ H => E σ cls d H) hc tk (pmk_oex (dvs := []) (ds := []) N.T iC tI (F1 _ _) (hr.mono hj) hb .nil passL hg N.gC (pa_cons he pa_nil (hs := hst)) hdb hst hpl)
end
/-! ### try: the caught exception is tracked -/
section
variable {X : Cx} {pins : List (Addr × Obj)} {σ : L2.St} {H : Hp} {s : Shared}
theorem track {a : Addr} {cls : Value} {d : Option Addr} {oe : Obj} {vs : Array Value} (I : Inv X pins σ H s) (ea : s.heap.get? a = some oe) (z : Zc cls d oe) (q : oe.data = .fields vs) (na : H a = none) (n0 : X.s_0.heap.get? a = none)
    (np : ∀ p ∈ X.pn ++ pins, p.1 ≠ a) (nL : X.env.locals ≠ a) (nC : ∀ y c, X.env.cells.lookup y = some c → c ≠ a) : Inv X pins σ (upd H a (exV cls d a)) s := by
  refine ⟨I.ok, I.os, I.bare, ⟨I.base.keep, I.base.slot, fun b o e n hx => ?_, I.base.there, fun b xs e => ?_, fun b o u e => ?_, fun b ps e => ?_⟩, I.loc, I.cell, ?_, fun y c e => ?_, fun p hp => ?_, fun b u e => ?_, I.len⟩
  · have hb : b ≠ a := fun y => by rw [y, n0] at e; cases e
    rw [upd_ne hb]; exact I.base.free b o e n hx
  · have y := I.base.tups b xs e
    rw [upd_ne (ne_of_none y na)]; exact y
  · have y := I.base.frzs b o u e
    rw [upd_ne (ne_of_none y na)]; exact y
  · obtain ⟨m, y⟩ := I.base.tbls b ps e
    exact ⟨m, by rw [upd_ne (ne_of_none y na)]; exact y⟩
  · rw [upd_ne nL]; exact I.free
  · rw [upd_ne (nC y c e)]; exact I.freeC y c e
  · obtain ⟨e, n, r⟩ := I.pin p hp
    exact ⟨e, by rw [upd_ne (np p hp)]; exact n, r⟩
  · by_cases hb : b = a
    · subst hb
      rw [upd_same] at e
      cases e
      exact exV_ok ea z q
    · rw [upd_ne hb] at e
      exact (I.hok b u e).stay (fun _ _ _ y => y) (fun c y => by rw [upd_ne (ne_of_none y na)]; exact y) fun c xs y => by rw [upd_ne (ne_of_none y na)]; exact y
theorem inSuite {a : Addr} (I : Inv X pins σ H s) : Inv (X.suite a (X.pn ++ pins)) [] σ H s :=
  ⟨I.ok.suite _ _, I.os, I.bare, I.base, I.loc, I.cell, I.free, I.freeC, fun p hp => I.pin p (by rw [List.append_nil] at hp; exact hp), I.hok, I.len⟩
theorem outSuite {a : Addr} {pn' : List (Addr × Obj)} (I : Inv (X.suite a (X.pn ++ pins)) pn' σ H s) (ok : X.Ok) : Inv X pins σ H s :=
  ⟨ok, I.os, I.bare, I.base, I.loc, I.cell, I.free, I.freeC, fun p hp => I.pin p (List.mem_append_left _ hp), I.hok, I.len⟩
end
/-- the ends of a clause's suite: the clause's name goes -/
def endT (i : Nat) (D : Ends) : Ends := { nx := fun σ' H' => D.nx (σ'.set i none) H', rt := D.rt, bk := fun σ' H' => D.bk (σ'.set i none) H', ct := fun σ' H' => D.ct (σ'.set i none) H' }
/-- what 'except x as n' wishes of the body's exceptions -/
def wTry (K : PySem.W.Frag) (c : Value) (i : Nat) (ts : TS) (E : XS) (D : Ends) : WX := fun cls d σ H =>
  ∃ b, PySem.W.exmOne K cls c = some b ∧ (b = true → ∀ a, H a = none → ts (endT i D) (σ.set i (some (.ref a))) (upd H a (exV cls d a))) ∧ (b = false → E σ cls d H)
def tTry (K : PySem.W.Frag) (c : Value) (i : Nat) (tb : XS → TS) (ts : TS) (E : XS) : TS := fun D σ H => tb (WE (wTry K c i ts E D)) D σ H
section
variable {X : Cx} {x n : Str} {c : Value} {i : Nat} {body suite : List Stmt} {b₀ : Stmt} {np pos pos' : Pos} {tb : XS → TS} {ts : TS} {E : XS}
theorem ps_tryT (hst : X.stack = X.env :: X.outer) (hfm : X.env.frame = some X.env.locals) (hex : X.ex = []) (hN : X.N.Nodup) (hi : X.N[i]? = some n) (hln : X.env.kindOf n = some .local) (hc : Names X x c) (tk : Takes X (fun cls d σ H => E σ cls d H))
    (hb : ∀ (W : WX) (pn : List (Addr × Obj)) (xe : Value → Shared → Prop), Takes (X.tr pn xe) W → PassesOwn (model X.prog X.w) X.A X.env xe → PSs (X.tr pn xe) body (tb (WE W)))
    (hsu : ∀ (a : Addr) (pn : List (Addr × Obj)), PSs (X.suite a pn) (b₀ :: suite) ts) :
    PS X (.Try body [.ExceptHandler (some (.Name x np)) (some n) (b₀ :: suite) pos'] [] [] pos) (tTry X.K c i tb ts E) := by
  refine ⟨fun pins s σ H D I want => wpAny_Try_except ?_⟩
  have okX := I.ok
  have frm : X.A.frames = some (X.env :: X.outer) := by rw [okX.frames, hst]
  refine wpAny_mono ((hb (wTry X.K c i ts E D) (X.pn ++ pins) (fun e s₁ => wpAny (model X.prog X.w) X.A (noteFrame e X.env) (fun _ s₂ => wpAny (model X.prog X.w) X.A (setFlight e none) (fun _ s₃ => wpAny (model X.prog X.w) X.A (handleBy e X.env [.ExceptHandler (some (.Name x np)) (some n) (b₀ :: suite) pos']) (SP X pins D) X.xe s₃) X.xe s₂) X.xe s₁) (fun u s' air => ?_) PassesOwn.looking).run [] s σ H D (I.toTry _) want) (fun f s1 sp => ?_) (fun _ _ he => he)
  · obtain ⟨a, B, sI, pins', τ, G, cls, d, rfl, J', nb, up, sky, na, os, ag, b, hb1, yes, no⟩ := air
    have J : Inv X pins τ G sI := J'.ofTry okX
    have sky' : Sky B (X.env :: X.outer) a (Zc cls d) X.env.locals s'.heap := by rw [← hst]; exact sky
    show wpAny (model X.prog X.w) X.A (noteFrame (.ref a) X.env) _ _ _; refine Sky.land Zc.steady frm hfm sky' fun h3 fl3 up3 => ?_
    have J3 : Inv X pins τ G { s' with heap := h3 } := J.landed nb fl3.1 (up.trans up3) os ag
    obtain ⟨o3, v3, e3, z3, q3⟩ := fl3.there
    have notF : a ∉ frs (X.env :: X.outer) := fun hm => by
      obtain ⟨_, o', e', hnf⟩ := fl3.2.2.1.mem hm
      rw [e3] at e'; cases e'
      exact hnf _ q3
    have nL : a ≠ X.env.locals := fun y => notF (List.mem_filterMap.mpr ⟨X.env, List.mem_cons_self, by rw [hfm, y]⟩)
    have nF : a ∉ X.fs := fun hm => by
      obtain ⟨e, he, y⟩ := List.mem_filterMap.mp hm
      exact notF (List.mem_filterMap.mpr ⟨e, List.mem_cons_of_mem _ he, y⟩)
    -- the state without it has nothing at a
    have nI : sI.heap.get? a = none := by
      cases y : sI.heap.get? a with
      | none => rfl
      | some o =>
        have y1 := nb a o y (by rw [hst]; exact notF)
        rw [fl3.2.1] at y1; cases y1
    have S3 := J3.suite e3 q3 na nL nF
    refine wpAny_handleBy_cons (codeAny_handlers_test ?_) (by intro y; cases y)
    have LT : PySem.W.Looks (model X.prog X.w) h3 (typeOf (.ref a)) cls := fun A Q E s k y => wpAny_typeOf_ref (k _ _ e3) (by rw [z3.1]; exact y)
    have test : ∀ {Q : Value → Shared → Prop} {E : Value → Shared → Prop}, Q c { s' with heap := h3 } → wpAny (model X.prog X.w) (X.A.mark (some (.ref a))) (eval (.Name x np) X.env) Q E { s' with heap := h3 } := by
      intro Q E y
      obtain ⟨hg, hdbg, hm | ⟨hm, hv, hnn⟩⟩ := hc
      · exact ld_glob (X := X.suite a ((a, o3) :: (X.pn ++ pins))) S3 hg hm y hdbg
      · exact ld_blt (X := X.suite a ((a, o3) :: (X.pn ++ pins))) S3 hg hm hv y hnn hdbg
    refine test ((PySem.W.exm_one (M := model X.prog X.w) J3.kIn LT hb1).here ?_)
    cases b with
    | true =>
      refine codeAny_handlers_suite_as (HandSPX.lands_againZ fl3 fun h4 fl4 up4 => ?_)
      have J4 : Inv X pins τ G { s' with heap := h4 } := J.landed nb fl4.1 ((up.trans up3).trans up4) os ag
      obtain ⟨o4, v4, e4, z4, q4⟩ := fl4.there
      have T4 := track J4 e4 z4 q4 na (by
          cases y : X.s_0.heap.get? a with
          | none => rfl
          | some o =>
            obtain ⟨o', y'⟩ := J.base.there a o y (by rw [hex]; exact fun z => nomatch z)
            rw [nI] at y'; cases y')
        (fun p hp y => by have y' := (J.pin p hp).1; rw [y, nI] at y'; cases y') (Ne.symm nL)
        (fun y k e z => by obtain ⟨v, o, y1, _⟩ := J.cell y k e; rw [z, nI] at y1; cases y1)
      refine store_ok (X := X.suite a (X.pn ++ pins)) (v := .ref a) (inSuite T4) hN hi (.inl hln) rfl (fun s5 S5 => ?_) (.inr hln)
      refine wpAny_mono ((hsu a (X.pn ++ pins)).run [] s5 _ _ _ S5 (yes rfl a na)) (fun f s6 sp => ?_) (fun _ _ y => False.elim y)
      have fin : ∀ {σ6 : L2.St} {H6 : Hp} {Q : Shared → Prop}, Inv (X.suite a (X.pn ++ pins)) [] σ6 H6 s6 → (∀ s7, Inv X pins (σ6.set i none) H6 s7 → Q s7) → wpAny (model X.prog X.w) X.A (do bindName X.env n .none; unbindBehindTheSuite X.env n pos') (fun _ s7 => Q s7) X.xe s6 := fun S6 hq => gone_ok (outSuite S6 okX) hN hi hln hq
      match f, sp with
      | .next, ⟨_, _, S6, y⟩ => exact fin S6 fun s7 J7 => ⟨_, _, J7, y⟩
      | .brk, ⟨_, _, S6, y⟩ => exact fin S6 fun s7 J7 => ⟨_, _, J7, y⟩
      | .cont, ⟨_, _, S6, y⟩ => exact fin S6 fun s7 J7 => ⟨_, _, J7, y⟩
      | .ret u, ⟨_, _, _, S6, r6, y⟩ => exact fin S6 fun s7 J7 => ⟨_, _, _, J7, r6, y⟩
    | false =>
      show wpAny _ X.A (handleBy (.ref a) X.env []) _ _ _; refine wpAny_handleBy_nil ?_
      obtain ⟨k1, k2, k3, oe, vs, T, oT, tl, he, hz, hd, h1, hr⟩ := id fl3
      unfold PySem.passOn; refine wpAny_bind (wpAny_field he hd h1 ?_)
      rw [if_neg (show ¬ ((Value.ref T == Value.none) = true) by simp)]
      have fin : wpAny (model X.prog X.w) X.A (setFlight (.ref a) X.env.frame) (fun _ s4 => wpAny (model X.prog X.w) X.A (throw (.ref a) : Sem Flow) (SP X pins D) X.xe s4) X.xe { s' with heap := h3 } := by
        rw [hfm]
        exact HandSPX.setFlight_upZ fl3 fun h4 hh4 up4 => wpAny_throw (tk _ _ ⟨a, B, sI, pins, τ, G, cls, d, rfl, J, nb, (up.trans up3).trans up4, .inr (.inr (by rw [hst]; exact hh4)), na, os, ag, no rfl⟩)
      first | exact wpAny_bind (wpAny_pure (wpAny_bind fin)) | exact wpAny_bind fin
  · match f, sp with
    | .next, ⟨_, _, J', y⟩ => exact wpAny_execs_nil ⟨_, _, J'.ofTry okX, y⟩
    | .brk, ⟨_, _, J', y⟩ => exact ⟨_, _, J'.ofTry okX, y⟩
    | .cont, ⟨_, _, J', y⟩ => exact ⟨_, _, J'.ofTry okX, y⟩
    | .ret u, ⟨_, _, _, J', r, y⟩ => exact ⟨_, _, _, J'.ofTry okX, r, y⟩
end
end U
/-! raise, try -/
namespace Z
open PySem PySem.Spec PyProof.Rows L2 U ClX
/-- a new thing that stays, laid -/
def Wd.lay (w : Wd) (p : Addr) (o : HO) : Wd := (w.new p o).keep p o
section
variable {c : Cz} {E : XS} {w w0 : Wd} {σ : L2.St} {s s' : S}
theorem lay_F {p : Addr} (R1 : R c w σ s) (hp : w.H p = none) : w.F p = none := by
  cases e : w.F p with
  | none => rfl
  | some u => exact absurd (R1.ok _ _ e) (by rw [hp]; simp)
theorem lay_R {p : Addr} {o : HO} (R1 : R c w σ s) (hp : w.H p = none) : R c (w.lay p o) σ s := (R1.new hp).keep (show w.F p = none from lay_F R1 hp) upd_same fun z => (R1.ow p z).2 hp
theorem lay_Le {p : Addr} {o : HO} (R1 : R c w σ s) (hp : w.H p = none) : Le w (w.lay p o) := by
  have l := Le.new (o := o) hp
  refine ⟨Same.new (lay_F R1 hp), fun b z => ?_, l.fr, l.no, l.dm, List.prefix_refl _⟩
  by_cases e : b = p
  · exact .inr (.inr (e ▸ hp))
  · have : upd w.F p o b ≠ none := z
    rw [upd_ne e] at this
    exact .inl this
/-! ### raise -/
def TRaise (k : Nat) : TSd := fun s => some (.ex ⟨k, []⟩, s)
theorem sim_Raise {k : Nat} : SimS c E (tRaise (c.cad k) E) (TRaise k) := by
  intro w σ s fl s' D R1 e post
  cases e
  exact post w σ none Le.refl R1 (.inl ⟨rfl, rfl⟩)
theorem simN_Raise {k : Nat} : SimN c E (tRaise (c.cad k) E) (TRaise k) := by
  intro w σ s fl s' D R1 e post
  cases e
  exact post w none Le.refl R1 (.inl ⟨rfl, rfl⟩)
def TRaiseF (k : Nat) (f : Str) (T : M Rs) : TSd := sb T fun r => sb (stab r) fun d s => some (.ex ⟨k, [(f, d)]⟩, s)
theorem sim_RaiseF {k : Nat} {f : Str} {t : TE} {T : M Rs} (ht : Sim c E t T) : SimS c E (tRaiseF (c.cad k) f E t) (TRaiseF k f T) := by
  intro w σ s fl s' D R1 e post
  rcases sb_some e with ⟨r, s1, e1, e⟩ | ⟨x, e1, rfl⟩
  · refine ht w σ s _ s1 _ R1 e1 fun w1 v l1 R2 rv => ?_
    rcases sb_some e with ⟨d, s2, e2, e⟩ | ⟨x, e2, rfl⟩
    · obtain ⟨w2, l2, eh, R3, tr⟩ := stab_ok R2 l1 rv e2
      cases e
      refine ⟨by show 1 ≤ 1000; decide, fun a ha => ⟨a, v, rfl, upd_same, fun dd hd hne => ?_⟩⟩
      rw [upd_ne hne] at hd
      refine ⟨rfl, dd, [(f, v)], upd_same, by rw [upd_ne hne, upd_same], hd, ?_⟩
      rw [upd_del ha hne, ← eh]
      have hd' : w2.H dd = none := by rw [eh]; exact hd
      exact post (w2.lay dd (.xd [(f, v)])) σ (some dd) (l2.trans (lay_Le R3 hd')) (lay_R R3 hd') (.inr ⟨dd, [(f, v)], rfl, upd_same, .cons (tr.mono (List.prefix_refl _) (Same.new (lay_F R3 hd'))) .nil⟩)
    · exact (stab_not_ex e2).elim
  · exact ht w σ s _ _ _ R1 e1 fun w1 d l1 R2 xa => post w1 σ d l1 R2 xa
/-! ### try -/
theorem R.unset {i : Nat} (R1 : R c w σ s) : R c w (σ.set i none) { s with env := s.env.set i none } := by
  have g : ∀ {j : Nat} {a : A}, (s.env.set i none)[j]? = some (some a) → i ≠ j ∧ s.env[j]? = some (some a) := by
    intro j a e
    by_cases ij : i = j
    · subst ij
      by_cases hi : i < s.env.length
      · rw [List.getElem?_set_self hi] at e; cases e
      · rw [List.getElem?_eq_none (by rw [List.length_set]; omega)] at e; cases e
    · rw [List.getElem?_set_ne ij] at e; exact ⟨ij, e⟩
  refine ⟨R1.ok, R1.ow, R1.len, R1.nd, by rw [List.length_set, List.length_set]; exact R1.sz, R1.st, fun j a e => ?_, fun j k p d e a1 a2 b1 b2 => ?_⟩
  · obtain ⟨ij, e⟩ := g e
    obtain ⟨v, h1, h2⟩ := R1.vr j a e
    exact ⟨v, by rw [List.getElem?_set_ne ij]; exact h1, h2⟩
  · obtain ⟨i1, a1⟩ := g a1
    obtain ⟨i2, a2⟩ := g a2
    rw [List.getElem?_set_ne i1] at b1
    rw [List.getElem?_set_ne i2] at b2
    exact R1.ne j k p d e a1 a2 b1 b2
def TTry (T : TSd) (h : Nat → Option Bool) (i : Nat) (U : TSd) : TSd := fun s => match T s with
  | some (.ex x, s1) => (match h x.c with
    | some true => if i < s1.env.length then (match U { s1 with env := s1.env.set i (some (.s (.exc x.c x.fs))) } with
      | some (.ex _, _) => none
      | some (.rt r, s2) => some (.rt r, s2)
      | some (f, s2) => some (f, { s2 with env := s2.env.set i none })
      | none => none) else none
    | some false => some (.ex x, s1)
    | none => none)
  | r => r
theorem sim_Try {cv : Value} {h : Nat → Option Bool} {i : Nat} {tb : XS → TS} {T : TSd} {ts : TS} {U : TSd} (hm : ∀ k b, h k = some b → PySem.W.exmOne c.K (.ref (c.cad k)) cv = some b) (hb : ∀ E, SimS c E (tb E) T) (hsu : SimS c E0s ts U) : SimS c E (tTry c.K cv i tb ts E) (TTry T h i U) := by
  intro w σ s fl s' D R1 e post
  show tb _ D σ w.H
  unfold TTry at e
  split at e
  · rename_i x s1 e1
    refine hb _ w σ s _ s1 D R1 e1 fun w1 σ1 d l1 R2 xa => ?_
    show wTry c.K cv i ts E D (.ref (c.cad x.c)) d σ1 w1.H
    split at e
    · rename_i hk
      refine ⟨true, hm _ _ hk, fun _ a na => ?_, fun z => nomatch z⟩
      by_cases hi : i < s1.env.length
      · rw [if_pos hi] at e
        have R3 := lay_R (o := exV (.ref (c.cad x.c)) d a) R2 na
        have l3 := lay_Le (o := exV (.ref (c.cad x.c)) d a) R2 na
        have sm : Same w1.F (w1.lay a (exV (.ref (c.cad x.c)) d a)).F := Same.new (lay_F R2 na)
        have tr : Tr c (w1.lay a (exV (.ref (c.cad x.c)) d a)).ρ (w1.lay a (exV (.ref (c.cad x.c)) d a)).F (.ref a) (.exc x.c x.fs) := by
          rcases xa with ⟨e0, rfl⟩ | ⟨dd, ws, rfl, hF, tf⟩
          · rw [e0]; exact .exc0 upd_same
          · exact .exc1 upd_same (sm _ _ hF) (tf.mono (List.prefix_refl _) sm)
        have R4 := setS_ok (s' := { s1 with env := s1.env.set i (some (.s (.exc x.c x.fs))) }) R3 tr (by unfold setV; rw [if_pos hi])
        cases eU : U { s1 with env := s1.env.set i (some (.s (.exc x.c x.fs))) } with
        | none => rw [eU] at e; cases e
        | some q =>
          obtain ⟨f, s2⟩ := q
          rw [eU] at e
          refine hsu _ _ _ f s2 (endT i D) R4 eU ?_
          cases f with
          | nx => cases e; exact fun w' σ' l' R' => post w' _ ((l1.trans l3).trans l') R'.unset
          | bk => cases e; exact fun w' σ' l' R' => post w' _ ((l1.trans l3).trans l') R'.unset
          | ct => cases e; exact fun w' σ' l' R' => post w' _ ((l1.trans l3).trans l') R'.unset
          | rt r => cases e; exact fun w' σ' v l' R' rv => post w' σ' v ((l1.trans l3).trans l') R' (rv.base (l1.trans l3))
          | ex y => cases e
      · rw [if_neg hi] at e; cases e
    · rename_i hk
      cases e
      exact ⟨false, hm _ _ hk, (fun z => nomatch z), fun _ => post w1 σ1 d l1 R2 xa⟩
    · cases e
  · rename_i ne
    refine hb _ w σ s fl s' D R1 e ?_
    cases fl with
    | nx => exact post
    | rt r => exact post
    | bk => exact post
    | ct => exact post
    | ex x => exact absurd e (ne x s')
end
end Z
/-! f-strings, str(), the sum of a text and super().m() -/
namespace Z
open PySem PySem.Spec PyProof.Rows L2 U ClX
/-- what {x} shows -/
def fmtD : D → Option Str
  | .str z => if fits z.length = true then some z else none
  | .int i => if i.natAbs.log2 < 1920 then some (toString i) else none
  | _ => none
def TFmt (a : M Rs) : M Rs := bnd a fun x => bnd (pk x) fun d => bnd (opt (fmtD d)) fun z => ret (.v (.str z))
def TJs : List (M Rs) → Str → M Rs
  | [], acc => ret (.v (.str acc))
  | t :: ts, acc => bnd t fun x => bnd (pk x) fun d => match d with
    | .str y => if fits (acc ++ y).length = true then TJs ts (acc ++ y) else fun _ => none
    | _ => fun _ => none
end Z
/-! == and != of lists of own instances that are equal pair by pair -/
namespace Z
open PySem PySem.Spec PyProof.Rows L2 U ClX
/-- somewhere below a running body, nothing being shown -/
structure Blw (X : Cx) (n : Nat) (B : Around) : Prop where
  room : Room n B
  fr : B.frames = X.A.frames
  qt : Quiet n B
theorem Blw.in1 {X : Cx} {n : Nat} {B : Around} (h : Blw X (n + 1) B) : Blw X n B.in1 := ⟨h.room.in1, h.fr, h.qt.le (Nat.le_succ _)⟩
end Z
/-! == and != of lists of own instances, on trees: the own == of each pair says True and leaves the store as it is -/
namespace Z
open PySem PySem.Spec PyProof.Rows L2 U ClX
noncomputable section
def eqPair (tab : Nat → Option FT) (d e : D) (s : S) : Prop := ∃ k fs gs F, peek s (.v d) = some (.obj k fs) ∧ peek s (.v e) = some (.obj k gs) ∧ tab k = some F ∧ F [d, e] s.μ = some (.ok (.v (.bl true)), s.μ)
/-- all pairs of two lists of trees -/
def eqAll (tab : Nat → Option FT) (ds es : List D) (s : S) : Prop := ds.length = es.length ∧ ∀ (i : Nat) (d e : D), ds[i]? = some d → es[i]? = some e → eqPair tab d e s
def TEqO (neg : Bool) (tab : Nat → Option FT) (a b : M Rs) : M Rs := bnd a fun x => bnd b fun y => bnd (pk x) fun d => bnd (pk y) fun e => fun s => match d, e with
  | .list ds, .list es => @ite _ (eqAll tab ds es s) (Classical.propDecidable _) (some (.ok (.v (.bl (!neg))), s)) none
  | _, _ => none
end
end Z
/-! loops and comprehensions over a list that may stand in the store: at each turn it is the list that it was -/
namespace Z
open PySem PySem.Spec PyProof.Rows L2 U ClX
noncomputable section
def forC (G : GD) (T : TSd) (chk : S → Prop) : List D → TSd
  | [], s => @ite _ (chk s) (Classical.propDecidable _) (some (.nx, s)) none
  | d :: ds, s => @ite _ (chk s) (Classical.propDecidable _) (match G d s with
    | none => none
    | some s1 => match T s1 with
      | some (.nx, s2) => forC G T chk ds s2
      | some (.ct, s2) => forC G T chk ds s2
      | some (.bk, s2) => some (.nx, s2)
      | some (.rt r, s2) => some (.rt r, s2)
      | some (.ex x, s2) => some (.ex x, s2)
      | none => none) none
def TForC (I : M (List D × (S → Prop))) (G : GD) (T : TSd) : TSd := sb I fun p => forC G T p.2 p.1
def lcC (G : GD) (B : M Bool) (T : M Rs) (vs : List Nat) (chk : S → Prop) : List D → List D → M (List D)
  | [], acc, s => @ite _ (chk s) (Classical.propDecidable _) (some (.ok acc, s)) none
  | d :: ds, acc, s => @ite _ (chk s) (Classical.propDecidable _) (match G d s with
    | none => none
    | some s1 => match B s1 with
      | some (.ok true, s2) => (match bnd T stab s2 with
        | some (.ok e, s3) => lcC G B T vs chk ds (acc ++ [e]) { s3 with env := wipeE vs s3.env }
        | _ => none)
      | some (.ok false, s2) => lcC G B T vs chk ds acc { s2 with env := wipeE vs s2.env }
      | _ => none) none
def TLcC (I : M (List D × (S → Prop))) (G : GD) (B : M Bool) (T : M Rs) (vs : List Nat) : M Rs := bnd I fun p s => if fits p.1.length = true then (match lcC G B T vs p.2 p.1 [] { s with env := wipeE vs s.env } with
  | some (.ok es, s2) => some (.ok (.fr (.list es)), { s2 with env := restE vs s.env s2.env })
  | _ => none) else none
/-- d is the list ds now -/
def chkD (d : D) (ds : List D) : S → Prop := fun s => (peek s (.v d)).bind itemsL = some ds
def listC (d : D) : M (List D × (S → Prop)) := fun s => match (peek s (.v d)).bind itemsL with
  | some ds => some (.ok (ds, chkD d ds), s)
  | none => none
def ILstC (T : M Rs) : M (List D × (S → Prop)) := bnd T fun r => bnd (stab r) fun d => listC d
def enC : List D → M (List D × (S → Prop))
  | [d] => bnd (listC d) fun p => ret (enumD p.1, p.2)
  | _ => fun _ => none
def IEnumC (T : M (List D)) : M (List D × (S → Prop)) := bnd T enC
theorem ifC_some {β : Type} {p : Prop} {a : Option β} {b : β} (h : @ite _ p (Classical.propDecidable _) a none = some b) : p := by
  by_cases hp : p
  · exact hp
  · rw [if_neg hp] at h; cases h
section
variable (c : Cz)
structure GoesC (w : Wd) (J : It) (ds : List D) (chk : S → Prop) : Prop where
  go : ∀ w2 σ s i, Le w w2 → R c w2 σ s → chk s → i < ds.length → J.go i w2.H
  stop : ∀ w2 σ s, Le w w2 → R c w2 σ s → chk s → J.stop ds.length w2.H
  yld : ∀ w2 σ s i d x H', Le w w2 → R c w2 σ s → chk s → ds[i]? = some d → J.yld i w2.H x H' → ∃ w3, w3.H = H' ∧ Le w2 w3 ∧ (∀ σ s, R c w2 σ s → R c w3 σ s) ∧ Tr c w3.ρ w3.F x d
def PostIC (w : Wd) (σ : L2.St) (s' : S) (Q : It → Hp → Prop) (E : XS) : Rz (List D × (S → Prop)) → Prop
  | .ok p => ∀ w' J, Le w w' → R c w' σ s' → GoesC c w' J p.1 p.2 → Q J w'.H
  | .ex x => ∀ w' d, Le w w' → R c w' σ s' → Xa c w' d x → E σ (.ref (c.cad x.c)) d w'.H
def SimIC (E : XS) (t : TI) (T : M (List D × (S → Prop))) : Prop := ∀ w σ s out s' Q, R c w σ s → T s = some (out, s') → PostIC c w σ s' Q E out → t σ w.H Q
end
section
variable {c : Cz} {E : XS} {w w0 w1 w2 : Wd} {σ : L2.St} {s s' s2 : S}
theorem list_now {v : V} {d : D} {ds : List D} (R1 : R c w σ s) (t : Tr c w.ρ w.F v d) (h : chkD d ds s) : ∃ a vs, v = .ref a ∧ SqL c.K w.H a vs ∧ TrAll c w.ρ w.F vs ds := by
  unfold chkD at h
  obtain ⟨x, e1, e2⟩ := Option.bind_eq_some_iff.mp h
  have pk := peekv_pk R1 t e1
  cases x with
  | list xs => cases e2; obtain ⟨a, vs, rfl, h1, h2⟩ := pk.list R1.ok; exact ⟨a, vs, rfl, .inl (.inl h1), h2⟩
  | scr xs => cases e2; exact pk.scr R1.ok
  | _ => cases e2
theorem goesC_list {a : Addr} {d : D} {ds : List D} (t : Tr c w.ρ w.F (.ref a) d) : GoesC c w (Itl c.K a) ds (chkD d ds) where
  go := fun w2 σ s i l R2 ck hi => by
    obtain ⟨_, vs, e, h1, h2⟩ := list_now R2 (t.mono l.pr l.fz) ck
    cases e
    have hl := trall_len h2
    exact ⟨vs, vs[i], h1, by simp [show i < vs.length by omega]⟩
  stop := fun w2 σ s l R2 ck => by
    obtain ⟨_, vs, e, h1, h2⟩ := list_now R2 (t.mono l.pr l.fz) ck
    cases e
    exact ⟨vs, h1, by rw [trall_len h2]; exact Nat.le_refl _⟩
  yld := fun w2 σ s i d x H' l R2 ck hd y => by
    obtain ⟨rfl, y⟩ := y
    obtain ⟨_, vs, e, h1, h2⟩ := list_now R2 (t.mono l.pr l.fz) ck
    cases e
    exact ⟨w2, rfl, Le.refl, fun _ _ h => h, trall_get h2 (y vs h1) hd⟩
theorem sim_ILstC {t : TE} {T : M Rs} (ht : Sim c E t T) : SimIC c E (iList c.K t) (ILstC T) := by
  intro w σ s out s' Q R1 e post
  rcases bnd_some e with ⟨r, s1, e1, e⟩ | ⟨x, e1, rfl⟩
  · refine ht w σ s _ s1 _ R1 e1 fun w1 v l1 R2 rv => ?_
    rcases bnd_some e with ⟨d, s2, e2, e⟩ | ⟨x, e2, rfl⟩
    · obtain ⟨w2, l2, eh, R3, tr⟩ := stab_ok R2 l1 rv e2
      unfold listC at e
      cases hp : (peek s2 (.v d)).bind itemsL with
      | none => simp only [hp] at e; cases e
      | some ds =>
        simp only [hp] at e
        cases e
        obtain ⟨a, vs, rfl, hs, ta⟩ := list_now R3 tr hp
        rw [← eh]
        exact ⟨a, rfl, ⟨vs, hs⟩, post w2 _ l2 R3 (goesC_list tr)⟩
    · exact (stab_not_ex e2).elim
  · exact ht w σ s _ _ _ R1 e1 fun w1 d l1 R2 xa => post w1 d l1 R2 xa
theorem sim_LcC {i : TI} {I : M (List D × (S → Prop))} {ix vs : List Nat} {g : TG} {G : GD} {b : TT} {B : M Bool} {t : TE} {T : M Rs} (hix : ix.all (vs.contains ·) = true) (hi : SimIC c E i I) (hg : SimG c ix g G) (hb : SimT c E0s b B) (ht : Sim c E0s t T) : Sim c E (tLc i g b t vs) (TLcC I G B T vs) := by
  have hix : ∀ i ∈ ix, i ∈ vs := fun i hi => by simpa using List.all_eq_true.mp hix i hi
  intro w σ s out s' Q R1 e post
  rcases bnd_some e with ⟨⟨ds, chk⟩, s1, e1, e⟩ | ⟨x, e1, rfl⟩
  · refine hi w σ s _ s1 _ R1 e1 fun w1 J l1 R2 gs => ?_
    by_cases hf : fits ds.length = true
    · rw [if_pos hf] at e
      split at e
      · rename_i es s2 e2
        cases e
        intro Dd hD
        refine ⟨fun k m H => m = ds.length - k ∧ k ≤ ds.length ∧ ∃ w3 s3 acc, Le w1 w3 ∧ R c w3 (wipe σ vs) s3 ∧ w3.H = H ∧ Rv c w1 w3 σ (.ref Dd) (.fr (.list acc)) ∧ acc.length ≤ k ∧ lcC G B T vs chk (ds.drop k) acc s3 = some (.ok es, s2), ?_, ?_⟩
        · exact ⟨ds.length, by simp, Nat.zero_le _, w1.new Dd (.lst []), _, [], Le.new hD, R2.wipe.new hD, rfl, Rv.new R2 hD (.list .nil), Nat.le_refl _, by simpa using e2⟩
        rintro k m H ⟨rfl, hk, w3, s3, acc, l3, R3, rfl, rv, hacc, e3⟩
        have ck : chk s3 := by
          cases hd : ds.drop k with
          | nil => rw [hd] at e3; exact ifC_some e3
          | cons x xs => rw [hd] at e3; exact ifC_some e3
        by_cases hlt : k < ds.length
        · refine .inr ⟨gs.go w3 _ _ k l3 R3 ck hlt, fun H' => k + 1 ≤ ds.length ∧ ∃ w3 s3 acc, Le w1 w3 ∧ R c w3 (wipe σ vs) s3 ∧ w3.H = H' ∧ Rv c w1 w3 σ (.ref Dd) (.fr (.list acc)) ∧ acc.length ≤ k + 1 ∧ lcC G B T vs chk (ds.drop (k + 1)) acc s3 = some (.ok es, s2), fun H' ⟨h1, h2⟩ => ⟨ds.length - (k + 1), by omega, rfl, h1, h2⟩, fun x H' y => ?_⟩
          obtain ⟨w4, rfl, l4, r4, tx⟩ := gs.yld w3 _ _ k ds[k] x H' l3 R3 ck (List.getElem?_eq_getElem hlt) y
          have R4 := r4 _ _ R3
          have rv4 := rv.mono l4
          have l14 := l3.trans l4
          rw [List.drop_eq_getElem_cons hlt] at e3
          unfold lcC at e3
          rw [if_pos ck] at e3
          split at e3
          · cases e3
          · rename_i s5 e5
            refine hg w4 _ s3 x _ s5 _ R4 tx e5 fun σ5 R5 hw => ?_
            have hw' := (hw vs hix).trans wipe_wipe
            refine ⟨hw', ?_⟩
            split at e3
            · rename_i s6 e6
              refine hb w4 σ5 s5 _ s6 _ R5 e6 fun w6 l6 R6 => ?_
              rw [if_pos rfl]
              split at e3
              · rename_i u s7 e7
                rcases bnd_some e7 with ⟨r, s8, e8, e9⟩ | ⟨x', e8, h⟩
                · refine ht w6 σ5 s6 _ s8 _ R6 e8 fun w8 v l8 R8 rv8 => ?_
                  obtain ⟨w9, l9, eh, R9, tr⟩ := stab_ok R8 l8 rv8 e9
                  obtain ⟨p, o, ep, n1, q, ce, f, no⟩ := (rv4.mono l6).mono l9
                  cases ep
                  cases ce with
                  | list ta =>
                    rename_i ws
                    have hl := trall_len ta
                    refine ⟨ws, by rw [← eh]; exact q, ?_, hlt, w9.new Dd (.lst (ws ++ [v])), _, acc ++ [u], (((l14.trans l6).trans l9).poke hD), ?_, by rw [← eh]; rfl, ?_, by simp; omega, e3⟩
                    · have := fits_le hf; omega
                    · have := (R9.poke (o := .lst (ws ++ [v])) f no).wipe (vs := vs)
                      rw [hw'] at this
                      exact this
                    · exact ⟨Dd, _, rfl, hD, upd_same, .list (trall_snoc ta tr), f, no⟩
                · cases h
              · cases e3
            · rename_i s6 e6
              refine hb w4 σ5 s5 _ s6 _ R5 e6 fun w6 l6 R6 => ?_
              rw [if_neg (by decide)]
              refine ⟨hlt, w6, _, acc, l14.trans l6, ?_, rfl, rv4.mono l6, by omega, e3⟩
              have := R6.wipe (vs := vs)
              rw [hw'] at this
              exact this
            · cases e3
        · obtain rfl : k = ds.length := by omega
          rw [List.drop_length] at e3
          unfold lcC at e3
          rw [if_pos ck] at e3
          cases e3
          exact .inl ⟨gs.stop w3 _ _ l3 R3 ck, post w3 _ (l1.trans l3) (R2.rest l3 R3) (rv.base l1)⟩
      · cases e
    · rw [if_neg hf] at e; cases e
  · exact hi w σ s _ _ _ R1 e1 fun w1 d l1 R2 xa => post w1 d l1 R2 xa
end
/-! repr of a list whose entries may stand in the store -/
def toP1 (s : S) : D → Option PyData
  | .loc n => (s.μ[n]?).bind toP
  | d => toP d
def toPs1 (s : S) : List D → Option (List PyData)
  | [] => some []
  | d :: ds => (toP1 s d).bind fun p => (toPs1 s ds).bind fun ps => some (p :: ps)
def reprS (s : S) : D → Option Str
  | .list ds => (toPs1 s ds).bind fun ps => if reprOk (.list ps) = true then some (PyData.list ps).shown else none
  | _ => none
def reprM (d : D) : M Rs := fun s => opt ((reprS s d).map fun z => Rs.v (.str z)) s
def TReprM (a : M Rs) : M Rs := bnd a fun x => bnd (pk x) reprM
section
variable {c : Cz} {E : XS} {w : Wd} {σ : L2.St} {s : S}
theorem dp_one {v : V} {d : D} {p : PyData} (R1 : R c w σ s) (t : Tr c w.ρ w.F v d) (e : toP1 s d = some p) : Dp c.K w.H v p := by
  have other : toP d = some p → Dp c.K w.H v p := fun h => (Pk.sc (c := c) t).dp R1.ok h
  cases d with
  | loc n =>
    obtain ⟨x, e1, e2⟩ := Option.bind_eq_some_iff.mp (show (s.μ[n]?).bind toP = some p from e)
    exact (peekv_pk (d0 := x) R1 t e1).dp R1.ok e2
  | _ => exact other e
theorem dp_all (R1 : R c w σ s) : ∀ {vs : List V} {ds : List D} {ps : List PyData}, TrAll c w.ρ w.F vs ds → toPs1 s ds = some ps → DpAll c.K w.H vs ps
  | _, _, _, .nil, h => by cases h; exact .nil
  | _, _, _, .cons t r, h => by
    unfold toPs1 at h
    obtain ⟨p, e1, h⟩ := Option.bind_eq_some_iff.mp h
    obtain ⟨ps, e2, h⟩ := Option.bind_eq_some_iff.mp h
    cases h
    exact .cons (dp_one R1 t e1) (dp_all R1 r e2)
theorem sim_ReprM {ta : TE} {Ta : M Rs} (ha : Sim c E ta Ta) : Sim c E (tCB (cRepr c.K) (tCons ta tNil)) (TReprM Ta) := by
  intro w σ s out s' Q R1 e post
  rcases bnd_some e with ⟨x, s1, e1, e⟩ | ⟨x, e1, rfl⟩
  · refine ha w σ s _ s1 _ R1 e1 fun w1 v l1 R2 rv => ?_
    obtain ⟨d, p1, e⟩ := bnd_pk e
    obtain ⟨r, e2, rfl, rfl⟩ := opt_some e
    obtain ⟨z, e3, rfl⟩ := Option.map_eq_some_iff.mp e2
    have pk := peek_pk R2 rv p1
    cases d with
    | list ds =>
      obtain ⟨ps, e4, e5⟩ := Option.bind_eq_some_iff.mp (show (toPs1 s' ds).bind _ = some z from e3)
      split at e5
      · rename_i ok
        cases e5
        obtain ⟨a, vs, rfl, h1, ta⟩ := pk.list R2.ok
        obtain ⟨k1, k2, k3, k4⟩ := reprOk_c ok
        exact ⟨.list ps, .lst (.inl (.inl h1)) (dp_all R2 ta e4), k1, k2, k3, k4, post w1 _ l1 R2 (.str _)⟩
      · cases e5
    | _ => cases e3
  · exact ha w σ s _ s' _ R1 e1 fun w1 d l1 R2 xa => post w1 d l1 R2 xa
end
end
end Z
/-! sorted of data: any items that are alike -/
namespace Z
open PySem PySem.Spec PyProof.Rows L2 U ClX
end Z
/-! properties that are computed by a getter of one's own; x is True -/
namespace Z
open PySem PySem.Spec PyProof.Rows L2 U ClX
/-- without exceptions -/
def noex {β : Type} (m : M β) : M β := fun s => match m s with
  | some (.ok r, s1) => some (.ok r, s1)
  | _ => none
def getM (tab : Nat → Option FT) (d d0 : D) : M Rs := match d0 with
  | .obj c _ => (match tab c with
    | some F => noex (call F [d])
    | none => fun _ => none)
  | _ => fun _ => none
def TGet (tab : Nat → Option FT) (o : M Rs) : M Rs := bnd o fun r => bnd (stab r) fun d => bnd (pk (.v d)) fun d0 => getM tab d d0
/-! ### x is True -/
def vIsB : D → D → Option Rs
  | .bl a, .bl b => some (.v (.bl (decide (a = b))))
  | _, _ => none
end Z
/-! xs.count(y), flat items -/
namespace Z
open PySem PySem.Spec PyProof.Rows L2 U ClX
def countD (d : D) (es : List D) : Option Rs := match d, es with
  | .list ds, [e] => if (flatD e && ds.all flatD) = true then some (.v (.int (ds.countP fun z => eqF z e : Nat))) else none
  | .scr ds, [e] => if (flatD e && ds.all flatD) = true then some (.v (.int (ds.countP fun z => eqF z e : Nat))) else none
  | _, _ => none
def TCount (o : M Rs) (t : M (List Rs)) : M Rs := bnd o fun r => bnd (pk r) fun d0 => if (itemsL d0).isSome = true then bnd t fun rs => bnd (pk r) fun d => bnd (pks rs) fun es => opt (countD d es) else fun _ => none
end Z
/-! == of two instances of one class by their own == -/
namespace Z
open PySem PySem.Spec PyProof.Rows L2 U ClX
def eq1 (tab : Nat → Option FT) (d e d0 e0 : D) : M Rs := match d0, e0 with
  | .obj k _, .obj k' _ => if k = k' then (match tab k with
    | some F => (fun s => match call F [d, e] s with
      | some (.ok (.v (.bl b)), s1) => some (.ok (.v (.bl b)), s1)
      | _ => none)
    | none => fun _ => none) else fun _ => none
  | _, _ => fun _ => none
def TEq1 (tab : Nat → Option FT) (a b : M Rs) : M Rs := bnd a fun x => bnd (stab x) fun d => bnd b fun y => bnd (stab y) fun e => bnd (pk (.v d)) fun d0 => bnd (pk (.v e)) fun e0 => eq1 tab d e d0 e0
end Z
/-! defs with *rest -/
namespace U
open PySem PySem.Spec PyProof.Rows L2 StX
/-- a def f(a, .., *rest), n0 names ahead of the star: the rest comes as a tuple -/
structure FnS (P : Program) (w : World) (K : PySem.W.Frag) (mg : Str → Option Value) (base : Heap) (k : Nat) (f : Addr) (n0 : Nat) (sp : Sp) : Prop where
  run : ∀ (B : Around) (outs : List Env) (t : Shared) (H : Hp) (us : List Value) (vs : List V) (Q : VK) (E : XK), Room k B → Quiet k B → Env0 P w K mg base B outs t H → Vals vs us → n0 ≤ vs.length → vs.length ≤ sizeLine →
    (∀ p, H p = none → sp (vs.take n0 ++ [V.ref p]) (upd H p (.tup (vs.drop n0))) Q E) → codeAny (model P w) B (.call (.ref f) ⟨us, []⟩) (CR (L2.CX P w) outs P w H t Q E) t
theorem fnS_body {P : Program} {w : World} {K : PySem.W.Frag} {mg : Str → Option Value} {base : Heap} {k : Nat} {f : Addr} {nm ql pv : Str} {pr : Arguments} {bd : List Stmt} {sc : Scope} {dV kV doc pm cdv ct oc : Value} {an od : Option Addr} {osl : Array (Option Value)} {N ps : List Str} {sp : Sp}
    (lk : K.lookup f = some ⟨oc, od, .func (PySem.W.fnOf nm ql pr bd sc dV kV doc pm an cdv ct), osl⟩) (cd : PySem.W.codeIn K cdv ql = true) (S : FnScope N (ps ++ [pv]) sc) (ln : ∀ vs H Q E, sp vs H Q E → vs.length = (ps ++ [pv]).length)
    (hb : ∀ us rest : List Value, us.length = ps.length → bindArgs (PySem.W.fnOf nm ql pr bd sc dV kV doc pm an cdv ct) ⟨us ++ rest, []⟩ = (newTuple rest >>= fun t => pure (ps.zip us ++ [(pv, t)])))
    (body : ∀ (B : Around) (outs : List Env) (t : Shared) (H : Hp) (vs : List V) (Q : VK) (E : XK), Room k (B.deeper (envOfC ql sc t.heap.objs.size f cdv)) → Quiet k (B.deeper (envOfC ql sc t.heap.objs.size f cdv)) → sp vs H Q E →
      ∃ T, PSs (cxOf (L2.CX P w) P w K mg base N ql sc f cdv B outs t H E) bd T ∧ T { nx := fun _ G => Q .non G, rt := Q } (start N vs) H) :
    FnS P w K mg base (k + 1) f ps.length sp where
  run := fun B outs t H us vs Q E rm qt e0 rv hl hz want => by
    have kin : K.In t.heap := e0.mod.kin.keeps fun b o z => (e0.bs b o z).1
    have hs : us.length = vs.length := rv.length.symm
    obtain ⟨u1, u2, eu, r1, r2⟩ := vals_split (ws := vs.take ps.length) (rest := vs.drop ps.length) (by rw [List.take_append_drop]; exact rv)
    subst eu
    have hl1 : u1.length = ps.length := by rw [← r1.length, List.length_take]; omega
    have hl2 : u2.length ≤ sizeLine := by rw [← r2.length, List.length_drop]; omega
    have hn : H t.heap.objs.size = Option.none := e0.hok.fresh (Nat.le_refl _)
    have new : ObjOk P w (upd H t.heap.objs.size (.tup (vs.drop ps.length))) (t.heap.push ({ cls := .type "tuple", data := .seq u2.toArray } : Obj)) t.heap.objs.size (.tup (vs.drop ps.length)) := ⟨by rw [List.length_drop]; omega, u2, r2, ⟨_, Heap.get?_push_size _ rfl, rfl, _, rfl⟩⟩
    have un := un_laid (fs := frs outs) (s := t) (o := ({ cls := .type "tuple", data := .seq u2.toArray } : Obj)) (u := .tup (vs.drop ps.length)) hn
    have e2 := env0_laid e0 new
    have rv2 : Vals (vs.take ps.length ++ [V.ref t.heap.objs.size]) (u1 ++ [Value.ref t.heap.objs.size]) := r1.append (.cons rfl .nil)
    have wt := want _ hn
    have lim : t.heap.NoLimit := e0.mod.nolimit.keeps fun b o z => (e0.bs b o z).1
    have kp : ∀ b x, t.heap.get? b = some x → (t.heap.push ({ cls := .type "tuple", data := .seq u2.toArray } : Obj)).get? b = some x := fun b x e => Heap.get?_push_of_some _ e
    have kinds : ∀ z ∈ (ps ++ [pv]).zip (u1 ++ [Value.ref t.heap.objs.size]), sc.names.lookup z.1 = some .local ∨ (sc.names.lookup z.1 = some .cell ∧ ((cellsFrom ((t.heap.push ({ cls := .type "tuple", data := .seq u2.toArray } : Obj)).objs.size + 1) sc.names []).lookup z.1).isSome = true) := fun z hz =>
      (S.par z.1 (List.of_mem_zip (a := z.1) (b := z.2) hz).1).imp id fun c => ⟨c, PySem.W.cellsFrom_some _ _ _ (.inl c)⟩
    refine codeAny_call_function rm.depth (kin _ _ lk) rfl S.co S.gen rfl (PySem.W.codeRec_of kin cd) ?_
    rw [hb u1 u2 hl1]
    refine wpAny_bind (wpAny_newTuple (wpAny_pure ?_) hl2)
    rw [show ps.zip u1 ++ [(pv, Value.ref t.heap.objs.size)] = (ps ++ [pv]).zip (u1 ++ [Value.ref t.heap.objs.size]) from by rw [List.zip_append hl1.symm]; rfl]
    refine wpAny_newFunctionEnv_cells (s := { t with heap := t.heap.push ({ cls := .type "tuple", data := .seq u2.toArray } : Obj) }) S.kind kinds fun env ee t1 ic => ?_
    cases ee
    refine ⟨(lim.keeps kp).keeps ic.toInCall.keep, codeAny_func ?_⟩
    obtain ⟨T, d, hT⟩ := body B outs { t with heap := t.heap.push ({ cls := .type "tuple", data := .seq u2.toArray } : Obj) } _ _ Q E (rm.deeper _) (fun z => qt (Nat.le_succ_of_le z)) wt
    have hx : ∀ e s', L2.CX P w outs (upd H t.heap.objs.size (.tup (vs.drop ps.length))) { t with heap := t.heap.push ({ cls := .type "tuple", data := .seq u2.toArray } : Obj) } E e s' → L2.CX P w outs H t E e s' := fun e s' => cxUp outs t H _ _ E e s' un kp rfl
    refine wpAny_mono (d.run [] t1 (start N _) _ _ (inv_start S rm.hd e2 (ln _ _ _ _ wt) rv2 ic) hT) (fun fl t2 z => ?_) fun e s' hs => wpAny_mono hs (fun _ s'' z => hx e s'' z) fun e' s'' z => hx e' s'' z
    match fl, z with
    | .ret u, ⟨v, _, G, J, ru, q⟩ => exact ⟨v, G, J.os, J.bare, un.trans J.base, J.hok, ru, q⟩
    | .next, ⟨_, G, J, q⟩ => exact ⟨V.non, G, J.os, J.bare, un.trans J.base, J.hok, rfl, q⟩
    | .brk, ⟨_, _, _, q⟩ => exact q.elim
    | .cont, ⟨_, _, _, q⟩ => exact q.elim
/-- .. as the module has it -/
structure Fs (P : Program) (w : World) (K : PySem.W.Frag) (mg : Str → Option Value) (base : Heap) (k : Nat) (x : Str) (n0 : Nat) (sp : Sp) : Prop where
  ex : ∃ f : Addr, FnS P w K mg base k f n0 sp ∧ mg x = some (.ref f) ∧ PySem.W.keepIn K (.ref f) = true
/-- the def x of the module stands as st, with a star -/
structure Dfs (K : PySem.W.Frag) (mg : Str → Option Value) (x : Str) (st : Stmt) (ps : List Str) (pv : Str) : Prop where
  ex : ∃ (f : Addr) (oc : Value) (od : Option Addr) (kV doc pm : Value) (an : Option Addr) (cdv ct : Value) (osl : Array (Option Value)), K.lookup f = some ⟨oc, od, .func (PySem.W.fnOf x x (defArgs st) (defBody st) (defScope st) .none kV doc pm an cdv ct), osl⟩ ∧ PySem.W.codeIn K cdv x = true ∧ mg x = some (.ref f) ∧ PySem.W.keepIn K (.ref f) = true ∧
    ∀ us rest : List Value, us.length = ps.length → bindArgs (PySem.W.fnOf x x (defArgs st) (defBody st) (defScope st) .none kV doc pm an cdv ct) ⟨us ++ rest, []⟩ = (newTuple rest >>= fun t => pure (ps.zip us ++ [(pv, t)]))
theorem Dfs.fn {P : Program} {w : World} {K : PySem.W.Frag} {mg : Str → Option Value} {base : Heap} {x pv : Str} {st : Stmt} {N ps : List Str} {lv : Nat} {t : XK → TS} {sp : Sp} (d : Dfs K mg x st ps pv) (S : FnScope N (ps ++ [pv]) (defScope st)) (D : Der P w K mg base N x st lv t) (p : Pur N (ps ++ [pv]) t sp) : Fs P w K mg base (lv + 1) x ps.length sp := by
  obtain ⟨f, oc, od, kV, doc, pm, an, cdv, ct, osl, lk, cd, hm, kp, hb⟩ := d.ex
  exact ⟨f, fnS_body lk cd S (fun vs H Q E h => (p vs H Q E h).1) hb fun Ar outer s H vs Q E hr qt h => ⟨t E, D hr qt, (p vs H Q E h).2⟩, hm, kp⟩
end U
namespace Z
open PySem PySem.Spec PyProof.Rows L2 U ClX
def TFnS (n0 : Nat) (F : FT) (T : M (List D)) : M Rs := bnd T fun ds => if (decide (n0 ≤ ds.length) && fits ds.length) = true then call F (ds.take n0 ++ [.tup (ds.drop n0)]) else fun _ => none
/-! ### a comprehension with two fors -/
/-! ### a, b = a list -/
def GLst (n : Nat) (h : GDs) : GD := fun d s => match d with
  | .list ds => if ds.length = n then h ds s else none
  | _ => none
end Z
/-! min of alike data; == and != of lists whose entries stand in the store; recursion by levels -/
namespace Z
open PySem PySem.Spec PyProof.Rows L2 U ClX
noncomputable section
section
variable {c : Cz} {E : XS} {w : Wd} {σ : L2.St} {s : S}
/-! ### == of lists whose entries may stand in the store -/
def eqM (s : S) (d e : D) : Option Bool := match d, e with
  | .list xs, .list ys => if xs.length = ys.length then (match toPs1 s xs, toPs1 s ys with
    | some ps, some qs => if (SeqAt.shaped (.list ps) && SeqAt.shaped (.list qs)) = true then some (PyData.eqv (.list ps) (.list qs)) else none
    | _, _ => none) else some false
  | _, _ => none
def TEqM (neg : Bool) (a b : M Rs) : M Rs := bnd a fun x => bnd b fun y => bnd (pk x) fun d => bnd (pk y) fun e => fun s => opt ((eqM s d e).map fun r => Rs.v (.bl (if neg = true then !r else r))) s
end
/-- a def of which nothing is promised -/
theorem _root_.U.Df.nil {P : Program} {wl : World} {mg : Str → Option Value} {base : Heap} {c : Cz} {x : Str} {st : Stmt} {ps : List Str} {k : Nat} (d : Df c.K mg x st ps) : Fn P wl c.K mg base k x (spF c fun _ _ => none) := by
  obtain ⟨f, fd, F, hm, b⟩ := d.ex
  have no : ∀ vs H Q E, ¬ spF c (fun _ _ => none) vs H Q E := fun vs H Q E h => by
    obtain ⟨_, _, _, _, _, _, _, _, _, h, _⟩ := h
    cases h
  exact ⟨f, fd, ps, [], [], spF c fun _ _ => none, ⟨fun vs H Q E h => (no _ _ _ _ h).elim, fun _ _ _ _ _ _ _ _ _ _ _ _ _ _ h => (no _ _ _ _ h).elim⟩, hm, F.kp, b, .nil, fun vs H Q E h => (no _ _ _ _ h).elim⟩
end
end Z
/-! the head by one kernel run: what a law's end needs of the top, as tests of the heap's part that the module's names reach -/
namespace Hk
open PySem PySem.Spec PyProof.Rows L2 U ClX Z He
theorem Fd.get {K : PySem.W.Frag} {d : Fd} (e : fnT K (d.at_ K) = d.val) (c : d.ok K = true) :
    ∃ (oc : Value) (od : Option Addr) (osl : Array (Option Value)) (cl : List (Str × Addr)) (kV doc pm : Value) (an : Option Addr) (cdv ct : Value),
      K.lookup (d.at_ K) = some ⟨oc, od, .func (PySem.W.fnX d.name d.qual (defArgs d.st) (defBody d.st) (defScope d.st) cl .none kV doc pm an cdv ct), osl⟩ ∧ cl.map (·.1) = d.clo ∧ PySem.W.codeIn K cdv d.qual = true ∧ PySem.W.keepIn K (.ref (d.at_ K)) = true := by
  obtain ⟨kp, c2⟩ := ba c
  unfold fnT at e
  cases q : K.lookup (d.at_ K) with
  | none => rw [q] at c2; cases c2
  | some o =>
    obtain ⟨oc, od, dt, osl⟩ := o
    rw [q] at c2 e
    cases dt with
    | func fd =>
      obtain ⟨n1, n2, n3, n4, n5, n6, n7, n8, n9, n10, n11, n12, n13, n14, n15⟩ := fd
      have e2 : (some (n1, n2, n3, n4, n5, n6, n7.map (·.1), n15) : FnT) = some (d.name, d.qual, defArgs d.st, .stmts (defBody d.st), defScope d.st, mainGlobals, d.clo, builtinsNs) := e
      simp only [Option.some.injEq, Prod.mk.injEq] at e2
      obtain ⟨h1, h2, h3, h4, h5, h6, h7, h8⟩ := e2
      subst h1 h2 h3 h4 h5 h6 h8
      obtain ⟨k1, k2⟩ := ba (show (PySem.W.codeIn K n13 d.qual && noneB n8) = true from c2)
      cases n8 with
      | none => exact ⟨oc, od, osl, n7, n9, n10, n11, n12, n13, n14, rfl, h7, k1, kp⟩
      | _ => cases k2
    | _ => cases c2
theorem Fd.fun_ {K : PySem.W.Frag} {d : Fd} (c : fnT K (d.at_ K) = d.val ∧ d.ok K = true) (h : d.clo = [] := by rfl) : ∃ fd, Fun K d.name d.qual d.st (d.at_ K) fd := by
  obtain ⟨oc, od, osl, cl, kV, doc, pm, an, cdv, ct, lk, hc, cd, kp⟩ := Fd.get c.1 c.2
  rw [h] at hc
  cases cl with
  | nil => exact ⟨_, fun_mk lk cd kp⟩
  | cons a b => cases hc
section
variable {K : PySem.W.Frag} {x y a m f : Str} {b : Bool}
theorem ty_ok (c : tyB x K = true) : InsTy K (ga K x) := by
  obtain ⟨h1, c⟩ := ba c
  obtain ⟨h2, c⟩ := ba c
  obtain ⟨h3, h4⟩ := ba c
  exact ⟨eqO_ok h1, eqO_ok h2, of_decide_eq_true h3, of_decide_eq_true h4⟩
theorem cv_ok {v : Dv} (c : cvB x a v K = true) : ∃ mc u, CRead K (ga K x) mc ∧ CVal K (ga K x) mc a (v.v K) u := by
  obtain ⟨h1, c⟩ := ba c
  obtain ⟨h2, h3⟩ := ba c
  cases e : PySem.W.findCls K (.ref (ga K x)) (.type "type") a with
  | none => rw [e] at h3; cases h3
  | some r =>
    rw [e] at h3
    cases r with
    | val u => exact ⟨.type "type", u, ⟨h1, eqO_ok h2⟩, ⟨e, relB_ok h3⟩⟩
    | _ => cases h3
theorem pr_ok (c : prB x a K = true) : PropOf K (ga K x) a (ma K (ga K x) a) (gp x a K) := by
  obtain ⟨h1, c⟩ := ba c
  obtain ⟨h2, c⟩ := ba c
  obtain ⟨h3, h4⟩ := ba c
  refine ⟨eqO_ok h1, eqO_ok h2, of_decide_eq_true h3, ?_⟩
  unfold gp
  split at h4
  · rename_i g r e
    rw [e]
    exact ⟨r, rfl⟩
  · cases h4
theorem ki_ok (c : kiB x y b K = true) : PySem.W.kitOne K (.ref (ga K x)) (.ref (ga K y)) = some b := of_decide_eq_true c
theorem so_ok {t : String} (c : soB x t b K = true) : PySem.W.kitOne K (.ref (ga K x)) (.type t) = some b := of_decide_eq_true c
theorem ex_ok (c : exB x K = true) : ExcC K (ga K x) := by
  obtain ⟨h1, c⟩ := ba c
  obtain ⟨h2, c⟩ := ba c
  obtain ⟨h3, c⟩ := ba c
  obtain ⟨h4, c⟩ := ba c
  obtain ⟨h5, h6, h7, h8⟩ := ty_ok c
  exact ⟨eqO_ok h1, eqO_ok h2, of_decide_eq_true h3, h4, h5, h6, h7, h8⟩
theorem xf_ok (c : xfB' x f K = true) : XfC K (ga K x) ∧ PySem.W.findIn K (.ref (ga K x)) f = some none := by
  obtain ⟨h1, h2⟩ := ba c
  exact ⟨xfB_ok h1, eqO_ok h2⟩
theorem exn_ok {mg : Str → Option Value} (c : (Fa.exc x).ok K = true) (g : mg x = some (.ref (ga K x))) : ExcN K mg x (ga K x) := by
  obtain ⟨h1, h2, h3, h4⟩ := exc_ok c
  exact ⟨h1, g, h2, h3, h4⟩
theorem ox_ok (c : oxB x K = true) : OexC K (ga K x) := by
  obtain ⟨h1, c⟩ := ba c
  obtain ⟨h2, c⟩ := ba c
  obtain ⟨h3, c⟩ := ba c
  obtain ⟨h4, h5⟩ := ba c
  refine ⟨?_, eqO_ok h2, of_decide_eq_true h3, of_decide_eq_true h4, h5⟩
  cases q : K.lookup (ga K x) with
  | none => rw [q] at h1; cases h1
  | some o =>
    obtain ⟨oc, od, dt, sl⟩ := o
    rw [q] at h1
    cases oc with
    | type t =>
      cases dt with
      | cls cd =>
        obtain ⟨nm, bs, mro, ns, qn, hd, sn, sub, ab, col, del⟩ := cd
        obtain ⟨g1, h1⟩ := ba h1
        obtain ⟨g2, h1⟩ := ba h1
        obtain ⟨g3, h1⟩ := ba h1
        obtain ⟨g4, g5⟩ := ba h1
        have et := of_decide_eq_true g1
        subst et
        have g3 : hd = true := g3
        have g4 : (!del) = true := g4
        subst g3
        cases del with
        | true => cases g4
        | false =>
          have g2 : (match (generalizing := false) mro with
            | .ref C :: bm => decide (C = ga K x) && PySem.HandSPX.refsVE bm
            | _ => false) = true := g2
          cases mro with
          | nil => cases g2
          | cons v bm =>
            cases v with
            | ref C =>
              obtain ⟨u1, u2⟩ := ba (show (decide (C = ga K x) && PySem.HandSPX.refsVE bm) = true from g2)
              have e1 := of_decide_eq_true u1
              have g5 : (match (generalizing := false) sl.toList with
                | [_, _, _, _, some (.builtin n), _] => decide (n = "ValueError.__new__")
                | _ => false) = true := g5
              split at g5
              · rename_i k0 k1 k2 k3 n k5 hs
                have en := of_decide_eq_true g5
                have es : sl = #[k0, k1, k2, k3, some (.builtin n), k5] := by
                  obtain ⟨l⟩ := sl
                  simp only at hs
                  rw [hs]
                rw [es, en, e1]
                exact ⟨nm, qn, ns, bs, bm, sn, sub, ab, col, od, k0, k1, k2, k3, k5, rfl, u2⟩
              · cases g5
            | _ => cases g2
      | _ => cases h1
    | _ => cases dt <;> cases h1
theorem oi_ok (c : oiB x y K = true) : PySem.W.findIn K (.ref (ga K x)) "__init__" = some (some (.ref (ma K (ga K x) "__init__"))) ∧ PySem.W.typeIn K (.ref (ma K (ga K x) "__init__")) = some (.type "function") ∧ CRead K (ga K y) (.type "type") ∧ PySem.W.findCls K (.ref (ga K y)) (.type "type") "__init__" = some (.val (.builtin "ValueError.__init__")) := by
  obtain ⟨h1, c⟩ := ba c
  obtain ⟨h2, c⟩ := ba c
  obtain ⟨h3, c⟩ := ba c
  obtain ⟨h4, h5⟩ := ba c
  refine ⟨eqO_ok h1, of_decide_eq_true h2, ⟨h3, eqO_ok h4⟩, ?_⟩
  cases e : PySem.W.findCls K (.ref (ga K y)) (.type "type") "__init__" with
  | none => rw [e] at h5; cases h5
  | some r =>
    rw [e] at h5
    cases r with
    | val u =>
      cases u with
      | builtin n =>
        have en : n = "ValueError.__init__" := of_decide_eq_true h5
        rw [en]
      | _ => cases h5
    | _ => cases h5
end
theorem obsBG_eq {fn : List Fd} {ex : List (List Te)} {g : Addr → Option Obj} {s : Shared} (h : ∀ a, g a = s.heap.get? a) : obsBG fn ex g = (hookB fn ex).obs s := by
  have e : g = s.heap.get? := funext h
  rw [e] <;> rfl
section
variable {fn : List Fd} {ex : List (List Te)} {K : PySem.W.Frag}
theorem te (c : obsB fn ex K = valB fn) (i j : Nat) {l : List Te} {f : Te} (h : ex[i]? = some l := by rfl) (h2 : l[j]? = some f := by rfl) : f K = true := by
  have c1 := (ba (show ((ex.all fun l => l.all fun f => f K) && fn.all fun d => d.ok K) = true from congrArg (fun z : AlH => z.1) c)).1
  exact List.all_eq_true.mp (List.all_eq_true.mp c1 l (List.mem_of_getElem? h)) f (List.mem_of_getElem? h2)
theorem df (c : obsB fn ex K = valB fn) (i : Nat) {d : Fd} (h : fn[i]? = some d := by rfl) : fnT K (d.at_ K) = d.val ∧ d.ok K = true := by
  have c2 := (ba (show ((ex.all fun l => l.all fun f => f K) && fn.all fun d => d.ok K) = true from congrArg (fun z : AlH => z.1) c)).2
  have e : fn.map (fun d => fnT K (d.at_ K)) = fn.map Fd.val := congrArg (fun z : AlH => z.2) c
  have e2 : (fn.map fun d => fnT K (d.at_ K))[i]? = (fn.map Fd.val)[i]? := by rw [e]
  rw [List.getElem?_map, List.getElem?_map, h] at e2
  exact ⟨Option.some.inj e2, List.all_eq_true.mp c2 d (List.mem_of_getElem? h)⟩
end
abbrev Is (K : PySem.W.Frag) (d : Fd) : Prop := fnT K (d.at_ K) = d.val ∧ d.ok K = true
section
variable {K : PySem.W.Frag} {h : Heap} {mg : Str → Option Value} {x m q a n z : Str} {st : Stmt} {ps : List Str}
theorem gs_ok (X : K.In h) (G : h.Ns mainGlobals mg) (c : (Fa.str x z).ok K = true) : ∃ u, mg x = some u ∧ RelV (.str z) u := by
  obtain ⟨t, e⟩ := str_ok X G c
  exact ⟨_, e, t, rfl⟩
theorem gi_ok {i : Int} (X : K.In h) (G : h.Ns mainGlobals mg) (c : (Fa.int x i).ok K = true) : ∃ u, mg x = some u ∧ RelV (.int i) u := by
  obtain ⟨t, e⟩ := int_ok X G c
  exact ⟨_, e, t, rfl⟩
theorem df_ok (d : Is K (Dx x st)) (e : mg x = some (.ref (ga K x))) (b : ∀ {f fd}, Fun K x x st f fd → Binds K fd ps []) : Df K mg x st ps := by
  obtain ⟨fd, F⟩ := Fd.fun_ d
  exact ⟨⟨_, fd, F, e, b F⟩⟩
theorem dm_ok (d : Is K (Dy x m q st)) (cl : Cls K (ga K x)) (t : (Fa.meth x m).ok K = true) (b : ∀ {f fd}, Fun K m q st f fd → Binds K fd ps []) : Dm K (ga K x) m q st ps := by
  obtain ⟨fd, F⟩ := Fd.fun_ d
  exact ⟨cl, ⟨_, fd, F, meth_ok t, b F⟩⟩
theorem dk_ok (d : Is K (Dy x "__init__" q st)) (e : mg x = some (.ref (ga K x))) (t : (Fa.mkr x).ok K = true) (b : ∀ {f fd}, Fun K "__init__" q st f fd → Binds K fd ps []) : Dk K mg x (ga K x) q st ps := by
  obtain ⟨fd, F⟩ := Fd.fun_ d
  exact ⟨⟨_, fd, F, mkr_ok t, e, b F⟩⟩
theorem dg_ok (d : Is K (Dg x a n q st)) (t : prB x a K = true) (b : ∀ {f fd}, Fun K n q st f fd → Binds K fd ps []) : ∃ p g fd, PropOf K (ga K x) a p g ∧ Fun K n q st g fd ∧ Binds K fd ps [] := by
  obtain ⟨fd, F⟩ := Fd.fun_ d
  exact ⟨_, _, fd, pr_ok t, F, b F⟩
theorem xfn_ok {P : Program} {y f : Str} (d : Is K (Dy x "__init__" q st)) (o : OexC K (ga K x)) (e : mg x = some (.ref (ga K x))) (i : oiB x y K = true) (b : ∀ {f fd}, Fun K "__init__" q st f fd → Binds K fd ps [])
    (ok : ∀ {fd : FuncData} (w : World) (base : Heap), Fun K "__init__" q st (ma K (ga K x) "__init__") fd → CRead K (ga K y) (.type "type") → PySem.W.findCls K (.ref (ga K y)) (.type "type") "__init__" = some (.val (.builtin "ValueError.__init__")) → FnOk P w K mg base (L2.CX P w) 2 (ma K (ga K x) "__init__") fd ps (spX (ga K x) f)) : ExcF P K mg x (ga K x) f := by
  obtain ⟨fd, F⟩ := Fd.fun_ d
  obtain ⟨i1, i2, i3, i4⟩ := oi_ok i
  exact ⟨o, e, _, fd, ps, i1, i2, fun w base => ok w base F i3 i4, b F⟩
end
/-! ### a law's end -/
theorem walk_h {l : PySem.W.OpenLaw} {n k : Nat} {q : Program} {loose : List Str} {XP : (Str → Option Value) → Heap → Prop} {YP : World → Heap → Prop} {d : DefRec} {sp : PySem.W.Frag → Sp} {x : Str}
    (hn : l.most = some n) (hn2 : n ≤ sizeLine) (hdf : d.params.defaults = []) (rm : Room k callerA)
    (F : ∀ (w : World) (mg : Str → Option Value) (fa : Addr) (h : Heap), YP w h → h.Ns mainGlobals mg → mg d.name = some (.ref fa) →
      ∃ (K : PySem.W.Frag) (fd : FuncData), K.In h ∧ (∀ (s : Shared) (u : Value), BindsTo s fd ⟨[u], []⟩ [(x, u)]) ∧ ∀ base : Heap, K.In base → base.Ns mainGlobals mg → FnG l.prog w K mg base k fa fd [x] (sp K))
    (want : ∀ (K : PySem.W.Frag) (H : Hp) (a : Addr) (ns : List Int), ns.length ≤ n → SqL K H a (ns.map V.int) → sp K [.ref a] H (fun v _ => v = .bl true) fun _ _ _ => False) :
    PySem.W.WalkO q loose XP YP l.row.toRowW d [] (fun f vs => PySem.call f vs) := by
  refine Att.attach_call hn hdf fun w s₀ t mg mb fa o pm cd doc a vs ns G Y ho hd hcd hmg ob inz hl gz => ?_
  obtain ⟨K, fd, kin, bi, hF⟩ := F w mg fa _ Y G.T.g hmg
  exact law_callG kin G.T.g G.T.b G.T.builtins G.T.nolimit gz ob inz (Nat.le_trans hl hn2) rm hF bi fun H sq => want _ H a ns hl sq
end Hk
/-! methods of texts, int() of a text, a text n times -/
namespace Z
open PySem PySem.Spec PyProof.Rows L2 U ClX
/-- o.m(..), o a text -/
def TSM (f : Str → List D → Option Rs) (o : M Rs) (t : M (List Rs)) : M Rs := bnd o fun r => bnd (pk r) fun d0 => match d0 with
  | .str a => bnd t fun rs => bnd (pks rs) fun es => opt (f a es)
  | _ => fun _ => none
section
variable {c : Cz} {E : XS}
def mFindS (a : Str) : List D → Option Rs
  | [.str b] => some (.v (.int (Txt.find a b)))
  | _ => none
def bInt2 : List D → Option Rs
  | [.int i] => some (.v (.int i))
  | [.bl k] => some (.v (.int (if k = true then 1 else 0)))
  | [.str a] => (PySem.intText? a).bind fun n => if a.length ≤ 640 then some (.v (.int n)) else none
  | _ => none
end
end Z
/-! ### classmethods read off a class -/
namespace U
open PySem PySem.Spec PyProof.Rows L2 ClX
end U
namespace Z
open PySem PySem.Spec PyProof.Rows L2 U ClX
/-- C.m(..), m a classmethod: the classes' classmethods by their numbers -/
def cmeth (tab : Nat → Option FT) (d0 : D) (f : D → FT → M Rs) : M Rs := match d0 with
  | .cl k => (match tab k with
    | some F => f (.cl k) F
    | none => fun _ => none)
  | _ => fun _ => none
def TCm (tab : Nat → Option FT) (o : M Rs) (T : M (List D)) : M Rs := bnd o fun r => bnd (pk r) fun d0 => cmeth tab d0 fun d F => bnd T fun ds => call F (d :: ds)
def TCmK (tab : Nat → Option FT) (n : Nat) (g : List D → List D) (o : M Rs) (T : M (List D)) : M Rs := bnd o fun r => bnd (pk r) fun d0 => cmeth tab d0 fun d F => bnd T fun ds => if ds.length = n then call F (d :: g ds) else fun _ => none
end Z
namespace U
open PySem PySem.Spec PyProof.Rows L2 ClX
end U
/-! the head by one kernel run: classmethods -/
namespace Hk
open PySem PySem.Spec PyProof.Rows L2 U ClX Z He
end Hk
/-! what is wanted of functions on trees -/
namespace Z
open PySem PySem.Spec PyProof.Rows L2 U ClX
abbrev XQ := Xn → S → Prop
def Wp0 {β : Type} (o : Option (Rz β × S)) (Q : β → S → Prop) (X : XQ) : Prop := match o with
  | some (.ok b, s) => Q b s
  | some (.ex x, s) => X x s
  | none => False
def Ws0 (o : Option (Fl × S)) (Q : Fl → S → Prop) : Prop := match o with
  | some (f, s) => Q f s
  | none => False
abbrev XF := Xn → List D → Prop
def Wf0 (o : Option (Rz Rs × List D)) (Q : Rs → List D → Prop) (X : XF) : Prop := match o with
  | some (.ok (.v d), μ) => Q (.v d) μ
  | some (.ok (.fr d), μ) => Q (.fr d) μ
  | some (.ex x, μ) => X x μ
  | _ => False
section
variable {β γ : Type} {s : S} {Q : β → S → Prop} {X : XQ}
theorem wp_bnd0 {m : M β} {k : β → M γ} {Q : γ → S → Prop} : Wp0 (bnd m k s) Q X = Wp0 (m s) (fun b s1 => Wp0 (k b s1) Q X) X := by
  unfold bnd Wp0
  cases m s with
  | none => rfl
  | some p => obtain ⟨r, s1⟩ := p; cases r <;> rfl
theorem wp_ret0 {b : β} : Wp0 (ret b s) Q X = Q b s := Eq.trans rfl rfl
theorem wp_some0 {b : β} : Wp0 (some (.ok b, s)) Q X = Q b s := Eq.trans rfl rfl
theorem wp_opt0 {o : Option β} : Wp0 (opt o s) Q X = ∃ b, o = some b ∧ Q b s := by
  unfold opt Wp0
  cases o with
  | none => simp
  | some b => simp
theorem wp_pk0 {r : Rs} {Q : D → S → Prop} : Wp0 (pk r s) Q X = ∃ d, peek s r = some d ∧ Q d s := wp_opt0
theorem wp_pks_nil0 {Q : List D → S → Prop} : Wp0 (pks [] s) Q X = Q [] s := Eq.trans rfl rfl
theorem wp_pks_cons0 {r : Rs} {rs : List Rs} {Q : List D → S → Prop} : Wp0 (pks (r :: rs) s) Q X = ∃ d, peek s r = some d ∧ Wp0 (pks rs s) (fun ds s1 => Q (d :: ds) s1) X := by
  show Wp0 (bnd (pk r) _ s) Q X = _
  rw [wp_bnd0, wp_pk0]
  congr 1
  funext d
  congr 1
  rw [wp_bnd0]; rfl
theorem wp_ite0 {c : Prop} [Decidable c] {a b : M β} : Wp0 ((if c then a else b) s) Q X = if c then Wp0 (a s) Q X else Wp0 (b s) Q X := by split <;> rfl
theorem ws_ite0 {c : Prop} [Decidable c] {a b : TSd} {Q : Fl → S → Prop} : Ws0 ((if c then a else b) s) Q = if c then Ws0 (a s) Q else Ws0 (b s) Q := by split <;> rfl
theorem ws_sb0 {m : M β} {k : β → TSd} {Q : Fl → S → Prop} : Ws0 (sb m k s) Q = Wp0 (m s) (fun b s1 => Ws0 (k b s1) Q) (fun x s1 => Q (.ex x) s1) := by
  unfold sb Wp0 Ws0
  cases m s with
  | none => rfl
  | some p => obtain ⟨r, s1⟩ := p; cases r <;> rfl
theorem ws_some0 {f : Fl} {Q : Fl → S → Prop} : Ws0 (some (f, s)) Q = Q f s := Eq.trans rfl rfl
def sqQ0 (U : TSd) (Q : Fl → S → Prop) : Fl → S → Prop
  | .nx, s1 => Ws0 (U s1) Q
  | f, s1 => Q f s1
theorem sqQ_nx0 {U : TSd} {Q : Fl → S → Prop} : sqQ0 U Q .nx s = Ws0 (U s) Q := Eq.trans rfl rfl
theorem sqQ_rt0 {U : TSd} {Q : Fl → S → Prop} {r : Rs} : sqQ0 U Q (.rt r) s = Q (.rt r) s := Eq.trans rfl rfl
theorem sqQ_bk0 {U : TSd} {Q : Fl → S → Prop} : sqQ0 U Q .bk s = Q .bk s := Eq.trans rfl rfl
theorem sqQ_ct0 {U : TSd} {Q : Fl → S → Prop} : sqQ0 U Q .ct s = Q .ct s := Eq.trans rfl rfl
theorem sqQ_ex0 {U : TSd} {Q : Fl → S → Prop} {x : Xn} : sqQ0 U Q (.ex x) s = Q (.ex x) s := Eq.trans rfl rfl
theorem ws_seq0 {T U : TSd} {Q : Fl → S → Prop} : Ws0 (TSeq T U s) Q = Ws0 (T s) (sqQ0 U Q) := by
  unfold TSeq Ws0
  cases T s with
  | none => rfl
  | some p => obtain ⟨f, s1⟩ := p; cases f <;> rfl
theorem ws_nxt0 {o : Option S} {Q : Fl → S → Prop} : Ws0 (nxt o) Q = ∃ s', o = some s' ∧ Q .nx s' := by
  cases o with
  | none => simp [nxt, Ws0]
  | some s => simp [nxt, Ws0]
theorem wp_call0 {F : FT} {ds : List D} {Q : Rs → S → Prop} : Wp0 (call F ds s) Q X = Wf0 (F ds s.μ) (fun r μ => Q r ⟨s.env, μ⟩) (fun x μ => X x ⟨s.env, μ⟩) := by
  unfold call Wp0 Wf0
  cases F ds s.μ with
  | none => rfl
  | some p =>
    obtain ⟨r, μ⟩ := p
    cases r with
    | ex x => rfl
    | ok r => cases r <;> rfl
/-- what a body's end is for the caller -/
def outQ (Q : Rs → List D → Prop) (X : XF) : Fl → S → Prop
  | .rt (.v d), s => Q (.v d) s.μ
  | .rt (.fr d), s => Q (.fr d) s.μ
  | .rt (.al i), s => (match s.env[i]? with
    | some (some (.o d)) => Q (.fr d) s.μ
    | some (some (.s d)) => Q (.v d) s.μ
    | _ => False)
  | .nx, s => Q (.v .non) s.μ
  | .ex x, s => X x s.μ
  | _, _ => False
theorem wf_run0 {m n : Nat} {T : TSd} {ds : List D} {μ : List D} {Q : Rs → List D → Prop} {X : XF} (h : ds.length = m) (w : Ws0 (T ⟨env0 n ds, μ⟩) (outQ Q X)) : Wf0 (runF m n T ds μ) Q X := by
  unfold runF
  rw [if_pos h]
  unfold Ws0 at w
  cases e : T ⟨env0 n ds, μ⟩ with
  | none => rw [e] at w; exact w.elim
  | some p =>
    obtain ⟨f, s⟩ := p
    rw [e] at w
    cases f with
    | nx => exact w
    | bk => exact w.elim
    | ct => exact w.elim
    | ex x => exact w
    | rt r =>
      cases r with
      | v d => exact w
      | fr d => exact w
      | al i =>
        have w : (match s.env[i]? with | some (some (.o d)) => Q (.fr d) s.μ | some (some (.s d)) => Q (.v d) s.μ | _ => False) := w
        show Wf0 (match s.env[i]? with | some (some (.o d)) => some (.ok (.fr d), s.μ) | some (some (.s d)) => some (.ok (.v d), s.μ) | _ => none) Q X
        split at w
        · exact w
        · exact w
        · exact w.elim
def outIQ (Q : Rs → List D → Prop) (X : XF) : Fl → S → Prop
  | .nx, s => (match s.env[(0 : Nat)]? with
    | some (some (.o d)) => Q (.fr d) s.μ
    | some (some (.s d)) => Q (.v d) s.μ
    | _ => False)
  | .ex x, s => X x s.μ
  | _, _ => False
theorem wf_runI0 {m n k : Nat} {T : TSd} {ds : List D} {μ : List D} {Q : Rs → List D → Prop} {X : XF} (h : ds.length + 1 = m) (w : Ws0 (T ⟨envI n k ds, μ⟩) (outIQ Q X)) : Wf0 (runI m n k T ds μ) Q X := by
  unfold runI
  rw [if_pos h]
  unfold Ws0 at w
  cases e : T ⟨envI n k ds, μ⟩ with
  | none => rw [e] at w; exact w.elim
  | some p =>
    obtain ⟨f, s⟩ := p
    rw [e] at w
    cases f with
    | nx =>
      have w : (match s.env[(0 : Nat)]? with | some (some (.o d)) => Q (.fr d) s.μ | some (some (.s d)) => Q (.v d) s.μ | _ => False) := w
      show Wf0 (match s.env[(0 : Nat)]? with | some (some (.o d)) => some (.ok (.fr d), s.μ) | some (some (.s d)) => some (.ok (.v d), s.μ) | _ => none) Q X
      split at w
      · exact w
      · exact w
      · exact w.elim
    | bk => exact w.elim
    | ct => exact w.elim
    | ex x => exact w
    | rt r => exact w.elim
theorem wf_v0 {d : D} {μ : List D} {Q : Rs → List D → Prop} {X : XF} : Wf0 (some (.ok (.v d), μ)) Q X = Q (.v d) μ := Eq.trans rfl rfl
theorem wf_fr0 {d : D} {μ : List D} {Q : Rs → List D → Prop} {X : XF} : Wf0 (some (.ok (.fr d), μ)) Q X = Q (.fr d) μ := Eq.trans rfl rfl
theorem wp_mono0 {o : Option (Rz β × S)} {Q Q' : β → S → Prop} {X : XQ} (h : Wp0 o Q X) (q : ∀ r μ, Q r μ → Q' r μ) : Wp0 o Q' X := by
  unfold Wp0 at h ⊢
  split at h
  · exact q _ _ h
  · exact h
  · exact h.elim
theorem wf_eq0 {o : Option (Rz Rs × List D)} {d : D} (h : Wf0 o (fun r μ => r = .v d) fun _ _ => False) : ∃ μ, o = some (.ok (.v d), μ) := by
  unfold Wf0 at h
  split at h
  · cases h; exact ⟨_, rfl⟩
  · cases h
  · exact h.elim
  · exact h.elim
/-! ### peek, stab, variables -/
variable {d : D} {ds : List D} {i : Nat} {z : Str} {k : Int} {b : Bool}
theorem peek_int : peek s (.v (.int k)) = some (.int k) := rfl
theorem peek_str : peek s (.v (.str z)) = some (.str z) := rfl
theorem peek_bl : peek s (.v (.bl b)) = some (.bl b) := rfl
theorem peek_non : peek s (.v .non) = some .non := rfl
theorem peek_ty {n : String} : peek s (.v (.ty n)) = some (.ty n) := rfl
theorem peek_cl {n : Nat} : peek s (.v (.cl n)) = some (.cl n) := rfl
theorem peek_list : peek s (.v (.list ds)) = some (.list ds) := rfl
theorem peek_scr : peek s (.v (.scr ds)) = some (.scr ds) := rfl
theorem peek_tup : peek s (.v (.tup ds)) = some (.tup ds) := rfl
theorem peek_dict {kvs : List (Key × D)} : peek s (.v (.dict kvs)) = some (.dict kvs) := rfl
theorem peek_obj {n : Nat} {fs : List (Str × D)} : peek s (.v (.obj n fs)) = some (.obj n fs) := rfl
theorem peek_loc {n : Nat} : peek s (.v (.loc n)) = s.μ[n]? := rfl
theorem peek_fr : peek s (.fr d) = some d := rfl
def varP (o : Option (Option A)) : Option D := match o with
  | some (some (.o d)) => some d
  | some (some (.s d)) => some d
  | _ => none
theorem peek_al : peek s (.al i) = varP s.env[i]? := rfl
theorem varP_o : varP (some (some (.o d))) = some d := rfl
theorem varP_s : varP (some (some (.s d))) = some d := rfl
theorem wp_stab_v0 {Q : D → S → Prop} : Wp0 (stab (.v d) s) Q X = Q d s := Eq.trans rfl rfl
theorem wp_stab_fr0 {Q : D → S → Prop} : Wp0 (stab (.fr d) s) Q X = Q d s := Eq.trans rfl rfl
def stabQ (o : Option (Option A)) (i : Nat) (s : S) (Q : D → S → Prop) : Prop := match o with
  | some (some (.o d)) => Q d ⟨s.env.set i (some (.s d)), s.μ⟩
  | some (some (.s d)) => Q d s
  | _ => False
theorem wp_stab_al0 {Q : D → S → Prop} : Wp0 (stab (.al i) s) Q X = stabQ s.env[i]? i s Q := by
  unfold stab stabQ Wp0
  simp only
  generalize s.env[i]? = o
  rcases o with _ | _ | _ | _ <;> rfl
theorem stabQ_o0 {s : S} {Q : D → S → Prop} : stabQ (some (some (.o d))) i s Q = Q d ⟨s.env.set i (some (.s d)), s.μ⟩ := Eq.trans rfl rfl
theorem stabQ_s0 {s : S} {Q : D → S → Prop} : stabQ (some (some (.s d))) i s Q = Q d s := Eq.trans rfl rfl
def varQ (o : Option (Option A)) (i : Nat) (s : S) (Q : Rs → S → Prop) : Prop := match o with
  | some (some (.s d)) => Q (.v d) s
  | some (some (.o _)) => Q (.al i) s
  | _ => False
theorem wp_Var0 {Q : Rs → S → Prop} : Wp0 (TVar i s) Q X = varQ s.env[i]? i s Q := by
  unfold TVar varQ Wp0
  generalize s.env[i]? = o
  rcases o with _ | _ | _ | _ <;> rfl
theorem varQ_s0 {s : S} {Q : Rs → S → Prop} : varQ (some (some (.s d))) i s Q = Q (.v d) s := Eq.trans rfl rfl
theorem varQ_o0 {s : S} {Q : Rs → S → Prop} : varQ (some (some (.o d))) i s Q = Q (.al i) s := Eq.trans rfl rfl
theorem wp_asB_bl0 {Q : Bool → S → Prop} : Wp0 (asB (.bl b) s) Q X = Q b s := Eq.trans rfl rfl
theorem res1_v : res1 (.v d) = ret (.v d) := rfl
theorem res1_fr : res1 (.fr d) = ret (.fr d) := rfl
theorem res1_al : res1 (.al i) = bnd (stab (.al i)) fun d => ret (.v d) := rfl
theorem res_nil : res [] = ret [] := rfl
theorem res_cons {r : Rs} {rs : List Rs} : res (r :: rs) = bnd (res1 r) fun r => bnd (res rs) fun rs => ret (r :: rs) := rfl
theorem asg_v : asg i (.v d) s = setV i (.s d) s := rfl
theorem asg_fr : asg i (.fr d) s = setV i (.o d) s := rfl
theorem setV_eq {a : A} {s' : S} : (setV i a s = some s') = (s' = ⟨s.env.set i (some a), s.μ⟩ ∧ i < s.env.length) := by
  unfold setV
  apply propext
  constructor
  · intro h
    split at h
    · rename_i z; cases h; exact ⟨rfl, z⟩
    · cases h
  · rintro ⟨rfl, h⟩
    rw [if_pos h]
theorem asgs_nil : asgs [] [] s = some s := rfl
theorem asgs_cons {is : List Nat} {r : Rs} {rs : List Rs} : asgs (i :: is) (r :: rs) s = (asg i r s).bind fun s => asgs is rs s := rfl
end
def mutQ {β : Type} (o : Option (Option A)) (i : Nat) (s : S) (f : D → Option (β × D)) (Q : β → S → Prop) : Prop := match o with
  | some (some (.o d)) => ∃ b d', f d = some (b, d') ∧ Q b ⟨s.env.set i (some (.o d')), s.μ⟩
  | _ => False
theorem mutQ_o0 {β : Type} {i : Nat} {s : S} {d : D} {f : D → Option (β × D)} {Q : β → S → Prop} : mutQ (some (some (.o d))) i s f Q = ∃ b d', f d = some (b, d') ∧ Q b ⟨s.env.set i (some (.o d')), s.μ⟩ := Eq.trans rfl rfl
theorem wp_mut_al0 {β : Type} {i : Nat} {s : S} {f : D → Option (β × D)} {Q : β → S → Prop} {X : XQ} : Wp0 (mutD (.al i) f s) Q X = mutQ s.env[i]? i s f Q := by
  unfold mutD mutQ
  simp only
  cases s.env[i]? with
  | none => rfl
  | some a =>
    cases a with
    | none => rfl
    | some a =>
      cases a with
      | s d => rfl
      | o d =>
        simp only
        cases f d with
        | none => simp [Wp0]
        | some p => obtain ⟨b, d'⟩ := p; exact propext ⟨fun h => ⟨b, d', rfl, h⟩, fun ⟨_, _, e, h⟩ => by cases e; exact h⟩
theorem wp_mut_loc0 {β : Type} {n : Nat} {s : S} {f : D → Option (β × D)} {Q : β → S → Prop} {X : XQ} : Wp0 (mutD (.v (.loc n)) f s) Q X = ∃ d, s.μ[n]? = some d ∧ ∃ b d', f d = some (b, d') ∧ Q b ⟨s.env, s.μ.set n d'⟩ := by
  unfold mutD
  simp only
  cases s.μ[n]? with
  | none => simp [Wp0]
  | some d =>
    simp only [Option.some.injEq, exists_eq_left']
    cases f d with
    | none => simp [Wp0]
    | some p => obtain ⟨b, d'⟩ := p; exact propext ⟨fun h => ⟨b, d', rfl, h⟩, fun ⟨_, _, e, h⟩ => by cases e; exact h⟩
/-! ### try -/
def endQ (i : Nat) (Q : Fl → S → Prop) : Fl → S → Prop
  | .ex _, _ => False
  | .rt r, s => Q (.rt r) s
  | .nx, s => Q .nx ⟨s.env.set i none, s.μ⟩
  | .bk, s => Q .bk ⟨s.env.set i none, s.μ⟩
  | .ct, s => Q .ct ⟨s.env.set i none, s.μ⟩
theorem endQ_rt0 {i : Nat} {Q : Fl → S → Prop} {r : Rs} {s : S} : endQ i Q (.rt r) s = Q (.rt r) s := Eq.trans rfl rfl
theorem endQ_nx0 {i : Nat} {Q : Fl → S → Prop} {s : S} : endQ i Q .nx s = Q .nx ⟨s.env.set i none, s.μ⟩ := Eq.trans rfl rfl
def tryX0 (b : Option Bool) (i : Nat) (U : TSd) (Q : Fl → S → Prop) (x : Xn) (s1 : S) : Prop := match b with
  | some true => i < s1.env.length ∧ Ws0 (U ⟨s1.env.set i (some (.s (.exc x.c x.fs))), s1.μ⟩) (endQ i Q)
  | some false => Q (.ex x) s1
  | none => False
theorem tryX_t0 {i : Nat} {U : TSd} {Q : Fl → S → Prop} {x : Xn} {s1 : S} : tryX0 (some true) i U Q x s1 = (i < s1.env.length ∧ Ws0 (U ⟨s1.env.set i (some (.s (.exc x.c x.fs))), s1.μ⟩) (endQ i Q)) := Eq.trans rfl rfl
theorem tryX_f0 {i : Nat} {U : TSd} {Q : Fl → S → Prop} {x : Xn} {s1 : S} : tryX0 (some false) i U Q x s1 = Q (.ex x) s1 := Eq.trans rfl rfl
def tryQ0 (h : Nat → Option Bool) (i : Nat) (U : TSd) (Q : Fl → S → Prop) : Fl → S → Prop
  | .ex x, s1 => tryX0 (h x.c) i U Q x s1
  | .nx, s1 => Q .nx s1
  | .rt r, s1 => Q (.rt r) s1
  | .bk, s1 => Q .bk s1
  | .ct, s1 => Q .ct s1
theorem tryQ_ex0 {h : Nat → Option Bool} {i : Nat} {U : TSd} {Q : Fl → S → Prop} {x : Xn} {s : S} : tryQ0 h i U Q (.ex x) s = tryX0 (h x.c) i U Q x s := Eq.trans rfl rfl
theorem tryQ_nx0 {h : Nat → Option Bool} {i : Nat} {U : TSd} {Q : Fl → S → Prop} {s : S} : tryQ0 h i U Q .nx s = Q .nx s := Eq.trans rfl rfl
theorem tryQ_rt0 {h : Nat → Option Bool} {i : Nat} {U : TSd} {Q : Fl → S → Prop} {r : Rs} {s : S} : tryQ0 h i U Q (.rt r) s = Q (.rt r) s := Eq.trans rfl rfl
theorem tryQ_bk0 {h : Nat → Option Bool} {i : Nat} {U : TSd} {Q : Fl → S → Prop} {s : S} : tryQ0 h i U Q .bk s = Q .bk s := Eq.trans rfl rfl
theorem tryQ_ct0 {h : Nat → Option Bool} {i : Nat} {U : TSd} {Q : Fl → S → Prop} {s : S} : tryQ0 h i U Q .ct s = Q .ct s := Eq.trans rfl rfl
theorem ws_try0 {h : Nat → Option Bool} {i : Nat} {T U : TSd} {Q : Fl → S → Prop} {s : S} : Ws0 (TTry T h i U s) Q = Ws0 (T s) (tryQ0 h i U Q) := by
  unfold TTry
  cases e : T s with
  | none => rfl
  | some p =>
    obtain ⟨f, s1⟩ := p
    cases f with
    | nx => rfl
    | rt r => rfl
    | bk => rfl
    | ct => rfl
    | ex x =>
      show Ws0 (match h x.c with | some true => _ | some false => _ | none => _) Q = tryX0 (h x.c) i U Q x s1
      cases h x.c with
      | none => rfl
      | some b =>
        cases b with
        | false => rfl
        | true =>
          show Ws0 (if _ then _ else none) Q = (_ ∧ _)
          by_cases hi : i < s1.env.length
          · rw [if_pos hi]
            cases eU : U { s1 with env := s1.env.set i (some (.s (.exc x.c x.fs))) } with
            | none => simp [Ws0, hi]
            | some q => obtain ⟨f, s2⟩ := q; cases f <;> simp [Ws0, hi, endQ]
          · rw [if_neg hi]; simp [Ws0, hi]
/-! ### loops -/
def forQ (I : S → Prop) (Q : Fl → S → Prop) : Fl → S → Prop
  | .nx, s => I s
  | .ct, s => I s
  | .bk, s => Q .nx s
  | f, s => Q f s
theorem forQ_nx0 {I : S → Prop} {Q : Fl → S → Prop} {s : S} : forQ I Q .nx s = I s := Eq.trans rfl rfl
theorem forQ_ct0 {I : S → Prop} {Q : Fl → S → Prop} {s : S} : forQ I Q .ct s = I s := Eq.trans rfl rfl
theorem forQ_bk0 {I : S → Prop} {Q : Fl → S → Prop} {s : S} : forQ I Q .bk s = Q .nx s := Eq.trans rfl rfl
theorem forQ_rt0 {I : S → Prop} {Q : Fl → S → Prop} {s : S} {r : Rs} : forQ I Q (.rt r) s = Q (.rt r) s := Eq.trans rfl rfl
theorem forQ_ex0 {I : S → Prop} {Q : Fl → S → Prop} {s : S} {x : Xn} : forQ I Q (.ex x) s = Q (.ex x) s := Eq.trans rfl rfl
theorem for_inv0 {G : GD} {T : TSd} {Q : Fl → S → Prop} : ∀ {ds : List D} {s : S} (I : Nat → S → Prop), I 0 s → (∀ k d s, ds[k]? = some d → I k s → ∃ s1, G d s = some s1 ∧ Ws0 (T s1) (forQ (I (k + 1)) Q)) → (∀ s, I ds.length s → Q .nx s) → Ws0 (forD G T ds s) Q
  | [], s, I, h0, _, fin => fin s h0
  | d :: ds, s, I, h0, step, fin => by
    obtain ⟨s1, e1, h1⟩ := step 0 d s rfl h0
    unfold forD
    rw [e1]
    simp only
    have next : ∀ s2, I 1 s2 → Ws0 (forD G T ds s2) Q := fun s2 h => for_inv0 (fun k => I (k + 1)) h (fun k d s hd hi => step (k + 1) d s (by simpa using hd) hi) fin
    cases e : T s1 with
    | none => rw [e] at h1; exact h1.elim
    | some p =>
      obtain ⟨f, s2⟩ := p
      rw [e] at h1
      cases f with
      | nx => exact next s2 h1
      | ct => exact next s2 h1
      | bk => exact h1
      | rt r => exact h1
      | ex x => exact h1
theorem ws_for0 {I : M (List D)} {G : GD} {T : TSd} {s : S} {Q : Fl → S → Prop} : Ws0 (TFor I G T s) Q = Wp0 (I s) (fun ds s1 => Ws0 (forD G T ds s1) Q) (fun x s1 => Q (.ex x) s1) := ws_sb0
/-- a comprehension: k turns are done, acc was kept -/
theorem lc_inv0 {G : GD} {B : M Bool} {T : M Rs} {vs : List Nat} {Q : List D → S → Prop} {X : XQ} : ∀ {ds acc : List D} {s : S} (I : Nat → List D → S → Prop), I 0 acc s → (∀ k d acc s, ds[k]? = some d → I k acc s → ∃ s1, G d s = some s1 ∧ Wp0 (B s1) (fun b s2 => if b = true then Wp0 (T s2) (fun r s3 => Wp0 (stab r s3) (fun e s4 => I (k + 1) (acc ++ [e]) ⟨wipeE vs s4.env, s4.μ⟩) fun _ _ => False) (fun _ _ => False) else I (k + 1) acc ⟨wipeE vs s2.env, s2.μ⟩) fun _ _ => False) → (∀ acc s, I ds.length acc s → Q acc s) → Wp0 (lcD G B T vs ds acc s) Q X
  | [], acc, s, I, h0, _, fin => fin acc s h0
  | d :: ds, acc, s, I, h0, step, fin => by
    obtain ⟨s1, e1, h1⟩ := step 0 d acc s rfl h0
    unfold lcD
    rw [e1]
    simp only
    have next : ∀ acc s2, I 1 acc s2 → Wp0 (lcD G B T vs ds acc s2) Q X := fun acc s2 h => lc_inv0 (fun k => I (k + 1)) h (fun k d acc s hd hi => step (k + 1) d acc s (by simpa using hd) hi) fin
    cases e : B s1 with
    | none => rw [e] at h1; exact h1.elim
    | some p =>
      obtain ⟨r, s2⟩ := p
      rw [e] at h1
      cases r with
      | ex x => exact h1.elim
      | ok b =>
        have h1 : (if b = true then Wp0 (T s2) (fun r s3 => Wp0 (stab r s3) (fun e s4 => I 1 (acc ++ [e]) ⟨wipeE vs s4.env, s4.μ⟩) fun _ _ => False) (fun _ _ => False) else I 1 acc ⟨wipeE vs s2.env, s2.μ⟩) := h1
        cases b with
        | false => exact next _ _ h1
        | true =>
          rw [if_pos rfl, ← wp_bnd0] at h1
          simp only
          cases e2 : bnd T stab s2 with
          | none => rw [e2] at h1; exact h1.elim
          | some p =>
            obtain ⟨r, s3⟩ := p
            rw [e2] at h1
            cases r with
            | ex x => exact h1.elim
            | ok u => exact next _ _ h1
theorem wp_Lc0 {I : M (List D)} {G : GD} {B : M Bool} {T : M Rs} {vs : List Nat} {s : S} {Q : Rs → S → Prop} {X : XQ} (h : Wp0 (I s) (fun ds s1 => ds.length ≤ 16777216 ∧ Wp0 (lcD G B T vs ds [] ⟨wipeE vs s1.env, s1.μ⟩) (fun es s2 => Q (.fr (.list es)) ⟨restE vs s1.env s2.env, s2.μ⟩) fun _ _ => False) X) : Wp0 (TLc I G B T vs s) Q X := by
  unfold TLc
  rw [wp_bnd0]
  refine wp_mono0 h fun ds s1 ⟨hf, h⟩ => ?_
  have hf : fits ds.length = true := decide_eq_true hf
  show Wp0 (if fits ds.length = true then _ else _) Q X
  rw [if_pos hf]
  cases e : lcD G B T vs ds [] ⟨wipeE vs s1.env, s1.μ⟩ with
  | none => rw [e] at h; exact h.elim
  | some p =>
    obtain ⟨r, s2⟩ := p
    rw [e] at h
    cases r with
    | ex x => exact h.elim
    | ok es => exact h
theorem lc_each0 {G : GD} {B : M Bool} {T : M Rs} {vs : List Nat} {Q : List D → S → Prop} {X : XQ} {α : Type} {xs : List α} {s : S} (g : α → D) (f : α → Option D)
    (step : ∀ d ∈ xs, ∃ s1, G (g d) s = some s1 ∧ Wp0 (B s1) (fun b s2 => if b = true then Wp0 (T s2) (fun r s3 => Wp0 (stab r s3) (fun e s4 => f d = some e ∧ (⟨wipeE vs s4.env, s4.μ⟩ : S) = s) fun _ _ => False) (fun _ _ => False) else f d = none ∧ (⟨wipeE vs s2.env, s2.μ⟩ : S) = s) fun _ _ => False)
    (fin : Q (xs.filterMap f) s) : Wp0 (lcD G B T vs (xs.map g) [] s) Q X := by
  refine lc_inv0 (fun k acc s' => acc = (xs.take k).filterMap f ∧ s' = s) ⟨rfl, rfl⟩ ?_ ?_
  · rintro k d acc s' hd ⟨rfl, rfl⟩
    rw [List.getElem?_map] at hd
    obtain ⟨d, hd', rfl⟩ := Option.map_eq_some_iff.mp hd
    clear hd
    have hd := hd'
    obtain ⟨s1, e1, h1⟩ := step d (List.mem_of_getElem? hd)
    have hk : k < xs.length := (List.getElem?_eq_some_iff.mp hd).1
    have tk : (xs.take (k + 1)).filterMap f = (xs.take k).filterMap f ++ (match f d with | some e => [e] | none => []) := by
      rw [List.take_succ_eq_append_getElem hk, List.filterMap_append]
      congr 1
      obtain ⟨_, e⟩ := List.getElem?_eq_some_iff.mp hd
      rw [e]
      simp only [List.filterMap_cons, List.filterMap_nil]
      cases f d <;> rfl
    refine ⟨s1, e1, wp_mono0 h1 fun b s2 h2 => ?_⟩
    cases b with
    | false =>
      simp only [Bool.false_eq_true, if_false] at h2 ⊢
      exact ⟨by rw [tk, h2.1]; simp, h2.2⟩
    | true =>
      simp only [if_true] at h2 ⊢
      exact wp_mono0 h2 fun r s3 h3 => wp_mono0 h3 fun e s4 h4 => ⟨by rw [tk, h4.1], h4.2⟩
  · rintro acc s' ⟨rfl, rfl⟩
    rw [List.length_map, List.take_length]; exact fin
/-- [f(x) for x in xs] -/
theorem lc_all0 {G : GD} {B : M Bool} {T : M Rs} {vs : List Nat} {Q : List D → S → Prop} {X : XQ} {α : Type} {xs : List α} {s : S} (g : α → D) (f : α → D)
    (step : ∀ d ∈ xs, ∃ s1, G (g d) s = some s1 ∧ Wp0 (B s1) (fun b s2 => if b = true then Wp0 (T s2) (fun r s3 => Wp0 (stab r s3) (fun e s4 => e = f d ∧ (⟨wipeE vs s4.env, s4.μ⟩ : S) = s) fun _ _ => False) (fun _ _ => False) else False) fun _ _ => False)
    (fin : Q (xs.map f) s) : Wp0 (lcD G B T vs (xs.map g) [] s) Q X := by
  refine lc_each0 g (fun x => some (f x)) (fun d hd => ?_) (by rw [show xs.filterMap (fun x => some (f x)) = xs.map f from congrFun (List.filterMap_eq_map (f := f)) xs]; exact fin)
  obtain ⟨s1, e1, h1⟩ := step d hd
  refine ⟨s1, e1, wp_mono0 h1 fun b s2 h2 => ?_⟩
  cases b with
  | false => simp only [Bool.false_eq_true, if_false] at h2
  | true =>
    simp only [if_true] at h2 ⊢
    exact wp_mono0 h2 fun r s3 h3 => wp_mono0 h3 fun e s4 h4 => ⟨by rw [h4.1], h4.2⟩
section
variable {i j : Int} {a b : Str} {xs ys ds : List D} {d e : D} {x y : Bool} {μ : List D} {s : S} {Q : Rs → List D → Prop} {X : XF}
theorem outQ_v0 : outQ Q X (.rt (.v d)) s = Q (.v d) s.μ := Eq.trans rfl rfl
theorem outQ_fr0 : outQ Q X (.rt (.fr d)) s = Q (.fr d) s.μ := Eq.trans rfl rfl
theorem outQ_nx0 : outQ Q X .nx s = Q (.v .non) s.μ := Eq.trans rfl rfl
theorem outQ_ex0 {x : Xn} : outQ Q X (.ex x) s = X x s.μ := Eq.trans rfl rfl
def outA (o : Option (Option A)) (μ : List D) (Q : Rs → List D → Prop) : Prop := match o with
  | some (some (.o d)) => Q (.fr d) μ
  | some (some (.s d)) => Q (.v d) μ
  | _ => False
theorem outQ_al0 {n : Nat} : outQ Q X (.rt (.al n)) s = outA s.env[n]? s.μ Q := Eq.trans rfl rfl
theorem outA_o : outA (some (some (.o d))) μ Q = Q (.fr d) μ := rfl
theorem outA_s : outA (some (some (.s d))) μ Q = Q (.v d) μ := rfl
theorem outIQ_nx0 : outIQ Q X .nx s = outA s.env[(0 : Nat)]? s.μ Q := Eq.trans rfl rfl
theorem outIQ_ex0 {x : Xn} : outIQ Q X (.ex x) s = X x s.μ := Eq.trans rfl rfl
theorem vAdd_int : vAdd (.int i) (.int j) = some (.v (.int (i + j))) := rfl
theorem vAdd_str : vAdd (.str a) (.str b) = if fits (a.length + b.length) = true then some (.v (.str (a ++ b))) else none := rfl
theorem vAdd_list : vAdd (.list xs) (.list ys) = if fits (xs.length + ys.length) = true then some (.fr (.list (xs ++ ys))) else none := rfl
theorem vSub_int : vSub (.int i) (.int j) = some (.v (.int (i - j))) := rfl
theorem vMul_int : vMul (.int i) (.int j) = if mulOk i j = true then some (.v (.int (i * j))) else none := rfl
theorem vDiv_int : vDiv (.int i) (.int j) = if (decide (0 < j) && decide (j.natAbs.log2 < 9000)) = true then some (.v (.int (i / j))) else none := rfl
theorem vMod_int : vMod (.int i) (.int j) = if 0 < j then some (.v (.int (i % j))) else none := rfl
theorem vPow_int : vPow (.int i) (.int j) = if (decide (0 ≤ j) && decide ((Builtin.Int.intBits i : Int) * j ≤ 2 ^ 27)) = true then some (.v (.int (i ^ j.toNat))) else none := rfl
theorem vLt_int : vLt (.int i) (.int j) = some (.v (.bl (decide (i < j)))) := rfl
theorem vLe_int : vLe (.int i) (.int j) = some (.v (.bl (decide (i ≤ j)))) := rfl
theorem vGt_int : vGt (.int i) (.int j) = some (.v (.bl (decide (j < i)))) := rfl
theorem vGe_int : vGe (.int i) (.int j) = some (.v (.bl (decide (j ≤ i)))) := rfl
theorem vEq_int : vEq (.int i) (.int j) = some (.v (.bl (decide (i = j)))) := rfl
theorem vEq_str : vEq (.str a) (.str b) = some (.v (.bl (decide (a = b)))) := rfl
theorem vEq_bl : vEq (.bl x) (.bl y) = some (.v (.bl (decide (x = y)))) := rfl
theorem vNe_int : vNe (.int i) (.int j) = some (.v (.bl (!decide (i = j)))) := rfl
theorem vNe_str : vNe (.str a) (.str b) = some (.v (.bl (!decide (a = b)))) := rfl
theorem vNe_bl : vNe (.bl x) (.bl y) = some (.v (.bl (!decide (x = y)))) := rfl
theorem vIs_non : vIs .non .non = some (.v (.bl true)) := rfl
theorem vIs_int : vIs (.int i) .non = some (.v (.bl false)) := rfl
theorem vIs_str : vIs (.str a) .non = some (.v (.bl false)) := rfl
theorem vIs_list : vIs (.list xs) .non = some (.v (.bl false)) := rfl
theorem vIs_tup : vIs (.tup xs) .non = some (.v (.bl false)) := rfl
theorem vIsNot_non : vIsNot .non .non = some (.v (.bl false)) := rfl
theorem vIsNot_int : vIsNot (.int i) .non = some (.v (.bl true)) := rfl
theorem vIsNot_str : vIsNot (.str a) .non = some (.v (.bl true)) := rfl
theorem vIsNot_list : vIsNot (.list xs) .non = some (.v (.bl true)) := rfl
theorem vIsNot_tup : vIsNot (.tup xs) .non = some (.v (.bl true)) := rfl
theorem vIx_list : vIx (.list xs) (.int i) = (atI xs i).map .v := rfl
theorem vIx_scr : vIx (.scr xs) (.int i) = (atI xs i).map .v := rfl
theorem vIx_tup : vIx (.tup xs) (.int i) = (atI xs i).map .v := rfl
theorem vNeg_int : vNeg (.int i) = some (.v (.int (-i))) := rfl
theorem vIp_int {f : Int → Int → Int} : vIp f (.int i) (.int j) = some (.v (.int (f i j))) := rfl
theorem bLen_str : bLen [.str a] = if fits a.length = true then some (.v (.int a.length)) else none := rfl
theorem bLen_list : bLen [.list xs] = some (.v (.int xs.length)) := rfl
theorem bLen_scr : bLen [.scr xs] = some (.v (.int xs.length)) := rfl
theorem bLen_tup : bLen [.tup xs] = some (.v (.int xs.length)) := rfl
theorem bAbs_int : bAbs [.int i] = some (.v (.int (if i < 0 then -i else i))) := rfl
theorem bMax_int : bMax [.int i, .int j] = some (.v (.int (if j > i then j else i))) := rfl
theorem bMin_int : bMin [.int i, .int j] = some (.v (.int (if j < i then j else i))) := rfl
theorem bList_list : bList [.list xs] = some (.fr (.list xs)) := rfl
theorem bList_scr : bList [.scr xs] = some (.fr (.list xs)) := rfl
theorem bList_tup : bList [.tup xs] = some (.fr (.list xs)) := rfl
theorem bInt_int : bInt [.int i] = some (.v (.int i)) := rfl
theorem bInt_bl : bInt [.bl x] = some (.v (.int (if x = true then 1 else 0))) := rfl
theorem slL_list {lo hi : Option Int} : slL (.list xs) lo hi = some (.fr (.list (cutL xs lo hi))) := rfl
theorem slS_str {lo hi : Option Int} : slS (.str a) lo hi = if fits a.length = true then some (.v (.str (cutS a lo hi))) else none := rfl
theorem isL_list : isL (.list xs) = true := rfl
theorem asI_int : asI (.int i) = some i := rfl
theorem itemsL_list : itemsL (.list xs) = some xs := rfl
theorem itemsL_scr : itemsL (.scr xs) = some xs := rfl
theorem mAppend_eq : mAppend [d] (.list xs) = if xs.length < 16777216 then some (.non, .list (xs ++ [d])) else none := rfl
theorem mExtend_eq : mExtend [.list ys] (.list xs) = if fits (xs.length + ys.length) = true then some (.non, .list (xs ++ ys)) else none := rfl
theorem ite_some_eq {α : Type} {c : Prop} [Decidable c] {a b : α} : ((if c then some a else none) = some b) = (c ∧ a = b) := by
  by_cases h : c <;> simp [h]
theorem mulOk_l {i j : Int} (h1 : -(2 ^ 64) < i) (h2 : i < 2 ^ 64) : mulOk i j = true := by unfold mulOk; rw [decide_eq_true h1, decide_eq_true h2]; rfl
theorem mulOk_r {i j : Int} (h1 : -(2 ^ 64) < j) (h2 : j < 2 ^ 64) : mulOk i j = true := by unfold mulOk; rw [decide_eq_true h1, decide_eq_true h2]; simp
theorem atI_nat {α : Type} {xs : List α} {k : Nat} (h : k < xs.length) : atI xs (k : Int) = some xs[k] := by
  unfold atI ixN
  rw [if_pos (by omega), if_pos (by omega)]
  simp [h]
theorem rng_get {lo : Int} {n k : Nat} {d : D} (h : (rngD lo n)[k]? = some d) : d = .int (lo + k) ∧ k < n := by
  unfold rngD at h
  rw [List.getElem?_map] at h
  by_cases hk : k < n
  · rw [List.getElem?_range hk] at h
    cases h
    exact ⟨rfl, hk⟩
  · rw [List.getElem?_eq_none (by simpa using hk)] at h; cases h
end
-- wu begin
theorem wu_TC0 {d : D} {z : S} {Qz : Rs → S → Prop} {Xz : XQ} : Wp0 (TC d z) Qz Xz = Wp0 ((ret (.v d) : M Rs) z) Qz Xz := Eq.trans rfl rfl
theorem wu_TOp0 {f : D → D → Option Rs} {a b : M Rs} {z : S} {Qz : Rs → S → Prop} {Xz : XQ} : Wp0 (TOp f a b z) Qz Xz = Wp0 ((bnd a fun x => bnd b fun y => bnd (pk x) fun d => bnd (pk y) fun e => opt (f d e) : M Rs) z) Qz Xz := Eq.trans rfl rfl
theorem wu_TUn0 {f : D → Option Rs} {a : M Rs} {z : S} {Qz : Rs → S → Prop} {Xz : XQ} : Wp0 (TUn f a z) Qz Xz = Wp0 ((bnd a fun x => bnd (pk x) fun d => opt (f d) : M Rs) z) Qz Xz := Eq.trans rfl rfl
theorem wu_TB0 {a : M Rs} {z : S} {Qz : Bool → S → Prop} {Xz : XQ} : Wp0 (TB a z) Qz Xz = Wp0 ((bnd a fun x => bnd (pk x) asB : M Bool) z) Qz Xz := Eq.trans rfl rfl
theorem wu_TNotV0 {a : M Rs} {z : S} {Qz : Rs → S → Prop} {Xz : XQ} : Wp0 (TNotV a z) Qz Xz = Wp0 ((bnd (TB a) fun b => ret (.v (.bl (!b))) : M Rs) z) Qz Xz := Eq.trans rfl rfl
theorem wu_TAndV0 {a b : M Rs} {z : S} {Qz : Rs → S → Prop} {Xz : XQ} : Wp0 (TAndV a b z) Qz Xz = Wp0 ((bnd (TB a) fun x => if x = true then b else ret (.v (.bl false)) : M Rs) z) Qz Xz := Eq.trans rfl rfl
theorem wu_TOrV0 {a b : M Rs} {z : S} {Qz : Rs → S → Prop} {Xz : XQ} : Wp0 (TOrV a b z) Qz Xz = Wp0 ((bnd (TB a) fun x => if x = true then ret (.v (.bl true)) else b : M Rs) z) Qz Xz := Eq.trans rfl rfl
theorem wu_TIf0 {β : Type} {t : M Bool} {a b : M β} {z : S} {Qz : β → S → Prop} {Xz : XQ} : Wp0 (TIf t a b z) Qz Xz = Wp0 ((bnd t fun x => if x = true then a else b : M β) z) Qz Xz := Eq.trans rfl rfl
theorem wu_TNot0 {t : M Bool} {z : S} {Qz : Bool → S → Prop} {Xz : XQ} : Wp0 (TNot t z) Qz Xz = Wp0 ((bnd t fun x => ret (!x) : M Bool) z) Qz Xz := Eq.trans rfl rfl
theorem wu_TAnd0 {t u : M Bool} {z : S} {Qz : Bool → S → Prop} {Xz : XQ} : Wp0 (TAnd t u z) Qz Xz = Wp0 ((bnd t fun x => if x = true then u else ret false : M Bool) z) Qz Xz := Eq.trans rfl rfl
theorem wu_TOr0 {t u : M Bool} {z : S} {Qz : Bool → S → Prop} {Xz : XQ} : Wp0 (TOr t u z) Qz Xz = Wp0 ((bnd t fun x => if x = true then ret true else u : M Bool) z) Qz Xz := Eq.trans rfl rfl
theorem wu_TYes0 {z : S} {Qz : Bool → S → Prop} {Xz : XQ} : Wp0 (TYes z) Qz Xz = Wp0 ((ret true : M Bool) z) Qz Xz := Eq.trans rfl rfl
theorem wu_TChain0 {f g : D → D → Option Rs} {a b k : M Rs} {z : S} {Qz : Rs → S → Prop} {Xz : XQ} : Wp0 (TChain f g a b k z) Qz Xz = Wp0 ((bnd a fun x => bnd b fun y => bnd (pk x) fun d => bnd (pk y) fun e => bnd (opt (f d e)) fun r => match r with
  | .v (.bl z) => if z = true then bnd k fun q => bnd (pk y) fun e2 => bnd (pk q) fun u => opt (g e2 u) else ret (.v (.bl false))
  | _ => fun _ => none : M Rs) z) Qz Xz := Eq.trans rfl rfl
theorem wu_TNil0 {z : S} {Qz : (List D) → S → Prop} {Xz : XQ} : Wp0 (TNil z) Qz Xz = Wp0 ((ret [] : M (List D)) z) Qz Xz := Eq.trans rfl rfl
theorem wu_TCons0 {a : M Rs} {t : M (List D)} {z : S} {Qz : (List D) → S → Prop} {Xz : XQ} : Wp0 (TCons a t z) Qz Xz = Wp0 ((bnd a fun x => bnd (stab x) fun d => bnd t fun ds => ret (d :: ds) : M (List D)) z) Qz Xz := Eq.trans rfl rfl
theorem wu_TStar0 {a : M Rs} {t : M (List D)} {z : S} {Qz : (List D) → S → Prop} {Xz : XQ} : Wp0 (TStar a t z) Qz Xz = Wp0 ((bnd a fun x => bnd (pk x) fun d => match d with
  | .list xs => bnd t fun ds => ret (xs ++ ds)
  | .tup xs => bnd t fun ds => ret (xs ++ ds)
  | .scr xs => bnd t fun ds => ret (xs ++ ds)
  | _ => fun _ => none : M (List D)) z) Qz Xz := Eq.trans rfl rfl
theorem wu_PNil0 {z : S} {Qz : (List Rs) → S → Prop} {Xz : XQ} : Wp0 (PNil z) Qz Xz = Wp0 ((ret [] : M (List Rs)) z) Qz Xz := Eq.trans rfl rfl
theorem wu_PCons0 {a : M Rs} {t : M (List Rs)} {z : S} {Qz : (List Rs) → S → Prop} {Xz : XQ} : Wp0 (PCons a t z) Qz Xz = Wp0 ((bnd a fun x => bnd t fun xs => ret (x :: xs) : M (List Rs)) z) Qz Xz := Eq.trans rfl rfl
theorem wu_TLst0 {t : M (List D)} {z : S} {Qz : Rs → S → Prop} {Xz : XQ} : Wp0 (TLst t z) Qz Xz = Wp0 ((bnd t fun ds => if fits ds.length = true then ret (.fr (.list ds)) else fun _ => none : M Rs) z) Qz Xz := Eq.trans rfl rfl
theorem wu_TTup0 {t : M (List D)} {z : S} {Qz : Rs → S → Prop} {Xz : XQ} : Wp0 (TTup t z) Qz Xz = Wp0 ((bnd t fun ds => if fits ds.length = true then ret (.fr (.tup ds)) else fun _ => none : M Rs) z) Qz Xz := Eq.trans rfl rfl
theorem wu_TCB0 {f : List D → Option Rs} {t : M (List Rs)} {z : S} {Qz : Rs → S → Prop} {Xz : XQ} : Wp0 (TCB f t z) Qz Xz = Wp0 ((bnd t fun rs => bnd (pks rs) fun ds => opt (f ds) : M Rs) z) Qz Xz := Eq.trans rfl rfl
theorem wu_TNext0 {z : S} {Qz : Fl → S → Prop} : Ws0 (TNext z) Qz = Ws0 ((fun s => some (.nx, s) : TSd) z) Qz := Eq.trans rfl rfl
theorem wu_TBreak0 {z : S} {Qz : Fl → S → Prop} : Ws0 (TBreak z) Qz = Ws0 ((fun s => some (.bk, s) : TSd) z) Qz := Eq.trans rfl rfl
theorem wu_TCont0 {z : S} {Qz : Fl → S → Prop} : Ws0 (TCont z) Qz = Ws0 ((fun s => some (.ct, s) : TSd) z) Qz := Eq.trans rfl rfl
theorem wu_TRet0 {T : M Rs} {z : S} {Qz : Fl → S → Prop} : Ws0 (TRet T z) Qz = Ws0 ((sb T fun r s => some (.rt r, s) : TSd) z) Qz := Eq.trans rfl rfl
theorem wu_TRetN0 {z : S} {Qz : Fl → S → Prop} : Ws0 (TRetN z) Qz = Ws0 ((fun s => some (.rt (.v .non), s) : TSd) z) Qz := Eq.trans rfl rfl
theorem wu_TDrop0 {T : M Rs} {z : S} {Qz : Fl → S → Prop} : Ws0 (TDrop T z) Qz = Ws0 ((sb T fun _ s => some (.nx, s) : TSd) z) Qz := Eq.trans rfl rfl
theorem wu_TIfS0 {t : M Bool} {T U : TSd} {z : S} {Qz : Fl → S → Prop} : Ws0 (TIfS t T U z) Qz = Ws0 ((sb t fun b => if b = true then T else U : TSd) z) Qz := Eq.trans rfl rfl
theorem wu_TAsg0 {T : M Rs} {i : Nat} {z : S} {Qz : Fl → S → Prop} : Ws0 (TAsg T i z) Qz = Ws0 ((sb T fun r => sb (res1 r) fun r s => nxt (asg i r s) : TSd) z) Qz := Eq.trans rfl rfl
theorem wu_TPar0 {is : List Nat} {T : M (List Rs)} {z : S} {Qz : Fl → S → Prop} : Ws0 (TPar is T z) Qz = Ws0 ((sb T fun rs => sb (res rs) fun rs s => nxt (asgs is rs s) : TSd) z) Qz := Eq.trans rfl rfl
theorem wu_ILst0 {T : M Rs} {z : S} {Qz : (List D) → S → Prop} {Xz : XQ} : Wp0 (ILst T z) Qz Xz = Wp0 ((bnd T fun r => bnd (stab r) fun d => opt (itemsL d) : M (List D)) z) Qz Xz := Eq.trans rfl rfl
theorem wu_ITup0 {T : M Rs} {z : S} {Qz : (List D) → S → Prop} {Xz : XQ} : Wp0 (ITup T z) Qz Xz = Wp0 ((bnd T fun r => bnd (stab r) fun d => opt (match d with | .tup ds => some ds | _ => none) : M (List D)) z) Qz Xz := Eq.trans rfl rfl
theorem wu_IStr0 {T : M Rs} {z : S} {Qz : (List D) → S → Prop} {Xz : XQ} : Wp0 (IStr T z) Qz Xz = Wp0 ((bnd T fun r => bnd (pk r) fun d => opt (match d with | .str z => some (z.cps.toList.map fun k => D.str ⟨#[k]⟩) | _ => none) : M (List D)) z) Qz Xz := Eq.trans rfl rfl
theorem wu_IRng10 {T : M (List D)} {z : S} {Qz : (List D) → S → Prop} {Xz : XQ} : Wp0 (IRng1 T z) Qz Xz = Wp0 ((bnd T fun ds => opt (match ds with | [.int j] => if smallI j = true then some (rngD 0 j.toNat) else none | _ => none) : M (List D)) z) Qz Xz := Eq.trans rfl rfl
theorem wu_IRng20 {T : M (List D)} {z : S} {Qz : (List D) → S → Prop} {Xz : XQ} : Wp0 (IRng2 T z) Qz Xz = Wp0 ((bnd T fun ds => opt (match ds with | [.int i, .int j] => if (smallI i && smallI j) = true then some (rngD i (j - i).toNat) else none | _ => none) : M (List D)) z) Qz Xz := Eq.trans rfl rfl
theorem wu_IEnum0 {T : M (List D)} {z : S} {Qz : (List D) → S → Prop} {Xz : XQ} : Wp0 (IEnum T z) Qz Xz = Wp0 ((bnd T fun ds => opt (match ds with | [d] => (itemsL d).map enumD | _ => none) : M (List D)) z) Qz Xz := Eq.trans rfl rfl
theorem wu_IZip0 {T : M (List D)} {z : S} {Qz : (List D) → S → Prop} {Xz : XQ} : Wp0 (IZip T z) Qz Xz = Wp0 ((bnd T fun ds => opt (match ds with | [a, b] => (match itemsL a, itemsL b with | some xs, some ys => some ((xs.zip ys).map fun p => D.tup [p.1, p.2]) | _, _ => none) | _ => none) : M (List D)) z) Qz Xz := Eq.trans rfl rfl
theorem wu_TBM0 {f : List D → D → Option (D × D)} {o : M Rs} {t : M (List D)} {z : S} {Qz : Rs → S → Prop} {Xz : XQ} : Wp0 (TBM f o t z) Qz Xz = Wp0 ((bnd o fun r => bnd (pk r) fun d => if isL d = true then bnd t fun ds => bnd (mutD r (f ds)) fun d => ret (.v d) else fun _ => none : M Rs) z) Qz Xz := Eq.trans rfl rfl
theorem wu_TBP0 {f : List D → D → Option (D × D)} {o : M Rs} {t : M (List Rs)} {z : S} {Qz : Rs → S → Prop} {Xz : XQ} : Wp0 (TBP f o t z) Qz Xz = Wp0 ((bnd o fun r => bnd (pk r) fun d => if isL d = true then bnd t fun rs => bnd (pks rs) fun ds => bnd (mutD r (f ds)) fun d => ret (.v d) else fun _ => none : M Rs) z) Qz Xz := Eq.trans rfl rfl
theorem wu_TAug0 {i : Nat} {f : D → D → Option Rs} {T : M Rs} {z : S} {Qz : Fl → S → Prop} : Ws0 (TAug i f T z) Qz = Ws0 ((sb (TVar i) fun x => sb T fun y => sb (bnd (pk x) fun d => bnd (pk y) fun e => opt (f d e)) fun r s => nxt (asg i r s) : TSd) z) Qz := Eq.trans rfl rfl
theorem wu_TSub0 {o i t : M Rs} {z : S} {Qz : Fl → S → Prop} : Ws0 (TSub o i t z) Qz = Ws0 ((sb t fun r => sb (stab r) fun d => sb o fun ro => sb i fun ri => sb (pk ri) fun k => sb (mutD ro fun l => match l, k with
  | .list xs, .int k => (ixN xs.length k).map fun j => ((), D.list (xs.set j d))
  | _, _ => none) fun _ s => some (.nx, s) : TSd) z) Qz := Eq.trans rfl rfl
theorem wu_TDPut0 {o i t : M Rs} {z : S} {Qz : Fl → S → Prop} : Ws0 (TDPut o i t z) Qz = Ws0 ((sb t fun r => sb (stab r) fun d => sb o fun ro => sb i fun ri => sb (pk ri) fun k => sb (mutD ro fun l => match l, toKey k with
  | .dict kvs, some k => if kvs.length < 16777216 then some ((), D.dict (putD kvs k d)) else none
  | _, _ => none) fun _ s => some (.nx, s) : TSd) z) Qz := Eq.trans rfl rfl
theorem wu_TFld0 {ok : Nat → Bool} {f : Str} {o t : M Rs} {z : S} {Qz : Fl → S → Prop} : Ws0 (TFld ok f o t z) Qz = Ws0 ((sb t fun r => sb (stab r) fun d => sb o fun ro => sb (mutD ro fun l => match l with
  | .obj k fs => if (ok k && decide (fs.length < 1000)) = true then some ((), D.obj k (putFd f d fs)) else none
  | _ => none) fun _ s => some (.nx, s) : TSd) z) Qz := Eq.trans rfl rfl
theorem wu_TFn0 {F : FT} {T : M (List D)} {z : S} {Qz : Rs → S → Prop} {Xz : XQ} : Wp0 (TFn F T z) Qz Xz = Wp0 ((bnd T fun ds => call F ds : M Rs) z) Qz Xz := Eq.trans rfl rfl
theorem wu_TFnK0 {F : FT} {n : Nat} {g : List D → List D} {T : M (List D)} {z : S} {Qz : Rs → S → Prop} {Xz : XQ} : Wp0 (TFnK F n g T z) Qz Xz = Wp0 ((bnd T fun ds => if ds.length = n then call F (g ds) else fun _ => none : M Rs) z) Qz Xz := Eq.trans rfl rfl
theorem wu_TMth0 {tab : Nat → Option FT} {m : Str} {o : M Rs} {T : M (List D)} {z : S} {Qz : Rs → S → Prop} {Xz : XQ} : Wp0 (TMth tab m o T z) Qz Xz = Wp0 ((bnd o fun r => bnd (stab r) fun d => bnd (pk (.v d)) fun d0 => meth tab m d0 fun F => bnd T fun ds => call F (d :: ds) : M Rs) z) Qz Xz := Eq.trans rfl rfl
theorem wu_TMthK0 {tab : Nat → Option FT} {m : Str} {n : Nat} {g : List D → List D} {o : M Rs} {T : M (List D)} {z : S} {Qz : Rs → S → Prop} {Xz : XQ} : Wp0 (TMthK tab m n g o T z) Qz Xz = Wp0 ((bnd o fun r => bnd (stab r) fun d => bnd (pk (.v d)) fun d0 => meth tab m d0 fun F => bnd T fun ds => if ds.length = n then call F (d :: g ds) else fun _ => none : M Rs) z) Qz Xz := Eq.trans rfl rfl
theorem wu_TAtt0 {tab : Nat → Option AK} {ct : Nat → Option D} {f : Str} {a : M Rs} {z : S} {Qz : Rs → S → Prop} {Xz : XQ} : Wp0 (TAtt tab ct f a z) Qz Xz = Wp0 ((bnd a fun r => bnd (pk r) fun d0 => bnd (opt (attD tab ct f d0)) fun d => ret (.v d) : M Rs) z) Qz Xz := Eq.trans rfl rfl
theorem wu_TAttE0 {tab : Nat → Option AK} {f : Str} {a : M Rs} {z : S} {Qz : Rs → S → Prop} {Xz : XQ} : Wp0 (TAttE tab f a z) Qz Xz = Wp0 ((bnd a fun r => bnd (pk r) fun d0 => bnd (opt (attE tab f d0)) fun d => ret (.v d) : M Rs) z) Qz Xz := Eq.trans rfl rfl
theorem wu_TNoP0 {z : S} {Qz : (Option Int) → S → Prop} {Xz : XQ} : Wp0 (TNoP z) Qz Xz = Wp0 ((ret none : M (Option Int)) z) Qz Xz := Eq.trans rfl rfl
theorem wu_TPart0 {a : M Rs} {z : S} {Qz : (Option Int) → S → Prop} {Xz : XQ} : Wp0 (TPart a z) Qz Xz = Wp0 ((bnd a fun r => bnd (pk r) fun d => bnd (opt (asI d)) fun i => ret (some i) : M (Option Int)) z) Qz Xz := Eq.trans rfl rfl
theorem wu_TSl0 {f : D → Option Int → Option Int → Option Rs} {a : M Rs} {lo hi : M (Option Int)} {z : S} {Qz : Rs → S → Prop} {Xz : XQ} : Wp0 (TSl f a lo hi z) Qz Xz = Wp0 ((bnd a fun r => bnd lo fun l => bnd hi fun h => bnd (pk r) fun d => opt (f d l h) : M Rs) z) Qz Xz := Eq.trans rfl rfl
theorem wu_TRevL0 {a : M Rs} {z : S} {Qz : Rs → S → Prop} {Xz : XQ} : Wp0 (TRevL a z) Qz Xz = Wp0 ((TUn revL a : M Rs) z) Qz Xz := Eq.trans rfl rfl
theorem wu_TDGet0 {a b : M Rs} {z : S} {Qz : Rs → S → Prop} {Xz : XQ} : Wp0 (TDGet a b z) Qz Xz = Wp0 ((bnd a fun x => bnd b fun y => bnd (pk x) fun d => bnd (pk y) fun k => bnd (opt (getD d k)) fun r => ret (.v r) : M Rs) z) Qz Xz := Eq.trans rfl rfl
theorem wu_TDNew0 {z : S} {Qz : Rs → S → Prop} {Xz : XQ} : Wp0 (TDNew z) Qz Xz = Wp0 ((ret (.fr (.dict [])) : M Rs) z) Qz Xz := Eq.trans rfl rfl
theorem wu_TIndex0 {o : M Rs} {t : M (List Rs)} {z : S} {Qz : Rs → S → Prop} {Xz : XQ} : Wp0 (TIndex o t z) Qz Xz = Wp0 ((bnd o fun r => bnd (pk r) fun d0 => if (itemsL d0).isSome = true then bnd t fun rs => bnd (pk r) fun d => bnd (pks rs) fun es => opt (indexD d es) else fun _ => none : M Rs) z) Qz Xz := Eq.trans rfl rfl
theorem wu_TAsgG0 {T : M Rs} {G : GD} {z : S} {Qz : Fl → S → Prop} : Ws0 (TAsgG T G z) Qz = Ws0 ((sb T fun r => sb (stab r) fun d s => nxt (G d s) : TSd) z) Qz := Eq.trans rfl rfl
theorem wu_TKeep0 {T : M Rs} {z : S} {Qz : Rs → S → Prop} {Xz : XQ} : Wp0 (TKeep T z) Qz Xz = Wp0 ((bnd T fun r s => match r with
  | .fr d => some (.ok (.v (.loc s.μ.length)), { s with μ := s.μ ++ [d] })
  | _ => none : M Rs) z) Qz Xz := Eq.trans rfl rfl
theorem wu_TSup0 {kid : Nat} {F : FT} {T : M (List D)} {z : S} {Qz : Rs → S → Prop} {Xz : XQ} : Wp0 (TSup kid F T z) Qz Xz = Wp0 ((bnd (TVar 0) fun r => bnd (stab r) fun d => bnd (pk (.v d)) fun d0 => match d0 with
  | .obj k _ => if k = kid then bnd T fun ds => call F (d :: ds) else fun _ => none
  | _ => fun _ => none : M Rs) z) Qz Xz := Eq.trans rfl rfl
theorem wu_TDct10 {a b : M Rs} {z : S} {Qz : Rs → S → Prop} {Xz : XQ} : Wp0 (TDct1 a b z) Qz Xz = Wp0 ((bnd a fun x => bnd (stab x) fun dk => bnd b fun y => bnd (stab y) fun dv => bnd (opt (toKey dk)) fun k => ret (.fr (.dict [(k, dv)])) : M Rs) z) Qz Xz := Eq.trans rfl rfl
theorem wu_TLenSet0 {a : M Rs} {z : S} {Qz : Rs → S → Prop} {Xz : XQ} : Wp0 (TLenSet a z) Qz Xz = Wp0 ((TUn lenSet a : M Rs) z) Qz Xz := Eq.trans rfl rfl
theorem wu_TRaise0 {k : Nat} {z : S} {Qz : Fl → S → Prop} : Ws0 (TRaise k z) Qz = Ws0 ((fun s => some (.ex ⟨k, []⟩, s) : TSd) z) Qz := Eq.trans rfl rfl
theorem wu_TRaiseF0 {k : Nat} {f : Str} {T : M Rs} {z : S} {Qz : Fl → S → Prop} : Ws0 (TRaiseF k f T z) Qz = Ws0 ((sb T fun r => sb (stab r) fun d s => some (.ex ⟨k, [(f, d)]⟩, s) : TSd) z) Qz := Eq.trans rfl rfl
-- wu end
theorem wp_meth0 {tab : Nat → Option FT} {m : Str} {c : Nat} {fs : List (Str × D)} {k : FT → M Rs} {s : S} {Q : Rs → S → Prop} {X : XQ} : Wp0 (meth tab m (.obj c fs) k s) Q X = (fs.lookup m = none ∧ ∃ F, tab c = some F ∧ Wp0 (k F s) Q X) := by
  unfold meth
  simp only
  by_cases h : (fs.lookup m).isNone = true
  · rw [if_pos h]
    have h' : fs.lookup m = none := by simpa using h
    cases e : tab c with
    | none => simp [Wp0]
    | some F => simp [h']
  · rw [if_neg h]
    have h' : ¬ fs.lookup m = none := by simpa using h
    simp [Wp0, h']
end Z
/-! laws on lists of texts, slices -/
namespace Z
open PySem PySem.Spec PyProof.Rows L2 U ClX
variable {zs : List Str} {z : Str}
theorem flat_strs : (zs.map D.str).all flatD = true := by rw [List.all_eq_true]; intro d hd; obtain ⟨z, _, rfl⟩ := List.mem_map.mp hd; rfl
theorem inF_strs : inF (.str z) (zs.map D.str) = decide (z ∈ zs) := by
  unfold inF
  induction zs with
  | nil => rfl
  | cons y ys ih =>
    rw [List.map_cons, List.any_cons, ih]
    show ((y == z) || _) = _
    by_cases e : y = z
    · subst e; simp
    · have e' : ¬ z = y := fun h => e h.symm
      simp [e, e']
theorem inL_strs : inL (.str z) (zs.map D.str) = some (decide (z ∈ zs)) := by
  unfold inL
  rw [if_pos (by rw [flat_strs]; rfl), inF_strs]
theorem vIn_strs : vIn (.str z) (.list (zs.map D.str)) = some (.v (.bl (decide (z ∈ zs)))) := by
  show (inL (.str z) (zs.map D.str)).map _ = _
  rw [inL_strs]; rfl
theorem vNotIn_strs : vNotIn (.str z) (.list (zs.map D.str)) = some (.v (.bl (!decide (z ∈ zs)))) := by
  show (inL (.str z) (zs.map D.str)).map _ = _
  rw [inL_strs]; rfl
def ix : List Str → Str → Nat
  | [], _ => 0
  | y :: ys, z => if y = z then 0 else ix ys z + 1
theorem ix_lt : ∀ {zs : List Str} {z : Str}, z ∈ zs → ix zs z < zs.length
  | y :: ys, z, h => by
    unfold ix
    by_cases e : y = z
    · rw [if_pos e]; exact Nat.zero_lt_succ _
    · rw [if_neg e]
      exact Nat.succ_lt_succ (ix_lt ((List.mem_cons.mp h).resolve_left fun h => e h.symm))
theorem ixF_strs : ∀ {zs : List Str} {z : Str} {n : Nat}, z ∈ zs → ixF (.str z) (zs.map D.str) n = some (n + ix zs z)
  | y :: ys, z, n, h => by
    show (if (y == z) = true then some n else ixF (.str z) (ys.map D.str) (n + 1)) = _
    unfold ix
    by_cases e : y = z
    · rw [if_pos e, if_pos (by simp [e])]; rfl
    · rw [if_neg e, if_neg (by simp [e]), ixF_strs ((List.mem_cons.mp h).resolve_left fun h => e h.symm)]
      congr 1; omega
theorem index_strs (h : z ∈ zs) : indexD (.list (zs.map D.str)) [.str z] = some (.v (.int (ix zs z : Nat))) := by
  show (if (flatD (.str z) && (zs.map D.str).all flatD) = true then _ else _) = _
  rw [if_pos (by rw [flat_strs]; rfl), ixF_strs h, Nat.zero_add]; rfl
section
variable {α β : Type} {xs : List α} {i : Nat}
theorem cutL_map {f : α → β} {lo hi : Option Int} : cutL (xs.map f) lo hi = (cutL xs lo hi).map f := by
  unfold cutL
  rw [List.length_map, ← List.map_drop, ← List.map_take]
theorem cutL_to : cutL xs none (some (i : Int)) = xs.take i := by
  unfold cutL
  rw [HT.sIx_none, HT.sIx_nat, Nat.sub_zero, List.drop_zero]
  by_cases h : i ≤ xs.length
  · rw [Nat.min_eq_left h]
  · rw [Nat.min_eq_right (by omega), List.take_length, List.take_of_length_le (by omega)]
theorem cutL_from : cutL xs (some (i : Int)) none = xs.drop i := by
  unfold cutL
  rw [HT.sIx_none, HT.sIx_nat]
  by_cases h : i ≤ xs.length
  · rw [Nat.min_eq_left h, List.take_of_length_le (by rw [List.length_drop]; omega)]
  · rw [Nat.min_eq_right (by omega), Nat.sub_self, List.take_zero, List.drop_of_length_le (by omega)]
end
/-! len(set(..)) -/
theorem ddS_new {acc : List Str} {x : Str} (h : x ∉ acc) : ddS acc x = acc ++ [x] := by
  unfold ddS
  rw [if_neg]
  rw [List.any_eq_true]
  rintro ⟨y, hy, e⟩
  exact h (by rw [beq_iff_eq] at e; rw [← e]; exact hy)
theorem dd_nodup {xs : List Str} (h : xs.Nodup) : dd xs = xs := by
  unfold dd
  suffices q : ∀ (l acc : List Str), (acc ++ l).Nodup → l.foldl ddS acc = acc ++ l by simpa using q xs [] (by simpa using h)
  intro l
  induction l with
  | nil => intro acc _; simp
  | cons x l ih =>
    intro acc nd
    rw [List.foldl_cons, ddS_new]
    · rw [ih (acc ++ [x]) (by simpa using nd)]; simp
    · intro hx
      have := List.nodup_append.mp nd
      exact this.2.2 x hx x List.mem_cons_self rfl
theorem lenSet_nd {zs : List Str} (h : zs.Nodup) (hl : zs.length ≤ 1000) : lenSet (.list (zs.map D.str)) = some (.v (.int zs.length)) := by
  unfold lenSet
  have : (zs.map D.str).mapM asS = some zs := by
    clear h hl
    induction zs with
    | nil => rfl
    | cons x xs ih => rw [List.map_cons, List.mapM_cons, ih]; rfl
  simp only [this, Option.bind_some]
  rw [if_pos hl, dd_nodup h]
/-! dict comprehensions -/
end Z
/-! the rules over predicates that nothing unfolds -/
namespace Z
open PySem PySem.Spec PyProof.Rows L2 U ClX
@[irreducible] def Wp {β : Type} (o : Option (Rz β × S)) (Q : β → S → Prop) (X : XQ) : Prop := Wp0 o Q X
@[irreducible] def Ws (o : Option (Fl × S)) (Q : Fl → S → Prop) : Prop := Ws0 o Q
@[irreducible] def Wf (o : Option (Rz Rs × List D)) (Q : Rs → List D → Prop) (X : XF) : Prop := Wf0 o Q X
theorem Wp_eq {β : Type} {o : Option (Rz β × S)} {Q : β → S → Prop} {X : XQ} : Wp o Q X = Wp0 o Q X := by unfold Wp; rfl
theorem Ws_eq {o : Option (Fl × S)} {Q : Fl → S → Prop} : Ws o Q = Ws0 o Q := by unfold Ws; rfl
theorem Wf_eq {o : Option (Rz Rs × List D)} {Q : Rs → List D → Prop} {X : XF} : Wf o Q X = Wf0 o Q X := by unfold Wf; rfl
@[irreducible] def sqQ (U : TSd) (Q : Fl → S → Prop) : Fl → S → Prop := sqQ0 U Q
theorem sqQ_eq {U : TSd} {Q : Fl → S → Prop} : sqQ U Q = sqQ0 U Q := by unfold sqQ; rfl
@[irreducible] def tryX (b : Option Bool) (i : Nat) (U : TSd) (Q : Fl → S → Prop) : Xn → S → Prop := tryX0 b i U Q
theorem tryX_eq {b : Option Bool} {i : Nat} {U : TSd} {Q : Fl → S → Prop} : tryX b i U Q = tryX0 b i U Q := by unfold tryX; rfl
@[irreducible] def tryQ (h : Nat → Option Bool) (i : Nat) (U : TSd) (Q : Fl → S → Prop) : Fl → S → Prop := tryQ0 h i U Q
theorem tryQ_eq {h : Nat → Option Bool} {i : Nat} {U : TSd} {Q : Fl → S → Prop} : tryQ h i U Q = tryQ0 h i U Q := by unfold tryQ; rfl
section
variable {β γ : Type} {s : S} {Q : β → S → Prop} {X : XQ}
theorem wp_bnd {m : M β} {k : β → M γ} {Q : γ → S → Prop} : Wp (bnd m k s) Q X = Wp (m s) (fun b s1 => Wp (k b s1) Q X) X := by
  first
    | exact wp_bnd0 
    | (simp only [Wp_eq, Ws_eq, Wf_eq, sqQ_eq, tryX_eq, tryQ_eq] at *; exact wp_bnd0 )
    | (simp only [Wp_eq, Ws_eq, Wf_eq, sqQ_eq, tryX_eq, tryQ_eq]; exact wp_bnd0 )
theorem wp_ret {b : β} : Wp (ret b s) Q X = Q b s := by
  first
    | exact wp_ret0 
    | (simp only [Wp_eq, Ws_eq, Wf_eq, sqQ_eq, tryX_eq, tryQ_eq] at *; exact wp_ret0 )
    | (simp only [Wp_eq, Ws_eq, Wf_eq, sqQ_eq, tryX_eq, tryQ_eq]; exact wp_ret0 )
theorem wp_some {b : β} : Wp (some (.ok b, s)) Q X = Q b s := by
  first
    | exact wp_some0 
    | (simp only [Wp_eq, Ws_eq, Wf_eq, sqQ_eq, tryX_eq, tryQ_eq] at *; exact wp_some0 )
    | (simp only [Wp_eq, Ws_eq, Wf_eq, sqQ_eq, tryX_eq, tryQ_eq]; exact wp_some0 )
theorem wp_opt {o : Option β} : Wp (opt o s) Q X = ∃ b, o = some b ∧ Q b s := by
  first
    | exact wp_opt0 
    | (simp only [Wp_eq, Ws_eq, Wf_eq, sqQ_eq, tryX_eq, tryQ_eq] at *; exact wp_opt0 )
    | (simp only [Wp_eq, Ws_eq, Wf_eq, sqQ_eq, tryX_eq, tryQ_eq]; exact wp_opt0 )
theorem wp_pk {r : Rs} {Q : D → S → Prop} : Wp (pk r s) Q X = ∃ d, peek s r = some d ∧ Q d s := by
  first
    | exact wp_pk0 
    | (simp only [Wp_eq, Ws_eq, Wf_eq, sqQ_eq, tryX_eq, tryQ_eq] at *; exact wp_pk0 )
    | (simp only [Wp_eq, Ws_eq, Wf_eq, sqQ_eq, tryX_eq, tryQ_eq]; exact wp_pk0 )
theorem wp_pks_nil {Q : List D → S → Prop} : Wp (pks [] s) Q X = Q [] s := by
  first
    | exact wp_pks_nil0 
    | (simp only [Wp_eq, Ws_eq, Wf_eq, sqQ_eq, tryX_eq, tryQ_eq] at *; exact wp_pks_nil0 )
    | (simp only [Wp_eq, Ws_eq, Wf_eq, sqQ_eq, tryX_eq, tryQ_eq]; exact wp_pks_nil0 )
theorem wp_pks_cons {r : Rs} {rs : List Rs} {Q : List D → S → Prop} : Wp (pks (r :: rs) s) Q X = ∃ d, peek s r = some d ∧ Wp (pks rs s) (fun ds s1 => Q (d :: ds) s1) X := by
  first
    | exact wp_pks_cons0 
    | (simp only [Wp_eq, Ws_eq, Wf_eq, sqQ_eq, tryX_eq, tryQ_eq] at *; exact wp_pks_cons0 )
    | (simp only [Wp_eq, Ws_eq, Wf_eq, sqQ_eq, tryX_eq, tryQ_eq]; exact wp_pks_cons0 )
theorem wp_ite {c : Prop} [Decidable c] {a b : M β} : Wp ((if c then a else b) s) Q X = if c then Wp (a s) Q X else Wp (b s) Q X := by
  first
    | exact wp_ite0 
    | (simp only [Wp_eq, Ws_eq, Wf_eq, sqQ_eq, tryX_eq, tryQ_eq] at *; exact wp_ite0 )
    | (simp only [Wp_eq, Ws_eq, Wf_eq, sqQ_eq, tryX_eq, tryQ_eq]; exact wp_ite0 )
theorem ws_ite {c : Prop} [Decidable c] {a b : TSd} {Q : Fl → S → Prop} : Ws ((if c then a else b) s) Q = if c then Ws (a s) Q else Ws (b s) Q := by
  first
    | exact ws_ite0 
    | (simp only [Wp_eq, Ws_eq, Wf_eq, sqQ_eq, tryX_eq, tryQ_eq] at *; exact ws_ite0 )
    | (simp only [Wp_eq, Ws_eq, Wf_eq, sqQ_eq, tryX_eq, tryQ_eq]; exact ws_ite0 )
theorem ws_sb {m : M β} {k : β → TSd} {Q : Fl → S → Prop} : Ws (sb m k s) Q = Wp (m s) (fun b s1 => Ws (k b s1) Q) (fun x s1 => Q (.ex x) s1) := by
  first
    | exact ws_sb0 
    | (simp only [Wp_eq, Ws_eq, Wf_eq, sqQ_eq, tryX_eq, tryQ_eq] at *; exact ws_sb0 )
    | (simp only [Wp_eq, Ws_eq, Wf_eq, sqQ_eq, tryX_eq, tryQ_eq]; exact ws_sb0 )
theorem ws_some {f : Fl} {Q : Fl → S → Prop} : Ws (some (f, s)) Q = Q f s := by
  first
    | exact ws_some0 
    | (simp only [Wp_eq, Ws_eq, Wf_eq, sqQ_eq, tryX_eq, tryQ_eq] at *; exact ws_some0 )
    | (simp only [Wp_eq, Ws_eq, Wf_eq, sqQ_eq, tryX_eq, tryQ_eq]; exact ws_some0 )
theorem sqQ_nx {U : TSd} {Q : Fl → S → Prop} : sqQ U Q .nx s = Ws (U s) Q := by
  first
    | exact sqQ_nx0 
    | (simp only [Wp_eq, Ws_eq, Wf_eq, sqQ_eq, tryX_eq, tryQ_eq] at *; exact sqQ_nx0 )
    | (simp only [Wp_eq, Ws_eq, Wf_eq, sqQ_eq, tryX_eq, tryQ_eq]; exact sqQ_nx0 )
theorem sqQ_rt {U : TSd} {Q : Fl → S → Prop} {r : Rs} : sqQ U Q (.rt r) s = Q (.rt r) s := by
  first
    | exact sqQ_rt0 
    | (simp only [Wp_eq, Ws_eq, Wf_eq, sqQ_eq, tryX_eq, tryQ_eq] at *; exact sqQ_rt0 )
    | (simp only [Wp_eq, Ws_eq, Wf_eq, sqQ_eq, tryX_eq, tryQ_eq]; exact sqQ_rt0 )
theorem sqQ_bk {U : TSd} {Q : Fl → S → Prop} : sqQ U Q .bk s = Q .bk s := by
  first
    | exact sqQ_bk0 
    | (simp only [Wp_eq, Ws_eq, Wf_eq, sqQ_eq, tryX_eq, tryQ_eq] at *; exact sqQ_bk0 )
    | (simp only [Wp_eq, Ws_eq, Wf_eq, sqQ_eq, tryX_eq, tryQ_eq]; exact sqQ_bk0 )
theorem sqQ_ct {U : TSd} {Q : Fl → S → Prop} : sqQ U Q .ct s = Q .ct s := by
  first
    | exact sqQ_ct0 
    | (simp only [Wp_eq, Ws_eq, Wf_eq, sqQ_eq, tryX_eq, tryQ_eq] at *; exact sqQ_ct0 )
    | (simp only [Wp_eq, Ws_eq, Wf_eq, sqQ_eq, tryX_eq, tryQ_eq]; exact sqQ_ct0 )
theorem sqQ_ex {U : TSd} {Q : Fl → S → Prop} {x : Xn} : sqQ U Q (.ex x) s = Q (.ex x) s := by
  first
    | exact sqQ_ex0 
    | (simp only [Wp_eq, Ws_eq, Wf_eq, sqQ_eq, tryX_eq, tryQ_eq] at *; exact sqQ_ex0 )
    | (simp only [Wp_eq, Ws_eq, Wf_eq, sqQ_eq, tryX_eq, tryQ_eq]; exact sqQ_ex0 )
theorem ws_seq {T U : TSd} {Q : Fl → S → Prop} : Ws (TSeq T U s) Q = Ws (T s) (sqQ U Q) := by
  first
    | exact ws_seq0 
    | (simp only [Wp_eq, Ws_eq, Wf_eq, sqQ_eq, tryX_eq, tryQ_eq] at *; exact ws_seq0 )
    | (simp only [Wp_eq, Ws_eq, Wf_eq, sqQ_eq, tryX_eq, tryQ_eq]; exact ws_seq0 )
theorem ws_nxt {o : Option S} {Q : Fl → S → Prop} : Ws (nxt o) Q = ∃ s', o = some s' ∧ Q .nx s' := by
  first
    | exact ws_nxt0 
    | (simp only [Wp_eq, Ws_eq, Wf_eq, sqQ_eq, tryX_eq, tryQ_eq] at *; exact ws_nxt0 )
    | (simp only [Wp_eq, Ws_eq, Wf_eq, sqQ_eq, tryX_eq, tryQ_eq]; exact ws_nxt0 )
theorem wp_call {F : FT} {ds : List D} {Q : Rs → S → Prop} : Wp (call F ds s) Q X = Wf (F ds s.μ) (fun r μ => Q r ⟨s.env, μ⟩) (fun x μ => X x ⟨s.env, μ⟩) := by
  first
    | exact wp_call0 
    | (simp only [Wp_eq, Ws_eq, Wf_eq, sqQ_eq, tryX_eq, tryQ_eq] at *; exact wp_call0 )
    | (simp only [Wp_eq, Ws_eq, Wf_eq, sqQ_eq, tryX_eq, tryQ_eq]; exact wp_call0 )
theorem wf_run {m n : Nat} {T : TSd} {ds : List D} {μ : List D} {Q : Rs → List D → Prop} {X : XF} (h : ds.length = m) (w : Ws (T ⟨env0 n ds, μ⟩) (outQ Q X)) : Wf (runF m n T ds μ) Q X := by
  first
    | exact wf_run0 h w
    | (simp only [Wp_eq, Ws_eq, Wf_eq, sqQ_eq, tryX_eq, tryQ_eq] at *; exact wf_run0 h w)
    | (simp only [Wp_eq, Ws_eq, Wf_eq, sqQ_eq, tryX_eq, tryQ_eq]; exact wf_run0 h w)
theorem wf_runI {m n k : Nat} {T : TSd} {ds : List D} {μ : List D} {Q : Rs → List D → Prop} {X : XF} (h : ds.length + 1 = m) (w : Ws (T ⟨envI n k ds, μ⟩) (outIQ Q X)) : Wf (runI m n k T ds μ) Q X := by
  first
    | exact wf_runI0 h w
    | (simp only [Wp_eq, Ws_eq, Wf_eq, sqQ_eq, tryX_eq, tryQ_eq] at *; exact wf_runI0 h w)
    | (simp only [Wp_eq, Ws_eq, Wf_eq, sqQ_eq, tryX_eq, tryQ_eq]; exact wf_runI0 h w)
theorem wf_v {d : D} {μ : List D} {Q : Rs → List D → Prop} {X : XF} : Wf (some (.ok (.v d), μ)) Q X = Q (.v d) μ := by
  first
    | exact wf_v0 
    | (simp only [Wp_eq, Ws_eq, Wf_eq, sqQ_eq, tryX_eq, tryQ_eq] at *; exact wf_v0 )
    | (simp only [Wp_eq, Ws_eq, Wf_eq, sqQ_eq, tryX_eq, tryQ_eq]; exact wf_v0 )
theorem wf_fr {d : D} {μ : List D} {Q : Rs → List D → Prop} {X : XF} : Wf (some (.ok (.fr d), μ)) Q X = Q (.fr d) μ := by
  first
    | exact wf_fr0 
    | (simp only [Wp_eq, Ws_eq, Wf_eq, sqQ_eq, tryX_eq, tryQ_eq] at *; exact wf_fr0 )
    | (simp only [Wp_eq, Ws_eq, Wf_eq, sqQ_eq, tryX_eq, tryQ_eq]; exact wf_fr0 )
theorem wp_mono {o : Option (Rz β × S)} {Q Q' : β → S → Prop} {X : XQ} (h : Wp o Q X) (q : ∀ r μ, Q r μ → Q' r μ) : Wp o Q' X := by
  first
    | exact wp_mono0 h q
    | (simp only [Wp_eq, Ws_eq, Wf_eq, sqQ_eq, tryX_eq, tryQ_eq] at *; exact wp_mono0 h q)
    | (simp only [Wp_eq, Ws_eq, Wf_eq, sqQ_eq, tryX_eq, tryQ_eq]; exact wp_mono0 h q)
theorem wf_eq {o : Option (Rz Rs × List D)} {d : D} (h : Wf o (fun r μ => r = .v d) fun _ _ => False) : ∃ μ, o = some (.ok (.v d), μ) := by
  first
    | exact wf_eq0 h
    | (simp only [Wp_eq, Ws_eq, Wf_eq, sqQ_eq, tryX_eq, tryQ_eq] at *; exact wf_eq0 h)
    | (simp only [Wp_eq, Ws_eq, Wf_eq, sqQ_eq, tryX_eq, tryQ_eq]; exact wf_eq0 h)
variable {d : D} {ds : List D} {i : Nat} {z : Str} {k : Int} {b : Bool}
theorem wp_stab_v {Q : D → S → Prop} : Wp (stab (.v d) s) Q X = Q d s := by
  first
    | exact wp_stab_v0 
    | (simp only [Wp_eq, Ws_eq, Wf_eq, sqQ_eq, tryX_eq, tryQ_eq] at *; exact wp_stab_v0 )
    | (simp only [Wp_eq, Ws_eq, Wf_eq, sqQ_eq, tryX_eq, tryQ_eq]; exact wp_stab_v0 )
theorem wp_stab_fr {Q : D → S → Prop} : Wp (stab (.fr d) s) Q X = Q d s := by
  first
    | exact wp_stab_fr0 
    | (simp only [Wp_eq, Ws_eq, Wf_eq, sqQ_eq, tryX_eq, tryQ_eq] at *; exact wp_stab_fr0 )
    | (simp only [Wp_eq, Ws_eq, Wf_eq, sqQ_eq, tryX_eq, tryQ_eq]; exact wp_stab_fr0 )
theorem wp_stab_al {Q : D → S → Prop} : Wp (stab (.al i) s) Q X = stabQ s.env[i]? i s Q := by
  first
    | exact wp_stab_al0 
    | (simp only [Wp_eq, Ws_eq, Wf_eq, sqQ_eq, tryX_eq, tryQ_eq] at *; exact wp_stab_al0 )
    | (simp only [Wp_eq, Ws_eq, Wf_eq, sqQ_eq, tryX_eq, tryQ_eq]; exact wp_stab_al0 )
theorem stabQ_o {s : S} {Q : D → S → Prop} : stabQ (some (some (.o d))) i s Q = Q d ⟨s.env.set i (some (.s d)), s.μ⟩ := by
  first
    | exact stabQ_o0 
    | (simp only [Wp_eq, Ws_eq, Wf_eq, sqQ_eq, tryX_eq, tryQ_eq] at *; exact stabQ_o0 )
    | (simp only [Wp_eq, Ws_eq, Wf_eq, sqQ_eq, tryX_eq, tryQ_eq]; exact stabQ_o0 )
theorem stabQ_s {s : S} {Q : D → S → Prop} : stabQ (some (some (.s d))) i s Q = Q d s := by
  first
    | exact stabQ_s0 
    | (simp only [Wp_eq, Ws_eq, Wf_eq, sqQ_eq, tryX_eq, tryQ_eq] at *; exact stabQ_s0 )
    | (simp only [Wp_eq, Ws_eq, Wf_eq, sqQ_eq, tryX_eq, tryQ_eq]; exact stabQ_s0 )
theorem wp_Var {Q : Rs → S → Prop} : Wp (TVar i s) Q X = varQ s.env[i]? i s Q := by
  first
    | exact wp_Var0 
    | (simp only [Wp_eq, Ws_eq, Wf_eq, sqQ_eq, tryX_eq, tryQ_eq] at *; exact wp_Var0 )
    | (simp only [Wp_eq, Ws_eq, Wf_eq, sqQ_eq, tryX_eq, tryQ_eq]; exact wp_Var0 )
theorem varQ_s {s : S} {Q : Rs → S → Prop} : varQ (some (some (.s d))) i s Q = Q (.v d) s := by
  first
    | exact varQ_s0 
    | (simp only [Wp_eq, Ws_eq, Wf_eq, sqQ_eq, tryX_eq, tryQ_eq] at *; exact varQ_s0 )
    | (simp only [Wp_eq, Ws_eq, Wf_eq, sqQ_eq, tryX_eq, tryQ_eq]; exact varQ_s0 )
theorem varQ_o {s : S} {Q : Rs → S → Prop} : varQ (some (some (.o d))) i s Q = Q (.al i) s := by
  first
    | exact varQ_o0 
    | (simp only [Wp_eq, Ws_eq, Wf_eq, sqQ_eq, tryX_eq, tryQ_eq] at *; exact varQ_o0 )
    | (simp only [Wp_eq, Ws_eq, Wf_eq, sqQ_eq, tryX_eq, tryQ_eq]; exact varQ_o0 )
theorem wp_asB_bl {Q : Bool → S → Prop} : Wp (asB (.bl b) s) Q X = Q b s := by
  first
    | exact wp_asB_bl0 
    | (simp only [Wp_eq, Ws_eq, Wf_eq, sqQ_eq, tryX_eq, tryQ_eq] at *; exact wp_asB_bl0 )
    | (simp only [Wp_eq, Ws_eq, Wf_eq, sqQ_eq, tryX_eq, tryQ_eq]; exact wp_asB_bl0 )
end
theorem mutQ_o {β : Type} {i : Nat} {s : S} {d : D} {f : D → Option (β × D)} {Q : β → S → Prop} : mutQ (some (some (.o d))) i s f Q = ∃ b d', f d = some (b, d') ∧ Q b ⟨s.env.set i (some (.o d')), s.μ⟩ := by
  first
    | exact mutQ_o0 
    | (simp only [Wp_eq, Ws_eq, Wf_eq, sqQ_eq, tryX_eq, tryQ_eq] at *; exact mutQ_o0 )
    | (simp only [Wp_eq, Ws_eq, Wf_eq, sqQ_eq, tryX_eq, tryQ_eq]; exact mutQ_o0 )
theorem wp_mut_al {β : Type} {i : Nat} {s : S} {f : D → Option (β × D)} {Q : β → S → Prop} {X : XQ} : Wp (mutD (.al i) f s) Q X = mutQ s.env[i]? i s f Q := by
  first
    | exact wp_mut_al0 
    | (simp only [Wp_eq, Ws_eq, Wf_eq, sqQ_eq, tryX_eq, tryQ_eq] at *; exact wp_mut_al0 )
    | (simp only [Wp_eq, Ws_eq, Wf_eq, sqQ_eq, tryX_eq, tryQ_eq]; exact wp_mut_al0 )
theorem wp_mut_loc {β : Type} {n : Nat} {s : S} {f : D → Option (β × D)} {Q : β → S → Prop} {X : XQ} : Wp (mutD (.v (.loc n)) f s) Q X = ∃ d, s.μ[n]? = some d ∧ ∃ b d', f d = some (b, d') ∧ Q b ⟨s.env, s.μ.set n d'⟩ := by
  first
    | exact wp_mut_loc0 
    | (simp only [Wp_eq, Ws_eq, Wf_eq, sqQ_eq, tryX_eq, tryQ_eq] at *; exact wp_mut_loc0 )
    | (simp only [Wp_eq, Ws_eq, Wf_eq, sqQ_eq, tryX_eq, tryQ_eq]; exact wp_mut_loc0 )
theorem endQ_rt {i : Nat} {Q : Fl → S → Prop} {r : Rs} {s : S} : endQ i Q (.rt r) s = Q (.rt r) s := by
  first
    | exact endQ_rt0 
    | (simp only [Wp_eq, Ws_eq, Wf_eq, sqQ_eq, tryX_eq, tryQ_eq] at *; exact endQ_rt0 )
    | (simp only [Wp_eq, Ws_eq, Wf_eq, sqQ_eq, tryX_eq, tryQ_eq]; exact endQ_rt0 )
theorem endQ_nx {i : Nat} {Q : Fl → S → Prop} {s : S} : endQ i Q .nx s = Q .nx ⟨s.env.set i none, s.μ⟩ := by
  first
    | exact endQ_nx0 
    | (simp only [Wp_eq, Ws_eq, Wf_eq, sqQ_eq, tryX_eq, tryQ_eq] at *; exact endQ_nx0 )
    | (simp only [Wp_eq, Ws_eq, Wf_eq, sqQ_eq, tryX_eq, tryQ_eq]; exact endQ_nx0 )
theorem tryX_t {i : Nat} {U : TSd} {Q : Fl → S → Prop} {x : Xn} {s1 : S} : tryX (some true) i U Q x s1 = (i < s1.env.length ∧ Ws (U ⟨s1.env.set i (some (.s (.exc x.c x.fs))), s1.μ⟩) (endQ i Q)) := by
  first
    | exact tryX_t0 
    | (simp only [Wp_eq, Ws_eq, Wf_eq, sqQ_eq, tryX_eq, tryQ_eq] at *; exact tryX_t0 )
    | (simp only [Wp_eq, Ws_eq, Wf_eq, sqQ_eq, tryX_eq, tryQ_eq]; exact tryX_t0 )
theorem tryX_f {i : Nat} {U : TSd} {Q : Fl → S → Prop} {x : Xn} {s1 : S} : tryX (some false) i U Q x s1 = Q (.ex x) s1 := by
  first
    | exact tryX_f0 
    | (simp only [Wp_eq, Ws_eq, Wf_eq, sqQ_eq, tryX_eq, tryQ_eq] at *; exact tryX_f0 )
    | (simp only [Wp_eq, Ws_eq, Wf_eq, sqQ_eq, tryX_eq, tryQ_eq]; exact tryX_f0 )
theorem tryQ_ex {h : Nat → Option Bool} {i : Nat} {U : TSd} {Q : Fl → S → Prop} {x : Xn} {s : S} : tryQ h i U Q (.ex x) s = tryX (h x.c) i U Q x s := by
  first
    | exact tryQ_ex0 
    | (simp only [Wp_eq, Ws_eq, Wf_eq, sqQ_eq, tryX_eq, tryQ_eq] at *; exact tryQ_ex0 )
    | (simp only [Wp_eq, Ws_eq, Wf_eq, sqQ_eq, tryX_eq, tryQ_eq]; exact tryQ_ex0 )
theorem tryQ_nx {h : Nat → Option Bool} {i : Nat} {U : TSd} {Q : Fl → S → Prop} {s : S} : tryQ h i U Q .nx s = Q .nx s := by
  first
    | exact tryQ_nx0 
    | (simp only [Wp_eq, Ws_eq, Wf_eq, sqQ_eq, tryX_eq, tryQ_eq] at *; exact tryQ_nx0 )
    | (simp only [Wp_eq, Ws_eq, Wf_eq, sqQ_eq, tryX_eq, tryQ_eq]; exact tryQ_nx0 )
theorem tryQ_rt {h : Nat → Option Bool} {i : Nat} {U : TSd} {Q : Fl → S → Prop} {r : Rs} {s : S} : tryQ h i U Q (.rt r) s = Q (.rt r) s := by
  first
    | exact tryQ_rt0 
    | (simp only [Wp_eq, Ws_eq, Wf_eq, sqQ_eq, tryX_eq, tryQ_eq] at *; exact tryQ_rt0 )
    | (simp only [Wp_eq, Ws_eq, Wf_eq, sqQ_eq, tryX_eq, tryQ_eq]; exact tryQ_rt0 )
theorem tryQ_bk {h : Nat → Option Bool} {i : Nat} {U : TSd} {Q : Fl → S → Prop} {s : S} : tryQ h i U Q .bk s = Q .bk s := by
  first
    | exact tryQ_bk0 
    | (simp only [Wp_eq, Ws_eq, Wf_eq, sqQ_eq, tryX_eq, tryQ_eq] at *; exact tryQ_bk0 )
    | (simp only [Wp_eq, Ws_eq, Wf_eq, sqQ_eq, tryX_eq, tryQ_eq]; exact tryQ_bk0 )
theorem tryQ_ct {h : Nat → Option Bool} {i : Nat} {U : TSd} {Q : Fl → S → Prop} {s : S} : tryQ h i U Q .ct s = Q .ct s := by
  first
    | exact tryQ_ct0 
    | (simp only [Wp_eq, Ws_eq, Wf_eq, sqQ_eq, tryX_eq, tryQ_eq] at *; exact tryQ_ct0 )
    | (simp only [Wp_eq, Ws_eq, Wf_eq, sqQ_eq, tryX_eq, tryQ_eq]; exact tryQ_ct0 )
theorem ws_try {h : Nat → Option Bool} {i : Nat} {T U : TSd} {Q : Fl → S → Prop} {s : S} : Ws (TTry T h i U s) Q = Ws (T s) (tryQ h i U Q) := by
  first
    | exact ws_try0 
    | (simp only [Wp_eq, Ws_eq, Wf_eq, sqQ_eq, tryX_eq, tryQ_eq] at *; exact ws_try0 )
    | (simp only [Wp_eq, Ws_eq, Wf_eq, sqQ_eq, tryX_eq, tryQ_eq]; exact ws_try0 )
theorem forQ_nx {I : S → Prop} {Q : Fl → S → Prop} {s : S} : forQ I Q .nx s = I s := by
  first
    | exact forQ_nx0 
    | (simp only [Wp_eq, Ws_eq, Wf_eq, sqQ_eq, tryX_eq, tryQ_eq] at *; exact forQ_nx0 )
    | (simp only [Wp_eq, Ws_eq, Wf_eq, sqQ_eq, tryX_eq, tryQ_eq]; exact forQ_nx0 )
theorem forQ_ct {I : S → Prop} {Q : Fl → S → Prop} {s : S} : forQ I Q .ct s = I s := by
  first
    | exact forQ_ct0 
    | (simp only [Wp_eq, Ws_eq, Wf_eq, sqQ_eq, tryX_eq, tryQ_eq] at *; exact forQ_ct0 )
    | (simp only [Wp_eq, Ws_eq, Wf_eq, sqQ_eq, tryX_eq, tryQ_eq]; exact forQ_ct0 )
theorem forQ_bk {I : S → Prop} {Q : Fl → S → Prop} {s : S} : forQ I Q .bk s = Q .nx s := by
  first
    | exact forQ_bk0 
    | (simp only [Wp_eq, Ws_eq, Wf_eq, sqQ_eq, tryX_eq, tryQ_eq] at *; exact forQ_bk0 )
    | (simp only [Wp_eq, Ws_eq, Wf_eq, sqQ_eq, tryX_eq, tryQ_eq]; exact forQ_bk0 )
theorem forQ_rt {I : S → Prop} {Q : Fl → S → Prop} {s : S} {r : Rs} : forQ I Q (.rt r) s = Q (.rt r) s := by
  first
    | exact forQ_rt0 
    | (simp only [Wp_eq, Ws_eq, Wf_eq, sqQ_eq, tryX_eq, tryQ_eq] at *; exact forQ_rt0 )
    | (simp only [Wp_eq, Ws_eq, Wf_eq, sqQ_eq, tryX_eq, tryQ_eq]; exact forQ_rt0 )
theorem forQ_ex {I : S → Prop} {Q : Fl → S → Prop} {s : S} {x : Xn} : forQ I Q (.ex x) s = Q (.ex x) s := by
  first
    | exact forQ_ex0 
    | (simp only [Wp_eq, Ws_eq, Wf_eq, sqQ_eq, tryX_eq, tryQ_eq] at *; exact forQ_ex0 )
    | (simp only [Wp_eq, Ws_eq, Wf_eq, sqQ_eq, tryX_eq, tryQ_eq]; exact forQ_ex0 )
theorem for_inv {G : GD} {T : TSd} {Q : Fl → S → Prop} : ∀ {ds : List D} {s : S} (I : Nat → S → Prop), I 0 s → (∀ k d s, ds[k]? = some d → I k s → ∃ s1, G d s = some s1 ∧ Ws (T s1) (forQ (I (k + 1)) Q)) → (∀ s, I ds.length s → Q .nx s) → Ws (forD G T ds s) Q := by
  first
    | exact for_inv0 
    | (simp only [Wp_eq, Ws_eq, Wf_eq, sqQ_eq, tryX_eq, tryQ_eq] at *; exact for_inv0 )
    | (simp only [Wp_eq, Ws_eq, Wf_eq, sqQ_eq, tryX_eq, tryQ_eq]; exact for_inv0 )
theorem ws_for {I : M (List D)} {G : GD} {T : TSd} {s : S} {Q : Fl → S → Prop} : Ws (TFor I G T s) Q = Wp (I s) (fun ds s1 => Ws (forD G T ds s1) Q) (fun x s1 => Q (.ex x) s1) := by
  first
    | exact ws_for0 
    | (simp only [Wp_eq, Ws_eq, Wf_eq, sqQ_eq, tryX_eq, tryQ_eq] at *; exact ws_for0 )
    | (simp only [Wp_eq, Ws_eq, Wf_eq, sqQ_eq, tryX_eq, tryQ_eq]; exact ws_for0 )
theorem lc_inv {G : GD} {B : M Bool} {T : M Rs} {vs : List Nat} {Q : List D → S → Prop} {X : XQ} : ∀ {ds acc : List D} {s : S} (I : Nat → List D → S → Prop), I 0 acc s → (∀ k d acc s, ds[k]? = some d → I k acc s → ∃ s1, G d s = some s1 ∧ Wp (B s1) (fun b s2 => if b = true then Wp (T s2) (fun r s3 => Wp (stab r s3) (fun e s4 => I (k + 1) (acc ++ [e]) ⟨wipeE vs s4.env, s4.μ⟩) fun _ _ => False) (fun _ _ => False) else I (k + 1) acc ⟨wipeE vs s2.env, s2.μ⟩) fun _ _ => False) → (∀ acc s, I ds.length acc s → Q acc s) → Wp (lcD G B T vs ds acc s) Q X := by
  first
    | exact lc_inv0 
    | (simp only [Wp_eq, Ws_eq, Wf_eq, sqQ_eq, tryX_eq, tryQ_eq] at *; exact lc_inv0 )
    | (simp only [Wp_eq, Ws_eq, Wf_eq, sqQ_eq, tryX_eq, tryQ_eq]; exact lc_inv0 )
theorem wp_Lc {I : M (List D)} {G : GD} {B : M Bool} {T : M Rs} {vs : List Nat} {s : S} {Q : Rs → S → Prop} {X : XQ} (h : Wp (I s) (fun ds s1 => ds.length ≤ 16777216 ∧ Wp (lcD G B T vs ds [] ⟨wipeE vs s1.env, s1.μ⟩) (fun es s2 => Q (.fr (.list es)) ⟨restE vs s1.env s2.env, s2.μ⟩) fun _ _ => False) X) : Wp (TLc I G B T vs s) Q X := by
  first
    | exact wp_Lc0 h
    | (simp only [Wp_eq, Ws_eq, Wf_eq, sqQ_eq, tryX_eq, tryQ_eq] at *; exact wp_Lc0 h)
    | (simp only [Wp_eq, Ws_eq, Wf_eq, sqQ_eq, tryX_eq, tryQ_eq]; exact wp_Lc0 h)
theorem lc_each {G : GD} {B : M Bool} {T : M Rs} {vs : List Nat} {Q : List D → S → Prop} {X : XQ} {α : Type} {xs : List α} {s : S} (g : α → D) (f : α → Option D)
    (step : ∀ d ∈ xs, ∃ s1, G (g d) s = some s1 ∧ Wp (B s1) (fun b s2 => if b = true then Wp (T s2) (fun r s3 => Wp (stab r s3) (fun e s4 => f d = some e ∧ (⟨wipeE vs s4.env, s4.μ⟩ : S) = s) fun _ _ => False) (fun _ _ => False) else f d = none ∧ (⟨wipeE vs s2.env, s2.μ⟩ : S) = s) fun _ _ => False)
    (fin : Q (xs.filterMap f) s) : Wp (lcD G B T vs (xs.map g) [] s) Q X := by
  first
    | exact lc_each0 g f step fin
    | (simp only [Wp_eq, Ws_eq, Wf_eq, sqQ_eq, tryX_eq, tryQ_eq] at *; exact lc_each0 g f step fin)
    | (simp only [Wp_eq, Ws_eq, Wf_eq, sqQ_eq, tryX_eq, tryQ_eq]; exact lc_each0 g f step fin)
theorem lc_all {G : GD} {B : M Bool} {T : M Rs} {vs : List Nat} {Q : List D → S → Prop} {X : XQ} {α : Type} {xs : List α} {s : S} (g : α → D) (f : α → D)
    (step : ∀ d ∈ xs, ∃ s1, G (g d) s = some s1 ∧ Wp (B s1) (fun b s2 => if b = true then Wp (T s2) (fun r s3 => Wp (stab r s3) (fun e s4 => e = f d ∧ (⟨wipeE vs s4.env, s4.μ⟩ : S) = s) fun _ _ => False) (fun _ _ => False) else False) fun _ _ => False)
    (fin : Q (xs.map f) s) : Wp (lcD G B T vs (xs.map g) [] s) Q X := by
  first
    | exact lc_all0 g f step fin
    | (simp only [Wp_eq, Ws_eq, Wf_eq, sqQ_eq, tryX_eq, tryQ_eq] at *; exact lc_all0 g f step fin)
    | (simp only [Wp_eq, Ws_eq, Wf_eq, sqQ_eq, tryX_eq, tryQ_eq]; exact lc_all0 g f step fin)
section
variable {i j : Int} {a b : Str} {xs ys ds : List D} {d e : D} {x y : Bool} {μ : List D} {s : S} {Q : Rs → List D → Prop} {X : XF}
theorem outQ_v : outQ Q X (.rt (.v d)) s = Q (.v d) s.μ := by
  first
    | exact outQ_v0 
    | (simp only [Wp_eq, Ws_eq, Wf_eq, sqQ_eq, tryX_eq, tryQ_eq] at *; exact outQ_v0 )
    | (simp only [Wp_eq, Ws_eq, Wf_eq, sqQ_eq, tryX_eq, tryQ_eq]; exact outQ_v0 )
theorem outQ_fr : outQ Q X (.rt (.fr d)) s = Q (.fr d) s.μ := by
  first
    | exact outQ_fr0 
    | (simp only [Wp_eq, Ws_eq, Wf_eq, sqQ_eq, tryX_eq, tryQ_eq] at *; exact outQ_fr0 )
    | (simp only [Wp_eq, Ws_eq, Wf_eq, sqQ_eq, tryX_eq, tryQ_eq]; exact outQ_fr0 )
theorem outQ_nx : outQ Q X .nx s = Q (.v .non) s.μ := by
  first
    | exact outQ_nx0 
    | (simp only [Wp_eq, Ws_eq, Wf_eq, sqQ_eq, tryX_eq, tryQ_eq] at *; exact outQ_nx0 )
    | (simp only [Wp_eq, Ws_eq, Wf_eq, sqQ_eq, tryX_eq, tryQ_eq]; exact outQ_nx0 )
theorem outQ_ex {x : Xn} : outQ Q X (.ex x) s = X x s.μ := by
  first
    | exact outQ_ex0 
    | (simp only [Wp_eq, Ws_eq, Wf_eq, sqQ_eq, tryX_eq, tryQ_eq] at *; exact outQ_ex0 )
    | (simp only [Wp_eq, Ws_eq, Wf_eq, sqQ_eq, tryX_eq, tryQ_eq]; exact outQ_ex0 )
theorem outQ_al {n : Nat} : outQ Q X (.rt (.al n)) s = outA s.env[n]? s.μ Q := by
  first
    | exact outQ_al0 
    | (simp only [Wp_eq, Ws_eq, Wf_eq, sqQ_eq, tryX_eq, tryQ_eq] at *; exact outQ_al0 )
    | (simp only [Wp_eq, Ws_eq, Wf_eq, sqQ_eq, tryX_eq, tryQ_eq]; exact outQ_al0 )
theorem outIQ_nx : outIQ Q X .nx s = outA s.env[(0 : Nat)]? s.μ Q := by
  first
    | exact outIQ_nx0 
    | (simp only [Wp_eq, Ws_eq, Wf_eq, sqQ_eq, tryX_eq, tryQ_eq] at *; exact outIQ_nx0 )
    | (simp only [Wp_eq, Ws_eq, Wf_eq, sqQ_eq, tryX_eq, tryQ_eq]; exact outIQ_nx0 )
theorem outIQ_ex {x : Xn} : outIQ Q X (.ex x) s = X x s.μ := by
  first
    | exact outIQ_ex0 
    | (simp only [Wp_eq, Ws_eq, Wf_eq, sqQ_eq, tryX_eq, tryQ_eq] at *; exact outIQ_ex0 )
    | (simp only [Wp_eq, Ws_eq, Wf_eq, sqQ_eq, tryX_eq, tryQ_eq]; exact outIQ_ex0 )
end
theorem wu_TC {d : D} {z : S} {Qz : Rs → S → Prop} {Xz : XQ} : Wp (TC d z) Qz Xz = Wp ((ret (.v d) : M Rs) z) Qz Xz := by
  first
    | exact wu_TC0 
    | (simp only [Wp_eq, Ws_eq, Wf_eq, sqQ_eq, tryX_eq, tryQ_eq] at *; exact wu_TC0 )
    | (simp only [Wp_eq, Ws_eq, Wf_eq, sqQ_eq, tryX_eq, tryQ_eq]; exact wu_TC0 )
theorem wu_TOp {f : D → D → Option Rs} {a b : M Rs} {z : S} {Qz : Rs → S → Prop} {Xz : XQ} : Wp (TOp f a b z) Qz Xz = Wp ((bnd a fun x => bnd b fun y => bnd (pk x) fun d => bnd (pk y) fun e => opt (f d e) : M Rs) z) Qz Xz := by
  first
    | exact wu_TOp0 
    | (simp only [Wp_eq, Ws_eq, Wf_eq, sqQ_eq, tryX_eq, tryQ_eq] at *; exact wu_TOp0 )
    | (simp only [Wp_eq, Ws_eq, Wf_eq, sqQ_eq, tryX_eq, tryQ_eq]; exact wu_TOp0 )
theorem wu_TUn {f : D → Option Rs} {a : M Rs} {z : S} {Qz : Rs → S → Prop} {Xz : XQ} : Wp (TUn f a z) Qz Xz = Wp ((bnd a fun x => bnd (pk x) fun d => opt (f d) : M Rs) z) Qz Xz := by
  first
    | exact wu_TUn0 
    | (simp only [Wp_eq, Ws_eq, Wf_eq, sqQ_eq, tryX_eq, tryQ_eq] at *; exact wu_TUn0 )
    | (simp only [Wp_eq, Ws_eq, Wf_eq, sqQ_eq, tryX_eq, tryQ_eq]; exact wu_TUn0 )
theorem wu_TB {a : M Rs} {z : S} {Qz : Bool → S → Prop} {Xz : XQ} : Wp (TB a z) Qz Xz = Wp ((bnd a fun x => bnd (pk x) asB : M Bool) z) Qz Xz := by
  first
    | exact wu_TB0 
    | (simp only [Wp_eq, Ws_eq, Wf_eq, sqQ_eq, tryX_eq, tryQ_eq] at *; exact wu_TB0 )
    | (simp only [Wp_eq, Ws_eq, Wf_eq, sqQ_eq, tryX_eq, tryQ_eq]; exact wu_TB0 )
theorem wu_TNotV {a : M Rs} {z : S} {Qz : Rs → S → Prop} {Xz : XQ} : Wp (TNotV a z) Qz Xz = Wp ((bnd (TB a) fun b => ret (.v (.bl (!b))) : M Rs) z) Qz Xz := by
  first
    | exact wu_TNotV0 
    | (simp only [Wp_eq, Ws_eq, Wf_eq, sqQ_eq, tryX_eq, tryQ_eq] at *; exact wu_TNotV0 )
    | (simp only [Wp_eq, Ws_eq, Wf_eq, sqQ_eq, tryX_eq, tryQ_eq]; exact wu_TNotV0 )
theorem wu_TAndV {a b : M Rs} {z : S} {Qz : Rs → S → Prop} {Xz : XQ} : Wp (TAndV a b z) Qz Xz = Wp ((bnd (TB a) fun x => if x = true then b else ret (.v (.bl false)) : M Rs) z) Qz Xz := by
  first
    | exact wu_TAndV0 
    | (simp only [Wp_eq, Ws_eq, Wf_eq, sqQ_eq, tryX_eq, tryQ_eq] at *; exact wu_TAndV0 )
    | (simp only [Wp_eq, Ws_eq, Wf_eq, sqQ_eq, tryX_eq, tryQ_eq]; exact wu_TAndV0 )
theorem wu_TOrV {a b : M Rs} {z : S} {Qz : Rs → S → Prop} {Xz : XQ} : Wp (TOrV a b z) Qz Xz = Wp ((bnd (TB a) fun x => if x = true then ret (.v (.bl true)) else b : M Rs) z) Qz Xz := by
  first
    | exact wu_TOrV0 
    | (simp only [Wp_eq, Ws_eq, Wf_eq, sqQ_eq, tryX_eq, tryQ_eq] at *; exact wu_TOrV0 )
    | (simp only [Wp_eq, Ws_eq, Wf_eq, sqQ_eq, tryX_eq, tryQ_eq]; exact wu_TOrV0 )
theorem wu_TIf {β : Type} {t : M Bool} {a b : M β} {z : S} {Qz : β → S → Prop} {Xz : XQ} : Wp (TIf t a b z) Qz Xz = Wp ((bnd t fun x => if x = true then a else b : M β) z) Qz Xz := by
  first
    | exact wu_TIf0 
    | (simp only [Wp_eq, Ws_eq, Wf_eq, sqQ_eq, tryX_eq, tryQ_eq] at *; exact wu_TIf0 )
    | (simp only [Wp_eq, Ws_eq, Wf_eq, sqQ_eq, tryX_eq, tryQ_eq]; exact wu_TIf0 )
theorem wu_TNot {t : M Bool} {z : S} {Qz : Bool → S → Prop} {Xz : XQ} : Wp (TNot t z) Qz Xz = Wp ((bnd t fun x => ret (!x) : M Bool) z) Qz Xz := by
  first
    | exact wu_TNot0 
    | (simp only [Wp_eq, Ws_eq, Wf_eq, sqQ_eq, tryX_eq, tryQ_eq] at *; exact wu_TNot0 )
    | (simp only [Wp_eq, Ws_eq, Wf_eq, sqQ_eq, tryX_eq, tryQ_eq]; exact wu_TNot0 )
theorem wu_TAnd {t u : M Bool} {z : S} {Qz : Bool → S → Prop} {Xz : XQ} : Wp (TAnd t u z) Qz Xz = Wp ((bnd t fun x => if x = true then u else ret false : M Bool) z) Qz Xz := by
  first
    | exact wu_TAnd0 
    | (simp only [Wp_eq, Ws_eq, Wf_eq, sqQ_eq, tryX_eq, tryQ_eq] at *; exact wu_TAnd0 )
    | (simp only [Wp_eq, Ws_eq, Wf_eq, sqQ_eq, tryX_eq, tryQ_eq]; exact wu_TAnd0 )
theorem wu_TOr {t u : M Bool} {z : S} {Qz : Bool → S → Prop} {Xz : XQ} : Wp (TOr t u z) Qz Xz = Wp ((bnd t fun x => if x = true then ret true else u : M Bool) z) Qz Xz := by
  first
    | exact wu_TOr0 
    | (simp only [Wp_eq, Ws_eq, Wf_eq, sqQ_eq, tryX_eq, tryQ_eq] at *; exact wu_TOr0 )
    | (simp only [Wp_eq, Ws_eq, Wf_eq, sqQ_eq, tryX_eq, tryQ_eq]; exact wu_TOr0 )
theorem wu_TYes {z : S} {Qz : Bool → S → Prop} {Xz : XQ} : Wp (TYes z) Qz Xz = Wp ((ret true : M Bool) z) Qz Xz := by
  first
    | exact wu_TYes0 
    | (simp only [Wp_eq, Ws_eq, Wf_eq, sqQ_eq, tryX_eq, tryQ_eq] at *; exact wu_TYes0 )
    | (simp only [Wp_eq, Ws_eq, Wf_eq, sqQ_eq, tryX_eq, tryQ_eq]; exact wu_TYes0 )
theorem wu_TChain {f g : D → D → Option Rs} {a b k : M Rs} {z : S} {Qz : Rs → S → Prop} {Xz : XQ} : Wp (TChain f g a b k z) Qz Xz = Wp ((bnd a fun x => bnd b fun y => bnd (pk x) fun d => bnd (pk y) fun e => bnd (opt (f d e)) fun r => match r with
  | .v (.bl z) => if z = true then bnd k fun q => bnd (pk y) fun e2 => bnd (pk q) fun u => opt (g e2 u) else ret (.v (.bl false))
  | _ => fun _ => none : M Rs) z) Qz Xz := by
  first
    | exact wu_TChain0 
    | (simp only [Wp_eq, Ws_eq, Wf_eq, sqQ_eq, tryX_eq, tryQ_eq] at *; exact wu_TChain0 )
    | (simp only [Wp_eq, Ws_eq, Wf_eq, sqQ_eq, tryX_eq, tryQ_eq]; exact wu_TChain0 )
theorem wu_TNil {z : S} {Qz : (List D) → S → Prop} {Xz : XQ} : Wp (TNil z) Qz Xz = Wp ((ret [] : M (List D)) z) Qz Xz := by
  first
    | exact wu_TNil0 
    | (simp only [Wp_eq, Ws_eq, Wf_eq, sqQ_eq, tryX_eq, tryQ_eq] at *; exact wu_TNil0 )
    | (simp only [Wp_eq, Ws_eq, Wf_eq, sqQ_eq, tryX_eq, tryQ_eq]; exact wu_TNil0 )
theorem wu_TCons {a : M Rs} {t : M (List D)} {z : S} {Qz : (List D) → S → Prop} {Xz : XQ} : Wp (TCons a t z) Qz Xz = Wp ((bnd a fun x => bnd (stab x) fun d => bnd t fun ds => ret (d :: ds) : M (List D)) z) Qz Xz := by
  first
    | exact wu_TCons0 
    | (simp only [Wp_eq, Ws_eq, Wf_eq, sqQ_eq, tryX_eq, tryQ_eq] at *; exact wu_TCons0 )
    | (simp only [Wp_eq, Ws_eq, Wf_eq, sqQ_eq, tryX_eq, tryQ_eq]; exact wu_TCons0 )
theorem wu_TStar {a : M Rs} {t : M (List D)} {z : S} {Qz : (List D) → S → Prop} {Xz : XQ} : Wp (TStar a t z) Qz Xz = Wp ((bnd a fun x => bnd (pk x) fun d => match d with
  | .list xs => bnd t fun ds => ret (xs ++ ds)
  | .tup xs => bnd t fun ds => ret (xs ++ ds)
  | .scr xs => bnd t fun ds => ret (xs ++ ds)
  | _ => fun _ => none : M (List D)) z) Qz Xz := by
  first
    | exact wu_TStar0 
    | (simp only [Wp_eq, Ws_eq, Wf_eq, sqQ_eq, tryX_eq, tryQ_eq] at *; exact wu_TStar0 )
    | (simp only [Wp_eq, Ws_eq, Wf_eq, sqQ_eq, tryX_eq, tryQ_eq]; exact wu_TStar0 )
theorem wu_PNil {z : S} {Qz : (List Rs) → S → Prop} {Xz : XQ} : Wp (PNil z) Qz Xz = Wp ((ret [] : M (List Rs)) z) Qz Xz := by
  first
    | exact wu_PNil0 
    | (simp only [Wp_eq, Ws_eq, Wf_eq, sqQ_eq, tryX_eq, tryQ_eq] at *; exact wu_PNil0 )
    | (simp only [Wp_eq, Ws_eq, Wf_eq, sqQ_eq, tryX_eq, tryQ_eq]; exact wu_PNil0 )
theorem wu_PCons {a : M Rs} {t : M (List Rs)} {z : S} {Qz : (List Rs) → S → Prop} {Xz : XQ} : Wp (PCons a t z) Qz Xz = Wp ((bnd a fun x => bnd t fun xs => ret (x :: xs) : M (List Rs)) z) Qz Xz := by
  first
    | exact wu_PCons0 
    | (simp only [Wp_eq, Ws_eq, Wf_eq, sqQ_eq, tryX_eq, tryQ_eq] at *; exact wu_PCons0 )
    | (simp only [Wp_eq, Ws_eq, Wf_eq, sqQ_eq, tryX_eq, tryQ_eq]; exact wu_PCons0 )
theorem wu_TLst {t : M (List D)} {z : S} {Qz : Rs → S → Prop} {Xz : XQ} : Wp (TLst t z) Qz Xz = Wp ((bnd t fun ds => if fits ds.length = true then ret (.fr (.list ds)) else fun _ => none : M Rs) z) Qz Xz := by
  first
    | exact wu_TLst0 
    | (simp only [Wp_eq, Ws_eq, Wf_eq, sqQ_eq, tryX_eq, tryQ_eq] at *; exact wu_TLst0 )
    | (simp only [Wp_eq, Ws_eq, Wf_eq, sqQ_eq, tryX_eq, tryQ_eq]; exact wu_TLst0 )
theorem wu_TTup {t : M (List D)} {z : S} {Qz : Rs → S → Prop} {Xz : XQ} : Wp (TTup t z) Qz Xz = Wp ((bnd t fun ds => if fits ds.length = true then ret (.fr (.tup ds)) else fun _ => none : M Rs) z) Qz Xz := by
  first
    | exact wu_TTup0 
    | (simp only [Wp_eq, Ws_eq, Wf_eq, sqQ_eq, tryX_eq, tryQ_eq] at *; exact wu_TTup0 )
    | (simp only [Wp_eq, Ws_eq, Wf_eq, sqQ_eq, tryX_eq, tryQ_eq]; exact wu_TTup0 )
theorem wu_TCB {f : List D → Option Rs} {t : M (List Rs)} {z : S} {Qz : Rs → S → Prop} {Xz : XQ} : Wp (TCB f t z) Qz Xz = Wp ((bnd t fun rs => bnd (pks rs) fun ds => opt (f ds) : M Rs) z) Qz Xz := by
  first
    | exact wu_TCB0 
    | (simp only [Wp_eq, Ws_eq, Wf_eq, sqQ_eq, tryX_eq, tryQ_eq] at *; exact wu_TCB0 )
    | (simp only [Wp_eq, Ws_eq, Wf_eq, sqQ_eq, tryX_eq, tryQ_eq]; exact wu_TCB0 )
theorem wu_TNext {z : S} {Qz : Fl → S → Prop} : Ws (TNext z) Qz = Ws ((fun s => some (.nx, s) : TSd) z) Qz := by
  first
    | exact wu_TNext0 
    | (simp only [Wp_eq, Ws_eq, Wf_eq, sqQ_eq, tryX_eq, tryQ_eq] at *; exact wu_TNext0 )
    | (simp only [Wp_eq, Ws_eq, Wf_eq, sqQ_eq, tryX_eq, tryQ_eq]; exact wu_TNext0 )
theorem wu_TBreak {z : S} {Qz : Fl → S → Prop} : Ws (TBreak z) Qz = Ws ((fun s => some (.bk, s) : TSd) z) Qz := by
  first
    | exact wu_TBreak0 
    | (simp only [Wp_eq, Ws_eq, Wf_eq, sqQ_eq, tryX_eq, tryQ_eq] at *; exact wu_TBreak0 )
    | (simp only [Wp_eq, Ws_eq, Wf_eq, sqQ_eq, tryX_eq, tryQ_eq]; exact wu_TBreak0 )
theorem wu_TCont {z : S} {Qz : Fl → S → Prop} : Ws (TCont z) Qz = Ws ((fun s => some (.ct, s) : TSd) z) Qz := by
  first
    | exact wu_TCont0 
    | (simp only [Wp_eq, Ws_eq, Wf_eq, sqQ_eq, tryX_eq, tryQ_eq] at *; exact wu_TCont0 )
    | (simp only [Wp_eq, Ws_eq, Wf_eq, sqQ_eq, tryX_eq, tryQ_eq]; exact wu_TCont0 )
theorem wu_TRet {T : M Rs} {z : S} {Qz : Fl → S → Prop} : Ws (TRet T z) Qz = Ws ((sb T fun r s => some (.rt r, s) : TSd) z) Qz := by
  first
    | exact wu_TRet0 
    | (simp only [Wp_eq, Ws_eq, Wf_eq, sqQ_eq, tryX_eq, tryQ_eq] at *; exact wu_TRet0 )
    | (simp only [Wp_eq, Ws_eq, Wf_eq, sqQ_eq, tryX_eq, tryQ_eq]; exact wu_TRet0 )
theorem wu_TRetN {z : S} {Qz : Fl → S → Prop} : Ws (TRetN z) Qz = Ws ((fun s => some (.rt (.v .non), s) : TSd) z) Qz := by
  first
    | exact wu_TRetN0 
    | (simp only [Wp_eq, Ws_eq, Wf_eq, sqQ_eq, tryX_eq, tryQ_eq] at *; exact wu_TRetN0 )
    | (simp only [Wp_eq, Ws_eq, Wf_eq, sqQ_eq, tryX_eq, tryQ_eq]; exact wu_TRetN0 )
theorem wu_TDrop {T : M Rs} {z : S} {Qz : Fl → S → Prop} : Ws (TDrop T z) Qz = Ws ((sb T fun _ s => some (.nx, s) : TSd) z) Qz := by
  first
    | exact wu_TDrop0 
    | (simp only [Wp_eq, Ws_eq, Wf_eq, sqQ_eq, tryX_eq, tryQ_eq] at *; exact wu_TDrop0 )
    | (simp only [Wp_eq, Ws_eq, Wf_eq, sqQ_eq, tryX_eq, tryQ_eq]; exact wu_TDrop0 )
theorem wu_TIfS {t : M Bool} {T U : TSd} {z : S} {Qz : Fl → S → Prop} : Ws (TIfS t T U z) Qz = Ws ((sb t fun b => if b = true then T else U : TSd) z) Qz := by
  first
    | exact wu_TIfS0 
    | (simp only [Wp_eq, Ws_eq, Wf_eq, sqQ_eq, tryX_eq, tryQ_eq] at *; exact wu_TIfS0 )
    | (simp only [Wp_eq, Ws_eq, Wf_eq, sqQ_eq, tryX_eq, tryQ_eq]; exact wu_TIfS0 )
theorem wu_TAsg {T : M Rs} {i : Nat} {z : S} {Qz : Fl → S → Prop} : Ws (TAsg T i z) Qz = Ws ((sb T fun r => sb (res1 r) fun r s => nxt (asg i r s) : TSd) z) Qz := by
  first
    | exact wu_TAsg0 
    | (simp only [Wp_eq, Ws_eq, Wf_eq, sqQ_eq, tryX_eq, tryQ_eq] at *; exact wu_TAsg0 )
    | (simp only [Wp_eq, Ws_eq, Wf_eq, sqQ_eq, tryX_eq, tryQ_eq]; exact wu_TAsg0 )
theorem wu_TPar {is : List Nat} {T : M (List Rs)} {z : S} {Qz : Fl → S → Prop} : Ws (TPar is T z) Qz = Ws ((sb T fun rs => sb (res rs) fun rs s => nxt (asgs is rs s) : TSd) z) Qz := by
  first
    | exact wu_TPar0 
    | (simp only [Wp_eq, Ws_eq, Wf_eq, sqQ_eq, tryX_eq, tryQ_eq] at *; exact wu_TPar0 )
    | (simp only [Wp_eq, Ws_eq, Wf_eq, sqQ_eq, tryX_eq, tryQ_eq]; exact wu_TPar0 )
theorem wu_ILst {T : M Rs} {z : S} {Qz : (List D) → S → Prop} {Xz : XQ} : Wp (ILst T z) Qz Xz = Wp ((bnd T fun r => bnd (stab r) fun d => opt (itemsL d) : M (List D)) z) Qz Xz := by
  first
    | exact wu_ILst0 
    | (simp only [Wp_eq, Ws_eq, Wf_eq, sqQ_eq, tryX_eq, tryQ_eq] at *; exact wu_ILst0 )
    | (simp only [Wp_eq, Ws_eq, Wf_eq, sqQ_eq, tryX_eq, tryQ_eq]; exact wu_ILst0 )
theorem wu_ITup {T : M Rs} {z : S} {Qz : (List D) → S → Prop} {Xz : XQ} : Wp (ITup T z) Qz Xz = Wp ((bnd T fun r => bnd (stab r) fun d => opt (match d with | .tup ds => some ds | _ => none) : M (List D)) z) Qz Xz := by
  first
    | exact wu_ITup0 
    | (simp only [Wp_eq, Ws_eq, Wf_eq, sqQ_eq, tryX_eq, tryQ_eq] at *; exact wu_ITup0 )
    | (simp only [Wp_eq, Ws_eq, Wf_eq, sqQ_eq, tryX_eq, tryQ_eq]; exact wu_ITup0 )
theorem wu_IStr {T : M Rs} {z : S} {Qz : (List D) → S → Prop} {Xz : XQ} : Wp (IStr T z) Qz Xz = Wp ((bnd T fun r => bnd (pk r) fun d => opt (match d with | .str z => some (z.cps.toList.map fun k => D.str ⟨#[k]⟩) | _ => none) : M (List D)) z) Qz Xz := by
  first
    | exact wu_IStr0 
    | (simp only [Wp_eq, Ws_eq, Wf_eq, sqQ_eq, tryX_eq, tryQ_eq] at *; exact wu_IStr0 )
    | (simp only [Wp_eq, Ws_eq, Wf_eq, sqQ_eq, tryX_eq, tryQ_eq]; exact wu_IStr0 )
theorem wu_IRng1 {T : M (List D)} {z : S} {Qz : (List D) → S → Prop} {Xz : XQ} : Wp (IRng1 T z) Qz Xz = Wp ((bnd T fun ds => opt (match ds with | [.int j] => if smallI j = true then some (rngD 0 j.toNat) else none | _ => none) : M (List D)) z) Qz Xz := by
  first
    | exact wu_IRng10 
    | (simp only [Wp_eq, Ws_eq, Wf_eq, sqQ_eq, tryX_eq, tryQ_eq] at *; exact wu_IRng10 )
    | (simp only [Wp_eq, Ws_eq, Wf_eq, sqQ_eq, tryX_eq, tryQ_eq]; exact wu_IRng10 )
theorem wu_IRng2 {T : M (List D)} {z : S} {Qz : (List D) → S → Prop} {Xz : XQ} : Wp (IRng2 T z) Qz Xz = Wp ((bnd T fun ds => opt (match ds with | [.int i, .int j] => if (smallI i && smallI j) = true then some (rngD i (j - i).toNat) else none | _ => none) : M (List D)) z) Qz Xz := by
  first
    | exact wu_IRng20 
    | (simp only [Wp_eq, Ws_eq, Wf_eq, sqQ_eq, tryX_eq, tryQ_eq] at *; exact wu_IRng20 )
    | (simp only [Wp_eq, Ws_eq, Wf_eq, sqQ_eq, tryX_eq, tryQ_eq]; exact wu_IRng20 )
theorem wu_IEnum {T : M (List D)} {z : S} {Qz : (List D) → S → Prop} {Xz : XQ} : Wp (IEnum T z) Qz Xz = Wp ((bnd T fun ds => opt (match ds with | [d] => (itemsL d).map enumD | _ => none) : M (List D)) z) Qz Xz := by
  first
    | exact wu_IEnum0 
    | (simp only [Wp_eq, Ws_eq, Wf_eq, sqQ_eq, tryX_eq, tryQ_eq] at *; exact wu_IEnum0 )
    | (simp only [Wp_eq, Ws_eq, Wf_eq, sqQ_eq, tryX_eq, tryQ_eq]; exact wu_IEnum0 )
theorem wu_IZip {T : M (List D)} {z : S} {Qz : (List D) → S → Prop} {Xz : XQ} : Wp (IZip T z) Qz Xz = Wp ((bnd T fun ds => opt (match ds with | [a, b] => (match itemsL a, itemsL b with | some xs, some ys => some ((xs.zip ys).map fun p => D.tup [p.1, p.2]) | _, _ => none) | _ => none) : M (List D)) z) Qz Xz := by
  first
    | exact wu_IZip0 
    | (simp only [Wp_eq, Ws_eq, Wf_eq, sqQ_eq, tryX_eq, tryQ_eq] at *; exact wu_IZip0 )
    | (simp only [Wp_eq, Ws_eq, Wf_eq, sqQ_eq, tryX_eq, tryQ_eq]; exact wu_IZip0 )
theorem wu_TBM {f : List D → D → Option (D × D)} {o : M Rs} {t : M (List D)} {z : S} {Qz : Rs → S → Prop} {Xz : XQ} : Wp (TBM f o t z) Qz Xz = Wp ((bnd o fun r => bnd (pk r) fun d => if isL d = true then bnd t fun ds => bnd (mutD r (f ds)) fun d => ret (.v d) else fun _ => none : M Rs) z) Qz Xz := by
  first
    | exact wu_TBM0 
    | (simp only [Wp_eq, Ws_eq, Wf_eq, sqQ_eq, tryX_eq, tryQ_eq] at *; exact wu_TBM0 )
    | (simp only [Wp_eq, Ws_eq, Wf_eq, sqQ_eq, tryX_eq, tryQ_eq]; exact wu_TBM0 )
theorem wu_TBP {f : List D → D → Option (D × D)} {o : M Rs} {t : M (List Rs)} {z : S} {Qz : Rs → S → Prop} {Xz : XQ} : Wp (TBP f o t z) Qz Xz = Wp ((bnd o fun r => bnd (pk r) fun d => if isL d = true then bnd t fun rs => bnd (pks rs) fun ds => bnd (mutD r (f ds)) fun d => ret (.v d) else fun _ => none : M Rs) z) Qz Xz := by
  first
    | exact wu_TBP0 
    | (simp only [Wp_eq, Ws_eq, Wf_eq, sqQ_eq, tryX_eq, tryQ_eq] at *; exact wu_TBP0 )
    | (simp only [Wp_eq, Ws_eq, Wf_eq, sqQ_eq, tryX_eq, tryQ_eq]; exact wu_TBP0 )
theorem wu_TAug {i : Nat} {f : D → D → Option Rs} {T : M Rs} {z : S} {Qz : Fl → S → Prop} : Ws (TAug i f T z) Qz = Ws ((sb (TVar i) fun x => sb T fun y => sb (bnd (pk x) fun d => bnd (pk y) fun e => opt (f d e)) fun r s => nxt (asg i r s) : TSd) z) Qz := by
  first
    | exact wu_TAug0 
    | (simp only [Wp_eq, Ws_eq, Wf_eq, sqQ_eq, tryX_eq, tryQ_eq] at *; exact wu_TAug0 )
    | (simp only [Wp_eq, Ws_eq, Wf_eq, sqQ_eq, tryX_eq, tryQ_eq]; exact wu_TAug0 )
theorem wu_TSub {o i t : M Rs} {z : S} {Qz : Fl → S → Prop} : Ws (TSub o i t z) Qz = Ws ((sb t fun r => sb (stab r) fun d => sb o fun ro => sb i fun ri => sb (pk ri) fun k => sb (mutD ro fun l => match l, k with
  | .list xs, .int k => (ixN xs.length k).map fun j => ((), D.list (xs.set j d))
  | _, _ => none) fun _ s => some (.nx, s) : TSd) z) Qz := by
  first
    | exact wu_TSub0 
    | (simp only [Wp_eq, Ws_eq, Wf_eq, sqQ_eq, tryX_eq, tryQ_eq] at *; exact wu_TSub0 )
    | (simp only [Wp_eq, Ws_eq, Wf_eq, sqQ_eq, tryX_eq, tryQ_eq]; exact wu_TSub0 )
theorem wu_TDPut {o i t : M Rs} {z : S} {Qz : Fl → S → Prop} : Ws (TDPut o i t z) Qz = Ws ((sb t fun r => sb (stab r) fun d => sb o fun ro => sb i fun ri => sb (pk ri) fun k => sb (mutD ro fun l => match l, toKey k with
  | .dict kvs, some k => if kvs.length < 16777216 then some ((), D.dict (putD kvs k d)) else none
  | _, _ => none) fun _ s => some (.nx, s) : TSd) z) Qz := by
  first
    | exact wu_TDPut0 
    | (simp only [Wp_eq, Ws_eq, Wf_eq, sqQ_eq, tryX_eq, tryQ_eq] at *; exact wu_TDPut0 )
    | (simp only [Wp_eq, Ws_eq, Wf_eq, sqQ_eq, tryX_eq, tryQ_eq]; exact wu_TDPut0 )
theorem wu_TFld {ok : Nat → Bool} {f : Str} {o t : M Rs} {z : S} {Qz : Fl → S → Prop} : Ws (TFld ok f o t z) Qz = Ws ((sb t fun r => sb (stab r) fun d => sb o fun ro => sb (mutD ro fun l => match l with
  | .obj k fs => if (ok k && decide (fs.length < 1000)) = true then some ((), D.obj k (putFd f d fs)) else none
  | _ => none) fun _ s => some (.nx, s) : TSd) z) Qz := by
  first
    | exact wu_TFld0 
    | (simp only [Wp_eq, Ws_eq, Wf_eq, sqQ_eq, tryX_eq, tryQ_eq] at *; exact wu_TFld0 )
    | (simp only [Wp_eq, Ws_eq, Wf_eq, sqQ_eq, tryX_eq, tryQ_eq]; exact wu_TFld0 )
theorem wu_TFn {F : FT} {T : M (List D)} {z : S} {Qz : Rs → S → Prop} {Xz : XQ} : Wp (TFn F T z) Qz Xz = Wp ((bnd T fun ds => call F ds : M Rs) z) Qz Xz := by
  first
    | exact wu_TFn0 
    | (simp only [Wp_eq, Ws_eq, Wf_eq, sqQ_eq, tryX_eq, tryQ_eq] at *; exact wu_TFn0 )
    | (simp only [Wp_eq, Ws_eq, Wf_eq, sqQ_eq, tryX_eq, tryQ_eq]; exact wu_TFn0 )
theorem wu_TFnK {F : FT} {n : Nat} {g : List D → List D} {T : M (List D)} {z : S} {Qz : Rs → S → Prop} {Xz : XQ} : Wp (TFnK F n g T z) Qz Xz = Wp ((bnd T fun ds => if ds.length = n then call F (g ds) else fun _ => none : M Rs) z) Qz Xz := by
  first
    | exact wu_TFnK0 
    | (simp only [Wp_eq, Ws_eq, Wf_eq, sqQ_eq, tryX_eq, tryQ_eq] at *; exact wu_TFnK0 )
    | (simp only [Wp_eq, Ws_eq, Wf_eq, sqQ_eq, tryX_eq, tryQ_eq]; exact wu_TFnK0 )
theorem wu_TMth {tab : Nat → Option FT} {m : Str} {o : M Rs} {T : M (List D)} {z : S} {Qz : Rs → S → Prop} {Xz : XQ} : Wp (TMth tab m o T z) Qz Xz = Wp ((bnd o fun r => bnd (stab r) fun d => bnd (pk (.v d)) fun d0 => meth tab m d0 fun F => bnd T fun ds => call F (d :: ds) : M Rs) z) Qz Xz := by
  first
    | exact wu_TMth0 
    | (simp only [Wp_eq, Ws_eq, Wf_eq, sqQ_eq, tryX_eq, tryQ_eq] at *; exact wu_TMth0 )
    | (simp only [Wp_eq, Ws_eq, Wf_eq, sqQ_eq, tryX_eq, tryQ_eq]; exact wu_TMth0 )
theorem wu_TMthK {tab : Nat → Option FT} {m : Str} {n : Nat} {g : List D → List D} {o : M Rs} {T : M (List D)} {z : S} {Qz : Rs → S → Prop} {Xz : XQ} : Wp (TMthK tab m n g o T z) Qz Xz = Wp ((bnd o fun r => bnd (stab r) fun d => bnd (pk (.v d)) fun d0 => meth tab m d0 fun F => bnd T fun ds => if ds.length = n then call F (d :: g ds) else fun _ => none : M Rs) z) Qz Xz := by
  first
    | exact wu_TMthK0 
    | (simp only [Wp_eq, Ws_eq, Wf_eq, sqQ_eq, tryX_eq, tryQ_eq] at *; exact wu_TMthK0 )
    | (simp only [Wp_eq, Ws_eq, Wf_eq, sqQ_eq, tryX_eq, tryQ_eq]; exact wu_TMthK0 )
theorem wu_TAtt {tab : Nat → Option AK} {ct : Nat → Option D} {f : Str} {a : M Rs} {z : S} {Qz : Rs → S → Prop} {Xz : XQ} : Wp (TAtt tab ct f a z) Qz Xz = Wp ((bnd a fun r => bnd (pk r) fun d0 => bnd (opt (attD tab ct f d0)) fun d => ret (.v d) : M Rs) z) Qz Xz := by
  first
    | exact wu_TAtt0 
    | (simp only [Wp_eq, Ws_eq, Wf_eq, sqQ_eq, tryX_eq, tryQ_eq] at *; exact wu_TAtt0 )
    | (simp only [Wp_eq, Ws_eq, Wf_eq, sqQ_eq, tryX_eq, tryQ_eq]; exact wu_TAtt0 )
theorem wu_TAttE {tab : Nat → Option AK} {f : Str} {a : M Rs} {z : S} {Qz : Rs → S → Prop} {Xz : XQ} : Wp (TAttE tab f a z) Qz Xz = Wp ((bnd a fun r => bnd (pk r) fun d0 => bnd (opt (attE tab f d0)) fun d => ret (.v d) : M Rs) z) Qz Xz := by
  first
    | exact wu_TAttE0 
    | (simp only [Wp_eq, Ws_eq, Wf_eq, sqQ_eq, tryX_eq, tryQ_eq] at *; exact wu_TAttE0 )
    | (simp only [Wp_eq, Ws_eq, Wf_eq, sqQ_eq, tryX_eq, tryQ_eq]; exact wu_TAttE0 )
theorem wu_TNoP {z : S} {Qz : (Option Int) → S → Prop} {Xz : XQ} : Wp (TNoP z) Qz Xz = Wp ((ret none : M (Option Int)) z) Qz Xz := by
  first
    | exact wu_TNoP0 
    | (simp only [Wp_eq, Ws_eq, Wf_eq, sqQ_eq, tryX_eq, tryQ_eq] at *; exact wu_TNoP0 )
    | (simp only [Wp_eq, Ws_eq, Wf_eq, sqQ_eq, tryX_eq, tryQ_eq]; exact wu_TNoP0 )
theorem wu_TPart {a : M Rs} {z : S} {Qz : (Option Int) → S → Prop} {Xz : XQ} : Wp (TPart a z) Qz Xz = Wp ((bnd a fun r => bnd (pk r) fun d => bnd (opt (asI d)) fun i => ret (some i) : M (Option Int)) z) Qz Xz := by
  first
    | exact wu_TPart0 
    | (simp only [Wp_eq, Ws_eq, Wf_eq, sqQ_eq, tryX_eq, tryQ_eq] at *; exact wu_TPart0 )
    | (simp only [Wp_eq, Ws_eq, Wf_eq, sqQ_eq, tryX_eq, tryQ_eq]; exact wu_TPart0 )
theorem wu_TSl {f : D → Option Int → Option Int → Option Rs} {a : M Rs} {lo hi : M (Option Int)} {z : S} {Qz : Rs → S → Prop} {Xz : XQ} : Wp (TSl f a lo hi z) Qz Xz = Wp ((bnd a fun r => bnd lo fun l => bnd hi fun h => bnd (pk r) fun d => opt (f d l h) : M Rs) z) Qz Xz := by
  first
    | exact wu_TSl0 
    | (simp only [Wp_eq, Ws_eq, Wf_eq, sqQ_eq, tryX_eq, tryQ_eq] at *; exact wu_TSl0 )
    | (simp only [Wp_eq, Ws_eq, Wf_eq, sqQ_eq, tryX_eq, tryQ_eq]; exact wu_TSl0 )
theorem wu_TRevL {a : M Rs} {z : S} {Qz : Rs → S → Prop} {Xz : XQ} : Wp (TRevL a z) Qz Xz = Wp ((TUn revL a : M Rs) z) Qz Xz := by
  first
    | exact wu_TRevL0 
    | (simp only [Wp_eq, Ws_eq, Wf_eq, sqQ_eq, tryX_eq, tryQ_eq] at *; exact wu_TRevL0 )
    | (simp only [Wp_eq, Ws_eq, Wf_eq, sqQ_eq, tryX_eq, tryQ_eq]; exact wu_TRevL0 )
theorem wu_TDGet {a b : M Rs} {z : S} {Qz : Rs → S → Prop} {Xz : XQ} : Wp (TDGet a b z) Qz Xz = Wp ((bnd a fun x => bnd b fun y => bnd (pk x) fun d => bnd (pk y) fun k => bnd (opt (getD d k)) fun r => ret (.v r) : M Rs) z) Qz Xz := by
  first
    | exact wu_TDGet0 
    | (simp only [Wp_eq, Ws_eq, Wf_eq, sqQ_eq, tryX_eq, tryQ_eq] at *; exact wu_TDGet0 )
    | (simp only [Wp_eq, Ws_eq, Wf_eq, sqQ_eq, tryX_eq, tryQ_eq]; exact wu_TDGet0 )
theorem wu_TDNew {z : S} {Qz : Rs → S → Prop} {Xz : XQ} : Wp (TDNew z) Qz Xz = Wp ((ret (.fr (.dict [])) : M Rs) z) Qz Xz := by
  first
    | exact wu_TDNew0 
    | (simp only [Wp_eq, Ws_eq, Wf_eq, sqQ_eq, tryX_eq, tryQ_eq] at *; exact wu_TDNew0 )
    | (simp only [Wp_eq, Ws_eq, Wf_eq, sqQ_eq, tryX_eq, tryQ_eq]; exact wu_TDNew0 )
theorem wu_TIndex {o : M Rs} {t : M (List Rs)} {z : S} {Qz : Rs → S → Prop} {Xz : XQ} : Wp (TIndex o t z) Qz Xz = Wp ((bnd o fun r => bnd (pk r) fun d0 => if (itemsL d0).isSome = true then bnd t fun rs => bnd (pk r) fun d => bnd (pks rs) fun es => opt (indexD d es) else fun _ => none : M Rs) z) Qz Xz := by
  first
    | exact wu_TIndex0 
    | (simp only [Wp_eq, Ws_eq, Wf_eq, sqQ_eq, tryX_eq, tryQ_eq] at *; exact wu_TIndex0 )
    | (simp only [Wp_eq, Ws_eq, Wf_eq, sqQ_eq, tryX_eq, tryQ_eq]; exact wu_TIndex0 )
theorem wu_TAsgG {T : M Rs} {G : GD} {z : S} {Qz : Fl → S → Prop} : Ws (TAsgG T G z) Qz = Ws ((sb T fun r => sb (stab r) fun d s => nxt (G d s) : TSd) z) Qz := by
  first
    | exact wu_TAsgG0 
    | (simp only [Wp_eq, Ws_eq, Wf_eq, sqQ_eq, tryX_eq, tryQ_eq] at *; exact wu_TAsgG0 )
    | (simp only [Wp_eq, Ws_eq, Wf_eq, sqQ_eq, tryX_eq, tryQ_eq]; exact wu_TAsgG0 )
theorem wu_TKeep {T : M Rs} {z : S} {Qz : Rs → S → Prop} {Xz : XQ} : Wp (TKeep T z) Qz Xz = Wp ((bnd T fun r s => match r with
  | .fr d => some (.ok (.v (.loc s.μ.length)), { s with μ := s.μ ++ [d] })
  | _ => none : M Rs) z) Qz Xz := by
  first
    | exact wu_TKeep0 
    | (simp only [Wp_eq, Ws_eq, Wf_eq, sqQ_eq, tryX_eq, tryQ_eq] at *; exact wu_TKeep0 )
    | (simp only [Wp_eq, Ws_eq, Wf_eq, sqQ_eq, tryX_eq, tryQ_eq]; exact wu_TKeep0 )
theorem wu_TSup {kid : Nat} {F : FT} {T : M (List D)} {z : S} {Qz : Rs → S → Prop} {Xz : XQ} : Wp (TSup kid F T z) Qz Xz = Wp ((bnd (TVar 0) fun r => bnd (stab r) fun d => bnd (pk (.v d)) fun d0 => match d0 with
  | .obj k _ => if k = kid then bnd T fun ds => call F (d :: ds) else fun _ => none
  | _ => fun _ => none : M Rs) z) Qz Xz := by
  first
    | exact wu_TSup0 
    | (simp only [Wp_eq, Ws_eq, Wf_eq, sqQ_eq, tryX_eq, tryQ_eq] at *; exact wu_TSup0 )
    | (simp only [Wp_eq, Ws_eq, Wf_eq, sqQ_eq, tryX_eq, tryQ_eq]; exact wu_TSup0 )
theorem wu_TDct1 {a b : M Rs} {z : S} {Qz : Rs → S → Prop} {Xz : XQ} : Wp (TDct1 a b z) Qz Xz = Wp ((bnd a fun x => bnd (stab x) fun dk => bnd b fun y => bnd (stab y) fun dv => bnd (opt (toKey dk)) fun k => ret (.fr (.dict [(k, dv)])) : M Rs) z) Qz Xz := by
  first
    | exact wu_TDct10 
    | (simp only [Wp_eq, Ws_eq, Wf_eq, sqQ_eq, tryX_eq, tryQ_eq] at *; exact wu_TDct10 )
    | (simp only [Wp_eq, Ws_eq, Wf_eq, sqQ_eq, tryX_eq, tryQ_eq]; exact wu_TDct10 )
theorem wu_TLenSet {a : M Rs} {z : S} {Qz : Rs → S → Prop} {Xz : XQ} : Wp (TLenSet a z) Qz Xz = Wp ((TUn lenSet a : M Rs) z) Qz Xz := by
  first
    | exact wu_TLenSet0 
    | (simp only [Wp_eq, Ws_eq, Wf_eq, sqQ_eq, tryX_eq, tryQ_eq] at *; exact wu_TLenSet0 )
    | (simp only [Wp_eq, Ws_eq, Wf_eq, sqQ_eq, tryX_eq, tryQ_eq]; exact wu_TLenSet0 )
theorem wu_TRaise {k : Nat} {z : S} {Qz : Fl → S → Prop} : Ws (TRaise k z) Qz = Ws ((fun s => some (.ex ⟨k, []⟩, s) : TSd) z) Qz := by
  first
    | exact wu_TRaise0 
    | (simp only [Wp_eq, Ws_eq, Wf_eq, sqQ_eq, tryX_eq, tryQ_eq] at *; exact wu_TRaise0 )
    | (simp only [Wp_eq, Ws_eq, Wf_eq, sqQ_eq, tryX_eq, tryQ_eq]; exact wu_TRaise0 )
theorem wu_TRaiseF {k : Nat} {f : Str} {T : M Rs} {z : S} {Qz : Fl → S → Prop} : Ws (TRaiseF k f T z) Qz = Ws ((sb T fun r => sb (stab r) fun d s => some (.ex ⟨k, [(f, d)]⟩, s) : TSd) z) Qz := by
  first
    | exact wu_TRaiseF0 
    | (simp only [Wp_eq, Ws_eq, Wf_eq, sqQ_eq, tryX_eq, tryQ_eq] at *; exact wu_TRaiseF0 )
    | (simp only [Wp_eq, Ws_eq, Wf_eq, sqQ_eq, tryX_eq, tryQ_eq]; exact wu_TRaiseF0 )
theorem wp_meth {tab : Nat → Option FT} {m : Str} {c : Nat} {fs : List (Str × D)} {k : FT → M Rs} {s : S} {Q : Rs → S → Prop} {X : XQ} : Wp (meth tab m (.obj c fs) k s) Q X = (fs.lookup m = none ∧ ∃ F, tab c = some F ∧ Wp (k F s) Q X) := by
  first
    | exact wp_meth0 
    | (simp only [Wp_eq, Ws_eq, Wf_eq, sqQ_eq, tryX_eq, tryQ_eq] at *; exact wp_meth0 )
    | (simp only [Wp_eq, Ws_eq, Wf_eq, sqQ_eq, tryX_eq, tryQ_eq]; exact wp_meth0 )
variable {zs : List Str} {z : Str}
end Z
/-! rules for texts and for == of own instances -/
namespace Z
open PySem PySem.Spec PyProof.Rows L2 U ClX
/-- the last step of == on lists of own instances -/
noncomputable def eqO (neg : Bool) (tab : Nat → Option FT) (d e : D) : M Rs := fun s => match d, e with
  | .list ds, .list es => @ite _ (eqAll tab ds es s) (Classical.propDecidable _) (some (.ok (.v (.bl (!neg))), s)) none
  | _, _ => none
section
variable {s : S} {Q : Rs → S → Prop} {X : XQ}
theorem wu_TEq1 {tab : Nat → Option FT} {a b : M Rs} : Wp (TEq1 tab a b s) Q X = Wp ((bnd a fun x => bnd (stab x) fun d => bnd b fun y => bnd (stab y) fun e => bnd (pk (.v d)) fun d0 => bnd (pk (.v e)) fun e0 => eq1 tab d e d0 e0 : M Rs) s) Q X := rfl
theorem wu_TCount {o : M Rs} {t : M (List Rs)} : Wp (TCount o t s) Q X = Wp ((bnd o fun r => bnd (pk r) fun d0 => if (itemsL d0).isSome = true then bnd t fun rs => bnd (pk r) fun d => bnd (pks rs) fun es => opt (countD d es) else fun _ => none : M Rs) s) Q X := rfl
theorem wu_TGet {tab : Nat → Option FT} {o : M Rs} : Wp (TGet tab o s) Q X = Wp ((bnd o fun r => bnd (stab r) fun d => bnd (pk (.v d)) fun d0 => getM tab d d0 : M Rs) s) Q X := rfl
theorem wp_noex {m : M Rs} : Wp (noex m s) Q X = Wp (m s) Q fun _ _ => False := by
  rw [Wp_eq, Wp_eq]
  unfold noex Wp0
  cases m s with
  | none => rfl
  | some p => obtain ⟨r, s1⟩ := p; cases r <;> rfl
theorem wp_getM {tab : Nat → Option FT} {d : D} {k : Nat} {fs : List (Str × D)} : Wp (getM tab d (.obj k fs) s) Q X = ∃ F, tab k = some F ∧ Wf (F [d] s.μ) (fun r μ => Q r ⟨s.env, μ⟩) fun _ _ => False := by
  show Wp ((match tab k with | some F => noex (call F [d]) | none => fun _ => none : M Rs) s) Q X = _
  cases tab k with
  | none => rw [Wp_eq]; simp [Wp0]
  | some F =>
    show Wp (noex (call F [d]) s) Q X = _
    rw [wp_noex, wp_call]
    simp
theorem vIsB_bl {a b : Bool} : vIsB (.bl a) (.bl b) = some (.v (.bl (decide (a = b)))) := rfl
theorem wu_TEqO {neg : Bool} {tab : Nat → Option FT} {a b : M Rs} : Wp (TEqO neg tab a b s) Q X = Wp ((bnd a fun x => bnd b fun y => bnd (pk x) fun d => bnd (pk y) fun e => eqO neg tab d e : M Rs) s) Q X := rfl
theorem wp_eqO {neg : Bool} {tab : Nat → Option FT} {ds es : List D} : Wp (eqO neg tab (.list ds) (.list es) s) Q X = (eqAll tab ds es s ∧ Q (.v (.bl (!neg))) s) := by
  rw [Wp_eq]
  show Wp0 (@ite _ (eqAll tab ds es s) (Classical.propDecidable _) (some (.ok (Rs.v (.bl (!neg))), s)) none) Q X = _
  by_cases h : eqAll tab ds es s
  · rw [if_pos h]
    exact propext ⟨fun z => ⟨h, z⟩, fun z => z.2⟩
  · rw [if_neg h]
    exact propext ⟨fun z => z.elim, fun z => h z.1⟩
theorem wu_TFmt {a : M Rs} : Wp (TFmt a s) Q X = Wp ((bnd a fun x => bnd (pk x) fun d => bnd (opt (fmtD d)) fun z => ret (.v (.str z)) : M Rs) s) Q X := rfl
theorem wu_TJs_nil {acc : Str} : Wp (TJs [] acc s) Q X = Wp ((ret (.v (.str acc)) : M Rs) s) Q X := rfl
/-- a part's text behind what stands -/
def jStr (ts : List (M Rs)) (acc : Str) (d : D) : M Rs := match d with
  | .str y => if fits (acc ++ y).length = true then TJs ts (acc ++ y) else fun _ => none
  | _ => fun _ => none
theorem wu_TJs_cons {t : M Rs} {ts : List (M Rs)} {acc : Str} : Wp (TJs (t :: ts) acc s) Q X = Wp ((bnd t fun x => bnd (pk x) fun d => jStr ts acc d : M Rs) s) Q X := rfl
theorem wp_jStr {ts : List (M Rs)} {acc y : Str} : Wp (jStr ts acc (.str y) s) Q X = (fits (acc ++ y).length = true ∧ Wp (TJs ts (acc ++ y) s) Q X) := by
  show Wp ((if fits (acc ++ y).length = true then TJs ts (acc ++ y) else fun _ => none) s) Q X = _
  by_cases h : fits (acc ++ y).length = true
  · rw [if_pos h]; exact propext ⟨fun z => ⟨h, z⟩, fun z => z.2⟩
  · rw [if_neg h, Wp_eq]
    exact propext ⟨fun z => z.elim, fun z => h z.1⟩
end
/-! ### loops over lists that may stand in the store -/
section
variable {s : S} {G : GD} {chk : S → Prop} {ds : List D}
theorem ws_TForC {I : M (List D × (S → Prop))} {T : TSd} {Q : Fl → S → Prop} : Ws (TForC I G T s) Q = Wp (I s) (fun p s1 => Ws (forC G T p.2 p.1 s1) Q) (fun x s1 => Q (.ex x) s1) := ws_sb
theorem wu_ILstC {T : M Rs} {Q : (List D × (S → Prop)) → S → Prop} {X : XQ} : Wp (ILstC T s) Q X = Wp ((bnd T fun r => bnd (stab r) fun d => listC d : M (List D × (S → Prop))) s) Q X := rfl
theorem wu_IEnumC {T : M (List D)} {Q : (List D × (S → Prop)) → S → Prop} {X : XQ} : Wp (IEnumC T s) Q X = Wp ((bnd T enC : M (List D × (S → Prop))) s) Q X := rfl
theorem wp_enC {d : D} {Q : (List D × (S → Prop)) → S → Prop} {X : XQ} : Wp (enC [d] s) Q X = Wp ((bnd (listC d) fun p => ret (enumD p.1, p.2) : M (List D × (S → Prop))) s) Q X := rfl
theorem wp_listC {d : D} {Q : (List D × (S → Prop)) → S → Prop} {X : XQ} : Wp (listC d s) Q X = ∃ x, peek s (.v d) = some x ∧ ∃ ds, itemsL x = some ds ∧ Q (ds, chkD d ds) s := by
  rw [Wp_eq]
  unfold listC
  cases h : peek s (.v d) with
  | none =>
    simp only [Option.bind_none]
    exact propext ⟨fun z => z.elim, fun ⟨x, e, _⟩ => nomatch e⟩
  | some x =>
    simp only [Option.bind_some]
    cases h2 : itemsL x with
    | none => exact propext ⟨fun z => z.elim, fun ⟨x', e, ds, e2, _⟩ => by cases e; rw [h2] at e2; cases e2⟩
    | some ds => exact propext ⟨fun z => ⟨x, rfl, ds, h2, z⟩, fun ⟨x', e, ds', e2, z⟩ => by cases e; rw [h2] at e2; cases e2; exact z⟩
theorem forC_eq {T : TSd} (h : ∀ s, chk s) : ∀ {ds : List D} {s : S}, forC G T chk ds s = forD G T ds s
  | [], s => by unfold forC; rw [if_pos (h s)]; rfl
  | d :: ds, s => by
    unfold forC forD
    rw [if_pos (h s)]
    cases G d s with
    | none => rfl
    | some s1 =>
      simp only
      cases T s1 with
      | none => rfl
      | some p => obtain ⟨f, s2⟩ := p; cases f <;> first | rfl | exact forC_eq h
theorem chk_list (s : S) : chkD (.list ds) ds s := rfl
theorem chk_scr (s : S) : chkD (.scr ds) ds s := rfl
theorem forC_list {T : TSd} {es : List D} {Q : Fl → S → Prop} : Ws (forC G T (chkD (.list ds) ds) es s) Q = Ws (forD G T es s) Q := by rw [forC_eq chk_list]
theorem forC_scr {T : TSd} {es : List D} {Q : Fl → S → Prop} : Ws (forC G T (chkD (.scr ds) ds) es s) Q = Ws (forD G T es s) Q := by rw [forC_eq chk_scr]
variable {B : M Bool} {T : M Rs} {vs : List Nat}
theorem lcC_eq (h : ∀ s, chk s) : ∀ {ds acc : List D} {s : S}, lcC G B T vs chk ds acc s = lcD G B T vs ds acc s
  | [], acc, s => by unfold lcC; rw [if_pos (h s)]; rfl
  | d :: ds, acc, s => by
    unfold lcC lcD
    rw [if_pos (h s)]
    cases G d s with
    | none => rfl
    | some s1 =>
      simp only
      cases B s1 with
      | none => rfl
      | some p =>
        obtain ⟨r, s2⟩ := p
        cases r with
        | ex x => rfl
        | ok b =>
          cases b with
          | false => exact lcC_eq h
          | true =>
            simp only
            cases bnd T stab s2 with
            | none => rfl
            | some p => obtain ⟨r, s3⟩ := p; cases r <;> first | rfl | exact lcC_eq h
theorem lcC_list {es acc : List D} {Q : List D → S → Prop} {X : XQ} : Wp (lcC G B T vs (chkD (.list ds) ds) es acc s) Q X = Wp (lcD G B T vs es acc s) Q X := by rw [lcC_eq chk_list]
theorem lcC_scr {es acc : List D} {Q : List D → S → Prop} {X : XQ} : Wp (lcC G B T vs (chkD (.scr ds) ds) es acc s) Q X = Wp (lcD G B T vs es acc s) Q X := by rw [lcC_eq chk_scr]
theorem wp_LcC {I : M (List D × (S → Prop))} {Q : Rs → S → Prop} {X : XQ} (h : Wp (I s) (fun p s1 => p.1.length ≤ 16777216 ∧ Wp (lcC G B T vs p.2 p.1 [] ⟨wipeE vs s1.env, s1.μ⟩) (fun es s2 => Q (.fr (.list es)) ⟨restE vs s1.env s2.env, s2.μ⟩) fun _ _ => False) X) : Wp (TLcC I G B T vs s) Q X := by
  unfold TLcC
  rw [wp_bnd]
  refine wp_mono h fun p s1 ⟨hf, h⟩ => ?_
  have hf : fits p.1.length = true := decide_eq_true hf
  show Wp (if fits p.1.length = true then _ else _) Q X
  rw [if_pos hf]
  rw [Wp_eq] at h ⊢
  cases e : lcC G B T vs p.2 p.1 [] ⟨wipeE vs s1.env, s1.μ⟩ with
  | none => rw [e] at h; exact h.elim
  | some q =>
    obtain ⟨r, s2⟩ := q
    rw [e] at h
    cases r with
    | ex x => exact h.elim
    | ok es => exact h
/-- as lc_inv: where the list stands, I says so -/
theorem lc_invC {Q : List D → S → Prop} {X : XQ} : ∀ {ds acc : List D} {s : S} (I : Nat → List D → S → Prop), I 0 acc s → (∀ k acc s, k ≤ ds.length → I k acc s → chk s) → (∀ k d acc s, ds[k]? = some d → I k acc s → ∃ s1, G d s = some s1 ∧ Wp (B s1) (fun b s2 => if b = true then Wp (T s2) (fun r s3 => Wp (stab r s3) (fun e s4 => I (k + 1) (acc ++ [e]) ⟨wipeE vs s4.env, s4.μ⟩) fun _ _ => False) (fun _ _ => False) else I (k + 1) acc ⟨wipeE vs s2.env, s2.μ⟩) fun _ _ => False) → (∀ acc s, I ds.length acc s → Q acc s) → Wp (lcC G B T vs chk ds acc s) Q X
  | [], acc, s, I, h0, ck, _, fin => by
    rw [Wp_eq]
    unfold lcC
    rw [if_pos (ck 0 acc s (Nat.le_refl _) h0)]
    exact fin acc s h0
  | d :: ds, acc, s, I, h0, ck, step, fin => by
    obtain ⟨s1, e1, h1⟩ := step 0 d acc s rfl h0
    rw [Wp_eq] at h1 ⊢
    unfold lcC
    rw [if_pos (ck 0 acc s (Nat.zero_le _) h0), e1]
    simp only
    have next : ∀ acc s2, I 1 acc s2 → Wp0 (lcC G B T vs chk ds acc s2) Q X := fun acc s2 h => by
      rw [← Wp_eq]
      exact lc_invC (fun k => I (k + 1)) h (fun k acc s hk hi => ck (k + 1) acc s (by simpa using hk) hi) (fun k d acc s hd hi => step (k + 1) d acc s (by simpa using hd) hi) fin
    cases e : B s1 with
    | none => rw [e] at h1; exact h1.elim
    | some p =>
      obtain ⟨r, s2⟩ := p
      rw [e] at h1
      cases r with
      | ex x => exact h1.elim
      | ok b =>
        have h1 : (if b = true then Wp (T s2) (fun r s3 => Wp (stab r s3) (fun e s4 => I 1 (acc ++ [e]) ⟨wipeE vs s4.env, s4.μ⟩) fun _ _ => False) (fun _ _ => False) else I 1 acc ⟨wipeE vs s2.env, s2.μ⟩) := h1
        cases b with
        | false => exact next _ _ h1
        | true =>
          rw [if_pos rfl, ← wp_bnd, Wp_eq] at h1
          simp only
          cases e2 : bnd T stab s2 with
          | none => rw [e2] at h1; exact h1.elim
          | some p =>
            obtain ⟨r, s3⟩ := p
            rw [e2] at h1
            cases r with
            | ex x => exact h1.elim
            | ok u => exact next _ _ h1
variable {Q : List D → S → Prop} {X : XQ} {α : Type} {xs : List α}
theorem lc_eachC (ck : chk s) (g : α → D) (f : α → Option D)
    (step : ∀ d ∈ xs, ∃ s1, G (g d) s = some s1 ∧ Wp (B s1) (fun b s2 => if b = true then Wp (T s2) (fun r s3 => Wp (stab r s3) (fun e s4 => f d = some e ∧ (⟨wipeE vs s4.env, s4.μ⟩ : S) = s) fun _ _ => False) (fun _ _ => False) else f d = none ∧ (⟨wipeE vs s2.env, s2.μ⟩ : S) = s) fun _ _ => False)
    (fin : Q (xs.filterMap f) s) : Wp (lcC G B T vs chk (xs.map g) [] s) Q X := by
  refine lc_invC (fun k acc s' => acc = (xs.take k).filterMap f ∧ s' = s) ⟨rfl, rfl⟩ (fun k acc s' _ h => by rw [h.2]; exact ck) ?_ ?_
  · rintro k d acc s' hd ⟨rfl, rfl⟩
    rw [List.getElem?_map] at hd
    obtain ⟨d, hd', rfl⟩ := Option.map_eq_some_iff.mp hd
    clear hd
    have hd := hd'
    obtain ⟨s1, e1, h1⟩ := step d (List.mem_of_getElem? hd)
    have hk : k < xs.length := (List.getElem?_eq_some_iff.mp hd).1
    have tk : (xs.take (k + 1)).filterMap f = (xs.take k).filterMap f ++ (match f d with | some e => [e] | none => []) := by
      rw [List.take_succ_eq_append_getElem hk, List.filterMap_append]
      congr 1
      obtain ⟨_, e⟩ := List.getElem?_eq_some_iff.mp hd
      rw [e]
      simp only [List.filterMap_cons, List.filterMap_nil]
      cases f d <;> rfl
    refine ⟨s1, e1, wp_mono h1 fun b s2 h2 => ?_⟩
    cases b with
    | false =>
      simp only [Bool.false_eq_true, if_false] at h2 ⊢
      exact ⟨by rw [tk, h2.1]; simp, h2.2⟩
    | true =>
      simp only [if_true] at h2 ⊢
      exact wp_mono h2 fun r s3 h3 => wp_mono h3 fun e s4 h4 => ⟨by rw [tk, h4.1], h4.2⟩
  · rintro acc s' ⟨rfl, rfl⟩
    rw [List.length_map, List.take_length]; exact fin
theorem lc_allC (ck : chk s) (g : α → D) (f : α → D)
    (step : ∀ d ∈ xs, ∃ s1, G (g d) s = some s1 ∧ Wp (B s1) (fun b s2 => if b = true then Wp (T s2) (fun r s3 => Wp (stab r s3) (fun e s4 => e = f d ∧ (⟨wipeE vs s4.env, s4.μ⟩ : S) = s) fun _ _ => False) (fun _ _ => False) else False) fun _ _ => False)
    (fin : Q (xs.map f) s) : Wp (lcC G B T vs chk (xs.map g) [] s) Q X := by
  refine lc_eachC ck g (fun x => some (f x)) (fun d hd => ?_) (by rw [show xs.filterMap (fun x => some (f x)) = xs.map f from congrFun (List.filterMap_eq_map (f := f)) xs]; exact fin)
  obtain ⟨s1, e1, h1⟩ := step d hd
  refine ⟨s1, e1, wp_mono h1 fun b s2 h2 => ?_⟩
  cases b with
  | false => simp only [Bool.false_eq_true, if_false] at h2
  | true =>
    simp only [if_true] at h2 ⊢
    exact wp_mono h2 fun r s3 h3 => wp_mono h3 fun e s4 h4 => ⟨by rw [h4.1], h4.2⟩
theorem lc_filterC (ck : chk s) (g : α → D) (p : α → Bool)
    (step : ∀ d ∈ xs, ∃ s1, G (g d) s = some s1 ∧ Wp (B s1) (fun b s2 => b = p d ∧ if b = true then Wp (T s2) (fun r s3 => Wp (stab r s3) (fun e s4 => e = g d ∧ (⟨wipeE vs s4.env, s4.μ⟩ : S) = s) fun _ _ => False) (fun _ _ => False) else (⟨wipeE vs s2.env, s2.μ⟩ : S) = s) fun _ _ => False)
    (fin : Q ((xs.filter p).map g) s) : Wp (lcC G B T vs chk (xs.map g) [] s) Q X := by
  have fe : xs.filterMap (fun x => if p x = true then some (g x) else none) = (xs.filter p).map g := by
    clear step fin ck
    induction xs with
    | nil => rfl
    | cons x xs ih => by_cases c : p x = true <;> simp [c, ih]
  refine lc_eachC ck g (fun x => if p x = true then some (g x) else none) (fun d hd => ?_) (by rw [fe]; exact fin)
  obtain ⟨s1, e1, h1⟩ := step d hd
  refine ⟨s1, e1, wp_mono h1 fun b s2 h2 => ?_⟩
  obtain ⟨rfl, h2⟩ := h2
  cases hb : p d with
  | false => rw [hb] at h2; simp only [Bool.false_eq_true, if_false] at h2 ⊢; exact ⟨trivial, h2⟩
  | true =>
    rw [hb] at h2
    simp only [if_true] at h2 ⊢
    exact wp_mono h2 fun r s3 h3 => wp_mono h3 fun e s4 h4 => ⟨by rw [h4.1], h4.2⟩
end
theorem wu_TReprM {a : M Rs} {s : S} {Q : Rs → S → Prop} {X : XQ} : Wp (TReprM a s) Q X = Wp ((bnd a fun x => bnd (pk x) reprM : M Rs) s) Q X := rfl
theorem wp_reprM {d : D} {s : S} {Q : Rs → S → Prop} {X : XQ} : Wp (reprM d s) Q X = ∃ z, reprS s d = some z ∧ Q (.v (.str z)) s := by
  show Wp (opt ((reprS s d).map fun z => Rs.v (.str z)) s) Q X = _
  rw [wp_opt]
  apply propext
  constructor
  · rintro ⟨b, e, q⟩
    obtain ⟨z, e2, rfl⟩ := Option.map_eq_some_iff.mp e
    exact ⟨z, e2, q⟩
  · rintro ⟨z, e, q⟩
    exact ⟨_, by rw [e]; rfl, q⟩
/-- d is x at this store -/
def Lk (μ : List D) (d x : D) : Prop := ∀ env, peek ⟨env, μ⟩ (.v d) = some x
theorem Lk.chk {μ : List D} {d : D} {ds : List D} (h : Lk μ d (.list ds)) {env : List (Option A)} : chkD d ds ⟨env, μ⟩ := by
  unfold chkD
  rw [h env]; rfl
theorem Lk.app {μ l : List D} {d x : D} (h : Lk μ d x) : Lk (μ ++ l) d x := fun env => by
  have := h env
  cases d with
  | loc n =>
    have h1 : μ[n]? = some x := this
    show (μ ++ l)[n]? = some x
    rw [List.getElem?_append_left (List.getElem?_eq_some_iff.mp h1).1]; exact h1
  | _ => exact this
theorem Lk.set {μ : List D} {d x y : D} {m : Nat} (h : Lk μ d x) (hm : d ≠ .loc m) : Lk (μ.set m y) d x := fun env => by
  have := h env
  cases d with
  | loc n =>
    have h1 : μ[n]? = some x := this
    show (μ.set m y)[n]? = some x
    rw [List.getElem?_set_ne (fun e => hm (by rw [e]))]; exact h1
  | _ => exact this
theorem Lk.keep {μ ν : List D} {d x : D} (h : Lk μ d x) (k : ∀ j, j < μ.length → ν[j]? = μ[j]?) : Lk ν d x := fun env => by
  have := h env
  cases d with
  | loc n =>
    have h1 : μ[n]? = some x := this
    show ν[n]? = some x
    rw [k n (List.getElem?_eq_some_iff.mp h1).1]; exact h1
  | _ => exact this
theorem Lk.lt {μ : List D} {x : D} {n : Nat} (h : Lk μ (.loc n) x) : n < μ.length := (List.getElem?_eq_some_iff.mp (h [])).1
theorem lk_list {μ ds : List D} : Lk μ (.list ds) (.list ds) := fun _ => rfl
theorem lk_loc {μ : List D} {n : Nat} {x : D} (h : μ[n]? = some x) : Lk μ (.loc n) x := fun _ => h
end Z
/-! rules for the walk: star defs, == over the store, two fors, unpacking of a list -/
namespace Z
open PySem PySem.Spec PyProof.Rows L2 U ClX
section
variable {s : S} {Q : Rs → S → Prop} {X : XQ}
theorem wu_TFnS {n0 : Nat} {F : FT} {T : M (List D)} : Wp (TFnS n0 F T s) Q X = Wp ((bnd T fun ds => if (decide (n0 ≤ ds.length) && fits ds.length) = true then call F (ds.take n0 ++ [.tup (ds.drop n0)]) else fun _ => none : M Rs) s) Q X := rfl
theorem wu_TEqM {neg : Bool} {a b : M Rs} : Wp (TEqM neg a b s) Q X = Wp ((bnd a fun x => bnd b fun y => bnd (pk x) fun d => bnd (pk y) fun e => fun s => opt ((eqM s d e).map fun r => Rs.v (.bl (if neg = true then !r else r))) s : M Rs) s) Q X := rfl
end
/-! ### min of alike data -/
end Z
/-! rules for the walk: texts, classmethods -/
namespace Z
open PySem PySem.Spec PyProof.Rows L2 U ClX
section
variable {s : S} {Q : Rs → S → Prop} {X : XQ}
def txtM (f : Str → List D → Option Rs) (t : M (List Rs)) (d0 : D) : M Rs := match d0 with
  | .str a => bnd t fun rs => bnd (pks rs) fun es => opt (f a es)
  | _ => fun _ => none
theorem wu_TSM {f : Str → List D → Option Rs} {o : M Rs} {t : M (List Rs)} : Wp (TSM f o t s) Q X = Wp ((bnd o fun r => bnd (pk r) fun d0 => txtM f t d0 : M Rs) s) Q X := rfl
theorem wp_txtM {f : Str → List D → Option Rs} {t : M (List Rs)} {a : Str} : Wp (txtM f t (.str a) s) Q X = Wp ((bnd t fun rs => bnd (pks rs) fun es => opt (f a es) : M Rs) s) Q X := rfl
theorem wu_TCm {tab : Nat → Option FT} {o : M Rs} {T : M (List D)} : Wp (TCm tab o T s) Q X = Wp ((bnd o fun r => bnd (pk r) fun d0 => cmeth tab d0 fun d F => bnd T fun ds => call F (d :: ds) : M Rs) s) Q X := rfl
theorem wu_TCmK {tab : Nat → Option FT} {n : Nat} {g : List D → List D} {o : M Rs} {T : M (List D)} : Wp (TCmK tab n g o T s) Q X = Wp ((bnd o fun r => bnd (pk r) fun d0 => cmeth tab d0 fun d F => bnd T fun ds => if ds.length = n then call F (d :: g ds) else fun _ => none : M Rs) s) Q X := rfl
theorem wp_cmeth {tab : Nat → Option FT} {k : Nat} {f : D → FT → M Rs} : Wp (cmeth tab (.cl k) f s) Q X = ∃ F, tab k = some F ∧ Wp (f (.cl k) F s) Q X := by
  show Wp ((match tab k with | some F => f (.cl k) F | none => fun _ => none : M Rs) s) Q X = _
  cases tab k with
  | none => rw [Wp_eq]; simp [Wp0]
  | some F => simp
end
theorem mFindS_str {a b : Str} : mFindS a [.str b] = some (.v (.int (Txt.find a b))) := rfl
theorem bInt2_int {i : Int} : bInt2 [.int i] = some (.v (.int i)) := rfl
theorem bInt2_bl {k : Bool} : bInt2 [.bl k] = some (.v (.int (if k = true then 1 else 0))) := rfl
end Z
/-! class calls by keywords; repr of data with dicts -/
namespace U
open PySem PySem.Spec PyProof.Rows L2 ClX
end U
namespace Z
open PySem PySem.Spec PyProof.Rows L2 U ClX
/-! ### repr of a list of data with dicts -/
def keyP : Key → PyData
  | .inl i => .int i
  | .inr x => .str x
mutual
inductive Dq (K : PySem.W.Frag) (H : Hp) : V → PyData → Prop
  | non : Dq K H .non .none
  | bl (b : Bool) : Dq K H (.bl b) (.bool b)
  | int (i : Int) : Dq K H (.int i) (.int i)
  | str (x : Str) : Dq K H (.str x) (.str x)
  | lst {a : Addr} {xs : List V} {ds : List PyData} : SqL K H a xs → DqAll K H xs ds → Dq K H (.ref a) (.list ds)
  | tup {a : Addr} {xs : List V} {ds : List PyData} : SqT K H a xs → DqAll K H xs ds → Dq K H (.ref a) (.tuple ds)
  | dk {a : Addr} {kvs : List (Key × V)} {ds : List (PyData × PyData)} : Rd H a (.dK kvs) → DqK K H kvs ds → Dq K H (.ref a) (.dict ds)
inductive DqAll (K : PySem.W.Frag) (H : Hp) : List V → List PyData → Prop
  | nil : DqAll K H [] []
  | cons {v : V} {vs : List V} {d : PyData} {ds : List PyData} : Dq K H v d → DqAll K H vs ds → DqAll K H (v :: vs) (d :: ds)
inductive DqK (K : PySem.W.Frag) (H : Hp) : List (Key × V) → List (PyData × PyData) → Prop
  | nil : DqK K H [] []
  | cons {k : Key} {v : V} {vs : List (Key × V)} {d : PyData} {ds : List (PyData × PyData)} : Dq K H v d → DqK K H vs ds → DqK K H ((k, v) :: vs) ((keyP k, d) :: ds)
end
theorem key_reads {h : Heap} {P : Program} {w : World} {k : Key} {u : Value} (e : (mixKind P w).is k u = true) : Reads h u (keyP k) [] := by
  rcases keyIs_shape e with ⟨i, t, rfl, rfl⟩ | ⟨x, t, rfl, rfl⟩
  · exact .int i t
  · exact .str x t
section
variable {X : Cx} {pins : List (Addr × Obj)} {σ : L2.St} {H : Hp} {s : Shared}
mutual
theorem Dq.reads (I : Inv X pins σ H s) : ∀ {v : V} {d : PyData} {u : Value}, Dq X.K H v d → RelV v u → ∃ as, Reads s.heap u d as
  | _, _, _, .non, r => by cases r; exact ⟨_, .none⟩
  | _, _, _, .bl b, r => by cases r; exact ⟨_, .bool b⟩
  | _, _, _, .int i, r => by obtain ⟨t, rfl⟩ := r; exact ⟨_, .int i t⟩
  | _, _, _, .str x, r => by obtain ⟨t, rfl⟩ := r; exact ⟨_, .str x t⟩
  | _, _, _, .lst hs ha, r => by
    cases r
    obtain ⟨its, rv, ⟨o, n, ho, hc, _, hd⟩, _⟩ := I.list hs
    obtain ⟨as, hr⟩ := DqAll.reads I ha rv
    exact ⟨_, .list ho hc hd hr⟩
  | _, _, _, .tup hs ha, r => by
    cases r
    obtain ⟨its, rv, ⟨o, ho, hc, n, hd⟩, _⟩ := I.tuple hs
    obtain ⟨as, hr⟩ := DqAll.reads I ha rv
    exact ⟨_, .tuple ho hc hd hr⟩
  | _, _, _, .dk hs ha, r => by
    cases r
    obtain ⟨_, _, vs, kv, o, es, ep, ho, xd, hd, _, pr, _⟩ := dk_rd I.hok hs
    obtain ⟨as, bs, h1, h2⟩ := DqK.reads I ha kv pr
    exact ⟨_, .dict ho xd.1 hd h1 h2⟩
theorem DqAll.reads (I : Inv X pins σ H s) : ∀ {vs : List V} {ds : List PyData} {us : List Value}, DqAll X.K H vs ds → Vals vs us → ∃ as, ReadsAll s.heap us ds as
  | _, _, _, .nil, .nil => ⟨_, .nil⟩
  | _, _, _, .cons h1 h2, .cons r1 r2 => by
    obtain ⟨as, q1⟩ := Dq.reads I h1 r1
    obtain ⟨bs, q2⟩ := DqAll.reads I h2 r2
    exact ⟨_, .cons q1 q2⟩
theorem DqK.reads (I : Inv X pins σ H s) : ∀ {kvs : List (Key × V)} {ds : List (PyData × PyData)} {vs : List (Key × Value)} {es : List DictEntry}, DqK X.K H kvs ds → KV kvs vs → Pairs (mixKind X.prog X.w) es vs → ∃ as bs, ReadsAll s.heap (es.map (·.key)) (ds.map (·.1)) as ∧ ReadsAll s.heap (es.map (·.val)) (ds.map (·.2)) bs
  | _, _, _, _, .nil, .nil, .nil => ⟨_, _, .nil, .nil⟩
  | _, _, _, _, .cons h1 h2, .cons r1 r2, .cons k1 k2 k3 => by
    obtain ⟨as, q1⟩ := Dq.reads I h1 r1.2
    obtain ⟨bs, cs, q2, q3⟩ := DqK.reads I h2 r2 k3
    have e1 := r1.1
    rw [← e1] at k1
    rw [← k2] at q1
    exact ⟨_, _, .cons (key_reads k1) q2, .cons q1 q3⟩
end
end
/-! ### a dict is locked while its keys are walked; lists or tuples are walked -/
def keyD : Key → D
  | .inl i => .int i
  | .inr z => .str z
section
variable {c : Cz} {E : XS}
/-- the same but for dicts that are locked or unlocked -/
def Tw (F F' : Hp) : Prop := ∀ b u, F b = some u → F' b = some u ∨ ∃ kvs, (u = .dK kvs ∨ ∃ o, u = .frz o (.dK kvs)) ∧ Rd F' b (.dK kvs)
section
variable {ρ : List Addr} {F F' : Hp}
theorem Tw.of (t : Tw F F') {b : Addr} {u : HO} (h : F b = some u) (n : ∀ kvs, u ≠ .dK kvs) (n2 : ∀ o kvs, u ≠ .frz o (.dK kvs)) : F' b = some u := by
  rcases t b u h with h | ⟨kvs, rfl | ⟨o, rfl⟩, _⟩
  · exact h
  · exact absurd rfl (n _)
  · exact absurd rfl (n2 _ _)
theorem Tw.rd (t : Tw F F') {b : Addr} {u : HO} (n : ∀ o kvs, u ≠ .frz o (.dK kvs)) (h : Rd F b u) : Rd F' b u := by
  rcases h with h | ⟨o, h⟩
  · rcases t b u h with h2 | ⟨kvs, z | ⟨o, z⟩, h2⟩
    · exact .inl h2
    · rw [z]; exact h2
    · exact absurd z (n _ _)
  · rcases t b _ h with h2 | ⟨kvs, z | ⟨o', z⟩, h2⟩
    · exact .inr ⟨o, h2⟩
    · cases z
    · cases z; exact h2
theorem Tw.seq (t : Tw F F') {K : PySem.W.Frag} {a : Addr} {xs : List V} (h : SqL K F a xs) : SqL K F' a xs := h.imp (t.rd fun _ _ z => by cases z) id
theorem Tw.tup (t : Tw F F') {K : PySem.W.Frag} {a : Addr} {xs : List V} (h : SqT K F a xs) : SqT K F' a xs := h.imp (t.rd fun _ _ z => by cases z) id
theorem Tw.lst (t : Tw F F') {a : Addr} {xs : List V} (h : F a = some (.lst xs)) : F' a = some (.lst xs) := t.of h (fun _ z => by cases z) (fun _ _ z => by cases z)
theorem Tw.ins (t : Tw F F') {a C dx : Addr} {fs : List (Str × V)} (h : F a = some (.ins C dx fs)) : F' a = some (.ins C dx fs) := t.of h (fun _ z => by cases z) (fun _ _ z => by cases z)
theorem Tw.exc (t : Tw F F') {a : Addr} {cls : Value} {d : Option Addr} {b : Addr} (h : F a = some (exV cls d b)) : F' a = some (exV cls d b) := t.of h (fun _ z => by unfold exV at z; cases z) (fun _ _ z => by unfold exV at z; cases z)
theorem Tw.xd (t : Tw F F') {a : Addr} {fs : List (Str × V)} (h : F a = some (.xd fs)) : F' a = some (.xd fs) := t.of h (fun _ z => by cases z) (fun _ _ z => by cases z)
end
end
end Z
/-! split, join; a class without __init__; methods with super() behind other statements -/
namespace U
open PySem PySem.Spec PyProof.Rows L2 ClX
/-! ### statements at their activation -/
end U
namespace Z
open PySem PySem.Spec PyProof.Rows L2 U ClX
open NdefX (NScope envF ncx startF CellsAt inv_startN NF)
/-! ### C() of a class without __init__ -/
/-! ### zip of lists that may stand in the store -/
def zipL (p : List D) (r : List D) : List D := (p.zip r).map fun q => D.tup [q.1, q.2]
def zipC : List D → M (List D × (S → Prop))
  | [a, b] => bnd (listC a) fun p => bnd (listC b) fun r => ret (zipL p.1 r.1, fun s => p.2 s ∧ r.2 s)
  | _ => fun _ => none
def IZipC (T : M (List D)) : M (List D × (S → Prop)) := bnd T zipC
end Z
namespace Hk
open PySem PySem.Spec PyProof.Rows L2 U ClX Z He
end Hk
/-! list(zip(a, b)) -/
namespace U
open PySem PySem.Spec PyProof.Rows L2 ClX
section
variable {X : Cx} {pins : List (Addr × Obj)} {σ : L2.St}
theorem FpOk.upd {H : Hp} {b T : Addr} {o : HO} (h : FpOk X pins H b) (ne : b ≠ T) : FpOk X pins (upd H T o) b := ⟨by rw [upd_ne ne]; exact h.1, h.2⟩
variable {ta : TA} {e e2 : Expr} {p p2 pos pos2 : Pos}
end
end U
namespace Z
open PySem PySem.Spec PyProof.Rows L2 U ClX
section
variable {c : Cz} {E : XS} {w w0 : Wd} {σ : L2.St} {s s' : S}
def zipLD : List D → Option Rs
  | [a, b] => (match itemsL a, itemsL b with
    | some xs, some ys => some (.fr (.list (zipL xs ys)))
    | _, _ => none)
  | _ => none
def TLstZip (T : M (List D)) : M Rs := bnd T fun ds => opt (zipLD ds)
/-! ### list(range(..)) -/
def lstRg1 : D → Option Rs
  | .int j => if (decide (0 ≤ j) && decide (j ≤ 16777216)) = true then some (.fr (.list (rngD 0 j.toNat))) else none
  | _ => none
def lstRg2 : D → D → Option Rs
  | .int i, .int j => if (decide (0 ≤ i) && decide (i ≤ 16777216) && (decide (0 ≤ j) && decide (j ≤ 16777216))) = true then some (.fr (.list (rngD i (j - i).toNat))) else none
  | _, _ => none
/-! ### list.remove of whole numbers -/
/-! ### x is not True, x is not False -/
end
end Z
namespace U
open PySem PySem.Spec PyProof.Rows L2 ClX
end U
namespace Z
open PySem PySem.Spec PyProof.Rows L2 U ClX
def vIsNotB : D → D → Option Rs
  | .bl a, .bl b => some (.v (.bl (!decide (a = b))))
  | _, _ => none
/-! ### a text times a whole number -/
end Z
/-! calls with positional and keyword arguments at once -/
namespace U
open PySem PySem.Spec PyProof.Rows L2 ClX
end U
namespace Z
open PySem PySem.Spec PyProof.Rows L2 U ClX
def TFnM (F : FT) (n m : Nat) (g : List D → List D) (T Tk : M (List D)) : M Rs := bnd T fun ds => bnd Tk fun es => if (decide (ds.length = n) && decide (es.length = m)) = true then call F (ds ++ g es) else fun _ => none
end Z
/-! [.. for k, v in self.d.items()] -/
namespace Z
open PySem PySem.Spec PyProof.Rows L2 U ClX
section
variable {c : Cz} {E : XS}
def itemsD (ds : List (Key × D)) : List D := ds.map fun kv => .tup [keyD kv.1, kv.2]
variable {P : Program} {wl : World} {mg : Str → Option Value} {base : Heap}
end
/-! ### an __init__ whose self is a thing of the store -/
end Z
/-! rules for the walk: calls with keywords behind positions, list(zip), list(range), remove -/
namespace Z
open PySem PySem.Spec PyProof.Rows L2 U ClX
section
variable {s : S} {Q : Rs → S → Prop} {X : XQ}
theorem wu_TFnM {F : FT} {n m : Nat} {g : List D → List D} {T Tk : M (List D)} : Wp (TFnM F n m g T Tk s) Q X = Wp ((bnd T fun ds => bnd Tk fun es => if (decide (ds.length = n) && decide (es.length = m)) = true then call F (ds ++ g es) else fun _ => none : M Rs) s) Q X := rfl
theorem wu_TLstZip {T : M (List D)} : Wp (TLstZip T s) Q X = Wp ((bnd T fun ds => opt (zipLD ds) : M Rs) s) Q X := rfl
theorem zipLD_ll {xs ys : List D} : zipLD [.list xs, .list ys] = some (.fr (.list (zipL xs ys))) := rfl
theorem lstRg1_int {j : Int} : lstRg1 (.int j) = if (decide (0 ≤ j) && decide (j ≤ 16777216)) = true then some (.fr (.list (rngD 0 j.toNat))) else none := rfl
theorem lstRg2_int {i j : Int} : lstRg2 (.int i) (.int j) = if (decide (0 ≤ i) && decide (i ≤ 16777216) && (decide (0 ≤ j) && decide (j ≤ 16777216))) = true then some (.fr (.list (rngD i (j - i).toNat))) else none := rfl
theorem vIsNotB_bl {a b : Bool} : vIsNotB (.bl a) (.bl b) = some (.v (.bl (!decide (a = b)))) := rfl
theorem wu_IZipC {T : M (List D)} {Q : (List D × (S → Prop)) → S → Prop} : Wp (IZipC T s) Q X = Wp ((bnd T zipC : M (List D × (S → Prop))) s) Q X := rfl
theorem wp_zipC {a b : D} {Q : (List D × (S → Prop)) → S → Prop} : Wp (zipC [a, b] s) Q X = Wp ((bnd (listC a) fun p => bnd (listC b) fun r => ret (zipL p.1 r.1, fun s => p.2 s ∧ r.2 s) : M (List D × (S → Prop))) s) Q X := rfl
end
end Z
/-! list(g(..)) of a generator def that hands out nothing -/
namespace U
open PySem PySem.Spec PyProof.Rows L2 ClX
/-! ### xs[::k], k is 1 or -1 -/
end U
namespace Z
open PySem PySem.Spec PyProof.Rows L2 U ClX
def TLstGM (F : FT) (n m : Nat) (g : List D → List D) (T Tk : M (List D)) : M Rs := bnd T fun ds => bnd Tk fun es => if (decide (ds.length = n) && decide (es.length = m)) = true then bnd (noex (call F (ds ++ g es))) (fun r => match r with | .v .non => ret (.fr (.list [])) | _ => fun _ => none) else fun _ => none
def stL : D → D → Option Rs
  | .list ds, .int i => if i = 1 then some (.fr (.list ds)) else if i = -1 then some (.fr (.list ds.reverse)) else none
  | _, _ => none
def TStL (T Tk : M Rs) : M Rs := bnd T fun x => bnd Tk fun y => bnd (pk x) fun d => bnd (pk y) fun e => opt (stL d e)
end Z
/-! rules for the walk: list(g(..)) -/
namespace Z
open PySem PySem.Spec PyProof.Rows L2 U ClX
section
variable {s : S} {Q : Rs → S → Prop} {X : XQ}
theorem wu_TLstGM {F : FT} {n m : Nat} {g : List D → List D} {T Tk : M (List D)} : Wp (TLstGM F n m g T Tk s) Q X = Wp ((bnd T fun ds => bnd Tk fun es => if (decide (ds.length = n) && decide (es.length = m)) = true then bnd (noex (call F (ds ++ g es))) (fun r => match r with | .v .non => ret (.fr (.list [])) | _ => fun _ => none) else fun _ => none : M Rs) s) Q X := rfl
theorem wu_TStL {T Tk : M Rs} : Wp (TStL T Tk s) Q X = Wp ((bnd T fun x => bnd Tk fun y => bnd (pk x) fun d => bnd (pk y) fun e => opt (stL d e) : M Rs) s) Q X := rfl
theorem stL_list {ds : List D} {i : Int} : stL (.list ds) (.int i) = if i = 1 then some (.fr (.list ds)) else if i = -1 then some (.fr (.list ds.reverse)) else none := rfl
end
end Z
/-! zip of two lists or of two tuples -/
namespace Z
open PySem PySem.Spec PyProof.Rows L2 U ClX RZ
section
variable {c : Cz} {w : Wd} {E : XS}
def zipTD : D → D → Option (List D)
  | .tup xs, .tup ys => some ((xs.zip ys).map fun p => D.tup [p.1, p.2])
  | .list xs, .list ys => some ((xs.zip ys).map fun p => D.tup [p.1, p.2])
  | _, _ => none
def IZipA (T : M (List D)) : M (List D) := bnd T fun ds => opt (match ds with | [a, b] => zipTD a b | _ => none)
end
end Z
/-! rules for the walk: zip of lists or tuples -/
namespace Z
open PySem PySem.Spec PyProof.Rows L2 U ClX
section
variable {s : S} {X : XQ}
theorem wu_IZipA {T : M (List D)} {Q : List D → S → Prop} : Wp (IZipA T s) Q X = Wp ((bnd T fun ds => opt (match ds with | [a, b] => zipTD a b | _ => none) : M (List D)) s) Q X := rfl
theorem zipTD_tup {xs ys : List D} : zipTD (.tup xs) (.tup ys) = some ((xs.zip ys).map fun p => D.tup [p.1, p.2]) := rfl
theorem zipTD_list {xs ys : List D} : zipTD (.list xs) (.list ys) = some ((xs.zip ys).map fun p => D.tup [p.1, p.2]) := rfl
end
end Z
/-! generator defs for any consumer: it may change its own frame while the generator sleeps -/
namespace GN
open PySem PySem.Spec PyProof.Rows L2 GenW
/-- a consumer -/
structure Cns (G : Shared → Cx) (Ok : Shared → Prop) where
  at_ : Array Value → Shared → List (Addr × Obj) → Prop
  adr : List Addr
  apart : Addr → Prop
  slept : Value → Shared → Shared → Prop
  ok : ∀ {acc s0 pc}, at_ acc s0 pc → Ok s0
  ad : ∀ {acc s0 pc}, at_ acc s0 pc → pc.map (·.1) = adr
  away : ∀ {acc s0 pc σ H s} {fp : List Addr}, at_ acc s0 pc → Inv (G s0) pc σ H s → (∀ b ∈ fp, FpOk (G s0) pc H b) → ∀ b ∈ fp, apart b
  woken : ∀ {acc s0 pc ip σ H s v s'}, at_ acc s0 pc → (∀ p ∈ ip, apart p.1) → Inv (G s0) (pc ++ ip) σ H s → slept v s s' → ∃ s0' pc', at_ (acc.push v) s0' pc' ∧ Inv (G s0') (pc' ++ ip) σ H s'
variable {G : Shared → Cx} {Ok : Shared → Prop}
/-! ### for -/
end GN
/-! a generator def, by its body, for any consumer -/
namespace GN
open PySem PySem.Spec PyProof.Rows L2 GenW
section
variable (P : Program) (w : World) (K : PySem.W.Frag) (mg : Str → Option Value) (base : Heap) (N : List Str) (qual : Str) (scope : Scope) (f : Addr) (cd : Value) (A : Around) (outer : List Env) (H : Hp) (E : XK) (pn : List (Addr × Obj)) (n : Nat)
abbrev Gx : Shared → Cx := fun s => gcxOf P w K mg base N qual scope f cd A outer s H E pn
abbrev Okx : Shared → Prop := fun s => s.heap.objs.size = n
end
end GN
/-! for x in g(..): pass -/
namespace GN
open PySem PySem.Spec PyProof.Rows L2 GenW
/-- the heap h with another object at L -/
abbrev reh (s : Shared) (L : Addr) (o : Obj) : Shared := { s with heap := s.heap.update L fun _ => o }
theorem reh_size {s : Shared} {L : Addr} {o : Obj} : (reh s L o).heap.objs.size = s.heap.objs.size := Heap.size_update ..
theorem reh_ne {s : Shared} {L b : Addr} {o : Obj} (h : b ≠ L) : (reh s L o).heap.get? b = s.heap.get? b := Heap.get?_update_other _ _ (Ne.symm h)
theorem freed_dict {o : Obj} {es : Array DictEntry} {ep : Nat} (h : o.data = .dict es ep) : o.isFreed = false := by
  cases o
  cases h
  rfl
theorem funs_reh {s : Shared} {L : Addr} {o o1 : Obj} (ho : s.heap.get? L = some o1) (hf : o.isFreed = false) (hd : ∀ vs, o.data ≠ .fields vs) {base : Heap} : ∀ {l : List Env}, s.heap.FunFrames base l → (reh s L o).heap.FunFrames base l
  | [], _ => trivial
  | env :: rest, h => by
    obtain ⟨h1, ⟨L', o', e1, e2, e3, e4⟩, h3⟩ := h
    refine ⟨h1, ?_, funs_reh ho hf hd h3⟩
    by_cases c : L' = L
    · subst c
      exact ⟨L', o, e1, e2, Heap.get?_update_self (fun _ => o) ho hf, hd⟩
    · exact ⟨L', o', e1, e2, (reh_ne c).trans e3, e4⟩
section
variable {P : Program} {w : World} {K : PySem.W.Frag} {mg : Str → Option Value} {base : Heap} {N : List Str} {qual : Str} {scope : Scope} {f : Addr} {cd : Value} {A : Around} {outer : List Env} {H : Hp} {E : XK} {pn : List (Addr × Obj)}
/-- the generator's state when the consumer's frame has changed -/
theorem inv_rebase {s0 s s' : Shared} {pins : List (Addr × Obj)} {σ : L2.St} {H1 : Hp} {L : Addr} {o : Obj} (I : Inv (Gx P w K mg base N qual scope f cd A outer H E pn s0) pins σ H1 s) (hL : L ∈ frs outer)
    (hd : ∃ es ep, o.data = .dict es ep) (ho : s'.heap.get? L = some o) (hos : s'.os = s.os) (hb : AllBare s'.gens) (hk : ∀ b ob, b ≠ L → s.heap.get? b = some ob → s'.heap.get? b = some ob) :
    Inv (Gx P w K mg base N qual scope f cd A outer H E pn (reh s0 L o)) pins σ H1 s' := by
  obtain ⟨es, ep, hd⟩ := hd
  have hz : (reh s0 L o).heap.objs.size = s0.heap.objs.size := reh_size
  have eE : (Gx P w K mg base N qual scope f cd A outer H E pn (reh s0 L o)).env = (Gx P w K mg base N qual scope f cd A outer H E pn s0).env := by
    show envOfC qual scope (reh s0 L o).heap.objs.size f cd = envOfC qual scope s0.heap.objs.size f cd
    rw [hz]
  have eA : (Gx P w K mg base N qual scope f cd A outer H E pn (reh s0 L o)).A = (Gx P w K mg base N qual scope f cd A outer H E pn s0).A := by
    show A.deeper (envOfC qual scope (reh s0 L o).heap.objs.size f cd) = A.deeper (envOfC qual scope s0.heap.objs.size f cd)
    rw [hz]
  have eS : (Gx P w K mg base N qual scope f cd A outer H E pn (reh s0 L o)).stack = (Gx P w K mg base N qual scope f cd A outer H E pn s0).stack := by
    show envOfC qual scope (reh s0 L o).heap.objs.size f cd :: outer = envOfC qual scope s0.heap.objs.size f cd :: outer
    rw [hz]
  have noex : ∀ b : Addr, b ∉ (Gx P w K mg base N qual scope f cd A outer H E pn s0).ex := fun b z => absurd (show b ∈ ([] : List Addr) from z) (by simp)
  have hLH : H L = none := I.ok.frf L hL
  obtain ⟨oL, hoL⟩ : ∃ oL, s0.heap.get? L = some oL := by
    have := I.ok.funs.mem hL
    obtain ⟨_, oL, h1, _⟩ := this
    exact ⟨oL, h1⟩
  have hoN : (reh s0 L o).heap.get? L = some o := Heap.get?_update_self (fun _ => o) hoL (freed_dict hd)
  have nb : ∀ b ob, base.get? b = some ob → b ≠ L := fun b ob e z => I.ok.nofr e (z ▸ hL)
  have lt : L < s0.heap.objs.size := Heap.lt_size hoL
  have H1L : H1 L = none := I.base.free L oL hoL hLH (noex L)
  have loN : (Gx P w K mg base N qual scope f cd A outer H E pn s0).env.locals ≠ L := fun z => by
    have := I.ok.above
    rw [z] at this
    exact absurd (Nat.lt_of_lt_of_le lt this) (Nat.lt_irrefl _)
  have ceN : ∀ x c, (Gx P w K mg base N qual scope f cd A outer H E pn s0).env.cells.lookup x = some c → c ≠ L := fun x c e z => by
    have := I.ok.cab x c rfl e
    rw [z] at this
    exact absurd (Nat.lt_of_lt_of_le lt this) (Nat.lt_irrefl _)
  refine ⟨⟨I.ok.mod, ?_, ?_, ?_, ?_, ?_, ?_, ?_, ?_, ?_, ?_, ?_, ?_, ?_, ?_, ?_, ?_, ?_⟩, hos.trans I.os, hb, ?_, ?_, ?_, ?_, ?_, ?_, ?_, I.len⟩
  · rw [eE]; exact I.ok.kind
  · rw [eE]; exact I.ok.glob
  · rw [eE]; exact I.ok.blt
  · rw [eE]; show (reh s0 L o).heap.objs.size ≤ _; rw [hz]; exact I.ok.above
  · rw [eE]; exact I.ok.inj
  · rw [eE]; exact I.ok.has
  · rw [eE]; intro x c h1 h2; show (reh s0 L o).heap.objs.size ≤ _; rw [hz]; exact I.ok.cab x c h1 h2
  · rw [eA]; exact I.ok.hd
  · rw [eA, eS]; exact I.ok.frames
  · rw [eS, eE]; exact I.ok.stk
  · rw [eE]; exact I.ok.exf
  · intro b ob e
    obtain ⟨e1, e2⟩ := I.ok.bs b ob e
    exact ⟨(reh_ne (nb b ob e)).trans e1, e2⟩
  · show base.objs.size ≤ (reh s0 L o).heap.objs.size
    rw [hz]; exact I.ok.bsz
  · exact I.ok.noex
  · exact I.ok.exfs
  · exact funs_reh hoL (freed_dict hd) (fun vs q => by rw [hd] at q; cases q) I.ok.funs
  · exact I.ok.frf
  · refine ⟨fun b ob e n h1 h2 => ?_, fun b ob e n h1 h2 => ?_, fun b ob e n h2 => ?_, fun b ob e h2 => ?_, I.base.tups, I.base.frzs, I.base.tbls⟩
    · have c : b ≠ L := fun z => h1 (z ▸ hL)
      exact hk b ob c (I.base.keep b ob ((reh_ne c).symm.trans e) n h1 h2)
    · by_cases c : b = L
      · subst c
        have e : (reh s0 b o).heap.get? b = some ob := e
        rw [hoN] at e
        cases e
        exact ⟨o.slots, ho⟩
      · obtain ⟨sl, e1⟩ := I.base.slot b ob ((reh_ne c).symm.trans e) n h1 h2
        exact ⟨sl, hk b _ c e1⟩
    · by_cases c : b = L
      · rw [c]; exact H1L
      · exact I.base.free b ob ((reh_ne c).symm.trans e) n h2
    · by_cases c : b = L
      · rw [c]; exact ⟨o, ho⟩
      · obtain ⟨o', e1⟩ := I.base.there b ob ((reh_ne c).symm.trans e) h2
        exact ⟨o', hk b o' c e1⟩
  · rw [eE]
    obtain ⟨m, ⟨on, es', ep', h1, h2⟩, hl⟩ := I.loc
    refine ⟨m, ⟨on, es', ep', hk _ on loN h1, h2⟩, fun i x v e1 e2 e3 => ?_⟩
    obtain ⟨u, r, q⟩ := hl i x v e1 e2 e3
    refine ⟨u, r, ?_⟩
    rcases q with q | ⟨k1, c, k2, k3⟩
    · exact .inl q
    · obtain ⟨oc, z1, z2⟩ := k3
      exact .inr ⟨k1, c, k2, oc, hk c oc (ceN x c k2) z1, z2⟩
  · rw [eE]
    intro x c e
    obtain ⟨v, q⟩ := I.cell x c e
    obtain ⟨oc, z1, z2⟩ := q
    exact ⟨v, oc, hk c oc (ceN x c e) z1, z2⟩
  · rw [eE]; exact I.free
  · rw [eE]; exact I.freeC
  · intro p hp
    rw [eE]
    obtain ⟨q1, q2, q3, q4, q5⟩ := I.pin p hp
    exact ⟨hk _ _ (fun z => q4 (z ▸ hL)) q1, q2, q3, q4, q5⟩
  · intro b u q
    refine (I.hok b u q).stay (fun c v hc y => hk c v ?_ y) (fun _ y => y) fun _ _ y => y
    rcases hc with y | y
    · rw [y]; exact fun z => by rw [z, H1L] at q; cases q
    · exact fun z => by rw [z, H1L] at y; cases y
end
section
variable {X : Cx}
/-- the consumer's own state when a local of its frame has changed -/
theorem inv_own {pins : List (Addr × Obj)} {σ : L2.St} {H : Hp} {s : Shared} {i : Nat} {x : Str} {y : V} {v : Value} {o : Obj} (I : Inv X pins σ H s) (hN : X.N.Nodup) (hi : X.N[i]? = some x) (hx : X.env.kindOf x = some .local) (r : RelV y v) (hd : ∃ es ep, o.data = .dict es ep)
    (hn : ∀ m, s.heap.Ns X.env.locals m → (reh s X.env.locals o).heap.Ns X.env.locals fun z => if z = x then some v else m z) : Inv X pins (σ.set i (some y)) H (reh s X.env.locals o) := by
  obtain ⟨m, hm, hl⟩ := id I.loc
  have hn' := hn m hm
  obtain ⟨es, ep, hd⟩ := hd
  have hiσ : i < σ.length := by rw [I.len]; exact (List.getElem?_eq_some_iff.mp hi).1
  have cne := I.cne
  obtain ⟨oL, _, _, hoL, _⟩ := id hm
  have ne : ∀ b, b ≠ X.env.locals → (reh s X.env.locals o).heap.get? b = s.heap.get? b := fun b c => reh_ne c
  refine ⟨I.ok, I.os, I.bare, ⟨fun b ob e n hb hx => ?_, fun b ob e n hb hx => ?_, I.base.free, fun b ob e hx => ?_, I.base.tups, I.base.frzs, I.base.tbls⟩, ⟨_, hn', fun j z v' e1 e2 e3 => ?_⟩, fun z c e => ?_, I.free, I.freeC, fun p hp => ?_, fun b ob e => ?_, by simpa using I.len⟩
  · exact (ne b (Nat.ne_of_lt (Nat.lt_of_lt_of_le (Heap.lt_size e) I.ok.above))).trans (I.base.keep b ob e n hb hx)
  · obtain ⟨sl, e1⟩ := I.base.slot b ob e n hb hx
    exact ⟨sl, (ne b (Nat.ne_of_lt (Nat.lt_of_lt_of_le (Heap.lt_size e) I.ok.above))).trans e1⟩
  · obtain ⟨o', e1⟩ := I.base.there b ob e hx
    exact ⟨o', (ne b (Nat.ne_of_lt (Nat.lt_of_lt_of_le (Heap.lt_size e) I.ok.above))).trans e1⟩
  · by_cases hj : j = i
    · subst hj
      rw [hi] at e1; cases e1
      rw [List.getElem?_set_self hiσ] at e2
      cases e2
      exact ⟨v, r, .inl ⟨hx, by simp⟩⟩
    · rw [List.getElem?_set_ne (Ne.symm hj)] at e2
      obtain ⟨u', r', q⟩ := hl j z v' e1 e2 e3
      refine ⟨u', r', ?_⟩
      rcases q with ⟨k, e⟩ | ⟨k, c, e, oc, z1, z2⟩
      · refine .inl ⟨k, ?_⟩
        have : z ≠ x := fun e => hj (nodup_ix hN e1 (e ▸ hi))
        simp [this, e]
      · exact .inr ⟨k, c, e, oc, (ne c (cne z c e)).trans z1, z2⟩
  · obtain ⟨w', oc, z1, z2⟩ := I.cell z c e
    exact ⟨w', oc, (ne c (cne z c e)).trans z1, z2⟩
  · obtain ⟨e, n, nl, nf, d⟩ := I.pin p hp
    exact ⟨(ne p.1 nl).trans e, n, nl, nf, d⟩
  · refine (I.hok b ob e).stay (fun c w' hc q => (ne c ?_).trans q) (fun _ q => q) fun _ _ q => q
    rintro rfl
    rcases hc with rfl | hc
    · rw [I.free] at e; cases e
    · rw [I.free] at hc; cases hc
end
section
variable {X : Cx} {pins : List (Addr × Obj)} {σ : L2.St} {H : Hp} {s1 : Shared} {i : Nat} {x : Str}
/-- the consumer behind the items acc -/
def FA (X : Cx) (pins : List (Addr × Obj)) (σ : L2.St) (H : Hp) (s1 : Shared) (i : Nat) (acc : Array Value) (s0 : Shared) : Prop :=
  s0.heap.objs.size = s1.heap.objs.size ∧ (∃ σ', Inv X pins σ' H s0 ∧ (σ' = σ ∨ ∃ y, σ' = σ.set i (some y))) ∧ (acc = #[] → Inv X pins σ H s0) ∧ ∀ v, acc.back? = some v → ∀ y, RelV y v → Inv X pins (σ.set i (some y)) H s0
def SlF (X : Cx) (x : Str) (v : Value) (s s' : Shared) : Prop :=
  s'.os = s.os ∧ AllBare s'.gens ∧ (∀ b o, b ≠ X.env.locals → s.heap.get? b = some o → s'.heap.get? b = some o) ∧ (∃ y, RelV y v) ∧ ∀ m, s.heap.Ns X.env.locals m → s'.heap.Ns X.env.locals fun z => if z = x then some v else m z
variable {K : PySem.W.Frag} {mg : Str → Option Value} {base : Heap} {N : List Str} {qual : Str} {scope : Scope} {f : Addr} {cd : Value} {A : Around} {E : XK} {pn : List (Addr × Obj)}
def forC (X : Cx) (pins : List (Addr × Obj)) (σ : L2.St) (H : Hp) (s1 : Shared) (i : Nat) (x : Str) (hN : X.N.Nodup) (hi : X.N[i]? = some x) (hx : X.env.kindOf x = some .local) (hLs : X.env.locals ∈ frs X.stack) (K : PySem.W.Frag) (mg : Str → Option Value) (base : Heap) (N : List Str) (qual : Str) (scope : Scope) (f : Addr) (cd : Value) (A : Around) (E : XK) (pn : List (Addr × Obj)) :
    Cns (Gx X.prog X.w K mg base N qual scope f cd A X.stack H E pn) (Okx s1.heap.objs.size) where
  at_ := fun acc s0 pc => pc = [] ∧ FA X pins σ H s1 i acc s0
  adr := []
  apart := fun _ => True
  slept := SlF X x
  ok := fun h => h.2.1
  ad := fun h => by rw [h.1]; rfl
  away := fun _ _ _ _ _ => trivial
  woken := fun {acc s0 pc ip σg H1 s v s'} ha hip I hs => by
    obtain ⟨rfl, hz, ⟨σ', I0, hσ⟩, h0, h1⟩ := ha
    obtain ⟨hos, hb, hk, ⟨y, ry⟩, hns⟩ := hs
    have hσ : ∀ y, σ'.set i (some y) = σ.set i (some y) := fun y => by
      rcases hσ with rfl | ⟨y', rfl⟩
      · rfl
      · rw [List.set_set]
    obtain ⟨m, hm, _⟩ := id I0.loc
    obtain ⟨o0, es0, ep0, ho0, hd0, r0⟩ := id hm
    have noex : ∀ b : Addr, b ∉ (Gx X.prog X.w K mg base N qual scope f cd A X.stack H E pn s0).ex := fun b z => absurd (show b ∈ ([] : List Addr) from z) (by simp)
    have hLH : H X.env.locals = none := I.ok.frf _ hLs
    obtain ⟨sl, ho1⟩ := I.base.slot _ o0 ho0 hLH hLs (noex _)
    have up : ∀ m, s0.heap.Ns X.env.locals m → s.heap.Ns X.env.locals m := fun m ⟨o, es, ep, q1, q2⟩ => by
      rw [ho0] at q1
      cases q1
      exact ⟨_, es, ep, ho1, q2⟩
    obtain ⟨o', es', ep', ho', hd', r'⟩ := id (hns m (up m hm))
    have hoN : (reh s0 X.env.locals o').heap.get? X.env.locals = some o' := Heap.get?_update_self (fun _ => o') ho0 (freed_dict hd')
    have dn : ∀ m, s'.heap.Ns X.env.locals m → (reh s0 X.env.locals o').heap.Ns X.env.locals m := fun m ⟨o, es, ep, q1, q2⟩ => by
      rw [ho'] at q1
      cases q1
      exact ⟨_, es, ep, hoN, q2⟩
    have own : ∀ y, RelV y v → Inv X pins (σ.set i (some y)) H (reh s0 X.env.locals o') := fun y ry => by
      rw [← hσ y]
      exact inv_own I0 hN hi hx ry ⟨es', ep', hd'⟩ fun m hm => dn _ (hns m (up m hm))
    refine ⟨reh s0 X.env.locals o', [], ⟨rfl, reh_size.trans hz, ⟨_, own y ry, .inr ⟨y, rfl⟩⟩, fun h => ?_, fun u hu y' ry' => ?_⟩, ?_⟩
    · have := congrArg Array.size h
      rw [Array.size_push] at this
      simp at this
    · rw [Array.back?_push] at hu
      cases hu
      exact own y' ry'
    · exact inv_rebase I hLs ⟨es', ep', hd'⟩ ho' hos hb fun b ob c e => hk b ob c e
end
end GN
/-! the loop for x in g(..): pass -/
namespace GN
open PySem PySem.Spec PyProof.Rows L2 GenW
end GN
/-! calls of generator defs; their promises by the construct alone -/
namespace U
open PySem PySem.Spec PyProof.Rows L2 ClX GN
end U
/-! generators as functions on trees: what they hand out -/
namespace Z
open PySem PySem.Spec PyProof.Rows L2 U ClX GN
/-- a statement of a generator: the state and what is out so far -/
abbrev TYd := S → List D → Option (Fl × S × List D)
/-- a generator def: what it hands out, or the exception that ends it -/
abbrev FY := List D → List D → Option (Rz (List D) × List D)
section
variable (c : Cz)
def PostY (w : Wd) (D : GEnds) (E : XS) (s' : S) (es' : List Z.D) : Fl → Prop
  | .nx => ∀ w' σ' ys', Le w w' → R c w' σ' s' → TrAll c w'.ρ w'.F ys' es' → D.nx ys' σ' w'.H
  | .rt r => ∀ w' σ' ys' v, Le w w' → R c w' σ' s' → TrAll c w'.ρ w'.F ys' es' → Rv c w w' σ' v r → D.rt ys' v w'.H
  | .bk => ∀ w' σ' ys', Le w w' → R c w' σ' s' → TrAll c w'.ρ w'.F ys' es' → D.bk ys' σ' w'.H
  | .ct => ∀ w' σ' ys', Le w w' → R c w' σ' s' → TrAll c w'.ρ w'.F ys' es' → D.ct ys' σ' w'.H
  | .ex x => ∀ w' σ' d, Le w w' → R c w' σ' s' → Xa c w' d x → E σ' (.ref (c.cad x.c)) d w'.H
end
def TPlY (T : TSd) : TYd := fun s es => (T s).map fun p => (p.1, p.2, es)
def TSeqY (T U : TYd) : TYd := fun s es => match T s es with
  | some (.nx, s1, es1) => U s1 es1
  | x => x
def TNilY : TYd := fun s es => some (.nx, s, es)
def TYld (T : M Rs) : TYd := fun s es => if fits (es.length + 1) = true then (match bnd T (fun r => stab r) s with
  | some (.ok d, s1) => some (.nx, s1, es ++ [d])
  | some (.ex x, s1) => some (.ex x, s1, es)
  | none => none) else none
def forY (G : GD) (T : TYd) : List D → TYd
  | [], s, es => some (.nx, s, es)
  | d :: ds, s, es => match G d s with
    | none => none
    | some s1 => match T s1 es with
      | some (.nx, s2, es2) => forY G T ds s2 es2
      | some (.ct, s2, es2) => forY G T ds s2 es2
      | some (.bk, s2, es2) => some (.nx, s2, es2)
      | some (.rt r, s2, es2) => some (.rt r, s2, es2)
      | some (.ex x, s2, es2) => some (.ex x, s2, es2)
      | none => none
def TForY (I : M (List D)) (G : GD) (T : TYd) : TYd := fun s es => match I s with
  | some (.ok ds, s1) => forY G T ds s1 es
  | some (.ex x, s1) => some (.ex x, s1, es)
  | none => none
section
variable {c : Cz} {E : XS} {w w0 : Wd} {σ : L2.St} {s s' : S}
theorem PostY.from {D : GEnds} {s1 : S} {es1 : List Z.D} {fl1 : Fl} (h : PostY c w0 D E s1 es1 fl1) (l : Le w0 w) : PostY c w D E s1 es1 fl1 := by
  cases fl1 with
  | nx => exact fun w' σ' ys' l' R' ta => h w' σ' ys' (l.trans l') R' ta
  | bk => exact fun w' σ' ys' l' R' ta => h w' σ' ys' (l.trans l') R' ta
  | ct => exact fun w' σ' ys' l' R' ta => h w' σ' ys' (l.trans l') R' ta
  | rt r => exact fun w' σ' ys' v l' R' ta rv => h w' σ' ys' v (l.trans l') R' ta (rv.base l)
  | ex x => exact fun w' σ' d l' R' xa => h w' σ' d (l.trans l') R' xa
/-! ### for x in g(..): pass -/
def TForG (ok : Nat → Bool) (F : FY) (i : Nat) (T : M (List D)) : TSd := fun s => match T s with
  | some (.ok ds, s1) => (match F ds s1.μ with
     | some (.ok es, μ') => (match es.getLast? with
        | none => some (.nx, { s1 with μ := μ' })
        | some d => nxt (setV i (.s d) { s1 with μ := μ' }))
     | some (.ex x, μ') => if ok x.c = true then some (.ex x, ⟨s1.env.set i none, μ'⟩) else none
     | none => none)
  | some (.ex x, s1) => some (.ex x, s1)
  | none => none
end
end Z
/-! rules for the walk: generators -/
namespace Z
open PySem PySem.Spec PyProof.Rows L2 U ClX
def Wy0 (o : Option (Fl × S × List D)) (Q : Fl → S → List D → Prop) : Prop := match o with
  | some (f, s, es) => Q f s es
  | none => False
def Wg0 (o : Option (Rz (List D) × List D)) (Q : List D → List D → Prop) (X : XF) : Prop := match o with
  | some (.ok es, μ) => Q es μ
  | some (.ex x, μ) => X x μ
  | none => False
@[irreducible] def Wy (o : Option (Fl × S × List D)) (Q : Fl → S → List D → Prop) : Prop := Wy0 o Q
@[irreducible] def Wg (o : Option (Rz (List D) × List D)) (Q : List D → List D → Prop) (X : XF) : Prop := Wg0 o Q X
theorem Wy_eq {o : Option (Fl × S × List D)} {Q : Fl → S → List D → Prop} : Wy o Q = Wy0 o Q := by unfold Wy; rfl
theorem Wg_eq {o : Option (Rz (List D) × List D)} {Q : List D → List D → Prop} {X : XF} : Wg o Q X = Wg0 o Q X := by unfold Wg; rfl
def sqY0 (U : TYd) (Q : Fl → S → List D → Prop) : Fl → S → List D → Prop
  | .nx, s, es => Wy (U s es) Q
  | f, s, es => Q f s es
@[irreducible] def sqY (U : TYd) (Q : Fl → S → List D → Prop) : Fl → S → List D → Prop := sqY0 U Q
theorem sqY_eq {U : TYd} {Q : Fl → S → List D → Prop} : sqY U Q = sqY0 U Q := by unfold sqY; rfl
section
variable {U T : TYd} {Q : Fl → S → List D → Prop} {s : S} {es : List D}
theorem sqY_nx : sqY U Q .nx s es = Wy (U s es) Q := by rw [sqY_eq]; rfl
theorem sqY_rt {r : Rs} : sqY U Q (.rt r) s es = Q (.rt r) s es := by rw [sqY_eq]; rfl
theorem sqY_bk : sqY U Q .bk s es = Q .bk s es := by rw [sqY_eq]; rfl
theorem sqY_ct : sqY U Q .ct s es = Q .ct s es := by rw [sqY_eq]; rfl
theorem sqY_ex {x : Xn} : sqY U Q (.ex x) s es = Q (.ex x) s es := by rw [sqY_eq]; rfl
theorem wy_seq : Wy (TSeqY T U s es) Q = Wy (T s es) (sqY U Q) := by
  rw [Wy_eq, Wy_eq, sqY_eq]
  unfold TSeqY
  cases h : T s es with
  | none => rfl
  | some p =>
    obtain ⟨f, s1, es1⟩ := p
    cases f with
    | nx => show Wy0 (U s1 es1) Q = Wy (U s1 es1) Q; rw [Wy_eq]
    | _ => rfl
theorem wy_pl {T : TSd} : Wy (TPlY T s es) Q = Ws (T s) (fun f s1 => Q f s1 es) := by
  rw [Wy_eq, Ws_eq]
  unfold TPlY
  cases h : T s with
  | none => rfl
  | some p => rfl
theorem wy_nil : Wy (TNilY s es) Q = Q .nx s es := by rw [Wy_eq]; rfl
theorem wy_yld {T : M Rs} : Wy (TYld T s es) Q = (fits (es.length + 1) = true ∧ Wp (bnd T (fun r => stab r) s) (fun d s1 => Q .nx s1 (es ++ [d])) (fun x s1 => Q (.ex x) s1 es)) := by
  rw [Wy_eq, Wp_eq]
  unfold TYld
  by_cases h : fits (es.length + 1) = true
  · rw [if_pos h, eq_true h, true_and]
    cases h : bnd T (fun r => stab r) s with
    | none => rfl
    | some p =>
      obtain ⟨o, s1⟩ := p
      cases o <;> rfl
  · rw [if_neg h]
    exact propext ⟨fun z => z.elim, fun z => absurd z.1 h⟩
theorem wy_for {I : M (List D)} {G : GD} : Wy (TForY I G T s es) Q = Wp (I s) (fun ds s1 => Wy (forY G T ds s1 es) Q) (fun x s1 => Q (.ex x) s1 es) := by
  rw [Wy_eq, Wp_eq]
  unfold TForY
  cases h : I s with
  | none => rfl
  | some p =>
    obtain ⟨o, s1⟩ := p
    cases o with
    | ok ds => show Wy0 _ Q = Wy _ Q; rw [Wy_eq]
    | ex x => rfl
end
def forQY (I : S → List D → Prop) (Q : Fl → S → List D → Prop) : Fl → S → List D → Prop
  | .nx, s, es => I s es
  | .ct, s, es => I s es
  | .bk, s, es => Q .nx s es
  | f, s, es => Q f s es
section
variable {I : S → List D → Prop} {Q : Fl → S → List D → Prop} {s : S} {es : List D}
theorem forQY_nx : forQY I Q .nx s es = I s es := rfl
theorem forQY_ct : forQY I Q .ct s es = I s es := rfl
theorem forQY_bk : forQY I Q .bk s es = Q .nx s es := rfl
theorem forQY_rt {r : Rs} : forQY I Q (.rt r) s es = Q (.rt r) s es := rfl
theorem forQY_ex {x : Xn} : forQY I Q (.ex x) s es = Q (.ex x) s es := rfl
end
def outYQ (Q : List D → List D → Prop) (X : XF) : Fl → S → List D → Prop
  | .nx, s, es => fits es.length = true ∧ Q es s.μ
  | .rt (.v .non), s, es => fits es.length = true ∧ Q es s.μ
  | .ex x, s, _ => X x s.μ
  | _, _, _ => False
theorem outYQ_nx {Q : List D → List D → Prop} {X : XF} {s : S} {es : List D} : outYQ Q X .nx s es = (fits es.length = true ∧ Q es s.μ) := rfl
theorem outYQ_ex {Q : List D → List D → Prop} {X : XF} {s : S} {es : List D} {x : Xn} : outYQ Q X (.ex x) s es = X x s.μ := rfl
def lastP (i : Nat) (es : List D) (s : S) (q : S → Prop) : Prop := match es.getLast? with
  | none => q s
  | some d => ∃ s', setV i (.s d) s = some s' ∧ q s'
theorem ws_forG {ok : Nat → Bool} {F : FY} {i : Nat} {T : M (List D)} {s : S} {Q : Fl → S → Prop} : Ws (TForG ok F i T s) Q = Wp (T s) (fun ds s1 => Wg (F ds s1.μ) (fun es μ' => lastP i es ⟨s1.env, μ'⟩ (Q .nx)) (fun x μ' => ok x.c = true ∧ Q (.ex x) ⟨s1.env.set i none, μ'⟩)) (fun x s1 => Q (.ex x) s1) := by
  rw [Ws_eq, Wp_eq]
  unfold TForG
  cases h : T s with
  | none => rfl
  | some p =>
    obtain ⟨o, s1⟩ := p
    cases o with
    | ex x => rfl
    | ok ds =>
      show _ = Wg (F ds s1.μ) _ _
      rw [Wg_eq]
      dsimp only
      cases e : F ds s1.μ with
      | none => rfl
      | some p =>
        obtain ⟨o, μ'⟩ := p
        cases o with
        | ok es =>
          show _ = lastP i es ⟨s1.env, μ'⟩ (Q .nx)
          unfold lastP
          dsimp only
          cases e2 : es.getLast? with
          | none => rfl
          | some d =>
            dsimp only
            cases e3 : setV i (.s d) ⟨s1.env, μ'⟩ with
            | none =>
              refine propext ⟨fun z => z.elim, fun ⟨s', z, _⟩ => by cases z⟩
            | some s' => exact propext ⟨fun z => ⟨s', rfl, z⟩, fun ⟨s2, z, q⟩ => by cases z; exact q⟩
        | ex x =>
          show Ws0 (if ok x.c = true then _ else _) Q = (ok x.c = true ∧ _)
          by_cases c : ok x.c = true
          · rw [if_pos c, eq_true c, true_and]; rfl
          · rw [if_neg c]
            exact propext ⟨fun z => z.elim, fun z => absurd z.1 c⟩
end Z
/-! list(g(..)) for any generator def -/
namespace GN
open PySem PySem.Spec PyProof.Rows L2 GenW
end GN
namespace Z
open PySem PySem.Spec PyProof.Rows L2 U ClX GN
def TLstC (ok : Nat → Bool) (F : FY) (T : M (List D)) : M Rs := fun s => match T s with
  | some (.ok ds, s1) => (match F ds s1.μ with
     | some (.ok es, μ') => some (.ok (.fr (.list es)), { s1 with μ := μ' })
     | some (.ex x, μ') => if ok x.c = true then some (.ex x, { s1 with μ := μ' }) else none
     | none => none)
  | some (.ex x, s1) => some (.ex x, s1)
  | none => none
theorem wp_lstC {ok : Nat → Bool} {F : FY} {T : M (List D)} {s : S} {Q : Rs → S → Prop} {X : XQ} : Wp (TLstC ok F T s) Q X = Wp (T s) (fun ds s1 => Wg (F ds s1.μ) (fun es μ' => Q (.fr (.list es)) ⟨s1.env, μ'⟩) (fun x μ' => ok x.c = true ∧ X x ⟨s1.env, μ'⟩)) X := by
  rw [Wp_eq, Wp_eq]
  unfold TLstC
  cases h : T s with
  | none => rfl
  | some p =>
    obtain ⟨o, s1⟩ := p
    cases o with
    | ex x => rfl
    | ok ds =>
      show _ = Wg (F ds s1.μ) _ _
      rw [Wg_eq]
      dsimp only
      cases e : F ds s1.μ with
      | none => rfl
      | some p =>
        obtain ⟨o, μ'⟩ := p
        cases o with
        | ok es => rfl
        | ex x =>
          show Wp0 (if ok x.c = true then _ else _) Q X = (ok x.c = true ∧ _)
          by_cases c : ok x.c = true
          · rw [if_pos c, eq_true c, true_and]; rfl
          · rw [if_neg c]
            exact propext ⟨fun z => z.elim, fun z => absurd z.1 c⟩
end Z
/-! == and != of two own instances, of one class or of two: by the own == of the left one, or of the right one where its class lies below -/
namespace Z
open PySem PySem.Spec PyProof.Rows L2 U ClX
/-- which def is asked, and with what first -/
def cmpPick (tab : Nat → Option FT) (kc : Nat → Nat → Option Bool) (d e : D) (k k' : Nat) : Option (FT × D × D) := match kc k k' with
  | some false => (tab k).map fun F => (F, d, e)
  | some true => (tab k').map fun F => (F, e, d)
  | none => none
def runC (neg : Bool) : Option (FT × D × D) → M Rs
  | some (F, a, b) => fun s => match call F [a, b] s with
    | some (.ok (.v (.bl r)), s1) => some (.ok (.v (.bl (neg ^^ r))), s1)
    | _ => none
  | none => fun _ => none
def eqC (neg : Bool) (tab : Nat → Option FT) (kc : Nat → Nat → Option Bool) (d e d0 e0 : D) : M Rs := match d0, e0 with
  | .obj k _, .obj k' _ => runC neg (cmpPick tab kc d e k k')
  | _, _ => fun _ => none
def TEqC (neg : Bool) (tab : Nat → Option FT) (kc : Nat → Nat → Option Bool) (a b : M Rs) : M Rs := bnd a fun x => bnd (stab x) fun d => bnd b fun y => bnd (stab y) fun e => bnd (pk (.v d)) fun d0 => bnd (pk (.v e)) fun e0 => eqC neg tab kc d e d0 e0
section
variable {s : S} {Q : Rs → S → Prop} {X : XQ}
theorem wu_TEqC {neg : Bool} {tab : Nat → Option FT} {kc : Nat → Nat → Option Bool} {a b : M Rs} : Wp (TEqC neg tab kc a b s) Q X = Wp ((bnd a fun x => bnd (stab x) fun d => bnd b fun y => bnd (stab y) fun e => bnd (pk (.v d)) fun d0 => bnd (pk (.v e)) fun e0 => eqC neg tab kc d e d0 e0 : M Rs) s) Q X := rfl
theorem wp_eqC {neg : Bool} {tab : Nat → Option FT} {kc : Nat → Nat → Option Bool} {d e : D} {k k' : Nat} {fs gs : List (Str × D)} : Wp (eqC neg tab kc d e (.obj k fs) (.obj k' gs) s) Q X = ∃ F a b, cmpPick tab kc d e k k' = some (F, a, b) ∧ Wf (F [a, b] s.μ) (fun r μ => ∃ t, r = .v (.bl t) ∧ Q (.v (.bl (neg ^^ t))) ⟨s.env, μ⟩) fun _ _ => False := by
  rw [Wp_eq]
  show Wp0 (runC neg (cmpPick tab kc d e k k') s) Q X = _
  cases hp : cmpPick tab kc d e k k' with
  | none => exact propext ⟨fun h => h.elim, fun ⟨_, _, _, h, _⟩ => by cases h⟩
  | some z =>
    obtain ⟨F, a, b⟩ := z
    show Wp0 (match call F [a, b] s with
      | some (.ok (.v (.bl r)), s1) => some (.ok (.v (.bl (neg ^^ r))), s1)
      | _ => none) Q X = _
    have key : Wp0 (match call F [a, b] s with
      | some (.ok (.v (.bl r)), s1) => some (.ok (.v (.bl (neg ^^ r))), s1)
      | _ => none) Q X = Wf (F [a, b] s.μ) (fun r μ => ∃ t, r = .v (.bl t) ∧ Q (.v (.bl (neg ^^ t))) ⟨s.env, μ⟩) fun _ _ => False := by
      rw [Wf_eq]
      unfold call
      cases hc : F [a, b] s.μ with
      | none => rfl
      | some p =>
        obtain ⟨o, μ⟩ := p
        cases o with
        | ex x => rfl
        | ok r =>
          cases r with
          | v d0 =>
            cases d0 with
            | bl b => exact propext ⟨fun z => ⟨b, rfl, z⟩, fun ⟨b', h, z⟩ => by cases h; exact z⟩
            | _ => exact propext ⟨fun z => z.elim, fun ⟨b', h, z⟩ => by cases h⟩
          | fr d0 => exact propext ⟨fun z => z.elim, fun ⟨b', h, z⟩ => by cases h⟩
          | al i => rfl
    rw [key]
    exact propext ⟨fun h => ⟨F, a, b, rfl, h⟩, fun ⟨_, _, _, e, h⟩ => by cases e; exact h⟩
end
end Z
namespace Z
open PySem PySem.Spec PyProof.Rows L2 U ClX
/-! ### sorted(d): the keys, all texts, however many -/
end Z
namespace Hk
open PySem PySem.Spec PyProof.Rows L2 U ClX Z He
end Hk
/-! list(d.values()); for k in d -/
namespace U
open PySem PySem.Spec PyProof.Rows L2 ClX
end U
namespace L2
open PySem PySem.Spec PyProof.Rows
end L2
namespace Z
open PySem PySem.Spec PyProof.Rows L2 U ClX
def lstVals : D → Option Rs
  | .dict kvs => some (.fr (.list (kvs.map (·.2))))
  | _ => none
theorem lstVals_dict {kvs : List (Key × D)} : lstVals (.dict kvs) = some (.fr (.list (kvs.map (·.2)))) := rfl
def TForK (i : Nat) (G : GD) (T : TSd) : TSd := sb (bnd (TVar i) stab) fun d s1 => match d with
  | .dict ds => (match forD G T (ds.map fun kv => keyD kv.1) s1 with
    | some (.nx, s2) => some (.nx, s2)
    | some (.rt r, s2) => some (.rt r, s2)
    | _ => none)
  | _ => none
end Z
namespace Z
open PySem PySem.Spec PyProof.Rows L2 U ClX
def dKeys (ds : List (Key × D)) : List D := ds.map fun kv => keyD kv.1
def nxrt (Q : Fl → S → Prop) : Fl → S → Prop := fun fl s => match fl with
  | .nx => Q .nx s
  | .rt r => Q (.rt r) s
  | _ => False
theorem nxrt_nx {Q : Fl → S → Prop} {s : S} : nxrt Q .nx s = Q .nx s := rfl
theorem nxrt_rt {Q : Fl → S → Prop} {r : Rs} {s : S} : nxrt Q (.rt r) s = Q (.rt r) s := rfl
def forKd (G : GD) (T : TSd) (d : D) : TSd := fun s1 => match d with
  | .dict ds => (match forD G T (ds.map fun kv => keyD kv.1) s1 with
    | some (.nx, s2) => some (.nx, s2)
    | some (.rt r, s2) => some (.rt r, s2)
    | _ => none)
  | _ => none
theorem ws_TForK {i : Nat} {G : GD} {T : TSd} {s : S} {Q : Fl → S → Prop} : Ws (TForK i G T s) Q = Wp ((bnd (TVar i) stab : M D) s) (fun d s1 => Ws (forKd G T d s1) Q) (fun x s1 => Q (.ex x) s1) := by
  rw [Ws_eq, Wp_eq]
  unfold TForK sb
  cases h : (bnd (TVar i) stab : M D) s with
  | none => rfl
  | some p =>
    obtain ⟨o, s1⟩ := p
    cases o with
    | ex x => rfl
    | ok d =>
      show _ = Ws (forKd G T d s1) Q
      rw [Ws_eq]
      rfl
theorem ws_forKd {G : GD} {T : TSd} {ds : List (Key × D)} {s : S} {Q : Fl → S → Prop} : Ws (forKd G T (.dict ds) s) Q = Ws (forD G T (dKeys ds) s) (nxrt Q) := by
  rw [Ws_eq, Ws_eq]
  show Ws0 (match forD G T (dKeys ds) s with
    | some (.nx, s2) => some (.nx, s2)
    | some (.rt r, s2) => some (.rt r, s2)
    | _ => none) Q = Ws0 (forD G T (dKeys ds) s) (nxrt Q)
  cases forD G T (dKeys ds) s with
  | none => rfl
  | some p =>
    obtain ⟨fl, s2⟩ := p
    cases fl <;> rfl
end Z
/-! <= of two lists of data -/
namespace Z
open PySem PySem.Spec PyProof.Rows L2 U ClX
end Z
/-! x.bit_length() -/
namespace Z
open PySem PySem.Spec PyProof.Rows L2 U ClX
def bitsD : D → Option Rs
  | .int i => some (.v (.int (Builtin.Int.intBits i : Nat)))
  | _ => none
theorem bitsD_int {i : Int} : bitsD (.int i) = some (.v (.int (Builtin.Int.intBits i : Nat))) := rfl
end Z
/-! sorted(set(xs)): sets of keys whose table can be walked -/
namespace U
open PySem PySem.Spec PyProof.Rows L2
section
variable {prog : Program} {w : World} {α : Type} [DecidableEq α]
/-- a set of keys of one kind; its table can be walked -/
def SetW (knd : PySem.KeyKind prog w α) (h : Heap) (a : Addr) (S : α → Bool) (n : Nat) : Prop :=
  ∃ o es ep t, (h.get? a = some o ∧ o.ExactSet ∧ o.data = .set es ep t) ∧ (ElemsOf knd es.toList ∧ ∀ k, S k = true ↔ ∃ e ∈ es.toList, knd.is k e.2 = true) ∧ (es.size < scanBound ∧ t.fits es.size = true ∧ es.size = n) ∧ Ris t.place.toList ∧ (w.params.followText "set-order" = true ∨ t.led = true)
variable {knd : PySem.KeyKind prog w α} {A : Around} {E : Value → Shared → Prop} {s : Shared} {a : Addr}
theorem SetW.moved {h h' : Heap} {S : α → Bool} {n : Nat} (x : SetW knd h a S n) (k : ∀ o, h.get? a = some o → h'.get? a = some o) : SetW knd h' a S n := by
  obtain ⟨o, es, ep, t, ⟨q, r⟩, y⟩ := x
  exact ⟨o, es, ep, t, ⟨k o q, r⟩, y⟩
end
end U
/-! sorted(set(xs)), xs a list of texts or of ints -/
namespace U
open PySem PySem.Spec PyProof.Rows L2
/-- the keys of a list, each once -/
def hasK (acc : List Key) (x : Key) : Bool := acc.any fun y => decide (y = x)
def ddK1 (acc : List Key) (x : Key) : List Key := if hasK acc x = true then acc else acc ++ [x]
def ddK (xs : List Key) : List Key := xs.foldl ddK1 []
section
variable {prog : Program} {w : World} {A : Around} {E : Value → Shared → Prop} {s : Shared}
theorem SetW.push {knd : PySem.KeyKind prog w Key} {h : Heap} {a : Addr} {S : Key → Bool} {n : Nat} {o : Obj} (x : SetW knd h a S n) : SetW knd (h.push o) a S n := x.moved fun _ q => Heap.get?_push_of_some _ q
end
end U
namespace U
open PySem PySem.Spec PyProof.Rows L2
def keyPy : Key → PyData
  | .inl i => .int i
  | .inr x => .str x
/-- the members in order -/
noncomputable def sortKs (ks : List Key) : List Key := ks.mergeSort (PySem.W.dataLe false keyPy)
end U
/-! sorted(set(xs)): its reading and its tree -/
namespace Z
open PySem PySem.Spec PyProof.Rows L2 U ClX
noncomputable section
/-- the members, if all are texts or ints -/
def asK : D → Option Key
  | .int i => some (.inl i)
  | .str z => some (.inr z)
  | _ => none
def dK : Key → D
  | .inl i => .int i
  | .inr z => .str z
def sortSet (d : D) : Option Rs := match d with
  | .list ds => (ds.mapM asK).bind fun ks => @ite _ (PySem.W.AllAlike ((ddK ks).map keyPy) ∧ PySem.W.Sortable ((ddK ks).map keyPy) ∧ ks.length ≤ 1000) (Classical.propDecidable _) (some (.fr (.list ((sortKs (ddK ks)).map dK)))) none
  | _ => none
def TSortSet (a : M Rs) : M Rs := TUn sortSet a
theorem wu_TSortSet {a : M Rs} {s : S} {Q : Rs → S → Prop} {X : XQ} : Wp (TSortSet a s) Q X = Wp ((TUn sortSet a : M Rs) s) Q X := rfl
end
end Z
/-! range that counts down; four keywords -/
namespace Z
open PySem PySem.Spec PyProof.Rows L2 U ClX
noncomputable section
def rngN (hi : Int) (n : Nat) : List D := (List.range n).map fun (k : Nat) => D.int (hi - (k : Int))
def IRng3 (T : M (List D)) : M (List D) := bnd T fun ds => opt (match ds with | [.int i, .int j, .int k] => if (smallI i && smallI j && decide (k = -1)) = true then some (rngN i (i - j).toNat) else none | _ => none)
theorem wu_IRng3 {T : M (List D)} {z : S} {Qz : (List D) → S → Prop} {Xz : XQ} : Wp (IRng3 T z) Qz Xz = Wp ((bnd T fun ds => opt (match ds with | [.int i, .int j, .int k] => if (smallI i && smallI j && decide (k = -1)) = true then some (rngN i (i - j).toNat) else none | _ => none) : M (List D)) z) Qz Xz := rfl
end
end Z
/-! zip of two lists or two tuples that may stand in the store -/
namespace Z
open PySem PySem.Spec PyProof.Rows L2 U ClX RZ
noncomputable section
def tupI : D → Option (List D)
  | .tup ds => some ds
  | _ => none
/-- d is the tuple ds now -/
def chkT (d : D) (ds : List D) : S → Prop := fun s => (peek s (.v d)).bind tupI = some ds
def zipX : List D → M (List D × (S → Prop))
  | [a, b] => fun s => match (peek s (.v a)).bind itemsL, (peek s (.v b)).bind itemsL with
    | some xs, some ys => some (.ok (zipL xs ys, fun s => chkD a xs s ∧ chkD b ys s), s)
    | _, _ => (match (peek s (.v a)).bind tupI, (peek s (.v b)).bind tupI with
      | some xs, some ys => some (.ok (zipL xs ys, fun s => chkT a xs s ∧ chkT b ys s), s)
      | _, _ => none)
  | _ => fun _ => none
def IZipX (T : M (List D)) : M (List D × (S → Prop)) := bnd T zipX
section
variable {s : S} {X : XQ}
theorem wu_IZipX {T : M (List D)} {Q : (List D × (S → Prop)) → S → Prop} : Wp (IZipX T s) Q X = Wp ((bnd T zipX : M (List D × (S → Prop))) s) Q X := rfl
end
end
end Z
/-! {.. for k in d}; a variable's dict is shared before its keys are walked; sorted(d) of ints -/
namespace Z
open PySem PySem.Spec PyProof.Rows L2 U ClX
noncomputable section
/-- the variable's thing stays from here on -/
def TStb (i : Nat) (T : M Rs) : M Rs := bnd (TVar i) fun r => bnd (stab r) fun _ => T
section
variable {s : S} {Q : Rs → S → Prop} {X : XQ}
theorem wp_Stb {i : Nat} {T : M Rs} : Wp (TStb i T s) Q X = Wp ((bnd (TVar i) fun r => bnd (stab r) fun _ => T : M Rs) s) Q X := rfl
end
end
end Z
/-! rules for the walk: dict comprehensions with conditions and any keys, over lists in the store as well -/
namespace Z
open PySem PySem.Spec PyProof.Rows L2 U ClX
end Z
/-! len(x) of an own instance: by its class's own __len__ -/
namespace Z
open PySem PySem.Spec PyProof.Rows L2 U ClX
noncomputable section
def lenR (o : Option FT) (d : D) : M Rs := match o with
  | some F => fun s => match call F [d] s with
    | some (.ok (.v (.int n)), s1) => if 0 ≤ n ∧ n < 2 ^ 62 then some (.ok (.v (.int n)), s1) else none
    | _ => none
  | none => fun _ => none
def lenO (tab : Nat → Option FT) (d d0 : D) : M Rs := match d0 with
  | .obj k _ => lenR (tab k) d
  | _ => fun _ => none
def TLenO (tab : Nat → Option FT) (a : M Rs) : M Rs := bnd a fun x => bnd (stab x) fun d => bnd (pk (.v d)) fun d0 => lenO tab d d0
section
variable {s : S} {Q : Rs → S → Prop} {X : XQ}
theorem wu_TLenO {tab : Nat → Option FT} {a : M Rs} : Wp (TLenO tab a s) Q X = Wp ((bnd a fun x => bnd (stab x) fun d => bnd (pk (.v d)) fun d0 => lenO tab d d0 : M Rs) s) Q X := rfl
theorem wp_lenO {tab : Nat → Option FT} {d : D} {k : Nat} {fs : List (Str × D)} : Wp (lenO tab d (.obj k fs) s) Q X = ∃ F, tab k = some F ∧ Wf (F [d] s.μ) (fun r μ => ∃ n : Int, r = .v (.int n) ∧ 0 ≤ n ∧ n < 2 ^ 62 ∧ Q (.v (.int n)) ⟨s.env, μ⟩) fun _ _ => False := by
  rw [Wp_eq]
  show Wp0 (lenR (tab k) d s) Q X = _
  cases hF : tab k with
  | none => exact propext ⟨fun h => h.elim, fun ⟨_, h, _⟩ => by cases h⟩
  | some F =>
    show Wp0 (match call F [d] s with
      | some (.ok (.v (.int n)), s1) => if 0 ≤ n ∧ n < 2 ^ 62 then some (.ok (.v (.int n)), s1) else none
      | _ => none) Q X = _
    have key : Wp0 (match call F [d] s with
      | some (.ok (.v (.int n)), s1) => if 0 ≤ n ∧ n < 2 ^ 62 then some (.ok (.v (.int n)), s1) else none
      | _ => none) Q X = Wf (F [d] s.μ) (fun r μ => ∃ n : Int, r = .v (.int n) ∧ 0 ≤ n ∧ n < 2 ^ 62 ∧ Q (.v (.int n)) ⟨s.env, μ⟩) fun _ _ => False := by
      rw [Wf_eq]
      unfold call
      cases hc : F [d] s.μ with
      | none => rfl
      | some p =>
        obtain ⟨o, μ⟩ := p
        cases o with
        | ex x => rfl
        | ok r =>
          cases r with
          | v d0 =>
            cases d0 with
            | int n =>
              show Wp0 (if 0 ≤ n ∧ n < 2 ^ 62 then _ else _) Q X = _
              by_cases h : 0 ≤ n ∧ n < 2 ^ 62
              · rw [if_pos h]
                exact propext ⟨fun z => ⟨n, rfl, h.1, h.2, z⟩, fun ⟨b', e, _, _, z⟩ => by cases e; exact z⟩
              · rw [if_neg h]
                exact propext ⟨fun z => z.elim, fun ⟨b', e, h1, h2, z⟩ => by cases e; exact (h ⟨h1, h2⟩).elim⟩
            | _ => exact propext ⟨fun z => z.elim, fun ⟨b', h, z⟩ => by cases h⟩
          | fr d0 => exact propext ⟨fun z => z.elim, fun ⟨b', h, z⟩ => by cases h⟩
          | al i => rfl
    rw [key]
    exact propext ⟨fun h => ⟨F, rfl, h⟩, fun ⟨_, e, h⟩ => by cases e; exact h⟩
end
end
end Z
/-! for k, v in d.items(), d a variable -/
namespace L2
open PySem PySem.Spec PyProof.Rows Z
end L2
namespace Z
open PySem PySem.Spec PyProof.Rows L2 U ClX
def TForIt (i : Nat) (G : GD) (T : TSd) : TSd := sb (bnd (TVar i) stab) fun d s1 => match d with
  | .dict ds => (match forD G T (itemsD ds) s1 with
    | some (.nx, s2) => some (.nx, s2)
    | some (.rt r, s2) => some (.rt r, s2)
    | _ => none)
  | _ => none
def forItd (G : GD) (T : TSd) (d : D) : TSd := fun s1 => match d with
  | .dict ds => (match forD G T (itemsD ds) s1 with
    | some (.nx, s2) => some (.nx, s2)
    | some (.rt r, s2) => some (.rt r, s2)
    | _ => none)
  | _ => none
theorem ws_TForIt {i : Nat} {G : GD} {T : TSd} {s : S} {Q : Fl → S → Prop} : Ws (TForIt i G T s) Q = Wp ((bnd (TVar i) stab : M D) s) (fun d s1 => Ws (forItd G T d s1) Q) (fun x s1 => Q (.ex x) s1) := by
  rw [Ws_eq, Wp_eq]
  unfold TForIt sb
  cases h : (bnd (TVar i) stab : M D) s with
  | none => rfl
  | some p =>
    obtain ⟨o, s1⟩ := p
    cases o with
    | ex x => rfl
    | ok d =>
      show _ = Ws (forItd G T d s1) Q
      rw [Ws_eq]
      rfl
theorem ws_forItd {G : GD} {T : TSd} {ds : List (Key × D)} {s : S} {Q : Fl → S → Prop} : Ws (forItd G T (.dict ds) s) Q = Ws (forD G T (itemsD ds) s) (nxrt Q) := by
  rw [Ws_eq, Ws_eq]
  show Ws0 (match forD G T (itemsD ds) s with
    | some (.nx, s2) => some (.nx, s2)
    | some (.rt r, s2) => some (.rt r, s2)
    | _ => none) Q = Ws0 (forD G T (itemsD ds) s) (nxrt Q)
  cases forD G T (itemsD ds) s with
  | none => rfl
  | some p =>
    obtain ⟨fl, s2⟩ := p
    cases fl <;> rfl
end Z
/-! ### d.pop(k) -/
namespace Z
open PySem PySem.Spec PyProof.Rows L2 U ClX
def dropD (ds : List (Key × D)) (k : Key) : List (Key × D) := ds.filter fun kv => decide (kv.1 ≠ k)
def mPopD (k : D) (l : D) : Option (D × D) := match l, toKey k with
  | .dict kvs, some k => (valD kvs k).map fun v => (v, .dict (dropD kvs k))
  | _, _ => none
def isDc : D → Bool
  | .dict _ => true
  | _ => false
def TDPop (o i : M Rs) : M Rs := bnd o fun r => bnd (pk r) fun d => if isDc d = true then bnd i fun ri => bnd (pk ri) fun k => bnd (mutD r (mPopD k)) fun d => ret (.v d) else fun _ => none
theorem isDc_dict {ds : List (Key × D)} : isDc (.dict ds) = true := rfl
theorem wu_TDPop {o i : M Rs} {z : S} {Qz : Rs → S → Prop} {Xz : XQ} : Wp (TDPop o i z) Qz Xz = Wp ((bnd o fun r => bnd (pk r) fun d => if isDc d = true then bnd i fun ri => bnd (pk ri) fun k => bnd (mutD r (mPopD k)) fun d => ret (.v d) else fun _ => none : M Rs) z) Qz Xz := by
  rw [Wp_eq, Wp_eq]; rfl
end Z
/-! ### [.. for k in d], d a variable that owns its dict: it owns it behind it, too; items that are flat -/
namespace Z
open PySem PySem.Spec PyProof.Rows L2 U ClX
end Z
/-! list(enumerate(xs)) -/
namespace U
open PySem PySem.Spec PyProof.Rows L2 ClX
end U
namespace Z
open PySem PySem.Spec PyProof.Rows L2 U ClX
section
variable {c : Cz} {E : XS} {w w0 : Wd} {σ : L2.St} {s s' : S}
def enL : Nat → List D → List D
  | _, [] => []
  | i, d :: ds => .tup [.int (i : Nat), d] :: enL (i + 1) ds
def enLD : List D → Option Rs
  | [a] => (itemsL a).map fun xs => .fr (.list (enL 0 xs))
  | _ => none
theorem enLD_list {xs : List D} : enLD [.list xs] = some (.fr (.list (enL 0 xs))) := rfl
def TLstEn (T : M (List D)) : M Rs := bnd T fun ds => opt (enLD ds)
theorem wu_TLstEn {T : M (List D)} {z : S} {Qz : Rs → S → Prop} {Xz : XQ} : Wp (TLstEn T z) Qz Xz = Wp ((bnd T fun ds => opt (enLD ds) : M Rs) z) Qz Xz := by
  rw [Wp_eq, Wp_eq]; rfl
end
end Z
/-! dict(zip(a, b)); d.get(k); {"a": "b", ..} -/
namespace U
open PySem PySem.Spec PyProof.Rows L2 ClX
end U
namespace Z
open PySem PySem.Spec PyProof.Rows L2 U ClX
section
variable {c : Cz} {E : XS}
def keysD : List D → Option (List Key)
  | [] => some []
  | d :: ds => (toKey d).bind fun k => (keysD ds).map (k :: ·)
def dctZip : List D → Option Rs
  | [a, b] => (match itemsL a, itemsL b with
    | some xs, some ys => (keysD xs).map fun ks => .fr (.dict (mergeD [] (ks.zip ys)))
    | _, _ => none)
  | _ => none
theorem dctZip_ll {xs ys : List D} : dctZip [.list xs, .list ys] = (keysD xs).map fun ks => .fr (.dict (mergeD [] (ks.zip ys))) := rfl
def TDctZip (T : M (List D)) : M Rs := bnd T fun ds => opt (dctZip ds)
/-! ### d.get(k) -/
def getDM (d k : D) : Option Rs := match d, toKey k with
  | .dict kvs, some k => some (.v ((valD kvs k).getD .non))
  | _, _ => none
def TDGetM (a b : M Rs) : M Rs := bnd a fun x => bnd (pk x) fun d0 => if isDc d0 = true then bnd b fun y => bnd (pk x) fun d => bnd (pk y) fun k => opt (getDM d k) else fun _ => none
/-! ### {"a": "b", ..} -/
def strKv (L : List (Str × Str)) : List (Key × D) := L.map fun p => (.inr p.1, .str p.2)
def TDispS (L : List (Str × Str)) : M Rs := ret (.fr (.dict (mergeD [] (strKv L))))
end
section
variable {z : S} {Qz : Rs → S → Prop} {Xz : XQ}
theorem wu_TDctZip {T : M (List D)} : Wp (TDctZip T z) Qz Xz = Wp ((bnd T fun ds => opt (dctZip ds) : M Rs) z) Qz Xz := by rw [Wp_eq, Wp_eq]; rfl
theorem wu_TDGetM {a b : M Rs} : Wp (TDGetM a b z) Qz Xz = Wp ((bnd a fun x => bnd (pk x) fun d0 => if isDc d0 = true then bnd b fun y => bnd (pk x) fun d => bnd (pk y) fun k => opt (getDM d k) else fun _ => none : M Rs) z) Qz Xz := by rw [Wp_eq, Wp_eq]; rfl
theorem wu_TDispS {L : List (Str × Str)} : Wp (TDispS L z) Qz Xz = Wp ((ret (.fr (.dict (mergeD [] (strKv L)))) : M Rs) z) Qz Xz := by rw [Wp_eq, Wp_eq]; rfl
end
end Z
/-! for x in g(..): L.append(x) -/
namespace GN
open PySem PySem.Spec PyProof.Rows L2 GenW
end GN
/-! l = []; for x in g(..): l.append(x) -/
namespace GN
open PySem PySem.Spec PyProof.Rows L2 GenW
end GN
namespace Z
open PySem PySem.Spec PyProof.Rows L2 U ClX GN
def TAppG (F : FY) (i j : Nat) (T : M (List D)) : TSd := fun s => match T ⟨s.env.set j none, s.μ⟩ with
  | some (.ok ds, s1) => (match F ds s1.μ with
     | some (.ok es, μ') => (match setV j (.o (.list es)) ⟨s1.env, μ'⟩ with
        | some s2 => (match es.getLast? with
           | none => some (.nx, s2)
           | some d => nxt (setV i (.s d) s2))
        | none => none)
     | _ => none)
  | _ => none
theorem ws_appG {F : FY} {i j : Nat} {T : M (List D)} {s : S} {Q : Fl → S → Prop} : Ws (TAppG F i j T s) Q = Wp (T ⟨s.env.set j none, s.μ⟩) (fun ds s1 => Wg (F ds s1.μ) (fun es μ' => ∃ s2, setV j (.o (.list es)) ⟨s1.env, μ'⟩ = some s2 ∧ lastP i es s2 (Q .nx)) (fun _ _ => False)) (fun _ _ => False) := by
  rw [Ws_eq, Wp_eq]
  unfold TAppG
  cases h : T ⟨s.env.set j none, s.μ⟩ with
  | none => rfl
  | some p =>
    obtain ⟨o, s1⟩ := p
    cases o with
    | ex x => rfl
    | ok ds =>
      show _ = Wg (F ds s1.μ) _ _
      rw [Wg_eq]
      dsimp only
      cases e : F ds s1.μ with
      | none => rfl
      | some p =>
        obtain ⟨o, μ'⟩ := p
        cases o with
        | ex x => rfl
        | ok es =>
          show _ = (∃ s2, setV j (.o (.list es)) ⟨s1.env, μ'⟩ = some s2 ∧ lastP i es s2 (Q .nx))
          dsimp only
          cases e1 : setV j (.o (.list es)) ⟨s1.env, μ'⟩ with
          | none => exact propext ⟨fun z => z.elim, fun ⟨s', z, _⟩ => by cases z⟩
          | some s2 =>
            dsimp only
            have e3 : (∃ s3, some s2 = some s3 ∧ lastP i es s3 (Q .nx)) = lastP i es s2 (Q .nx) := propext ⟨fun ⟨s3, z, q⟩ => by cases z; exact q, fun q => ⟨s2, rfl, q⟩⟩
            rw [e3]
            unfold lastP
            cases e2 : es.getLast? with
            | none => rfl
            | some d =>
              dsimp only
              cases e4 : setV i (.s d) s2 with
              | none => exact propext ⟨fun z => z.elim, fun ⟨s', z, _⟩ => by cases z⟩
              | some s' => exact propext ⟨fun z => ⟨s', rfl, z⟩, fun ⟨s3, z, q⟩ => by cases z; exact q⟩
end Z
/-! xs.clear() -/
namespace Z
open PySem PySem.Spec PyProof.Rows L2 U
end Z
/-! orders: codes of orders by insertion, plays on lists; plain lists, no program -/
namespace MO
variable {α : Type} [DecidableEq α]
/-- x is put in behind i others -/
def put (i : Nat) (x : α) (l : List α) : List α := l.take i ++ x :: l.drop i
/-! ### plays -/
def ix : List α → α → Nat
  | [], _ => 0
  | y :: ys, z => if y = z then 0 else ix ys z + 1
def play (k : Nat) (h : List α) (n : α) (s : Nat) : Option (List α) :=
  if k = 0 then (if n ∉ h ∧ s ≤ h.length then some (put s n h) else none)
  else if h[s]? = some n then (if k = 1 then some (h.take s ++ h.drop (s + 1)) else some (n :: (h.take s ++ h.drop (s + 1)))) else none
def run (k : Nat) : List α → List (α × Nat) → Option (List α)
  | h, [] => some h
  | h, p :: r => (play k h p.1 p.2).bind fun h' => run k h' r
/-! ### what happens, by counts -/
def start (k : Nat) (zs names : List α) : List α := zs.filter fun z => decide (0 < k ∨ z ∉ names)
/-! ### the items with records, the only order -/
def mk (zs names : List α) : List α := zs.filter fun z => decide (z ∈ names)
def room (k : Nat) (ms : List α) (x : α) : Nat := if k = 2 then ms.length - 1 - ix ms x else ix ms x
end MO
namespace K
open PySem PySem.Spec PyProof.Rows L2 U ClX Z
/-- the classes at hand, the constants -/
structure Ads where
  cInserted : Addr
  cRemoved : Addr
  cFronted : Addr
  cRecord : Addr
  cLogError : Addr
  cNoItem : Addr
  cNoIndex : Addr
  cNoList : Addr
  cNoLog : Addr
  cNoSeen : Addr
  cNoClients : Addr
  cNoNumber : Addr
  cNoPosition : Addr
  cNothing : Addr
  cImpossible : Addr
  cTooMany : Addr
  cNoText : Addr
abbrev Ads.kLETTERS (_ : Ads) : V := .str "abcdefghijklmnopqrstuvwxyz"
abbrev Ads.kMOST_ITEMS (_ : Ads) : V := .int 60
abbrev Ads.kMOST_LETTERS (_ : Ads) : V := .int 8
structure Gm (P : Program) (K : PySem.W.Frag) (mg : Str → Option Value) (A : Ads) : Prop where
  g_ValueError : mg "ValueError" = none
  g_abs : mg "abs" = none
  g_all : mg "all" = none
  g_bool : mg "bool" = none
  g_int : mg "int" = none
  g_isinstance : mg "isinstance" = none
  g_len : mg "len" = none
  g_list : mg "list" = none
  g_max : mg "max" = none
  g_min : mg "min" = none
  g_range : mg "range" = none
  g_repr : mg "repr" = none
  g_set : mg "set" = none
  g_str : mg "str" = none
  g_tuple : mg "tuple" = none
  g_LETTERS : ∃ u, mg "LETTERS" = some u ∧ RelV A.kLETTERS u
  g_MOST_ITEMS : ∃ u, mg "MOST_ITEMS" = some u ∧ RelV A.kMOST_ITEMS u
  g_MOST_LETTERS : ∃ u, mg "MOST_LETTERS" = some u ∧ RelV A.kMOST_LETTERS u
  cInserted : mg "Inserted" = some (.ref A.cInserted)
  cRemoved : mg "Removed" = some (.ref A.cRemoved)
  cFronted : mg "Fronted" = some (.ref A.cFronted)
  cRecord : mg "Record" = some (.ref A.cRecord)
  cLogError : mg "LogError" = some (.ref A.cLogError)
  cNoItem : mg "NoItem" = some (.ref A.cNoItem)
  cNoIndex : mg "NoIndex" = some (.ref A.cNoIndex)
  cNoList : mg "NoList" = some (.ref A.cNoList)
  cNoLog : mg "NoLog" = some (.ref A.cNoLog)
  cNoSeen : mg "NoSeen" = some (.ref A.cNoSeen)
  cNoClients : mg "NoClients" = some (.ref A.cNoClients)
  cNoNumber : mg "NoNumber" = some (.ref A.cNoNumber)
  cNoPosition : mg "NoPosition" = some (.ref A.cNoPosition)
  cNothing : mg "Nothing" = some (.ref A.cNothing)
  cImpossible : mg "Impossible" = some (.ref A.cImpossible)
  cTooMany : mg "TooMany" = some (.ref A.cTooMany)
  cNoText : mg "NoText" = some (.ref A.cNoText)
  x_Impossible : ExcF P K mg "Impossible" A.cImpossible "reason"
  x_NoIndex : ExcN K mg "NoIndex" A.cNoIndex
  x_NoItem : ExcN K mg "NoItem" A.cNoItem
  x_NoList : ExcN K mg "NoList" A.cNoList
def cadA (A : Ads) : Nat → Addr
  | 0 => A.cInserted
  | 1 => A.cRemoved
  | 2 => A.cFronted
  | 3 => A.cRecord
  | 4 => A.cLogError
  | 5 => A.cNoItem
  | 6 => A.cNoIndex
  | 7 => A.cNoList
  | 8 => A.cNoLog
  | 9 => A.cNoSeen
  | 10 => A.cNoClients
  | 11 => A.cNoNumber
  | 12 => A.cNoPosition
  | 13 => A.cNothing
  | 14 => A.cImpossible
  | 15 => A.cTooMany
  | 16 => A.cNoText
  | _ => 0
abbrev cz (K : PySem.W.Frag) (A : Ads) : Cz := ⟨K, cadA A⟩
abbrev N_is_integer : List Str := ["thing", "least", "most"]
theorem sc_is_integer : FnScope N_is_integer ["thing", "least", "most"] (defScope s_is_integer) := ⟨rfl, rfl, rfl, by decide +kernel, rfl, by decide +kernel, by decide +kernel⟩
def t_is_integer (P : Program) (w : World) (K : PySem.W.Frag) (mg : Str → Option Value) (base : Heap) (A : Ads) (E : XS) : TS :=
  tRet (tAndV (tCB (cIsi K) (tCons (tVar 0) (tCons (tC (.ty "int")) (tNil)))) (tAndV (tNotV (tCB (cIsi K) (tCons (tVar 0) (tCons (tC (.ty "bool")) (tNil))))) (tChain uLe uLe (tVar 1) (tVar 0) (tVar 2))))
theorem d_is_integer {P : Program} {w : World} {K : PySem.W.Frag} {mg : Str → Option Value} {base : Heap} {A : Ads} {f : Addr} {cdv : Value} {Ar : Around} {outer : List Env} {s : Shared} {H : Hp} {E : XK} (G : Gm P K mg A) (hr : Room 2 (Ar.deeper (envOfC "is_integer" (defScope s_is_integer) s.heap.objs.size f cdv))) (qt : Quiet 2 (Ar.deeper (envOfC "is_integer" (defScope s_is_integer) s.heap.objs.size f cdv))) :
    PSs (cxOf (L2.CX P w) P w K mg base N_is_integer "is_integer" (defScope s_is_integer) f cdv Ar outer s H E) (defBody s_is_integer) (t_is_integer P w K mg base A fun _ => E) := by
  have sc := sc_is_integer
  have tk : Takes (cxOf (L2.CX P w) P w K mg base N_is_integer "is_integer" (defScope s_is_integer) f cdv Ar outer s H E) (fun cls d _ H => E cls d H) := takes_of rfl rfl rfl rfl
  have at_ : At (cxOf (L2.CX P w) P w K mg base N_is_integer "is_integer" (defScope s_is_integer) f cdv Ar outer s H E) 2 (fun _ => E) := At.of hr qt tk
  have pn : PassesOwn (model P w) (cxOf (L2.CX P w) P w K mg base N_is_integer "is_integer" (defScope s_is_integer) f cdv Ar outer s H E).A (cxOf (L2.CX P w) P w K mg base N_is_integer "is_integer" (defScope s_is_integer) f cdv Ar outer s H E).env (cxOf (L2.CX P w) P w K mg base N_is_integer "is_integer" (defScope s_is_integer) f cdv Ar outer s H E).xe := passes_of rfl
  exact pss_one (ps_ret (pe_and (pe_callB call_cIsi (by rfl) G.g_isinstance (by decide +kernel) (pa_cons (pv 0) (pa_cons (pe_bltn (v := .ty "int") (by rfl) G.g_int (by decide +kernel) rfl) (pa_nil)))) (pe_and (pe_not (pe_callB call_cIsi (by rfl) G.g_isinstance (by decide +kernel) (pa_cons (pv 0) (pa_cons (pe_bltn (v := .ty "bool") (by rfl) G.g_bool (by decide +kernel) rfl) (pa_nil))))) (pe_one (pe_chain op_uLe op_uLe (pv 1) (pv 0) (pv 2))))))
abbrev N_is_item : List Str := ["thing", "letter"]
theorem sc_is_item : FnScope N_is_item ["thing"] (defScope s_is_item) := ⟨rfl, rfl, rfl, by decide +kernel, rfl, by decide +kernel, by decide +kernel⟩
def t_is_item (P : Program) (w : World) (K : PySem.W.Frag) (mg : Str → Option Value) (base : Heap) (A : Ads) (E : XS) : TS :=
  tSeq (tIfS (tOr (tNot (tB (tCB (cIsi K) (tCons (tVar 0) (tCons (tC (.ty "str")) (tNil)))))) (tNot (tTest (tChain uLe uLe (tC (.int 1)) (tCB (cLen K) (tCons (tVar 0) (tNil))) (tC A.kMOST_LETTERS))))) (tRet (tC (.bl false))) (tNext)) (tRet (tCB (cAll K) (tCons (tLc (iStr (tVar 0)) (gName 1) (tYes) (tOp (uIn K false) (tVar 1) (tC A.kLETTERS)) [1]) (tNil))))
theorem d_is_item {P : Program} {w : World} {K : PySem.W.Frag} {mg : Str → Option Value} {base : Heap} {A : Ads} {f : Addr} {cdv : Value} {Ar : Around} {outer : List Env} {s : Shared} {H : Hp} {E : XK} (G : Gm P K mg A) (hr : Room 2 (Ar.deeper (envOfC "is_item" (defScope s_is_item) s.heap.objs.size f cdv))) (qt : Quiet 2 (Ar.deeper (envOfC "is_item" (defScope s_is_item) s.heap.objs.size f cdv))) :
    PSs (cxOf (L2.CX P w) P w K mg base N_is_item "is_item" (defScope s_is_item) f cdv Ar outer s H E) (defBody s_is_item) (t_is_item P w K mg base A fun _ => E) := by
  have sc := sc_is_item
  have tk : Takes (cxOf (L2.CX P w) P w K mg base N_is_item "is_item" (defScope s_is_item) f cdv Ar outer s H E) (fun cls d _ H => E cls d H) := takes_of rfl rfl rfl rfl
  have at_ : At (cxOf (L2.CX P w) P w K mg base N_is_item "is_item" (defScope s_is_item) f cdv Ar outer s H E) 2 (fun _ => E) := At.of hr qt tk
  have pn : PassesOwn (model P w) (cxOf (L2.CX P w) P w K mg base N_is_item "is_item" (defScope s_is_item) f cdv Ar outer s H E).A (cxOf (L2.CX P w) P w K mg base N_is_item "is_item" (defScope s_is_item) f cdv Ar outer s H E).env (cxOf (L2.CX P w) P w K mg base N_is_item "is_item" (defScope s_is_item) f cdv Ar outer s H E).xe := passes_of rfl
  exact pss_cons (ps_if (PW.pt (pw_or (pt_not (pt_val (pe_callB call_cIsi (by rfl) G.g_isinstance (by decide +kernel) (pa_cons (pv 0) (pa_cons (pe_bltn (v := .ty "str") (by rfl) G.g_str (by decide +kernel) rfl) (pa_nil)))))) (pw_or1 (pt_not (pt_chain op_uLe op_uLe (pe_int) (pe_callB call_cLen (by rfl) G.g_len (by decide +kernel) (pa_cons (pv 0) (pa_nil))) (pe_g (by rfl) G.g_MOST_LETTERS)))))) (pss_one (ps_ret (pe_bl))) (pss_nil)) (pss_one (ps_ret (pe_callB (call_cAll rfl) (by rfl) G.g_all (by decide +kernel) (pa_cons (pe_lc (own := [("letter", 1)]) (g := gName 1) (tt := tYes) rfl sc.nd (pi_str (pv 0)) (blkOk_by (N := N_is_item) (sc := defScope s_is_item) (by decide +kernel)) (fun _ _ _ _ _ => pg_name (i := 1) sc.nd rfl (by first | exact Or.inl rfl | exact Or.inr rfl)) (fun _ _ _ _ _ => pts_nil) (fun _ _ _ _ _ => pe_cmpR (op_uIn hr) (pv 1) (pe_g (by rfl) G.g_LETTERS) (by rfl))) (pa_nil)))))
abbrev N_are_items : List Str := ["thing", "item"]
theorem sc_are_items : FnScope N_are_items ["thing"] (defScope s_are_items) := ⟨rfl, rfl, rfl, by decide +kernel, rfl, by decide +kernel, by decide +kernel⟩
def t_are_items (P : Program) (w : World) (K : PySem.W.Frag) (mg : Str → Option Value) (base : Heap) (A : Ads) (E : XS) : TS :=
  tSeq (tIfS (tOr (tNot (tB (tCB (cIsi K) (tCons (tVar 0) (tCons (tC (.ty "list")) (tNil)))))) (tOr (tTest (tOp uGt (tCB (cLen K) (tCons (tVar 0) (tNil))) (tC A.kMOST_ITEMS))) (tNot (tB (tCB (cAll K) (tCons (tLc (iList K (tVar 0)) (gName 1) (tYes) (tFn P w K mg base "is_item" 3 E0s (tCons (tVar 1) (tNil))) [1]) (tNil))))))) (tRet (tC (.bl false))) (tNext)) (tRet (tOp (uEq K) (tLenSetT K (tVar 0)) (tCB (cLen K) (tCons (tVar 0) (tNil)))))
theorem d_are_items {P : Program} {w : World} {K : PySem.W.Frag} {mg : Str → Option Value} {base : Heap} {A : Ads} {f : Addr} {cdv : Value} {Ar : Around} {outer : List Env} {s : Shared} {H : Hp} {E : XK} (G : Gm P K mg A) (hr : Room 3 (Ar.deeper (envOfC "are_items" (defScope s_are_items) s.heap.objs.size f cdv))) (qt : Quiet 3 (Ar.deeper (envOfC "are_items" (defScope s_are_items) s.heap.objs.size f cdv))) :
    PSs (cxOf (L2.CX P w) P w K mg base N_are_items "are_items" (defScope s_are_items) f cdv Ar outer s H E) (defBody s_are_items) (t_are_items P w K mg base A fun _ => E) := by
  have sc := sc_are_items
  have tk : Takes (cxOf (L2.CX P w) P w K mg base N_are_items "are_items" (defScope s_are_items) f cdv Ar outer s H E) (fun cls d _ H => E cls d H) := takes_of rfl rfl rfl rfl
  have at_ : At (cxOf (L2.CX P w) P w K mg base N_are_items "are_items" (defScope s_are_items) f cdv Ar outer s H E) 3 (fun _ => E) := At.of hr qt tk
  have pn : PassesOwn (model P w) (cxOf (L2.CX P w) P w K mg base N_are_items "are_items" (defScope s_are_items) f cdv Ar outer s H E).A (cxOf (L2.CX P w) P w K mg base N_are_items "are_items" (defScope s_are_items) f cdv Ar outer s H E).env (cxOf (L2.CX P w) P w K mg base N_are_items "are_items" (defScope s_are_items) f cdv Ar outer s H E).xe := passes_of rfl
  exact pss_cons (ps_if (PW.pt (pw_or (pt_not (pt_val (pe_callB call_cIsi (by rfl) G.g_isinstance (by decide +kernel) (pa_cons (pv 0) (pa_cons (pe_bltn (v := .ty "list") (by rfl) G.g_list (by decide +kernel) rfl) (pa_nil)))))) (pw_or (pt_cmpR op_uGt (pe_callB call_cLen (by rfl) G.g_len (by decide +kernel) (pa_cons (pv 0) (pa_nil))) (pe_g (by rfl) G.g_MOST_ITEMS) (nomark _)) (pw_or1 (pt_not (pt_val (pe_callB (call_cAll rfl) (by rfl) G.g_all (by decide +kernel) (pa_cons (pe_lc (own := [("item", 1)]) (g := gName 1) (tt := tYes) rfl sc.nd (pi_list (pv 0)) (blkOk_by (N := N_are_items) (sc := defScope s_are_items) (by decide +kernel)) (fun _ _ _ _ _ => pg_name (i := 1) sc.nd rfl (by first | exact Or.inl rfl | exact Or.inr rfl)) (fun _ _ _ _ _ => pts_nil) (fun _ _ _ _ _ => pe_fn (At.e0 hr qt) (by rfl) (pa_cons (pv 1) (pa_nil)))) (pa_nil))))))))) (pss_one (ps_ret (pe_bl))) (pss_nil)) (pss_one (ps_ret (pe_cmpR (op_uEq hr) (pe_lenSetT (by rfl) G.g_len (by rfl) G.g_set (pv 0)) (pe_callB call_cLen (by rfl) G.g_len (by decide +kernel) (pa_cons (pv 0) (pa_nil))) (nomark _))))
abbrev N_need_items : List Str := ["thing"]
theorem sc_need_items : FnScope N_need_items ["thing"] (defScope s_need_items) := ⟨rfl, rfl, rfl, by decide +kernel, rfl, by decide +kernel, by decide +kernel⟩
def t_need_items (P : Program) (w : World) (K : PySem.W.Frag) (mg : Str → Option Value) (base : Heap) (A : Ads) (E : XS) : TS :=
  tIfS (tNot (tB (tFn P w K mg base "are_items" 4 E (tCons (tVar 0) (tNil))))) (tRaise A.cNoList E) (tNext)
theorem d_need_items {P : Program} {w : World} {K : PySem.W.Frag} {mg : Str → Option Value} {base : Heap} {A : Ads} {f : Addr} {cdv : Value} {Ar : Around} {outer : List Env} {s : Shared} {H : Hp} {E : XK} (G : Gm P K mg A) (hr : Room 4 (Ar.deeper (envOfC "need_items" (defScope s_need_items) s.heap.objs.size f cdv))) (qt : Quiet 4 (Ar.deeper (envOfC "need_items" (defScope s_need_items) s.heap.objs.size f cdv))) :
    PSs (cxOf (L2.CX P w) P w K mg base N_need_items "need_items" (defScope s_need_items) f cdv Ar outer s H E) (defBody s_need_items) (t_need_items P w K mg base A fun _ => E) := by
  have sc := sc_need_items
  have tk : Takes (cxOf (L2.CX P w) P w K mg base N_need_items "need_items" (defScope s_need_items) f cdv Ar outer s H E) (fun cls d _ H => E cls d H) := takes_of rfl rfl rfl rfl
  have at_ : At (cxOf (L2.CX P w) P w K mg base N_need_items "need_items" (defScope s_need_items) f cdv Ar outer s H E) 4 (fun _ => E) := At.of hr qt tk
  have pn : PassesOwn (model P w) (cxOf (L2.CX P w) P w K mg base N_need_items "need_items" (defScope s_need_items) f cdv Ar outer s H E).A (cxOf (L2.CX P w) P w K mg base N_need_items "need_items" (defScope s_need_items) f cdv Ar outer s H E).env (cxOf (L2.CX P w) P w K mg base N_need_items "need_items" (defScope s_need_items) f cdv Ar outer s H E).xe := passes_of rfl
  exact pss_one (ps_if (pt_not (pt_val (pe_fn at_ (by rfl) (pa_cons (pv 0) (pa_nil))))) (pss_one (ps_raiseN rfl tk G.x_NoList (by rfl))) (pss_nil))
abbrev N_Record_init : List Str := ["self", "item", "slot"]
theorem sc_Record_init : FnScope N_Record_init ["self", "item", "slot"] (defScope s_Record_init) := ⟨rfl, rfl, rfl, by decide +kernel, rfl, by decide +kernel, by decide +kernel⟩
def t_Record_init (P : Program) (w : World) (K : PySem.W.Frag) (mg : Str → Option Value) (base : Heap) (A : Ads) (E : XS) : TS :=
  tSeq (tIfS (tNot (tB (tFn P w K mg base "is_item" 3 E (tCons (tVar 1) (tNil))))) (tRaise A.cNoItem E) (tNext)) (tSeq (tIfS (tNot (tB (tFn P w K mg base "is_integer" 3 E (tCons (tVar 2) (tCons (tC (.int 0)) (tCons (tAtt P w K mg base "MOST" (tC (.ref A.cRecord))) (tNil))))))) (tRaise A.cNoIndex E) (tNext)) (tSeq (sFld K (tVar 0) (tVar 1) "held_item") (sFld K (tVar 0) (tVar 2) "held_slot")))
theorem d_Record_init {P : Program} {w : World} {K : PySem.W.Frag} {mg : Str → Option Value} {base : Heap} {A : Ads} {f : Addr} {cdv : Value} {Ar : Around} {outer : List Env} {s : Shared} {H : Hp} {E : XK} (G : Gm P K mg A) (hr : Room 3 (Ar.deeper (envOfC "Record.__init__" (defScope s_Record_init) s.heap.objs.size f cdv))) (qt : Quiet 3 (Ar.deeper (envOfC "Record.__init__" (defScope s_Record_init) s.heap.objs.size f cdv))) :
    PSs (cxOf (L2.CX P w) P w K mg base N_Record_init "Record.__init__" (defScope s_Record_init) f cdv Ar outer s H E) (defBody s_Record_init) (t_Record_init P w K mg base A fun _ => E) := by
  have sc := sc_Record_init
  have tk : Takes (cxOf (L2.CX P w) P w K mg base N_Record_init "Record.__init__" (defScope s_Record_init) f cdv Ar outer s H E) (fun cls d _ H => E cls d H) := takes_of rfl rfl rfl rfl
  have at_ : At (cxOf (L2.CX P w) P w K mg base N_Record_init "Record.__init__" (defScope s_Record_init) f cdv Ar outer s H E) 3 (fun _ => E) := At.of hr qt tk
  have pn : PassesOwn (model P w) (cxOf (L2.CX P w) P w K mg base N_Record_init "Record.__init__" (defScope s_Record_init) f cdv Ar outer s H E).A (cxOf (L2.CX P w) P w K mg base N_Record_init "Record.__init__" (defScope s_Record_init) f cdv Ar outer s H E).env (cxOf (L2.CX P w) P w K mg base N_Record_init "Record.__init__" (defScope s_Record_init) f cdv Ar outer s H E).xe := passes_of rfl
  exact pss_cons (ps_if (pt_not (pt_val (pe_fn at_ (by rfl) (pa_cons (pv 1) (pa_nil))))) (pss_one (ps_raiseN rfl tk G.x_NoItem (by rfl))) (pss_nil)) (pss_cons (ps_if (pt_not (pt_val (pe_fn at_ (by rfl) (pa_cons (pv 2) (pa_cons (pe_int) (pa_cons (pe_att hr (pe_g (by rfl) ⟨_, G.cRecord, rfl⟩)) (pa_nil))))))) (pss_one (ps_raiseN rfl tk G.x_NoIndex (by rfl))) (pss_nil)) (pss_cons (ps_fld (pv 0) (pv 1) rfl) (pss_one (ps_fld (pv 0) (pv 2) rfl))))
abbrev N_Record_stands : List Str := ["self", "items"]
theorem sc_Record_stands : FnScope N_Record_stands ["self", "items"] (defScope s_Record_stands) := ⟨rfl, rfl, rfl, by decide +kernel, rfl, by decide +kernel, by decide +kernel⟩
def t_Record_stands (P : Program) (w : World) (K : PySem.W.Frag) (mg : Str → Option Value) (base : Heap) (A : Ads) (E : XS) : TS :=
  tRet (tOp (uIn K false) (tAtt P w K mg base "held_item" (tVar 0)) (tSl (rSlL K) (tVar 1) (tPart (tAtt P w K mg base "held_slot" (tVar 0))) (tPart (tOp uAdd (tAtt P w K mg base "held_slot" (tVar 0)) (tC (.int 1))))))
theorem d_Record_stands {P : Program} {w : World} {K : PySem.W.Frag} {mg : Str → Option Value} {base : Heap} {A : Ads} {f : Addr} {cdv : Value} {Ar : Around} {outer : List Env} {s : Shared} {H : Hp} {E : XK} (G : Gm P K mg A) (hr : Room 2 (Ar.deeper (envOfC "Record.stands" (defScope s_Record_stands) s.heap.objs.size f cdv))) (qt : Quiet 2 (Ar.deeper (envOfC "Record.stands" (defScope s_Record_stands) s.heap.objs.size f cdv))) :
    PSs (cxOf (L2.CX P w) P w K mg base N_Record_stands "Record.stands" (defScope s_Record_stands) f cdv Ar outer s H E) (defBody s_Record_stands) (t_Record_stands P w K mg base A fun _ => E) := by
  have sc := sc_Record_stands
  have tk : Takes (cxOf (L2.CX P w) P w K mg base N_Record_stands "Record.stands" (defScope s_Record_stands) f cdv Ar outer s H E) (fun cls d _ H => E cls d H) := takes_of rfl rfl rfl rfl
  have at_ : At (cxOf (L2.CX P w) P w K mg base N_Record_stands "Record.stands" (defScope s_Record_stands) f cdv Ar outer s H E) 2 (fun _ => E) := At.of hr qt tk
  have pn : PassesOwn (model P w) (cxOf (L2.CX P w) P w K mg base N_Record_stands "Record.stands" (defScope s_Record_stands) f cdv Ar outer s H E).A (cxOf (L2.CX P w) P w K mg base N_Record_stands "Record.stands" (defScope s_Record_stands) f cdv Ar outer s H E).env (cxOf (L2.CX P w) P w K mg base N_Record_stands "Record.stands" (defScope s_Record_stands) f cdv Ar outer s H E).xe := passes_of rfl
  exact pss_one (ps_ret (pe_cmpR (op_uIn hr) (pe_att hr (pv 0)) (pe_slice sl_list (pv 1) (po_some (pe_att hr (pv 0))) (po_some (pe_op op_uAdd (pe_att hr (pv 0)) (pe_int)))) (by rfl)))
abbrev N_Record_has_room : List Str := ["self", "items"]
theorem sc_Record_has_room : FnScope N_Record_has_room ["self", "items"] (defScope s_Record_has_room) := ⟨rfl, rfl, rfl, by decide +kernel, rfl, by decide +kernel, by decide +kernel⟩
def t_Record_has_room (P : Program) (w : World) (K : PySem.W.Frag) (mg : Str → Option Value) (base : Heap) (A : Ads) (E : XS) : TS :=
  tRet (tAndV (tOp uLt (tCB (cLen K) (tCons (tVar 1) (tNil))) (tC A.kMOST_ITEMS)) (tAndV (tOp (uIn K true) (tAtt P w K mg base "held_item" (tVar 0)) (tVar 1)) (tOp uLe (tAtt P w K mg base "held_slot" (tVar 0)) (tCB (cLen K) (tCons (tVar 1) (tNil))))))
theorem d_Record_has_room {P : Program} {w : World} {K : PySem.W.Frag} {mg : Str → Option Value} {base : Heap} {A : Ads} {f : Addr} {cdv : Value} {Ar : Around} {outer : List Env} {s : Shared} {H : Hp} {E : XK} (G : Gm P K mg A) (hr : Room 2 (Ar.deeper (envOfC "Record.has_room" (defScope s_Record_has_room) s.heap.objs.size f cdv))) (qt : Quiet 2 (Ar.deeper (envOfC "Record.has_room" (defScope s_Record_has_room) s.heap.objs.size f cdv))) :
    PSs (cxOf (L2.CX P w) P w K mg base N_Record_has_room "Record.has_room" (defScope s_Record_has_room) f cdv Ar outer s H E) (defBody s_Record_has_room) (t_Record_has_room P w K mg base A fun _ => E) := by
  have sc := sc_Record_has_room
  have tk : Takes (cxOf (L2.CX P w) P w K mg base N_Record_has_room "Record.has_room" (defScope s_Record_has_room) f cdv Ar outer s H E) (fun cls d _ H => E cls d H) := takes_of rfl rfl rfl rfl
  have at_ : At (cxOf (L2.CX P w) P w K mg base N_Record_has_room "Record.has_room" (defScope s_Record_has_room) f cdv Ar outer s H E) 2 (fun _ => E) := At.of hr qt tk
  have pn : PassesOwn (model P w) (cxOf (L2.CX P w) P w K mg base N_Record_has_room "Record.has_room" (defScope s_Record_has_room) f cdv Ar outer s H E).A (cxOf (L2.CX P w) P w K mg base N_Record_has_room "Record.has_room" (defScope s_Record_has_room) f cdv Ar outer s H E).env (cxOf (L2.CX P w) P w K mg base N_Record_has_room "Record.has_room" (defScope s_Record_has_room) f cdv Ar outer s H E).xe := passes_of rfl
  exact pss_one (ps_ret (pe_and (pe_cmpR op_uLt (pe_callB call_cLen (by rfl) G.g_len (by decide +kernel) (pa_cons (pv 1) (pa_nil))) (pe_g (by rfl) G.g_MOST_ITEMS) (nomark _)) (pe_and (pe_cmpR (op_uNotIn hr) (pe_att hr (pv 0)) (pv 1) (by rfl)) (pe_one (pe_cmpR op_uLe (pe_att hr (pv 0)) (pe_callB call_cLen (by rfl) G.g_len (by decide +kernel) (pa_cons (pv 1) (pa_nil))) (nomark _))))))
abbrev N_Record_others : List Str := ["self", "items", "item"]
theorem sc_Record_others : FnScope N_Record_others ["self", "items"] (defScope s_Record_others) := ⟨rfl, rfl, rfl, by decide +kernel, rfl, by decide +kernel, by decide +kernel⟩
def t_Record_others (P : Program) (w : World) (K : PySem.W.Frag) (mg : Str → Option Value) (base : Heap) (A : Ads) (E : XS) : TS :=
  tRet (tLc (iList K (tVar 1)) (gName 2) (tTest (tOp (uNe K) (tVar 2) (tAtt P w K mg base "held_item" (tVar 0)))) (tVar 2) [2])
theorem d_Record_others {P : Program} {w : World} {K : PySem.W.Frag} {mg : Str → Option Value} {base : Heap} {A : Ads} {f : Addr} {cdv : Value} {Ar : Around} {outer : List Env} {s : Shared} {H : Hp} {E : XK} (G : Gm P K mg A) (hr : Room 2 (Ar.deeper (envOfC "Record.others" (defScope s_Record_others) s.heap.objs.size f cdv))) (qt : Quiet 2 (Ar.deeper (envOfC "Record.others" (defScope s_Record_others) s.heap.objs.size f cdv))) :
    PSs (cxOf (L2.CX P w) P w K mg base N_Record_others "Record.others" (defScope s_Record_others) f cdv Ar outer s H E) (defBody s_Record_others) (t_Record_others P w K mg base A fun _ => E) := by
  have sc := sc_Record_others
  have tk : Takes (cxOf (L2.CX P w) P w K mg base N_Record_others "Record.others" (defScope s_Record_others) f cdv Ar outer s H E) (fun cls d _ H => E cls d H) := takes_of rfl rfl rfl rfl
  have at_ : At (cxOf (L2.CX P w) P w K mg base N_Record_others "Record.others" (defScope s_Record_others) f cdv Ar outer s H E) 2 (fun _ => E) := At.of hr qt tk
  have pn : PassesOwn (model P w) (cxOf (L2.CX P w) P w K mg base N_Record_others "Record.others" (defScope s_Record_others) f cdv Ar outer s H E).A (cxOf (L2.CX P w) P w K mg base N_Record_others "Record.others" (defScope s_Record_others) f cdv Ar outer s H E).env (cxOf (L2.CX P w) P w K mg base N_Record_others "Record.others" (defScope s_Record_others) f cdv Ar outer s H E).xe := passes_of rfl
  exact pss_one (ps_ret (pe_lc (own := [("item", 2)]) (g := gName 2) (tt := tTest (tOp (uNe K) (tVar 2) (tAtt P w K mg base "held_item" (tVar 0)))) rfl sc.nd (pi_list (pv 1)) (blkOk_by (N := N_Record_others) (sc := defScope s_Record_others) (by decide +kernel)) (fun _ _ _ _ _ => pg_name (i := 2) sc.nd rfl (by first | exact Or.inl rfl | exact Or.inr rfl)) (fun _ _ _ _ _ => pts_one (pt_cmpR (op_uNe hr) (pv 2) (pe_att hr (pv 0)) (nomark _))) (fun _ _ _ _ _ => pv 2)))
abbrev N_Record_put_in : List Str := ["self", "items"]
theorem sc_Record_put_in : FnScope N_Record_put_in ["self", "items"] (defScope s_Record_put_in) := ⟨rfl, rfl, rfl, by decide +kernel, rfl, by decide +kernel, by decide +kernel⟩
def t_Record_put_in (P : Program) (w : World) (K : PySem.W.Frag) (mg : Str → Option Value) (base : Heap) (A : Ads) (E : XS) : TS :=
  tRet (tLst (StX.tStar K (tSl (rSlL K) (tVar 1) (tNoPart) (tPart (tAtt P w K mg base "held_slot" (tVar 0)))) (tCons (tAtt P w K mg base "held_item" (tVar 0)) (StX.tStar K (tSl (rSlL K) (tVar 1) (tPart (tAtt P w K mg base "held_slot" (tVar 0))) (tNoPart)) (tNil)))))
theorem d_Record_put_in {P : Program} {w : World} {K : PySem.W.Frag} {mg : Str → Option Value} {base : Heap} {A : Ads} {f : Addr} {cdv : Value} {Ar : Around} {outer : List Env} {s : Shared} {H : Hp} {E : XK} (G : Gm P K mg A) (hr : Room 2 (Ar.deeper (envOfC "Record.put_in" (defScope s_Record_put_in) s.heap.objs.size f cdv))) (qt : Quiet 2 (Ar.deeper (envOfC "Record.put_in" (defScope s_Record_put_in) s.heap.objs.size f cdv))) :
    PSs (cxOf (L2.CX P w) P w K mg base N_Record_put_in "Record.put_in" (defScope s_Record_put_in) f cdv Ar outer s H E) (defBody s_Record_put_in) (t_Record_put_in P w K mg base A fun _ => E) := by
  have sc := sc_Record_put_in
  have tk : Takes (cxOf (L2.CX P w) P w K mg base N_Record_put_in "Record.put_in" (defScope s_Record_put_in) f cdv Ar outer s H E) (fun cls d _ H => E cls d H) := takes_of rfl rfl rfl rfl
  have at_ : At (cxOf (L2.CX P w) P w K mg base N_Record_put_in "Record.put_in" (defScope s_Record_put_in) f cdv Ar outer s H E) 2 (fun _ => E) := At.of hr qt tk
  have pn : PassesOwn (model P w) (cxOf (L2.CX P w) P w K mg base N_Record_put_in "Record.put_in" (defScope s_Record_put_in) f cdv Ar outer s H E).A (cxOf (L2.CX P w) P w K mg base N_Record_put_in "Record.put_in" (defScope s_Record_put_in) f cdv Ar outer s H E).env (cxOf (L2.CX P w) P w K mg base N_Record_put_in "Record.put_in" (defScope s_Record_put_in) f cdv Ar outer s H E).xe := passes_of rfl
  exact pss_one (ps_ret (pe_lst (StX.pa_star (pe_slice sl_list (pv 1) (po_none) (po_some (pe_att hr (pv 0)))) (pa_cons (pe_att hr (pv 0)) (StX.pa_star (pe_slice sl_list (pv 1) (po_some (pe_att hr (pv 0))) (po_none)) (pa_nil))))))
abbrev N_Inserted_can_apply : List Str := ["self", "items"]
theorem sc_Inserted_can_apply : FnScope N_Inserted_can_apply ["self", "items"] (defScope s_Inserted_can_apply) := ⟨rfl, rfl, rfl, by decide +kernel, rfl, by decide +kernel, by decide +kernel⟩
def t_Inserted_can_apply (P : Program) (w : World) (K : PySem.W.Frag) (mg : Str → Option Value) (base : Heap) (A : Ads) (E : XS) : TS :=
  tRet (tMth P w K mg base "has_room" 3 E (tVar 0) (tCons (tVar 1) (tNil)))
theorem d_Inserted_can_apply {P : Program} {w : World} {K : PySem.W.Frag} {mg : Str → Option Value} {base : Heap} {A : Ads} {f : Addr} {cdv : Value} {Ar : Around} {outer : List Env} {s : Shared} {H : Hp} {E : XK} (G : Gm P K mg A) (hr : Room 3 (Ar.deeper (envOfC "Inserted.can_apply" (defScope s_Inserted_can_apply) s.heap.objs.size f cdv))) (qt : Quiet 3 (Ar.deeper (envOfC "Inserted.can_apply" (defScope s_Inserted_can_apply) s.heap.objs.size f cdv))) :
    PSs (cxOf (L2.CX P w) P w K mg base N_Inserted_can_apply "Inserted.can_apply" (defScope s_Inserted_can_apply) f cdv Ar outer s H E) (defBody s_Inserted_can_apply) (t_Inserted_can_apply P w K mg base A fun _ => E) := by
  have sc := sc_Inserted_can_apply
  have tk : Takes (cxOf (L2.CX P w) P w K mg base N_Inserted_can_apply "Inserted.can_apply" (defScope s_Inserted_can_apply) f cdv Ar outer s H E) (fun cls d _ H => E cls d H) := takes_of rfl rfl rfl rfl
  have at_ : At (cxOf (L2.CX P w) P w K mg base N_Inserted_can_apply "Inserted.can_apply" (defScope s_Inserted_can_apply) f cdv Ar outer s H E) 3 (fun _ => E) := At.of hr qt tk
  have pn : PassesOwn (model P w) (cxOf (L2.CX P w) P w K mg base N_Inserted_can_apply "Inserted.can_apply" (defScope s_Inserted_can_apply) f cdv Ar outer s H E).A (cxOf (L2.CX P w) P w K mg base N_Inserted_can_apply "Inserted.can_apply" (defScope s_Inserted_can_apply) f cdv Ar outer s H E).env (cxOf (L2.CX P w) P w K mg base N_Inserted_can_apply "Inserted.can_apply" (defScope s_Inserted_can_apply) f cdv Ar outer s H E).xe := passes_of rfl
  exact pss_one (ps_ret (pe_mth at_ (pv 0) (pa_cons (pv 1) (pa_nil))))
abbrev N_Removed_can_apply : List Str := ["self", "items"]
theorem sc_Removed_can_apply : FnScope N_Removed_can_apply ["self", "items"] (defScope s_Removed_can_apply) := ⟨rfl, rfl, rfl, by decide +kernel, rfl, by decide +kernel, by decide +kernel⟩
def t_Removed_can_apply (P : Program) (w : World) (K : PySem.W.Frag) (mg : Str → Option Value) (base : Heap) (A : Ads) (E : XS) : TS :=
  tRet (tMth P w K mg base "stands" 3 E (tVar 0) (tCons (tVar 1) (tNil)))
theorem d_Removed_can_apply {P : Program} {w : World} {K : PySem.W.Frag} {mg : Str → Option Value} {base : Heap} {A : Ads} {f : Addr} {cdv : Value} {Ar : Around} {outer : List Env} {s : Shared} {H : Hp} {E : XK} (G : Gm P K mg A) (hr : Room 3 (Ar.deeper (envOfC "Removed.can_apply" (defScope s_Removed_can_apply) s.heap.objs.size f cdv))) (qt : Quiet 3 (Ar.deeper (envOfC "Removed.can_apply" (defScope s_Removed_can_apply) s.heap.objs.size f cdv))) :
    PSs (cxOf (L2.CX P w) P w K mg base N_Removed_can_apply "Removed.can_apply" (defScope s_Removed_can_apply) f cdv Ar outer s H E) (defBody s_Removed_can_apply) (t_Removed_can_apply P w K mg base A fun _ => E) := by
  have sc := sc_Removed_can_apply
  have tk : Takes (cxOf (L2.CX P w) P w K mg base N_Removed_can_apply "Removed.can_apply" (defScope s_Removed_can_apply) f cdv Ar outer s H E) (fun cls d _ H => E cls d H) := takes_of rfl rfl rfl rfl
  have at_ : At (cxOf (L2.CX P w) P w K mg base N_Removed_can_apply "Removed.can_apply" (defScope s_Removed_can_apply) f cdv Ar outer s H E) 3 (fun _ => E) := At.of hr qt tk
  have pn : PassesOwn (model P w) (cxOf (L2.CX P w) P w K mg base N_Removed_can_apply "Removed.can_apply" (defScope s_Removed_can_apply) f cdv Ar outer s H E).A (cxOf (L2.CX P w) P w K mg base N_Removed_can_apply "Removed.can_apply" (defScope s_Removed_can_apply) f cdv Ar outer s H E).env (cxOf (L2.CX P w) P w K mg base N_Removed_can_apply "Removed.can_apply" (defScope s_Removed_can_apply) f cdv Ar outer s H E).xe := passes_of rfl
  exact pss_one (ps_ret (pe_mth at_ (pv 0) (pa_cons (pv 1) (pa_nil))))
abbrev N_Fronted_can_apply : List Str := ["self", "items"]
theorem sc_Fronted_can_apply : FnScope N_Fronted_can_apply ["self", "items"] (defScope s_Fronted_can_apply) := ⟨rfl, rfl, rfl, by decide +kernel, rfl, by decide +kernel, by decide +kernel⟩
def t_Fronted_can_apply (P : Program) (w : World) (K : PySem.W.Frag) (mg : Str → Option Value) (base : Heap) (A : Ads) (E : XS) : TS :=
  tRet (tMth P w K mg base "stands" 3 E (tVar 0) (tCons (tVar 1) (tNil)))
theorem d_Fronted_can_apply {P : Program} {w : World} {K : PySem.W.Frag} {mg : Str → Option Value} {base : Heap} {A : Ads} {f : Addr} {cdv : Value} {Ar : Around} {outer : List Env} {s : Shared} {H : Hp} {E : XK} (G : Gm P K mg A) (hr : Room 3 (Ar.deeper (envOfC "Fronted.can_apply" (defScope s_Fronted_can_apply) s.heap.objs.size f cdv))) (qt : Quiet 3 (Ar.deeper (envOfC "Fronted.can_apply" (defScope s_Fronted_can_apply) s.heap.objs.size f cdv))) :
    PSs (cxOf (L2.CX P w) P w K mg base N_Fronted_can_apply "Fronted.can_apply" (defScope s_Fronted_can_apply) f cdv Ar outer s H E) (defBody s_Fronted_can_apply) (t_Fronted_can_apply P w K mg base A fun _ => E) := by
  have sc := sc_Fronted_can_apply
  have tk : Takes (cxOf (L2.CX P w) P w K mg base N_Fronted_can_apply "Fronted.can_apply" (defScope s_Fronted_can_apply) f cdv Ar outer s H E) (fun cls d _ H => E cls d H) := takes_of rfl rfl rfl rfl
  have at_ : At (cxOf (L2.CX P w) P w K mg base N_Fronted_can_apply "Fronted.can_apply" (defScope s_Fronted_can_apply) f cdv Ar outer s H E) 3 (fun _ => E) := At.of hr qt tk
  have pn : PassesOwn (model P w) (cxOf (L2.CX P w) P w K mg base N_Fronted_can_apply "Fronted.can_apply" (defScope s_Fronted_can_apply) f cdv Ar outer s H E).A (cxOf (L2.CX P w) P w K mg base N_Fronted_can_apply "Fronted.can_apply" (defScope s_Fronted_can_apply) f cdv Ar outer s H E).env (cxOf (L2.CX P w) P w K mg base N_Fronted_can_apply "Fronted.can_apply" (defScope s_Fronted_can_apply) f cdv Ar outer s H E).xe := passes_of rfl
  exact pss_one (ps_ret (pe_mth at_ (pv 0) (pa_cons (pv 1) (pa_nil))))
abbrev N_Record_can_apply : List Str := ["self", "items"]
theorem sc_Record_can_apply : FnScope N_Record_can_apply ["self", "items"] (defScope s_Record_can_apply) := ⟨rfl, rfl, rfl, by decide +kernel, rfl, by decide +kernel, by decide +kernel⟩
def t_Record_can_apply (P : Program) (w : World) (K : PySem.W.Frag) (mg : Str → Option Value) (base : Heap) (A : Ads) (E : XS) : TS :=
  tRet (tC (.bl false))
theorem d_Record_can_apply {P : Program} {w : World} {K : PySem.W.Frag} {mg : Str → Option Value} {base : Heap} {A : Ads} {f : Addr} {cdv : Value} {Ar : Around} {outer : List Env} {s : Shared} {H : Hp} {E : XK} (G : Gm P K mg A) (hr : Room 3 (Ar.deeper (envOfC "Record.can_apply" (defScope s_Record_can_apply) s.heap.objs.size f cdv))) (qt : Quiet 3 (Ar.deeper (envOfC "Record.can_apply" (defScope s_Record_can_apply) s.heap.objs.size f cdv))) :
    PSs (cxOf (L2.CX P w) P w K mg base N_Record_can_apply "Record.can_apply" (defScope s_Record_can_apply) f cdv Ar outer s H E) (defBody s_Record_can_apply) (t_Record_can_apply P w K mg base A fun _ => E) := by
  have sc := sc_Record_can_apply
  have tk : Takes (cxOf (L2.CX P w) P w K mg base N_Record_can_apply "Record.can_apply" (defScope s_Record_can_apply) f cdv Ar outer s H E) (fun cls d _ H => E cls d H) := takes_of rfl rfl rfl rfl
  have at_ : At (cxOf (L2.CX P w) P w K mg base N_Record_can_apply "Record.can_apply" (defScope s_Record_can_apply) f cdv Ar outer s H E) 3 (fun _ => E) := At.of hr qt tk
  have pn : PassesOwn (model P w) (cxOf (L2.CX P w) P w K mg base N_Record_can_apply "Record.can_apply" (defScope s_Record_can_apply) f cdv Ar outer s H E).A (cxOf (L2.CX P w) P w K mg base N_Record_can_apply "Record.can_apply" (defScope s_Record_can_apply) f cdv Ar outer s H E).env (cxOf (L2.CX P w) P w K mg base N_Record_can_apply "Record.can_apply" (defScope s_Record_can_apply) f cdv Ar outer s H E).xe := passes_of rfl
  exact pss_one (ps_ret (pe_bl))
abbrev N_Inserted_can_end : List Str := ["self", "items"]
theorem sc_Inserted_can_end : FnScope N_Inserted_can_end ["self", "items"] (defScope s_Inserted_can_end) := ⟨rfl, rfl, rfl, by decide +kernel, rfl, by decide +kernel, by decide +kernel⟩
def t_Inserted_can_end (P : Program) (w : World) (K : PySem.W.Frag) (mg : Str → Option Value) (base : Heap) (A : Ads) (E : XS) : TS :=
  tRet (tMth P w K mg base "stands" 3 E (tVar 0) (tCons (tVar 1) (tNil)))
theorem d_Inserted_can_end {P : Program} {w : World} {K : PySem.W.Frag} {mg : Str → Option Value} {base : Heap} {A : Ads} {f : Addr} {cdv : Value} {Ar : Around} {outer : List Env} {s : Shared} {H : Hp} {E : XK} (G : Gm P K mg A) (hr : Room 3 (Ar.deeper (envOfC "Inserted.can_end" (defScope s_Inserted_can_end) s.heap.objs.size f cdv))) (qt : Quiet 3 (Ar.deeper (envOfC "Inserted.can_end" (defScope s_Inserted_can_end) s.heap.objs.size f cdv))) :
    PSs (cxOf (L2.CX P w) P w K mg base N_Inserted_can_end "Inserted.can_end" (defScope s_Inserted_can_end) f cdv Ar outer s H E) (defBody s_Inserted_can_end) (t_Inserted_can_end P w K mg base A fun _ => E) := by
  have sc := sc_Inserted_can_end
  have tk : Takes (cxOf (L2.CX P w) P w K mg base N_Inserted_can_end "Inserted.can_end" (defScope s_Inserted_can_end) f cdv Ar outer s H E) (fun cls d _ H => E cls d H) := takes_of rfl rfl rfl rfl
  have at_ : At (cxOf (L2.CX P w) P w K mg base N_Inserted_can_end "Inserted.can_end" (defScope s_Inserted_can_end) f cdv Ar outer s H E) 3 (fun _ => E) := At.of hr qt tk
  have pn : PassesOwn (model P w) (cxOf (L2.CX P w) P w K mg base N_Inserted_can_end "Inserted.can_end" (defScope s_Inserted_can_end) f cdv Ar outer s H E).A (cxOf (L2.CX P w) P w K mg base N_Inserted_can_end "Inserted.can_end" (defScope s_Inserted_can_end) f cdv Ar outer s H E).env (cxOf (L2.CX P w) P w K mg base N_Inserted_can_end "Inserted.can_end" (defScope s_Inserted_can_end) f cdv Ar outer s H E).xe := passes_of rfl
  exact pss_one (ps_ret (pe_mth at_ (pv 0) (pa_cons (pv 1) (pa_nil))))
abbrev N_Removed_can_end : List Str := ["self", "items"]
theorem sc_Removed_can_end : FnScope N_Removed_can_end ["self", "items"] (defScope s_Removed_can_end) := ⟨rfl, rfl, rfl, by decide +kernel, rfl, by decide +kernel, by decide +kernel⟩
def t_Removed_can_end (P : Program) (w : World) (K : PySem.W.Frag) (mg : Str → Option Value) (base : Heap) (A : Ads) (E : XS) : TS :=
  tRet (tMth P w K mg base "has_room" 3 E (tVar 0) (tCons (tVar 1) (tNil)))
theorem d_Removed_can_end {P : Program} {w : World} {K : PySem.W.Frag} {mg : Str → Option Value} {base : Heap} {A : Ads} {f : Addr} {cdv : Value} {Ar : Around} {outer : List Env} {s : Shared} {H : Hp} {E : XK} (G : Gm P K mg A) (hr : Room 3 (Ar.deeper (envOfC "Removed.can_end" (defScope s_Removed_can_end) s.heap.objs.size f cdv))) (qt : Quiet 3 (Ar.deeper (envOfC "Removed.can_end" (defScope s_Removed_can_end) s.heap.objs.size f cdv))) :
    PSs (cxOf (L2.CX P w) P w K mg base N_Removed_can_end "Removed.can_end" (defScope s_Removed_can_end) f cdv Ar outer s H E) (defBody s_Removed_can_end) (t_Removed_can_end P w K mg base A fun _ => E) := by
  have sc := sc_Removed_can_end
  have tk : Takes (cxOf (L2.CX P w) P w K mg base N_Removed_can_end "Removed.can_end" (defScope s_Removed_can_end) f cdv Ar outer s H E) (fun cls d _ H => E cls d H) := takes_of rfl rfl rfl rfl
  have at_ : At (cxOf (L2.CX P w) P w K mg base N_Removed_can_end "Removed.can_end" (defScope s_Removed_can_end) f cdv Ar outer s H E) 3 (fun _ => E) := At.of hr qt tk
  have pn : PassesOwn (model P w) (cxOf (L2.CX P w) P w K mg base N_Removed_can_end "Removed.can_end" (defScope s_Removed_can_end) f cdv Ar outer s H E).A (cxOf (L2.CX P w) P w K mg base N_Removed_can_end "Removed.can_end" (defScope s_Removed_can_end) f cdv Ar outer s H E).env (cxOf (L2.CX P w) P w K mg base N_Removed_can_end "Removed.can_end" (defScope s_Removed_can_end) f cdv Ar outer s H E).xe := passes_of rfl
  exact pss_one (ps_ret (pe_mth at_ (pv 0) (pa_cons (pv 1) (pa_nil))))
abbrev N_Fronted_can_end : List Str := ["self", "items"]
theorem sc_Fronted_can_end : FnScope N_Fronted_can_end ["self", "items"] (defScope s_Fronted_can_end) := ⟨rfl, rfl, rfl, by decide +kernel, rfl, by decide +kernel, by decide +kernel⟩
def t_Fronted_can_end (P : Program) (w : World) (K : PySem.W.Frag) (mg : Str → Option Value) (base : Heap) (A : Ads) (E : XS) : TS :=
  tRet (tAndV (tOp (uIn K false) (tAtt P w K mg base "held_item" (tVar 0)) (tSl (rSlL K) (tVar 1) (tNoPart) (tPart (tC (.int 1))))) (tOp uLt (tAtt P w K mg base "held_slot" (tVar 0)) (tCB (cLen K) (tCons (tVar 1) (tNil)))))
theorem d_Fronted_can_end {P : Program} {w : World} {K : PySem.W.Frag} {mg : Str → Option Value} {base : Heap} {A : Ads} {f : Addr} {cdv : Value} {Ar : Around} {outer : List Env} {s : Shared} {H : Hp} {E : XK} (G : Gm P K mg A) (hr : Room 3 (Ar.deeper (envOfC "Fronted.can_end" (defScope s_Fronted_can_end) s.heap.objs.size f cdv))) (qt : Quiet 3 (Ar.deeper (envOfC "Fronted.can_end" (defScope s_Fronted_can_end) s.heap.objs.size f cdv))) :
    PSs (cxOf (L2.CX P w) P w K mg base N_Fronted_can_end "Fronted.can_end" (defScope s_Fronted_can_end) f cdv Ar outer s H E) (defBody s_Fronted_can_end) (t_Fronted_can_end P w K mg base A fun _ => E) := by
  have sc := sc_Fronted_can_end
  have tk : Takes (cxOf (L2.CX P w) P w K mg base N_Fronted_can_end "Fronted.can_end" (defScope s_Fronted_can_end) f cdv Ar outer s H E) (fun cls d _ H => E cls d H) := takes_of rfl rfl rfl rfl
  have at_ : At (cxOf (L2.CX P w) P w K mg base N_Fronted_can_end "Fronted.can_end" (defScope s_Fronted_can_end) f cdv Ar outer s H E) 3 (fun _ => E) := At.of hr qt tk
  have pn : PassesOwn (model P w) (cxOf (L2.CX P w) P w K mg base N_Fronted_can_end "Fronted.can_end" (defScope s_Fronted_can_end) f cdv Ar outer s H E).A (cxOf (L2.CX P w) P w K mg base N_Fronted_can_end "Fronted.can_end" (defScope s_Fronted_can_end) f cdv Ar outer s H E).env (cxOf (L2.CX P w) P w K mg base N_Fronted_can_end "Fronted.can_end" (defScope s_Fronted_can_end) f cdv Ar outer s H E).xe := passes_of rfl
  exact pss_one (ps_ret (pe_and (pe_cmpR (op_uIn hr) (pe_att hr (pv 0)) (pe_slice sl_list (pv 1) (po_none) (po_some (pe_int))) (by rfl)) (pe_one (pe_cmpR op_uLt (pe_att hr (pv 0)) (pe_callB call_cLen (by rfl) G.g_len (by decide +kernel) (pa_cons (pv 1) (pa_nil))) (nomark _)))))
abbrev N_Record_can_end : List Str := ["self", "items"]
theorem sc_Record_can_end : FnScope N_Record_can_end ["self", "items"] (defScope s_Record_can_end) := ⟨rfl, rfl, rfl, by decide +kernel, rfl, by decide +kernel, by decide +kernel⟩
def t_Record_can_end (P : Program) (w : World) (K : PySem.W.Frag) (mg : Str → Option Value) (base : Heap) (A : Ads) (E : XS) : TS :=
  tRet (tC (.bl false))
theorem d_Record_can_end {P : Program} {w : World} {K : PySem.W.Frag} {mg : Str → Option Value} {base : Heap} {A : Ads} {f : Addr} {cdv : Value} {Ar : Around} {outer : List Env} {s : Shared} {H : Hp} {E : XK} (G : Gm P K mg A) (hr : Room 3 (Ar.deeper (envOfC "Record.can_end" (defScope s_Record_can_end) s.heap.objs.size f cdv))) (qt : Quiet 3 (Ar.deeper (envOfC "Record.can_end" (defScope s_Record_can_end) s.heap.objs.size f cdv))) :
    PSs (cxOf (L2.CX P w) P w K mg base N_Record_can_end "Record.can_end" (defScope s_Record_can_end) f cdv Ar outer s H E) (defBody s_Record_can_end) (t_Record_can_end P w K mg base A fun _ => E) := by
  have sc := sc_Record_can_end
  have tk : Takes (cxOf (L2.CX P w) P w K mg base N_Record_can_end "Record.can_end" (defScope s_Record_can_end) f cdv Ar outer s H E) (fun cls d _ H => E cls d H) := takes_of rfl rfl rfl rfl
  have at_ : At (cxOf (L2.CX P w) P w K mg base N_Record_can_end "Record.can_end" (defScope s_Record_can_end) f cdv Ar outer s H E) 3 (fun _ => E) := At.of hr qt tk
  have pn : PassesOwn (model P w) (cxOf (L2.CX P w) P w K mg base N_Record_can_end "Record.can_end" (defScope s_Record_can_end) f cdv Ar outer s H E).A (cxOf (L2.CX P w) P w K mg base N_Record_can_end "Record.can_end" (defScope s_Record_can_end) f cdv Ar outer s H E).env (cxOf (L2.CX P w) P w K mg base N_Record_can_end "Record.can_end" (defScope s_Record_can_end) f cdv Ar outer s H E).xe := passes_of rfl
  exact pss_one (ps_ret (pe_bl))
abbrev N_Inserted_after : List Str := ["self", "items"]
theorem sc_Inserted_after : FnScope N_Inserted_after ["self", "items"] (defScope s_Inserted_after) := ⟨rfl, rfl, rfl, by decide +kernel, rfl, by decide +kernel, by decide +kernel⟩
def t_Inserted_after (P : Program) (w : World) (K : PySem.W.Frag) (mg : Str → Option Value) (base : Heap) (A : Ads) (E : XS) : TS :=
  tRet (tMth P w K mg base "put_in" 3 E (tVar 0) (tCons (tVar 1) (tNil)))
theorem d_Inserted_after {P : Program} {w : World} {K : PySem.W.Frag} {mg : Str → Option Value} {base : Heap} {A : Ads} {f : Addr} {cdv : Value} {Ar : Around} {outer : List Env} {s : Shared} {H : Hp} {E : XK} (G : Gm P K mg A) (hr : Room 3 (Ar.deeper (envOfC "Inserted.after" (defScope s_Inserted_after) s.heap.objs.size f cdv))) (qt : Quiet 3 (Ar.deeper (envOfC "Inserted.after" (defScope s_Inserted_after) s.heap.objs.size f cdv))) :
    PSs (cxOf (L2.CX P w) P w K mg base N_Inserted_after "Inserted.after" (defScope s_Inserted_after) f cdv Ar outer s H E) (defBody s_Inserted_after) (t_Inserted_after P w K mg base A fun _ => E) := by
  have sc := sc_Inserted_after
  have tk : Takes (cxOf (L2.CX P w) P w K mg base N_Inserted_after "Inserted.after" (defScope s_Inserted_after) f cdv Ar outer s H E) (fun cls d _ H => E cls d H) := takes_of rfl rfl rfl rfl
  have at_ : At (cxOf (L2.CX P w) P w K mg base N_Inserted_after "Inserted.after" (defScope s_Inserted_after) f cdv Ar outer s H E) 3 (fun _ => E) := At.of hr qt tk
  have pn : PassesOwn (model P w) (cxOf (L2.CX P w) P w K mg base N_Inserted_after "Inserted.after" (defScope s_Inserted_after) f cdv Ar outer s H E).A (cxOf (L2.CX P w) P w K mg base N_Inserted_after "Inserted.after" (defScope s_Inserted_after) f cdv Ar outer s H E).env (cxOf (L2.CX P w) P w K mg base N_Inserted_after "Inserted.after" (defScope s_Inserted_after) f cdv Ar outer s H E).xe := passes_of rfl
  exact pss_one (ps_ret (pe_mth at_ (pv 0) (pa_cons (pv 1) (pa_nil))))
abbrev N_Removed_after : List Str := ["self", "items"]
theorem sc_Removed_after : FnScope N_Removed_after ["self", "items"] (defScope s_Removed_after) := ⟨rfl, rfl, rfl, by decide +kernel, rfl, by decide +kernel, by decide +kernel⟩
def t_Removed_after (P : Program) (w : World) (K : PySem.W.Frag) (mg : Str → Option Value) (base : Heap) (A : Ads) (E : XS) : TS :=
  tRet (tMth P w K mg base "others" 3 E (tVar 0) (tCons (tVar 1) (tNil)))
theorem d_Removed_after {P : Program} {w : World} {K : PySem.W.Frag} {mg : Str → Option Value} {base : Heap} {A : Ads} {f : Addr} {cdv : Value} {Ar : Around} {outer : List Env} {s : Shared} {H : Hp} {E : XK} (G : Gm P K mg A) (hr : Room 3 (Ar.deeper (envOfC "Removed.after" (defScope s_Removed_after) s.heap.objs.size f cdv))) (qt : Quiet 3 (Ar.deeper (envOfC "Removed.after" (defScope s_Removed_after) s.heap.objs.size f cdv))) :
    PSs (cxOf (L2.CX P w) P w K mg base N_Removed_after "Removed.after" (defScope s_Removed_after) f cdv Ar outer s H E) (defBody s_Removed_after) (t_Removed_after P w K mg base A fun _ => E) := by
  have sc := sc_Removed_after
  have tk : Takes (cxOf (L2.CX P w) P w K mg base N_Removed_after "Removed.after" (defScope s_Removed_after) f cdv Ar outer s H E) (fun cls d _ H => E cls d H) := takes_of rfl rfl rfl rfl
  have at_ : At (cxOf (L2.CX P w) P w K mg base N_Removed_after "Removed.after" (defScope s_Removed_after) f cdv Ar outer s H E) 3 (fun _ => E) := At.of hr qt tk
  have pn : PassesOwn (model P w) (cxOf (L2.CX P w) P w K mg base N_Removed_after "Removed.after" (defScope s_Removed_after) f cdv Ar outer s H E).A (cxOf (L2.CX P w) P w K mg base N_Removed_after "Removed.after" (defScope s_Removed_after) f cdv Ar outer s H E).env (cxOf (L2.CX P w) P w K mg base N_Removed_after "Removed.after" (defScope s_Removed_after) f cdv Ar outer s H E).xe := passes_of rfl
  exact pss_one (ps_ret (pe_mth at_ (pv 0) (pa_cons (pv 1) (pa_nil))))
abbrev N_Fronted_after : List Str := ["self", "items"]
theorem sc_Fronted_after : FnScope N_Fronted_after ["self", "items"] (defScope s_Fronted_after) := ⟨rfl, rfl, rfl, by decide +kernel, rfl, by decide +kernel, by decide +kernel⟩
def t_Fronted_after (P : Program) (w : World) (K : PySem.W.Frag) (mg : Str → Option Value) (base : Heap) (A : Ads) (E : XS) : TS :=
  tRet (tLst (tCons (tAtt P w K mg base "held_item" (tVar 0)) (StX.tStar K (tMth P w K mg base "others" 3 E (tVar 0) (tCons (tVar 1) (tNil))) (tNil))))
theorem d_Fronted_after {P : Program} {w : World} {K : PySem.W.Frag} {mg : Str → Option Value} {base : Heap} {A : Ads} {f : Addr} {cdv : Value} {Ar : Around} {outer : List Env} {s : Shared} {H : Hp} {E : XK} (G : Gm P K mg A) (hr : Room 3 (Ar.deeper (envOfC "Fronted.after" (defScope s_Fronted_after) s.heap.objs.size f cdv))) (qt : Quiet 3 (Ar.deeper (envOfC "Fronted.after" (defScope s_Fronted_after) s.heap.objs.size f cdv))) :
    PSs (cxOf (L2.CX P w) P w K mg base N_Fronted_after "Fronted.after" (defScope s_Fronted_after) f cdv Ar outer s H E) (defBody s_Fronted_after) (t_Fronted_after P w K mg base A fun _ => E) := by
  have sc := sc_Fronted_after
  have tk : Takes (cxOf (L2.CX P w) P w K mg base N_Fronted_after "Fronted.after" (defScope s_Fronted_after) f cdv Ar outer s H E) (fun cls d _ H => E cls d H) := takes_of rfl rfl rfl rfl
  have at_ : At (cxOf (L2.CX P w) P w K mg base N_Fronted_after "Fronted.after" (defScope s_Fronted_after) f cdv Ar outer s H E) 3 (fun _ => E) := At.of hr qt tk
  have pn : PassesOwn (model P w) (cxOf (L2.CX P w) P w K mg base N_Fronted_after "Fronted.after" (defScope s_Fronted_after) f cdv Ar outer s H E).A (cxOf (L2.CX P w) P w K mg base N_Fronted_after "Fronted.after" (defScope s_Fronted_after) f cdv Ar outer s H E).env (cxOf (L2.CX P w) P w K mg base N_Fronted_after "Fronted.after" (defScope s_Fronted_after) f cdv Ar outer s H E).xe := passes_of rfl
  exact pss_one (ps_ret (pe_lst (pa_cons (pe_att hr (pv 0)) (StX.pa_star (pe_mth at_ (pv 0) (pa_cons (pv 1) (pa_nil))) (pa_nil)))))
abbrev N_Record_after : List Str := ["self", "items"]
theorem sc_Record_after : FnScope N_Record_after ["self", "items"] (defScope s_Record_after) := ⟨rfl, rfl, rfl, by decide +kernel, rfl, by decide +kernel, by decide +kernel⟩
def t_Record_after (P : Program) (w : World) (K : PySem.W.Frag) (mg : Str → Option Value) (base : Heap) (A : Ads) (E : XS) : TS :=
  tRet (tCB (cList K) (tCons (tVar 1) (tNil)))
theorem d_Record_after {P : Program} {w : World} {K : PySem.W.Frag} {mg : Str → Option Value} {base : Heap} {A : Ads} {f : Addr} {cdv : Value} {Ar : Around} {outer : List Env} {s : Shared} {H : Hp} {E : XK} (G : Gm P K mg A) (hr : Room 3 (Ar.deeper (envOfC "Record.after" (defScope s_Record_after) s.heap.objs.size f cdv))) (qt : Quiet 3 (Ar.deeper (envOfC "Record.after" (defScope s_Record_after) s.heap.objs.size f cdv))) :
    PSs (cxOf (L2.CX P w) P w K mg base N_Record_after "Record.after" (defScope s_Record_after) f cdv Ar outer s H E) (defBody s_Record_after) (t_Record_after P w K mg base A fun _ => E) := by
  have sc := sc_Record_after
  have tk : Takes (cxOf (L2.CX P w) P w K mg base N_Record_after "Record.after" (defScope s_Record_after) f cdv Ar outer s H E) (fun cls d _ H => E cls d H) := takes_of rfl rfl rfl rfl
  have at_ : At (cxOf (L2.CX P w) P w K mg base N_Record_after "Record.after" (defScope s_Record_after) f cdv Ar outer s H E) 3 (fun _ => E) := At.of hr qt tk
  have pn : PassesOwn (model P w) (cxOf (L2.CX P w) P w K mg base N_Record_after "Record.after" (defScope s_Record_after) f cdv Ar outer s H E).A (cxOf (L2.CX P w) P w K mg base N_Record_after "Record.after" (defScope s_Record_after) f cdv Ar outer s H E).env (cxOf (L2.CX P w) P w K mg base N_Record_after "Record.after" (defScope s_Record_after) f cdv Ar outer s H E).xe := passes_of rfl
  exact pss_one (ps_ret (pe_callTy call_cList (by rfl) G.g_list (by decide +kernel) (pa_cons (pv 1) (pa_nil))))
abbrev N_Inserted_before : List Str := ["self", "items"]
theorem sc_Inserted_before : FnScope N_Inserted_before ["self", "items"] (defScope s_Inserted_before) := ⟨rfl, rfl, rfl, by decide +kernel, rfl, by decide +kernel, by decide +kernel⟩
def t_Inserted_before (P : Program) (w : World) (K : PySem.W.Frag) (mg : Str → Option Value) (base : Heap) (A : Ads) (E : XS) : TS :=
  tRet (tMth P w K mg base "others" 3 E (tVar 0) (tCons (tVar 1) (tNil)))
theorem d_Inserted_before {P : Program} {w : World} {K : PySem.W.Frag} {mg : Str → Option Value} {base : Heap} {A : Ads} {f : Addr} {cdv : Value} {Ar : Around} {outer : List Env} {s : Shared} {H : Hp} {E : XK} (G : Gm P K mg A) (hr : Room 3 (Ar.deeper (envOfC "Inserted.before" (defScope s_Inserted_before) s.heap.objs.size f cdv))) (qt : Quiet 3 (Ar.deeper (envOfC "Inserted.before" (defScope s_Inserted_before) s.heap.objs.size f cdv))) :
    PSs (cxOf (L2.CX P w) P w K mg base N_Inserted_before "Inserted.before" (defScope s_Inserted_before) f cdv Ar outer s H E) (defBody s_Inserted_before) (t_Inserted_before P w K mg base A fun _ => E) := by
  have sc := sc_Inserted_before
  have tk : Takes (cxOf (L2.CX P w) P w K mg base N_Inserted_before "Inserted.before" (defScope s_Inserted_before) f cdv Ar outer s H E) (fun cls d _ H => E cls d H) := takes_of rfl rfl rfl rfl
  have at_ : At (cxOf (L2.CX P w) P w K mg base N_Inserted_before "Inserted.before" (defScope s_Inserted_before) f cdv Ar outer s H E) 3 (fun _ => E) := At.of hr qt tk
  have pn : PassesOwn (model P w) (cxOf (L2.CX P w) P w K mg base N_Inserted_before "Inserted.before" (defScope s_Inserted_before) f cdv Ar outer s H E).A (cxOf (L2.CX P w) P w K mg base N_Inserted_before "Inserted.before" (defScope s_Inserted_before) f cdv Ar outer s H E).env (cxOf (L2.CX P w) P w K mg base N_Inserted_before "Inserted.before" (defScope s_Inserted_before) f cdv Ar outer s H E).xe := passes_of rfl
  exact pss_one (ps_ret (pe_mth at_ (pv 0) (pa_cons (pv 1) (pa_nil))))
abbrev N_Removed_before : List Str := ["self", "items"]
theorem sc_Removed_before : FnScope N_Removed_before ["self", "items"] (defScope s_Removed_before) := ⟨rfl, rfl, rfl, by decide +kernel, rfl, by decide +kernel, by decide +kernel⟩
def t_Removed_before (P : Program) (w : World) (K : PySem.W.Frag) (mg : Str → Option Value) (base : Heap) (A : Ads) (E : XS) : TS :=
  tRet (tMth P w K mg base "put_in" 3 E (tVar 0) (tCons (tVar 1) (tNil)))
theorem d_Removed_before {P : Program} {w : World} {K : PySem.W.Frag} {mg : Str → Option Value} {base : Heap} {A : Ads} {f : Addr} {cdv : Value} {Ar : Around} {outer : List Env} {s : Shared} {H : Hp} {E : XK} (G : Gm P K mg A) (hr : Room 3 (Ar.deeper (envOfC "Removed.before" (defScope s_Removed_before) s.heap.objs.size f cdv))) (qt : Quiet 3 (Ar.deeper (envOfC "Removed.before" (defScope s_Removed_before) s.heap.objs.size f cdv))) :
    PSs (cxOf (L2.CX P w) P w K mg base N_Removed_before "Removed.before" (defScope s_Removed_before) f cdv Ar outer s H E) (defBody s_Removed_before) (t_Removed_before P w K mg base A fun _ => E) := by
  have sc := sc_Removed_before
  have tk : Takes (cxOf (L2.CX P w) P w K mg base N_Removed_before "Removed.before" (defScope s_Removed_before) f cdv Ar outer s H E) (fun cls d _ H => E cls d H) := takes_of rfl rfl rfl rfl
  have at_ : At (cxOf (L2.CX P w) P w K mg base N_Removed_before "Removed.before" (defScope s_Removed_before) f cdv Ar outer s H E) 3 (fun _ => E) := At.of hr qt tk
  have pn : PassesOwn (model P w) (cxOf (L2.CX P w) P w K mg base N_Removed_before "Removed.before" (defScope s_Removed_before) f cdv Ar outer s H E).A (cxOf (L2.CX P w) P w K mg base N_Removed_before "Removed.before" (defScope s_Removed_before) f cdv Ar outer s H E).env (cxOf (L2.CX P w) P w K mg base N_Removed_before "Removed.before" (defScope s_Removed_before) f cdv Ar outer s H E).xe := passes_of rfl
  exact pss_one (ps_ret (pe_mth at_ (pv 0) (pa_cons (pv 1) (pa_nil))))
abbrev N_Fronted_before : List Str := ["self", "items"]
theorem sc_Fronted_before : FnScope N_Fronted_before ["self", "items"] (defScope s_Fronted_before) := ⟨rfl, rfl, rfl, by decide +kernel, rfl, by decide +kernel, by decide +kernel⟩
def t_Fronted_before (P : Program) (w : World) (K : PySem.W.Frag) (mg : Str → Option Value) (base : Heap) (A : Ads) (E : XS) : TS :=
  tRet (tMth P w K mg base "put_in" 4 E (tVar 0) (tCons (tMth P w K mg base "others" 4 E (tVar 0) (tCons (tVar 1) (tNil))) (tNil)))
theorem d_Fronted_before {P : Program} {w : World} {K : PySem.W.Frag} {mg : Str → Option Value} {base : Heap} {A : Ads} {f : Addr} {cdv : Value} {Ar : Around} {outer : List Env} {s : Shared} {H : Hp} {E : XK} (G : Gm P K mg A) (hr : Room 4 (Ar.deeper (envOfC "Fronted.before" (defScope s_Fronted_before) s.heap.objs.size f cdv))) (qt : Quiet 4 (Ar.deeper (envOfC "Fronted.before" (defScope s_Fronted_before) s.heap.objs.size f cdv))) :
    PSs (cxOf (L2.CX P w) P w K mg base N_Fronted_before "Fronted.before" (defScope s_Fronted_before) f cdv Ar outer s H E) (defBody s_Fronted_before) (t_Fronted_before P w K mg base A fun _ => E) := by
  have sc := sc_Fronted_before
  have tk : Takes (cxOf (L2.CX P w) P w K mg base N_Fronted_before "Fronted.before" (defScope s_Fronted_before) f cdv Ar outer s H E) (fun cls d _ H => E cls d H) := takes_of rfl rfl rfl rfl
  have at_ : At (cxOf (L2.CX P w) P w K mg base N_Fronted_before "Fronted.before" (defScope s_Fronted_before) f cdv Ar outer s H E) 4 (fun _ => E) := At.of hr qt tk
  have pn : PassesOwn (model P w) (cxOf (L2.CX P w) P w K mg base N_Fronted_before "Fronted.before" (defScope s_Fronted_before) f cdv Ar outer s H E).A (cxOf (L2.CX P w) P w K mg base N_Fronted_before "Fronted.before" (defScope s_Fronted_before) f cdv Ar outer s H E).env (cxOf (L2.CX P w) P w K mg base N_Fronted_before "Fronted.before" (defScope s_Fronted_before) f cdv Ar outer s H E).xe := passes_of rfl
  exact pss_one (ps_ret (pe_mth at_ (pv 0) (pa_cons (pe_mth at_ (pv 0) (pa_cons (pv 1) (pa_nil))) (pa_nil))))
abbrev N_Record_before : List Str := ["self", "items"]
theorem sc_Record_before : FnScope N_Record_before ["self", "items"] (defScope s_Record_before) := ⟨rfl, rfl, rfl, by decide +kernel, rfl, by decide +kernel, by decide +kernel⟩
def t_Record_before (P : Program) (w : World) (K : PySem.W.Frag) (mg : Str → Option Value) (base : Heap) (A : Ads) (E : XS) : TS :=
  tRet (tCB (cList K) (tCons (tVar 1) (tNil)))
theorem d_Record_before {P : Program} {w : World} {K : PySem.W.Frag} {mg : Str → Option Value} {base : Heap} {A : Ads} {f : Addr} {cdv : Value} {Ar : Around} {outer : List Env} {s : Shared} {H : Hp} {E : XK} (G : Gm P K mg A) (hr : Room 3 (Ar.deeper (envOfC "Record.before" (defScope s_Record_before) s.heap.objs.size f cdv))) (qt : Quiet 3 (Ar.deeper (envOfC "Record.before" (defScope s_Record_before) s.heap.objs.size f cdv))) :
    PSs (cxOf (L2.CX P w) P w K mg base N_Record_before "Record.before" (defScope s_Record_before) f cdv Ar outer s H E) (defBody s_Record_before) (t_Record_before P w K mg base A fun _ => E) := by
  have sc := sc_Record_before
  have tk : Takes (cxOf (L2.CX P w) P w K mg base N_Record_before "Record.before" (defScope s_Record_before) f cdv Ar outer s H E) (fun cls d _ H => E cls d H) := takes_of rfl rfl rfl rfl
  have at_ : At (cxOf (L2.CX P w) P w K mg base N_Record_before "Record.before" (defScope s_Record_before) f cdv Ar outer s H E) 3 (fun _ => E) := At.of hr qt tk
  have pn : PassesOwn (model P w) (cxOf (L2.CX P w) P w K mg base N_Record_before "Record.before" (defScope s_Record_before) f cdv Ar outer s H E).A (cxOf (L2.CX P w) P w K mg base N_Record_before "Record.before" (defScope s_Record_before) f cdv Ar outer s H E).env (cxOf (L2.CX P w) P w K mg base N_Record_before "Record.before" (defScope s_Record_before) f cdv Ar outer s H E).xe := passes_of rfl
  exact pss_one (ps_ret (pe_callTy call_cList (by rfl) G.g_list (by decide +kernel) (pa_cons (pv 1) (pa_nil))))
abbrev N_Record_applies : List Str := ["self", "items"]
theorem sc_Record_applies : FnScope N_Record_applies ["self", "items"] (defScope s_Record_applies) := ⟨rfl, rfl, rfl, by decide +kernel, rfl, by decide +kernel, by decide +kernel⟩
def t_Record_applies (P : Program) (w : World) (K : PySem.W.Frag) (mg : Str → Option Value) (base : Heap) (A : Ads) (E : XS) : TS :=
  tSeq (tDrop (tFn P w K mg base "need_items" 5 E (tCons (tVar 1) (tNil)))) (tRet (tMth P w K mg base "can_apply" 5 E (tVar 0) (tCons (tVar 1) (tNil))))
theorem d_Record_applies {P : Program} {w : World} {K : PySem.W.Frag} {mg : Str → Option Value} {base : Heap} {A : Ads} {f : Addr} {cdv : Value} {Ar : Around} {outer : List Env} {s : Shared} {H : Hp} {E : XK} (G : Gm P K mg A) (hr : Room 5 (Ar.deeper (envOfC "Record.applies" (defScope s_Record_applies) s.heap.objs.size f cdv))) (qt : Quiet 5 (Ar.deeper (envOfC "Record.applies" (defScope s_Record_applies) s.heap.objs.size f cdv))) :
    PSs (cxOf (L2.CX P w) P w K mg base N_Record_applies "Record.applies" (defScope s_Record_applies) f cdv Ar outer s H E) (defBody s_Record_applies) (t_Record_applies P w K mg base A fun _ => E) := by
  have sc := sc_Record_applies
  have tk : Takes (cxOf (L2.CX P w) P w K mg base N_Record_applies "Record.applies" (defScope s_Record_applies) f cdv Ar outer s H E) (fun cls d _ H => E cls d H) := takes_of rfl rfl rfl rfl
  have at_ : At (cxOf (L2.CX P w) P w K mg base N_Record_applies "Record.applies" (defScope s_Record_applies) f cdv Ar outer s H E) 5 (fun _ => E) := At.of hr qt tk
  have pn : PassesOwn (model P w) (cxOf (L2.CX P w) P w K mg base N_Record_applies "Record.applies" (defScope s_Record_applies) f cdv Ar outer s H E).A (cxOf (L2.CX P w) P w K mg base N_Record_applies "Record.applies" (defScope s_Record_applies) f cdv Ar outer s H E).env (cxOf (L2.CX P w) P w K mg base N_Record_applies "Record.applies" (defScope s_Record_applies) f cdv Ar outer s H E).xe := passes_of rfl
  exact pss_cons (ps_expr (pe_fn at_ (by rfl) (pa_cons (pv 1) (pa_nil)))) (pss_one (ps_ret (pe_mth at_ (pv 0) (pa_cons (pv 1) (pa_nil)))))
abbrev N_Record_applied : List Str := ["self", "items"]
theorem sc_Record_applied : FnScope N_Record_applied ["self", "items"] (defScope s_Record_applied) := ⟨rfl, rfl, rfl, by decide +kernel, rfl, by decide +kernel, by decide +kernel⟩
def t_Record_applied (P : Program) (w : World) (K : PySem.W.Frag) (mg : Str → Option Value) (base : Heap) (A : Ads) (E : XS) : TS :=
  tSeq (tIfS (tNot (tB (tMth P w K mg base "applies" 6 E (tVar 0) (tCons (tVar 1) (tNil))))) (tRaiseF A.cImpossible "reason" E (tAtt P w K mg base "held_item" (tVar 0))) (tNext)) (tRet (tMth P w K mg base "after" 6 E (tVar 0) (tCons (tVar 1) (tNil))))
theorem d_Record_applied {P : Program} {w : World} {K : PySem.W.Frag} {mg : Str → Option Value} {base : Heap} {A : Ads} {f : Addr} {cdv : Value} {Ar : Around} {outer : List Env} {s : Shared} {H : Hp} {E : XK} (G : Gm P K mg A) (hr : Room 6 (Ar.deeper (envOfC "Record.applied" (defScope s_Record_applied) s.heap.objs.size f cdv))) (qt : Quiet 6 (Ar.deeper (envOfC "Record.applied" (defScope s_Record_applied) s.heap.objs.size f cdv))) :
    PSs (cxOf (L2.CX P w) P w K mg base N_Record_applied "Record.applied" (defScope s_Record_applied) f cdv Ar outer s H E) (defBody s_Record_applied) (t_Record_applied P w K mg base A fun _ => E) := by
  have sc := sc_Record_applied
  have tk : Takes (cxOf (L2.CX P w) P w K mg base N_Record_applied "Record.applied" (defScope s_Record_applied) f cdv Ar outer s H E) (fun cls d _ H => E cls d H) := takes_of rfl rfl rfl rfl
  have at_ : At (cxOf (L2.CX P w) P w K mg base N_Record_applied "Record.applied" (defScope s_Record_applied) f cdv Ar outer s H E) 6 (fun _ => E) := At.of hr qt tk
  have pn : PassesOwn (model P w) (cxOf (L2.CX P w) P w K mg base N_Record_applied "Record.applied" (defScope s_Record_applied) f cdv Ar outer s H E).A (cxOf (L2.CX P w) P w K mg base N_Record_applied "Record.applied" (defScope s_Record_applied) f cdv Ar outer s H E).env (cxOf (L2.CX P w) P w K mg base N_Record_applied "Record.applied" (defScope s_Record_applied) f cdv Ar outer s H E).xe := passes_of rfl
  exact pss_cons (ps_if (pt_not (pt_val (pe_mth at_ (pv 0) (pa_cons (pv 1) (pa_nil))))) (pss_one (ps_raiseF rfl tk hr G.x_Impossible (by rfl) (pe_att hr (pv 0)))) (pss_nil)) (pss_one (ps_ret (pe_mth at_ (pv 0) (pa_cons (pv 1) (pa_nil)))))
abbrev N_Record_taken_back : List Str := ["self", "items"]
theorem sc_Record_taken_back : FnScope N_Record_taken_back ["self", "items"] (defScope s_Record_taken_back) := ⟨rfl, rfl, rfl, by decide +kernel, rfl, by decide +kernel, by decide +kernel⟩
def t_Record_taken_back (P : Program) (w : World) (K : PySem.W.Frag) (mg : Str → Option Value) (base : Heap) (A : Ads) (E : XS) : TS :=
  tSeq (tDrop (tFn P w K mg base "need_items" 6 E (tCons (tVar 1) (tNil)))) (tSeq (tIfS (tNot (tB (tMth P w K mg base "can_end" 6 E (tVar 0) (tCons (tVar 1) (tNil))))) (tRaiseF A.cImpossible "reason" E (tAtt P w K mg base "held_item" (tVar 0))) (tNext)) (tRet (tMth P w K mg base "before" 6 E (tVar 0) (tCons (tVar 1) (tNil)))))
theorem d_Record_taken_back {P : Program} {w : World} {K : PySem.W.Frag} {mg : Str → Option Value} {base : Heap} {A : Ads} {f : Addr} {cdv : Value} {Ar : Around} {outer : List Env} {s : Shared} {H : Hp} {E : XK} (G : Gm P K mg A) (hr : Room 6 (Ar.deeper (envOfC "Record.taken_back" (defScope s_Record_taken_back) s.heap.objs.size f cdv))) (qt : Quiet 6 (Ar.deeper (envOfC "Record.taken_back" (defScope s_Record_taken_back) s.heap.objs.size f cdv))) :
    PSs (cxOf (L2.CX P w) P w K mg base N_Record_taken_back "Record.taken_back" (defScope s_Record_taken_back) f cdv Ar outer s H E) (defBody s_Record_taken_back) (t_Record_taken_back P w K mg base A fun _ => E) := by
  have sc := sc_Record_taken_back
  have tk : Takes (cxOf (L2.CX P w) P w K mg base N_Record_taken_back "Record.taken_back" (defScope s_Record_taken_back) f cdv Ar outer s H E) (fun cls d _ H => E cls d H) := takes_of rfl rfl rfl rfl
  have at_ : At (cxOf (L2.CX P w) P w K mg base N_Record_taken_back "Record.taken_back" (defScope s_Record_taken_back) f cdv Ar outer s H E) 6 (fun _ => E) := At.of hr qt tk
  have pn : PassesOwn (model P w) (cxOf (L2.CX P w) P w K mg base N_Record_taken_back "Record.taken_back" (defScope s_Record_taken_back) f cdv Ar outer s H E).A (cxOf (L2.CX P w) P w K mg base N_Record_taken_back "Record.taken_back" (defScope s_Record_taken_back) f cdv Ar outer s H E).env (cxOf (L2.CX P w) P w K mg base N_Record_taken_back "Record.taken_back" (defScope s_Record_taken_back) f cdv Ar outer s H E).xe := passes_of rfl
  exact pss_cons (ps_expr (pe_fn at_ (by rfl) (pa_cons (pv 1) (pa_nil)))) (pss_cons (ps_if (pt_not (pt_val (pe_mth at_ (pv 0) (pa_cons (pv 1) (pa_nil))))) (pss_one (ps_raiseF rfl tk hr G.x_Impossible (by rfl) (pe_att hr (pv 0)))) (pss_nil)) (pss_one (ps_ret (pe_mth at_ (pv 0) (pa_cons (pv 1) (pa_nil))))))
abbrev N_law_source : List Str := ["_law_script", "_law_k", "_law_cell"]
theorem sc_law_source : FnScope N_law_source ["_law_script", "_law_k"] (defScope s_law_source) := ⟨rfl, rfl, rfl, by decide +kernel, rfl, by decide +kernel, by decide +kernel⟩
def t_law_source (P : Program) (w : World) (K : PySem.W.Frag) (mg : Str → Option Value) (base : Heap) (A : Ads) (E : XS) : TS :=
  tSeq (tAsg (tIf (tTest (tOp uLt (tVar 1) (tCB (cLen K) (tCons (tVar 0) (tNil))))) (tCB (cAbs) (tCons (tOp (uIx K) (tVar 0) (tVar 1)) (tNil))) (tC (.int 0))) (gName 2)) (tRet (tLst (tCons (tCB (cMax K) (tCons (tC (.int 0)) (tCons (tOp uSub (tVar 2) (tOp uPow (tC (.int 10)) (tC (.int 18)))) (tNil)))) (tCons (tOp uAdd (tOp uMul (tOp uMod (tVar 2) (tOp uAdd (tOp uPow (tC (.int 10)) (tC (.int 39))) (tC (.int 153)))) (tC (.int 64))) (tVar 1)) (tCons (tC (.int 0)) (tNil))))))
theorem d_law_source {P : Program} {w : World} {K : PySem.W.Frag} {mg : Str → Option Value} {base : Heap} {A : Ads} {f : Addr} {cdv : Value} {Ar : Around} {outer : List Env} {s : Shared} {H : Hp} {E : XK} (G : Gm P K mg A) (hr : Room 22 (Ar.deeper (envOfC "_law_source" (defScope s_law_source) s.heap.objs.size f cdv))) (qt : Quiet 22 (Ar.deeper (envOfC "_law_source" (defScope s_law_source) s.heap.objs.size f cdv))) :
    PSs (cxOf (L2.CX P w) P w K mg base N_law_source "_law_source" (defScope s_law_source) f cdv Ar outer s H E) (defBody s_law_source) (t_law_source P w K mg base A fun _ => E) := by
  have sc := sc_law_source
  have tk : Takes (cxOf (L2.CX P w) P w K mg base N_law_source "_law_source" (defScope s_law_source) f cdv Ar outer s H E) (fun cls d _ H => E cls d H) := takes_of rfl rfl rfl rfl
  have at_ : At (cxOf (L2.CX P w) P w K mg base N_law_source "_law_source" (defScope s_law_source) f cdv Ar outer s H E) 22 (fun _ => E) := At.of hr qt tk
  have pn : PassesOwn (model P w) (cxOf (L2.CX P w) P w K mg base N_law_source "_law_source" (defScope s_law_source) f cdv Ar outer s H E).A (cxOf (L2.CX P w) P w K mg base N_law_source "_law_source" (defScope s_law_source) f cdv Ar outer s H E).env (cxOf (L2.CX P w) P w K mg base N_law_source "_law_source" (defScope s_law_source) f cdv Ar outer s H E).xe := passes_of rfl
  exact pss_cons (ps_set (i := 2) sc.nd rfl (by first | exact Or.inl rfl | exact Or.inr rfl) (pe_ifExp (pt_cmpR op_uLt (pv 1) (pe_callB call_cLen (by rfl) G.g_len (by decide +kernel) (pa_cons (pv 0) (pa_nil))) (nomark _)) (pe_callB call_cAbs (by rfl) G.g_abs (by decide +kernel) (pa_cons (pe_ix ix_u (pv 0) (pv 1) (fun _ _ => rfl)) (pa_nil))) (pe_int))) (pss_one (ps_ret (pe_lst (pa_cons (pe_callB (call_cMax rfl) (by rfl) G.g_max (by decide +kernel) (pa_cons (pe_int) (pa_cons (pe_op op_uSub (pv 2) (pe_op op_uPow (pe_int) (pe_int))) (pa_nil)))) (pa_cons (pe_op op_uAdd (pe_op op_uMul (pe_op op_uMod (pv 2) (pe_op op_uAdd (pe_op op_uPow (pe_int) (pe_int)) (pe_int))) (pe_int)) (pv 1)) (pa_cons (pe_int) (pa_nil)))))))
abbrev N_law_pick : List Str := ["_law_source_here", "_law_size", "_law_digit", "_law_mixed"]
theorem sc_law_pick : FnScope N_law_pick ["_law_source_here", "_law_size"] (defScope s_law_pick) := ⟨rfl, rfl, rfl, by decide +kernel, rfl, by decide +kernel, by decide +kernel⟩
def t_law_pick (P : Program) (w : World) (K : PySem.W.Frag) (mg : Str → Option Value) (base : Heap) (A : Ads) (E : XS) : TS :=
  tSeq (tIfS (tTest (tOp uGt (tOp (uIx K) (tVar 0) (tC (.int 0))) (tC (.int 0)))) (tSeq (tAsg (tOp uMod (tOp (uIx K) (tVar 0) (tC (.int 0))) (tVar 1)) (gName 2)) (tSeq (tAsg (tOp uDiv (tOp (uIx K) (tVar 0) (tC (.int 0))) (tVar 1)) (gSub (tVar 0) (tC (.int 0)) rSetL)) (tRet (tVar 2)))) (tNext)) (tSeq (tAsg (tOp uAdd (tOp (uIx K) (tVar 0) (tC (.int 2))) (tC (.int 1))) (gSub (tVar 0) (tC (.int 2)) rSetL)) (tSeq (tAsg (tOp uMod (tOp uPow (tOp uAdd (tOp (uIx K) (tVar 0) (tC (.int 1))) (tOp uMul (tC (.int 86028121)) (tOp (uIx K) (tVar 0) (tC (.int 2))))) (tC (.int 3))) (tOp uAdd (tOp uPow (tC (.int 10)) (tC (.int 41))) (tC (.int 109)))) (gName 3)) (tSeq (tAsg (tOp uMod (tOp uPow (tOp uAdd (tVar 3) (tOp uMul (tC (.int 122949823)) (tOp (uIx K) (tVar 0) (tC (.int 2))))) (tC (.int 5))) (tOp uAdd (tOp uPow (tC (.int 10)) (tC (.int 38))) (tC (.int 133)))) (gName 3)) (tRet (tOp uMod (tOp uDiv (tVar 3) (tC (.int 786433))) (tVar 1))))))
theorem d_law_pick {P : Program} {w : World} {K : PySem.W.Frag} {mg : Str → Option Value} {base : Heap} {A : Ads} {f : Addr} {cdv : Value} {Ar : Around} {outer : List Env} {s : Shared} {H : Hp} {E : XK} (G : Gm P K mg A) (hr : Room 22 (Ar.deeper (envOfC "_law_pick" (defScope s_law_pick) s.heap.objs.size f cdv))) (qt : Quiet 22 (Ar.deeper (envOfC "_law_pick" (defScope s_law_pick) s.heap.objs.size f cdv))) :
    PSs (cxOf (L2.CX P w) P w K mg base N_law_pick "_law_pick" (defScope s_law_pick) f cdv Ar outer s H E) (defBody s_law_pick) (t_law_pick P w K mg base A fun _ => E) := by
  have sc := sc_law_pick
  have tk : Takes (cxOf (L2.CX P w) P w K mg base N_law_pick "_law_pick" (defScope s_law_pick) f cdv Ar outer s H E) (fun cls d _ H => E cls d H) := takes_of rfl rfl rfl rfl
  have at_ : At (cxOf (L2.CX P w) P w K mg base N_law_pick "_law_pick" (defScope s_law_pick) f cdv Ar outer s H E) 22 (fun _ => E) := At.of hr qt tk
  have pn : PassesOwn (model P w) (cxOf (L2.CX P w) P w K mg base N_law_pick "_law_pick" (defScope s_law_pick) f cdv Ar outer s H E).A (cxOf (L2.CX P w) P w K mg base N_law_pick "_law_pick" (defScope s_law_pick) f cdv Ar outer s H E).env (cxOf (L2.CX P w) P w K mg base N_law_pick "_law_pick" (defScope s_law_pick) f cdv Ar outer s H E).xe := passes_of rfl
  exact pss_cons (ps_if (pt_cmpR op_uGt (pe_ix ix_u (pv 0) (pe_int) (fun _ _ => rfl)) (pe_int) (nomark _)) (pss_cons (ps_set (i := 2) sc.nd rfl (by first | exact Or.inl rfl | exact Or.inr rfl) (pe_op op_uMod (pe_ix ix_u (pv 0) (pe_int) (fun _ _ => rfl)) (pv 1))) (pss_cons (ps_asg (pe_op op_uDiv (pe_ix ix_u (pv 0) (pe_int) (fun _ _ => rfl)) (pv 1)) (pg_sub (pv 0) (pe_int) set_list)) (pss_one (ps_ret (pv 2))))) (pss_nil)) (pss_cons (ps_asg (pe_op op_uAdd (pe_ix ix_u (pv 0) (pe_int) (fun _ _ => rfl)) (pe_int)) (pg_sub (pv 0) (pe_int) set_list)) (pss_cons (ps_set (i := 3) sc.nd rfl (by first | exact Or.inl rfl | exact Or.inr rfl) (pe_op op_uMod (pe_op op_uPow (pe_op op_uAdd (pe_ix ix_u (pv 0) (pe_int) (fun _ _ => rfl)) (pe_op op_uMul (pe_int) (pe_ix ix_u (pv 0) (pe_int) (fun _ _ => rfl)))) (pe_int)) (pe_op op_uAdd (pe_op op_uPow (pe_int) (pe_int)) (pe_int)))) (pss_cons (ps_set (i := 3) sc.nd rfl (by first | exact Or.inl rfl | exact Or.inr rfl) (pe_op op_uMod (pe_op op_uPow (pe_op op_uAdd (pv 3) (pe_op op_uMul (pe_int) (pe_ix ix_u (pv 0) (pe_int) (fun _ _ => rfl)))) (pe_int)) (pe_op op_uAdd (pe_op op_uPow (pe_int) (pe_int)) (pe_int)))) (pss_one (ps_ret (pe_op op_uMod (pe_op op_uDiv (pv 3) (pe_int)) (pv 1)))))))
abbrev N_law_shuffled : List Str := ["_law_source_here", "_law_row", "_law_left", "_law_j"]
theorem sc_law_shuffled : FnScope N_law_shuffled ["_law_source_here", "_law_row"] (defScope s_law_shuffled) := ⟨rfl, rfl, rfl, by decide +kernel, rfl, by decide +kernel, by decide +kernel⟩
def t_law_shuffled (P : Program) (w : World) (K : PySem.W.Frag) (mg : Str → Option Value) (base : Heap) (A : Ads) (E : XS) : TS :=
  tSeq (tAsg (tCB (cList K) (tCons (tVar 1) (tNil))) (gName 2)) (tRet (tLc (iRng1 (tCons (tCB (cLen K) (tCons (tVar 1) (tNil))) (tNil))) (gName 3) (tYes) (tBM K "list" rPopAt (tVar 2) (tCons (tFn P w K mg base "_law_pick" 23 E0s (tCons (tVar 0) (tCons (tCB (cLen K) (tCons (tVar 2) (tNil))) (tNil)))) (tNil))) [3]))
theorem d_law_shuffled {P : Program} {w : World} {K : PySem.W.Frag} {mg : Str → Option Value} {base : Heap} {A : Ads} {f : Addr} {cdv : Value} {Ar : Around} {outer : List Env} {s : Shared} {H : Hp} {E : XK} (G : Gm P K mg A) (hr : Room 23 (Ar.deeper (envOfC "_law_shuffled" (defScope s_law_shuffled) s.heap.objs.size f cdv))) (qt : Quiet 23 (Ar.deeper (envOfC "_law_shuffled" (defScope s_law_shuffled) s.heap.objs.size f cdv))) :
    PSs (cxOf (L2.CX P w) P w K mg base N_law_shuffled "_law_shuffled" (defScope s_law_shuffled) f cdv Ar outer s H E) (defBody s_law_shuffled) (t_law_shuffled P w K mg base A fun _ => E) := by
  have sc := sc_law_shuffled
  have tk : Takes (cxOf (L2.CX P w) P w K mg base N_law_shuffled "_law_shuffled" (defScope s_law_shuffled) f cdv Ar outer s H E) (fun cls d _ H => E cls d H) := takes_of rfl rfl rfl rfl
  have at_ : At (cxOf (L2.CX P w) P w K mg base N_law_shuffled "_law_shuffled" (defScope s_law_shuffled) f cdv Ar outer s H E) 23 (fun _ => E) := At.of hr qt tk
  have pn : PassesOwn (model P w) (cxOf (L2.CX P w) P w K mg base N_law_shuffled "_law_shuffled" (defScope s_law_shuffled) f cdv Ar outer s H E).A (cxOf (L2.CX P w) P w K mg base N_law_shuffled "_law_shuffled" (defScope s_law_shuffled) f cdv Ar outer s H E).env (cxOf (L2.CX P w) P w K mg base N_law_shuffled "_law_shuffled" (defScope s_law_shuffled) f cdv Ar outer s H E).xe := passes_of rfl
  exact pss_cons (ps_set (i := 2) sc.nd rfl (by first | exact Or.inl rfl | exact Or.inr rfl) (pe_callTy call_cList (by rfl) G.g_list (by decide +kernel) (pa_cons (pv 1) (pa_nil)))) (pss_one (ps_ret (pe_lc (own := [("_law_j", 3)]) (g := gName 3) (tt := tYes) rfl sc.nd (pi_range1 (by rfl) G.g_range (pa_cons (pe_callB call_cLen (by rfl) G.g_len (by decide +kernel) (pa_cons (pv 1) (pa_nil))) (pa_nil))) (blkOk_by (N := N_law_shuffled) (sc := defScope s_law_shuffled) (by decide +kernel)) (fun _ _ _ _ _ => pg_name (i := 3) sc.nd rfl (by first | exact Or.inl rfl | exact Or.inr rfl)) (fun _ _ _ _ _ => pts_nil) (fun _ _ _ _ _ => pe_bm PySem.F.plainAttrs_list PySem.F.slot_list_pop PySem.F.type_list_pop mt_popAt (pv 2) (pa_cons (pe_fn (At.e0 hr qt) (by rfl) (pa_cons (pv 0) (pa_cons (pe_callB call_cLen (by rfl) G.g_len (by decide +kernel) (pa_cons (pv 2) (pa_nil))) (pa_nil)))) (pa_nil))))))
abbrev N_law_names : List Str := ["_law_source_here", "_law_many", "_law_letters", "_law_style", "_law_found", "_law_j", "_law_short", "_law_two"]
theorem sc_law_names : FnScope N_law_names ["_law_source_here", "_law_many"] (defScope s_law_names) := ⟨rfl, rfl, rfl, by decide +kernel, rfl, by decide +kernel, by decide +kernel⟩
def t_law_names (P : Program) (w : World) (K : PySem.W.Frag) (mg : Str → Option Value) (base : Heap) (A : Ads) (E : XS) : TS :=
  tSeq (tAsg (tC (.str "abcdefghijklmnopqrstuvwxyz")) (gName 2)) (tSeq (tAsg (tFn P w K mg base "_law_pick" 24 E (tCons (tVar 0) (tCons (tC (.int 3)) (tNil)))) (gName 3)) (tSeq (tAsg (tLst (tNil)) (gName 4)) (tSeq (tFor (iRng1 (tCons (tVar 1) (tNil))) (gName 5) (tSeq (tAsg (tIf (tTest (tOp uLt (tVar 5) (tC (.int 26)))) (tOp (uIx K) (tVar 2) (tVar 5)) (tOp uAdd (tOp (uIx K) (tVar 2) (tOp uSub (tOp uDiv (tVar 5) (tC (.int 26))) (tC (.int 1)))) (tOp (uIx K) (tVar 2) (tOp uMod (tVar 5) (tC (.int 26)))))) (gName 6)) (tSeq (tAsg (tOp uAdd (tOp (uIx K) (tVar 2) (tOp uDiv (tVar 5) (tC (.int 26)))) (tOp (uIx K) (tVar 2) (tOp uMod (tVar 5) (tC (.int 26))))) (gName 7)) (tDrop (tBM K "list" rAppend (tVar 4) (tCons (tOp (uIx K) (tLst (tCons (tVar 6) (tCons (tVar 7) (tCons (tOp uAdd (tC (.str "abcdef")) (tVar 7)) (tNil))))) (tVar 3)) (tNil))))))) (tRet (tFn P w K mg base "_law_shuffled" 24 E (tCons (tVar 0) (tCons (tVar 4) (tNil))))))))
theorem d_law_names {P : Program} {w : World} {K : PySem.W.Frag} {mg : Str → Option Value} {base : Heap} {A : Ads} {f : Addr} {cdv : Value} {Ar : Around} {outer : List Env} {s : Shared} {H : Hp} {E : XK} (G : Gm P K mg A) (hr : Room 24 (Ar.deeper (envOfC "_law_names" (defScope s_law_names) s.heap.objs.size f cdv))) (qt : Quiet 24 (Ar.deeper (envOfC "_law_names" (defScope s_law_names) s.heap.objs.size f cdv))) :
    PSs (cxOf (L2.CX P w) P w K mg base N_law_names "_law_names" (defScope s_law_names) f cdv Ar outer s H E) (defBody s_law_names) (t_law_names P w K mg base A fun _ => E) := by
  have sc := sc_law_names
  have tk : Takes (cxOf (L2.CX P w) P w K mg base N_law_names "_law_names" (defScope s_law_names) f cdv Ar outer s H E) (fun cls d _ H => E cls d H) := takes_of rfl rfl rfl rfl
  have at_ : At (cxOf (L2.CX P w) P w K mg base N_law_names "_law_names" (defScope s_law_names) f cdv Ar outer s H E) 24 (fun _ => E) := At.of hr qt tk
  have pn : PassesOwn (model P w) (cxOf (L2.CX P w) P w K mg base N_law_names "_law_names" (defScope s_law_names) f cdv Ar outer s H E).A (cxOf (L2.CX P w) P w K mg base N_law_names "_law_names" (defScope s_law_names) f cdv Ar outer s H E).env (cxOf (L2.CX P w) P w K mg base N_law_names "_law_names" (defScope s_law_names) f cdv Ar outer s H E).xe := passes_of rfl
  exact pss_cons (ps_set (i := 2) sc.nd rfl (by first | exact Or.inl rfl | exact Or.inr rfl) (pe_str)) (pss_cons (ps_set (i := 3) sc.nd rfl (by first | exact Or.inl rfl | exact Or.inr rfl) (pe_fn at_ (by rfl) (pa_cons (pv 0) (pa_cons (pe_int) (pa_nil))))) (pss_cons (ps_set (i := 4) sc.nd rfl (by first | exact Or.inl rfl | exact Or.inr rfl) (pe_lst (pa_nil))) (pss_cons (ps_for pn rfl (pi_range1 (by rfl) G.g_range (pa_cons (pv 1) (pa_nil))) (pg_name (i := 5) sc.nd rfl (by first | exact Or.inl rfl | exact Or.inr rfl)) (pss_cons (ps_set (i := 6) sc.nd rfl (by first | exact Or.inl rfl | exact Or.inr rfl) (pe_ifExp (pt_cmpR op_uLt (pv 5) (pe_int) (nomark _)) (pe_ix ix_u (pv 2) (pv 5) (fun _ _ => rfl)) (pe_op op_uAdd (pe_ix ix_u (pv 2) (pe_op op_uSub (pe_op op_uDiv (pv 5) (pe_int)) (pe_int)) (fun _ _ => rfl)) (pe_ix ix_u (pv 2) (pe_op op_uMod (pv 5) (pe_int)) (fun _ _ => rfl))))) (pss_cons (ps_set (i := 7) sc.nd rfl (by first | exact Or.inl rfl | exact Or.inr rfl) (pe_op op_uAdd (pe_ix ix_u (pv 2) (pe_op op_uDiv (pv 5) (pe_int)) (fun _ _ => rfl)) (pe_ix ix_u (pv 2) (pe_op op_uMod (pv 5) (pe_int)) (fun _ _ => rfl)))) (pss_one (ps_expr (pe_bm PySem.F.plainAttrs_list PySem.F.slot_list_append PySem.F.type_list_append mt_append (pv 4) (pa_cons (pe_ix ix_u (pe_lst (pa_cons (pv 6) (pa_cons (pv 7) (pa_cons (pe_op op_uAdd (pe_str) (pv 7)) (pa_nil))))) (pv 3) (fun _ _ => rfl)) (pa_nil)))))))) (pss_one (ps_ret (pe_fn at_ (by rfl) (pa_cons (pv 0) (pa_cons (pv 4) (pa_nil)))))))))
abbrev N_law_make : List Str := ["_law_way", "_law_name", "_law_place"]
theorem sc_law_make : FnScope N_law_make ["_law_way", "_law_name", "_law_place"] (defScope s_law_make) := ⟨rfl, rfl, rfl, by decide +kernel, rfl, by decide +kernel, by decide +kernel⟩
def t_law_make (P : Program) (w : World) (K : PySem.W.Frag) (mg : Str → Option Value) (base : Heap) (A : Ads) (E : XS) : TS :=
  tSeq (tIfS (tTest (tOp (uEq K) (tVar 0) (tC (.int 0)))) (tRet (tMkr P w K mg base "Inserted" 25 E (tCons (tVar 1) (tCons (tVar 2) (tNil))))) (tNext)) (tSeq (tIfS (tTest (tOp (uEq K) (tVar 0) (tC (.int 1)))) (tRet (tMkr P w K mg base "Removed" 25 E (tCons (tVar 1) (tCons (tVar 2) (tNil))))) (tNext)) (tRet (tIf (tTest (tOp (uEq K) (tVar 0) (tC (.int 2)))) (tMkr P w K mg base "Fronted" 25 E (tCons (tVar 1) (tCons (tVar 2) (tNil)))) (tMkr P w K mg base "Record" 25 E (tCons (tVar 1) (tCons (tVar 2) (tNil)))))))
theorem d_law_make {P : Program} {w : World} {K : PySem.W.Frag} {mg : Str → Option Value} {base : Heap} {A : Ads} {f : Addr} {cdv : Value} {Ar : Around} {outer : List Env} {s : Shared} {H : Hp} {E : XK} (G : Gm P K mg A) (hr : Room 25 (Ar.deeper (envOfC "_law_make" (defScope s_law_make) s.heap.objs.size f cdv))) (qt : Quiet 25 (Ar.deeper (envOfC "_law_make" (defScope s_law_make) s.heap.objs.size f cdv))) :
    PSs (cxOf (L2.CX P w) P w K mg base N_law_make "_law_make" (defScope s_law_make) f cdv Ar outer s H E) (defBody s_law_make) (t_law_make P w K mg base A fun _ => E) := by
  have sc := sc_law_make
  have tk : Takes (cxOf (L2.CX P w) P w K mg base N_law_make "_law_make" (defScope s_law_make) f cdv Ar outer s H E) (fun cls d _ H => E cls d H) := takes_of rfl rfl rfl rfl
  have at_ : At (cxOf (L2.CX P w) P w K mg base N_law_make "_law_make" (defScope s_law_make) f cdv Ar outer s H E) 25 (fun _ => E) := At.of hr qt tk
  have pn : PassesOwn (model P w) (cxOf (L2.CX P w) P w K mg base N_law_make "_law_make" (defScope s_law_make) f cdv Ar outer s H E).A (cxOf (L2.CX P w) P w K mg base N_law_make "_law_make" (defScope s_law_make) f cdv Ar outer s H E).env (cxOf (L2.CX P w) P w K mg base N_law_make "_law_make" (defScope s_law_make) f cdv Ar outer s H E).xe := passes_of rfl
  exact pss_cons (ps_if (pt_cmpR (op_uEq hr) (pv 0) (pe_int) (nomark _)) (pss_one (ps_ret (pe_mkr at_ (by rfl) (pa_cons (pv 1) (pa_cons (pv 2) (pa_nil)))))) (pss_nil)) (pss_cons (ps_if (pt_cmpR (op_uEq hr) (pv 0) (pe_int) (nomark _)) (pss_one (ps_ret (pe_mkr at_ (by rfl) (pa_cons (pv 1) (pa_cons (pv 2) (pa_nil)))))) (pss_nil)) (pss_one (ps_ret (pe_ifExp (pt_cmpR (op_uEq hr) (pv 0) (pe_int) (nomark _)) (pe_mkr at_ (by rfl) (pa_cons (pv 1) (pa_cons (pv 2) (pa_nil)))) (pe_mkr at_ (by rfl) (pa_cons (pv 1) (pa_cons (pv 2) (pa_nil))))))))
abbrev N_law_class : List Str := ["_law_caught", "_law_some", "_law_found", "_law_others", "_law_word", "_law_so"]
theorem sc_law_class : FnScope N_law_class ["_law_caught"] (defScope s_law_class) := ⟨rfl, rfl, rfl, by decide +kernel, rfl, by decide +kernel, by decide +kernel⟩
def t_law_class (P : Program) (w : World) (K : PySem.W.Frag) (mg : Str → Option Value) (base : Heap) (A : Ads) (E : XS) : TS :=
  tSeq (tAsg (tLst (tCons (tTup (tCons (tC (.str "item")) (tCons (tCB (cIsi K) (tCons (tVar 0) (tCons (tC (.ref A.cNoItem)) (tNil)))) (tNil)))) (tCons (tTup (tCons (tC (.str "index")) (tCons (tCB (cIsi K) (tCons (tVar 0) (tCons (tC (.ref A.cNoIndex)) (tNil)))) (tNil)))) (tNil)))) (gName 1)) (tSeq (tAsg (tOp uAdd (tVar 1) (tLst (tCons (tTup (tCons (tC (.str "list")) (tCons (tCB (cIsi K) (tCons (tVar 0) (tCons (tC (.ref A.cNoList)) (tNil)))) (tNil)))) (tCons (tTup (tCons (tC (.str "log")) (tCons (tCB (cIsi K) (tCons (tVar 0) (tCons (tC (.ref A.cNoLog)) (tNil)))) (tNil)))) (tNil))))) (gName 1)) (tSeq (tAsg (tOp uAdd (tVar 1) (tLst (tCons (tTup (tCons (tC (.str "impossible")) (tCons (tCB (cIsi K) (tCons (tVar 0) (tCons (tC (.ref A.cImpossible)) (tNil)))) (tNil)))) (tCons (tTup (tCons (tC (.str "text")) (tCons (tCB (cIsi K) (tCons (tVar 0) (tCons (tC (.ref A.cNoText)) (tNil)))) (tNil)))) (tNil))))) (gName 1)) (tSeq (tAsg (tLc (iList K (tVar 1)) (gTup K 2 (gCons (gName 4) (gCons (gName 5) (gNil)))) (tB (tVar 5)) (tVar 4) [4, 5]) (gName 2)) (tSeq (tAsg (tCB (cIsi K) (tCons (tVar 0) (tCons (tTup (tCons (tC (.ref A.cNoClients)) (tCons (tC (.ref A.cNoNumber)) (tCons (tC (.ref A.cNoPosition)) (tCons (tC (.ref A.cNoSeen)) (tCons (tC (.ref A.cNothing)) (tCons (tC (.ref A.cTooMany)) (tNil)))))))) (tNil)))) (gName 3)) (tRet (tIf (tAnd (tTest (tOp (uEq K) (tCB (cLen K) (tCons (tVar 2) (tNil))) (tC (.int 1)))) (tAnd (tNot (tB (tVar 3))) (tB (tCB (cIsi K) (tCons (tVar 0) (tCons (tC (.ty "ValueError")) (tNil))))))) (tOp (uIx K) (tVar 2) (tC (.int 0))) (tC (.str "other"))))))))
theorem d_law_class {P : Program} {w : World} {K : PySem.W.Frag} {mg : Str → Option Value} {base : Heap} {A : Ads} {f : Addr} {cdv : Value} {Ar : Around} {outer : List Env} {s : Shared} {H : Hp} {E : XK} (G : Gm P K mg A) (hr : Room 22 (Ar.deeper (envOfC "_law_class" (defScope s_law_class) s.heap.objs.size f cdv))) (qt : Quiet 22 (Ar.deeper (envOfC "_law_class" (defScope s_law_class) s.heap.objs.size f cdv))) :
    PSs (cxOf (L2.CX P w) P w K mg base N_law_class "_law_class" (defScope s_law_class) f cdv Ar outer s H E) (defBody s_law_class) (t_law_class P w K mg base A fun _ => E) := by
  have sc := sc_law_class
  have tk : Takes (cxOf (L2.CX P w) P w K mg base N_law_class "_law_class" (defScope s_law_class) f cdv Ar outer s H E) (fun cls d _ H => E cls d H) := takes_of rfl rfl rfl rfl
  have at_ : At (cxOf (L2.CX P w) P w K mg base N_law_class "_law_class" (defScope s_law_class) f cdv Ar outer s H E) 22 (fun _ => E) := At.of hr qt tk
  have pn : PassesOwn (model P w) (cxOf (L2.CX P w) P w K mg base N_law_class "_law_class" (defScope s_law_class) f cdv Ar outer s H E).A (cxOf (L2.CX P w) P w K mg base N_law_class "_law_class" (defScope s_law_class) f cdv Ar outer s H E).env (cxOf (L2.CX P w) P w K mg base N_law_class "_law_class" (defScope s_law_class) f cdv Ar outer s H E).xe := passes_of rfl
  exact pss_cons (ps_set (i := 1) sc.nd rfl (by first | exact Or.inl rfl | exact Or.inr rfl) (pe_lst (pa_cons (pe_tup (pa_cons (pe_str) (pa_cons (pe_callB call_cIsi (by rfl) G.g_isinstance (by decide +kernel) (pa_cons (pv 0) (pa_cons (pe_g (by rfl) ⟨_, G.cNoItem, rfl⟩) (pa_nil)))) (pa_nil)))) (pa_cons (pe_tup (pa_cons (pe_str) (pa_cons (pe_callB call_cIsi (by rfl) G.g_isinstance (by decide +kernel) (pa_cons (pv 0) (pa_cons (pe_g (by rfl) ⟨_, G.cNoIndex, rfl⟩) (pa_nil)))) (pa_nil)))) (pa_nil))))) (pss_cons (ps_set (i := 1) sc.nd rfl (by first | exact Or.inl rfl | exact Or.inr rfl) (pe_op op_uAdd (pv 1) (pe_lst (pa_cons (pe_tup (pa_cons (pe_str) (pa_cons (pe_callB call_cIsi (by rfl) G.g_isinstance (by decide +kernel) (pa_cons (pv 0) (pa_cons (pe_g (by rfl) ⟨_, G.cNoList, rfl⟩) (pa_nil)))) (pa_nil)))) (pa_cons (pe_tup (pa_cons (pe_str) (pa_cons (pe_callB call_cIsi (by rfl) G.g_isinstance (by decide +kernel) (pa_cons (pv 0) (pa_cons (pe_g (by rfl) ⟨_, G.cNoLog, rfl⟩) (pa_nil)))) (pa_nil)))) (pa_nil)))))) (pss_cons (ps_set (i := 1) sc.nd rfl (by first | exact Or.inl rfl | exact Or.inr rfl) (pe_op op_uAdd (pv 1) (pe_lst (pa_cons (pe_tup (pa_cons (pe_str) (pa_cons (pe_callB call_cIsi (by rfl) G.g_isinstance (by decide +kernel) (pa_cons (pv 0) (pa_cons (pe_g (by rfl) ⟨_, G.cImpossible, rfl⟩) (pa_nil)))) (pa_nil)))) (pa_cons (pe_tup (pa_cons (pe_str) (pa_cons (pe_callB call_cIsi (by rfl) G.g_isinstance (by decide +kernel) (pa_cons (pv 0) (pa_cons (pe_g (by rfl) ⟨_, G.cNoText, rfl⟩) (pa_nil)))) (pa_nil)))) (pa_nil)))))) (pss_cons (ps_setLc (i := 2) (own := [("_law_word", 4), ("_law_so", 5)]) (g := gTup K 2 (gCons (gName 4) (gCons (gName 5) (gNil)))) (tt := tB (tVar 5)) rfl sc.nd rfl rfl (sw_true rfl rfl rfl (by decide +kernel)) (pi_list (pv 1)) (blkOk_by (N := N_law_class) (sc := defScope s_law_class) (by decide +kernel)) (fun _ _ _ _ _ => pg_tup rfl (pgs_cons (pg_name (i := 4) sc.nd rfl (by first | exact Or.inl rfl | exact Or.inr rfl)) (pgs_cons (pg_name (i := 5) sc.nd rfl (by first | exact Or.inl rfl | exact Or.inr rfl)) (pgs_nil)))) (fun _ _ _ _ _ => pts_one (pt_val (pv 5))) (fun _ _ _ _ _ => pv 4)) (pss_cons (ps_set (i := 3) sc.nd rfl (by first | exact Or.inl rfl | exact Or.inr rfl) (pe_callB call_cIsi (by rfl) G.g_isinstance (by decide +kernel) (pa_cons (pv 0) (pa_cons (pe_tup (pa_cons (pe_g (by rfl) ⟨_, G.cNoClients, rfl⟩) (pa_cons (pe_g (by rfl) ⟨_, G.cNoNumber, rfl⟩) (pa_cons (pe_g (by rfl) ⟨_, G.cNoPosition, rfl⟩) (pa_cons (pe_g (by rfl) ⟨_, G.cNoSeen, rfl⟩) (pa_cons (pe_g (by rfl) ⟨_, G.cNothing, rfl⟩) (pa_cons (pe_g (by rfl) ⟨_, G.cTooMany, rfl⟩) (pa_nil)))))))) (pa_nil))))) (pss_one (ps_ret (pe_ifExp (PW.pt (pw_and (pt_cmpR (op_uEq hr) (pe_callB call_cLen (by rfl) G.g_len (by decide +kernel) (pa_cons (pv 2) (pa_nil))) (pe_int) (nomark _)) (pw_and (pt_not (pt_val (pv 3))) (pw_and1 (pt_val (pe_callB call_cIsi (by rfl) G.g_isinstance (by decide +kernel) (pa_cons (pv 0) (pa_cons (pe_bltn (v := .ty "ValueError") (by rfl) G.g_ValueError (by decide +kernel) rfl) (pa_nil))))))))) (pe_ix ix_u (pv 2) (pe_int) (fun _ _ => rfl)) (pe_str))))))))
abbrev N_law_undone : List Str := ["_law_way", "_law_name", "_law_place", "_law_shelf_here"]
theorem sc_law_undone : FnScope N_law_undone ["_law_way", "_law_name", "_law_place", "_law_shelf_here"] (defScope s_law_undone) := ⟨rfl, rfl, rfl, by decide +kernel, rfl, by decide +kernel, by decide +kernel⟩
def t_law_undone (P : Program) (w : World) (K : PySem.W.Frag) (mg : Str → Option Value) (base : Heap) (A : Ads) (E : XS) : TS :=
  tSeq (tIfS (tTest (tOp (uEq K) (tVar 0) (tC (.int 0)))) (tRet (tIf (tTest (tOp (uEq K) (tSl (rSlL K) (tVar 3) (tPart (tVar 2)) (tPart (tOp uAdd (tVar 2) (tC (.int 1))))) (tLst (tCons (tVar 1) (tNil))))) (tOp uAdd (tSl (rSlL K) (tVar 3) (tNoPart) (tPart (tVar 2))) (tSl (rSlL K) (tVar 3) (tPart (tOp uAdd (tVar 2) (tC (.int 1)))) (tNoPart))) (tC .non))) (tNext)) (tSeq (tIfS (tTest (tOp (uEq K) (tVar 0) (tC (.int 1)))) (tSeq (tIfS (tOr (tTest (tOp (uIn K false) (tVar 1) (tVar 3))) (tOr (tTest (tOp uGt (tVar 2) (tCB (cLen K) (tCons (tVar 3) (tNil))))) (tTest (tOp uGt (tCB (cLen K) (tCons (tVar 3) (tNil))) (tC (.int 59)))))) (tRet (tC .non)) (tNext)) (tRet (tOp uAdd (tOp uAdd (tSl (rSlL K) (tVar 3) (tNoPart) (tPart (tVar 2))) (tLst (tCons (tVar 1) (tNil)))) (tSl (rSlL K) (tVar 3) (tPart (tVar 2)) (tNoPart))))) (tNext)) (tSeq (tIfS (tOr (tTest (tOp uGt (tVar 0) (tC (.int 2)))) (tOr (tTest (tOp (uNe K) (tSl (rSlL K) (tVar 3) (tNoPart) (tPart (tC (.int 1)))) (tLst (tCons (tVar 1) (tNil))))) (tTest (tOp uGe (tVar 2) (tCB (cLen K) (tCons (tVar 3) (tNil))))))) (tRet (tC .non)) (tNext)) (tRet (tOp uAdd (tOp uAdd (tSl (rSlL K) (tVar 3) (tPart (tC (.int 1))) (tPart (tOp uAdd (tVar 2) (tC (.int 1))))) (tLst (tCons (tVar 1) (tNil)))) (tSl (rSlL K) (tVar 3) (tPart (tOp uAdd (tVar 2) (tC (.int 1)))) (tNoPart))))))
theorem d_law_undone {P : Program} {w : World} {K : PySem.W.Frag} {mg : Str → Option Value} {base : Heap} {A : Ads} {f : Addr} {cdv : Value} {Ar : Around} {outer : List Env} {s : Shared} {H : Hp} {E : XK} (G : Gm P K mg A) (hr : Room 22 (Ar.deeper (envOfC "_law_undone" (defScope s_law_undone) s.heap.objs.size f cdv))) (qt : Quiet 22 (Ar.deeper (envOfC "_law_undone" (defScope s_law_undone) s.heap.objs.size f cdv))) :
    PSs (cxOf (L2.CX P w) P w K mg base N_law_undone "_law_undone" (defScope s_law_undone) f cdv Ar outer s H E) (defBody s_law_undone) (t_law_undone P w K mg base A fun _ => E) := by
  have sc := sc_law_undone
  have tk : Takes (cxOf (L2.CX P w) P w K mg base N_law_undone "_law_undone" (defScope s_law_undone) f cdv Ar outer s H E) (fun cls d _ H => E cls d H) := takes_of rfl rfl rfl rfl
  have at_ : At (cxOf (L2.CX P w) P w K mg base N_law_undone "_law_undone" (defScope s_law_undone) f cdv Ar outer s H E) 22 (fun _ => E) := At.of hr qt tk
  have pn : PassesOwn (model P w) (cxOf (L2.CX P w) P w K mg base N_law_undone "_law_undone" (defScope s_law_undone) f cdv Ar outer s H E).A (cxOf (L2.CX P w) P w K mg base N_law_undone "_law_undone" (defScope s_law_undone) f cdv Ar outer s H E).env (cxOf (L2.CX P w) P w K mg base N_law_undone "_law_undone" (defScope s_law_undone) f cdv Ar outer s H E).xe := passes_of rfl
  exact pss_cons (ps_if (pt_cmpR (op_uEq hr) (pv 0) (pe_int) (nomark _)) (pss_one (ps_ret (pe_ifExp (pt_cmpR (op_uEq hr) (pe_slice sl_list (pv 3) (po_some (pv 2)) (po_some (pe_op op_uAdd (pv 2) (pe_int)))) (pe_lst (pa_cons (pv 1) (pa_nil))) (nomark _)) (pe_op op_uAdd (pe_slice sl_list (pv 3) (po_none) (po_some (pv 2))) (pe_slice sl_list (pv 3) (po_some (pe_op op_uAdd (pv 2) (pe_int))) (po_none))) (pe_non)))) (pss_nil)) (pss_cons (ps_if (pt_cmpR (op_uEq hr) (pv 0) (pe_int) (nomark _)) (pss_cons (ps_if (PW.pt (pw_or (pt_cmpR (op_uIn hr) (pv 1) (pv 3) (by rfl)) (pw_or (pt_cmpR op_uGt (pv 2) (pe_callB call_cLen (by rfl) G.g_len (by decide +kernel) (pa_cons (pv 3) (pa_nil))) (nomark _)) (pw_or1 (pt_cmpR op_uGt (pe_callB call_cLen (by rfl) G.g_len (by decide +kernel) (pa_cons (pv 3) (pa_nil))) (pe_int) (nomark _)))))) (pss_one (ps_ret (pe_non))) (pss_nil)) (pss_one (ps_ret (pe_op op_uAdd (pe_op op_uAdd (pe_slice sl_list (pv 3) (po_none) (po_some (pv 2))) (pe_lst (pa_cons (pv 1) (pa_nil)))) (pe_slice sl_list (pv 3) (po_some (pv 2)) (po_none)))))) (pss_nil)) (pss_cons (ps_if (PW.pt (pw_or (pt_cmpR op_uGt (pv 0) (pe_int) (nomark _)) (pw_or (pt_cmpR (op_uNe hr) (pe_slice sl_list (pv 3) (po_none) (po_some (pe_int))) (pe_lst (pa_cons (pv 1) (pa_nil))) (nomark _)) (pw_or1 (pt_cmpR op_uGe (pv 2) (pe_callB call_cLen (by rfl) G.g_len (by decide +kernel) (pa_cons (pv 3) (pa_nil))) (nomark _)))))) (pss_one (ps_ret (pe_non))) (pss_nil)) (pss_one (ps_ret (pe_op op_uAdd (pe_op op_uAdd (pe_slice sl_list (pv 3) (po_some (pe_int)) (po_some (pe_op op_uAdd (pv 2) (pe_int)))) (pe_lst (pa_cons (pv 1) (pa_nil)))) (pe_slice sl_list (pv 3) (po_some (pe_op op_uAdd (pv 2) (pe_int))) (po_none)))))))
abbrev N_law_shelf : List Str := ["_law_source_here", "_law_most", "_law_many", "_law_pool"]
theorem sc_law_shelf : FnScope N_law_shelf ["_law_source_here", "_law_most"] (defScope s_law_shelf) := ⟨rfl, rfl, rfl, by decide +kernel, rfl, by decide +kernel, by decide +kernel⟩
def t_law_shelf (P : Program) (w : World) (K : PySem.W.Frag) (mg : Str → Option Value) (base : Heap) (A : Ads) (E : XS) : TS :=
  tSeq (tAsg (tOp (uIx K) (tLst (tCons (tFn P w K mg base "_law_pick" 25 E (tCons (tVar 0) (tCons (tC (.int 5)) (tNil)))) (tCons (tFn P w K mg base "_law_pick" 25 E (tCons (tVar 0) (tCons (tOp uAdd (tVar 1) (tC (.int 1))) (tNil)))) (tCons (tVar 1) (tNil))))) (tFn P w K mg base "_law_pick" 25 E (tCons (tVar 0) (tCons (tC (.int 3)) (tNil))))) (gName 2)) (tSeq (tAsg (tFn P w K mg base "_law_names" 25 E (tCons (tVar 0) (tCons (tOp uAdd (tVar 2) (tC (.int 4))) (tNil)))) (gName 3)) (tRet (tTup (tCons (tSl (rSlL K) (tVar 3) (tNoPart) (tPart (tVar 2))) (tCons (tSl (rSlL K) (tVar 3) (tPart (tVar 2)) (tNoPart)) (tNil))))))
theorem d_law_shelf {P : Program} {w : World} {K : PySem.W.Frag} {mg : Str → Option Value} {base : Heap} {A : Ads} {f : Addr} {cdv : Value} {Ar : Around} {outer : List Env} {s : Shared} {H : Hp} {E : XK} (G : Gm P K mg A) (hr : Room 25 (Ar.deeper (envOfC "_law_shelf" (defScope s_law_shelf) s.heap.objs.size f cdv))) (qt : Quiet 25 (Ar.deeper (envOfC "_law_shelf" (defScope s_law_shelf) s.heap.objs.size f cdv))) :
    PSs (cxOf (L2.CX P w) P w K mg base N_law_shelf "_law_shelf" (defScope s_law_shelf) f cdv Ar outer s H E) (defBody s_law_shelf) (t_law_shelf P w K mg base A fun _ => E) := by
  have sc := sc_law_shelf
  have tk : Takes (cxOf (L2.CX P w) P w K mg base N_law_shelf "_law_shelf" (defScope s_law_shelf) f cdv Ar outer s H E) (fun cls d _ H => E cls d H) := takes_of rfl rfl rfl rfl
  have at_ : At (cxOf (L2.CX P w) P w K mg base N_law_shelf "_law_shelf" (defScope s_law_shelf) f cdv Ar outer s H E) 25 (fun _ => E) := At.of hr qt tk
  have pn : PassesOwn (model P w) (cxOf (L2.CX P w) P w K mg base N_law_shelf "_law_shelf" (defScope s_law_shelf) f cdv Ar outer s H E).A (cxOf (L2.CX P w) P w K mg base N_law_shelf "_law_shelf" (defScope s_law_shelf) f cdv Ar outer s H E).env (cxOf (L2.CX P w) P w K mg base N_law_shelf "_law_shelf" (defScope s_law_shelf) f cdv Ar outer s H E).xe := passes_of rfl
  exact pss_cons (ps_set (i := 2) sc.nd rfl (by first | exact Or.inl rfl | exact Or.inr rfl) (pe_ix ix_u (pe_lst (pa_cons (pe_fn at_ (by rfl) (pa_cons (pv 0) (pa_cons (pe_int) (pa_nil)))) (pa_cons (pe_fn at_ (by rfl) (pa_cons (pv 0) (pa_cons (pe_op op_uAdd (pv 1) (pe_int)) (pa_nil)))) (pa_cons (pv 1) (pa_nil))))) (pe_fn at_ (by rfl) (pa_cons (pv 0) (pa_cons (pe_int) (pa_nil)))) (fun _ _ => rfl))) (pss_cons (ps_set (i := 3) sc.nd rfl (by first | exact Or.inl rfl | exact Or.inr rfl) (pe_fn at_ (by rfl) (pa_cons (pv 0) (pa_cons (pe_op op_uAdd (pv 2) (pe_int)) (pa_nil))))) (pss_one (ps_ret (pe_tup (pa_cons (pe_slice sl_list (pv 3) (po_none) (po_some (pv 2))) (pa_cons (pe_slice sl_list (pv 3) (po_some (pv 2)) (po_none)) (pa_nil)))))))
abbrev N_law_case : List Str := ["_law_source_here", "_law_shelf_here", "_law_spare", "_law_way", "_law_name", "_law_right", "_law_place"]
theorem sc_law_case : FnScope N_law_case ["_law_source_here", "_law_shelf_here", "_law_spare"] (defScope s_law_case) := ⟨rfl, rfl, rfl, by decide +kernel, rfl, by decide +kernel, by decide +kernel⟩
def t_law_case (P : Program) (w : World) (K : PySem.W.Frag) (mg : Str → Option Value) (base : Heap) (A : Ads) (E : XS) : TS :=
  tSeq (tAsg (tOp (uIx K) (tLst (tCons (tC (.int 0)) (tCons (tC (.int 1)) (tCons (tC (.int 2)) (tCons (tFn P w K mg base "_law_pick" 23 E (tCons (tVar 0) (tCons (tC (.int 4)) (tNil)))) (tNil)))))) (tFn P w K mg base "_law_pick" 23 E (tCons (tVar 0) (tCons (tC (.int 4)) (tNil))))) (gName 3)) (tSeq (tAsg (tOp (uIx K) (tOp uAdd (tVar 1) (tVar 2)) (tFn P w K mg base "_law_pick" 23 E (tCons (tVar 0) (tCons (tOp uAdd (tCB (cLen K) (tCons (tVar 1) (tNil))) (tCB (cLen K) (tCons (tVar 2) (tNil)))) (tNil))))) (gName 4)) (tSeq (tIfS (tTest (tOp uGt (tFn P w K mg base "_law_pick" 23 E (tCons (tVar 0) (tCons (tC (.int 3)) (tNil)))) (tC (.int 0)))) (tAsg (tIf (tOr (tTest (tOp (uEq K) (tVar 3) (tC (.int 0)))) (tTest (tOp (uEq K) (tVar 1) (tLst (tNil))))) (tOp (uIx K) (tVar 2) (tC (.int 0))) (tOp (uIx K) (tVar 1) (tFn P w K mg base "_law_pick" 23 E (tCons (tVar 0) (tCons (tCB (cLen K) (tCons (tVar 1) (tNil))) (tNil)))))) (gName 4)) (tNext)) (tSeq (tAsg (tIf (tTest (tOp (uIn K true) (tVar 4) (tVar 1))) (tFn P w K mg base "_law_pick" 23 E (tCons (tVar 0) (tCons (tOp uAdd (tCB (cLen K) (tCons (tVar 1) (tNil))) (tC (.int 1))) (tNil)))) (tBM K "list" (rIndex K) (tVar 1) (tCons (tVar 4) (tNil)))) (gName 5)) (tSeq (tAsg (tOp (uIx K) (tLst (tCons (tVar 5) (tCons (tVar 5) (tCons (tOp uAdd (tVar 5) (tC (.int 1))) (tCons (tOp uSub (tVar 5) (tC (.int 1))) (tCons (tCB (cLen K) (tCons (tVar 1) (tNil))) (tCons (tFn P w K mg base "_law_pick" 23 E (tCons (tVar 0) (tCons (tC (.int 61)) (tNil)))) (tCons (tC (.int 60)) (tNil))))))))) (tFn P w K mg base "_law_pick" 23 E (tCons (tVar 0) (tCons (tC (.int 7)) (tNil))))) (gName 6)) (tRet (tTup (tCons (tVar 3) (tCons (tVar 4) (tCons (tCB (cMin K) (tCons (tCB (cMax K) (tCons (tC (.int 0)) (tCons (tVar 6) (tNil)))) (tCons (tC (.int 60)) (tNil)))) (tNil))))))))))
theorem d_law_case {P : Program} {w : World} {K : PySem.W.Frag} {mg : Str → Option Value} {base : Heap} {A : Ads} {f : Addr} {cdv : Value} {Ar : Around} {outer : List Env} {s : Shared} {H : Hp} {E : XK} (G : Gm P K mg A) (hr : Room 23 (Ar.deeper (envOfC "_law_case" (defScope s_law_case) s.heap.objs.size f cdv))) (qt : Quiet 23 (Ar.deeper (envOfC "_law_case" (defScope s_law_case) s.heap.objs.size f cdv))) :
    PSs (cxOf (L2.CX P w) P w K mg base N_law_case "_law_case" (defScope s_law_case) f cdv Ar outer s H E) (defBody s_law_case) (t_law_case P w K mg base A fun _ => E) := by
  have sc := sc_law_case
  have tk : Takes (cxOf (L2.CX P w) P w K mg base N_law_case "_law_case" (defScope s_law_case) f cdv Ar outer s H E) (fun cls d _ H => E cls d H) := takes_of rfl rfl rfl rfl
  have at_ : At (cxOf (L2.CX P w) P w K mg base N_law_case "_law_case" (defScope s_law_case) f cdv Ar outer s H E) 23 (fun _ => E) := At.of hr qt tk
  have pn : PassesOwn (model P w) (cxOf (L2.CX P w) P w K mg base N_law_case "_law_case" (defScope s_law_case) f cdv Ar outer s H E).A (cxOf (L2.CX P w) P w K mg base N_law_case "_law_case" (defScope s_law_case) f cdv Ar outer s H E).env (cxOf (L2.CX P w) P w K mg base N_law_case "_law_case" (defScope s_law_case) f cdv Ar outer s H E).xe := passes_of rfl
  exact pss_cons (ps_set (i := 3) sc.nd rfl (by first | exact Or.inl rfl | exact Or.inr rfl) (pe_ix ix_u (pe_lst (pa_cons (pe_int) (pa_cons (pe_int) (pa_cons (pe_int) (pa_cons (pe_fn at_ (by rfl) (pa_cons (pv 0) (pa_cons (pe_int) (pa_nil)))) (pa_nil)))))) (pe_fn at_ (by rfl) (pa_cons (pv 0) (pa_cons (pe_int) (pa_nil)))) (fun _ _ => rfl))) (pss_cons (ps_set (i := 4) sc.nd rfl (by first | exact Or.inl rfl | exact Or.inr rfl) (pe_ix ix_u (pe_op op_uAdd (pv 1) (pv 2)) (pe_fn at_ (by rfl) (pa_cons (pv 0) (pa_cons (pe_op op_uAdd (pe_callB call_cLen (by rfl) G.g_len (by decide +kernel) (pa_cons (pv 1) (pa_nil))) (pe_callB call_cLen (by rfl) G.g_len (by decide +kernel) (pa_cons (pv 2) (pa_nil)))) (pa_nil)))) (fun _ _ => rfl))) (pss_cons (ps_if (pt_cmpR op_uGt (pe_fn at_ (by rfl) (pa_cons (pv 0) (pa_cons (pe_int) (pa_nil)))) (pe_int) (nomark _)) (pss_one (ps_set (i := 4) sc.nd rfl (by first | exact Or.inl rfl | exact Or.inr rfl) (pe_ifExp (PW.pt (pw_or (pt_cmpR (op_uEq hr) (pv 3) (pe_int) (nomark _)) (pw_or1 (pt_cmpR (op_uEq hr) (pv 1) (pe_lst (pa_nil)) (nomark _))))) (pe_ix ix_u (pv 2) (pe_int) (fun _ _ => rfl)) (pe_ix ix_u (pv 1) (pe_fn at_ (by rfl) (pa_cons (pv 0) (pa_cons (pe_callB call_cLen (by rfl) G.g_len (by decide +kernel) (pa_cons (pv 1) (pa_nil))) (pa_nil)))) (fun _ _ => rfl))))) (pss_nil)) (pss_cons (ps_set (i := 5) sc.nd rfl (by first | exact Or.inl rfl | exact Or.inr rfl) (pe_ifExp (pt_cmpR (op_uNotIn hr) (pv 4) (pv 1) (by rfl)) (pe_fn at_ (by rfl) (pa_cons (pv 0) (pa_cons (pe_op op_uAdd (pe_callB call_cLen (by rfl) G.g_len (by decide +kernel) (pa_cons (pv 1) (pa_nil))) (pe_int)) (pa_nil)))) (pe_bm PySem.F.plainAttrs_list PySem.F.slot_list_index PySem.F.type_list_index mt_index (pv 1) (pa_cons (pv 4) (pa_nil))))) (pss_cons (ps_set (i := 6) sc.nd rfl (by first | exact Or.inl rfl | exact Or.inr rfl) (pe_ix ix_u (pe_lst (pa_cons (pv 5) (pa_cons (pv 5) (pa_cons (pe_op op_uAdd (pv 5) (pe_int)) (pa_cons (pe_op op_uSub (pv 5) (pe_int)) (pa_cons (pe_callB call_cLen (by rfl) G.g_len (by decide +kernel) (pa_cons (pv 1) (pa_nil))) (pa_cons (pe_fn at_ (by rfl) (pa_cons (pv 0) (pa_cons (pe_int) (pa_nil)))) (pa_cons (pe_int) (pa_nil))))))))) (pe_fn at_ (by rfl) (pa_cons (pv 0) (pa_cons (pe_int) (pa_nil)))) (fun _ _ => rfl))) (pss_one (ps_ret (pe_tup (pa_cons (pv 3) (pa_cons (pv 4) (pa_cons (pe_callB (call_cMin rfl) (by rfl) G.g_min (by decide +kernel) (pa_cons (pe_callB (call_cMax rfl) (by rfl) G.g_max (by decide +kernel) (pa_cons (pe_int) (pa_cons (pv 6) (pa_nil)))) (pa_cons (pe_int) (pa_nil)))) (pa_nil)))))))))))
abbrev N_law_no_shelves : List Str := ["_law_source_here", "_law_shelf_here", "_law_letters", "_law_far", "_law_some", "_law_j"]
theorem sc_law_no_shelves : FnScope N_law_no_shelves ["_law_source_here", "_law_shelf_here"] (defScope s_law_no_shelves) := ⟨rfl, rfl, rfl, by decide +kernel, rfl, by decide +kernel, by decide +kernel⟩
def t_law_no_shelves (P : Program) (w : World) (K : PySem.W.Frag) (mg : Str → Option Value) (base : Heap) (A : Ads) (E : XS) : TS :=
  tSeq (tAsg (tC (.str "abcdefghijklmnopqrstuvwxyz")) (gName 2)) (tSeq (tAsg (tLc (iRng1 (tCons (tC (.int 61)) (tNil))) (gName 5) (tYes) (tOp uAdd (tOp (uIx K) (tVar 2) (tOp uDiv (tVar 5) (tC (.int 26)))) (tOp (uIx K) (tVar 2) (tOp uMod (tVar 5) (tC (.int 26))))) [5]) (gName 3)) (tSeq (tAsg (tLst (tCons (tC .non) (tCons (tC (.bl true)) (tCons (tC (.int 0)) (tCons (tC (.str "")) (tCons (tC (.str "ab")) (tCons (tTup (tNil)) (tCons (tCB (cTuple K) (tCons (tVar 1) (tNil))) (tCons (tDNewK) (tCons (tLst (tCons (tC .non) (tNil))) (tCons (tLst (tCons (tC (.int 0)) (tNil))) (tCons (tLst (tCons (tC (.bl true)) (tNil))) (tCons (tLst (tCons (tC (.str "")) (tNil))) (tCons (tLst (tCons (tC (.str "A")) (tNil))) (tCons (tLst (tCons (tC (.str "abcdefghi")) (tNil))) (tCons (tLst (tCons (tC (.str "a")) (tCons (tC (.str "a")) (tNil)))) (tNil))))))))))))))))) (gName 4)) (tSeq (tAsg (tOp uAdd (tVar 4) (tLst (tCons (tLst (tCons (tC (.str "a b")) (tNil))) (tCons (tLst (tCons (tLst (tCons (tC (.str "a")) (tNil))) (tNil))) (tCons (tLst (tCons (tTup (tCons (tC (.str "a")) (tNil))) (tNil))) (tCons (tLst (tCons (tDNewK) (tNil))) (tCons (tLst (tCons (tMkr P w K mg base "Inserted" 25 E (tCons (tC (.str "a")) (tCons (tC (.int 0)) (tNil)))) (tNil))) (tCons (tVar 3) (tCons (tDct1 (tC (.str "a")) (tC (.int 0))) (tCons (tOp uAdd (tVar 1) (tLst (tCons (tC (.str "a1")) (tNil)))) (tCons (tOp uAdd (tLst (tCons (tC (.str "a_")) (tNil))) (tVar 1)) (tNil)))))))))))) (gName 4)) (tSeq (tAsg (tOp uAdd (tVar 4) (tLst (tCons (tOp uAdd (tOp uAdd (tVar 1) (tSl (rSlL K) (tVar 1) (tNoPart) (tPart (tC (.int 1))))) (tLst (tCons (tC (.str "A")) (tNil)))) (tCons (tLst (tCons (tVar 1) (tNil))) (tCons (tLst (tCons (tC (.str "a\n")) (tNil))) (tCons (tLst (tCons (tUn uNeg (tC (.int 1))) (tNil))) (tCons (tOp uAdd (tVar 1) (tLst (tCons (tC .non) (tNil)))) (tCons (tOp uAdd (tVar 1) (tLst (tCons (tC (.str "zz")) (tCons (tC (.str "zz")) (tNil))))) (tNil))))))))) (gName 4)) (tRet (tOp (uIx K) (tVar 4) (tFn P w K mg base "_law_pick" 25 E (tCons (tVar 0) (tCons (tCB (cLen K) (tCons (tVar 4) (tNil))) (tNil))))))))))
theorem d_law_no_shelves {P : Program} {w : World} {K : PySem.W.Frag} {mg : Str → Option Value} {base : Heap} {A : Ads} {f : Addr} {cdv : Value} {Ar : Around} {outer : List Env} {s : Shared} {H : Hp} {E : XK} (G : Gm P K mg A) (hr : Room 25 (Ar.deeper (envOfC "_law_no_shelves" (defScope s_law_no_shelves) s.heap.objs.size f cdv))) (qt : Quiet 25 (Ar.deeper (envOfC "_law_no_shelves" (defScope s_law_no_shelves) s.heap.objs.size f cdv))) :
    PSs (cxOf (L2.CX P w) P w K mg base N_law_no_shelves "_law_no_shelves" (defScope s_law_no_shelves) f cdv Ar outer s H E) (defBody s_law_no_shelves) (t_law_no_shelves P w K mg base A fun _ => E) := by
  have sc := sc_law_no_shelves
  have tk : Takes (cxOf (L2.CX P w) P w K mg base N_law_no_shelves "_law_no_shelves" (defScope s_law_no_shelves) f cdv Ar outer s H E) (fun cls d _ H => E cls d H) := takes_of rfl rfl rfl rfl
  have at_ : At (cxOf (L2.CX P w) P w K mg base N_law_no_shelves "_law_no_shelves" (defScope s_law_no_shelves) f cdv Ar outer s H E) 25 (fun _ => E) := At.of hr qt tk
  have pn : PassesOwn (model P w) (cxOf (L2.CX P w) P w K mg base N_law_no_shelves "_law_no_shelves" (defScope s_law_no_shelves) f cdv Ar outer s H E).A (cxOf (L2.CX P w) P w K mg base N_law_no_shelves "_law_no_shelves" (defScope s_law_no_shelves) f cdv Ar outer s H E).env (cxOf (L2.CX P w) P w K mg base N_law_no_shelves "_law_no_shelves" (defScope s_law_no_shelves) f cdv Ar outer s H E).xe := passes_of rfl
  exact pss_cons (ps_set (i := 2) sc.nd rfl (by first | exact Or.inl rfl | exact Or.inr rfl) (pe_str)) (pss_cons (ps_setLc (i := 3) (own := [("_law_j", 5)]) (g := gName 5) (tt := tYes) rfl sc.nd rfl rfl (sw_true rfl rfl rfl (by decide +kernel)) (pi_range1 (by rfl) G.g_range (pa_cons (pe_int) (pa_nil))) (blkOk_by (N := N_law_no_shelves) (sc := defScope s_law_no_shelves) (by decide +kernel)) (fun _ _ _ _ _ => pg_name (i := 5) sc.nd rfl (by first | exact Or.inl rfl | exact Or.inr rfl)) (fun _ _ _ _ _ => pts_nil) (fun _ _ _ _ _ => pe_op op_uAdd (pe_ix ix_u (pv 2) (pe_op op_uDiv (pv 5) (pe_int)) (fun _ _ => rfl)) (pe_ix ix_u (pv 2) (pe_op op_uMod (pv 5) (pe_int)) (fun _ _ => rfl)))) (pss_cons (ps_set (i := 4) sc.nd rfl (by first | exact Or.inl rfl | exact Or.inr rfl) (pe_lst (pa_cons (pe_non) (pa_cons (pe_bl) (pa_cons (pe_int) (pa_cons (pe_str) (pa_cons (pe_str) (pa_cons (pe_tup (pa_nil)) (pa_cons (pe_callTy call_cTuple (by rfl) G.g_tuple (by decide +kernel) (pa_cons (pv 1) (pa_nil))) (pa_cons (pe_dnewK) (pa_cons (pe_lst (pa_cons (pe_non) (pa_nil))) (pa_cons (pe_lst (pa_cons (pe_int) (pa_nil))) (pa_cons (pe_lst (pa_cons (pe_bl) (pa_nil))) (pa_cons (pe_lst (pa_cons (pe_str) (pa_nil))) (pa_cons (pe_lst (pa_cons (pe_str) (pa_nil))) (pa_cons (pe_lst (pa_cons (pe_str) (pa_nil))) (pa_cons (pe_lst (pa_cons (pe_str) (pa_cons (pe_str) (pa_nil)))) (pa_nil)))))))))))))))))) (pss_cons (ps_set (i := 4) sc.nd rfl (by first | exact Or.inl rfl | exact Or.inr rfl) (pe_op op_uAdd (pv 4) (pe_lst (pa_cons (pe_lst (pa_cons (pe_str) (pa_nil))) (pa_cons (pe_lst (pa_cons (pe_lst (pa_cons (pe_str) (pa_nil))) (pa_nil))) (pa_cons (pe_lst (pa_cons (pe_tup (pa_cons (pe_str) (pa_nil))) (pa_nil))) (pa_cons (pe_lst (pa_cons (pe_dnewK) (pa_nil))) (pa_cons (pe_lst (pa_cons (pe_mkr at_ (by rfl) (pa_cons (pe_str) (pa_cons (pe_int) (pa_nil)))) (pa_nil))) (pa_cons (pv 3) (pa_cons (pe_dct1 (pe_str) (pe_int)) (pa_cons (pe_op op_uAdd (pv 1) (pe_lst (pa_cons (pe_str) (pa_nil)))) (pa_cons (pe_op op_uAdd (pe_lst (pa_cons (pe_str) (pa_nil))) (pv 1)) (pa_nil))))))))))))) (pss_cons (ps_set (i := 4) sc.nd rfl (by first | exact Or.inl rfl | exact Or.inr rfl) (pe_op op_uAdd (pv 4) (pe_lst (pa_cons (pe_op op_uAdd (pe_op op_uAdd (pv 1) (pe_slice sl_list (pv 1) (po_none) (po_some (pe_int)))) (pe_lst (pa_cons (pe_str) (pa_nil)))) (pa_cons (pe_lst (pa_cons (pv 1) (pa_nil))) (pa_cons (pe_lst (pa_cons (pe_str) (pa_nil))) (pa_cons (pe_lst (pa_cons (pe_un un_uNeg (pe_int)) (pa_nil))) (pa_cons (pe_op op_uAdd (pv 1) (pe_lst (pa_cons (pe_non) (pa_nil)))) (pa_cons (pe_op op_uAdd (pv 1) (pe_lst (pa_cons (pe_str) (pa_cons (pe_str) (pa_nil))))) (pa_nil)))))))))) (pss_one (ps_ret (pe_ix ix_u (pv 4) (pe_fn at_ (by rfl) (pa_cons (pv 0) (pa_cons (pe_callB call_cLen (by rfl) G.g_len (by decide +kernel) (pa_cons (pv 4) (pa_nil))) (pa_nil)))) (fun _ _ => rfl))))))))
abbrev N_law_told : List Str := ["_law_row", "_law_shelf_here", "_law_by_name", "_law_caught", "e"]
theorem sc_law_told : FnScope N_law_told ["_law_row", "_law_shelf_here", "_law_by_name"] (defScope s_law_told) := ⟨rfl, rfl, rfl, by decide +kernel, rfl, by decide +kernel, by decide +kernel⟩
def t_law_told (P : Program) (w : World) (K : PySem.W.Frag) (mg : Str → Option Value) (base : Heap) (A : Ads) (E : XS) : TS :=
  tSeq (tAsg (tC .non) (gName 3)) (tSeq (tTry K (.ref A.cLogError) 4 (fun E => tRet (tIf (tB (tVar 2)) (tMthK P w K mg base "taken_back" ["items"] 27 E (tVar 0) (tCons (tVar 1) (tNil))) (tMth P w K mg base "taken_back" 27 E (tVar 0) (tCons (tVar 1) (tNil))))) (tAsg (tVar 4) (gName 3)) E) (tRet (tIf (tTest (tOp (uEq K) (tFn P w K mg base "_law_class" 27 E (tCons (tVar 3) (tNil))) (tC (.str "impossible")))) (tTup (tCons (tC (.str "impossible")) (tCons (tAttE K "reason" (tVar 3)) (tNil)))) (tFn P w K mg base "_law_class" 27 E (tCons (tVar 3) (tNil))))))
theorem d_law_told {P : Program} {w : World} {K : PySem.W.Frag} {mg : Str → Option Value} {base : Heap} {A : Ads} {f : Addr} {cdv : Value} {Ar : Around} {outer : List Env} {s : Shared} {H : Hp} {E : XK} (G : Gm P K mg A) (hr : Room 27 (Ar.deeper (envOfC "_law_told" (defScope s_law_told) s.heap.objs.size f cdv))) (qt : Quiet 27 (Ar.deeper (envOfC "_law_told" (defScope s_law_told) s.heap.objs.size f cdv))) :
    PSs (cxOf (L2.CX P w) P w K mg base N_law_told "_law_told" (defScope s_law_told) f cdv Ar outer s H E) (defBody s_law_told) (t_law_told P w K mg base A fun _ => E) := by
  have sc := sc_law_told
  have tk : Takes (cxOf (L2.CX P w) P w K mg base N_law_told "_law_told" (defScope s_law_told) f cdv Ar outer s H E) (fun cls d _ H => E cls d H) := takes_of rfl rfl rfl rfl
  have at_ : At (cxOf (L2.CX P w) P w K mg base N_law_told "_law_told" (defScope s_law_told) f cdv Ar outer s H E) 27 (fun _ => E) := At.of hr qt tk
  have pn : PassesOwn (model P w) (cxOf (L2.CX P w) P w K mg base N_law_told "_law_told" (defScope s_law_told) f cdv Ar outer s H E).A (cxOf (L2.CX P w) P w K mg base N_law_told "_law_told" (defScope s_law_told) f cdv Ar outer s H E).env (cxOf (L2.CX P w) P w K mg base N_law_told "_law_told" (defScope s_law_told) f cdv Ar outer s H E).xe := passes_of rfl
  exact pss_cons (ps_set (i := 3) sc.nd rfl (by first | exact Or.inl rfl | exact Or.inr rfl) (pe_non)) (pss_cons (ps_tryT (i := 4) rfl rfl rfl sc.nd rfl rfl ⟨by rfl, by decide, .inl G.cLogError⟩ tk (fun W_ pn_ xe_ tk pn => (have at_ := At.ofW (j := 27) hr qt tk; pss_one (ps_ret (pe_ifExp (pt_val (pv 2)) (pe_mthK at_ (pv 0) (pk_cons (pv 1) (pk_nil))) (pe_mth at_ (pv 0) (pa_cons (pv 1) (pa_nil))))))) (fun a_ pn_ => pss_one (ps_set (i := 3) sc.nd rfl (by first | exact Or.inl rfl | exact Or.inr rfl) (pv 4)))) (pss_one (ps_ret (pe_ifExp (pt_cmpR (op_uEq hr) (pe_fn at_ (by rfl) (pa_cons (pv 3) (pa_nil))) (pe_str) (nomark _)) (pe_tup (pa_cons (pe_str) (pa_cons (pe_attE (pv 3)) (pa_nil)))) (pe_fn at_ (by rfl) (pa_cons (pv 3) (pa_nil)))))))
abbrev N_law_row_right : List Str := ["_law_row", "_law_way", "_law_name", "_law_place", "_law_shelf_here", "_law_kept", "_law_due", "_law_told_here", "_law_found", "_law_again"]
theorem sc_law_row_right : FnScope N_law_row_right ["_law_row", "_law_way", "_law_name", "_law_place", "_law_shelf_here"] (defScope s_law_row_right) := ⟨rfl, rfl, rfl, by decide +kernel, rfl, by decide +kernel, by decide +kernel⟩
def t_law_row_right (P : Program) (w : World) (K : PySem.W.Frag) (mg : Str → Option Value) (base : Heap) (A : Ads) (E : XS) : TS :=
  tSeq (tPar 5 6 (tCons (tCB (cRepr K) (tCons (tVar 4) tNil)) (tCons (tFn P w K mg base "_law_undone" 29 E (tCons (tVar 1) (tCons (tVar 2) (tCons (tVar 3) (tCons (tVar 4) (tNil)))))) (tNil)))) (tSeq (tAsg (tIf (tTest (tOp uIs (tVar 6) (tC .non))) (tTup (tCons (tC (.str "impossible")) (tCons (tVar 2) (tNil)))) (tVar 6)) (gName 7)) (tSeq (tPar 8 9 (tCons (tFn P w K mg base "_law_told" 29 E (tCons (tVar 0) (tCons (tVar 4) (tCons (tC (.bl false)) (tNil))))) (tCons (tFn P w K mg base "_law_told" 29 E (tCons (tVar 0) (tCons (tVar 4) (tCons (tC (.bl true)) (tNil))))) (tNil)))) (tSeq (tIfS (tOr (tTest (tOp (uNe K) (tCB (cRepr K) (tCons (tLst (tCons (tVar 8) (tCons (tVar 9) (tNil)))) tNil)) (tCB (cRepr K) (tCons (tLst (tCons (tVar 7) (tCons (tVar 7) (tNil)))) tNil)))) (tTest (tOp (uNe K) (tCB (cRepr K) (tCons (tVar 4) tNil)) (tVar 5)))) (tRet (tC (.bl false))) (tNext)) (tSeq (tIfS (tTest (tOp uIs (tVar 6) (tC .non))) (tRet (tC (.bl true))) (tNext)) (tSeq (tIfS (tTest (tOp (uNe K) (tMth P w K mg base "applied" 29 E (tVar 0) (tCons (tVar 8) (tNil))) (tVar 4))) (tRet (tC (.bl false))) (tNext)) (tSeq (tDrop (tBM K "list" rAppend (tVar 8) (tCons (tC (.str "new")) (tNil)))) (tSeq (tDrop (tBM0 K "list" rReverse (tVar 8))) (tRet (tAndV (tOp (uEq K) (tCB (cRepr K) (tCons (tVar 9) tNil)) (tCB (cRepr K) (tCons (tVar 6) tNil))) (tAndV (tOp (uEq K) (tCB (cRepr K) (tCons (tMth P w K mg base "taken_back" 29 E (tVar 0) (tCons (tVar 4) (tNil))) tNil)) (tCB (cRepr K) (tCons (tVar 6) tNil))) (tOp (uEq K) (tCB (cRepr K) (tCons (tVar 4) tNil)) (tVar 5))))))))))))
theorem d_law_row_right {P : Program} {w : World} {K : PySem.W.Frag} {mg : Str → Option Value} {base : Heap} {A : Ads} {f : Addr} {cdv : Value} {Ar : Around} {outer : List Env} {s : Shared} {H : Hp} {E : XK} (G : Gm P K mg A) (hr : Room 29 (Ar.deeper (envOfC "_law_row_right" (defScope s_law_row_right) s.heap.objs.size f cdv))) (qt : Quiet 29 (Ar.deeper (envOfC "_law_row_right" (defScope s_law_row_right) s.heap.objs.size f cdv))) :
    PSs (cxOf (L2.CX P w) P w K mg base N_law_row_right "_law_row_right" (defScope s_law_row_right) f cdv Ar outer s H E) (defBody s_law_row_right) (t_law_row_right P w K mg base A fun _ => E) := by
  have sc := sc_law_row_right
  have tk : Takes (cxOf (L2.CX P w) P w K mg base N_law_row_right "_law_row_right" (defScope s_law_row_right) f cdv Ar outer s H E) (fun cls d _ H => E cls d H) := takes_of rfl rfl rfl rfl
  have at_ : At (cxOf (L2.CX P w) P w K mg base N_law_row_right "_law_row_right" (defScope s_law_row_right) f cdv Ar outer s H E) 29 (fun _ => E) := At.of hr qt tk
  have pn : PassesOwn (model P w) (cxOf (L2.CX P w) P w K mg base N_law_row_right "_law_row_right" (defScope s_law_row_right) f cdv Ar outer s H E).A (cxOf (L2.CX P w) P w K mg base N_law_row_right "_law_row_right" (defScope s_law_row_right) f cdv Ar outer s H E).env (cxOf (L2.CX P w) P w K mg base N_law_row_right "_law_row_right" (defScope s_law_row_right) f cdv Ar outer s H E).xe := passes_of rfl
  exact pss_cons (ps_par rfl sc.nd rfl rfl (by decide) rfl rfl (pa_cons (pe_callB (call_cRepr hr qt) (by rfl) G.g_repr (by decide +kernel) (pa_cons (pv 4) pa_nil)) (pa_cons (pe_fn at_ (by rfl) (pa_cons (pv 1) (pa_cons (pv 2) (pa_cons (pv 3) (pa_cons (pv 4) (pa_nil)))))) (pa_nil))) (by rfl)) (pss_cons (ps_set (i := 7) sc.nd rfl (by first | exact Or.inl rfl | exact Or.inr rfl) (pe_ifExp (pt_cmpR op_uIs (pv 6) (pe_non) (nomark _)) (pe_tup (pa_cons (pe_str) (pa_cons (pv 2) (pa_nil)))) (pv 6))) (pss_cons (ps_par rfl sc.nd rfl rfl (by decide) rfl rfl (pa_cons (pe_fn at_ (by rfl) (pa_cons (pv 0) (pa_cons (pv 4) (pa_cons (pe_bl) (pa_nil))))) (pa_cons (pe_fn at_ (by rfl) (pa_cons (pv 0) (pa_cons (pv 4) (pa_cons (pe_bl) (pa_nil))))) (pa_nil))) (by rfl)) (pss_cons (ps_if (PW.pt (pw_or (pt_cmpR (op_uNe hr) (pe_callB (call_cRepr hr qt) (by rfl) G.g_repr (by decide +kernel) (pa_cons (pe_lst (pa_cons (pv 8) (pa_cons (pv 9) (pa_nil)))) pa_nil)) (pe_callB (call_cRepr hr qt) (by rfl) G.g_repr (by decide +kernel) (pa_cons (pe_lst (pa_cons (pv 7) (pa_cons (pv 7) (pa_nil)))) pa_nil)) (nomark _)) (pw_or1 (pt_cmpR (op_uNe hr) (pe_callB (call_cRepr hr qt) (by rfl) G.g_repr (by decide +kernel) (pa_cons (pv 4) pa_nil)) (pv 5) (nomark _))))) (pss_one (ps_ret (pe_bl))) (pss_nil)) (pss_cons (ps_if (pt_cmpR op_uIs (pv 6) (pe_non) (nomark _)) (pss_one (ps_ret (pe_bl))) (pss_nil)) (pss_cons (ps_if (pt_cmpR (op_uNe hr) (pe_mth at_ (pv 0) (pa_cons (pv 8) (pa_nil))) (pv 4) (nomark _)) (pss_one (ps_ret (pe_bl))) (pss_nil)) (pss_cons (ps_expr (pe_bm PySem.F.plainAttrs_list PySem.F.slot_list_append PySem.F.type_list_append mt_append (pv 8) (pa_cons (pe_str) (pa_nil)))) (pss_cons (ps_expr (pe_bm0 PySem.F.plainAttrs_list PySem.F.slot_list_reverse PySem.F.type_list_reverse mt_reverse (pv 8))) (pss_one (ps_ret (pe_and (pe_cmpR (op_uEq hr) (pe_callB (call_cRepr hr qt) (by rfl) G.g_repr (by decide +kernel) (pa_cons (pv 9) pa_nil)) (pe_callB (call_cRepr hr qt) (by rfl) G.g_repr (by decide +kernel) (pa_cons (pv 6) pa_nil)) (nomark _)) (pe_and (pe_cmpR (op_uEq hr) (pe_callB (call_cRepr hr qt) (by rfl) G.g_repr (by decide +kernel) (pa_cons (pe_mth at_ (pv 0) (pa_cons (pv 4) (pa_nil))) pa_nil)) (pe_callB (call_cRepr hr qt) (by rfl) G.g_repr (by decide +kernel) (pa_cons (pv 6) pa_nil)) (nomark _)) (pe_one (pe_cmpR (op_uEq hr) (pe_callB (call_cRepr hr qt) (by rfl) G.g_repr (by decide +kernel) (pa_cons (pv 4) pa_nil)) (pv 5) (nomark _))))))))))))))
abbrev N_law : List Str := ["_law_script", "_law_k", "_law_source_here", "_law_turn", "_law_shelf_here", "_law_spare", "_law_step", "_law_way", "_law_name", "_law_place", "_law_row", "_law_bad", "_law_here"]
abbrev ps_law : List Str := ["_law_script"]
theorem sc_law : FnScope N_law ["_law_script"] (defScope s_law) := ⟨rfl, rfl, rfl, by decide +kernel, rfl, by decide +kernel, by decide +kernel⟩
def t_law (P : Program) (w : World) (K : PySem.W.Frag) (mg : Str → Option Value) (base : Heap) (A : Ads) (E : XS) : TS :=
  tSeq (tFor (iRng1 (tCons (tCB (cMax K) (tCons (tC (.int 1)) (tCons (tCB (cMin K) (tCons (tC (.int 4)) (tCons (tCB (cLen K) (tCons (tVar 0) (tNil))) (tNil)))) (tNil)))) (tNil))) (gName 1) (tSeq (tAsg (tFn P w K mg base "_law_source" 31 E (tCons (tVar 0) (tCons (tVar 1) (tNil)))) (gName 2)) (tFor (iRng1 (tCons (tC (.int 12)) (tNil))) (gName 3) (tSeq (tAsg (tFn P w K mg base "_law_shelf" 31 E (tCons (tVar 2) (tCons (tC (.int 60)) (tNil)))) (gTup K 2 (gCons (gName 4) (gCons (gName 5) (gNil))))) (tSeq (tFor (iRng1 (tCons (tC (.int 3)) (tNil))) (gName 6) (tSeq (tAsg (tFn P w K mg base "_law_case" 31 E (tCons (tVar 2) (tCons (tVar 4) (tCons (tVar 5) (tNil))))) (gTup K 3 (gCons (gName 7) (gCons (gName 8) (gCons (gName 9) (gNil)))))) (tSeq (tIfS (tAnd (tTest (tOp (uEq K) (tVar 7) (tC (.int 2)))) (tAnd (tTest (tOp (uNe K) (tVar 4) (tLst (tNil)))) (tTest (tOp (uEq K) (tFn P w K mg base "_law_pick" 31 E (tCons (tVar 2) (tCons (tC (.int 2)) (tNil)))) (tC (.int 0)))))) (tAsg (tOp (uIx K) (tVar 4) (tC (.int 0))) (gName 8)) (tNext)) (tSeq (tIfS (tAnd (tTest (tOp (uEq K) (tVar 7) (tC (.int 1)))) (tTest (tOp (uEq K) (tFn P w K mg base "_law_pick" 31 E (tCons (tVar 2) (tCons (tC (.int 2)) (tNil)))) (tC (.int 0))))) (tAsg (tOp (uIx K) (tVar 5) (tC (.int 1))) (gName 8)) (tNext)) (tSeq (tAsg (tFn P w K mg base "_law_make" 31 E (tCons (tVar 7) (tCons (tVar 8) (tCons (tVar 9) (tNil))))) (gName 10)) (tSeq (tIfS (tNot (tB (tFn P w K mg base "_law_row_right" 31 E (tCons (tVar 10) (tCons (tVar 7) (tCons (tVar 8) (tCons (tVar 9) (tCons (tVar 4) (tNil))))))))) (tRet (tC (.bl false))) (tNext)) (tSeq (tAsg (tFn P w K mg base "_law_no_shelves" 31 E (tCons (tVar 2) (tCons (tVar 4) (tNil)))) (gName 11)) (tSeq (tIfS (tOr (tTest (tOp (uNe K) (tFn P w K mg base "_law_told" 31 E (tCons (tVar 10) (tCons (tVar 11) (tCons (tC (.bl false)) (tNil))))) (tC (.str "list")))) (tTest (tOp (uNe K) (tFn P w K mg base "_law_told" 31 E (tCons (tVar 10) (tCons (tVar 11) (tCons (tC (.bl true)) (tNil))))) (tC (.str "list"))))) (tRet (tC (.bl false))) (tNext)) (tSeq (tDrop (tBM0 K "list" rReverse (tVar 4))) (tIfS (tAnd (tTest (tOp uLt (tCB (cLen K) (tCons (tVar 4) (tNil))) (tC (.int 60)))) (tTest (tOp (uEq K) (tVar 6) (tC (.int 1))))) (tDrop (tBM K "list" rAppend (tVar 4) (tCons (tOp (uIx K) (tVar 5) (tC (.int 3))) (tNil)))) (tNext))))))))))) (tSeq (tAsg (tFn P w K mg base "_law_case" 31 E (tCons (tVar 2) (tCons (tVar 4) (tCons (tVar 5) (tNil))))) (gTup K 3 (gCons (gName 7) (gCons (gName 8) (gCons (gName 9) (gNil)))))) (tSeq (tAsg (tFn P w K mg base "_law_make" 31 E (tCons (tVar 7) (tCons (tVar 8) (tCons (tVar 9) (tNil))))) (gName 10)) (tFor (iList K (tLst (tCons (tVar 4) (tCons (tRevL K (tVar 4)) (tCons (tSl (rSlL K) (tVar 4) (tPart (tC (.int 1))) (tNoPart)) (tCons (tVar 4) (tCons (tOp uAdd (tSl (rSlL K) (tVar 4) (tNoPart) (tPart (tUn uNeg (tC (.int 1))))) (tSl (rSlL K) (tVar 5) (tPart (tC (.int 1))) (tPart (tC (.int 2))))) (tCons (tRevL K (tVar 4)) (tCons (tVar 5) (tNil)))))))))) (gName 12) (tIfS (tNot (tB (tFn P w K mg base "_law_row_right" 31 E (tCons (tVar 10) (tCons (tVar 7) (tCons (tVar 8) (tCons (tVar 9) (tCons (tVar 12) (tNil))))))))) (tRet (tC (.bl false))) (tNext)))))))))) (tRet (tAndV (tOp (uEq K) (tMth P w K mg base "taken_back" 31 E (tMkr P w K mg base "Fronted" 31 E (tCons (tC (.str "b")) (tCons (tC (.int 1)) (tNil)))) (tCons (tLst (tCons (tC (.str "b")) (tCons (tC (.str "a")) (tNil)))) (tNil))) (tLst (tCons (tC (.str "a")) (tCons (tC (.str "b")) (tNil))))) (tOp (uEq K) (tMth P w K mg base "taken_back" 31 E (tMkr P w K mg base "Removed" 31 E (tCons (tC (.str "x")) (tCons (tC (.int 0)) (tNil)))) (tCons (tLst (tNil)) (tNil))) (tLst (tCons (tC (.str "x")) (tNil))))))
theorem d_law {P : Program} {w : World} {K : PySem.W.Frag} {mg : Str → Option Value} {base : Heap} {A : Ads} {f : Addr} {cdv : Value} {Ar : Around} {outer : List Env} {s : Shared} {H : Hp} {E : XK} (G : Gm P K mg A) (hr : Room 31 (Ar.deeper (envOfC "law" (defScope s_law) s.heap.objs.size f cdv))) (qt : Quiet 31 (Ar.deeper (envOfC "law" (defScope s_law) s.heap.objs.size f cdv))) :
    PSs (cxOf (L2.CX P w) P w K mg base N_law "law" (defScope s_law) f cdv Ar outer s H E) (defBody s_law) (t_law P w K mg base A fun _ => E) := by
  have sc := sc_law
  have tk : Takes (cxOf (L2.CX P w) P w K mg base N_law "law" (defScope s_law) f cdv Ar outer s H E) (fun cls d _ H => E cls d H) := takes_of rfl rfl rfl rfl
  have at_ : At (cxOf (L2.CX P w) P w K mg base N_law "law" (defScope s_law) f cdv Ar outer s H E) 31 (fun _ => E) := At.of hr qt tk
  have pn : PassesOwn (model P w) (cxOf (L2.CX P w) P w K mg base N_law "law" (defScope s_law) f cdv Ar outer s H E).A (cxOf (L2.CX P w) P w K mg base N_law "law" (defScope s_law) f cdv Ar outer s H E).env (cxOf (L2.CX P w) P w K mg base N_law "law" (defScope s_law) f cdv Ar outer s H E).xe := passes_of rfl
  exact pss_cons (ps_for pn rfl (pi_range1 (by rfl) G.g_range (pa_cons (pe_callB (call_cMax rfl) (by rfl) G.g_max (by decide +kernel) (pa_cons (pe_int) (pa_cons (pe_callB (call_cMin rfl) (by rfl) G.g_min (by decide +kernel) (pa_cons (pe_int) (pa_cons (pe_callB call_cLen (by rfl) G.g_len (by decide +kernel) (pa_cons (pv 0) (pa_nil))) (pa_nil)))) (pa_nil)))) (pa_nil))) (pg_name (i := 1) sc.nd rfl (by first | exact Or.inl rfl | exact Or.inr rfl)) (pss_cons (ps_set (i := 2) sc.nd rfl (by first | exact Or.inl rfl | exact Or.inr rfl) (pe_fn at_ (by rfl) (pa_cons (pv 0) (pa_cons (pv 1) (pa_nil))))) (pss_one (ps_for pn rfl (pi_range1 (by rfl) G.g_range (pa_cons (pe_int) (pa_nil))) (pg_name (i := 3) sc.nd rfl (by first | exact Or.inl rfl | exact Or.inr rfl)) (pss_cons (ps_asg (pe_fn at_ (by rfl) (pa_cons (pv 2) (pa_cons (pe_int) (pa_nil)))) (pg_tup rfl (pgs_cons (pg_name (i := 4) sc.nd rfl (by first | exact Or.inl rfl | exact Or.inr rfl)) (pgs_cons (pg_name (i := 5) sc.nd rfl (by first | exact Or.inl rfl | exact Or.inr rfl)) (pgs_nil))))) (pss_cons (ps_for pn rfl (pi_range1 (by rfl) G.g_range (pa_cons (pe_int) (pa_nil))) (pg_name (i := 6) sc.nd rfl (by first | exact Or.inl rfl | exact Or.inr rfl)) (pss_cons (ps_asg (pe_fn at_ (by rfl) (pa_cons (pv 2) (pa_cons (pv 4) (pa_cons (pv 5) (pa_nil))))) (pg_tup rfl (pgs_cons (pg_name (i := 7) sc.nd rfl (by first | exact Or.inl rfl | exact Or.inr rfl)) (pgs_cons (pg_name (i := 8) sc.nd rfl (by first | exact Or.inl rfl | exact Or.inr rfl)) (pgs_cons (pg_name (i := 9) sc.nd rfl (by first | exact Or.inl rfl | exact Or.inr rfl)) (pgs_nil)))))) (pss_cons (ps_if (PW.pt (pw_and (pt_cmpR (op_uEq hr) (pv 7) (pe_int) (nomark _)) (pw_and (pt_cmpR (op_uNe hr) (pv 4) (pe_lst (pa_nil)) (nomark _)) (pw_and1 (pt_cmpR (op_uEq hr) (pe_fn at_ (by rfl) (pa_cons (pv 2) (pa_cons (pe_int) (pa_nil)))) (pe_int) (nomark _)))))) (pss_one (ps_set (i := 8) sc.nd rfl (by first | exact Or.inl rfl | exact Or.inr rfl) (pe_ix ix_u (pv 4) (pe_int) (fun _ _ => rfl)))) (pss_nil)) (pss_cons (ps_if (PW.pt (pw_and (pt_cmpR (op_uEq hr) (pv 7) (pe_int) (nomark _)) (pw_and1 (pt_cmpR (op_uEq hr) (pe_fn at_ (by rfl) (pa_cons (pv 2) (pa_cons (pe_int) (pa_nil)))) (pe_int) (nomark _))))) (pss_one (ps_set (i := 8) sc.nd rfl (by first | exact Or.inl rfl | exact Or.inr rfl) (pe_ix ix_u (pv 5) (pe_int) (fun _ _ => rfl)))) (pss_nil)) (pss_cons (ps_set (i := 10) sc.nd rfl (by first | exact Or.inl rfl | exact Or.inr rfl) (pe_fn at_ (by rfl) (pa_cons (pv 7) (pa_cons (pv 8) (pa_cons (pv 9) (pa_nil)))))) (pss_cons (ps_if (pt_not (pt_val (pe_fn at_ (by rfl) (pa_cons (pv 10) (pa_cons (pv 7) (pa_cons (pv 8) (pa_cons (pv 9) (pa_cons (pv 4) (pa_nil))))))))) (pss_one (ps_ret (pe_bl))) (pss_nil)) (pss_cons (ps_set (i := 11) sc.nd rfl (by first | exact Or.inl rfl | exact Or.inr rfl) (pe_fn at_ (by rfl) (pa_cons (pv 2) (pa_cons (pv 4) (pa_nil))))) (pss_cons (ps_if (PW.pt (pw_or (pt_cmpR (op_uNe hr) (pe_fn at_ (by rfl) (pa_cons (pv 10) (pa_cons (pv 11) (pa_cons (pe_bl) (pa_nil))))) (pe_str) (nomark _)) (pw_or1 (pt_cmpR (op_uNe hr) (pe_fn at_ (by rfl) (pa_cons (pv 10) (pa_cons (pv 11) (pa_cons (pe_bl) (pa_nil))))) (pe_str) (nomark _))))) (pss_one (ps_ret (pe_bl))) (pss_nil)) (pss_cons (ps_expr (pe_bm0 PySem.F.plainAttrs_list PySem.F.slot_list_reverse PySem.F.type_list_reverse mt_reverse (pv 4))) (pss_one (ps_if (PW.pt (pw_and (pt_cmpR op_uLt (pe_callB call_cLen (by rfl) G.g_len (by decide +kernel) (pa_cons (pv 4) (pa_nil))) (pe_int) (nomark _)) (pw_and1 (pt_cmpR (op_uEq hr) (pv 6) (pe_int) (nomark _))))) (pss_one (ps_expr (pe_bm PySem.F.plainAttrs_list PySem.F.slot_list_append PySem.F.type_list_append mt_append (pv 4) (pa_cons (pe_ix ix_u (pv 5) (pe_int) (fun _ _ => rfl)) (pa_nil))))) (pss_nil)))))))))))) (pss_cons (ps_asg (pe_fn at_ (by rfl) (pa_cons (pv 2) (pa_cons (pv 4) (pa_cons (pv 5) (pa_nil))))) (pg_tup rfl (pgs_cons (pg_name (i := 7) sc.nd rfl (by first | exact Or.inl rfl | exact Or.inr rfl)) (pgs_cons (pg_name (i := 8) sc.nd rfl (by first | exact Or.inl rfl | exact Or.inr rfl)) (pgs_cons (pg_name (i := 9) sc.nd rfl (by first | exact Or.inl rfl | exact Or.inr rfl)) (pgs_nil)))))) (pss_cons (ps_set (i := 10) sc.nd rfl (by first | exact Or.inl rfl | exact Or.inr rfl) (pe_fn at_ (by rfl) (pa_cons (pv 7) (pa_cons (pv 8) (pa_cons (pv 9) (pa_nil)))))) (pss_one (ps_for pn rfl (pi_list (pe_lst (pa_cons (pv 4) (pa_cons (pe_revL (pv 4)) (pa_cons (pe_slice sl_list (pv 4) (po_some (pe_int)) (po_none)) (pa_cons (pv 4) (pa_cons (pe_op op_uAdd (pe_slice sl_list (pv 4) (po_none) (po_some (pe_un un_uNeg (pe_int)))) (pe_slice sl_list (pv 5) (po_some (pe_int)) (po_some (pe_int)))) (pa_cons (pe_revL (pv 4)) (pa_cons (pv 5) (pa_nil)))))))))) (pg_name (i := 12) sc.nd rfl (by first | exact Or.inl rfl | exact Or.inr rfl)) (pss_one (ps_if (pt_not (pt_val (pe_fn at_ (by rfl) (pa_cons (pv 10) (pa_cons (pv 7) (pa_cons (pv 8) (pa_cons (pv 9) (pa_cons (pv 12) (pa_nil))))))))) (pss_one (ps_ret (pe_bl))) (pss_nil))))))))))))) (pss_one (ps_ret (pe_and (pe_cmpR (op_uEq hr) (pe_mth at_ (pe_mkr at_ (by rfl) (pa_cons (pe_str) (pa_cons (pe_int) (pa_nil)))) (pa_cons (pe_lst (pa_cons (pe_str) (pa_cons (pe_str) (pa_nil)))) (pa_nil))) (pe_lst (pa_cons (pe_str) (pa_cons (pe_str) (pa_nil)))) (nomark _)) (pe_one (pe_cmpR (op_uEq hr) (pe_mth at_ (pe_mkr at_ (by rfl) (pa_cons (pe_str) (pa_cons (pe_int) (pa_nil)))) (pa_cons (pe_lst (pa_nil)) (pa_nil))) (pe_lst (pa_cons (pe_str) (pa_nil))) (nomark _))))))
theorem sc_Impossible_init : FnScope ["self", "reason"] ["self", "reason"] (defScope s_Impossible_init) := ⟨rfl, rfl, rfl, by decide +kernel, rfl, by decide +kernel, by decide +kernel⟩
theorem xi_Impossible_init {P : Program} {w : World} {K : PySem.W.Frag} {mg : Str → Option Value} {base : Heap} {fa C B : Addr} {fd : FuncData} {mc : Value} (F : Fun K "__init__" "Impossible.__init__" s_Impossible_init fa fd) (T : OexC K C) (n : PySem.W.findIn K (.ref C) "reason" = some none) (gB : mg "LogError" = some (.ref B)) (r : CRead K B mc) (vV : PySem.W.findCls K (.ref B) mc "__init__" = some (.val (.builtin "ValueError.__init__"))) : FnOk P w K mg base (L2.CX P w) 2 fa fd ["self", "reason"] (spX C "reason") := by
  obtain ⟨oc, od, kV, doc, pm, an, cdv, ct, osl, rfl, lk, hcd⟩ := F.ex
  have sc := sc_Impossible_init
  refine fn_of (k := 1) (N := ["self", "reason"]) lk hcd sc (fun vs H Q E h => ?_) (fun A outer s H vs Q E hr h => ?_)
  · obtain ⟨a, y, rfl, _⟩ := h; rfl
  · exact ⟨_, pss_cons (ps_expr (pe_binit (by rfl) gB r vV (pa_cons (pv 0) (pa_cons pe_str pa_nil)))) (pss_one (ps_ost (pv 0) (pv 1))), init_pur T n h⟩
structure Tx (P : Program) (K : PySem.W.Frag) (mg : Str → Option Value) (A : Ads) : Prop where
  G : Gm P K mg A
  cls_Inserted : Cls K A.cInserted
  ty_Inserted : InsTy K A.cInserted
  made_Inserted : Dk K mg "Inserted" A.cInserted "Record.__init__" s_Record_init ["self", "item", "slot"]
  n_Inserted_held_item : NoAttr K A.cInserted "held_item"
  n_Inserted_held_slot : NoAttr K A.cInserted "held_slot"
  con_Inserted_SIGN : ∃ u, Con K A.cInserted "SIGN" (.str "+") u
  prop_Inserted_item : ∃ p g fd, PropOf K A.cInserted "item" p g ∧ Fun K "item" "Record.item" s_Record_item g fd ∧ Binds K fd ["self"] []
  prop_Inserted_slot : ∃ p g fd, PropOf K A.cInserted "slot" p g ∧ Fun K "slot" "Record.slot" s_Record_slot g fd ∧ Binds K fd ["self"] []
  m_Inserted_can_apply : Dm K A.cInserted "can_apply" "Inserted.can_apply" s_Inserted_can_apply ["self", "items"]
  m_Inserted_can_end : Dm K A.cInserted "can_end" "Inserted.can_end" s_Inserted_can_end ["self", "items"]
  m_Inserted_after : Dm K A.cInserted "after" "Inserted.after" s_Inserted_after ["self", "items"]
  m_Inserted_before : Dm K A.cInserted "before" "Inserted.before" s_Inserted_before ["self", "items"]
  m_Inserted_applies : Dm K A.cInserted "applies" "Record.applies" s_Record_applies ["self", "items"]
  m_Inserted_applied : Dm K A.cInserted "applied" "Record.applied" s_Record_applied ["self", "items"]
  m_Inserted_taken_back : Dm K A.cInserted "taken_back" "Record.taken_back" s_Record_taken_back ["self", "items"]
  m_Inserted_stands : Dm K A.cInserted "stands" "Record.stands" s_Record_stands ["self", "items"]
  m_Inserted_has_room : Dm K A.cInserted "has_room" "Record.has_room" s_Record_has_room ["self", "items"]
  m_Inserted_others : Dm K A.cInserted "others" "Record.others" s_Record_others ["self", "items"]
  m_Inserted_put_in : Dm K A.cInserted "put_in" "Record.put_in" s_Record_put_in ["self", "items"]
  cls_Removed : Cls K A.cRemoved
  ty_Removed : InsTy K A.cRemoved
  made_Removed : Dk K mg "Removed" A.cRemoved "Record.__init__" s_Record_init ["self", "item", "slot"]
  n_Removed_held_item : NoAttr K A.cRemoved "held_item"
  n_Removed_held_slot : NoAttr K A.cRemoved "held_slot"
  con_Removed_SIGN : ∃ u, Con K A.cRemoved "SIGN" (.str "-") u
  prop_Removed_item : ∃ p g fd, PropOf K A.cRemoved "item" p g ∧ Fun K "item" "Record.item" s_Record_item g fd ∧ Binds K fd ["self"] []
  prop_Removed_slot : ∃ p g fd, PropOf K A.cRemoved "slot" p g ∧ Fun K "slot" "Record.slot" s_Record_slot g fd ∧ Binds K fd ["self"] []
  m_Removed_can_apply : Dm K A.cRemoved "can_apply" "Removed.can_apply" s_Removed_can_apply ["self", "items"]
  m_Removed_can_end : Dm K A.cRemoved "can_end" "Removed.can_end" s_Removed_can_end ["self", "items"]
  m_Removed_after : Dm K A.cRemoved "after" "Removed.after" s_Removed_after ["self", "items"]
  m_Removed_before : Dm K A.cRemoved "before" "Removed.before" s_Removed_before ["self", "items"]
  m_Removed_applies : Dm K A.cRemoved "applies" "Record.applies" s_Record_applies ["self", "items"]
  m_Removed_applied : Dm K A.cRemoved "applied" "Record.applied" s_Record_applied ["self", "items"]
  m_Removed_taken_back : Dm K A.cRemoved "taken_back" "Record.taken_back" s_Record_taken_back ["self", "items"]
  m_Removed_stands : Dm K A.cRemoved "stands" "Record.stands" s_Record_stands ["self", "items"]
  m_Removed_has_room : Dm K A.cRemoved "has_room" "Record.has_room" s_Record_has_room ["self", "items"]
  m_Removed_others : Dm K A.cRemoved "others" "Record.others" s_Record_others ["self", "items"]
  m_Removed_put_in : Dm K A.cRemoved "put_in" "Record.put_in" s_Record_put_in ["self", "items"]
  cls_Fronted : Cls K A.cFronted
  ty_Fronted : InsTy K A.cFronted
  made_Fronted : Dk K mg "Fronted" A.cFronted "Record.__init__" s_Record_init ["self", "item", "slot"]
  n_Fronted_held_item : NoAttr K A.cFronted "held_item"
  n_Fronted_held_slot : NoAttr K A.cFronted "held_slot"
  con_Fronted_SIGN : ∃ u, Con K A.cFronted "SIGN" (.str "^") u
  prop_Fronted_item : ∃ p g fd, PropOf K A.cFronted "item" p g ∧ Fun K "item" "Record.item" s_Record_item g fd ∧ Binds K fd ["self"] []
  prop_Fronted_slot : ∃ p g fd, PropOf K A.cFronted "slot" p g ∧ Fun K "slot" "Record.slot" s_Record_slot g fd ∧ Binds K fd ["self"] []
  m_Fronted_can_apply : Dm K A.cFronted "can_apply" "Fronted.can_apply" s_Fronted_can_apply ["self", "items"]
  m_Fronted_can_end : Dm K A.cFronted "can_end" "Fronted.can_end" s_Fronted_can_end ["self", "items"]
  m_Fronted_after : Dm K A.cFronted "after" "Fronted.after" s_Fronted_after ["self", "items"]
  m_Fronted_before : Dm K A.cFronted "before" "Fronted.before" s_Fronted_before ["self", "items"]
  m_Fronted_applies : Dm K A.cFronted "applies" "Record.applies" s_Record_applies ["self", "items"]
  m_Fronted_applied : Dm K A.cFronted "applied" "Record.applied" s_Record_applied ["self", "items"]
  m_Fronted_taken_back : Dm K A.cFronted "taken_back" "Record.taken_back" s_Record_taken_back ["self", "items"]
  m_Fronted_stands : Dm K A.cFronted "stands" "Record.stands" s_Record_stands ["self", "items"]
  m_Fronted_has_room : Dm K A.cFronted "has_room" "Record.has_room" s_Record_has_room ["self", "items"]
  m_Fronted_others : Dm K A.cFronted "others" "Record.others" s_Record_others ["self", "items"]
  m_Fronted_put_in : Dm K A.cFronted "put_in" "Record.put_in" s_Record_put_in ["self", "items"]
  cls_Record : Cls K A.cRecord
  ty_Record : InsTy K A.cRecord
  made_Record : Dk K mg "Record" A.cRecord "Record.__init__" s_Record_init ["self", "item", "slot"]
  n_Record_held_item : NoAttr K A.cRecord "held_item"
  n_Record_held_slot : NoAttr K A.cRecord "held_slot"
  con_Record_SIGN : ∃ u, Con K A.cRecord "SIGN" (.str "") u
  prop_Record_item : ∃ p g fd, PropOf K A.cRecord "item" p g ∧ Fun K "item" "Record.item" s_Record_item g fd ∧ Binds K fd ["self"] []
  prop_Record_slot : ∃ p g fd, PropOf K A.cRecord "slot" p g ∧ Fun K "slot" "Record.slot" s_Record_slot g fd ∧ Binds K fd ["self"] []
  m_Record_can_apply : Dm K A.cRecord "can_apply" "Record.can_apply" s_Record_can_apply ["self", "items"]
  m_Record_can_end : Dm K A.cRecord "can_end" "Record.can_end" s_Record_can_end ["self", "items"]
  m_Record_after : Dm K A.cRecord "after" "Record.after" s_Record_after ["self", "items"]
  m_Record_before : Dm K A.cRecord "before" "Record.before" s_Record_before ["self", "items"]
  m_Record_applies : Dm K A.cRecord "applies" "Record.applies" s_Record_applies ["self", "items"]
  m_Record_applied : Dm K A.cRecord "applied" "Record.applied" s_Record_applied ["self", "items"]
  m_Record_taken_back : Dm K A.cRecord "taken_back" "Record.taken_back" s_Record_taken_back ["self", "items"]
  m_Record_stands : Dm K A.cRecord "stands" "Record.stands" s_Record_stands ["self", "items"]
  m_Record_has_room : Dm K A.cRecord "has_room" "Record.has_room" s_Record_has_room ["self", "items"]
  m_Record_others : Dm K A.cRecord "others" "Record.others" s_Record_others ["self", "items"]
  m_Record_put_in : Dm K A.cRecord "put_in" "Record.put_in" s_Record_put_in ["self", "items"]
  cv_Record_MOST : ∃ mc u, CRead K A.cRecord mc ∧ CVal K A.cRecord mc "MOST" (.int 60) u
  so_Inserted_list : PySem.W.kitOne K (.ref A.cInserted) (.type "list") = some false
  so_Inserted_str : PySem.W.kitOne K (.ref A.cInserted) (.type "str") = some false
  so_Removed_list : PySem.W.kitOne K (.ref A.cRemoved) (.type "list") = some false
  so_Removed_str : PySem.W.kitOne K (.ref A.cRemoved) (.type "str") = some false
  so_Fronted_list : PySem.W.kitOne K (.ref A.cFronted) (.type "list") = some false
  so_Fronted_str : PySem.W.kitOne K (.ref A.cFronted) (.type "str") = some false
  so_Record_list : PySem.W.kitOne K (.ref A.cRecord) (.type "list") = some false
  so_Record_str : PySem.W.kitOne K (.ref A.cRecord) (.type "str") = some false
  xc_Impossible : ExcC K A.cImpossible
  xk_Impossible_NoItem : PySem.W.kitOne K (.ref A.cImpossible) (.ref A.cNoItem) = some false
  xk_Impossible_NoIndex : PySem.W.kitOne K (.ref A.cImpossible) (.ref A.cNoIndex) = some false
  xk_Impossible_NoList : PySem.W.kitOne K (.ref A.cImpossible) (.ref A.cNoList) = some false
  xk_Impossible_NoLog : PySem.W.kitOne K (.ref A.cImpossible) (.ref A.cNoLog) = some false
  xk_Impossible_NoSeen : PySem.W.kitOne K (.ref A.cImpossible) (.ref A.cNoSeen) = some false
  xk_Impossible_NoClients : PySem.W.kitOne K (.ref A.cImpossible) (.ref A.cNoClients) = some false
  xk_Impossible_NoNumber : PySem.W.kitOne K (.ref A.cImpossible) (.ref A.cNoNumber) = some false
  xk_Impossible_NoPosition : PySem.W.kitOne K (.ref A.cImpossible) (.ref A.cNoPosition) = some false
  xk_Impossible_Nothing : PySem.W.kitOne K (.ref A.cImpossible) (.ref A.cNothing) = some false
  xk_Impossible_Impossible : PySem.W.kitOne K (.ref A.cImpossible) (.ref A.cImpossible) = some true
  xk_Impossible_TooMany : PySem.W.kitOne K (.ref A.cImpossible) (.ref A.cTooMany) = some false
  xk_Impossible_NoText : PySem.W.kitOne K (.ref A.cImpossible) (.ref A.cNoText) = some false
  xq_Impossible_ValueError : PySem.W.kitOne K (.ref A.cImpossible) (.type "ValueError") = some true
  xm_LogError_Impossible : PySem.W.exmOne K (.ref A.cImpossible) (.ref A.cLogError) = some true
  xa_Impossible : XfC K A.cImpossible ∧ PySem.W.findIn K (.ref A.cImpossible) "reason" = some none
  xc_NoIndex : ExcC K A.cNoIndex
  xk_NoIndex_NoItem : PySem.W.kitOne K (.ref A.cNoIndex) (.ref A.cNoItem) = some false
  xk_NoIndex_NoIndex : PySem.W.kitOne K (.ref A.cNoIndex) (.ref A.cNoIndex) = some true
  xk_NoIndex_NoList : PySem.W.kitOne K (.ref A.cNoIndex) (.ref A.cNoList) = some false
  xk_NoIndex_NoLog : PySem.W.kitOne K (.ref A.cNoIndex) (.ref A.cNoLog) = some false
  xk_NoIndex_NoSeen : PySem.W.kitOne K (.ref A.cNoIndex) (.ref A.cNoSeen) = some false
  xk_NoIndex_NoClients : PySem.W.kitOne K (.ref A.cNoIndex) (.ref A.cNoClients) = some false
  xk_NoIndex_NoNumber : PySem.W.kitOne K (.ref A.cNoIndex) (.ref A.cNoNumber) = some false
  xk_NoIndex_NoPosition : PySem.W.kitOne K (.ref A.cNoIndex) (.ref A.cNoPosition) = some false
  xk_NoIndex_Nothing : PySem.W.kitOne K (.ref A.cNoIndex) (.ref A.cNothing) = some false
  xk_NoIndex_Impossible : PySem.W.kitOne K (.ref A.cNoIndex) (.ref A.cImpossible) = some false
  xk_NoIndex_TooMany : PySem.W.kitOne K (.ref A.cNoIndex) (.ref A.cTooMany) = some false
  xk_NoIndex_NoText : PySem.W.kitOne K (.ref A.cNoIndex) (.ref A.cNoText) = some false
  xq_NoIndex_ValueError : PySem.W.kitOne K (.ref A.cNoIndex) (.type "ValueError") = some true
  xm_LogError_NoIndex : PySem.W.exmOne K (.ref A.cNoIndex) (.ref A.cLogError) = some true
  xc_NoItem : ExcC K A.cNoItem
  xk_NoItem_NoItem : PySem.W.kitOne K (.ref A.cNoItem) (.ref A.cNoItem) = some true
  xk_NoItem_NoIndex : PySem.W.kitOne K (.ref A.cNoItem) (.ref A.cNoIndex) = some false
  xk_NoItem_NoList : PySem.W.kitOne K (.ref A.cNoItem) (.ref A.cNoList) = some false
  xk_NoItem_NoLog : PySem.W.kitOne K (.ref A.cNoItem) (.ref A.cNoLog) = some false
  xk_NoItem_NoSeen : PySem.W.kitOne K (.ref A.cNoItem) (.ref A.cNoSeen) = some false
  xk_NoItem_NoClients : PySem.W.kitOne K (.ref A.cNoItem) (.ref A.cNoClients) = some false
  xk_NoItem_NoNumber : PySem.W.kitOne K (.ref A.cNoItem) (.ref A.cNoNumber) = some false
  xk_NoItem_NoPosition : PySem.W.kitOne K (.ref A.cNoItem) (.ref A.cNoPosition) = some false
  xk_NoItem_Nothing : PySem.W.kitOne K (.ref A.cNoItem) (.ref A.cNothing) = some false
  xk_NoItem_Impossible : PySem.W.kitOne K (.ref A.cNoItem) (.ref A.cImpossible) = some false
  xk_NoItem_TooMany : PySem.W.kitOne K (.ref A.cNoItem) (.ref A.cTooMany) = some false
  xk_NoItem_NoText : PySem.W.kitOne K (.ref A.cNoItem) (.ref A.cNoText) = some false
  xq_NoItem_ValueError : PySem.W.kitOne K (.ref A.cNoItem) (.type "ValueError") = some true
  xm_LogError_NoItem : PySem.W.exmOne K (.ref A.cNoItem) (.ref A.cLogError) = some true
  xc_NoList : ExcC K A.cNoList
  xk_NoList_NoItem : PySem.W.kitOne K (.ref A.cNoList) (.ref A.cNoItem) = some false
  xk_NoList_NoIndex : PySem.W.kitOne K (.ref A.cNoList) (.ref A.cNoIndex) = some false
  xk_NoList_NoList : PySem.W.kitOne K (.ref A.cNoList) (.ref A.cNoList) = some true
  xk_NoList_NoLog : PySem.W.kitOne K (.ref A.cNoList) (.ref A.cNoLog) = some false
  xk_NoList_NoSeen : PySem.W.kitOne K (.ref A.cNoList) (.ref A.cNoSeen) = some false
  xk_NoList_NoClients : PySem.W.kitOne K (.ref A.cNoList) (.ref A.cNoClients) = some false
  xk_NoList_NoNumber : PySem.W.kitOne K (.ref A.cNoList) (.ref A.cNoNumber) = some false
  xk_NoList_NoPosition : PySem.W.kitOne K (.ref A.cNoList) (.ref A.cNoPosition) = some false
  xk_NoList_Nothing : PySem.W.kitOne K (.ref A.cNoList) (.ref A.cNothing) = some false
  xk_NoList_Impossible : PySem.W.kitOne K (.ref A.cNoList) (.ref A.cImpossible) = some false
  xk_NoList_TooMany : PySem.W.kitOne K (.ref A.cNoList) (.ref A.cTooMany) = some false
  xk_NoList_NoText : PySem.W.kitOne K (.ref A.cNoList) (.ref A.cNoText) = some false
  xq_NoList_ValueError : PySem.W.kitOne K (.ref A.cNoList) (.type "ValueError") = some true
  xm_LogError_NoList : PySem.W.exmOne K (.ref A.cNoList) (.ref A.cLogError) = some true
  f_is_integer : Df K mg "is_integer" s_is_integer ["thing", "least", "most"]
  f_is_item : Df K mg "is_item" s_is_item ["thing"]
  f_are_items : Df K mg "are_items" s_are_items ["thing"]
  f_need_items : Df K mg "need_items" s_need_items ["thing"]
  f_law_source : Df K mg "_law_source" s_law_source ["_law_script", "_law_k"]
  f_law_pick : Df K mg "_law_pick" s_law_pick ["_law_source_here", "_law_size"]
  f_law_shuffled : Df K mg "_law_shuffled" s_law_shuffled ["_law_source_here", "_law_row"]
  f_law_names : Df K mg "_law_names" s_law_names ["_law_source_here", "_law_many"]
  f_law_make : Df K mg "_law_make" s_law_make ["_law_way", "_law_name", "_law_place"]
  f_law_class : Df K mg "_law_class" s_law_class ["_law_caught"]
  f_law_undone : Df K mg "_law_undone" s_law_undone ["_law_way", "_law_name", "_law_place", "_law_shelf_here"]
  f_law_shelf : Df K mg "_law_shelf" s_law_shelf ["_law_source_here", "_law_most"]
  f_law_case : Df K mg "_law_case" s_law_case ["_law_source_here", "_law_shelf_here", "_law_spare"]
  f_law_no_shelves : Df K mg "_law_no_shelves" s_law_no_shelves ["_law_source_here", "_law_shelf_here"]
  f_law_told : Df K mg "_law_told" s_law_told ["_law_row", "_law_shelf_here", "_law_by_name"]
  f_law_row_right : Df K mg "_law_row_right" s_law_row_right ["_law_row", "_law_way", "_law_name", "_law_place", "_law_shelf_here"]
  f_law : Df K mg "law" s_law ["_law_script"]
end K
namespace K
open PySem PySem.Spec PyProof.Rows L2 U ClX Z
open Hk He
theorem Ze_ob_eq (s : PySem.W.SharedT) : Ze_ob s = Ze_hk.obs s.abs := obsBG_eq (HandSHeadRun.getT_eq s)
end K
namespace K
open PySem PySem.Spec PyProof.Rows L2 U ClX Z
noncomputable section
def kSub (i j : Nat) : Option Bool := match i, j with

    | _, _ => none
def kSo (i : Nat) (t : String) : Option Bool := match i, t with
    | 0, "list" => some false
    | 0, "str" => some false
    | 1, "list" => some false
    | 1, "str" => some false
    | 2, "list" => some false
    | 2, "str" => some false
    | 3, "list" => some false
    | 3, "str" => some false
    | _, _ => none
def kBo (t : String) (j : Nat) : Option Bool := none
def kXs (i j : Nat) : Option Bool := match i, j with
    | 14, 5 => some false
    | 14, 6 => some false
    | 14, 7 => some false
    | 14, 8 => some false
    | 14, 9 => some false
    | 14, 10 => some false
    | 14, 11 => some false
    | 14, 12 => some false
    | 14, 13 => some false
    | 14, 14 => some true
    | 14, 15 => some false
    | 14, 16 => some false
    | 6, 5 => some false
    | 6, 6 => some true
    | 6, 7 => some false
    | 6, 8 => some false
    | 6, 9 => some false
    | 6, 10 => some false
    | 6, 11 => some false
    | 6, 12 => some false
    | 6, 13 => some false
    | 6, 14 => some false
    | 6, 15 => some false
    | 6, 16 => some false
    | 5, 5 => some true
    | 5, 6 => some false
    | 5, 7 => some false
    | 5, 8 => some false
    | 5, 9 => some false
    | 5, 10 => some false
    | 5, 11 => some false
    | 5, 12 => some false
    | 5, 13 => some false
    | 5, 14 => some false
    | 5, 15 => some false
    | 5, 16 => some false
    | 7, 5 => some false
    | 7, 6 => some false
    | 7, 7 => some true
    | 7, 8 => some false
    | 7, 9 => some false
    | 7, 10 => some false
    | 7, 11 => some false
    | 7, 12 => some false
    | 7, 13 => some false
    | 7, 14 => some false
    | 7, 15 => some false
    | 7, 16 => some false
    | _, _ => none
def kXo (i : Nat) (t : String) : Option Bool := match i, t with
    | 14, "ValueError" => some true
    | 6, "ValueError" => some true
    | 5, "ValueError" => some true
    | 7, "ValueError" => some true
    | _, _ => none
def kn : Kin := ⟨kSub, kSo, kBo, kXs, kXo⟩
def xm_LogError (i : Nat) : Option Bool := match i with
    | 14 => some true
    | 6 => some true
    | 5 => some true
    | 7 => some true
    | _ => none
theorem xmo_LogError {P : Program} {K : PySem.W.Frag} {mg : Str → Option Value} {A : Ads} (T : Tx P K mg A) : ∀ k b, xm_LogError k = some b → PySem.W.exmOne K (.ref ((cz K A).cad k)) (.ref A.cLogError) = some b := by
  intro k b h
  unfold xm_LogError at h
  split at h
  · cases h; exact T.xm_LogError_Impossible
  · cases h; exact T.xm_LogError_NoIndex
  · cases h; exact T.xm_LogError_NoItem
  · cases h; exact T.xm_LogError_NoList
  · cases h
theorem kno {P : Program} {K : PySem.W.Frag} {mg : Str → Option Value} {A : Ads} (T : Tx P K mg A) : KinOk (cz K A) kn where
  sub := by
    intro k j b h
    cases h
  so := by
    intro k j b h
    have h : kSo k j = some b := h
    unfold kSo at h
    split at h
    · cases h; exact ⟨T.cls_Inserted, T.ty_Inserted, T.so_Inserted_list⟩
    · cases h; exact ⟨T.cls_Inserted, T.ty_Inserted, T.so_Inserted_str⟩
    · cases h; exact ⟨T.cls_Removed, T.ty_Removed, T.so_Removed_list⟩
    · cases h; exact ⟨T.cls_Removed, T.ty_Removed, T.so_Removed_str⟩
    · cases h; exact ⟨T.cls_Fronted, T.ty_Fronted, T.so_Fronted_list⟩
    · cases h; exact ⟨T.cls_Fronted, T.ty_Fronted, T.so_Fronted_str⟩
    · cases h; exact ⟨T.cls_Record, T.ty_Record, T.so_Record_list⟩
    · cases h; exact ⟨T.cls_Record, T.ty_Record, T.so_Record_str⟩
    · cases h
  bo := fun _ _ _ h => by cases h
  xs := by
    intro k j b h
    have h : kXs k j = some b := h
    unfold kXs at h
    split at h
    · cases h; exact ⟨T.xc_Impossible, T.xk_Impossible_NoItem⟩
    · cases h; exact ⟨T.xc_Impossible, T.xk_Impossible_NoIndex⟩
    · cases h; exact ⟨T.xc_Impossible, T.xk_Impossible_NoList⟩
    · cases h; exact ⟨T.xc_Impossible, T.xk_Impossible_NoLog⟩
    · cases h; exact ⟨T.xc_Impossible, T.xk_Impossible_NoSeen⟩
    · cases h; exact ⟨T.xc_Impossible, T.xk_Impossible_NoClients⟩
    · cases h; exact ⟨T.xc_Impossible, T.xk_Impossible_NoNumber⟩
    · cases h; exact ⟨T.xc_Impossible, T.xk_Impossible_NoPosition⟩
    · cases h; exact ⟨T.xc_Impossible, T.xk_Impossible_Nothing⟩
    · cases h; exact ⟨T.xc_Impossible, T.xk_Impossible_Impossible⟩
    · cases h; exact ⟨T.xc_Impossible, T.xk_Impossible_TooMany⟩
    · cases h; exact ⟨T.xc_Impossible, T.xk_Impossible_NoText⟩
    · cases h; exact ⟨T.xc_NoIndex, T.xk_NoIndex_NoItem⟩
    · cases h; exact ⟨T.xc_NoIndex, T.xk_NoIndex_NoIndex⟩
    · cases h; exact ⟨T.xc_NoIndex, T.xk_NoIndex_NoList⟩
    · cases h; exact ⟨T.xc_NoIndex, T.xk_NoIndex_NoLog⟩
    · cases h; exact ⟨T.xc_NoIndex, T.xk_NoIndex_NoSeen⟩
    · cases h; exact ⟨T.xc_NoIndex, T.xk_NoIndex_NoClients⟩
    · cases h; exact ⟨T.xc_NoIndex, T.xk_NoIndex_NoNumber⟩
    · cases h; exact ⟨T.xc_NoIndex, T.xk_NoIndex_NoPosition⟩
    · cases h; exact ⟨T.xc_NoIndex, T.xk_NoIndex_Nothing⟩
    · cases h; exact ⟨T.xc_NoIndex, T.xk_NoIndex_Impossible⟩
    · cases h; exact ⟨T.xc_NoIndex, T.xk_NoIndex_TooMany⟩
    · cases h; exact ⟨T.xc_NoIndex, T.xk_NoIndex_NoText⟩
    · cases h; exact ⟨T.xc_NoItem, T.xk_NoItem_NoItem⟩
    · cases h; exact ⟨T.xc_NoItem, T.xk_NoItem_NoIndex⟩
    · cases h; exact ⟨T.xc_NoItem, T.xk_NoItem_NoList⟩
    · cases h; exact ⟨T.xc_NoItem, T.xk_NoItem_NoLog⟩
    · cases h; exact ⟨T.xc_NoItem, T.xk_NoItem_NoSeen⟩
    · cases h; exact ⟨T.xc_NoItem, T.xk_NoItem_NoClients⟩
    · cases h; exact ⟨T.xc_NoItem, T.xk_NoItem_NoNumber⟩
    · cases h; exact ⟨T.xc_NoItem, T.xk_NoItem_NoPosition⟩
    · cases h; exact ⟨T.xc_NoItem, T.xk_NoItem_Nothing⟩
    · cases h; exact ⟨T.xc_NoItem, T.xk_NoItem_Impossible⟩
    · cases h; exact ⟨T.xc_NoItem, T.xk_NoItem_TooMany⟩
    · cases h; exact ⟨T.xc_NoItem, T.xk_NoItem_NoText⟩
    · cases h; exact ⟨T.xc_NoList, T.xk_NoList_NoItem⟩
    · cases h; exact ⟨T.xc_NoList, T.xk_NoList_NoIndex⟩
    · cases h; exact ⟨T.xc_NoList, T.xk_NoList_NoList⟩
    · cases h; exact ⟨T.xc_NoList, T.xk_NoList_NoLog⟩
    · cases h; exact ⟨T.xc_NoList, T.xk_NoList_NoSeen⟩
    · cases h; exact ⟨T.xc_NoList, T.xk_NoList_NoClients⟩
    · cases h; exact ⟨T.xc_NoList, T.xk_NoList_NoNumber⟩
    · cases h; exact ⟨T.xc_NoList, T.xk_NoList_NoPosition⟩
    · cases h; exact ⟨T.xc_NoList, T.xk_NoList_Nothing⟩
    · cases h; exact ⟨T.xc_NoList, T.xk_NoList_Impossible⟩
    · cases h; exact ⟨T.xc_NoList, T.xk_NoList_TooMany⟩
    · cases h; exact ⟨T.xc_NoList, T.xk_NoList_NoText⟩
    · cases h
  xo := by
    intro k j b h
    have h : kXo k j = some b := h
    unfold kXo at h
    split at h
    · cases h; exact ⟨T.xc_Impossible, T.xq_Impossible_ValueError⟩
    · cases h; exact ⟨T.xc_NoIndex, T.xq_NoIndex_ValueError⟩
    · cases h; exact ⟨T.xc_NoItem, T.xq_NoItem_ValueError⟩
    · cases h; exact ⟨T.xc_NoList, T.xq_NoList_ValueError⟩
    · cases h
def at_MOST : Nat → Option AK
  | 0 => none
  | 1 => none
  | 2 => none
  | 3 => none
  | 4 => none
  | 5 => none
  | 6 => none
  | 7 => none
  | 8 => none
  | 9 => none
  | 10 => none
  | 11 => none
  | 12 => none
  | 13 => none
  | 14 => none
  | 15 => none
  | 16 => none
  | _ => none
def ct_MOST : Nat → Option D
  | 0 => none
  | 1 => none
  | 2 => none
  | 3 => some (.int 60)
  | 4 => none
  | 5 => none
  | 6 => none
  | 7 => none
  | 8 => none
  | 9 => none
  | 10 => none
  | 11 => none
  | 12 => none
  | 13 => none
  | 14 => none
  | 15 => none
  | 16 => none
  | _ => none
theorem ao_MOST {P : Program} {w : World} {K : PySem.W.Frag} {mg : Str → Option Value} {base : Heap} {A : Ads} (T : Tx P K mg A) : AttOk (cz K A) P w mg base "MOST" at_MOST ct_MOST where
  fld := fun k h => match k, h with
    | 0, h => by cases (show (none : Option AK) = some .fld from h)
    | 1, h => by cases (show (none : Option AK) = some .fld from h)
    | 2, h => by cases (show (none : Option AK) = some .fld from h)
    | 3, h => by cases (show (none : Option AK) = some .fld from h)
    | 4, h => by cases (show (none : Option AK) = some .fld from h)
    | 5, h => by cases (show (none : Option AK) = some .fld from h)
    | 6, h => by cases (show (none : Option AK) = some .fld from h)
    | 7, h => by cases (show (none : Option AK) = some .fld from h)
    | 8, h => by cases (show (none : Option AK) = some .fld from h)
    | 9, h => by cases (show (none : Option AK) = some .fld from h)
    | 10, h => by cases (show (none : Option AK) = some .fld from h)
    | 11, h => by cases (show (none : Option AK) = some .fld from h)
    | 12, h => by cases (show (none : Option AK) = some .fld from h)
    | 13, h => by cases (show (none : Option AK) = some .fld from h)
    | 14, h => by cases (show (none : Option AK) = some .fld from h)
    | 15, h => by cases (show (none : Option AK) = some .fld from h)
    | 16, h => by cases (show (none : Option AK) = some .fld from h)
    | _ + 17, h => by cases (show (none : Option AK) = some .fld from h)
  con := fun k d h => match k, h with
    | 0, h => by cases (show (none : Option AK) = some (.con d) from h)
    | 1, h => by cases (show (none : Option AK) = some (.con d) from h)
    | 2, h => by cases (show (none : Option AK) = some (.con d) from h)
    | 3, h => by cases (show (none : Option AK) = some (.con d) from h)
    | 4, h => by cases (show (none : Option AK) = some (.con d) from h)
    | 5, h => by cases (show (none : Option AK) = some (.con d) from h)
    | 6, h => by cases (show (none : Option AK) = some (.con d) from h)
    | 7, h => by cases (show (none : Option AK) = some (.con d) from h)
    | 8, h => by cases (show (none : Option AK) = some (.con d) from h)
    | 9, h => by cases (show (none : Option AK) = some (.con d) from h)
    | 10, h => by cases (show (none : Option AK) = some (.con d) from h)
    | 11, h => by cases (show (none : Option AK) = some (.con d) from h)
    | 12, h => by cases (show (none : Option AK) = some (.con d) from h)
    | 13, h => by cases (show (none : Option AK) = some (.con d) from h)
    | 14, h => by cases (show (none : Option AK) = some (.con d) from h)
    | 15, h => by cases (show (none : Option AK) = some (.con d) from h)
    | 16, h => by cases (show (none : Option AK) = some (.con d) from h)
    | _ + 17, h => by cases (show (none : Option AK) = some (.con d) from h)
  get := fun k f h => match k, h with
    | 0, h => by cases (show (none : Option AK) = some (.get f) from h)
    | 1, h => by cases (show (none : Option AK) = some (.get f) from h)
    | 2, h => by cases (show (none : Option AK) = some (.get f) from h)
    | 3, h => by cases (show (none : Option AK) = some (.get f) from h)
    | 4, h => by cases (show (none : Option AK) = some (.get f) from h)
    | 5, h => by cases (show (none : Option AK) = some (.get f) from h)
    | 6, h => by cases (show (none : Option AK) = some (.get f) from h)
    | 7, h => by cases (show (none : Option AK) = some (.get f) from h)
    | 8, h => by cases (show (none : Option AK) = some (.get f) from h)
    | 9, h => by cases (show (none : Option AK) = some (.get f) from h)
    | 10, h => by cases (show (none : Option AK) = some (.get f) from h)
    | 11, h => by cases (show (none : Option AK) = some (.get f) from h)
    | 12, h => by cases (show (none : Option AK) = some (.get f) from h)
    | 13, h => by cases (show (none : Option AK) = some (.get f) from h)
    | 14, h => by cases (show (none : Option AK) = some (.get f) from h)
    | 15, h => by cases (show (none : Option AK) = some (.get f) from h)
    | 16, h => by cases (show (none : Option AK) = some (.get f) from h)
    | _ + 17, h => by cases (show (none : Option AK) = some (.get f) from h)
  xf := fun k h => match k, h with
    | 0, h => by cases (show (none : Option AK) = some .xf from h)
    | 1, h => by cases (show (none : Option AK) = some .xf from h)
    | 2, h => by cases (show (none : Option AK) = some .xf from h)
    | 3, h => by cases (show (none : Option AK) = some .xf from h)
    | 4, h => by cases (show (none : Option AK) = some .xf from h)
    | 5, h => by cases (show (none : Option AK) = some .xf from h)
    | 6, h => by cases (show (none : Option AK) = some .xf from h)
    | 7, h => by cases (show (none : Option AK) = some .xf from h)
    | 8, h => by cases (show (none : Option AK) = some .xf from h)
    | 9, h => by cases (show (none : Option AK) = some .xf from h)
    | 10, h => by cases (show (none : Option AK) = some .xf from h)
    | 11, h => by cases (show (none : Option AK) = some .xf from h)
    | 12, h => by cases (show (none : Option AK) = some .xf from h)
    | 13, h => by cases (show (none : Option AK) = some .xf from h)
    | 14, h => by cases (show (none : Option AK) = some .xf from h)
    | 15, h => by cases (show (none : Option AK) = some .xf from h)
    | 16, h => by cases (show (none : Option AK) = some .xf from h)
    | _ + 17, h => by cases (show (none : Option AK) = some .xf from h)
  cls := fun k d h => match k, h with
    | 0, h => by cases (show (none : Option D) = some d from h)
    | 1, h => by cases (show (none : Option D) = some d from h)
    | 2, h => by cases (show (none : Option D) = some d from h)
    | 3, h => by cases (show (some (.int 60) : Option D) = some d from h); obtain ⟨mc, u, h1, h2⟩ := T.cv_Record_MOST; exact ⟨_, mc, u, h1, h2, fun _ _ => .int _⟩
    | 4, h => by cases (show (none : Option D) = some d from h)
    | 5, h => by cases (show (none : Option D) = some d from h)
    | 6, h => by cases (show (none : Option D) = some d from h)
    | 7, h => by cases (show (none : Option D) = some d from h)
    | 8, h => by cases (show (none : Option D) = some d from h)
    | 9, h => by cases (show (none : Option D) = some d from h)
    | 10, h => by cases (show (none : Option D) = some d from h)
    | 11, h => by cases (show (none : Option D) = some d from h)
    | 12, h => by cases (show (none : Option D) = some d from h)
    | 13, h => by cases (show (none : Option D) = some d from h)
    | 14, h => by cases (show (none : Option D) = some d from h)
    | 15, h => by cases (show (none : Option D) = some d from h)
    | 16, h => by cases (show (none : Option D) = some d from h)
    | _ + 17, h => by cases (show (none : Option D) = some d from h)
def at_held_item : Nat → Option AK
  | 0 => some .fld
  | 1 => some .fld
  | 2 => some .fld
  | 3 => some .fld
  | 4 => none
  | 5 => none
  | 6 => none
  | 7 => none
  | 8 => none
  | 9 => none
  | 10 => none
  | 11 => none
  | 12 => none
  | 13 => none
  | 14 => none
  | 15 => none
  | 16 => none
  | _ => none
def ct_held_item : Nat → Option D
  | 0 => none
  | 1 => none
  | 2 => none
  | 3 => none
  | 4 => none
  | 5 => none
  | 6 => none
  | 7 => none
  | 8 => none
  | 9 => none
  | 10 => none
  | 11 => none
  | 12 => none
  | 13 => none
  | 14 => none
  | 15 => none
  | 16 => none
  | _ => none
theorem ao_held_item {P : Program} {w : World} {K : PySem.W.Frag} {mg : Str → Option Value} {base : Heap} {A : Ads} (T : Tx P K mg A) : AttOk (cz K A) P w mg base "held_item" at_held_item ct_held_item where
  fld := fun k h => match k, h with
    | 0, h => ⟨T.cls_Inserted, T.n_Inserted_held_item⟩
    | 1, h => ⟨T.cls_Removed, T.n_Removed_held_item⟩
    | 2, h => ⟨T.cls_Fronted, T.n_Fronted_held_item⟩
    | 3, h => ⟨T.cls_Record, T.n_Record_held_item⟩
    | 4, h => by cases (show (none : Option AK) = some .fld from h)
    | 5, h => by cases (show (none : Option AK) = some .fld from h)
    | 6, h => by cases (show (none : Option AK) = some .fld from h)
    | 7, h => by cases (show (none : Option AK) = some .fld from h)
    | 8, h => by cases (show (none : Option AK) = some .fld from h)
    | 9, h => by cases (show (none : Option AK) = some .fld from h)
    | 10, h => by cases (show (none : Option AK) = some .fld from h)
    | 11, h => by cases (show (none : Option AK) = some .fld from h)
    | 12, h => by cases (show (none : Option AK) = some .fld from h)
    | 13, h => by cases (show (none : Option AK) = some .fld from h)
    | 14, h => by cases (show (none : Option AK) = some .fld from h)
    | 15, h => by cases (show (none : Option AK) = some .fld from h)
    | 16, h => by cases (show (none : Option AK) = some .fld from h)
    | _ + 17, h => by cases (show (none : Option AK) = some .fld from h)
  con := fun k d h => match k, h with
    | 0, h => by cases (show (some .fld : Option AK) = some (.con d) from h)
    | 1, h => by cases (show (some .fld : Option AK) = some (.con d) from h)
    | 2, h => by cases (show (some .fld : Option AK) = some (.con d) from h)
    | 3, h => by cases (show (some .fld : Option AK) = some (.con d) from h)
    | 4, h => by cases (show (none : Option AK) = some (.con d) from h)
    | 5, h => by cases (show (none : Option AK) = some (.con d) from h)
    | 6, h => by cases (show (none : Option AK) = some (.con d) from h)
    | 7, h => by cases (show (none : Option AK) = some (.con d) from h)
    | 8, h => by cases (show (none : Option AK) = some (.con d) from h)
    | 9, h => by cases (show (none : Option AK) = some (.con d) from h)
    | 10, h => by cases (show (none : Option AK) = some (.con d) from h)
    | 11, h => by cases (show (none : Option AK) = some (.con d) from h)
    | 12, h => by cases (show (none : Option AK) = some (.con d) from h)
    | 13, h => by cases (show (none : Option AK) = some (.con d) from h)
    | 14, h => by cases (show (none : Option AK) = some (.con d) from h)
    | 15, h => by cases (show (none : Option AK) = some (.con d) from h)
    | 16, h => by cases (show (none : Option AK) = some (.con d) from h)
    | _ + 17, h => by cases (show (none : Option AK) = some (.con d) from h)
  get := fun k f h => match k, h with
    | 0, h => by cases (show (some .fld : Option AK) = some (.get f) from h)
    | 1, h => by cases (show (some .fld : Option AK) = some (.get f) from h)
    | 2, h => by cases (show (some .fld : Option AK) = some (.get f) from h)
    | 3, h => by cases (show (some .fld : Option AK) = some (.get f) from h)
    | 4, h => by cases (show (none : Option AK) = some (.get f) from h)
    | 5, h => by cases (show (none : Option AK) = some (.get f) from h)
    | 6, h => by cases (show (none : Option AK) = some (.get f) from h)
    | 7, h => by cases (show (none : Option AK) = some (.get f) from h)
    | 8, h => by cases (show (none : Option AK) = some (.get f) from h)
    | 9, h => by cases (show (none : Option AK) = some (.get f) from h)
    | 10, h => by cases (show (none : Option AK) = some (.get f) from h)
    | 11, h => by cases (show (none : Option AK) = some (.get f) from h)
    | 12, h => by cases (show (none : Option AK) = some (.get f) from h)
    | 13, h => by cases (show (none : Option AK) = some (.get f) from h)
    | 14, h => by cases (show (none : Option AK) = some (.get f) from h)
    | 15, h => by cases (show (none : Option AK) = some (.get f) from h)
    | 16, h => by cases (show (none : Option AK) = some (.get f) from h)
    | _ + 17, h => by cases (show (none : Option AK) = some (.get f) from h)
  xf := fun k h => match k, h with
    | 0, h => by cases (show (some .fld : Option AK) = some .xf from h)
    | 1, h => by cases (show (some .fld : Option AK) = some .xf from h)
    | 2, h => by cases (show (some .fld : Option AK) = some .xf from h)
    | 3, h => by cases (show (some .fld : Option AK) = some .xf from h)
    | 4, h => by cases (show (none : Option AK) = some .xf from h)
    | 5, h => by cases (show (none : Option AK) = some .xf from h)
    | 6, h => by cases (show (none : Option AK) = some .xf from h)
    | 7, h => by cases (show (none : Option AK) = some .xf from h)
    | 8, h => by cases (show (none : Option AK) = some .xf from h)
    | 9, h => by cases (show (none : Option AK) = some .xf from h)
    | 10, h => by cases (show (none : Option AK) = some .xf from h)
    | 11, h => by cases (show (none : Option AK) = some .xf from h)
    | 12, h => by cases (show (none : Option AK) = some .xf from h)
    | 13, h => by cases (show (none : Option AK) = some .xf from h)
    | 14, h => by cases (show (none : Option AK) = some .xf from h)
    | 15, h => by cases (show (none : Option AK) = some .xf from h)
    | 16, h => by cases (show (none : Option AK) = some .xf from h)
    | _ + 17, h => by cases (show (none : Option AK) = some .xf from h)
  cls := fun k d h => match k, h with
    | 0, h => by cases (show (none : Option D) = some d from h)
    | 1, h => by cases (show (none : Option D) = some d from h)
    | 2, h => by cases (show (none : Option D) = some d from h)
    | 3, h => by cases (show (none : Option D) = some d from h)
    | 4, h => by cases (show (none : Option D) = some d from h)
    | 5, h => by cases (show (none : Option D) = some d from h)
    | 6, h => by cases (show (none : Option D) = some d from h)
    | 7, h => by cases (show (none : Option D) = some d from h)
    | 8, h => by cases (show (none : Option D) = some d from h)
    | 9, h => by cases (show (none : Option D) = some d from h)
    | 10, h => by cases (show (none : Option D) = some d from h)
    | 11, h => by cases (show (none : Option D) = some d from h)
    | 12, h => by cases (show (none : Option D) = some d from h)
    | 13, h => by cases (show (none : Option D) = some d from h)
    | 14, h => by cases (show (none : Option D) = some d from h)
    | 15, h => by cases (show (none : Option D) = some d from h)
    | 16, h => by cases (show (none : Option D) = some d from h)
    | _ + 17, h => by cases (show (none : Option D) = some d from h)
def ok_held_item : Nat → Bool
  | 0 => true
  | 1 => true
  | 2 => true
  | 3 => true
  | 4 => false
  | 5 => false
  | 6 => false
  | 7 => false
  | 8 => false
  | 9 => false
  | 10 => false
  | 11 => false
  | 12 => false
  | 13 => false
  | 14 => false
  | 15 => false
  | 16 => false
  | _ => false
theorem oo_held_item {P : Program} {K : PySem.W.Frag} {mg : Str → Option Value} {A : Ads} (T : Tx P K mg A) : ∀ k, ok_held_item k = true → Cls K ((cz K A).cad k) ∧ NoAttr K ((cz K A).cad k) "held_item" := fun k h => match k, h with
    | 0, h => ⟨T.cls_Inserted, T.n_Inserted_held_item⟩
    | 1, h => ⟨T.cls_Removed, T.n_Removed_held_item⟩
    | 2, h => ⟨T.cls_Fronted, T.n_Fronted_held_item⟩
    | 3, h => ⟨T.cls_Record, T.n_Record_held_item⟩
    | 4, h => by cases (show false = true from h)
    | 5, h => by cases (show false = true from h)
    | 6, h => by cases (show false = true from h)
    | 7, h => by cases (show false = true from h)
    | 8, h => by cases (show false = true from h)
    | 9, h => by cases (show false = true from h)
    | 10, h => by cases (show false = true from h)
    | 11, h => by cases (show false = true from h)
    | 12, h => by cases (show false = true from h)
    | 13, h => by cases (show false = true from h)
    | 14, h => by cases (show false = true from h)
    | 15, h => by cases (show false = true from h)
    | 16, h => by cases (show false = true from h)
    | _ + 17, h => by cases (show false = true from h)
def at_held_slot : Nat → Option AK
  | 0 => some .fld
  | 1 => some .fld
  | 2 => some .fld
  | 3 => some .fld
  | 4 => none
  | 5 => none
  | 6 => none
  | 7 => none
  | 8 => none
  | 9 => none
  | 10 => none
  | 11 => none
  | 12 => none
  | 13 => none
  | 14 => none
  | 15 => none
  | 16 => none
  | _ => none
def ct_held_slot : Nat → Option D
  | 0 => none
  | 1 => none
  | 2 => none
  | 3 => none
  | 4 => none
  | 5 => none
  | 6 => none
  | 7 => none
  | 8 => none
  | 9 => none
  | 10 => none
  | 11 => none
  | 12 => none
  | 13 => none
  | 14 => none
  | 15 => none
  | 16 => none
  | _ => none
theorem ao_held_slot {P : Program} {w : World} {K : PySem.W.Frag} {mg : Str → Option Value} {base : Heap} {A : Ads} (T : Tx P K mg A) : AttOk (cz K A) P w mg base "held_slot" at_held_slot ct_held_slot where
  fld := fun k h => match k, h with
    | 0, h => ⟨T.cls_Inserted, T.n_Inserted_held_slot⟩
    | 1, h => ⟨T.cls_Removed, T.n_Removed_held_slot⟩
    | 2, h => ⟨T.cls_Fronted, T.n_Fronted_held_slot⟩
    | 3, h => ⟨T.cls_Record, T.n_Record_held_slot⟩
    | 4, h => by cases (show (none : Option AK) = some .fld from h)
    | 5, h => by cases (show (none : Option AK) = some .fld from h)
    | 6, h => by cases (show (none : Option AK) = some .fld from h)
    | 7, h => by cases (show (none : Option AK) = some .fld from h)
    | 8, h => by cases (show (none : Option AK) = some .fld from h)
    | 9, h => by cases (show (none : Option AK) = some .fld from h)
    | 10, h => by cases (show (none : Option AK) = some .fld from h)
    | 11, h => by cases (show (none : Option AK) = some .fld from h)
    | 12, h => by cases (show (none : Option AK) = some .fld from h)
    | 13, h => by cases (show (none : Option AK) = some .fld from h)
    | 14, h => by cases (show (none : Option AK) = some .fld from h)
    | 15, h => by cases (show (none : Option AK) = some .fld from h)
    | 16, h => by cases (show (none : Option AK) = some .fld from h)
    | _ + 17, h => by cases (show (none : Option AK) = some .fld from h)
  con := fun k d h => match k, h with
    | 0, h => by cases (show (some .fld : Option AK) = some (.con d) from h)
    | 1, h => by cases (show (some .fld : Option AK) = some (.con d) from h)
    | 2, h => by cases (show (some .fld : Option AK) = some (.con d) from h)
    | 3, h => by cases (show (some .fld : Option AK) = some (.con d) from h)
    | 4, h => by cases (show (none : Option AK) = some (.con d) from h)
    | 5, h => by cases (show (none : Option AK) = some (.con d) from h)
    | 6, h => by cases (show (none : Option AK) = some (.con d) from h)
    | 7, h => by cases (show (none : Option AK) = some (.con d) from h)
    | 8, h => by cases (show (none : Option AK) = some (.con d) from h)
    | 9, h => by cases (show (none : Option AK) = some (.con d) from h)
    | 10, h => by cases (show (none : Option AK) = some (.con d) from h)
    | 11, h => by cases (show (none : Option AK) = some (.con d) from h)
    | 12, h => by cases (show (none : Option AK) = some (.con d) from h)
    | 13, h => by cases (show (none : Option AK) = some (.con d) from h)
    | 14, h => by cases (show (none : Option AK) = some (.con d) from h)
    | 15, h => by cases (show (none : Option AK) = some (.con d) from h)
    | 16, h => by cases (show (none : Option AK) = some (.con d) from h)
    | _ + 17, h => by cases (show (none : Option AK) = some (.con d) from h)
  get := fun k f h => match k, h with
    | 0, h => by cases (show (some .fld : Option AK) = some (.get f) from h)
    | 1, h => by cases (show (some .fld : Option AK) = some (.get f) from h)
    | 2, h => by cases (show (some .fld : Option AK) = some (.get f) from h)
    | 3, h => by cases (show (some .fld : Option AK) = some (.get f) from h)
    | 4, h => by cases (show (none : Option AK) = some (.get f) from h)
    | 5, h => by cases (show (none : Option AK) = some (.get f) from h)
    | 6, h => by cases (show (none : Option AK) = some (.get f) from h)
    | 7, h => by cases (show (none : Option AK) = some (.get f) from h)
    | 8, h => by cases (show (none : Option AK) = some (.get f) from h)
    | 9, h => by cases (show (none : Option AK) = some (.get f) from h)
    | 10, h => by cases (show (none : Option AK) = some (.get f) from h)
    | 11, h => by cases (show (none : Option AK) = some (.get f) from h)
    | 12, h => by cases (show (none : Option AK) = some (.get f) from h)
    | 13, h => by cases (show (none : Option AK) = some (.get f) from h)
    | 14, h => by cases (show (none : Option AK) = some (.get f) from h)
    | 15, h => by cases (show (none : Option AK) = some (.get f) from h)
    | 16, h => by cases (show (none : Option AK) = some (.get f) from h)
    | _ + 17, h => by cases (show (none : Option AK) = some (.get f) from h)
  xf := fun k h => match k, h with
    | 0, h => by cases (show (some .fld : Option AK) = some .xf from h)
    | 1, h => by cases (show (some .fld : Option AK) = some .xf from h)
    | 2, h => by cases (show (some .fld : Option AK) = some .xf from h)
    | 3, h => by cases (show (some .fld : Option AK) = some .xf from h)
    | 4, h => by cases (show (none : Option AK) = some .xf from h)
    | 5, h => by cases (show (none : Option AK) = some .xf from h)
    | 6, h => by cases (show (none : Option AK) = some .xf from h)
    | 7, h => by cases (show (none : Option AK) = some .xf from h)
    | 8, h => by cases (show (none : Option AK) = some .xf from h)
    | 9, h => by cases (show (none : Option AK) = some .xf from h)
    | 10, h => by cases (show (none : Option AK) = some .xf from h)
    | 11, h => by cases (show (none : Option AK) = some .xf from h)
    | 12, h => by cases (show (none : Option AK) = some .xf from h)
    | 13, h => by cases (show (none : Option AK) = some .xf from h)
    | 14, h => by cases (show (none : Option AK) = some .xf from h)
    | 15, h => by cases (show (none : Option AK) = some .xf from h)
    | 16, h => by cases (show (none : Option AK) = some .xf from h)
    | _ + 17, h => by cases (show (none : Option AK) = some .xf from h)
  cls := fun k d h => match k, h with
    | 0, h => by cases (show (none : Option D) = some d from h)
    | 1, h => by cases (show (none : Option D) = some d from h)
    | 2, h => by cases (show (none : Option D) = some d from h)
    | 3, h => by cases (show (none : Option D) = some d from h)
    | 4, h => by cases (show (none : Option D) = some d from h)
    | 5, h => by cases (show (none : Option D) = some d from h)
    | 6, h => by cases (show (none : Option D) = some d from h)
    | 7, h => by cases (show (none : Option D) = some d from h)
    | 8, h => by cases (show (none : Option D) = some d from h)
    | 9, h => by cases (show (none : Option D) = some d from h)
    | 10, h => by cases (show (none : Option D) = some d from h)
    | 11, h => by cases (show (none : Option D) = some d from h)
    | 12, h => by cases (show (none : Option D) = some d from h)
    | 13, h => by cases (show (none : Option D) = some d from h)
    | 14, h => by cases (show (none : Option D) = some d from h)
    | 15, h => by cases (show (none : Option D) = some d from h)
    | 16, h => by cases (show (none : Option D) = some d from h)
    | _ + 17, h => by cases (show (none : Option D) = some d from h)
def ok_held_slot : Nat → Bool
  | 0 => true
  | 1 => true
  | 2 => true
  | 3 => true
  | 4 => false
  | 5 => false
  | 6 => false
  | 7 => false
  | 8 => false
  | 9 => false
  | 10 => false
  | 11 => false
  | 12 => false
  | 13 => false
  | 14 => false
  | 15 => false
  | 16 => false
  | _ => false
theorem oo_held_slot {P : Program} {K : PySem.W.Frag} {mg : Str → Option Value} {A : Ads} (T : Tx P K mg A) : ∀ k, ok_held_slot k = true → Cls K ((cz K A).cad k) ∧ NoAttr K ((cz K A).cad k) "held_slot" := fun k h => match k, h with
    | 0, h => ⟨T.cls_Inserted, T.n_Inserted_held_slot⟩
    | 1, h => ⟨T.cls_Removed, T.n_Removed_held_slot⟩
    | 2, h => ⟨T.cls_Fronted, T.n_Fronted_held_slot⟩
    | 3, h => ⟨T.cls_Record, T.n_Record_held_slot⟩
    | 4, h => by cases (show false = true from h)
    | 5, h => by cases (show false = true from h)
    | 6, h => by cases (show false = true from h)
    | 7, h => by cases (show false = true from h)
    | 8, h => by cases (show false = true from h)
    | 9, h => by cases (show false = true from h)
    | 10, h => by cases (show false = true from h)
    | 11, h => by cases (show false = true from h)
    | 12, h => by cases (show false = true from h)
    | 13, h => by cases (show false = true from h)
    | 14, h => by cases (show false = true from h)
    | 15, h => by cases (show false = true from h)
    | 16, h => by cases (show false = true from h)
    | _ + 17, h => by cases (show false = true from h)
def at_reason : Nat → Option AK
  | 0 => none
  | 1 => none
  | 2 => none
  | 3 => none
  | 4 => none
  | 5 => none
  | 6 => none
  | 7 => none
  | 8 => none
  | 9 => none
  | 10 => none
  | 11 => none
  | 12 => none
  | 13 => none
  | 14 => some .xf
  | 15 => none
  | 16 => none
  | _ => none
def ct_reason : Nat → Option D
  | 0 => none
  | 1 => none
  | 2 => none
  | 3 => none
  | 4 => none
  | 5 => none
  | 6 => none
  | 7 => none
  | 8 => none
  | 9 => none
  | 10 => none
  | 11 => none
  | 12 => none
  | 13 => none
  | 14 => none
  | 15 => none
  | 16 => none
  | _ => none
theorem ao_reason {P : Program} {w : World} {K : PySem.W.Frag} {mg : Str → Option Value} {base : Heap} {A : Ads} (T : Tx P K mg A) : AttOk (cz K A) P w mg base "reason" at_reason ct_reason where
  fld := fun k h => match k, h with
    | 0, h => by cases (show (none : Option AK) = some .fld from h)
    | 1, h => by cases (show (none : Option AK) = some .fld from h)
    | 2, h => by cases (show (none : Option AK) = some .fld from h)
    | 3, h => by cases (show (none : Option AK) = some .fld from h)
    | 4, h => by cases (show (none : Option AK) = some .fld from h)
    | 5, h => by cases (show (none : Option AK) = some .fld from h)
    | 6, h => by cases (show (none : Option AK) = some .fld from h)
    | 7, h => by cases (show (none : Option AK) = some .fld from h)
    | 8, h => by cases (show (none : Option AK) = some .fld from h)
    | 9, h => by cases (show (none : Option AK) = some .fld from h)
    | 10, h => by cases (show (none : Option AK) = some .fld from h)
    | 11, h => by cases (show (none : Option AK) = some .fld from h)
    | 12, h => by cases (show (none : Option AK) = some .fld from h)
    | 13, h => by cases (show (none : Option AK) = some .fld from h)
    | 14, h => by cases (show (some .xf : Option AK) = some .fld from h)
    | 15, h => by cases (show (none : Option AK) = some .fld from h)
    | 16, h => by cases (show (none : Option AK) = some .fld from h)
    | _ + 17, h => by cases (show (none : Option AK) = some .fld from h)
  con := fun k d h => match k, h with
    | 0, h => by cases (show (none : Option AK) = some (.con d) from h)
    | 1, h => by cases (show (none : Option AK) = some (.con d) from h)
    | 2, h => by cases (show (none : Option AK) = some (.con d) from h)
    | 3, h => by cases (show (none : Option AK) = some (.con d) from h)
    | 4, h => by cases (show (none : Option AK) = some (.con d) from h)
    | 5, h => by cases (show (none : Option AK) = some (.con d) from h)
    | 6, h => by cases (show (none : Option AK) = some (.con d) from h)
    | 7, h => by cases (show (none : Option AK) = some (.con d) from h)
    | 8, h => by cases (show (none : Option AK) = some (.con d) from h)
    | 9, h => by cases (show (none : Option AK) = some (.con d) from h)
    | 10, h => by cases (show (none : Option AK) = some (.con d) from h)
    | 11, h => by cases (show (none : Option AK) = some (.con d) from h)
    | 12, h => by cases (show (none : Option AK) = some (.con d) from h)
    | 13, h => by cases (show (none : Option AK) = some (.con d) from h)
    | 14, h => by cases (show (some .xf : Option AK) = some (.con d) from h)
    | 15, h => by cases (show (none : Option AK) = some (.con d) from h)
    | 16, h => by cases (show (none : Option AK) = some (.con d) from h)
    | _ + 17, h => by cases (show (none : Option AK) = some (.con d) from h)
  get := fun k f h => match k, h with
    | 0, h => by cases (show (none : Option AK) = some (.get f) from h)
    | 1, h => by cases (show (none : Option AK) = some (.get f) from h)
    | 2, h => by cases (show (none : Option AK) = some (.get f) from h)
    | 3, h => by cases (show (none : Option AK) = some (.get f) from h)
    | 4, h => by cases (show (none : Option AK) = some (.get f) from h)
    | 5, h => by cases (show (none : Option AK) = some (.get f) from h)
    | 6, h => by cases (show (none : Option AK) = some (.get f) from h)
    | 7, h => by cases (show (none : Option AK) = some (.get f) from h)
    | 8, h => by cases (show (none : Option AK) = some (.get f) from h)
    | 9, h => by cases (show (none : Option AK) = some (.get f) from h)
    | 10, h => by cases (show (none : Option AK) = some (.get f) from h)
    | 11, h => by cases (show (none : Option AK) = some (.get f) from h)
    | 12, h => by cases (show (none : Option AK) = some (.get f) from h)
    | 13, h => by cases (show (none : Option AK) = some (.get f) from h)
    | 14, h => by cases (show (some .xf : Option AK) = some (.get f) from h)
    | 15, h => by cases (show (none : Option AK) = some (.get f) from h)
    | 16, h => by cases (show (none : Option AK) = some (.get f) from h)
    | _ + 17, h => by cases (show (none : Option AK) = some (.get f) from h)
  xf := fun k h => match k, h with
    | 0, h => by cases (show (none : Option AK) = some .xf from h)
    | 1, h => by cases (show (none : Option AK) = some .xf from h)
    | 2, h => by cases (show (none : Option AK) = some .xf from h)
    | 3, h => by cases (show (none : Option AK) = some .xf from h)
    | 4, h => by cases (show (none : Option AK) = some .xf from h)
    | 5, h => by cases (show (none : Option AK) = some .xf from h)
    | 6, h => by cases (show (none : Option AK) = some .xf from h)
    | 7, h => by cases (show (none : Option AK) = some .xf from h)
    | 8, h => by cases (show (none : Option AK) = some .xf from h)
    | 9, h => by cases (show (none : Option AK) = some .xf from h)
    | 10, h => by cases (show (none : Option AK) = some .xf from h)
    | 11, h => by cases (show (none : Option AK) = some .xf from h)
    | 12, h => by cases (show (none : Option AK) = some .xf from h)
    | 13, h => by cases (show (none : Option AK) = some .xf from h)
    | 14, h => T.xa_Impossible
    | 15, h => by cases (show (none : Option AK) = some .xf from h)
    | 16, h => by cases (show (none : Option AK) = some .xf from h)
    | _ + 17, h => by cases (show (none : Option AK) = some .xf from h)
  cls := fun k d h => match k, h with
    | 0, h => by cases (show (none : Option D) = some d from h)
    | 1, h => by cases (show (none : Option D) = some d from h)
    | 2, h => by cases (show (none : Option D) = some d from h)
    | 3, h => by cases (show (none : Option D) = some d from h)
    | 4, h => by cases (show (none : Option D) = some d from h)
    | 5, h => by cases (show (none : Option D) = some d from h)
    | 6, h => by cases (show (none : Option D) = some d from h)
    | 7, h => by cases (show (none : Option D) = some d from h)
    | 8, h => by cases (show (none : Option D) = some d from h)
    | 9, h => by cases (show (none : Option D) = some d from h)
    | 10, h => by cases (show (none : Option D) = some d from h)
    | 11, h => by cases (show (none : Option D) = some d from h)
    | 12, h => by cases (show (none : Option D) = some d from h)
    | 13, h => by cases (show (none : Option D) = some d from h)
    | 14, h => by cases (show (none : Option D) = some d from h)
    | 15, h => by cases (show (none : Option D) = some d from h)
    | 16, h => by cases (show (none : Option D) = some d from h)
    | _ + 17, h => by cases (show (none : Option D) = some d from h)
def T_is_integer : TSd :=
  TRet (TAndV (TCB (bIsi kn) (PCons (TVar 0) (PCons (TC (.ty "int")) (PNil)))) (TAndV (TNotV (TCB (bIsi kn) (PCons (TVar 0) (PCons (TC (.ty "bool")) (PNil))))) (TChain vLe vLe (TVar 1) (TVar 0) (TVar 2))))
theorem z_is_integer {P : Program} {w : World} {K : PySem.W.Frag} {mg : Str → Option Value} {base : Heap} {A : Ads} (T : Tx P K mg A) : ∀ E, SimS (cz K A) E (t_is_integer P w K mg base A E) T_is_integer := by
  intro E
  unfold t_is_integer T_is_integer
  exact sim_Ret (sim_AndV (sim_CB (cs_Isi (kno T)) (sim_PCons (sim_Var) (sim_PCons (sim_C fun _ _ => .ty _) (sim_PNil)))) (sim_AndV (sim_NotV (sim_CB (cs_Isi (kno T)) (sim_PCons (sim_Var) (sim_PCons (sim_C fun _ _ => .ty _) (sim_PNil))))) (sim_Chain os_Le os_Le (sim_Var) (sim_Var) (sim_Var))))
def F_is_integer : FT := runF 3 3 T_is_integer
theorem fd_is_integer {P : Program} {w : World} {K : PySem.W.Frag} {mg : Str → Option Value} {base : Heap} {A : Ads} (T : Tx P K mg A) : Fn P w K mg base 3 "is_integer" (spF (cz K A) F_is_integer) := T.f_is_integer.fn sc_is_integer (fun hr => d_is_integer T.G hr) (pur_F (z_is_integer T))
def T_is_item : TSd :=
  TSeq (TIfS (TOr (TNot (TB (TCB (bIsi kn) (PCons (TVar 0) (PCons (TC (.ty "str")) (PNil)))))) (TNot (TB (TChain vLe vLe (TC (.int 1)) (TCB bLen (PCons (TVar 0) (PNil))) (TC (.int 8)))))) (TRet (TC (.bl false))) (TNext)) (TRet (TCB bAll (PCons (TLc (IStr (TVar 0)) (GName 1) (TYes) (TOp vIn (TVar 1) (TC (.str "abcdefghijklmnopqrstuvwxyz"))) [1]) (PNil))))
theorem z_is_item {P : Program} {w : World} {K : PySem.W.Frag} {mg : Str → Option Value} {base : Heap} {A : Ads} (T : Tx P K mg A) : ∀ E, SimS (cz K A) E (t_is_item P w K mg base A E) T_is_item := by
  intro E
  unfold t_is_item T_is_item
  exact sim_Seq (sim_IfS (sim_Or (sim_Not (sim_B (sim_CB (cs_Isi (kno T)) (sim_PCons (sim_Var) (sim_PCons (sim_C fun _ _ => .ty _) (sim_PNil)))))) (sim_Not (sim_Test (sim_Chain os_Le os_Le (sim_C fun _ _ => .int _) (sim_CB cs_Len (sim_PCons (sim_Var) (sim_PNil))) (sim_C fun _ _ => .int _))))) (sim_Ret (sim_C fun _ _ => .bl _)) (sim_Next)) (sim_Ret (sim_CB cs_All (sim_PCons (sim_Lc rfl (sim_IStr (sim_Var)) (sim_GName) (sim_Yes) (sim_Op os_In (sim_Var) (sim_C fun _ _ => .str _))) (sim_PNil))))
def F_is_item : FT := runF 1 2 T_is_item
theorem fd_is_item {P : Program} {w : World} {K : PySem.W.Frag} {mg : Str → Option Value} {base : Heap} {A : Ads} (T : Tx P K mg A) : Fn P w K mg base 3 "is_item" (spF (cz K A) F_is_item) := T.f_is_item.fn sc_is_item (fun hr => d_is_item T.G hr) (pur_F (z_is_item T))
def T_are_items : TSd :=
  TSeq (TIfS (TOr (TNot (TB (TCB (bIsi kn) (PCons (TVar 0) (PCons (TC (.ty "list")) (PNil)))))) (TOr (TB (TOp vGt (TCB bLen (PCons (TVar 0) (PNil))) (TC (.int 60)))) (TNot (TB (TCB bAll (PCons (TLcC (ILstC (TVar 0)) (GName 1) (TYes) (TFn F_is_item (TCons (TVar 1) (TNil))) [1]) (PNil))))))) (TRet (TC (.bl false))) (TNext)) (TRet (TOp vEq (TLenSet (TVar 0)) (TCB bLen (PCons (TVar 0) (PNil)))))
theorem z_are_items {P : Program} {w : World} {K : PySem.W.Frag} {mg : Str → Option Value} {base : Heap} {A : Ads} (T : Tx P K mg A) : ∀ E, SimS (cz K A) E (t_are_items P w K mg base A E) T_are_items := by
  intro E
  unfold t_are_items T_are_items
  exact sim_Seq (sim_IfS (sim_Or (sim_Not (sim_B (sim_CB (cs_Isi (kno T)) (sim_PCons (sim_Var) (sim_PCons (sim_C fun _ _ => .ty _) (sim_PNil)))))) (sim_Or (sim_Test (sim_Op os_Gt (sim_CB cs_Len (sim_PCons (sim_Var) (sim_PNil))) (sim_C fun _ _ => .int _))) (sim_Not (sim_B (sim_CB cs_All (sim_PCons (sim_LcC rfl (sim_ILstC (sim_Var)) (sim_GName) (sim_Yes) (sim_Fn (fd_is_item T) (by decide) (sim_Cons (sim_Var) (sim_Nil)))) (sim_PNil))))))) (sim_Ret (sim_C fun _ _ => .bl _)) (sim_Next)) (sim_Ret (sim_Op os_Eq (sim_LenSet (sim_Var)) (sim_CB cs_Len (sim_PCons (sim_Var) (sim_PNil)))))
def F_are_items : FT := runF 1 2 T_are_items
theorem fd_are_items {P : Program} {w : World} {K : PySem.W.Frag} {mg : Str → Option Value} {base : Heap} {A : Ads} (T : Tx P K mg A) : Fn P w K mg base 4 "are_items" (spF (cz K A) F_are_items) := T.f_are_items.fn sc_are_items (fun hr => d_are_items T.G hr) (pur_F (z_are_items T))
def T_need_items : TSd :=
  TIfS (TNot (TB (TFn F_are_items (TCons (TVar 0) (TNil))))) (TRaise 7) (TNext)
theorem z_need_items {P : Program} {w : World} {K : PySem.W.Frag} {mg : Str → Option Value} {base : Heap} {A : Ads} (T : Tx P K mg A) : ∀ E, SimS (cz K A) E (t_need_items P w K mg base A E) T_need_items := by
  intro E
  unfold t_need_items T_need_items
  exact sim_IfS (sim_Not (sim_B (sim_Fn (fd_are_items T) (by decide) (sim_Cons (sim_Var) (sim_Nil))))) (sim_Raise (k := 7)) (sim_Next)
def F_need_items : FT := runF 1 1 T_need_items
theorem fd_need_items {P : Program} {w : World} {K : PySem.W.Frag} {mg : Str → Option Value} {base : Heap} {A : Ads} (T : Tx P K mg A) : Fn P w K mg base 5 "need_items" (spF (cz K A) F_need_items) := T.f_need_items.fn sc_need_items (fun hr => d_need_items T.G hr) (pur_F (z_need_items T))
def T_Record_init : TSd :=
  TSeq (TIfS (TNot (TB (TFn F_is_item (TCons (TVar 1) (TNil))))) (TRaise 5) (TNext)) (TSeq (TIfS (TNot (TB (TFn F_is_integer (TCons (TVar 2) (TCons (TC (.int 0)) (TCons (TAtt at_MOST ct_MOST "MOST" (TC (.cl 3))) (TNil))))))) (TRaise 6) (TNext)) (TSeq (TFld ok_held_item "held_item" (TVar 0) (TVar 1)) (TFld ok_held_slot "held_slot" (TVar 0) (TVar 2))))
theorem z_Record_init {P : Program} {w : World} {K : PySem.W.Frag} {mg : Str → Option Value} {base : Heap} {A : Ads} (T : Tx P K mg A) : ∀ E, SimN (cz K A) E (t_Record_init P w K mg base A E) T_Record_init := by
  intro E
  unfold t_Record_init T_Record_init
  exact simN_Seq (simN_IfS (sim_Not (sim_B (sim_Fn (fd_is_item T) (by decide) (sim_Cons (sim_Var) (sim_Nil))))) (simN_Raise (k := 5)) (simN_Next)) (simN_Seq (simN_IfS (sim_Not (sim_B (sim_Fn (fd_is_integer T) (by decide) (sim_Cons (sim_Var) (sim_Cons (sim_C fun _ _ => .int _) (sim_Cons (sim_Att (ao_MOST T) (sim_C fun _ _ => Tr.cl (c := cz K A) 3)) (sim_Nil))))))) (simN_Raise (k := 6)) (simN_Next)) (simN_Seq (simN_Fld (oo_held_item T) (sim_Var) (sim_Var)) (simN_Fld (oo_held_slot T) (sim_Var) (sim_Var))))
def I_Inserted : FT := runI 3 3 0 T_Record_init
theorem mk_Inserted {P : Program} {w : World} {K : PySem.W.Frag} {mg : Str → Option Value} {base : Heap} {A : Ads} (T : Tx P K mg A) : Mkr P w K mg base 4 "Inserted" A.cInserted (spI (cz K A) 0 I_Inserted) := T.made_Inserted.mkr sc_Record_init (fun hr => d_Record_init T.G hr) (pur_I (z_Record_init T))
def I_Removed : FT := runI 3 3 1 T_Record_init
theorem mk_Removed {P : Program} {w : World} {K : PySem.W.Frag} {mg : Str → Option Value} {base : Heap} {A : Ads} (T : Tx P K mg A) : Mkr P w K mg base 4 "Removed" A.cRemoved (spI (cz K A) 1 I_Removed) := T.made_Removed.mkr sc_Record_init (fun hr => d_Record_init T.G hr) (pur_I (z_Record_init T))
def I_Fronted : FT := runI 3 3 2 T_Record_init
theorem mk_Fronted {P : Program} {w : World} {K : PySem.W.Frag} {mg : Str → Option Value} {base : Heap} {A : Ads} (T : Tx P K mg A) : Mkr P w K mg base 4 "Fronted" A.cFronted (spI (cz K A) 2 I_Fronted) := T.made_Fronted.mkr sc_Record_init (fun hr => d_Record_init T.G hr) (pur_I (z_Record_init T))
def I_Record : FT := runI 3 3 3 T_Record_init
theorem mk_Record {P : Program} {w : World} {K : PySem.W.Frag} {mg : Str → Option Value} {base : Heap} {A : Ads} (T : Tx P K mg A) : Mkr P w K mg base 4 "Record" A.cRecord (spI (cz K A) 3 I_Record) := T.made_Record.mkr sc_Record_init (fun hr => d_Record_init T.G hr) (pur_I (z_Record_init T))
def T_Record_stands : TSd :=
  TRet (TOp vIn (TAtt at_held_item ct_held_item "held_item" (TVar 0)) (TSl slL (TVar 1) (TPart (TAtt at_held_slot ct_held_slot "held_slot" (TVar 0))) (TPart (TOp vAdd (TAtt at_held_slot ct_held_slot "held_slot" (TVar 0)) (TC (.int 1))))))
theorem z_Record_stands {P : Program} {w : World} {K : PySem.W.Frag} {mg : Str → Option Value} {base : Heap} {A : Ads} (T : Tx P K mg A) : ∀ E, SimS (cz K A) E (t_Record_stands P w K mg base A E) T_Record_stands := by
  intro E
  unfold t_Record_stands T_Record_stands
  exact sim_Ret (sim_Op os_In (sim_Att (ao_held_item T) (sim_Var)) (sim_Sl ss_L (sim_Var) (sim_Part (sim_Att (ao_held_slot T) (sim_Var))) (sim_Part (sim_Op os_Add (sim_Att (ao_held_slot T) (sim_Var)) (sim_C fun _ _ => .int _)))))
def F_Record_stands : FT := runF 2 2 T_Record_stands
def mt_stands : Nat → Option FT
  | 0 => some F_Record_stands
  | 1 => some F_Record_stands
  | 2 => some F_Record_stands
  | 3 => some F_Record_stands
  | 4 => none
  | 5 => none
  | 6 => none
  | 7 => none
  | 8 => none
  | 9 => none
  | 10 => none
  | 11 => none
  | 12 => none
  | 13 => none
  | 14 => none
  | 15 => none
  | 16 => none
  | _ => none
theorem mo_stands {P : Program} {w : World} {K : PySem.W.Frag} {mg : Str → Option Value} {base : Heap} {A : Ads} (T : Tx P K mg A) {j : Nat} (hj : 3 ≤ j) : ∀ k F, mt_stands k = some F → ∃ lv, lv ≤ j ∧ Mth P w K mg base lv ((cz K A).cad k) "stands" (spF (cz K A) F) := fun k F h => match k, h with
    | 0, h => by cases (show (some F_Record_stands : Option FT) = some F from h); exact ⟨3, Nat.le_trans (by decide) hj, T.m_Inserted_stands.mth sc_Record_stands (fun hr => d_Record_stands T.G hr) (pur_F (z_Record_stands T))⟩
    | 1, h => by cases (show (some F_Record_stands : Option FT) = some F from h); exact ⟨3, Nat.le_trans (by decide) hj, T.m_Removed_stands.mth sc_Record_stands (fun hr => d_Record_stands T.G hr) (pur_F (z_Record_stands T))⟩
    | 2, h => by cases (show (some F_Record_stands : Option FT) = some F from h); exact ⟨3, Nat.le_trans (by decide) hj, T.m_Fronted_stands.mth sc_Record_stands (fun hr => d_Record_stands T.G hr) (pur_F (z_Record_stands T))⟩
    | 3, h => by cases (show (some F_Record_stands : Option FT) = some F from h); exact ⟨3, Nat.le_trans (by decide) hj, T.m_Record_stands.mth sc_Record_stands (fun hr => d_Record_stands T.G hr) (pur_F (z_Record_stands T))⟩
    | 4, h => by cases (show (none : Option FT) = some F from h)
    | 5, h => by cases (show (none : Option FT) = some F from h)
    | 6, h => by cases (show (none : Option FT) = some F from h)
    | 7, h => by cases (show (none : Option FT) = some F from h)
    | 8, h => by cases (show (none : Option FT) = some F from h)
    | 9, h => by cases (show (none : Option FT) = some F from h)
    | 10, h => by cases (show (none : Option FT) = some F from h)
    | 11, h => by cases (show (none : Option FT) = some F from h)
    | 12, h => by cases (show (none : Option FT) = some F from h)
    | 13, h => by cases (show (none : Option FT) = some F from h)
    | 14, h => by cases (show (none : Option FT) = some F from h)
    | 15, h => by cases (show (none : Option FT) = some F from h)
    | 16, h => by cases (show (none : Option FT) = some F from h)
    | _ + 17, h => by cases (show (none : Option FT) = some F from h)
def T_Record_has_room : TSd :=
  TRet (TAndV (TOp vLt (TCB bLen (PCons (TVar 1) (PNil))) (TC (.int 60))) (TAndV (TOp vNotIn (TAtt at_held_item ct_held_item "held_item" (TVar 0)) (TVar 1)) (TOp vLe (TAtt at_held_slot ct_held_slot "held_slot" (TVar 0)) (TCB bLen (PCons (TVar 1) (PNil))))))
theorem z_Record_has_room {P : Program} {w : World} {K : PySem.W.Frag} {mg : Str → Option Value} {base : Heap} {A : Ads} (T : Tx P K mg A) : ∀ E, SimS (cz K A) E (t_Record_has_room P w K mg base A E) T_Record_has_room := by
  intro E
  unfold t_Record_has_room T_Record_has_room
  exact sim_Ret (sim_AndV (sim_Op os_Lt (sim_CB cs_Len (sim_PCons (sim_Var) (sim_PNil))) (sim_C fun _ _ => .int _)) (sim_AndV (sim_Op os_NotIn (sim_Att (ao_held_item T) (sim_Var)) (sim_Var)) (sim_Op os_Le (sim_Att (ao_held_slot T) (sim_Var)) (sim_CB cs_Len (sim_PCons (sim_Var) (sim_PNil))))))
def F_Record_has_room : FT := runF 2 2 T_Record_has_room
def mt_has_room : Nat → Option FT
  | 0 => some F_Record_has_room
  | 1 => some F_Record_has_room
  | 2 => some F_Record_has_room
  | 3 => some F_Record_has_room
  | 4 => none
  | 5 => none
  | 6 => none
  | 7 => none
  | 8 => none
  | 9 => none
  | 10 => none
  | 11 => none
  | 12 => none
  | 13 => none
  | 14 => none
  | 15 => none
  | 16 => none
  | _ => none
theorem mo_has_room {P : Program} {w : World} {K : PySem.W.Frag} {mg : Str → Option Value} {base : Heap} {A : Ads} (T : Tx P K mg A) {j : Nat} (hj : 3 ≤ j) : ∀ k F, mt_has_room k = some F → ∃ lv, lv ≤ j ∧ Mth P w K mg base lv ((cz K A).cad k) "has_room" (spF (cz K A) F) := fun k F h => match k, h with
    | 0, h => by cases (show (some F_Record_has_room : Option FT) = some F from h); exact ⟨3, Nat.le_trans (by decide) hj, T.m_Inserted_has_room.mth sc_Record_has_room (fun hr => d_Record_has_room T.G hr) (pur_F (z_Record_has_room T))⟩
    | 1, h => by cases (show (some F_Record_has_room : Option FT) = some F from h); exact ⟨3, Nat.le_trans (by decide) hj, T.m_Removed_has_room.mth sc_Record_has_room (fun hr => d_Record_has_room T.G hr) (pur_F (z_Record_has_room T))⟩
    | 2, h => by cases (show (some F_Record_has_room : Option FT) = some F from h); exact ⟨3, Nat.le_trans (by decide) hj, T.m_Fronted_has_room.mth sc_Record_has_room (fun hr => d_Record_has_room T.G hr) (pur_F (z_Record_has_room T))⟩
    | 3, h => by cases (show (some F_Record_has_room : Option FT) = some F from h); exact ⟨3, Nat.le_trans (by decide) hj, T.m_Record_has_room.mth sc_Record_has_room (fun hr => d_Record_has_room T.G hr) (pur_F (z_Record_has_room T))⟩
    | 4, h => by cases (show (none : Option FT) = some F from h)
    | 5, h => by cases (show (none : Option FT) = some F from h)
    | 6, h => by cases (show (none : Option FT) = some F from h)
    | 7, h => by cases (show (none : Option FT) = some F from h)
    | 8, h => by cases (show (none : Option FT) = some F from h)
    | 9, h => by cases (show (none : Option FT) = some F from h)
    | 10, h => by cases (show (none : Option FT) = some F from h)
    | 11, h => by cases (show (none : Option FT) = some F from h)
    | 12, h => by cases (show (none : Option FT) = some F from h)
    | 13, h => by cases (show (none : Option FT) = some F from h)
    | 14, h => by cases (show (none : Option FT) = some F from h)
    | 15, h => by cases (show (none : Option FT) = some F from h)
    | 16, h => by cases (show (none : Option FT) = some F from h)
    | _ + 17, h => by cases (show (none : Option FT) = some F from h)
def T_Record_others : TSd :=
  TRet (TLcC (ILstC (TVar 1)) (GName 2) (TB (TOp vNe (TVar 2) (TAtt at_held_item ct_held_item "held_item" (TVar 0)))) (TVar 2) [2])
theorem z_Record_others {P : Program} {w : World} {K : PySem.W.Frag} {mg : Str → Option Value} {base : Heap} {A : Ads} (T : Tx P K mg A) : ∀ E, SimS (cz K A) E (t_Record_others P w K mg base A E) T_Record_others := by
  intro E
  unfold t_Record_others T_Record_others
  exact sim_Ret (sim_LcC rfl (sim_ILstC (sim_Var)) (sim_GName) (sim_Test (sim_Op os_Ne (sim_Var) (sim_Att (ao_held_item T) (sim_Var)))) (sim_Var))
def F_Record_others : FT := runF 2 3 T_Record_others
def mt_others : Nat → Option FT
  | 0 => some F_Record_others
  | 1 => some F_Record_others
  | 2 => some F_Record_others
  | 3 => some F_Record_others
  | 4 => none
  | 5 => none
  | 6 => none
  | 7 => none
  | 8 => none
  | 9 => none
  | 10 => none
  | 11 => none
  | 12 => none
  | 13 => none
  | 14 => none
  | 15 => none
  | 16 => none
  | _ => none
theorem mo_others {P : Program} {w : World} {K : PySem.W.Frag} {mg : Str → Option Value} {base : Heap} {A : Ads} (T : Tx P K mg A) {j : Nat} (hj : 3 ≤ j) : ∀ k F, mt_others k = some F → ∃ lv, lv ≤ j ∧ Mth P w K mg base lv ((cz K A).cad k) "others" (spF (cz K A) F) := fun k F h => match k, h with
    | 0, h => by cases (show (some F_Record_others : Option FT) = some F from h); exact ⟨3, Nat.le_trans (by decide) hj, T.m_Inserted_others.mth sc_Record_others (fun hr => d_Record_others T.G hr) (pur_F (z_Record_others T))⟩
    | 1, h => by cases (show (some F_Record_others : Option FT) = some F from h); exact ⟨3, Nat.le_trans (by decide) hj, T.m_Removed_others.mth sc_Record_others (fun hr => d_Record_others T.G hr) (pur_F (z_Record_others T))⟩
    | 2, h => by cases (show (some F_Record_others : Option FT) = some F from h); exact ⟨3, Nat.le_trans (by decide) hj, T.m_Fronted_others.mth sc_Record_others (fun hr => d_Record_others T.G hr) (pur_F (z_Record_others T))⟩
    | 3, h => by cases (show (some F_Record_others : Option FT) = some F from h); exact ⟨3, Nat.le_trans (by decide) hj, T.m_Record_others.mth sc_Record_others (fun hr => d_Record_others T.G hr) (pur_F (z_Record_others T))⟩
    | 4, h => by cases (show (none : Option FT) = some F from h)
    | 5, h => by cases (show (none : Option FT) = some F from h)
    | 6, h => by cases (show (none : Option FT) = some F from h)
    | 7, h => by cases (show (none : Option FT) = some F from h)
    | 8, h => by cases (show (none : Option FT) = some F from h)
    | 9, h => by cases (show (none : Option FT) = some F from h)
    | 10, h => by cases (show (none : Option FT) = some F from h)
    | 11, h => by cases (show (none : Option FT) = some F from h)
    | 12, h => by cases (show (none : Option FT) = some F from h)
    | 13, h => by cases (show (none : Option FT) = some F from h)
    | 14, h => by cases (show (none : Option FT) = some F from h)
    | 15, h => by cases (show (none : Option FT) = some F from h)
    | 16, h => by cases (show (none : Option FT) = some F from h)
    | _ + 17, h => by cases (show (none : Option FT) = some F from h)
def T_Record_put_in : TSd :=
  TRet (TLst (TStar (TSl slL (TVar 1) (TNoP) (TPart (TAtt at_held_slot ct_held_slot "held_slot" (TVar 0)))) (TCons (TAtt at_held_item ct_held_item "held_item" (TVar 0)) (TStar (TSl slL (TVar 1) (TPart (TAtt at_held_slot ct_held_slot "held_slot" (TVar 0))) (TNoP)) (TNil)))))
theorem z_Record_put_in {P : Program} {w : World} {K : PySem.W.Frag} {mg : Str → Option Value} {base : Heap} {A : Ads} (T : Tx P K mg A) : ∀ E, SimS (cz K A) E (t_Record_put_in P w K mg base A E) T_Record_put_in := by
  intro E
  unfold t_Record_put_in T_Record_put_in
  exact sim_Ret (sim_Lst (sim_Star (sim_Sl ss_L (sim_Var) (sim_NoP) (sim_Part (sim_Att (ao_held_slot T) (sim_Var)))) (sim_Cons (sim_Att (ao_held_item T) (sim_Var)) (sim_Star (sim_Sl ss_L (sim_Var) (sim_Part (sim_Att (ao_held_slot T) (sim_Var))) (sim_NoP)) (sim_Nil)))))
def F_Record_put_in : FT := runF 2 2 T_Record_put_in
def mt_put_in : Nat → Option FT
  | 0 => some F_Record_put_in
  | 1 => some F_Record_put_in
  | 2 => some F_Record_put_in
  | 3 => some F_Record_put_in
  | 4 => none
  | 5 => none
  | 6 => none
  | 7 => none
  | 8 => none
  | 9 => none
  | 10 => none
  | 11 => none
  | 12 => none
  | 13 => none
  | 14 => none
  | 15 => none
  | 16 => none
  | _ => none
theorem mo_put_in {P : Program} {w : World} {K : PySem.W.Frag} {mg : Str → Option Value} {base : Heap} {A : Ads} (T : Tx P K mg A) {j : Nat} (hj : 3 ≤ j) : ∀ k F, mt_put_in k = some F → ∃ lv, lv ≤ j ∧ Mth P w K mg base lv ((cz K A).cad k) "put_in" (spF (cz K A) F) := fun k F h => match k, h with
    | 0, h => by cases (show (some F_Record_put_in : Option FT) = some F from h); exact ⟨3, Nat.le_trans (by decide) hj, T.m_Inserted_put_in.mth sc_Record_put_in (fun hr => d_Record_put_in T.G hr) (pur_F (z_Record_put_in T))⟩
    | 1, h => by cases (show (some F_Record_put_in : Option FT) = some F from h); exact ⟨3, Nat.le_trans (by decide) hj, T.m_Removed_put_in.mth sc_Record_put_in (fun hr => d_Record_put_in T.G hr) (pur_F (z_Record_put_in T))⟩
    | 2, h => by cases (show (some F_Record_put_in : Option FT) = some F from h); exact ⟨3, Nat.le_trans (by decide) hj, T.m_Fronted_put_in.mth sc_Record_put_in (fun hr => d_Record_put_in T.G hr) (pur_F (z_Record_put_in T))⟩
    | 3, h => by cases (show (some F_Record_put_in : Option FT) = some F from h); exact ⟨3, Nat.le_trans (by decide) hj, T.m_Record_put_in.mth sc_Record_put_in (fun hr => d_Record_put_in T.G hr) (pur_F (z_Record_put_in T))⟩
    | 4, h => by cases (show (none : Option FT) = some F from h)
    | 5, h => by cases (show (none : Option FT) = some F from h)
    | 6, h => by cases (show (none : Option FT) = some F from h)
    | 7, h => by cases (show (none : Option FT) = some F from h)
    | 8, h => by cases (show (none : Option FT) = some F from h)
    | 9, h => by cases (show (none : Option FT) = some F from h)
    | 10, h => by cases (show (none : Option FT) = some F from h)
    | 11, h => by cases (show (none : Option FT) = some F from h)
    | 12, h => by cases (show (none : Option FT) = some F from h)
    | 13, h => by cases (show (none : Option FT) = some F from h)
    | 14, h => by cases (show (none : Option FT) = some F from h)
    | 15, h => by cases (show (none : Option FT) = some F from h)
    | 16, h => by cases (show (none : Option FT) = some F from h)
    | _ + 17, h => by cases (show (none : Option FT) = some F from h)
def T_Inserted_can_apply : TSd :=
  TRet (TMth mt_has_room "has_room" (TVar 0) (TCons (TVar 1) (TNil)))
theorem z_Inserted_can_apply {P : Program} {w : World} {K : PySem.W.Frag} {mg : Str → Option Value} {base : Heap} {A : Ads} (T : Tx P K mg A) : ∀ E, SimS (cz K A) E (t_Inserted_can_apply P w K mg base A E) T_Inserted_can_apply := by
  intro E
  unfold t_Inserted_can_apply T_Inserted_can_apply
  exact sim_Ret (sim_Mth (mo_has_room T (by decide)) (sim_Var) (sim_Cons (sim_Var) (sim_Nil)))
def F_Inserted_can_apply : FT := runF 2 2 T_Inserted_can_apply
def T_Removed_can_apply : TSd :=
  TRet (TMth mt_stands "stands" (TVar 0) (TCons (TVar 1) (TNil)))
theorem z_Removed_can_apply {P : Program} {w : World} {K : PySem.W.Frag} {mg : Str → Option Value} {base : Heap} {A : Ads} (T : Tx P K mg A) : ∀ E, SimS (cz K A) E (t_Removed_can_apply P w K mg base A E) T_Removed_can_apply := by
  intro E
  unfold t_Removed_can_apply T_Removed_can_apply
  exact sim_Ret (sim_Mth (mo_stands T (by decide)) (sim_Var) (sim_Cons (sim_Var) (sim_Nil)))
def F_Removed_can_apply : FT := runF 2 2 T_Removed_can_apply
def T_Fronted_can_apply : TSd :=
  TRet (TMth mt_stands "stands" (TVar 0) (TCons (TVar 1) (TNil)))
theorem z_Fronted_can_apply {P : Program} {w : World} {K : PySem.W.Frag} {mg : Str → Option Value} {base : Heap} {A : Ads} (T : Tx P K mg A) : ∀ E, SimS (cz K A) E (t_Fronted_can_apply P w K mg base A E) T_Fronted_can_apply := by
  intro E
  unfold t_Fronted_can_apply T_Fronted_can_apply
  exact sim_Ret (sim_Mth (mo_stands T (by decide)) (sim_Var) (sim_Cons (sim_Var) (sim_Nil)))
def F_Fronted_can_apply : FT := runF 2 2 T_Fronted_can_apply
def T_Record_can_apply : TSd :=
  TRet (TC (.bl false))
theorem z_Record_can_apply {P : Program} {w : World} {K : PySem.W.Frag} {mg : Str → Option Value} {base : Heap} {A : Ads} (T : Tx P K mg A) : ∀ E, SimS (cz K A) E (t_Record_can_apply P w K mg base A E) T_Record_can_apply := by
  intro E
  unfold t_Record_can_apply T_Record_can_apply
  exact sim_Ret (sim_C fun _ _ => .bl _)
def F_Record_can_apply : FT := runF 2 2 T_Record_can_apply
def mt_can_apply : Nat → Option FT
  | 0 => some F_Inserted_can_apply
  | 1 => some F_Removed_can_apply
  | 2 => some F_Fronted_can_apply
  | 3 => some F_Record_can_apply
  | 4 => none
  | 5 => none
  | 6 => none
  | 7 => none
  | 8 => none
  | 9 => none
  | 10 => none
  | 11 => none
  | 12 => none
  | 13 => none
  | 14 => none
  | 15 => none
  | 16 => none
  | _ => none
theorem mo_can_apply {P : Program} {w : World} {K : PySem.W.Frag} {mg : Str → Option Value} {base : Heap} {A : Ads} (T : Tx P K mg A) {j : Nat} (hj : 4 ≤ j) : ∀ k F, mt_can_apply k = some F → ∃ lv, lv ≤ j ∧ Mth P w K mg base lv ((cz K A).cad k) "can_apply" (spF (cz K A) F) := fun k F h => match k, h with
    | 0, h => by cases (show (some F_Inserted_can_apply : Option FT) = some F from h); exact ⟨4, Nat.le_trans (by decide) hj, T.m_Inserted_can_apply.mth sc_Inserted_can_apply (fun hr => d_Inserted_can_apply T.G hr) (pur_F (z_Inserted_can_apply T))⟩
    | 1, h => by cases (show (some F_Removed_can_apply : Option FT) = some F from h); exact ⟨4, Nat.le_trans (by decide) hj, T.m_Removed_can_apply.mth sc_Removed_can_apply (fun hr => d_Removed_can_apply T.G hr) (pur_F (z_Removed_can_apply T))⟩
    | 2, h => by cases (show (some F_Fronted_can_apply : Option FT) = some F from h); exact ⟨4, Nat.le_trans (by decide) hj, T.m_Fronted_can_apply.mth sc_Fronted_can_apply (fun hr => d_Fronted_can_apply T.G hr) (pur_F (z_Fronted_can_apply T))⟩
    | 3, h => by cases (show (some F_Record_can_apply : Option FT) = some F from h); exact ⟨4, Nat.le_trans (by decide) hj, T.m_Record_can_apply.mth sc_Record_can_apply (fun hr => d_Record_can_apply T.G hr) (pur_F (z_Record_can_apply T))⟩
    | 4, h => by cases (show (none : Option FT) = some F from h)
    | 5, h => by cases (show (none : Option FT) = some F from h)
    | 6, h => by cases (show (none : Option FT) = some F from h)
    | 7, h => by cases (show (none : Option FT) = some F from h)
    | 8, h => by cases (show (none : Option FT) = some F from h)
    | 9, h => by cases (show (none : Option FT) = some F from h)
    | 10, h => by cases (show (none : Option FT) = some F from h)
    | 11, h => by cases (show (none : Option FT) = some F from h)
    | 12, h => by cases (show (none : Option FT) = some F from h)
    | 13, h => by cases (show (none : Option FT) = some F from h)
    | 14, h => by cases (show (none : Option FT) = some F from h)
    | 15, h => by cases (show (none : Option FT) = some F from h)
    | 16, h => by cases (show (none : Option FT) = some F from h)
    | _ + 17, h => by cases (show (none : Option FT) = some F from h)
def T_Inserted_can_end : TSd :=
  TRet (TMth mt_stands "stands" (TVar 0) (TCons (TVar 1) (TNil)))
theorem z_Inserted_can_end {P : Program} {w : World} {K : PySem.W.Frag} {mg : Str → Option Value} {base : Heap} {A : Ads} (T : Tx P K mg A) : ∀ E, SimS (cz K A) E (t_Inserted_can_end P w K mg base A E) T_Inserted_can_end := by
  intro E
  unfold t_Inserted_can_end T_Inserted_can_end
  exact sim_Ret (sim_Mth (mo_stands T (by decide)) (sim_Var) (sim_Cons (sim_Var) (sim_Nil)))
def F_Inserted_can_end : FT := runF 2 2 T_Inserted_can_end
def T_Removed_can_end : TSd :=
  TRet (TMth mt_has_room "has_room" (TVar 0) (TCons (TVar 1) (TNil)))
theorem z_Removed_can_end {P : Program} {w : World} {K : PySem.W.Frag} {mg : Str → Option Value} {base : Heap} {A : Ads} (T : Tx P K mg A) : ∀ E, SimS (cz K A) E (t_Removed_can_end P w K mg base A E) T_Removed_can_end := by
  intro E
  unfold t_Removed_can_end T_Removed_can_end
  exact sim_Ret (sim_Mth (mo_has_room T (by decide)) (sim_Var) (sim_Cons (sim_Var) (sim_Nil)))
def F_Removed_can_end : FT := runF 2 2 T_Removed_can_end
def T_Fronted_can_end : TSd :=
  TRet (TAndV (TOp vIn (TAtt at_held_item ct_held_item "held_item" (TVar 0)) (TSl slL (TVar 1) (TNoP) (TPart (TC (.int 1))))) (TOp vLt (TAtt at_held_slot ct_held_slot "held_slot" (TVar 0)) (TCB bLen (PCons (TVar 1) (PNil)))))
theorem z_Fronted_can_end {P : Program} {w : World} {K : PySem.W.Frag} {mg : Str → Option Value} {base : Heap} {A : Ads} (T : Tx P K mg A) : ∀ E, SimS (cz K A) E (t_Fronted_can_end P w K mg base A E) T_Fronted_can_end := by
  intro E
  unfold t_Fronted_can_end T_Fronted_can_end
  exact sim_Ret (sim_AndV (sim_Op os_In (sim_Att (ao_held_item T) (sim_Var)) (sim_Sl ss_L (sim_Var) (sim_NoP) (sim_Part (sim_C fun _ _ => .int _)))) (sim_Op os_Lt (sim_Att (ao_held_slot T) (sim_Var)) (sim_CB cs_Len (sim_PCons (sim_Var) (sim_PNil)))))
def F_Fronted_can_end : FT := runF 2 2 T_Fronted_can_end
def T_Record_can_end : TSd :=
  TRet (TC (.bl false))
theorem z_Record_can_end {P : Program} {w : World} {K : PySem.W.Frag} {mg : Str → Option Value} {base : Heap} {A : Ads} (T : Tx P K mg A) : ∀ E, SimS (cz K A) E (t_Record_can_end P w K mg base A E) T_Record_can_end := by
  intro E
  unfold t_Record_can_end T_Record_can_end
  exact sim_Ret (sim_C fun _ _ => .bl _)
def F_Record_can_end : FT := runF 2 2 T_Record_can_end
def mt_can_end : Nat → Option FT
  | 0 => some F_Inserted_can_end
  | 1 => some F_Removed_can_end
  | 2 => some F_Fronted_can_end
  | 3 => some F_Record_can_end
  | 4 => none
  | 5 => none
  | 6 => none
  | 7 => none
  | 8 => none
  | 9 => none
  | 10 => none
  | 11 => none
  | 12 => none
  | 13 => none
  | 14 => none
  | 15 => none
  | 16 => none
  | _ => none
theorem mo_can_end {P : Program} {w : World} {K : PySem.W.Frag} {mg : Str → Option Value} {base : Heap} {A : Ads} (T : Tx P K mg A) {j : Nat} (hj : 4 ≤ j) : ∀ k F, mt_can_end k = some F → ∃ lv, lv ≤ j ∧ Mth P w K mg base lv ((cz K A).cad k) "can_end" (spF (cz K A) F) := fun k F h => match k, h with
    | 0, h => by cases (show (some F_Inserted_can_end : Option FT) = some F from h); exact ⟨4, Nat.le_trans (by decide) hj, T.m_Inserted_can_end.mth sc_Inserted_can_end (fun hr => d_Inserted_can_end T.G hr) (pur_F (z_Inserted_can_end T))⟩
    | 1, h => by cases (show (some F_Removed_can_end : Option FT) = some F from h); exact ⟨4, Nat.le_trans (by decide) hj, T.m_Removed_can_end.mth sc_Removed_can_end (fun hr => d_Removed_can_end T.G hr) (pur_F (z_Removed_can_end T))⟩
    | 2, h => by cases (show (some F_Fronted_can_end : Option FT) = some F from h); exact ⟨4, Nat.le_trans (by decide) hj, T.m_Fronted_can_end.mth sc_Fronted_can_end (fun hr => d_Fronted_can_end T.G hr) (pur_F (z_Fronted_can_end T))⟩
    | 3, h => by cases (show (some F_Record_can_end : Option FT) = some F from h); exact ⟨4, Nat.le_trans (by decide) hj, T.m_Record_can_end.mth sc_Record_can_end (fun hr => d_Record_can_end T.G hr) (pur_F (z_Record_can_end T))⟩
    | 4, h => by cases (show (none : Option FT) = some F from h)
    | 5, h => by cases (show (none : Option FT) = some F from h)
    | 6, h => by cases (show (none : Option FT) = some F from h)
    | 7, h => by cases (show (none : Option FT) = some F from h)
    | 8, h => by cases (show (none : Option FT) = some F from h)
    | 9, h => by cases (show (none : Option FT) = some F from h)
    | 10, h => by cases (show (none : Option FT) = some F from h)
    | 11, h => by cases (show (none : Option FT) = some F from h)
    | 12, h => by cases (show (none : Option FT) = some F from h)
    | 13, h => by cases (show (none : Option FT) = some F from h)
    | 14, h => by cases (show (none : Option FT) = some F from h)
    | 15, h => by cases (show (none : Option FT) = some F from h)
    | 16, h => by cases (show (none : Option FT) = some F from h)
    | _ + 17, h => by cases (show (none : Option FT) = some F from h)
def T_Inserted_after : TSd :=
  TRet (TMth mt_put_in "put_in" (TVar 0) (TCons (TVar 1) (TNil)))
theorem z_Inserted_after {P : Program} {w : World} {K : PySem.W.Frag} {mg : Str → Option Value} {base : Heap} {A : Ads} (T : Tx P K mg A) : ∀ E, SimS (cz K A) E (t_Inserted_after P w K mg base A E) T_Inserted_after := by
  intro E
  unfold t_Inserted_after T_Inserted_after
  exact sim_Ret (sim_Mth (mo_put_in T (by decide)) (sim_Var) (sim_Cons (sim_Var) (sim_Nil)))
def F_Inserted_after : FT := runF 2 2 T_Inserted_after
def T_Removed_after : TSd :=
  TRet (TMth mt_others "others" (TVar 0) (TCons (TVar 1) (TNil)))
theorem z_Removed_after {P : Program} {w : World} {K : PySem.W.Frag} {mg : Str → Option Value} {base : Heap} {A : Ads} (T : Tx P K mg A) : ∀ E, SimS (cz K A) E (t_Removed_after P w K mg base A E) T_Removed_after := by
  intro E
  unfold t_Removed_after T_Removed_after
  exact sim_Ret (sim_Mth (mo_others T (by decide)) (sim_Var) (sim_Cons (sim_Var) (sim_Nil)))
def F_Removed_after : FT := runF 2 2 T_Removed_after
def T_Fronted_after : TSd :=
  TRet (TLst (TCons (TAtt at_held_item ct_held_item "held_item" (TVar 0)) (TStar (TMth mt_others "others" (TVar 0) (TCons (TVar 1) (TNil))) (TNil))))
theorem z_Fronted_after {P : Program} {w : World} {K : PySem.W.Frag} {mg : Str → Option Value} {base : Heap} {A : Ads} (T : Tx P K mg A) : ∀ E, SimS (cz K A) E (t_Fronted_after P w K mg base A E) T_Fronted_after := by
  intro E
  unfold t_Fronted_after T_Fronted_after
  exact sim_Ret (sim_Lst (sim_Cons (sim_Att (ao_held_item T) (sim_Var)) (sim_Star (sim_Mth (mo_others T (by decide)) (sim_Var) (sim_Cons (sim_Var) (sim_Nil))) (sim_Nil))))
def F_Fronted_after : FT := runF 2 2 T_Fronted_after
def T_Record_after : TSd :=
  TRet (TCB bList (PCons (TVar 1) (PNil)))
theorem z_Record_after {P : Program} {w : World} {K : PySem.W.Frag} {mg : Str → Option Value} {base : Heap} {A : Ads} (T : Tx P K mg A) : ∀ E, SimS (cz K A) E (t_Record_after P w K mg base A E) T_Record_after := by
  intro E
  unfold t_Record_after T_Record_after
  exact sim_Ret (sim_CB cs_List (sim_PCons (sim_Var) (sim_PNil)))
def F_Record_after : FT := runF 2 2 T_Record_after
def mt_after : Nat → Option FT
  | 0 => some F_Inserted_after
  | 1 => some F_Removed_after
  | 2 => some F_Fronted_after
  | 3 => some F_Record_after
  | 4 => none
  | 5 => none
  | 6 => none
  | 7 => none
  | 8 => none
  | 9 => none
  | 10 => none
  | 11 => none
  | 12 => none
  | 13 => none
  | 14 => none
  | 15 => none
  | 16 => none
  | _ => none
theorem mo_after {P : Program} {w : World} {K : PySem.W.Frag} {mg : Str → Option Value} {base : Heap} {A : Ads} (T : Tx P K mg A) {j : Nat} (hj : 4 ≤ j) : ∀ k F, mt_after k = some F → ∃ lv, lv ≤ j ∧ Mth P w K mg base lv ((cz K A).cad k) "after" (spF (cz K A) F) := fun k F h => match k, h with
    | 0, h => by cases (show (some F_Inserted_after : Option FT) = some F from h); exact ⟨4, Nat.le_trans (by decide) hj, T.m_Inserted_after.mth sc_Inserted_after (fun hr => d_Inserted_after T.G hr) (pur_F (z_Inserted_after T))⟩
    | 1, h => by cases (show (some F_Removed_after : Option FT) = some F from h); exact ⟨4, Nat.le_trans (by decide) hj, T.m_Removed_after.mth sc_Removed_after (fun hr => d_Removed_after T.G hr) (pur_F (z_Removed_after T))⟩
    | 2, h => by cases (show (some F_Fronted_after : Option FT) = some F from h); exact ⟨4, Nat.le_trans (by decide) hj, T.m_Fronted_after.mth sc_Fronted_after (fun hr => d_Fronted_after T.G hr) (pur_F (z_Fronted_after T))⟩
    | 3, h => by cases (show (some F_Record_after : Option FT) = some F from h); exact ⟨4, Nat.le_trans (by decide) hj, T.m_Record_after.mth sc_Record_after (fun hr => d_Record_after T.G hr) (pur_F (z_Record_after T))⟩
    | 4, h => by cases (show (none : Option FT) = some F from h)
    | 5, h => by cases (show (none : Option FT) = some F from h)
    | 6, h => by cases (show (none : Option FT) = some F from h)
    | 7, h => by cases (show (none : Option FT) = some F from h)
    | 8, h => by cases (show (none : Option FT) = some F from h)
    | 9, h => by cases (show (none : Option FT) = some F from h)
    | 10, h => by cases (show (none : Option FT) = some F from h)
    | 11, h => by cases (show (none : Option FT) = some F from h)
    | 12, h => by cases (show (none : Option FT) = some F from h)
    | 13, h => by cases (show (none : Option FT) = some F from h)
    | 14, h => by cases (show (none : Option FT) = some F from h)
    | 15, h => by cases (show (none : Option FT) = some F from h)
    | 16, h => by cases (show (none : Option FT) = some F from h)
    | _ + 17, h => by cases (show (none : Option FT) = some F from h)
def T_Inserted_before : TSd :=
  TRet (TMth mt_others "others" (TVar 0) (TCons (TVar 1) (TNil)))
theorem z_Inserted_before {P : Program} {w : World} {K : PySem.W.Frag} {mg : Str → Option Value} {base : Heap} {A : Ads} (T : Tx P K mg A) : ∀ E, SimS (cz K A) E (t_Inserted_before P w K mg base A E) T_Inserted_before := by
  intro E
  unfold t_Inserted_before T_Inserted_before
  exact sim_Ret (sim_Mth (mo_others T (by decide)) (sim_Var) (sim_Cons (sim_Var) (sim_Nil)))
def F_Inserted_before : FT := runF 2 2 T_Inserted_before
def T_Removed_before : TSd :=
  TRet (TMth mt_put_in "put_in" (TVar 0) (TCons (TVar 1) (TNil)))
theorem z_Removed_before {P : Program} {w : World} {K : PySem.W.Frag} {mg : Str → Option Value} {base : Heap} {A : Ads} (T : Tx P K mg A) : ∀ E, SimS (cz K A) E (t_Removed_before P w K mg base A E) T_Removed_before := by
  intro E
  unfold t_Removed_before T_Removed_before
  exact sim_Ret (sim_Mth (mo_put_in T (by decide)) (sim_Var) (sim_Cons (sim_Var) (sim_Nil)))
def F_Removed_before : FT := runF 2 2 T_Removed_before
def T_Fronted_before : TSd :=
  TRet (TMth mt_put_in "put_in" (TVar 0) (TCons (TMth mt_others "others" (TVar 0) (TCons (TVar 1) (TNil))) (TNil)))
theorem z_Fronted_before {P : Program} {w : World} {K : PySem.W.Frag} {mg : Str → Option Value} {base : Heap} {A : Ads} (T : Tx P K mg A) : ∀ E, SimS (cz K A) E (t_Fronted_before P w K mg base A E) T_Fronted_before := by
  intro E
  unfold t_Fronted_before T_Fronted_before
  exact sim_Ret (sim_Mth (mo_put_in T (by decide)) (sim_Var) (sim_Cons (sim_Mth (mo_others T (by decide)) (sim_Var) (sim_Cons (sim_Var) (sim_Nil))) (sim_Nil)))
def F_Fronted_before : FT := runF 2 2 T_Fronted_before
def T_Record_before : TSd :=
  TRet (TCB bList (PCons (TVar 1) (PNil)))
theorem z_Record_before {P : Program} {w : World} {K : PySem.W.Frag} {mg : Str → Option Value} {base : Heap} {A : Ads} (T : Tx P K mg A) : ∀ E, SimS (cz K A) E (t_Record_before P w K mg base A E) T_Record_before := by
  intro E
  unfold t_Record_before T_Record_before
  exact sim_Ret (sim_CB cs_List (sim_PCons (sim_Var) (sim_PNil)))
def F_Record_before : FT := runF 2 2 T_Record_before
def mt_before : Nat → Option FT
  | 0 => some F_Inserted_before
  | 1 => some F_Removed_before
  | 2 => some F_Fronted_before
  | 3 => some F_Record_before
  | 4 => none
  | 5 => none
  | 6 => none
  | 7 => none
  | 8 => none
  | 9 => none
  | 10 => none
  | 11 => none
  | 12 => none
  | 13 => none
  | 14 => none
  | 15 => none
  | 16 => none
  | _ => none
theorem mo_before {P : Program} {w : World} {K : PySem.W.Frag} {mg : Str → Option Value} {base : Heap} {A : Ads} (T : Tx P K mg A) {j : Nat} (hj : 5 ≤ j) : ∀ k F, mt_before k = some F → ∃ lv, lv ≤ j ∧ Mth P w K mg base lv ((cz K A).cad k) "before" (spF (cz K A) F) := fun k F h => match k, h with
    | 0, h => by cases (show (some F_Inserted_before : Option FT) = some F from h); exact ⟨4, Nat.le_trans (by decide) hj, T.m_Inserted_before.mth sc_Inserted_before (fun hr => d_Inserted_before T.G hr) (pur_F (z_Inserted_before T))⟩
    | 1, h => by cases (show (some F_Removed_before : Option FT) = some F from h); exact ⟨4, Nat.le_trans (by decide) hj, T.m_Removed_before.mth sc_Removed_before (fun hr => d_Removed_before T.G hr) (pur_F (z_Removed_before T))⟩
    | 2, h => by cases (show (some F_Fronted_before : Option FT) = some F from h); exact ⟨5, Nat.le_trans (by decide) hj, T.m_Fronted_before.mth sc_Fronted_before (fun hr => d_Fronted_before T.G hr) (pur_F (z_Fronted_before T))⟩
    | 3, h => by cases (show (some F_Record_before : Option FT) = some F from h); exact ⟨4, Nat.le_trans (by decide) hj, T.m_Record_before.mth sc_Record_before (fun hr => d_Record_before T.G hr) (pur_F (z_Record_before T))⟩
    | 4, h => by cases (show (none : Option FT) = some F from h)
    | 5, h => by cases (show (none : Option FT) = some F from h)
    | 6, h => by cases (show (none : Option FT) = some F from h)
    | 7, h => by cases (show (none : Option FT) = some F from h)
    | 8, h => by cases (show (none : Option FT) = some F from h)
    | 9, h => by cases (show (none : Option FT) = some F from h)
    | 10, h => by cases (show (none : Option FT) = some F from h)
    | 11, h => by cases (show (none : Option FT) = some F from h)
    | 12, h => by cases (show (none : Option FT) = some F from h)
    | 13, h => by cases (show (none : Option FT) = some F from h)
    | 14, h => by cases (show (none : Option FT) = some F from h)
    | 15, h => by cases (show (none : Option FT) = some F from h)
    | 16, h => by cases (show (none : Option FT) = some F from h)
    | _ + 17, h => by cases (show (none : Option FT) = some F from h)
def T_Record_applies : TSd :=
  TSeq (TDrop (TFn F_need_items (TCons (TVar 1) (TNil)))) (TRet (TMth mt_can_apply "can_apply" (TVar 0) (TCons (TVar 1) (TNil))))
theorem z_Record_applies {P : Program} {w : World} {K : PySem.W.Frag} {mg : Str → Option Value} {base : Heap} {A : Ads} (T : Tx P K mg A) : ∀ E, SimS (cz K A) E (t_Record_applies P w K mg base A E) T_Record_applies := by
  intro E
  unfold t_Record_applies T_Record_applies
  exact sim_Seq (sim_Drop (sim_Fn (fd_need_items T) (by decide) (sim_Cons (sim_Var) (sim_Nil)))) (sim_Ret (sim_Mth (mo_can_apply T (by decide)) (sim_Var) (sim_Cons (sim_Var) (sim_Nil))))
def F_Record_applies : FT := runF 2 2 T_Record_applies
def mt_applies : Nat → Option FT
  | 0 => some F_Record_applies
  | 1 => some F_Record_applies
  | 2 => some F_Record_applies
  | 3 => some F_Record_applies
  | 4 => none
  | 5 => none
  | 6 => none
  | 7 => none
  | 8 => none
  | 9 => none
  | 10 => none
  | 11 => none
  | 12 => none
  | 13 => none
  | 14 => none
  | 15 => none
  | 16 => none
  | _ => none
theorem mo_applies {P : Program} {w : World} {K : PySem.W.Frag} {mg : Str → Option Value} {base : Heap} {A : Ads} (T : Tx P K mg A) {j : Nat} (hj : 6 ≤ j) : ∀ k F, mt_applies k = some F → ∃ lv, lv ≤ j ∧ Mth P w K mg base lv ((cz K A).cad k) "applies" (spF (cz K A) F) := fun k F h => match k, h with
    | 0, h => by cases (show (some F_Record_applies : Option FT) = some F from h); exact ⟨6, Nat.le_trans (by decide) hj, T.m_Inserted_applies.mth sc_Record_applies (fun hr => d_Record_applies T.G hr) (pur_F (z_Record_applies T))⟩
    | 1, h => by cases (show (some F_Record_applies : Option FT) = some F from h); exact ⟨6, Nat.le_trans (by decide) hj, T.m_Removed_applies.mth sc_Record_applies (fun hr => d_Record_applies T.G hr) (pur_F (z_Record_applies T))⟩
    | 2, h => by cases (show (some F_Record_applies : Option FT) = some F from h); exact ⟨6, Nat.le_trans (by decide) hj, T.m_Fronted_applies.mth sc_Record_applies (fun hr => d_Record_applies T.G hr) (pur_F (z_Record_applies T))⟩
    | 3, h => by cases (show (some F_Record_applies : Option FT) = some F from h); exact ⟨6, Nat.le_trans (by decide) hj, T.m_Record_applies.mth sc_Record_applies (fun hr => d_Record_applies T.G hr) (pur_F (z_Record_applies T))⟩
    | 4, h => by cases (show (none : Option FT) = some F from h)
    | 5, h => by cases (show (none : Option FT) = some F from h)
    | 6, h => by cases (show (none : Option FT) = some F from h)
    | 7, h => by cases (show (none : Option FT) = some F from h)
    | 8, h => by cases (show (none : Option FT) = some F from h)
    | 9, h => by cases (show (none : Option FT) = some F from h)
    | 10, h => by cases (show (none : Option FT) = some F from h)
    | 11, h => by cases (show (none : Option FT) = some F from h)
    | 12, h => by cases (show (none : Option FT) = some F from h)
    | 13, h => by cases (show (none : Option FT) = some F from h)
    | 14, h => by cases (show (none : Option FT) = some F from h)
    | 15, h => by cases (show (none : Option FT) = some F from h)
    | 16, h => by cases (show (none : Option FT) = some F from h)
    | _ + 17, h => by cases (show (none : Option FT) = some F from h)
def T_Record_applied : TSd :=
  TSeq (TIfS (TNot (TB (TMth mt_applies "applies" (TVar 0) (TCons (TVar 1) (TNil))))) (TRaiseF 14 "reason" (TAtt at_held_item ct_held_item "held_item" (TVar 0))) (TNext)) (TRet (TMth mt_after "after" (TVar 0) (TCons (TVar 1) (TNil))))
theorem z_Record_applied {P : Program} {w : World} {K : PySem.W.Frag} {mg : Str → Option Value} {base : Heap} {A : Ads} (T : Tx P K mg A) : ∀ E, SimS (cz K A) E (t_Record_applied P w K mg base A E) T_Record_applied := by
  intro E
  unfold t_Record_applied T_Record_applied
  exact sim_Seq (sim_IfS (sim_Not (sim_B (sim_Mth (mo_applies T (by decide)) (sim_Var) (sim_Cons (sim_Var) (sim_Nil))))) (sim_RaiseF (k := 14) (sim_Att (ao_held_item T) (sim_Var))) (sim_Next)) (sim_Ret (sim_Mth (mo_after T (by decide)) (sim_Var) (sim_Cons (sim_Var) (sim_Nil))))
def F_Record_applied : FT := runF 2 2 T_Record_applied
def mt_applied : Nat → Option FT
  | 0 => some F_Record_applied
  | 1 => some F_Record_applied
  | 2 => some F_Record_applied
  | 3 => some F_Record_applied
  | 4 => none
  | 5 => none
  | 6 => none
  | 7 => none
  | 8 => none
  | 9 => none
  | 10 => none
  | 11 => none
  | 12 => none
  | 13 => none
  | 14 => none
  | 15 => none
  | 16 => none
  | _ => none
theorem mo_applied {P : Program} {w : World} {K : PySem.W.Frag} {mg : Str → Option Value} {base : Heap} {A : Ads} (T : Tx P K mg A) {j : Nat} (hj : 7 ≤ j) : ∀ k F, mt_applied k = some F → ∃ lv, lv ≤ j ∧ Mth P w K mg base lv ((cz K A).cad k) "applied" (spF (cz K A) F) := fun k F h => match k, h with
    | 0, h => by cases (show (some F_Record_applied : Option FT) = some F from h); exact ⟨7, Nat.le_trans (by decide) hj, T.m_Inserted_applied.mth sc_Record_applied (fun hr => d_Record_applied T.G hr) (pur_F (z_Record_applied T))⟩
    | 1, h => by cases (show (some F_Record_applied : Option FT) = some F from h); exact ⟨7, Nat.le_trans (by decide) hj, T.m_Removed_applied.mth sc_Record_applied (fun hr => d_Record_applied T.G hr) (pur_F (z_Record_applied T))⟩
    | 2, h => by cases (show (some F_Record_applied : Option FT) = some F from h); exact ⟨7, Nat.le_trans (by decide) hj, T.m_Fronted_applied.mth sc_Record_applied (fun hr => d_Record_applied T.G hr) (pur_F (z_Record_applied T))⟩
    | 3, h => by cases (show (some F_Record_applied : Option FT) = some F from h); exact ⟨7, Nat.le_trans (by decide) hj, T.m_Record_applied.mth sc_Record_applied (fun hr => d_Record_applied T.G hr) (pur_F (z_Record_applied T))⟩
    | 4, h => by cases (show (none : Option FT) = some F from h)
    | 5, h => by cases (show (none : Option FT) = some F from h)
    | 6, h => by cases (show (none : Option FT) = some F from h)
    | 7, h => by cases (show (none : Option FT) = some F from h)
    | 8, h => by cases (show (none : Option FT) = some F from h)
    | 9, h => by cases (show (none : Option FT) = some F from h)
    | 10, h => by cases (show (none : Option FT) = some F from h)
    | 11, h => by cases (show (none : Option FT) = some F from h)
    | 12, h => by cases (show (none : Option FT) = some F from h)
    | 13, h => by cases (show (none : Option FT) = some F from h)
    | 14, h => by cases (show (none : Option FT) = some F from h)
    | 15, h => by cases (show (none : Option FT) = some F from h)
    | 16, h => by cases (show (none : Option FT) = some F from h)
    | _ + 17, h => by cases (show (none : Option FT) = some F from h)
def T_Record_taken_back : TSd :=
  TSeq (TDrop (TFn F_need_items (TCons (TVar 1) (TNil)))) (TSeq (TIfS (TNot (TB (TMth mt_can_end "can_end" (TVar 0) (TCons (TVar 1) (TNil))))) (TRaiseF 14 "reason" (TAtt at_held_item ct_held_item "held_item" (TVar 0))) (TNext)) (TRet (TMth mt_before "before" (TVar 0) (TCons (TVar 1) (TNil)))))
theorem z_Record_taken_back {P : Program} {w : World} {K : PySem.W.Frag} {mg : Str → Option Value} {base : Heap} {A : Ads} (T : Tx P K mg A) : ∀ E, SimS (cz K A) E (t_Record_taken_back P w K mg base A E) T_Record_taken_back := by
  intro E
  unfold t_Record_taken_back T_Record_taken_back
  exact sim_Seq (sim_Drop (sim_Fn (fd_need_items T) (by decide) (sim_Cons (sim_Var) (sim_Nil)))) (sim_Seq (sim_IfS (sim_Not (sim_B (sim_Mth (mo_can_end T (by decide)) (sim_Var) (sim_Cons (sim_Var) (sim_Nil))))) (sim_RaiseF (k := 14) (sim_Att (ao_held_item T) (sim_Var))) (sim_Next)) (sim_Ret (sim_Mth (mo_before T (by decide)) (sim_Var) (sim_Cons (sim_Var) (sim_Nil)))))
def F_Record_taken_back : FT := runF 2 2 T_Record_taken_back
def mt_taken_back : Nat → Option FT
  | 0 => some F_Record_taken_back
  | 1 => some F_Record_taken_back
  | 2 => some F_Record_taken_back
  | 3 => some F_Record_taken_back
  | 4 => none
  | 5 => none
  | 6 => none
  | 7 => none
  | 8 => none
  | 9 => none
  | 10 => none
  | 11 => none
  | 12 => none
  | 13 => none
  | 14 => none
  | 15 => none
  | 16 => none
  | _ => none
theorem mo_taken_back {P : Program} {w : World} {K : PySem.W.Frag} {mg : Str → Option Value} {base : Heap} {A : Ads} (T : Tx P K mg A) {j : Nat} (hj : 7 ≤ j) : ∀ k F, mt_taken_back k = some F → ∃ lv, lv ≤ j ∧ Mth P w K mg base lv ((cz K A).cad k) "taken_back" (spF (cz K A) F) := fun k F h => match k, h with
    | 0, h => by cases (show (some F_Record_taken_back : Option FT) = some F from h); exact ⟨7, Nat.le_trans (by decide) hj, T.m_Inserted_taken_back.mth sc_Record_taken_back (fun hr => d_Record_taken_back T.G hr) (pur_F (z_Record_taken_back T))⟩
    | 1, h => by cases (show (some F_Record_taken_back : Option FT) = some F from h); exact ⟨7, Nat.le_trans (by decide) hj, T.m_Removed_taken_back.mth sc_Record_taken_back (fun hr => d_Record_taken_back T.G hr) (pur_F (z_Record_taken_back T))⟩
    | 2, h => by cases (show (some F_Record_taken_back : Option FT) = some F from h); exact ⟨7, Nat.le_trans (by decide) hj, T.m_Fronted_taken_back.mth sc_Record_taken_back (fun hr => d_Record_taken_back T.G hr) (pur_F (z_Record_taken_back T))⟩
    | 3, h => by cases (show (some F_Record_taken_back : Option FT) = some F from h); exact ⟨7, Nat.le_trans (by decide) hj, T.m_Record_taken_back.mth sc_Record_taken_back (fun hr => d_Record_taken_back T.G hr) (pur_F (z_Record_taken_back T))⟩
    | 4, h => by cases (show (none : Option FT) = some F from h)
    | 5, h => by cases (show (none : Option FT) = some F from h)
    | 6, h => by cases (show (none : Option FT) = some F from h)
    | 7, h => by cases (show (none : Option FT) = some F from h)
    | 8, h => by cases (show (none : Option FT) = some F from h)
    | 9, h => by cases (show (none : Option FT) = some F from h)
    | 10, h => by cases (show (none : Option FT) = some F from h)
    | 11, h => by cases (show (none : Option FT) = some F from h)
    | 12, h => by cases (show (none : Option FT) = some F from h)
    | 13, h => by cases (show (none : Option FT) = some F from h)
    | 14, h => by cases (show (none : Option FT) = some F from h)
    | 15, h => by cases (show (none : Option FT) = some F from h)
    | 16, h => by cases (show (none : Option FT) = some F from h)
    | _ + 17, h => by cases (show (none : Option FT) = some F from h)
theorem mk_taken_back {P : Program} {w : World} {K : PySem.W.Frag} {mg : Str → Option Value} {base : Heap} {A : Ads} (T : Tx P K mg A) {j : Nat} (hj : 7 ≤ j) : ∀ k F, mt_taken_back k = some F → ∃ lv, lv ≤ j ∧ MthK P w K mg base lv ((cz K A).cad k) "taken_back" ["items"] id (spF (cz K A) F) := fun k F h => match k, h with
    | 0, h => by cases (show (some F_Record_taken_back : Option FT) = some F from h); exact ⟨7, Nat.le_trans (by decide) hj, T.m_Inserted_taken_back.mthK1 sc_Record_taken_back (fun hr => d_Record_taken_back T.G hr) (pur_F (z_Record_taken_back T)) (fun _ _ _ _ _ _ _ _ => rfl)⟩
    | 1, h => by cases (show (some F_Record_taken_back : Option FT) = some F from h); exact ⟨7, Nat.le_trans (by decide) hj, T.m_Removed_taken_back.mthK1 sc_Record_taken_back (fun hr => d_Record_taken_back T.G hr) (pur_F (z_Record_taken_back T)) (fun _ _ _ _ _ _ _ _ => rfl)⟩
    | 2, h => by cases (show (some F_Record_taken_back : Option FT) = some F from h); exact ⟨7, Nat.le_trans (by decide) hj, T.m_Fronted_taken_back.mthK1 sc_Record_taken_back (fun hr => d_Record_taken_back T.G hr) (pur_F (z_Record_taken_back T)) (fun _ _ _ _ _ _ _ _ => rfl)⟩
    | 3, h => by cases (show (some F_Record_taken_back : Option FT) = some F from h); exact ⟨7, Nat.le_trans (by decide) hj, T.m_Record_taken_back.mthK1 sc_Record_taken_back (fun hr => d_Record_taken_back T.G hr) (pur_F (z_Record_taken_back T)) (fun _ _ _ _ _ _ _ _ => rfl)⟩
    | 4, h => by cases (show (none : Option FT) = some F from h)
    | 5, h => by cases (show (none : Option FT) = some F from h)
    | 6, h => by cases (show (none : Option FT) = some F from h)
    | 7, h => by cases (show (none : Option FT) = some F from h)
    | 8, h => by cases (show (none : Option FT) = some F from h)
    | 9, h => by cases (show (none : Option FT) = some F from h)
    | 10, h => by cases (show (none : Option FT) = some F from h)
    | 11, h => by cases (show (none : Option FT) = some F from h)
    | 12, h => by cases (show (none : Option FT) = some F from h)
    | 13, h => by cases (show (none : Option FT) = some F from h)
    | 14, h => by cases (show (none : Option FT) = some F from h)
    | 15, h => by cases (show (none : Option FT) = some F from h)
    | 16, h => by cases (show (none : Option FT) = some F from h)
    | _ + 17, h => by cases (show (none : Option FT) = some F from h)
def T_law_source : TSd :=
  TSeq (TAsg (TIf (TB (TOp vLt (TVar 1) (TCB bLen (PCons (TVar 0) (PNil))))) (TCB bAbs (PCons (TOp vIx (TVar 0) (TVar 1)) (PNil))) (TC (.int 0))) 2) (TRet (TLst (TCons (TCB bMax (PCons (TC (.int 0)) (PCons (TOp vSub (TVar 2) (TOp vPow (TC (.int 10)) (TC (.int 18)))) (PNil)))) (TCons (TOp vAdd (TOp vMul (TOp vMod (TVar 2) (TOp vAdd (TOp vPow (TC (.int 10)) (TC (.int 39))) (TC (.int 153)))) (TC (.int 64))) (TVar 1)) (TCons (TC (.int 0)) (TNil))))))
theorem z_law_source {P : Program} {w : World} {K : PySem.W.Frag} {mg : Str → Option Value} {base : Heap} {A : Ads} (T : Tx P K mg A) : ∀ E, SimS (cz K A) E (t_law_source P w K mg base A E) T_law_source := by
  intro E
  unfold t_law_source T_law_source
  exact sim_Seq (sim_Asg (sim_If (sim_Test (sim_Op os_Lt (sim_Var) (sim_CB cs_Len (sim_PCons (sim_Var) (sim_PNil))))) (sim_CB cs_Abs (sim_PCons (sim_Op os_Ix (sim_Var) (sim_Var)) (sim_PNil))) (sim_C fun _ _ => .int _))) (sim_Ret (sim_Lst (sim_Cons (sim_CB cs_Max (sim_PCons (sim_C fun _ _ => .int _) (sim_PCons (sim_Op os_Sub (sim_Var) (sim_Op os_Pow (sim_C fun _ _ => .int _) (sim_C fun _ _ => .int _))) (sim_PNil)))) (sim_Cons (sim_Op os_Add (sim_Op os_Mul (sim_Op os_Mod (sim_Var) (sim_Op os_Add (sim_Op os_Pow (sim_C fun _ _ => .int _) (sim_C fun _ _ => .int _)) (sim_C fun _ _ => .int _))) (sim_C fun _ _ => .int _)) (sim_Var)) (sim_Cons (sim_C fun _ _ => .int _) (sim_Nil))))))
def F_law_source : FT := runF 2 3 T_law_source
theorem fd_law_source {P : Program} {w : World} {K : PySem.W.Frag} {mg : Str → Option Value} {base : Heap} {A : Ads} (T : Tx P K mg A) : Fn P w K mg base 23 "_law_source" (spF (cz K A) F_law_source) := T.f_law_source.fn sc_law_source (fun hr => d_law_source T.G hr) (pur_F (z_law_source T))
def T_law_pick : TSd :=
  TSeq (TIfS (TB (TOp vGt (TOp vIx (TVar 0) (TC (.int 0))) (TC (.int 0)))) (TSeq (TAsg (TOp vMod (TOp vIx (TVar 0) (TC (.int 0))) (TVar 1)) 2) (TSeq (TSub (TVar 0) (TC (.int 0)) (TOp vDiv (TOp vIx (TVar 0) (TC (.int 0))) (TVar 1))) (TRet (TVar 2)))) (TNext)) (TSeq (TSub (TVar 0) (TC (.int 2)) (TOp vAdd (TOp vIx (TVar 0) (TC (.int 2))) (TC (.int 1)))) (TSeq (TAsg (TOp vMod (TOp vPow (TOp vAdd (TOp vIx (TVar 0) (TC (.int 1))) (TOp vMul (TC (.int 86028121)) (TOp vIx (TVar 0) (TC (.int 2))))) (TC (.int 3))) (TOp vAdd (TOp vPow (TC (.int 10)) (TC (.int 41))) (TC (.int 109)))) 3) (TSeq (TAsg (TOp vMod (TOp vPow (TOp vAdd (TVar 3) (TOp vMul (TC (.int 122949823)) (TOp vIx (TVar 0) (TC (.int 2))))) (TC (.int 5))) (TOp vAdd (TOp vPow (TC (.int 10)) (TC (.int 38))) (TC (.int 133)))) 3) (TRet (TOp vMod (TOp vDiv (TVar 3) (TC (.int 786433))) (TVar 1))))))
theorem z_law_pick {P : Program} {w : World} {K : PySem.W.Frag} {mg : Str → Option Value} {base : Heap} {A : Ads} (T : Tx P K mg A) : ∀ E, SimS (cz K A) E (t_law_pick P w K mg base A E) T_law_pick := by
  intro E
  unfold t_law_pick T_law_pick
  exact sim_Seq (sim_IfS (sim_Test (sim_Op os_Gt (sim_Op os_Ix (sim_Var) (sim_C fun _ _ => .int _)) (sim_C fun _ _ => .int _))) (sim_Seq (sim_Asg (sim_Op os_Mod (sim_Op os_Ix (sim_Var) (sim_C fun _ _ => .int _)) (sim_Var))) (sim_Seq (sim_Sub (sim_Var) (sim_C fun _ _ => .int _) (sim_Op os_Div (sim_Op os_Ix (sim_Var) (sim_C fun _ _ => .int _)) (sim_Var))) (sim_Ret (sim_Var)))) (sim_Next)) (sim_Seq (sim_Sub (sim_Var) (sim_C fun _ _ => .int _) (sim_Op os_Add (sim_Op os_Ix (sim_Var) (sim_C fun _ _ => .int _)) (sim_C fun _ _ => .int _))) (sim_Seq (sim_Asg (sim_Op os_Mod (sim_Op os_Pow (sim_Op os_Add (sim_Op os_Ix (sim_Var) (sim_C fun _ _ => .int _)) (sim_Op os_Mul (sim_C fun _ _ => .int _) (sim_Op os_Ix (sim_Var) (sim_C fun _ _ => .int _)))) (sim_C fun _ _ => .int _)) (sim_Op os_Add (sim_Op os_Pow (sim_C fun _ _ => .int _) (sim_C fun _ _ => .int _)) (sim_C fun _ _ => .int _)))) (sim_Seq (sim_Asg (sim_Op os_Mod (sim_Op os_Pow (sim_Op os_Add (sim_Var) (sim_Op os_Mul (sim_C fun _ _ => .int _) (sim_Op os_Ix (sim_Var) (sim_C fun _ _ => .int _)))) (sim_C fun _ _ => .int _)) (sim_Op os_Add (sim_Op os_Pow (sim_C fun _ _ => .int _) (sim_C fun _ _ => .int _)) (sim_C fun _ _ => .int _)))) (sim_Ret (sim_Op os_Mod (sim_Op os_Div (sim_Var) (sim_C fun _ _ => .int _)) (sim_Var))))))
def F_law_pick : FT := runF 2 4 T_law_pick
theorem fd_law_pick {P : Program} {w : World} {K : PySem.W.Frag} {mg : Str → Option Value} {base : Heap} {A : Ads} (T : Tx P K mg A) : Fn P w K mg base 23 "_law_pick" (spF (cz K A) F_law_pick) := T.f_law_pick.fn sc_law_pick (fun hr => d_law_pick T.G hr) (pur_F (z_law_pick T))
def T_law_shuffled : TSd :=
  TSeq (TAsg (TCB bList (PCons (TVar 1) (PNil))) 2) (TRet (TLc (IRng1 (TCons (TCB bLen (PCons (TVar 1) (PNil))) (TNil))) (GName 3) (TYes) (TBM mPopAt (TVar 2) (TCons (TFn F_law_pick (TCons (TVar 0) (TCons (TCB bLen (PCons (TVar 2) (PNil))) (TNil)))) (TNil))) [3]))
theorem z_law_shuffled {P : Program} {w : World} {K : PySem.W.Frag} {mg : Str → Option Value} {base : Heap} {A : Ads} (T : Tx P K mg A) : ∀ E, SimS (cz K A) E (t_law_shuffled P w K mg base A E) T_law_shuffled := by
  intro E
  unfold t_law_shuffled T_law_shuffled
  exact sim_Seq (sim_Asg (sim_CB cs_List (sim_PCons (sim_Var) (sim_PNil)))) (sim_Ret (sim_Lc rfl (sim_IRng1 (sim_Cons (sim_CB cs_Len (sim_PCons (sim_Var) (sim_PNil))) (sim_Nil))) (sim_GName) (sim_Yes) (sim_BM bm_popAt (sim_Var) (sim_Cons (sim_Fn (fd_law_pick T) (by decide) (sim_Cons (sim_Var) (sim_Cons (sim_CB cs_Len (sim_PCons (sim_Var) (sim_PNil))) (sim_Nil)))) (sim_Nil)))))
def F_law_shuffled : FT := runF 2 4 T_law_shuffled
theorem fd_law_shuffled {P : Program} {w : World} {K : PySem.W.Frag} {mg : Str → Option Value} {base : Heap} {A : Ads} (T : Tx P K mg A) : Fn P w K mg base 24 "_law_shuffled" (spF (cz K A) F_law_shuffled) := T.f_law_shuffled.fn sc_law_shuffled (fun hr => d_law_shuffled T.G hr) (pur_F (z_law_shuffled T))
def T_law_names : TSd :=
  TSeq (TAsg (TC (.str "abcdefghijklmnopqrstuvwxyz")) 2) (TSeq (TAsg (TFn F_law_pick (TCons (TVar 0) (TCons (TC (.int 3)) (TNil)))) 3) (TSeq (TAsg (TLst (TNil)) 4) (TSeq (TFor (IRng1 (TCons (TVar 1) (TNil))) (GName 5) (TSeq (TAsg (TIf (TB (TOp vLt (TVar 5) (TC (.int 26)))) (TOp vIx (TVar 2) (TVar 5)) (TOp vAdd (TOp vIx (TVar 2) (TOp vSub (TOp vDiv (TVar 5) (TC (.int 26))) (TC (.int 1)))) (TOp vIx (TVar 2) (TOp vMod (TVar 5) (TC (.int 26)))))) 6) (TSeq (TAsg (TOp vAdd (TOp vIx (TVar 2) (TOp vDiv (TVar 5) (TC (.int 26)))) (TOp vIx (TVar 2) (TOp vMod (TVar 5) (TC (.int 26))))) 7) (TDrop (TBM mAppend (TVar 4) (TCons (TOp vIx (TLst (TCons (TVar 6) (TCons (TVar 7) (TCons (TOp vAdd (TC (.str "abcdef")) (TVar 7)) (TNil))))) (TVar 3)) (TNil))))))) (TRet (TFn F_law_shuffled (TCons (TVar 0) (TCons (TVar 4) (TNil))))))))
theorem z_law_names {P : Program} {w : World} {K : PySem.W.Frag} {mg : Str → Option Value} {base : Heap} {A : Ads} (T : Tx P K mg A) : ∀ E, SimS (cz K A) E (t_law_names P w K mg base A E) T_law_names := by
  intro E
  unfold t_law_names T_law_names
  exact sim_Seq (sim_Asg (sim_C fun _ _ => .str _)) (sim_Seq (sim_Asg (sim_Fn (fd_law_pick T) (by decide) (sim_Cons (sim_Var) (sim_Cons (sim_C fun _ _ => .int _) (sim_Nil))))) (sim_Seq (sim_Asg (sim_Lst (sim_Nil))) (sim_Seq (sim_For (sim_IRng1 (sim_Cons (sim_Var) (sim_Nil))) (sim_GName) (sim_Seq (sim_Asg (sim_If (sim_Test (sim_Op os_Lt (sim_Var) (sim_C fun _ _ => .int _))) (sim_Op os_Ix (sim_Var) (sim_Var)) (sim_Op os_Add (sim_Op os_Ix (sim_Var) (sim_Op os_Sub (sim_Op os_Div (sim_Var) (sim_C fun _ _ => .int _)) (sim_C fun _ _ => .int _))) (sim_Op os_Ix (sim_Var) (sim_Op os_Mod (sim_Var) (sim_C fun _ _ => .int _)))))) (sim_Seq (sim_Asg (sim_Op os_Add (sim_Op os_Ix (sim_Var) (sim_Op os_Div (sim_Var) (sim_C fun _ _ => .int _))) (sim_Op os_Ix (sim_Var) (sim_Op os_Mod (sim_Var) (sim_C fun _ _ => .int _))))) (sim_Drop (sim_BM bm_append (sim_Var) (sim_Cons (sim_Op os_Ix (sim_Lst (sim_Cons (sim_Var) (sim_Cons (sim_Var) (sim_Cons (sim_Op os_Add (sim_C fun _ _ => .str _) (sim_Var)) (sim_Nil))))) (sim_Var)) (sim_Nil))))))) (sim_Ret (sim_Fn (fd_law_shuffled T) (by decide) (sim_Cons (sim_Var) (sim_Cons (sim_Var) (sim_Nil))))))))
def F_law_names : FT := runF 2 8 T_law_names
theorem fd_law_names {P : Program} {w : World} {K : PySem.W.Frag} {mg : Str → Option Value} {base : Heap} {A : Ads} (T : Tx P K mg A) : Fn P w K mg base 25 "_law_names" (spF (cz K A) F_law_names) := T.f_law_names.fn sc_law_names (fun hr => d_law_names T.G hr) (pur_F (z_law_names T))
def T_law_make : TSd :=
  TSeq (TIfS (TB (TOp vEq (TVar 0) (TC (.int 0)))) (TRet (TFn I_Inserted (TCons (TVar 1) (TCons (TVar 2) (TNil))))) (TNext)) (TSeq (TIfS (TB (TOp vEq (TVar 0) (TC (.int 1)))) (TRet (TFn I_Removed (TCons (TVar 1) (TCons (TVar 2) (TNil))))) (TNext)) (TRet (TIf (TB (TOp vEq (TVar 0) (TC (.int 2)))) (TFn I_Fronted (TCons (TVar 1) (TCons (TVar 2) (TNil)))) (TFn I_Record (TCons (TVar 1) (TCons (TVar 2) (TNil)))))))
theorem z_law_make {P : Program} {w : World} {K : PySem.W.Frag} {mg : Str → Option Value} {base : Heap} {A : Ads} (T : Tx P K mg A) : ∀ E, SimS (cz K A) E (t_law_make P w K mg base A E) T_law_make := by
  intro E
  unfold t_law_make T_law_make
  exact sim_Seq (sim_IfS (sim_Test (sim_Op os_Eq (sim_Var) (sim_C fun _ _ => .int _))) (sim_Ret (sim_Mkr (cn := 0) (mk_Inserted T) (by decide) (sim_Cons (sim_Var) (sim_Cons (sim_Var) (sim_Nil))))) (sim_Next)) (sim_Seq (sim_IfS (sim_Test (sim_Op os_Eq (sim_Var) (sim_C fun _ _ => .int _))) (sim_Ret (sim_Mkr (cn := 1) (mk_Removed T) (by decide) (sim_Cons (sim_Var) (sim_Cons (sim_Var) (sim_Nil))))) (sim_Next)) (sim_Ret (sim_If (sim_Test (sim_Op os_Eq (sim_Var) (sim_C fun _ _ => .int _))) (sim_Mkr (cn := 2) (mk_Fronted T) (by decide) (sim_Cons (sim_Var) (sim_Cons (sim_Var) (sim_Nil)))) (sim_Mkr (cn := 3) (mk_Record T) (by decide) (sim_Cons (sim_Var) (sim_Cons (sim_Var) (sim_Nil)))))))
def F_law_make : FT := runF 3 3 T_law_make
theorem fd_law_make {P : Program} {w : World} {K : PySem.W.Frag} {mg : Str → Option Value} {base : Heap} {A : Ads} (T : Tx P K mg A) : Fn P w K mg base 26 "_law_make" (spF (cz K A) F_law_make) := T.f_law_make.fn sc_law_make (fun hr => d_law_make T.G hr) (pur_F (z_law_make T))
def T_law_class : TSd :=
  TSeq (TAsg (TLst (TCons (TTup (TCons (TC (.str "item")) (TCons (TCB (bIsi kn) (PCons (TVar 0) (PCons (TC (.cl 5)) (PNil)))) (TNil)))) (TCons (TTup (TCons (TC (.str "index")) (TCons (TCB (bIsi kn) (PCons (TVar 0) (PCons (TC (.cl 6)) (PNil)))) (TNil)))) (TNil)))) 1) (TSeq (TAsg (TOp vAdd (TVar 1) (TLst (TCons (TTup (TCons (TC (.str "list")) (TCons (TCB (bIsi kn) (PCons (TVar 0) (PCons (TC (.cl 7)) (PNil)))) (TNil)))) (TCons (TTup (TCons (TC (.str "log")) (TCons (TCB (bIsi kn) (PCons (TVar 0) (PCons (TC (.cl 8)) (PNil)))) (TNil)))) (TNil))))) 1) (TSeq (TAsg (TOp vAdd (TVar 1) (TLst (TCons (TTup (TCons (TC (.str "impossible")) (TCons (TCB (bIsi kn) (PCons (TVar 0) (PCons (TC (.cl 14)) (PNil)))) (TNil)))) (TCons (TTup (TCons (TC (.str "text")) (TCons (TCB (bIsi kn) (PCons (TVar 0) (PCons (TC (.cl 16)) (PNil)))) (TNil)))) (TNil))))) 1) (TSeq (TAsg (TLc (ILst (TVar 1)) (GTup 2 (GCons (GName 4) (GCons (GName 5) (GNil)))) (TB (TVar 5)) (TVar 4) [4, 5]) 2) (TSeq (TAsg (TCB (bIsiT kn) (PCons (TVar 0) (PCons (TTup (TCons (TC (.cl 10)) (TCons (TC (.cl 11)) (TCons (TC (.cl 12)) (TCons (TC (.cl 9)) (TCons (TC (.cl 13)) (TCons (TC (.cl 15)) (TNil)))))))) (PNil)))) 3) (TRet (TIf (TAnd (TB (TOp vEq (TCB bLen (PCons (TVar 2) (PNil))) (TC (.int 1)))) (TAnd (TNot (TB (TVar 3))) (TB (TCB (bIsi kn) (PCons (TVar 0) (PCons (TC (.ty "ValueError")) (PNil))))))) (TOp vIx (TVar 2) (TC (.int 0))) (TC (.str "other"))))))))
theorem z_law_class {P : Program} {w : World} {K : PySem.W.Frag} {mg : Str → Option Value} {base : Heap} {A : Ads} (T : Tx P K mg A) : ∀ E, SimS (cz K A) E (t_law_class P w K mg base A E) T_law_class := by
  intro E
  unfold t_law_class T_law_class
  exact sim_Seq (sim_Asg (sim_Lst (sim_Cons (sim_Tup (sim_Cons (sim_C fun _ _ => .str _) (sim_Cons (sim_CB (cs_Isi (kno T)) (sim_PCons (sim_Var) (sim_PCons (sim_C fun _ _ => Tr.cl (c := cz K A) 5) (sim_PNil)))) (sim_Nil)))) (sim_Cons (sim_Tup (sim_Cons (sim_C fun _ _ => .str _) (sim_Cons (sim_CB (cs_Isi (kno T)) (sim_PCons (sim_Var) (sim_PCons (sim_C fun _ _ => Tr.cl (c := cz K A) 6) (sim_PNil)))) (sim_Nil)))) (sim_Nil))))) (sim_Seq (sim_Asg (sim_Op os_Add (sim_Var) (sim_Lst (sim_Cons (sim_Tup (sim_Cons (sim_C fun _ _ => .str _) (sim_Cons (sim_CB (cs_Isi (kno T)) (sim_PCons (sim_Var) (sim_PCons (sim_C fun _ _ => Tr.cl (c := cz K A) 7) (sim_PNil)))) (sim_Nil)))) (sim_Cons (sim_Tup (sim_Cons (sim_C fun _ _ => .str _) (sim_Cons (sim_CB (cs_Isi (kno T)) (sim_PCons (sim_Var) (sim_PCons (sim_C fun _ _ => Tr.cl (c := cz K A) 8) (sim_PNil)))) (sim_Nil)))) (sim_Nil)))))) (sim_Seq (sim_Asg (sim_Op os_Add (sim_Var) (sim_Lst (sim_Cons (sim_Tup (sim_Cons (sim_C fun _ _ => .str _) (sim_Cons (sim_CB (cs_Isi (kno T)) (sim_PCons (sim_Var) (sim_PCons (sim_C fun _ _ => Tr.cl (c := cz K A) 14) (sim_PNil)))) (sim_Nil)))) (sim_Cons (sim_Tup (sim_Cons (sim_C fun _ _ => .str _) (sim_Cons (sim_CB (cs_Isi (kno T)) (sim_PCons (sim_Var) (sim_PCons (sim_C fun _ _ => Tr.cl (c := cz K A) 16) (sim_PNil)))) (sim_Nil)))) (sim_Nil)))))) (sim_Seq (sim_Asg (sim_Lc rfl (sim_ILst (sim_Var)) (sim_GTup (sim_GCons (sim_GName) (sim_GCons (sim_GName) (sim_GNil)))) (sim_B (sim_Var)) (sim_Var))) (sim_Seq (sim_Asg (sim_CB (cs_IsiT (kno T)) (sim_PCons (sim_Var) (sim_PCons (sim_Tup (sim_Cons (sim_C fun _ _ => Tr.cl (c := cz K A) 10) (sim_Cons (sim_C fun _ _ => Tr.cl (c := cz K A) 11) (sim_Cons (sim_C fun _ _ => Tr.cl (c := cz K A) 12) (sim_Cons (sim_C fun _ _ => Tr.cl (c := cz K A) 9) (sim_Cons (sim_C fun _ _ => Tr.cl (c := cz K A) 13) (sim_Cons (sim_C fun _ _ => Tr.cl (c := cz K A) 15) (sim_Nil)))))))) (sim_PNil))))) (sim_Ret (sim_If (sim_And (sim_Test (sim_Op os_Eq (sim_CB cs_Len (sim_PCons (sim_Var) (sim_PNil))) (sim_C fun _ _ => .int _))) (sim_And (sim_Not (sim_B (sim_Var))) (sim_B (sim_CB (cs_Isi (kno T)) (sim_PCons (sim_Var) (sim_PCons (sim_C fun _ _ => .ty _) (sim_PNil))))))) (sim_Op os_Ix (sim_Var) (sim_C fun _ _ => .int _)) (sim_C fun _ _ => .str _)))))))
def F_law_class : FT := runF 1 6 T_law_class
theorem fd_law_class {P : Program} {w : World} {K : PySem.W.Frag} {mg : Str → Option Value} {base : Heap} {A : Ads} (T : Tx P K mg A) : Fn P w K mg base 23 "_law_class" (spF (cz K A) F_law_class) := T.f_law_class.fn sc_law_class (fun hr => d_law_class T.G hr) (pur_F (z_law_class T))
def T_law_undone : TSd :=
  TSeq (TIfS (TB (TOp vEq (TVar 0) (TC (.int 0)))) (TRet (TIf (TB (TOp vEq (TSl slL (TVar 3) (TPart (TVar 2)) (TPart (TOp vAdd (TVar 2) (TC (.int 1))))) (TLst (TCons (TVar 1) (TNil))))) (TOp vAdd (TSl slL (TVar 3) (TNoP) (TPart (TVar 2))) (TSl slL (TVar 3) (TPart (TOp vAdd (TVar 2) (TC (.int 1)))) (TNoP))) (TC .non))) (TNext)) (TSeq (TIfS (TB (TOp vEq (TVar 0) (TC (.int 1)))) (TSeq (TIfS (TOr (TB (TOp vIn (TVar 1) (TVar 3))) (TOr (TB (TOp vGt (TVar 2) (TCB bLen (PCons (TVar 3) (PNil))))) (TB (TOp vGt (TCB bLen (PCons (TVar 3) (PNil))) (TC (.int 59)))))) (TRet (TC .non)) (TNext)) (TRet (TOp vAdd (TOp vAdd (TSl slL (TVar 3) (TNoP) (TPart (TVar 2))) (TLst (TCons (TVar 1) (TNil)))) (TSl slL (TVar 3) (TPart (TVar 2)) (TNoP))))) (TNext)) (TSeq (TIfS (TOr (TB (TOp vGt (TVar 0) (TC (.int 2)))) (TOr (TB (TOp vNe (TSl slL (TVar 3) (TNoP) (TPart (TC (.int 1)))) (TLst (TCons (TVar 1) (TNil))))) (TB (TOp vGe (TVar 2) (TCB bLen (PCons (TVar 3) (PNil))))))) (TRet (TC .non)) (TNext)) (TRet (TOp vAdd (TOp vAdd (TSl slL (TVar 3) (TPart (TC (.int 1))) (TPart (TOp vAdd (TVar 2) (TC (.int 1))))) (TLst (TCons (TVar 1) (TNil)))) (TSl slL (TVar 3) (TPart (TOp vAdd (TVar 2) (TC (.int 1)))) (TNoP))))))
theorem z_law_undone {P : Program} {w : World} {K : PySem.W.Frag} {mg : Str → Option Value} {base : Heap} {A : Ads} (T : Tx P K mg A) : ∀ E, SimS (cz K A) E (t_law_undone P w K mg base A E) T_law_undone := by
  intro E
  unfold t_law_undone T_law_undone
  exact sim_Seq (sim_IfS (sim_Test (sim_Op os_Eq (sim_Var) (sim_C fun _ _ => .int _))) (sim_Ret (sim_If (sim_Test (sim_Op os_Eq (sim_Sl ss_L (sim_Var) (sim_Part (sim_Var)) (sim_Part (sim_Op os_Add (sim_Var) (sim_C fun _ _ => .int _)))) (sim_Lst (sim_Cons (sim_Var) (sim_Nil))))) (sim_Op os_Add (sim_Sl ss_L (sim_Var) (sim_NoP) (sim_Part (sim_Var))) (sim_Sl ss_L (sim_Var) (sim_Part (sim_Op os_Add (sim_Var) (sim_C fun _ _ => .int _))) (sim_NoP))) (sim_C fun _ _ => .non))) (sim_Next)) (sim_Seq (sim_IfS (sim_Test (sim_Op os_Eq (sim_Var) (sim_C fun _ _ => .int _))) (sim_Seq (sim_IfS (sim_Or (sim_Test (sim_Op os_In (sim_Var) (sim_Var))) (sim_Or (sim_Test (sim_Op os_Gt (sim_Var) (sim_CB cs_Len (sim_PCons (sim_Var) (sim_PNil))))) (sim_Test (sim_Op os_Gt (sim_CB cs_Len (sim_PCons (sim_Var) (sim_PNil))) (sim_C fun _ _ => .int _))))) (sim_Ret (sim_C fun _ _ => .non)) (sim_Next)) (sim_Ret (sim_Op os_Add (sim_Op os_Add (sim_Sl ss_L (sim_Var) (sim_NoP) (sim_Part (sim_Var))) (sim_Lst (sim_Cons (sim_Var) (sim_Nil)))) (sim_Sl ss_L (sim_Var) (sim_Part (sim_Var)) (sim_NoP))))) (sim_Next)) (sim_Seq (sim_IfS (sim_Or (sim_Test (sim_Op os_Gt (sim_Var) (sim_C fun _ _ => .int _))) (sim_Or (sim_Test (sim_Op os_Ne (sim_Sl ss_L (sim_Var) (sim_NoP) (sim_Part (sim_C fun _ _ => .int _))) (sim_Lst (sim_Cons (sim_Var) (sim_Nil))))) (sim_Test (sim_Op os_Ge (sim_Var) (sim_CB cs_Len (sim_PCons (sim_Var) (sim_PNil))))))) (sim_Ret (sim_C fun _ _ => .non)) (sim_Next)) (sim_Ret (sim_Op os_Add (sim_Op os_Add (sim_Sl ss_L (sim_Var) (sim_Part (sim_C fun _ _ => .int _)) (sim_Part (sim_Op os_Add (sim_Var) (sim_C fun _ _ => .int _)))) (sim_Lst (sim_Cons (sim_Var) (sim_Nil)))) (sim_Sl ss_L (sim_Var) (sim_Part (sim_Op os_Add (sim_Var) (sim_C fun _ _ => .int _))) (sim_NoP))))))
def F_law_undone : FT := runF 4 4 T_law_undone
theorem fd_law_undone {P : Program} {w : World} {K : PySem.W.Frag} {mg : Str → Option Value} {base : Heap} {A : Ads} (T : Tx P K mg A) : Fn P w K mg base 23 "_law_undone" (spF (cz K A) F_law_undone) := T.f_law_undone.fn sc_law_undone (fun hr => d_law_undone T.G hr) (pur_F (z_law_undone T))
def T_law_shelf : TSd :=
  TSeq (TAsg (TOp vIx (TLst (TCons (TFn F_law_pick (TCons (TVar 0) (TCons (TC (.int 5)) (TNil)))) (TCons (TFn F_law_pick (TCons (TVar 0) (TCons (TOp vAdd (TVar 1) (TC (.int 1))) (TNil)))) (TCons (TVar 1) (TNil))))) (TFn F_law_pick (TCons (TVar 0) (TCons (TC (.int 3)) (TNil))))) 2) (TSeq (TAsg (TFn F_law_names (TCons (TVar 0) (TCons (TOp vAdd (TVar 2) (TC (.int 4))) (TNil)))) 3) (TRet (TTup (TCons (TKeep (TSl slL (TVar 3) (TNoP) (TPart (TVar 2)))) (TCons (TSl slL (TVar 3) (TPart (TVar 2)) (TNoP)) (TNil))))))
theorem z_law_shelf {P : Program} {w : World} {K : PySem.W.Frag} {mg : Str → Option Value} {base : Heap} {A : Ads} (T : Tx P K mg A) : ∀ E, SimS (cz K A) E (t_law_shelf P w K mg base A E) T_law_shelf := by
  intro E
  unfold t_law_shelf T_law_shelf
  exact sim_Seq (sim_Asg (sim_Op os_Ix (sim_Lst (sim_Cons (sim_Fn (fd_law_pick T) (by decide) (sim_Cons (sim_Var) (sim_Cons (sim_C fun _ _ => .int _) (sim_Nil)))) (sim_Cons (sim_Fn (fd_law_pick T) (by decide) (sim_Cons (sim_Var) (sim_Cons (sim_Op os_Add (sim_Var) (sim_C fun _ _ => .int _)) (sim_Nil)))) (sim_Cons (sim_Var) (sim_Nil))))) (sim_Fn (fd_law_pick T) (by decide) (sim_Cons (sim_Var) (sim_Cons (sim_C fun _ _ => .int _) (sim_Nil)))))) (sim_Seq (sim_Asg (sim_Fn (fd_law_names T) (by decide) (sim_Cons (sim_Var) (sim_Cons (sim_Op os_Add (sim_Var) (sim_C fun _ _ => .int _)) (sim_Nil))))) (sim_Ret (sim_Tup (sim_Cons (sim_Keep (sim_Sl ss_L (sim_Var) (sim_NoP) (sim_Part (sim_Var)))) (sim_Cons (sim_Sl ss_L (sim_Var) (sim_Part (sim_Var)) (sim_NoP)) (sim_Nil))))))
def F_law_shelf : FT := runF 2 4 T_law_shelf
theorem fd_law_shelf {P : Program} {w : World} {K : PySem.W.Frag} {mg : Str → Option Value} {base : Heap} {A : Ads} (T : Tx P K mg A) : Fn P w K mg base 26 "_law_shelf" (spF (cz K A) F_law_shelf) := T.f_law_shelf.fn sc_law_shelf (fun hr => d_law_shelf T.G hr) (pur_F (z_law_shelf T))
def T_law_case : TSd :=
  TSeq (TAsg (TOp vIx (TLst (TCons (TC (.int 0)) (TCons (TC (.int 1)) (TCons (TC (.int 2)) (TCons (TFn F_law_pick (TCons (TVar 0) (TCons (TC (.int 4)) (TNil)))) (TNil)))))) (TFn F_law_pick (TCons (TVar 0) (TCons (TC (.int 4)) (TNil))))) 3) (TSeq (TAsg (TOp vIx (TOp vAdd (TVar 1) (TVar 2)) (TFn F_law_pick (TCons (TVar 0) (TCons (TOp vAdd (TCB bLen (PCons (TVar 1) (PNil))) (TCB bLen (PCons (TVar 2) (PNil)))) (TNil))))) 4) (TSeq (TIfS (TB (TOp vGt (TFn F_law_pick (TCons (TVar 0) (TCons (TC (.int 3)) (TNil)))) (TC (.int 0)))) (TAsg (TIf (TOr (TB (TOp vEq (TVar 3) (TC (.int 0)))) (TB (TOp vEq (TVar 1) (TLst (TNil))))) (TOp vIx (TVar 2) (TC (.int 0))) (TOp vIx (TVar 1) (TFn F_law_pick (TCons (TVar 0) (TCons (TCB bLen (PCons (TVar 1) (PNil))) (TNil)))))) 4) (TNext)) (TSeq (TAsg (TIf (TB (TOp vNotIn (TVar 4) (TVar 1))) (TFn F_law_pick (TCons (TVar 0) (TCons (TOp vAdd (TCB bLen (PCons (TVar 1) (PNil))) (TC (.int 1))) (TNil)))) (TIndex (TVar 1) (PCons (TVar 4) (PNil)))) 5) (TSeq (TAsg (TOp vIx (TLst (TCons (TVar 5) (TCons (TVar 5) (TCons (TOp vAdd (TVar 5) (TC (.int 1))) (TCons (TOp vSub (TVar 5) (TC (.int 1))) (TCons (TCB bLen (PCons (TVar 1) (PNil))) (TCons (TFn F_law_pick (TCons (TVar 0) (TCons (TC (.int 61)) (TNil)))) (TCons (TC (.int 60)) (TNil))))))))) (TFn F_law_pick (TCons (TVar 0) (TCons (TC (.int 7)) (TNil))))) 6) (TRet (TTup (TCons (TVar 3) (TCons (TVar 4) (TCons (TCB bMin (PCons (TCB bMax (PCons (TC (.int 0)) (PCons (TVar 6) (PNil)))) (PCons (TC (.int 60)) (PNil)))) (TNil))))))))))
theorem z_law_case {P : Program} {w : World} {K : PySem.W.Frag} {mg : Str → Option Value} {base : Heap} {A : Ads} (T : Tx P K mg A) : ∀ E, SimS (cz K A) E (t_law_case P w K mg base A E) T_law_case := by
  intro E
  unfold t_law_case T_law_case
  exact sim_Seq (sim_Asg (sim_Op os_Ix (sim_Lst (sim_Cons (sim_C fun _ _ => .int _) (sim_Cons (sim_C fun _ _ => .int _) (sim_Cons (sim_C fun _ _ => .int _) (sim_Cons (sim_Fn (fd_law_pick T) (by decide) (sim_Cons (sim_Var) (sim_Cons (sim_C fun _ _ => .int _) (sim_Nil)))) (sim_Nil)))))) (sim_Fn (fd_law_pick T) (by decide) (sim_Cons (sim_Var) (sim_Cons (sim_C fun _ _ => .int _) (sim_Nil)))))) (sim_Seq (sim_Asg (sim_Op os_Ix (sim_Op os_Add (sim_Var) (sim_Var)) (sim_Fn (fd_law_pick T) (by decide) (sim_Cons (sim_Var) (sim_Cons (sim_Op os_Add (sim_CB cs_Len (sim_PCons (sim_Var) (sim_PNil))) (sim_CB cs_Len (sim_PCons (sim_Var) (sim_PNil)))) (sim_Nil)))))) (sim_Seq (sim_IfS (sim_Test (sim_Op os_Gt (sim_Fn (fd_law_pick T) (by decide) (sim_Cons (sim_Var) (sim_Cons (sim_C fun _ _ => .int _) (sim_Nil)))) (sim_C fun _ _ => .int _))) (sim_Asg (sim_If (sim_Or (sim_Test (sim_Op os_Eq (sim_Var) (sim_C fun _ _ => .int _))) (sim_Test (sim_Op os_Eq (sim_Var) (sim_Lst (sim_Nil))))) (sim_Op os_Ix (sim_Var) (sim_C fun _ _ => .int _)) (sim_Op os_Ix (sim_Var) (sim_Fn (fd_law_pick T) (by decide) (sim_Cons (sim_Var) (sim_Cons (sim_CB cs_Len (sim_PCons (sim_Var) (sim_PNil))) (sim_Nil))))))) (sim_Next)) (sim_Seq (sim_Asg (sim_If (sim_Test (sim_Op os_NotIn (sim_Var) (sim_Var))) (sim_Fn (fd_law_pick T) (by decide) (sim_Cons (sim_Var) (sim_Cons (sim_Op os_Add (sim_CB cs_Len (sim_PCons (sim_Var) (sim_PNil))) (sim_C fun _ _ => .int _)) (sim_Nil)))) (sim_Index (sim_Var) (sim_PCons (sim_Var) (sim_PNil))))) (sim_Seq (sim_Asg (sim_Op os_Ix (sim_Lst (sim_Cons (sim_Var) (sim_Cons (sim_Var) (sim_Cons (sim_Op os_Add (sim_Var) (sim_C fun _ _ => .int _)) (sim_Cons (sim_Op os_Sub (sim_Var) (sim_C fun _ _ => .int _)) (sim_Cons (sim_CB cs_Len (sim_PCons (sim_Var) (sim_PNil))) (sim_Cons (sim_Fn (fd_law_pick T) (by decide) (sim_Cons (sim_Var) (sim_Cons (sim_C fun _ _ => .int _) (sim_Nil)))) (sim_Cons (sim_C fun _ _ => .int _) (sim_Nil))))))))) (sim_Fn (fd_law_pick T) (by decide) (sim_Cons (sim_Var) (sim_Cons (sim_C fun _ _ => .int _) (sim_Nil)))))) (sim_Ret (sim_Tup (sim_Cons (sim_Var) (sim_Cons (sim_Var) (sim_Cons (sim_CB cs_Min (sim_PCons (sim_CB cs_Max (sim_PCons (sim_C fun _ _ => .int _) (sim_PCons (sim_Var) (sim_PNil)))) (sim_PCons (sim_C fun _ _ => .int _) (sim_PNil)))) (sim_Nil))))))))))
def F_law_case : FT := runF 3 7 T_law_case
theorem fd_law_case {P : Program} {w : World} {K : PySem.W.Frag} {mg : Str → Option Value} {base : Heap} {A : Ads} (T : Tx P K mg A) : Fn P w K mg base 24 "_law_case" (spF (cz K A) F_law_case) := T.f_law_case.fn sc_law_case (fun hr => d_law_case T.G hr) (pur_F (z_law_case T))
def T_law_no_shelves : TSd :=
  TSeq (TAsg (TC (.str "abcdefghijklmnopqrstuvwxyz")) 2) (TSeq (TAsg (TLc (IRng1 (TCons (TC (.int 61)) (TNil))) (GName 5) (TYes) (TOp vAdd (TOp vIx (TVar 2) (TOp vDiv (TVar 5) (TC (.int 26)))) (TOp vIx (TVar 2) (TOp vMod (TVar 5) (TC (.int 26))))) [5]) 3) (TSeq (TAsg (TLst (TCons (TC .non) (TCons (TC (.bl true)) (TCons (TC (.int 0)) (TCons (TC (.str "")) (TCons (TC (.str "ab")) (TCons (TTup (TNil)) (TCons (TCB bTuple (PCons (TVar 1) (PNil))) (TCons (TDNew) (TCons (TLst (TCons (TC .non) (TNil))) (TCons (TLst (TCons (TC (.int 0)) (TNil))) (TCons (TLst (TCons (TC (.bl true)) (TNil))) (TCons (TLst (TCons (TC (.str "")) (TNil))) (TCons (TLst (TCons (TC (.str "A")) (TNil))) (TCons (TLst (TCons (TC (.str "abcdefghi")) (TNil))) (TCons (TLst (TCons (TC (.str "a")) (TCons (TC (.str "a")) (TNil)))) (TNil))))))))))))))))) 4) (TSeq (TAsg (TOp vAdd (TVar 4) (TLst (TCons (TLst (TCons (TC (.str "a b")) (TNil))) (TCons (TLst (TCons (TLst (TCons (TC (.str "a")) (TNil))) (TNil))) (TCons (TLst (TCons (TTup (TCons (TC (.str "a")) (TNil))) (TNil))) (TCons (TLst (TCons (TDNew) (TNil))) (TCons (TLst (TCons (TFn I_Inserted (TCons (TC (.str "a")) (TCons (TC (.int 0)) (TNil)))) (TNil))) (TCons (TVar 3) (TCons (TDct1 (TC (.str "a")) (TC (.int 0))) (TCons (TOp vAdd (TVar 1) (TLst (TCons (TC (.str "a1")) (TNil)))) (TCons (TOp vAdd (TLst (TCons (TC (.str "a_")) (TNil))) (TVar 1)) (TNil)))))))))))) 4) (TSeq (TAsg (TOp vAdd (TVar 4) (TLst (TCons (TOp vAdd (TOp vAdd (TVar 1) (TSl slL (TVar 1) (TNoP) (TPart (TC (.int 1))))) (TLst (TCons (TC (.str "A")) (TNil)))) (TCons (TLst (TCons (TVar 1) (TNil))) (TCons (TLst (TCons (TC (.str "a\n")) (TNil))) (TCons (TLst (TCons (TUn vNeg (TC (.int 1))) (TNil))) (TCons (TOp vAdd (TVar 1) (TLst (TCons (TC .non) (TNil)))) (TCons (TOp vAdd (TVar 1) (TLst (TCons (TC (.str "zz")) (TCons (TC (.str "zz")) (TNil))))) (TNil))))))))) 4) (TRet (TOp vIx (TVar 4) (TFn F_law_pick (TCons (TVar 0) (TCons (TCB bLen (PCons (TVar 4) (PNil))) (TNil))))))))))
theorem z_law_no_shelves {P : Program} {w : World} {K : PySem.W.Frag} {mg : Str → Option Value} {base : Heap} {A : Ads} (T : Tx P K mg A) : ∀ E, SimS (cz K A) E (t_law_no_shelves P w K mg base A E) T_law_no_shelves := by
  intro E
  unfold t_law_no_shelves T_law_no_shelves
  exact sim_Seq (sim_Asg (sim_C fun _ _ => .str _)) (sim_Seq (sim_Asg (sim_Lc rfl (sim_IRng1 (sim_Cons (sim_C fun _ _ => .int _) (sim_Nil))) (sim_GName) (sim_Yes) (sim_Op os_Add (sim_Op os_Ix (sim_Var) (sim_Op os_Div (sim_Var) (sim_C fun _ _ => .int _))) (sim_Op os_Ix (sim_Var) (sim_Op os_Mod (sim_Var) (sim_C fun _ _ => .int _)))))) (sim_Seq (sim_Asg (sim_Lst (sim_Cons (sim_C fun _ _ => .non) (sim_Cons (sim_C fun _ _ => .bl _) (sim_Cons (sim_C fun _ _ => .int _) (sim_Cons (sim_C fun _ _ => .str _) (sim_Cons (sim_C fun _ _ => .str _) (sim_Cons (sim_Tup (sim_Nil)) (sim_Cons (sim_CB cs_Tuple (sim_PCons (sim_Var) (sim_PNil))) (sim_Cons (sim_DNew) (sim_Cons (sim_Lst (sim_Cons (sim_C fun _ _ => .non) (sim_Nil))) (sim_Cons (sim_Lst (sim_Cons (sim_C fun _ _ => .int _) (sim_Nil))) (sim_Cons (sim_Lst (sim_Cons (sim_C fun _ _ => .bl _) (sim_Nil))) (sim_Cons (sim_Lst (sim_Cons (sim_C fun _ _ => .str _) (sim_Nil))) (sim_Cons (sim_Lst (sim_Cons (sim_C fun _ _ => .str _) (sim_Nil))) (sim_Cons (sim_Lst (sim_Cons (sim_C fun _ _ => .str _) (sim_Nil))) (sim_Cons (sim_Lst (sim_Cons (sim_C fun _ _ => .str _) (sim_Cons (sim_C fun _ _ => .str _) (sim_Nil)))) (sim_Nil)))))))))))))))))) (sim_Seq (sim_Asg (sim_Op os_Add (sim_Var) (sim_Lst (sim_Cons (sim_Lst (sim_Cons (sim_C fun _ _ => .str _) (sim_Nil))) (sim_Cons (sim_Lst (sim_Cons (sim_Lst (sim_Cons (sim_C fun _ _ => .str _) (sim_Nil))) (sim_Nil))) (sim_Cons (sim_Lst (sim_Cons (sim_Tup (sim_Cons (sim_C fun _ _ => .str _) (sim_Nil))) (sim_Nil))) (sim_Cons (sim_Lst (sim_Cons (sim_DNew) (sim_Nil))) (sim_Cons (sim_Lst (sim_Cons (sim_Mkr (cn := 0) (mk_Inserted T) (by decide) (sim_Cons (sim_C fun _ _ => .str _) (sim_Cons (sim_C fun _ _ => .int _) (sim_Nil)))) (sim_Nil))) (sim_Cons (sim_Var) (sim_Cons (sim_Dct1 (sim_C fun _ _ => .str _) (sim_C fun _ _ => .int _)) (sim_Cons (sim_Op os_Add (sim_Var) (sim_Lst (sim_Cons (sim_C fun _ _ => .str _) (sim_Nil)))) (sim_Cons (sim_Op os_Add (sim_Lst (sim_Cons (sim_C fun _ _ => .str _) (sim_Nil))) (sim_Var)) (sim_Nil))))))))))))) (sim_Seq (sim_Asg (sim_Op os_Add (sim_Var) (sim_Lst (sim_Cons (sim_Op os_Add (sim_Op os_Add (sim_Var) (sim_Sl ss_L (sim_Var) (sim_NoP) (sim_Part (sim_C fun _ _ => .int _)))) (sim_Lst (sim_Cons (sim_C fun _ _ => .str _) (sim_Nil)))) (sim_Cons (sim_Lst (sim_Cons (sim_Var) (sim_Nil))) (sim_Cons (sim_Lst (sim_Cons (sim_C fun _ _ => .str _) (sim_Nil))) (sim_Cons (sim_Lst (sim_Cons (sim_Un us_Neg (sim_C fun _ _ => .int _)) (sim_Nil))) (sim_Cons (sim_Op os_Add (sim_Var) (sim_Lst (sim_Cons (sim_C fun _ _ => .non) (sim_Nil)))) (sim_Cons (sim_Op os_Add (sim_Var) (sim_Lst (sim_Cons (sim_C fun _ _ => .str _) (sim_Cons (sim_C fun _ _ => .str _) (sim_Nil))))) (sim_Nil)))))))))) (sim_Ret (sim_Op os_Ix (sim_Var) (sim_Fn (fd_law_pick T) (by decide) (sim_Cons (sim_Var) (sim_Cons (sim_CB cs_Len (sim_PCons (sim_Var) (sim_PNil))) (sim_Nil))))))))))
def F_law_no_shelves : FT := runF 2 6 T_law_no_shelves
theorem fd_law_no_shelves {P : Program} {w : World} {K : PySem.W.Frag} {mg : Str → Option Value} {base : Heap} {A : Ads} (T : Tx P K mg A) : Fn P w K mg base 26 "_law_no_shelves" (spF (cz K A) F_law_no_shelves) := T.f_law_no_shelves.fn sc_law_no_shelves (fun hr => d_law_no_shelves T.G hr) (pur_F (z_law_no_shelves T))
def T_law_told : TSd :=
  TSeq (TAsg (TC .non) 3) (TSeq (TTry (TRet (TIf (TB (TVar 2)) (TMthK mt_taken_back "taken_back" 1 id (TVar 0) (TCons (TVar 1) (TNil))) (TMth mt_taken_back "taken_back" (TVar 0) (TCons (TVar 1) (TNil))))) xm_LogError 4 (TAsg (TVar 4) 3)) (TRet (TIf (TB (TOp vEq (TFn F_law_class (TCons (TVar 3) (TNil))) (TC (.str "impossible")))) (TTup (TCons (TC (.str "impossible")) (TCons (TAttE at_reason "reason" (TVar 3)) (TNil)))) (TFn F_law_class (TCons (TVar 3) (TNil))))))
theorem z_law_told {P : Program} {w : World} {K : PySem.W.Frag} {mg : Str → Option Value} {base : Heap} {A : Ads} (T : Tx P K mg A) : ∀ E, SimS (cz K A) E (t_law_told P w K mg base A E) T_law_told := by
  intro E
  unfold t_law_told T_law_told
  exact sim_Seq (sim_Asg (sim_C fun _ _ => .non)) (sim_Seq (sim_Try (cv := .ref A.cLogError) (xmo_LogError T) (fun E => sim_Ret (sim_If (sim_B (sim_Var)) (sim_MthK (mk_taken_back T (by decide)) (fun t => t) (sim_Var) (sim_Cons (sim_Var) (sim_Nil))) (sim_Mth (mo_taken_back T (by decide)) (sim_Var) (sim_Cons (sim_Var) (sim_Nil))))) (sim_Asg (sim_Var))) (sim_Ret (sim_If (sim_Test (sim_Op os_Eq (sim_Fn (fd_law_class T) (by decide) (sim_Cons (sim_Var) (sim_Nil))) (sim_C fun _ _ => .str _))) (sim_Tup (sim_Cons (sim_C fun _ _ => .str _) (sim_Cons (sim_AttE (ao_reason (w := w) (base := base) T) (sim_Var)) (sim_Nil)))) (sim_Fn (fd_law_class T) (by decide) (sim_Cons (sim_Var) (sim_Nil))))))
def F_law_told : FT := runF 3 5 T_law_told
theorem fd_law_told {P : Program} {w : World} {K : PySem.W.Frag} {mg : Str → Option Value} {base : Heap} {A : Ads} (T : Tx P K mg A) : Fn P w K mg base 28 "_law_told" (spF (cz K A) F_law_told) := T.f_law_told.fn sc_law_told (fun hr => d_law_told T.G hr) (pur_F (z_law_told T))
def T_law_row_right : TSd :=
  TSeq (TPar [5, 6] (PCons (TReprM (TVar 4)) (PCons (TFn F_law_undone (TCons (TVar 1) (TCons (TVar 2) (TCons (TVar 3) (TCons (TVar 4) (TNil)))))) (PNil)))) (TSeq (TAsg (TIf (TB (TOp vIs (TVar 6) (TC .non))) (TTup (TCons (TC (.str "impossible")) (TCons (TVar 2) (TNil)))) (TVar 6)) 7) (TSeq (TPar [8, 9] (PCons (TKeep (TFn F_law_told (TCons (TVar 0) (TCons (TVar 4) (TCons (TC (.bl false)) (TNil)))))) (PCons (TFn F_law_told (TCons (TVar 0) (TCons (TVar 4) (TCons (TC (.bl true)) (TNil))))) (PNil)))) (TSeq (TIfS (TOr (TB (TOp vNe (TReprM (TLst (TCons (TVar 8) (TCons (TVar 9) (TNil))))) (TReprM (TLst (TCons (TVar 7) (TCons (TVar 7) (TNil))))))) (TB (TOp vNe (TReprM (TVar 4)) (TVar 5)))) (TRet (TC (.bl false))) (TNext)) (TSeq (TIfS (TB (TOp vIs (TVar 6) (TC .non))) (TRet (TC (.bl true))) (TNext)) (TSeq (TIfS (TB (TOp vNe (TMth mt_applied "applied" (TVar 0) (TCons (TVar 8) (TNil))) (TVar 4))) (TRet (TC (.bl false))) (TNext)) (TSeq (TDrop (TBM mAppend (TVar 8) (TCons (TC (.str "new")) (TNil)))) (TSeq (TDrop (TBM mReverse (TVar 8) TNil)) (TRet (TAndV (TOp vEq (TReprM (TVar 9)) (TReprM (TVar 6))) (TAndV (TOp vEq (TReprM (TMth mt_taken_back "taken_back" (TVar 0) (TCons (TVar 4) (TNil)))) (TReprM (TVar 6))) (TOp vEq (TReprM (TVar 4)) (TVar 5))))))))))))
theorem z_law_row_right {P : Program} {w : World} {K : PySem.W.Frag} {mg : Str → Option Value} {base : Heap} {A : Ads} (T : Tx P K mg A) : ∀ E, SimS (cz K A) E (t_law_row_right P w K mg base A E) T_law_row_right := by
  intro E
  unfold t_law_row_right T_law_row_right
  exact sim_Seq (sim_Par (sim_PCons (sim_ReprM (sim_Var)) (sim_PCons (sim_Fn (fd_law_undone T) (by decide) (sim_Cons (sim_Var) (sim_Cons (sim_Var) (sim_Cons (sim_Var) (sim_Cons (sim_Var) (sim_Nil)))))) (sim_PNil)))) (sim_Seq (sim_Asg (sim_If (sim_Test (sim_Op os_Is (sim_Var) (sim_C fun _ _ => .non))) (sim_Tup (sim_Cons (sim_C fun _ _ => .str _) (sim_Cons (sim_Var) (sim_Nil)))) (sim_Var))) (sim_Seq (sim_Par (sim_PCons (sim_Keep (sim_Fn (fd_law_told T) (by decide) (sim_Cons (sim_Var) (sim_Cons (sim_Var) (sim_Cons (sim_C fun _ _ => .bl _) (sim_Nil)))))) (sim_PCons (sim_Fn (fd_law_told T) (by decide) (sim_Cons (sim_Var) (sim_Cons (sim_Var) (sim_Cons (sim_C fun _ _ => .bl _) (sim_Nil))))) (sim_PNil)))) (sim_Seq (sim_IfS (sim_Or (sim_Test (sim_Op os_Ne (sim_ReprM (sim_Lst (sim_Cons (sim_Var) (sim_Cons (sim_Var) (sim_Nil))))) (sim_ReprM (sim_Lst (sim_Cons (sim_Var) (sim_Cons (sim_Var) (sim_Nil))))))) (sim_Test (sim_Op os_Ne (sim_ReprM (sim_Var)) (sim_Var)))) (sim_Ret (sim_C fun _ _ => .bl _)) (sim_Next)) (sim_Seq (sim_IfS (sim_Test (sim_Op os_Is (sim_Var) (sim_C fun _ _ => .non))) (sim_Ret (sim_C fun _ _ => .bl _)) (sim_Next)) (sim_Seq (sim_IfS (sim_Test (sim_Op os_Ne (sim_Mth (mo_applied T (by decide)) (sim_Var) (sim_Cons (sim_Var) (sim_Nil))) (sim_Var))) (sim_Ret (sim_C fun _ _ => .bl _)) (sim_Next)) (sim_Seq (sim_Drop (sim_BM bm_append (sim_Var) (sim_Cons (sim_C fun _ _ => .str _) (sim_Nil)))) (sim_Seq (sim_Drop (sim_BM0 bm_reverse (sim_Var))) (sim_Ret (sim_AndV (sim_Op os_Eq (sim_ReprM (sim_Var)) (sim_ReprM (sim_Var))) (sim_AndV (sim_Op os_Eq (sim_ReprM (sim_Mth (mo_taken_back T (by decide)) (sim_Var) (sim_Cons (sim_Var) (sim_Nil)))) (sim_ReprM (sim_Var))) (sim_Op os_Eq (sim_ReprM (sim_Var)) (sim_Var))))))))))))
def F_law_row_right : FT := runF 5 10 T_law_row_right
theorem fd_law_row_right {P : Program} {w : World} {K : PySem.W.Frag} {mg : Str → Option Value} {base : Heap} {A : Ads} (T : Tx P K mg A) : Fn P w K mg base 30 "_law_row_right" (spF (cz K A) F_law_row_right) := T.f_law_row_right.fn sc_law_row_right (fun hr => d_law_row_right T.G hr) (pur_F (z_law_row_right T))
def T_law : TSd :=
  TSeq (TFor (IRng1 (TCons (TCB bMax (PCons (TC (.int 1)) (PCons (TCB bMin (PCons (TC (.int 4)) (PCons (TCB bLen (PCons (TVar 0) (PNil))) (PNil)))) (PNil)))) (TNil))) (GName 1) (TSeq (TAsg (TKeep (TFn F_law_source (TCons (TVar 0) (TCons (TVar 1) (TNil))))) 2) (TFor (IRng1 (TCons (TC (.int 12)) (TNil))) (GName 3) (TSeq (TAsgG (TFn F_law_shelf (TCons (TVar 2) (TCons (TC (.int 60)) (TNil)))) (GTup 2 (GCons (GName 4) (GCons (GName 5) (GNil))))) (TSeq (TFor (IRng1 (TCons (TC (.int 3)) (TNil))) (GName 6) (TSeq (TAsgG (TFn F_law_case (TCons (TVar 2) (TCons (TVar 4) (TCons (TVar 5) (TNil))))) (GTup 3 (GCons (GName 7) (GCons (GName 8) (GCons (GName 9) (GNil)))))) (TSeq (TIfS (TAnd (TB (TOp vEq (TVar 7) (TC (.int 2)))) (TAnd (TB (TOp vNe (TVar 4) (TLst (TNil)))) (TB (TOp vEq (TFn F_law_pick (TCons (TVar 2) (TCons (TC (.int 2)) (TNil)))) (TC (.int 0)))))) (TAsg (TOp vIx (TVar 4) (TC (.int 0))) 8) (TNext)) (TSeq (TIfS (TAnd (TB (TOp vEq (TVar 7) (TC (.int 1)))) (TB (TOp vEq (TFn F_law_pick (TCons (TVar 2) (TCons (TC (.int 2)) (TNil)))) (TC (.int 0))))) (TAsg (TOp vIx (TVar 5) (TC (.int 1))) 8) (TNext)) (TSeq (TAsg (TFn F_law_make (TCons (TVar 7) (TCons (TVar 8) (TCons (TVar 9) (TNil))))) 10) (TSeq (TIfS (TNot (TB (TFn F_law_row_right (TCons (TVar 10) (TCons (TVar 7) (TCons (TVar 8) (TCons (TVar 9) (TCons (TVar 4) (TNil))))))))) (TRet (TC (.bl false))) (TNext)) (TSeq (TAsg (TFn F_law_no_shelves (TCons (TVar 2) (TCons (TVar 4) (TNil)))) 11) (TSeq (TIfS (TOr (TB (TOp vNe (TFn F_law_told (TCons (TVar 10) (TCons (TVar 11) (TCons (TC (.bl false)) (TNil))))) (TC (.str "list")))) (TB (TOp vNe (TFn F_law_told (TCons (TVar 10) (TCons (TVar 11) (TCons (TC (.bl true)) (TNil))))) (TC (.str "list"))))) (TRet (TC (.bl false))) (TNext)) (TSeq (TDrop (TBM mReverse (TVar 4) TNil)) (TIfS (TAnd (TB (TOp vLt (TCB bLen (PCons (TVar 4) (PNil))) (TC (.int 60)))) (TB (TOp vEq (TVar 6) (TC (.int 1))))) (TDrop (TBM mAppend (TVar 4) (TCons (TOp vIx (TVar 5) (TC (.int 3))) (TNil)))) (TNext))))))))))) (TSeq (TAsgG (TFn F_law_case (TCons (TVar 2) (TCons (TVar 4) (TCons (TVar 5) (TNil))))) (GTup 3 (GCons (GName 7) (GCons (GName 8) (GCons (GName 9) (GNil)))))) (TSeq (TAsg (TFn F_law_make (TCons (TVar 7) (TCons (TVar 8) (TCons (TVar 9) (TNil))))) 10) (TFor (ILst (TLst (TCons (TVar 4) (TCons (TRevL (TVar 4)) (TCons (TSl slL (TVar 4) (TPart (TC (.int 1))) (TNoP)) (TCons (TVar 4) (TCons (TOp vAdd (TSl slL (TVar 4) (TNoP) (TPart (TUn vNeg (TC (.int 1))))) (TSl slL (TVar 5) (TPart (TC (.int 1))) (TPart (TC (.int 2))))) (TCons (TRevL (TVar 4)) (TCons (TVar 5) (TNil)))))))))) (GName 12) (TIfS (TNot (TB (TFn F_law_row_right (TCons (TVar 10) (TCons (TVar 7) (TCons (TVar 8) (TCons (TVar 9) (TCons (TVar 12) (TNil))))))))) (TRet (TC (.bl false))) (TNext)))))))))) (TRet (TAndV (TOp vEq (TMth mt_taken_back "taken_back" (TFn I_Fronted (TCons (TC (.str "b")) (TCons (TC (.int 1)) (TNil)))) (TCons (TLst (TCons (TC (.str "b")) (TCons (TC (.str "a")) (TNil)))) (TNil))) (TLst (TCons (TC (.str "a")) (TCons (TC (.str "b")) (TNil))))) (TOp vEq (TMth mt_taken_back "taken_back" (TFn I_Removed (TCons (TC (.str "x")) (TCons (TC (.int 0)) (TNil)))) (TCons (TLst (TNil)) (TNil))) (TLst (TCons (TC (.str "x")) (TNil))))))
theorem z_law {P : Program} {w : World} {K : PySem.W.Frag} {mg : Str → Option Value} {base : Heap} {A : Ads} (T : Tx P K mg A) : ∀ E, SimS (cz K A) E (t_law P w K mg base A E) T_law := by
  intro E
  unfold t_law T_law
  exact sim_Seq (sim_For (sim_IRng1 (sim_Cons (sim_CB cs_Max (sim_PCons (sim_C fun _ _ => .int _) (sim_PCons (sim_CB cs_Min (sim_PCons (sim_C fun _ _ => .int _) (sim_PCons (sim_CB cs_Len (sim_PCons (sim_Var) (sim_PNil))) (sim_PNil)))) (sim_PNil)))) (sim_Nil))) (sim_GName) (sim_Seq (sim_Asg (sim_Keep (sim_Fn (fd_law_source T) (by decide) (sim_Cons (sim_Var) (sim_Cons (sim_Var) (sim_Nil)))))) (sim_For (sim_IRng1 (sim_Cons (sim_C fun _ _ => .int _) (sim_Nil))) (sim_GName) (sim_Seq (sim_AsgG (sim_Fn (fd_law_shelf T) (by decide) (sim_Cons (sim_Var) (sim_Cons (sim_C fun _ _ => .int _) (sim_Nil)))) (sim_GTup (sim_GCons (sim_GName) (sim_GCons (sim_GName) (sim_GNil))))) (sim_Seq (sim_For (sim_IRng1 (sim_Cons (sim_C fun _ _ => .int _) (sim_Nil))) (sim_GName) (sim_Seq (sim_AsgG (sim_Fn (fd_law_case T) (by decide) (sim_Cons (sim_Var) (sim_Cons (sim_Var) (sim_Cons (sim_Var) (sim_Nil))))) (sim_GTup (sim_GCons (sim_GName) (sim_GCons (sim_GName) (sim_GCons (sim_GName) (sim_GNil)))))) (sim_Seq (sim_IfS (sim_And (sim_Test (sim_Op os_Eq (sim_Var) (sim_C fun _ _ => .int _))) (sim_And (sim_Test (sim_Op os_Ne (sim_Var) (sim_Lst (sim_Nil)))) (sim_Test (sim_Op os_Eq (sim_Fn (fd_law_pick T) (by decide) (sim_Cons (sim_Var) (sim_Cons (sim_C fun _ _ => .int _) (sim_Nil)))) (sim_C fun _ _ => .int _))))) (sim_Asg (sim_Op os_Ix (sim_Var) (sim_C fun _ _ => .int _))) (sim_Next)) (sim_Seq (sim_IfS (sim_And (sim_Test (sim_Op os_Eq (sim_Var) (sim_C fun _ _ => .int _))) (sim_Test (sim_Op os_Eq (sim_Fn (fd_law_pick T) (by decide) (sim_Cons (sim_Var) (sim_Cons (sim_C fun _ _ => .int _) (sim_Nil)))) (sim_C fun _ _ => .int _)))) (sim_Asg (sim_Op os_Ix (sim_Var) (sim_C fun _ _ => .int _))) (sim_Next)) (sim_Seq (sim_Asg (sim_Fn (fd_law_make T) (by decide) (sim_Cons (sim_Var) (sim_Cons (sim_Var) (sim_Cons (sim_Var) (sim_Nil)))))) (sim_Seq (sim_IfS (sim_Not (sim_B (sim_Fn (fd_law_row_right T) (by decide) (sim_Cons (sim_Var) (sim_Cons (sim_Var) (sim_Cons (sim_Var) (sim_Cons (sim_Var) (sim_Cons (sim_Var) (sim_Nil))))))))) (sim_Ret (sim_C fun _ _ => .bl _)) (sim_Next)) (sim_Seq (sim_Asg (sim_Fn (fd_law_no_shelves T) (by decide) (sim_Cons (sim_Var) (sim_Cons (sim_Var) (sim_Nil))))) (sim_Seq (sim_IfS (sim_Or (sim_Test (sim_Op os_Ne (sim_Fn (fd_law_told T) (by decide) (sim_Cons (sim_Var) (sim_Cons (sim_Var) (sim_Cons (sim_C fun _ _ => .bl _) (sim_Nil))))) (sim_C fun _ _ => .str _))) (sim_Test (sim_Op os_Ne (sim_Fn (fd_law_told T) (by decide) (sim_Cons (sim_Var) (sim_Cons (sim_Var) (sim_Cons (sim_C fun _ _ => .bl _) (sim_Nil))))) (sim_C fun _ _ => .str _)))) (sim_Ret (sim_C fun _ _ => .bl _)) (sim_Next)) (sim_Seq (sim_Drop (sim_BM0 bm_reverse (sim_Var))) (sim_IfS (sim_And (sim_Test (sim_Op os_Lt (sim_CB cs_Len (sim_PCons (sim_Var) (sim_PNil))) (sim_C fun _ _ => .int _))) (sim_Test (sim_Op os_Eq (sim_Var) (sim_C fun _ _ => .int _)))) (sim_Drop (sim_BM bm_append (sim_Var) (sim_Cons (sim_Op os_Ix (sim_Var) (sim_C fun _ _ => .int _)) (sim_Nil)))) (sim_Next))))))))))) (sim_Seq (sim_AsgG (sim_Fn (fd_law_case T) (by decide) (sim_Cons (sim_Var) (sim_Cons (sim_Var) (sim_Cons (sim_Var) (sim_Nil))))) (sim_GTup (sim_GCons (sim_GName) (sim_GCons (sim_GName) (sim_GCons (sim_GName) (sim_GNil)))))) (sim_Seq (sim_Asg (sim_Fn (fd_law_make T) (by decide) (sim_Cons (sim_Var) (sim_Cons (sim_Var) (sim_Cons (sim_Var) (sim_Nil)))))) (sim_For (sim_ILst (sim_Lst (sim_Cons (sim_Var) (sim_Cons (sim_RevL (sim_Var)) (sim_Cons (sim_Sl ss_L (sim_Var) (sim_Part (sim_C fun _ _ => .int _)) (sim_NoP)) (sim_Cons (sim_Var) (sim_Cons (sim_Op os_Add (sim_Sl ss_L (sim_Var) (sim_NoP) (sim_Part (sim_Un us_Neg (sim_C fun _ _ => .int _)))) (sim_Sl ss_L (sim_Var) (sim_Part (sim_C fun _ _ => .int _)) (sim_Part (sim_C fun _ _ => .int _)))) (sim_Cons (sim_RevL (sim_Var)) (sim_Cons (sim_Var) (sim_Nil)))))))))) (sim_GName) (sim_IfS (sim_Not (sim_B (sim_Fn (fd_law_row_right T) (by decide) (sim_Cons (sim_Var) (sim_Cons (sim_Var) (sim_Cons (sim_Var) (sim_Cons (sim_Var) (sim_Cons (sim_Var) (sim_Nil))))))))) (sim_Ret (sim_C fun _ _ => .bl _)) (sim_Next)))))))))) (sim_Ret (sim_AndV (sim_Op os_Eq (sim_Mth (mo_taken_back T (by decide)) (sim_Mkr (cn := 2) (mk_Fronted T) (by decide) (sim_Cons (sim_C fun _ _ => .str _) (sim_Cons (sim_C fun _ _ => .int _) (sim_Nil)))) (sim_Cons (sim_Lst (sim_Cons (sim_C fun _ _ => .str _) (sim_Cons (sim_C fun _ _ => .str _) (sim_Nil)))) (sim_Nil))) (sim_Lst (sim_Cons (sim_C fun _ _ => .str _) (sim_Cons (sim_C fun _ _ => .str _) (sim_Nil))))) (sim_Op os_Eq (sim_Mth (mo_taken_back T (by decide)) (sim_Mkr (cn := 1) (mk_Removed T) (by decide) (sim_Cons (sim_C fun _ _ => .str _) (sim_Cons (sim_C fun _ _ => .int _) (sim_Nil)))) (sim_Cons (sim_Lst (sim_Nil)) (sim_Nil))) (sim_Lst (sim_Cons (sim_C fun _ _ => .str _) (sim_Nil))))))
def F_law : FT := runF 1 13 T_law
end
end K
namespace K
open PySem PySem.Spec PyProof.Rows L2 U ClX Z
local macro_rules | `(tactic| walk_at "zs") => `(tactic| simp only [ws_appG, wu_TDPop, isDc_dict, wu_TLenO, wp_lenO, wp_Stb, wu_TSortSet, wu_IRng3, wu_IZipX, bitsD_int, lstVals_dict, ws_TForK, ws_forKd, ws_TForIt, ws_forItd, nxrt_nx, nxrt_rt, wu_TEqC, wp_eqC, wy_seq, wy_pl, wy_nil, wy_yld, wy_for, sqY_nx, sqY_rt, sqY_bk, sqY_ct, sqY_ex, forQY_nx, forQY_ct, forQY_bk, forQY_rt, forQY_ex, outYQ_nx, outYQ_ex, ws_forG, wp_lstC, wu_IZipA, zipTD_tup, zipTD_list, wu_TStL, stL_list, wu_TLstGM, wp_noex, wu_TFnM, wu_TDctZip, dctZip_ll, wu_TDGetM, wu_TDispS, wu_TLstEn, enLD_list, wu_TLstZip, zipLD_ll, lstRg1_int, lstRg2_int, vIsNotB_bl, wu_IZipC, wp_zipC, wu_TSM, wp_txtM, wu_TCm, wu_TCmK, wp_cmeth, mFindS_str, bInt2_int, bInt2_bl, wu_TFnS, wu_TEqM, GLst, wu_TEq1, wu_TCount, wu_TGet, wp_getM, vIsB_bl, wp_reprM, wu_TReprM, lcC_scr, lcC_list, forC_scr, forC_list, wp_listC, wp_enC, wu_IEnumC, wu_ILstC, ws_TForC, wu_TEqO, wp_eqO, wu_TFmt, wu_TJs_nil, wu_TJs_cons, wp_jStr, endQ_nx, endQ_rt, tryX_f, tryX_t, tryQ_ct, tryQ_bk, tryQ_rt, tryQ_nx, tryQ_ex, ws_try, wu_TRaiseF, wu_TRaise, wu_TAttE, wu_TLenSet, wu_TDct1, wu_TC, wu_TOp, wu_TUn, wu_TB, wu_TNotV, wu_TAndV, wu_TOrV, wu_TIf, wu_TNot, wu_TAnd, wu_TOr, wu_TYes, wu_TChain, wu_TNil, wu_TCons, wu_TStar, wu_PNil, wu_PCons, wu_TLst, wu_TTup, wu_TCB, wu_TNext, wu_TBreak, wu_TCont, wu_TRet, wu_TRetN, wu_TDrop, wu_TIfS, wu_TAsg, wu_TPar, wu_ILst, wu_ITup, wu_IStr, wu_IRng1, wu_IRng2, wu_IEnum, wu_IZip, wu_TBM, wu_TBP, wu_TAug, wu_TSub, wu_TDPut, wu_TFld, wu_TFn, wu_TFnK, wu_TMth, wu_TMthK, wp_meth, wu_TAtt, wu_TNoP, wu_TPart, wu_TSl, wu_TRevL, wu_TDGet, wu_TDNew, wu_TIndex, wu_TAsgG, wu_TKeep, wu_TSup, GName, GTup, GCons, GNil,   ws_seq, ws_sb, ws_some, ws_nxt, ws_ite, ws_for, sqQ_nx, sqQ_rt, sqQ_bk, sqQ_ct, sqQ_ex, wp_bnd, wp_ret, wp_some, wp_opt, wp_pk, wp_pks_nil, wp_pks_cons, wp_ite, wp_call, wp_Var, varQ_s, varQ_o, wp_stab_v, wp_stab_fr, wp_stab_al, stabQ_o, stabQ_s, wp_asB_bl, res1_v, res1_fr, res1_al, res_nil, res_cons, asg_v, asg_fr, asgs_nil, asgs_cons, setV_eq,   Option.bind_eq_some_iff, Int.zero_add, and_assoc, exists_and_left, exists_const, Nat.reduceAdd, Nat.reduceLT, Nat.reduceLeDiff, Nat.reduceEqDiff, Int.reduceEq, Int.reduceLE, Int.reduceLT, Int.reduceNeg, Int.reduceToNat, Int.reduceAdd, Int.reduceSub, Int.cast_ofNat_Int, reduceIte, eq_self, fits, decide_eq_true_eq, Bool.not_eq_true', decide_eq_false_iff_not, Bool.and_eq_true, wp_mut_al, wp_mut_loc, mutQ_o, Prod.mk.injEq, Bool.and_true, Bool.true_and, Bool.and_false, Bool.false_and, Bool.or_true, Bool.true_or, Bool.or_false, Bool.false_or, Bool.and_self, Bool.or_self, peek_int, peek_str, peek_bl, peek_non, peek_ty, peek_cl, peek_list, peek_scr, peek_tup, peek_dict, peek_obj, peek_loc, peek_fr, peek_al, varP_o, varP_s, forQ_nx, forQ_ct, forQ_bk, forQ_rt, forQ_ex,   outQ_v, outQ_fr, outQ_nx, outQ_ex, outQ_al, outA_o, outA_s, outIQ_nx, outIQ_ex, vAdd_int, vAdd_str, vAdd_list, vSub_int, vMul_int, vDiv_int, vMod_int, vPow_int, vLt_int, vLe_int, vGt_int, vGe_int, vEq_int, vEq_str, vEq_bl, vNe_int, vNe_str, vNe_bl, vIs_non, vIs_int, vIs_str, vIs_list, vIs_tup, vIsNot_non, vIsNot_int, vIsNot_str, vIsNot_list, vIsNot_tup, vIx_list, vIx_scr, vIx_tup, vNeg_int, vIp_int, bLen_str, bLen_list, bLen_scr, bLen_tup, bAbs_int, bMax_int, bMin_int, bList_list, bList_scr, bList_tup, bInt_int, bInt_bl, slL_list, slS_str, isL_list, asI_int, itemsL_list, itemsL_scr, mAppend_eq, mExtend_eq, ite_some_eq, toKey, Bool.true_eq_false,   List.getElem?_cons_zero, List.getElem?_cons_succ, List.set_cons_zero, List.set_cons_succ, List.length_cons, List.length_nil, Option.some.injEq, exists_eq_left', exists_eq_left, exists_eq_right, exists_eq_right', and_true, true_and, Option.map_some, Option.bind_some, Rs.v.injEq, Rs.fr.injEq, D.int.injEq, D.str.injEq, D.bl.injEq, if_true, Bool.false_eq_true, if_false, Bool.not_true, Bool.not_false, decide_true, decide_false, wf_v, wf_fr, wipeE, restE, Option.isSome_some])
theorem isi_b {kn : Kin} {d : D} {t n : String} {b : Bool} (h1 : bty d = some t) (ho : ∀ k fs, d ≠ .obj k fs) (h2 : kitB t n = some b) : bIsi kn [d, .ty n] = some (.v (.bl b)) := by
  have e : isiA kn d (.ty n) = some b := by
    unfold isiA
    cases d with
    | obj k fs => exact absurd rfl (ho k fs)
    | exc k fs => cases h1
    | _ => simp only [h1, Option.bind_some]; exact h2
  show (isiA kn d (.ty n)).map _ = _
  rw [e]; rfl
theorem isi_ii {i : Int} : bIsi kn [.int i, .ty "int"] = some (.v (.bl true)) := isi_b rfl (fun _ _ h => by cases h) (by decide +kernel)
theorem isi_ib {i : Int} : bIsi kn [.int i, .ty "bool"] = some (.v (.bl false)) := isi_b rfl (fun _ _ h => by cases h) (by decide +kernel)
theorem w_is_integer {i lo hi : Int} {μ : List D} {Q : Rs → List D → Prop} {X : XF} (q : Q (.v (.bl (decide (lo ≤ i) && decide (i ≤ hi)))) μ) : Wf (F_is_integer [.int i, .int lo, .int hi] μ) Q X := by
  refine wf_run rfl ?_
  show Ws (T_is_integer ⟨[some (.s (.int i)), some (.s (.int lo)), some (.s (.int hi))], μ⟩) _
  unfold T_is_integer
  ((try walk_at "zs"); repeat (simp only [isi_ii, isi_ib]; (try walk_at "zs")))
  by_cases c : lo ≤ i
  · simpa [c] using q
  · simpa [c] using q
def letters : List Nat := ("abcdefghijklmnopqrstuvwxyz" : Str).cps.toList
def itemB (z : Str) : Bool := decide (1 ≤ z.length) && decide (z.length ≤ 8) && z.cps.toList.all fun k => decide (k ∈ letters)
theorem isi_ss {z : Str} : bIsi kn [.str z, .ty "str"] = some (.v (.bl true)) := isi_b rfl (fun _ _ h => by cases h) (by decide +kernel)
theorem all_map {α : Type} {p : α → Bool} {xs : List α} : bAll [.list (xs.map fun x => .bl (p x))] = some (.v (.bl (xs.all p))) := by
  unfold bAll
  have : (xs.map fun x => D.bl (p x)).mapM asBl = some (xs.map p) := by
    induction xs with
    | nil => rfl
    | cons x xs ih => rw [List.map_cons, List.mapM_cons, ih]; rfl
  simp only [this, Option.map_some]
  rw [List.all_map]
  rfl
theorem fm_some {α β : Type} {f : α → β} {xs : List α} : xs.filterMap (fun x => some (f x)) = xs.map f := by induction xs with | nil => rfl | cons x xs ih => simp
theorem vIn_ch {k : Nat} {z : Str} : vIn (.str ⟨#[k]⟩) (.str z) = some (.v (.bl (decide (k ∈ z.cps.toList)))) := rfl
def Itm (z : Str) : Prop := itemB z = true
theorem w_is_item {z : Str} {μ : List D} {Q : Rs → List D → Prop} {X : XF} (hz : z.length ≤ 1000) (q : Q (.v (.bl (itemB z))) μ) : Wf (F_is_item [.str z] μ) Q X := by
  refine wf_run rfl ?_
  show Ws (T_is_item ⟨[some (.s (.str z)), none], μ⟩) _
  unfold T_is_item
  ((try walk_at "zs"); repeat (simp only [isi_ss]; (try walk_at "zs")))
  refine ⟨by omega, ?_⟩
  by_cases c1 : 1 ≤ z.length
  · rw [if_pos (by omega)]
    by_cases c8 : z.length ≤ 8
    · rw [if_neg (by omega)]
      refine wp_Lc ?_
      walk_at "zs"
      refine ⟨by rw [List.length_map]; show z.length ≤ _; omega, lc_all (fun k => D.str ⟨#[k]⟩) (fun k => .bl (decide (k ∈ letters))) (fun k hk => ?_) ?_⟩
      · ((try walk_at "zs"); repeat (simp only [vIn_ch]; (try walk_at "zs")))
        rfl
      · rw [all_map]
        walk_at "zs"
        have e : itemB z = z.cps.toList.all fun k => decide (k ∈ letters) := by unfold itemB; rw [decide_eq_true c1, decide_eq_true c8]; simp
        rw [e] at q; exact q
    · rw [if_pos (by omega)]
      have e : itemB z = false := by unfold itemB; rw [decide_eq_false c8]; simp
      rw [e] at q; exact q
  · rw [if_neg (by omega)]
    have e : itemB z = false := by unfold itemB; rw [decide_eq_false c1]; simp
    rw [e] at q; exact q
theorem Itm.sz {z : Str} (h : Itm z) : z.length ≤ 1000 := by
  unfold Itm itemB at h
  simp only [Bool.and_eq_true, decide_eq_true_eq] at h
  omega
def rcD (k : Nat) (z : Str) (n : Int) : D := .obj k [("held_item", .str z), ("held_slot", .int n)]
theorem att_most : attD at_MOST ct_MOST "MOST" (.cl 3) = some (.int 60) := rfl
theorem w_init {k : Nat} {z : Str} {n : Int} {μ : List D} {Q : Rs → List D → Prop} {X : XF} (hk : k < 4) (hz : Itm z) (h0 : 0 ≤ n) (h1 : n ≤ 60) (q : Q (.fr (rcD k z n)) μ) : Wf (runI 3 3 k T_Record_init [.str z, .int n] μ) Q X := by
  refine wf_runI rfl ?_
  show Ws (T_Record_init ⟨[some (.o (.obj k [])), some (.s (.str z)), some (.s (.int n))], μ⟩) _
  unfold T_Record_init
  walk_at "zs"
  refine w_is_item hz.sz ?_
  rw [show itemB z = true from hz]
  walk_at "zs"
  refine ⟨_, att_most, w_is_integer ?_⟩
  rw [decide_eq_true h0, decide_eq_true h1]
  have o1 : ok_held_item k = true := by match k, hk with | 0, _ => rfl | 1, _ => rfl | 2, _ => rfl | 3, _ => rfl
  have o2 : ok_held_slot k = true := by match k, hk with | 0, _ => rfl | 1, _ => rfl | 2, _ => rfl | 3, _ => rfl
  ((try walk_at "zs"); repeat (simp only [o1, o2]; (try walk_at "zs")))
  exact ⟨(by show 1 < 1000; decide), q⟩
theorem bits_le {i : Int} {n : Nat} (h0 : 0 < n) (h : i.natAbs < 2 ^ n) : Builtin.Int.intBits i ≤ n := by
  have := PySem.Flt.log2_lt_of h0 h
  unfold Builtin.Int.intBits
  split <;> omega
/-- the tape stands at n in the store; at most c numbers were mixed -/
def Tape (μ : List D) (n : Nat) (c : Int) : Prop := ∃ n0 n1 n2 : Int, μ[n]? = some (.list [.int n0, .int n1, .int n2]) ∧ 0 ≤ n0 ∧ 0 ≤ n1 ∧ n1 < 2 ^ 200 ∧ 0 ≤ n2 ∧ n2 ≤ c
theorem Tape.mono {μ : List D} {n : Nat} {c d : Int} (t : Tape μ n c) (h : c ≤ d) : Tape μ n d := let ⟨n0, n1, n2, a, b, e, f, g, k⟩ := t; ⟨n0, n1, n2, a, b, e, f, g, by omega⟩
theorem Tape.lt {μ : List D} {n : Nat} {c : Int} (t : Tape μ n c) : n < μ.length := let ⟨_, _, _, a, _⟩ := t; (List.getElem?_eq_some_iff.mp a).1
theorem Tape.app {μ l : List D} {n : Nat} {c : Int} (t : Tape μ n c) : Tape (μ ++ l) n c := let ⟨n0, n1, n2, a, b⟩ := t; ⟨n0, n1, n2, by rw [List.getElem?_append_left t.lt]; exact a, b⟩
theorem Tape.other {μ : List D} {n m : Nat} {d : D} {c : Int} (t : Tape μ n c) (h : m ≠ n) : Tape (μ.set m d) n c := let ⟨n0, n1, n2, a, b⟩ := t; ⟨n0, n1, n2, by rw [List.getElem?_set_ne h]; exact a, b⟩
theorem at0 {a b c : D} : atI [a, b, c] 0 = some a := rfl
theorem at1 {a b c : D} : atI [a, b, c] 1 = some b := rfl
theorem at2 {a b c : D} : atI [a, b, c] 2 = some c := rfl
theorem ix30 : ixN 3 0 = some 0 := rfl
theorem ix32 : ixN 3 2 = some 2 := rfl
theorem w_pick {n : Nat} {sz c : Int} {μ : List D} {Q : Rs → List D → Prop} {X : XF} (t : Tape μ n c) (hc : c ≤ 1000000) (h0 : 0 < sz) (h1 : sz < 2 ^ 250)
    (q : ∀ r d, 0 ≤ r → r < sz → Tape (μ.set n d) n (c + 1) → Q (.v (.int r)) (μ.set n d)) : Wf (F_law_pick [.loc n, .int sz] μ) Q X := by
  have hn := t.lt
  obtain ⟨n0, n1, n2, e, a0, a1, a2, a3, a4⟩ := t
  have lg : sz.natAbs.log2 < 9000 := Nat.lt_of_lt_of_le (PySem.Flt.log2_lt_of (show 0 < 250 by decide) (show sz.natAbs < 2 ^ 250 by omega)) (by decide)
  refine wf_run rfl ?_
  show Ws (T_law_pick ⟨[some (.s (.loc n)), some (.s (.int sz)), none, none], μ⟩) _
  unfold T_law_pick
  ((try walk_at "zs"); repeat (simp only [e, at0, at1, at2, ix30, ix32, List.getElem?_set_self hn, List.set_set]; (try walk_at "zs")))
  by_cases c0 : 0 < n0
  · rw [if_pos c0]
    exact ⟨h0, h0, lg, q _ _ (Int.emod_nonneg _ (by omega)) (Int.emod_lt_of_pos _ h0) ⟨n0 / sz, n1, n2, List.getElem?_set_self hn, Int.ediv_nonneg a0 (by omega), a1, a2, a3, by omega⟩⟩
  · rw [if_neg c0]
    have b1 : Builtin.Int.intBits (n1 + 86028121 * (n2 + 1)) ≤ 201 := bits_le (by decide) (by omega)
    have m0 : 0 ≤ (n1 + 86028121 * (n2 + 1)) ^ 3 % (10 ^ 41 + 109) := Int.emod_nonneg _ (by decide)
    have m1 : (n1 + 86028121 * (n2 + 1)) ^ 3 % (10 ^ 41 + 109) < 10 ^ 41 + 109 := Int.emod_lt_of_pos _ (by decide)
    refine ⟨mulOk_l (by decide) (by decide), by omega, by decide, by decide, mulOk_l (by decide) (by decide), ?_⟩
    generalize (n1 + 86028121 * (n2 + 1)) ^ 3 % (10 ^ 41 + 109) = m at m0 m1
    have m2 : (10 : Int) ^ 41 + 109 < 2 ^ 150 := by decide
    have b2 : Builtin.Int.intBits (m + 122949823 * (n2 + 1)) ≤ 151 := bits_le (by decide) (by omega)
    exact ⟨by omega, by decide, by decide, by decide, h0, q _ _ (Int.emod_nonneg _ (by omega)) (Int.emod_lt_of_pos _ h0) ⟨n0, n1, n2 + 1, List.getElem?_set_self hn, a0, a1, a2, by omega, by omega⟩⟩
theorem w_source {ns : List Int} {k : Nat} {μ : List D} {Q : Rs → List D → Prop} {X : XF} (hk : k ≤ 100) (q : ∀ n0 n1 : Int, 0 ≤ n0 → 0 ≤ n1 → n1 < 2 ^ 200 → Q (.fr (.list [.int n0, .int n1, .int 0])) μ) : Wf (F_law_source [.scr (ns.map D.int), .int (k : Nat)] μ) Q X := by
  refine wf_run rfl ?_
  show Ws (T_law_source ⟨[some (.s (.scr (ns.map D.int))), some (.s (.int (k : Nat))), none], μ⟩) _
  unfold T_law_source
  have fin : ∀ x : Int, 0 ≤ x → (Builtin.Int.intBits 10 : Int) * 18 ≤ 2 ^ 27 ∧ (Builtin.Int.intBits 10 : Int) * 39 ≤ 2 ^ 27 ∧ (0 : Int) < 10 ^ 39 + 153 ∧ mulOk (x % (10 ^ 39 + 153)) 64 = true ∧ Q (.fr (.list [.int (if x - 10 ^ 18 > 0 then x - 10 ^ 18 else 0), .int (x % (10 ^ 39 + 153) * 64 + (k : Int)), .int 0])) μ := by
    intro x hx
    have m0 : 0 ≤ x % (10 ^ 39 + 153) := Int.emod_nonneg _ (by decide)
    have m1 : x % (10 ^ 39 + 153) < 10 ^ 39 + 153 := Int.emod_lt_of_pos _ (by decide)
    have m2 : (10 : Int) ^ 39 + 153 < 2 ^ 150 := by decide
    refine ⟨by decide, by decide, by decide, mulOk_r (by decide) (by decide), q _ _ ?_ ?_ ?_⟩
    · split <;> omega
    · omega
    · omega
  by_cases c : k < ns.length
  · have hc : ((k : Int) < ((ns.map D.int).length : Int)) = True := by simp [c]
    have e : atI (ns.map D.int) (k : Int) = some (.int ns[k]) := by rw [atI_nat (by simpa using c)]; simp
    ((try walk_at "zs"); repeat (simp only [hc, e]; (try walk_at "zs")))
    exact fin _ (by split <;> omega)
  · have hc : ((k : Int) < ((ns.map D.int).length : Int)) = False := by simp [c]
    ((try walk_at "zs"); repeat (simp only [hc]; (try walk_at "zs")))
    exact fin 0 (by decide)
theorem erase_perm {α : Type} : ∀ {l : List α} {k : Nat} (h : k < l.length), (l[k] :: l.eraseIdx k).Perm l
  | x :: l, 0, _ => .refl _
  | x :: l, k + 1, h => (List.Perm.swap x _ _).trans (.cons x (erase_perm (l := l) (k := k) (by simpa using h)))
theorem rng_len {n : Nat} : (rngD 0 (n : Int).toNat).length = n := by simp [rngD]
theorem pop_ok {xs : List D} {r : Int} (h0 : 0 ≤ r) (h1 : r < xs.length) (hl : xs.length ≤ 1000 := by omega) : ∃ y ys, mPopAt [.int r] (.list xs) = some (y, .list ys) ∧ (y :: ys).Perm xs ∧ ys.length + 1 = xs.length := by
  obtain ⟨k, rfl⟩ : ∃ k : Nat, r = k := ⟨r.toNat, by omega⟩
  have hk : k < xs.length := by omega
  refine ⟨xs[k], xs.eraseIdx k, ?_, ?_, ?_⟩
  · unfold mPopAt
    simp only
    rw [if_pos (by simp; omega)]
    have : seqIndex? (k : Int) xs.length = some k := by unfold seqIndex?; simp; omega
    rw [this, Option.bind_some, List.getElem?_eq_getElem hk]
    rfl
  · exact erase_perm hk
  · rw [List.length_eraseIdx_of_lt hk]; omega
theorem w_shuf {n : Nat} {ds : List D} {c : Int} {μ : List D} {Q : Rs → List D → Prop} {X : XF} (t : Tape μ n c) (hl : ds.length ≤ 1000) (hc : c ≤ 900000)
    (q : ∀ es μ', es.Perm ds → Tape μ' n (c + ds.length) → Q (.fr (.list es)) μ') : Wf (F_law_shuffled [.loc n, .list ds] μ) Q X := by
  refine wf_run rfl ?_
  show Ws (T_law_shuffled ⟨[some (.s (.loc n)), some (.s (.list ds)), none, none], μ⟩) _
  unfold T_law_shuffled
  walk_at "zs"
  refine wp_Lc ?_
  walk_at "zs"
  refine ⟨by simp [smallI]; omega, by simp [rngD]; omega, ?_⟩
  refine lc_inv (fun k acc s => ∃ (left : List D) (μ' : List D), s = ⟨[some (.s (.loc n)), some (.s (.list ds)), some (.o (.list left)), none], μ'⟩ ∧ Tape μ' n (c + k) ∧ (acc ++ left).Perm ds ∧ left.length + k = ds.length) ⟨ds, μ, rfl, by simpa using t, by simp, rfl⟩ ?_ ?_
  · rintro k d acc s hd ⟨left, μ', rfl, tp, pm, hk⟩
    obtain ⟨rfl, hk2⟩ := rng_get hd
    have hk2 : k < ds.length := by simpa using hk2
    walk_at "zs"
    refine w_pick tp (by omega) (by omega) (by omega) fun r d1 r0 r1 t1 => ?_
    obtain ⟨y, ys, he, hp, hy⟩ := pop_ok (xs := left) r0 r1
    ((try walk_at "zs"); repeat (simp only [he]; (try walk_at "zs")))
    exact ⟨ys, _, rfl, by rw [show c + ((k + 1 : Nat) : Int) = c + k + 1 by omega]; exact t1, by rw [List.append_assoc]; exact ((List.Perm.append_left acc hp).trans pm), by omega⟩
  · rintro acc s ⟨left, μ', rfl, tp, pm, hk⟩
    rw [rng_len] at hk tp
    have : left = [] := List.eq_nil_of_length_eq_zero (by omega)
    subst this
    exact q _ _ (by simpa using pm) tp
def chs (z : Str) : List Str := z.cps.toList.map fun k => ⟨#[k]⟩
theorem peek_rc {s : S} {k : Nat} {z : Str} {n : Int} : peek s (.v (rcD k z n)) = some (rcD k z n) := rfl
theorem look_i {z : Str} {v : Int} : List.lookup ("held_item" : Str) [(("held_item" : Str), D.str z), ("held_slot", D.int v)] = some (.str z) := by
  have : (("held_item" : Str) == "held_item") = true := by decide +kernel
  simp [List.lookup, this]
theorem look_s {z : Str} {v : Int} : List.lookup ("held_slot" : Str) [(("held_item" : Str), D.str z), ("held_slot", D.int v)] = some (.int v) := by
  have : (("held_slot" : Str) == "held_item") = false := by decide +kernel
  simp [List.lookup, this]
theorem map_perm {α : Type} {f : α → D} {xs : List α} {es : List D} (h : es.Perm (xs.map f)) : ∃ ys : List α, es = ys.map f ∧ ys.Perm xs := by
  generalize e : xs.map f = zs at h
  induction h generalizing xs with
  | nil => exact ⟨[], rfl, by rw [List.map_eq_nil_iff.mp e]⟩
  | cons x _ ih =>
    obtain ⟨y, ys, rfl, rfl, e2⟩ := List.map_eq_cons_iff.mp e
    obtain ⟨zs, rfl, hp⟩ := ih e2
    exact ⟨y :: zs, rfl, .cons y hp⟩
  | swap x y l =>
    obtain ⟨a, ys, rfl, rfl, e2⟩ := List.map_eq_cons_iff.mp e
    obtain ⟨b, ys, rfl, rfl, e3⟩ := List.map_eq_cons_iff.mp e2
    exact ⟨b :: a :: ys, by rw [← e3]; rfl, .swap _ _ _⟩
  | trans _ _ ih1 ih2 =>
    obtain ⟨ys, e1, p1⟩ := ih2 e
    obtain ⟨zs, e2, p2⟩ := ih1 e1.symm
    exact ⟨zs, e2, p2.trans p1⟩
theorem isi_ll {ds : List D} : bIsi kn [.list ds, .ty "list"] = some (.v (.bl true)) := isi_b rfl (fun _ _ h => by cases h) (by decide +kernel)
theorem lk_hit {f : Str} {d : D} {r : List (Str × D)} : List.lookup f ((f, d) :: r) = some d := by simp [List.lookup]
theorem lk_miss {f g : Str} {d : D} {r : List (Str × D)} (h : (f == g) = false) : List.lookup f ((g, d) :: r) = List.lookup f r := by simp [List.lookup, h]
/-! ### names -/
def abcZ : Str := "abcdefghijklmnopqrstuvwxyz"
def abcS : List Str := chs abcZ
def lt (j : Nat) : Str := (abcS[j]?).getD ""
theorem abc_len : abcZ.cps.toList.length = 26 := by decide +kernel
theorem ix_abc {j : Nat} (h : j < 26) : vIx (.str "abcdefghijklmnopqrstuvwxyz") (.int (j : Int)) = some (.v (.str (lt j))) := by
  have hl : j < abcZ.cps.toList.length := by rw [abc_len]; exact h
  have e : atI abcZ.cps.toList (j : Int) = some abcZ.cps.toList[j] := atI_nat hl
  have e2 : lt j = ⟨#[abcZ.cps.toList[j]]⟩ := by
    unfold lt abcS chs
    rw [List.getElem?_map, List.getElem?_eq_getElem hl]; rfl
  rw [e2]
  show (if fits abcZ.length = true then (atI abcZ.cps.toList (j : Int)).map fun c => Rs.v (.str ⟨#[c]⟩) else none) = _
  rw [if_pos (by decide +kernel), e]; rfl
theorem lt_len {j : Nat} : (lt j).length ≤ 1 := by
  unfold lt
  by_cases h : j < abcS.length
  · rw [List.getElem?_eq_getElem h]
    have : ∀ z ∈ abcS, z.length ≤ 1 := by decide +kernel
    exact this _ (List.getElem_mem h)
  · rw [List.getElem?_eq_none (by omega)]; decide
def nmF (st j : Nat) : Str := if st = 0 then (if j < 26 then lt j else lt (j / 26 - 1) ++ lt (j % 26)) else if st = 1 then lt (j / 26) ++ lt (j % 26) else "abcdef" ++ (lt (j / 26) ++ lt (j % 26))
def names (st m : Nat) : List Str := (List.range m).map (nmF st)
theorem names_nd : ∀ st, st < 3 → (names st 64).Nodup := by decide +kernel
theorem names_itm : ∀ st, st < 3 → ∀ z ∈ names st 64, itemB z = true := by decide +kernel
theorem names_take {st m : Nat} (h : m ≤ 64) : names st m = (names st 64).take m := by
  unfold names
  rw [← List.map_take, List.take_range, Nat.min_eq_left h]
theorem w_names {n m : Nat} {c : Int} {μ : List D} {Q : Rs → List D → Prop} {X : XF} (t : Tape μ n c) (hm : m ≤ 64) (hc : c ≤ 800000)
    (q : ∀ (zs : List Str) μ', zs.Nodup → (∀ z ∈ zs, Itm z) → zs.length = m → Tape μ' n (c + 80) → Q (.fr (.list (zs.map D.str))) μ') : Wf (F_law_names [.loc n, .int (m : Nat)] μ) Q X := by
  refine wf_run rfl ?_
  show Ws (T_law_names ⟨[some (.s (.loc n)), some (.s (.int (m : Nat))), none, none, none, none, none, none], μ⟩) _
  unfold T_law_names
  walk_at "zs"
  refine w_pick t (by omega) (by omega) (by omega) fun r d0 r0 r1 t1 => ?_
  generalize μ.set n d0 = μ1 at t1
  obtain ⟨st, rfl⟩ : ∃ w' : Nat, r = w' := ⟨r.toNat, by omega⟩
  have hst : st < 3 := by omega
  walk_at "zs"
  refine ⟨by simp [smallI]; omega, ?_⟩
  refine for_inv (fun j s => ∃ (v5 v6 v7 : Option A), s = ⟨[some (.s (.loc n)), some (.s (.int (m : Nat))), some (.s (.str "abcdefghijklmnopqrstuvwxyz")), some (.s (.int (st : Nat))), some (.o (.list ((names st j).map D.str))), v5, v6, v7], μ1⟩) ⟨_, _, _, rfl⟩ ?_ ?_
  · rintro j d s hd ⟨v5, v6, v7, rfl⟩
    obtain ⟨rfl, hj⟩ := rng_get hd
    have hj : j < m := by simpa using hj
    have e1 : (0 : Int) + (j : Int) = (j : Nat) := by omega
    have e2 : ((j : Nat) : Int) / 26 = ((j / 26 : Nat) : Int) := by omega
    have e3 : ((j : Nat) : Int) % 26 = ((j % 26 : Nat) : Int) := by omega
    have x2 := ix_abc (j := j / 26) (by omega)
    have x3 := ix_abc (j := j % 26) (by omega)
    have l1 := lt_len (j := j)
    have l2 := lt_len (j := j / 26)
    have l3 := lt_len (j := j % 26)
    have l4 := lt_len (j := j / 26 - 1)
    have tk : (names st (j + 1)).map D.str = (names st j).map D.str ++ [.str (nmF st j)] := by
      unfold names
      rw [List.range_succ, List.map_append, List.map_append]; rfl
    have pick3 : ∀ a : Str, a = (if j < 26 then lt j else lt (j / 26 - 1) ++ lt (j % 26)) → atI [D.str a, D.str (lt (j / 26) ++ lt (j % 26)), D.str (Str.ofString "abcdef" ++ (lt (j / 26) ++ lt (j % 26)))] ((st : Nat) : Int) = some (.str (nmF st j)) := by
      rintro a rfl
      unfold nmF
      match st, hst with
      | 0, _ => rfl
      | 1, _ => rfl
      | 2, _ => rfl
    have l6 : (Str.ofString "abcdef").length + (lt (j / 26) ++ lt (j % 26)).length ≤ 16777216 := by
      have : (Str.ofString "abcdef").length = 6 := rfl
      rw [Str.length_append]; omega
    have nl : ((names st j).map D.str).length ≤ 64 := by unfold names; rw [List.length_map, List.length_map, List.length_range]; omega
    by_cases c : j < 26
    · have c' : ((j : Nat) : Int) < 26 := by omega
      have x1 := ix_abc c
      have p3 := pick3 (lt j) (by rw [if_pos c])
      rw [tk]
      ((try walk_at "zs"); repeat (simp only [c', x1, e2, e3, x2, x3, p3]; (try walk_at "zs")))
      exact ⟨by decide, by omega, l6, by omega, _, _, _, rfl⟩
    · have c' : ¬ ((j : Nat) : Int) < 26 := by omega
      have e4 : ((j / 26 : Nat) : Int) - 1 = ((j / 26 - 1 : Nat) : Int) := by omega
      have x4 := ix_abc (j := j / 26 - 1) (by omega)
      have p3 := pick3 (lt (j / 26 - 1) ++ lt (j % 26)) (by rw [if_neg c])
      rw [tk]
      ((try walk_at "zs"); repeat (simp only [c', e2, e3, e4, x2, x3, x4, p3]; (try walk_at "zs")))
      exact ⟨by decide, by omega, by decide, by omega, l6, by omega, _, _, _, rfl⟩
  · rintro s ⟨v5, v6, v7, rfl⟩
    rw [rng_len]
    walk_at "zs"
    refine w_shuf t1 (by unfold names; simp; omega) (by omega) fun es μ2 pm t2 => ?_
    obtain ⟨ys, rfl, pq⟩ := map_perm pm
    walk_at "zs"
    have nd : (names st m).Nodup := by rw [names_take hm]; exact (names_nd st hst).sublist (List.take_sublist _ _)
    have it : ∀ z ∈ names st m, Itm z := fun z hz => by rw [names_take hm] at hz; exact names_itm st hst z (List.mem_of_mem_take hz)
    have nlen : (names st m).length = m := by unfold names; simp
    refine q ys _ (pq.nodup_iff.mpr nd) (fun z hz => it z (pq.mem_iff.mp hz)) (by rw [pq.length_eq, nlen]) (t2.mono (by rw [List.length_map, nlen]; omega))
/-! ### what a record does to a list -/
theorem cut_mid {α : Type} {xs : List α} {j : Nat} : cutL xs (some ((j : Nat) : Int)) (some ((j : Int) + 1)) = (xs.drop j).take 1 := by
  have e1 : (j : Int) + 1 = ((j + 1 : Nat) : Int) := by omega
  unfold cutL
  rw [e1, HT.sIx_nat, HT.sIx_nat]
  by_cases h : j < xs.length
  · rw [Nat.min_eq_left (by omega), Nat.min_eq_left (by omega), show j + 1 - j = 1 by omega]
  · rw [Nat.min_eq_right (by omega), Nat.min_eq_right (by omega), List.drop_length, List.drop_eq_nil_of_le (by omega)]; simp
abbrev Lks (μ : List D) (d : D) (k : Nat) (z : Str) (i : Nat) : Prop := ∀ env, peek ⟨env, μ⟩ (.v d) = some (rcD k z (i : Nat))
theorem att_hi4 {k : Nat} (hk : k < 4) {z : Str} {v : Int} : attD at_held_item ct_held_item "held_item" (rcD k z v) = some (.str z) := by
  match k, hk with
  | 0, _ => exact look_i (v := v)
  | 1, _ => exact look_i (v := v)
  | 2, _ => exact look_i (v := v)
  | 3, _ => exact look_i (v := v)
theorem att_hs4 {k : Nat} (hk : k < 4) {z : Str} {v : Int} : attD at_held_slot ct_held_slot "held_slot" (rcD k z v) = some (.int v) := by
  match k, hk with
  | 0, _ => exact look_s (z := z)
  | 1, _ => exact look_s (z := z)
  | 2, _ => exact look_s (z := z)
  | 3, _ => exact look_s (z := z)
theorem w_stands {k i : Nat} {d : D} {z : Str} {zs : List Str} {μ : List D} {Q : Rs → List D → Prop} {X : XF} (hk : k < 4) (pk : Lks μ d k z i) {e : D} (pl : Lk μ e (.list (zs.map D.str)))  (q : Q (.v (.bl (decide (z ∈ (zs.drop i).take 1)))) μ) : Wf (F_Record_stands [d, e] μ) Q X := by
  have pl2 := fun env => pl env
  refine wf_run rfl ?_
  show Ws (T_Record_stands ⟨[some (.s d), some (.s e)], μ⟩) _
  unfold T_Record_stands
  have pk := fun env => pk env
  have cu : cutL (zs.map D.str) (some ((i : Nat) : Int)) (some ((i : Int) + 1)) = ((zs.drop i).take 1).map D.str := by rw [cut_mid, List.map_take, List.map_drop]
  ((try walk_at "zs"); repeat (simp only [pl2, pk, att_hi4 hk, att_hs4 hk, slL_list, cu, vIn_strs]; (try walk_at "zs")))
  exact q
theorem w_has_room {k i : Nat} {d : D} {z : Str} {zs : List Str} {μ : List D} {Q : Rs → List D → Prop} {X : XF} (hk : k < 4) (pk : Lks μ d k z i) {e : D} (pl : Lk μ e (.list (zs.map D.str)))  (q : Q (.v (.bl (decide (zs.length < 60) && (!decide (z ∈ zs) && decide (i ≤ zs.length))))) μ) : Wf (F_Record_has_room [d, e] μ) Q X := by
  have pl2 := fun env => pl env
  refine wf_run rfl ?_
  show Ws (T_Record_has_room ⟨[some (.s d), some (.s e)], μ⟩) _
  unfold T_Record_has_room
  have pk := fun env => pk env
  ((try walk_at "zs"); repeat (simp only [pl2, pk, att_hi4 hk, att_hs4 hk, vNotIn_strs, List.length_map]; (try walk_at "zs")))
  by_cases c1 : zs.length < 60
  · rw [if_pos (by omega)]
    rw [decide_eq_true c1] at q
    by_cases c2 : z ∈ zs
    · rw [if_neg (fun h => h c2)]
      rw [decide_eq_true c2] at q
      exact q
    · rw [if_pos c2]
      rw [decide_eq_false c2] at q
      have e : decide ((i : Int) ≤ (zs.length : Int)) = decide (i ≤ zs.length) := decide_eq_decide.mpr (by omega)
      rw [e]
      simpa using q
  · rw [if_neg (by omega)]
    rw [decide_eq_false c1] at q
    exact q
theorem w_put_in {k i : Nat} {d : D} {z : Str} {zs : List Str} {μ : List D} {Q : Rs → List D → Prop} {X : XF} (hk : k < 4) (pk : Lks μ d k z i) {e : D} (pl : Lk μ e (.list (zs.map D.str)))  (hl : zs.length ≤ 60) (q : Q (.fr (.list ((zs.take i ++ [z] ++ zs.drop i).map D.str))) μ) : Wf (F_Record_put_in [d, e] μ) Q X := by
  have pl2 := fun env => pl env
  refine wf_run rfl ?_
  show Ws (T_Record_put_in ⟨[some (.s d), some (.s e)], μ⟩) _
  unfold T_Record_put_in
  have pk := fun env => pk env
  have c1 : cutL (zs.map D.str) none (some ((i : Nat) : Int)) = (zs.take i).map D.str := by rw [cutL_to, List.map_take]
  have c2 : cutL (zs.map D.str) (some ((i : Nat) : Int)) none = (zs.drop i).map D.str := by rw [cutL_from, List.map_drop]
  ((try walk_at "zs"); repeat (simp only [pl2, pk, att_hi4 hk, att_hs4 hk, slL_list, c1, c2]; (try walk_at "zs")))
  have e : (zs.take i).map D.str ++ D.str z :: ((zs.drop i).map D.str ++ []) = (zs.take i ++ [z] ++ zs.drop i).map D.str := by simp
  rw [e, if_pos (by rw [List.length_map, List.length_append, List.length_append, List.length_take, List.length_drop, List.length_singleton]; omega)]
  exact q
theorem w_others {k i : Nat} {d : D} {z : Str} {zs : List Str} {μ : List D} {Q : Rs → List D → Prop} {X : XF} (hk : k < 4) (pk : Lks μ d k z i) {e : D} (pl : Lk μ e (.list (zs.map D.str))) (hl : zs.length ≤ 60) (q : Q (.fr (.list ((zs.filter fun y => !decide (y = z)).map D.str))) μ) : Wf (F_Record_others [d, e] μ) Q X := by
  refine wf_run rfl ?_
  show Ws (T_Record_others ⟨[some (.s d), some (.s e), none], μ⟩) _
  unfold T_Record_others
  have pk := fun env => pk env
  have pl2 := fun env => pl env
  ((try walk_at "zs"); repeat (simp only [pl2]; (try walk_at "zs")))
  refine wp_LcC ?_
  ((try walk_at "zs"); repeat (simp only [pl2]; (try walk_at "zs")))
  refine ⟨by rw [List.length_map]; omega, lc_filterC pl.chk D.str (fun y => !decide (y = z)) (fun y hy => ?_) ?_⟩
  · ((try walk_at "zs"); repeat (simp only [pk, att_hi4 hk]; (try walk_at "zs")))
    split <;> trivial
  · walk_at "zs"
    exact q
/-! ### by kinds -/
theorem n_any {z : Str} {i : Int} {m : Str} (h1 : (m == ("held_item" : Str)) = false) (h2 : (m == ("held_slot" : Str)) = false) : List.lookup m [(("held_item" : Str), D.str z), ("held_slot", D.int i)] = none := by
  rw [lk_miss h1, lk_miss h2]; rfl
theorem n_room {z : Str} {i : Int} : List.lookup (Str.ofString "has_room") [(("held_item" : Str), D.str z), ("held_slot", D.int i)] = none := n_any (by decide +kernel) (by decide +kernel)
theorem n_stands {z : Str} {i : Int} : List.lookup (Str.ofString "stands") [(("held_item" : Str), D.str z), ("held_slot", D.int i)] = none := n_any (by decide +kernel) (by decide +kernel)
theorem n_others {z : Str} {i : Int} : List.lookup (Str.ofString "others") [(("held_item" : Str), D.str z), ("held_slot", D.int i)] = none := n_any (by decide +kernel) (by decide +kernel)
theorem n_put_in {z : Str} {i : Int} : List.lookup (Str.ofString "put_in") [(("held_item" : Str), D.str z), ("held_slot", D.int i)] = none := n_any (by decide +kernel) (by decide +kernel)
theorem n_ca {z : Str} {i : Int} : List.lookup (Str.ofString "can_apply") [(("held_item" : Str), D.str z), ("held_slot", D.int i)] = none := n_any (by decide +kernel) (by decide +kernel)
theorem n_ce {z : Str} {i : Int} : List.lookup (Str.ofString "can_end") [(("held_item" : Str), D.str z), ("held_slot", D.int i)] = none := n_any (by decide +kernel) (by decide +kernel)
theorem n_af {z : Str} {i : Int} : List.lookup (Str.ofString "after") [(("held_item" : Str), D.str z), ("held_slot", D.int i)] = none := n_any (by decide +kernel) (by decide +kernel)
theorem n_be {z : Str} {i : Int} : List.lookup (Str.ofString "before") [(("held_item" : Str), D.str z), ("held_slot", D.int i)] = none := n_any (by decide +kernel) (by decide +kernel)
theorem n_ap {z : Str} {i : Int} : List.lookup (Str.ofString "applies") [(("held_item" : Str), D.str z), ("held_slot", D.int i)] = none := n_any (by decide +kernel) (by decide +kernel)
def roomB' (z : Str) (i : Nat) (zs : List Str) : Bool := decide (zs.length < 60) && (!decide (z ∈ zs) && decide (i ≤ zs.length))
def stB (z : Str) (i : Nat) (zs : List Str) : Bool := decide (z ∈ (zs.drop i).take 1)
def othL (z : Str) (zs : List Str) : List Str := zs.filter fun y => !decide (y = z)
def putL (z : Str) (i : Nat) (zs : List Str) : List Str := zs.take i ++ [z] ++ zs.drop i
def caB (k : Nat) (z : Str) (i : Nat) (zs : List Str) : Bool := if k = 0 then roomB' z i zs else if k = 3 then false else stB z i zs
def ceB (k : Nat) (z : Str) (i : Nat) (zs : List Str) : Bool := if k = 0 then stB z i zs else if k = 1 then roomB' z i zs else if k = 2 then decide (z ∈ zs.take 1) && decide (i < zs.length) else false
def afL (k : Nat) (z : Str) (i : Nat) (zs : List Str) : List Str := if k = 0 then putL z i zs else if k = 1 then othL z zs else if k = 2 then z :: othL z zs else zs
def beL (k : Nat) (z : Str) (i : Nat) (zs : List Str) : List Str := if k = 0 then othL z zs else if k = 1 then putL z i zs else if k = 2 then putL z i (othL z zs) else zs
theorem oth_len {z : Str} {zs : List Str} : (othL z zs).length ≤ zs.length := List.length_filter_le _ _
theorem m_ca {k i : Nat} {d : D} {z : Str} {zs : List Str} {μ : List D} (hk : k < 4) (pk : Lks μ d k z i) {e : D} (pl : Lk μ e (.list (zs.map D.str)))  : ∃ F, mt_can_apply k = some F ∧ ∀ (Q : Rs → List D → Prop) (X : XF), Q (.v (.bl (caB k z i zs))) μ → Wf (F [d, e] μ) Q X := by
  have pl2 := fun env => pl env
  have pe := fun env => pk env
  match k, hk, pk, pe with
  | 0, hk, pk, pe =>
    unfold rcD at pe
    refine ⟨_, rfl, fun Q X q => wf_run rfl ?_⟩
    show Ws (T_Inserted_can_apply ⟨[some (.s d), some (.s e)], μ⟩) _
    have mm : mt_has_room 0 = some F_Record_has_room := rfl
    have w := fun (Q' : Rs → List D → Prop) (X' : XF) => w_has_room (zs := zs) (Q := Q') (X := X') hk pk pl
    unfold T_Inserted_can_apply
    ((try walk_at "zs"); repeat (simp only [pl2, pe, mm, n_room]; (try walk_at "zs")))
    exact w _ _ q
  | 1, hk, pk, pe =>
    unfold rcD at pe
    refine ⟨_, rfl, fun Q X q => wf_run rfl ?_⟩
    show Ws (T_Removed_can_apply ⟨[some (.s d), some (.s e)], μ⟩) _
    have mm : mt_stands 1 = some F_Record_stands := rfl
    have w := fun (Q' : Rs → List D → Prop) (X' : XF) => w_stands (zs := zs) (Q := Q') (X := X') hk pk pl
    unfold T_Removed_can_apply
    ((try walk_at "zs"); repeat (simp only [pl2, pe, mm, n_stands]; (try walk_at "zs")))
    exact w _ _ q
  | 2, hk, pk, pe =>
    unfold rcD at pe
    refine ⟨_, rfl, fun Q X q => wf_run rfl ?_⟩
    show Ws (T_Fronted_can_apply ⟨[some (.s d), some (.s e)], μ⟩) _
    have mm : mt_stands 2 = some F_Record_stands := rfl
    have w := fun (Q' : Rs → List D → Prop) (X' : XF) => w_stands (zs := zs) (Q := Q') (X := X') hk pk pl
    unfold T_Fronted_can_apply
    ((try walk_at "zs"); repeat (simp only [pl2, pe, mm, n_stands]; (try walk_at "zs")))
    exact w _ _ q
  | 3, hk, pk, pe =>
    refine ⟨_, rfl, fun Q X q => wf_run rfl ?_⟩
    show Ws (T_Record_can_apply ⟨[some (.s d), some (.s e)], μ⟩) _
    unfold T_Record_can_apply
    ((try walk_at "zs"); repeat (simp only [pl2]; (try walk_at "zs")))
    exact q
theorem m_ce {k i : Nat} {d : D} {z : Str} {zs : List Str} {μ : List D} (hk : k < 4) (pk : Lks μ d k z i) {e : D} (pl : Lk μ e (.list (zs.map D.str)))  : ∃ F, mt_can_end k = some F ∧ ∀ (Q : Rs → List D → Prop) (X : XF), Q (.v (.bl (ceB k z i zs))) μ → Wf (F [d, e] μ) Q X := by
  have pl2 := fun env => pl env
  have pe := fun env => pk env
  match k, hk, pk, pe with
  | 0, hk, pk, pe =>
    unfold rcD at pe
    refine ⟨_, rfl, fun Q X q => wf_run rfl ?_⟩
    show Ws (T_Inserted_can_end ⟨[some (.s d), some (.s e)], μ⟩) _
    have mm : mt_stands 0 = some F_Record_stands := rfl
    have w := fun (Q' : Rs → List D → Prop) (X' : XF) => w_stands (zs := zs) (Q := Q') (X := X') hk pk pl
    unfold T_Inserted_can_end
    ((try walk_at "zs"); repeat (simp only [pl2, pe, mm, n_stands]; (try walk_at "zs")))
    exact w _ _ q
  | 1, hk, pk, pe =>
    unfold rcD at pe
    refine ⟨_, rfl, fun Q X q => wf_run rfl ?_⟩
    show Ws (T_Removed_can_end ⟨[some (.s d), some (.s e)], μ⟩) _
    have mm : mt_has_room 1 = some F_Record_has_room := rfl
    have w := fun (Q' : Rs → List D → Prop) (X' : XF) => w_has_room (zs := zs) (Q := Q') (X := X') hk pk pl
    unfold T_Removed_can_end
    ((try walk_at "zs"); repeat (simp only [pl2, pe, mm, n_room]; (try walk_at "zs")))
    exact w _ _ q
  | 2, hk, pk, pe =>
    refine ⟨_, rfl, fun Q X q => wf_run rfl ?_⟩
    show Ws (T_Fronted_can_end ⟨[some (.s d), some (.s e)], μ⟩) _
    unfold T_Fronted_can_end
    have c1 : cutL (zs.map D.str) none (some 1) = (zs.take 1).map D.str := by
      rw [cutL_map]; exact congrArg _ (cutL_to (i := 1))
    ((try walk_at "zs"); repeat (simp only [pl2, pe, att_hi4 hk, att_hs4 hk, slL_list, c1, vIn_strs, List.length_map]; (try walk_at "zs")))
    have q : Q (.v (.bl (decide (z ∈ zs.take 1) && decide (i < zs.length)))) μ := q
    by_cases c : z ∈ zs.take 1
    · rw [if_pos c]
      rw [decide_eq_true c, Bool.true_and] at q
      have e : decide ((i : Int) < (zs.length : Int)) = decide (i < zs.length) := decide_eq_decide.mpr (by omega)
      rw [e]
      exact q
    · rw [if_neg c]
      rw [decide_eq_false c] at q
      exact q
  | 3, hk, pk, pe =>
    refine ⟨_, rfl, fun Q X q => wf_run rfl ?_⟩
    show Ws (T_Record_can_end ⟨[some (.s d), some (.s e)], μ⟩) _
    unfold T_Record_can_end
    ((try walk_at "zs"); repeat (simp only [pl2]; (try walk_at "zs")))
    exact q
theorem m_af {k i : Nat} {d : D} {z : Str} {zs : List Str} {μ : List D} (hk : k < 4) (pk : Lks μ d k z i) {e : D} (pl : Lk μ e (.list (zs.map D.str)))  (hl : zs.length ≤ 60) : ∃ F, mt_after k = some F ∧ ∀ (Q : Rs → List D → Prop) (X : XF), Q (.fr (.list ((afL k z i zs).map D.str))) μ → Wf (F [d, e] μ) Q X := by
  have pl2 := fun env => pl env
  have pe := fun env => pk env
  match k, hk, pk, pe with
  | 0, hk, pk, pe =>
    unfold rcD at pe
    refine ⟨_, rfl, fun Q X q => wf_run rfl ?_⟩
    show Ws (T_Inserted_after ⟨[some (.s d), some (.s e)], μ⟩) _
    have mm : mt_put_in 0 = some F_Record_put_in := rfl
    have w := fun (Q' : Rs → List D → Prop) (X' : XF) => w_put_in (zs := zs) (Q := Q') (X := X') hk pk pl hl
    unfold T_Inserted_after
    ((try walk_at "zs"); repeat (simp only [pl2, pe, mm, n_put_in]; (try walk_at "zs")))
    exact w _ _ q
  | 1, hk, pk, pe =>
    unfold rcD at pe
    refine ⟨_, rfl, fun Q X q => wf_run rfl ?_⟩
    show Ws (T_Removed_after ⟨[some (.s d), some (.s e)], μ⟩) _
    have mm : mt_others 1 = some F_Record_others := rfl
    have w := fun (Q' : Rs → List D → Prop) (X' : XF) => w_others (zs := zs) (Q := Q') (X := X') hk pk pl hl
    unfold T_Removed_after
    ((try walk_at "zs"); repeat (simp only [pl2, pe, mm, n_others]; (try walk_at "zs")))
    exact w _ _ q
  | 2, hk, pk, pe =>
    unfold rcD at pe
    refine ⟨_, rfl, fun Q X q => wf_run rfl ?_⟩
    show Ws (T_Fronted_after ⟨[some (.s d), some (.s e)], μ⟩) _
    have mm : mt_others 2 = some F_Record_others := rfl
    have w := fun (Q' : Rs → List D → Prop) (X' : XF) => w_others (zs := zs) (Q := Q') (X := X') hk pk pl hl
    have ah := att_hi4 hk (z := z) (v := (i : Int))
    unfold rcD at ah
    unfold T_Fronted_after
    ((try walk_at "zs"); repeat (simp only [pl2, pe, mm, n_others, ah]; (try walk_at "zs")))
    refine w _ _ ?_
    ((try walk_at "zs"); repeat (simp only [pl2]; (try walk_at "zs")))
    have e : D.str z :: ((zs.filter fun y => !decide (y = z)).map D.str ++ []) = (z :: othL z zs).map D.str := by rw [List.append_nil]; rfl
    rw [e, if_pos (by rw [List.append_nil, List.length_map]; have := oth_len (z := z) (zs := zs); unfold othL at this; omega)]
    exact q
  | 3, hk, pk, pe =>
    refine ⟨_, rfl, fun Q X q => wf_run rfl ?_⟩
    show Ws (T_Record_after ⟨[some (.s d), some (.s e)], μ⟩) _
    unfold T_Record_after
    ((try walk_at "zs"); repeat (simp only [pl2]; (try walk_at "zs")))
    exact q
theorem m_be {k i : Nat} {d : D} {z : Str} {zs : List Str} {μ : List D} (hk : k < 4) (pk : Lks μ d k z i) {e : D} (pl : Lk μ e (.list (zs.map D.str)))  (hl : zs.length ≤ 60) : ∃ F, mt_before k = some F ∧ ∀ (Q : Rs → List D → Prop) (X : XF), Q (.fr (.list ((beL k z i zs).map D.str))) μ → Wf (F [d, e] μ) Q X := by
  have pl2 := fun env => pl env
  have pe := fun env => pk env
  match k, hk, pk, pe with
  | 0, hk, pk, pe =>
    unfold rcD at pe
    refine ⟨_, rfl, fun Q X q => wf_run rfl ?_⟩
    show Ws (T_Inserted_before ⟨[some (.s d), some (.s e)], μ⟩) _
    have mm : mt_others 0 = some F_Record_others := rfl
    have w := fun (Q' : Rs → List D → Prop) (X' : XF) => w_others (zs := zs) (Q := Q') (X := X') hk pk pl hl
    unfold T_Inserted_before
    ((try walk_at "zs"); repeat (simp only [pl2, pe, mm, n_others]; (try walk_at "zs")))
    exact w _ _ q
  | 1, hk, pk, pe =>
    unfold rcD at pe
    refine ⟨_, rfl, fun Q X q => wf_run rfl ?_⟩
    show Ws (T_Removed_before ⟨[some (.s d), some (.s e)], μ⟩) _
    have mm : mt_put_in 1 = some F_Record_put_in := rfl
    have w := fun (Q' : Rs → List D → Prop) (X' : XF) => w_put_in (zs := zs) (Q := Q') (X := X') hk pk pl hl
    unfold T_Removed_before
    ((try walk_at "zs"); repeat (simp only [pl2, pe, mm, n_put_in]; (try walk_at "zs")))
    exact w _ _ q
  | 2, hk, pk, pe =>
    unfold rcD at pe
    refine ⟨_, rfl, fun Q X q => wf_run rfl ?_⟩
    show Ws (T_Fronted_before ⟨[some (.s d), some (.s e)], μ⟩) _
    have mm : mt_others 2 = some F_Record_others := rfl
    have mp : mt_put_in 2 = some F_Record_put_in := rfl
    have w := fun (Q' : Rs → List D → Prop) (X' : XF) => w_others (zs := zs) (Q := Q') (X := X') hk pk pl hl
    have w2 := fun (Q' : Rs → List D → Prop) (X' : XF) => w_put_in (zs := othL z zs) (Q := Q') (X := X') hk pk lk_list (Nat.le_trans oth_len hl)
    unfold T_Fronted_before
    ((try walk_at "zs"); repeat (simp only [pl2, pe, mm, mp, n_others, n_put_in]; (try walk_at "zs")))
    refine w _ _ ?_
    ((try walk_at "zs"); repeat (simp only [pl2]; (try walk_at "zs")))
    exact w2 _ _ q
  | 3, hk, pk, pe =>
    refine ⟨_, rfl, fun Q X q => wf_run rfl ?_⟩
    show Ws (T_Record_before ⟨[some (.s d), some (.s e)], μ⟩) _
    unfold T_Record_before
    ((try walk_at "zs"); repeat (simp only [pl2]; (try walk_at "zs")))
    exact q
/-- known names -/
structure Knw (zs : List Str) : Prop where
  nd : zs.Nodup
  itm : ∀ z ∈ zs, Itm z
  few : zs.length ≤ 60
theorem w_are_items {zs : List Str} {d : D} {μ : List D} {Q : Rs → List D → Prop} {X : XF} (kn : Knw zs) (pk : Lk μ d (.list (zs.map D.str))) (q : Q (.v (.bl true)) μ) : Wf (F_are_items [d] μ) Q X := by
  have few := kn.few
  refine wf_run rfl ?_
  show Ws (T_are_items ⟨[some (.s d), none], μ⟩) _
  unfold T_are_items
  have pp := fun env => pk env
  ((try walk_at "zs"); repeat (simp only [pp, isi_ll]; (try walk_at "zs")))
  rw [if_neg (by rw [List.length_map]; omega)]
  refine wp_LcC ?_
  ((try walk_at "zs"); repeat (simp only [pp]; (try walk_at "zs")))
  refine ⟨by rw [List.length_map]; omega, lc_allC pk.chk D.str (fun _ => .bl true) (fun z hz => ?_) ?_⟩
  · walk_at "zs"
    refine w_is_item (kn.itm z hz).sz ?_
    rw [show itemB z = true from kn.itm z hz]
    walk_at "zs"
  · have el := lenSet_nd kn.nd (by omega)
    ((try walk_at "zs"); repeat (simp only [pp]; (try walk_at "zs")))
    rw [all_map (p := fun _ => true), List.all_eq_true.mpr fun _ _ => rfl]
    ((try walk_at "zs"); repeat (simp only [pp, el, List.length_map]; (try walk_at "zs")))
    exact q
theorem w_need_items {zs : List Str} {μ : List D} {Q : Rs → List D → Prop} {X : XF} (kn : Knw zs) {e : D} (pl : Lk μ e (.list (zs.map D.str)))  (q : Q (.v .non) μ) : Wf (F_need_items [e] μ) Q X := by
  have pl2 := fun env => pl env
  refine wf_run rfl ?_
  show Ws (T_need_items ⟨[some (.s e)], μ⟩) _
  unfold T_need_items
  ((try walk_at "zs"); repeat (simp only [pl2]; (try walk_at "zs")))
  refine w_are_items kn pl ?_
  ((try walk_at "zs"); repeat (simp only [pl2]; (try walk_at "zs")))
  exact q
theorem w_applies {k i : Nat} {d : D} {z : Str} {zs : List Str} {μ : List D} {Q : Rs → List D → Prop} {X : XF} (hk : k < 4) (pk : Lks μ d k z i) {e : D} (pl : Lk μ e (.list (zs.map D.str)))  (kn : Knw zs) (q : Q (.v (.bl (caB k z i zs))) μ) : Wf (F_Record_applies [d, e] μ) Q X := by
  have pl2 := fun env => pl env
  obtain ⟨F, mF, wF⟩ := m_ca (zs := zs) hk pk pl
  have pe := fun env => pk env
  unfold rcD at pe
  refine wf_run rfl ?_
  show Ws (T_Record_applies ⟨[some (.s d), some (.s e)], μ⟩) _
  unfold T_Record_applies
  ((try walk_at "zs"); repeat (simp only [pl2]; (try walk_at "zs")))
  refine w_need_items kn pl ?_
  ((try walk_at "zs"); repeat (simp only [pl2, pe, mF, n_ca]; (try walk_at "zs")))
  exact wF _ _ q
theorem m_ap {k : Nat} (hk : k < 4) : mt_applies k = some F_Record_applies := by
  match k, hk with
  | 0, _ => rfl
  | 1, _ => rfl
  | 2, _ => rfl
  | 3, _ => rfl
theorem w_applied {k i : Nat} {d : D} {z : Str} {zs : List Str} {μ : List D} {Q : Rs → List D → Prop} {X : XF} (hk : k < 4) (pk : Lks μ d k z i) {e : D} (pl : Lk μ e (.list (zs.map D.str)))  (kn : Knw zs) (h : caB k z i zs = true) (q : Q (.fr (.list ((afL k z i zs).map D.str))) μ) : Wf (F_Record_applied [d, e] μ) Q X := by
  have pl2 := fun env => pl env
  obtain ⟨F, mF, wF⟩ := m_af (zs := zs) hk pk pl kn.few
  have pe := fun env => pk env
  unfold rcD at pe
  have wa := fun (Q' : Rs → List D → Prop) (X' : XF) => w_applies (zs := zs) (Q := Q') (X := X') hk pk pl kn
  rw [h] at wa
  refine wf_run rfl ?_
  show Ws (T_Record_applied ⟨[some (.s d), some (.s e)], μ⟩) _
  unfold T_Record_applied
  ((try walk_at "zs"); repeat (simp only [pl2, pe, m_ap hk, n_ap]; (try walk_at "zs")))
  refine wa _ _ ?_
  ((try walk_at "zs"); repeat (simp only [pl2, pe, mF, n_af]; (try walk_at "zs")))
  exact wF _ _ q
theorem w_taken_back {k i : Nat} {d : D} {z : Str} {zs : List Str} {μ : List D} {Q : Rs → List D → Prop} {X : XF} (hk : k < 4) (pk : Lks μ d k z i) {e : D} (pl : Lk μ e (.list (zs.map D.str)))  (kn : Knw zs) (h : ceB k z i zs = true) (q : Q (.fr (.list ((beL k z i zs).map D.str))) μ) : Wf (F_Record_taken_back [d, e] μ) Q X := by
  have pl2 := fun env => pl env
  obtain ⟨F, mF, wF⟩ := m_be (zs := zs) hk pk pl kn.few
  obtain ⟨F2, mF2, wF2⟩ := m_ce (zs := zs) hk pk pl
  have pe := fun env => pk env
  unfold rcD at pe
  rw [h] at wF2
  refine wf_run rfl ?_
  show Ws (T_Record_taken_back ⟨[some (.s d), some (.s e)], μ⟩) _
  unfold T_Record_taken_back
  ((try walk_at "zs"); repeat (simp only [pl2]; (try walk_at "zs")))
  refine w_need_items kn pl ?_
  ((try walk_at "zs"); repeat (simp only [pl2, pe, mF2, n_ce]; (try walk_at "zs")))
  refine wF2 _ _ ?_
  ((try walk_at "zs"); repeat (simp only [pl2, pe, mF, n_be]; (try walk_at "zs")))
  exact wF _ _ q
theorem lt_low : ∀ k ∈ letters, 97 ≤ k ∧ k ≤ 122 := by decide +kernel
theorem itm_ok {z : Str} (h : Itm z) : PyData.strOk z = true := by
  unfold Itm itemB at h
  simp only [Bool.and_eq_true, List.all_eq_true, decide_eq_true_eq] at h
  unfold PyData.strOk
  rw [← Array.all_toList, List.all_eq_true]
  intro c hc
  have := lt_low c (h.2 c hc)
  exact decide_eq_true (by omega)
theorem toPs_map {α : Type} {f : α → D} {g : α → PyData} (h : ∀ x, toP (f x) = some (g x)) : ∀ {xs : List α}, toPs (xs.map f) = some (xs.map g)
  | [] => rfl
  | x :: xs => by
    rw [List.map_cons, toPs, h x, toPs_map h]; rfl
/-! ### equal data -/
theorem okD_str {z : Str} {n : Nat} (h : Itm z) : okD n (.str z) := okD.str (itm_ok h)
theorem shp {d : PyData} {n : Nat} (h : okD n d) (hn : n ≤ 64 := by decide) : SeqAt.shaped d = true := h.shaped hn
theorem okD_strs {zs : List Str} (h : ∀ z ∈ zs, Itm z) : okD 1 (.list (zs.map .str)) := okD.list (n := 0) fun d hd => by
  obtain ⟨p, hp, rfl⟩ := List.mem_map.mp hd
  exact okD_str (h p hp)
theorem eqv_strs : ∀ r s : List Str, PyData.eqvAll (r.map .str) (s.map .str) = decide (r = s)
  | [], [] => rfl
  | [], _ :: _ => rfl
  | _ :: _, [] => rfl
  | i :: r, j :: s => by
    show (PyData.eqv (.str i) (.str j) && PyData.eqvAll (r.map .str) (s.map .str)) = _
    rw [eqv_strs r s]
    have e1 : PyData.eqv (.str i) (.str j) = decide (i = j) := by
      show (i == j) = _
      rw [Bool.eq_iff_iff]; simp
    rw [e1, Bool.eq_iff_iff]; simp
theorem toP_list {α : Type} {f : α → D} {g : α → PyData} (h : ∀ x, toP (f x) = some (g x)) {xs : List α} : toP (.list (xs.map f)) = some (.list (xs.map g)) := by rw [toP, toPs_map h]; rfl
theorem eq_strs {xs ys : List Str} (hx : ∀ z ∈ xs, Itm z) (hy : ∀ z ∈ ys, Itm z) : vEq (.list (xs.map D.str)) (.list (ys.map D.str)) = some (.v (.bl (decide (xs = ys)))) := by
  have e : eqA (.list (xs.map D.str)) (.list (ys.map D.str)) = some (decide (xs = ys)) := by
    show (if (xs.map D.str).length = (ys.map D.str).length then eqD (.list (xs.map D.str)) (.list (ys.map D.str)) else some false) = _
    by_cases l : (xs.map D.str).length = (ys.map D.str).length
    · rw [if_pos l]
      unfold eqD
      rw [toP_list (g := .str) fun _ => rfl, toP_list (g := .str) fun _ => rfl]
      simp only
      rw [if_pos (by rw [shp (okD_strs hx), shp (okD_strs hy)]; rfl)]
      congr 1
      exact eqv_strs xs ys
    · rw [if_neg l]
      have : xs ≠ ys := fun z => l (by rw [z])
      simp [this]
  show (eqA _ _).map _ = _
  rw [e]; rfl
/-- a thing is equal to itself -/
theorem eqL_self {xs : List D} {ps : List PyData} {n : Nat} (h : toPs xs = some ps) (ok : okD n (.list ps)) (hn : n ≤ 64 := by decide) : eqA (.list xs) (.list xs) = some true := by
  show (if xs.length = xs.length then eqD (.list xs) (.list xs) else some false) = _
  rw [if_pos rfl]
  unfold eqD
  rw [toP, h]
  simp only [Option.map_some]
  rw [if_pos (by rw [shp ok hn]; rfl), SeqAt.eqv_refl _ ok.1]
/-! ### what the law finds -/
theorem mem_take1 {z : Str} {zs : List Str} : z ∈ zs.take 1 ↔ zs[0]? = some z := by
  cases zs with
  | nil => simp
  | cons y ys => simp [eq_comm]
theorem mem_mid {z : Str} {i : Nat} {zs : List Str} : z ∈ (zs.drop i).take 1 ↔ zs[i]? = some z := by
  rw [mem_take1, List.getElem?_drop, Nat.add_zero]
theorem fil_none {z : Str} {l : List Str} (h : z ∉ l) : (l.filter fun y => !decide (y = z)) = l := List.filter_eq_self.mpr fun y hy => by
  have : y ≠ z := fun e => h (e ▸ hy)
  simp [this]
theorem oth_at {z : Str} {i : Nat} {zs : List Str} (nd : zs.Nodup) (h : zs[i]? = some z) : othL z zs = zs.take i ++ zs.drop (i + 1) := by
  obtain ⟨hi, e⟩ := List.getElem?_eq_some_iff.mp h
  have ez : zs = zs.take i ++ z :: zs.drop (i + 1) := by rw [← e, ← List.drop_eq_getElem_cons hi, List.take_append_drop]
  have nd2 := nd
  rw [ez] at nd2
  have n3 := List.nodup_append.mp nd2
  have n1 : z ∉ zs.take i := fun h => n3.2.2 z h z (List.mem_cons_self ..) rfl
  have n2 : z ∉ zs.drop (i + 1) := (List.nodup_cons.mp n3.2.1).1
  unfold othL
  conv => lhs; rw [ez]
  rw [List.filter_append, fil_none n1, List.filter_cons_of_neg (by simp), fil_none n2]
theorem ne_sd {a b : Str} : vNe (.str a) (.str b) = some (.v (.bl (!decide (a = b)))) := rfl
theorem take1_eq {l : List Str} {z : Str} : l.take 1 = [z] ↔ z ∈ l.take 1 := by
  cases l with
  | nil => simp
  | cons y ys => simp [eq_comm]
theorem w_undone {k i : Nat} {z : Str} {zs : List Str} {μ : List D} {Q : Rs → List D → Prop} {X : XF} (hk : k < 4) (kn : Knw zs) {e : D} (pl : Lk μ e (.list (zs.map D.str)))  (hz : Itm z) (q1 : ceB k z i zs = true → Q (.fr (.list ((beL k z i zs).map D.str))) μ) (q0 : ceB k z i zs = false → Q (.v .non) μ) : Wf (F_law_undone [.int (k : Nat), .str z, .int (i : Nat), e] μ) Q X := by
  have pl2 := fun env => pl env
  have few := kn.few
  refine wf_run rfl ?_
  show Ws (T_law_undone ⟨[some (.s (.int (k : Nat))), some (.s (.str z)), some (.s (.int (i : Nat))), some (.s e)], μ⟩) _
  unfold T_law_undone
  have c1 : cutL (zs.map D.str) none (some ((i : Nat) : Int)) = (zs.take i).map D.str := by rw [cutL_to, List.map_take]
  have c2 : cutL (zs.map D.str) (some ((i : Nat) : Int)) none = (zs.drop i).map D.str := by rw [cutL_from, List.map_drop]
  have ei : (i : Int) + 1 = ((i + 1 : Nat) : Int) := by omega
  have c3 : cutL (zs.map D.str) (some ((i : Int) + 1)) none = (zs.drop (i + 1)).map D.str := by rw [ei, cutL_from, List.map_drop]
  have cm : cutL (zs.map D.str) (some ((i : Nat) : Int)) (some ((i : Int) + 1)) = ((zs.drop i).take 1).map D.str := by rw [cut_mid, List.map_take, List.map_drop]
  have c0 : cutL (zs.map D.str) none (some 1) = (zs.take 1).map D.str := by
    rw [cutL_map]; exact congrArg _ (cutL_to (i := 1))
  have tl : ((zs.take i).map D.str).length ≤ 60 := by rw [List.length_map, List.length_take]; omega
  have dl : ((zs.drop i).map D.str).length ≤ 60 := by rw [List.length_map, List.length_drop]; omega
  have dl1 : ((zs.drop (i + 1)).map D.str).length ≤ 60 := by rw [List.length_map, List.length_drop]; omega
  have hz1 : ∀ y ∈ [z], Itm y := fun y hy => by rw [List.mem_singleton.mp hy]; exact hz
  have em : vEq (.list (((zs.drop i).take 1).map D.str)) (.list [.str z]) = some (.v (.bl (decide (z ∈ (zs.drop i).take 1)))) := by
    have := eq_strs (xs := (zs.drop i).take 1) (ys := [z]) (fun y hy => kn.itm y (List.mem_of_mem_drop (List.mem_of_mem_take hy))) hz1
    rw [show decide ((zs.drop i).take 1 = [z]) = decide (z ∈ (zs.drop i).take 1) from decide_eq_decide.mpr take1_eq] at this
    exact this
  have e0 : vNe (.list ((zs.take 1).map D.str)) (.list [.str z]) = some (.v (.bl (!decide (z ∈ zs.take 1)))) := by
    have := eq_strs (xs := zs.take 1) (ys := [z]) (fun y hy => kn.itm y (List.mem_of_mem_take hy)) hz1
    rw [show decide (zs.take 1 = [z]) = decide (z ∈ zs.take 1) from decide_eq_decide.mpr take1_eq] at this
    have h2 : (eqA (.list ((zs.take 1).map D.str)) (.list [.str z])).map (fun b => Rs.v (.bl b)) = some (.v (.bl (decide (z ∈ zs.take 1)))) := this
    obtain ⟨b, hb, hb2⟩ := Option.map_eq_some_iff.mp h2
    show (eqA _ _).map _ = _
    rw [hb]
    cases hb2
    rfl
  ((try walk_at "zs"); repeat (simp only [pl2, vIn_strs, List.length_map, slL_list, cm, em]; (try walk_at "zs")))
  by_cases k0 : k = 0
  · subst k0
    have z0 : ((0 : Nat) : Int) = 0 := rfl
    rw [if_pos z0]
    by_cases a1 : z ∈ (zs.drop i).take 1
    · have q := q1 (decide_eq_true a1)
      have eo := oth_at kn.nd (mem_mid.mp a1)
      have e : (zs.take i).map D.str ++ (zs.drop (i + 1)).map D.str = (othL z zs).map D.str := by rw [eo, List.map_append]
      rw [if_pos a1]
      ((try walk_at "zs"); repeat (simp only [pl2, slL_list, c1, c3]; (try walk_at "zs")))
      rw [e]
      exact ⟨by omega, q⟩
    · rw [if_neg a1]
      exact q0 (decide_eq_false a1)
  · have k0' : ¬ ((k : Nat) : Int) = 0 := by omega
    rw [if_neg k0']
    by_cases k1 : k = 1
    · subst k1
      have z1 : ((1 : Nat) : Int) = 1 := rfl
      rw [if_pos z1]
      have ca : ceB 1 z i zs = roomB' z i zs := rfl
      unfold roomB' at ca
      by_cases a1 : z ∈ zs
      · rw [if_pos a1]
        exact q0 (by rw [ca, decide_eq_true a1]; simp)
      · rw [if_neg a1]
        by_cases a2 : (zs.length : Int) < (i : Int)
        · rw [if_pos a2]
          have : ¬ i ≤ zs.length := by omega
          exact q0 (by rw [ca, decide_eq_false this]; simp)
        · rw [if_neg a2]
          by_cases a3 : (59 : Int) < (zs.length : Int)
          · rw [if_pos a3]
            have : ¬ zs.length < 60 := by omega
            exact q0 (by rw [ca, decide_eq_false this]; simp)
          · rw [if_neg a3]
            ((try walk_at "zs"); repeat (simp only [pl2, slL_list, c1, c2]; (try walk_at "zs")))
            have e : (zs.take i).map D.str ++ [D.str z] ++ (zs.drop i).map D.str = (putL z i zs).map D.str := by unfold putL; rw [List.map_append, List.map_append]; rfl
            rw [e]
            refine ⟨by omega, by rw [List.length_append, List.length_singleton]; omega, q1 ?_⟩
            rw [ca, decide_eq_false a1, decide_eq_true (show zs.length < 60 by omega), decide_eq_true (show i ≤ zs.length by omega)]; rfl
    · have k1' : ¬ (k : Int) = 1 := by omega
      rw [if_neg k1']
      by_cases k3 : (2 : Int) < (k : Int)
      · rw [if_pos k3]
        have : k = 3 := by omega
        subst this
        exact q0 rfl
      rw [if_neg k3]
      have k2 : k = 2 := by omega
      subst k2
      have ca : ceB 2 z i zs = (decide (z ∈ zs.take 1) && decide (i < zs.length)) := rfl
      by_cases a1 : z ∈ zs.take 1
      · by_cases a2 : i < zs.length
        · have q : Q (.fr (.list ((putL z i (othL z zs)).map D.str))) μ := q1 (by rw [ca, decide_eq_true a1, decide_eq_true a2]; rfl)
          have h0 := mem_take1.mp a1
          have eo := oth_at kn.nd h0
          rw [List.take_zero, List.nil_append] at eo
          have cr : cutL (zs.map D.str) (some 1) (some ((i : Int) + 1)) = ((zs.drop 1).take i).map D.str := by
            have hx : cutL zs (some ((1 : Nat) : Int)) (some (((i + 1 : Nat)) : Int)) = (zs.drop 1).take i := by
              unfold cutL
              rw [HT.sIx_nat, HT.sIx_nat, Nat.min_eq_left (by omega), Nat.min_eq_left (by omega), show i + 1 - 1 = i by omega]
            rw [cutL_map, ei]
            exact congrArg _ hx
          have e : ((zs.drop 1).take i).map D.str ++ [D.str z] ++ (zs.drop (i + 1)).map D.str = (putL z i (othL z zs)).map D.str := by
            rw [eo]
            unfold putL
            rw [List.map_append, List.map_append, List.drop_drop, show 1 + i = i + 1 by omega]; rfl
          have l1 : (((zs.drop 1).take i).map D.str).length ≤ 60 := by rw [List.length_map, List.length_take, List.length_drop]; omega
          have a3 : ¬ (zs.length : Int) ≤ (i : Int) := by omega
          have a4 : ¬ ((zs.map D.str).length : Int) ≤ (i : Int) := by rw [List.length_map]; omega
          ((try walk_at "zs"); repeat (simp only [pl2, c0, e0, a1, a3, a4, slL_list, cr, c3]; (try walk_at "zs")))
          rw [e]
          exact ⟨by omega, by rw [List.length_append, List.length_singleton]; omega, q⟩
        · ((try walk_at "zs"); repeat (simp only [pl2, c0, e0, a1]; (try walk_at "zs")))
          rw [if_pos (by rw [List.length_map]; omega)]
          exact q0 (by rw [ca, decide_eq_false a2]; simp)
      · ((try walk_at "zs"); repeat (simp only [pl2, c0, e0, a1]; (try walk_at "zs")))
        exact q0 (by rw [ca, decide_eq_false a1]; rfl)
/-! ### the two errors -/
theorem xm7 : xm_LogError 7 = some true := rfl
theorem xm14 : xm_LogError 14 = some true := rfl
abbrev x7 : D := .exc 7 []
abbrev x14 (z : Str) : D := .exc 14 [("reason", .str z)]
theorem f7a : bIsi kn [x7, .cl 5] = some (.v (.bl false)) := rfl
theorem f7b : bIsi kn [x7, .cl 6] = some (.v (.bl false)) := rfl
theorem f7c : bIsi kn [x7, .cl 7] = some (.v (.bl true)) := rfl
theorem f7d : bIsi kn [x7, .cl 8] = some (.v (.bl false)) := rfl
theorem f7e : bIsi kn [x7, .cl 14] = some (.v (.bl false)) := rfl
theorem f7f : bIsi kn [x7, .cl 16] = some (.v (.bl false)) := rfl
theorem f7g : bIsi kn [x7, .ty "ValueError"] = some (.v (.bl true)) := rfl
theorem f7h : bIsiT kn [x7, .tup [.cl 10, .cl 11, .cl 12, .cl 9, .cl 13, .cl 15]] = some (.v (.bl false)) := rfl
theorem f14a {z : Str} : bIsi kn [x14 z, .cl 5] = some (.v (.bl false)) := rfl
theorem f14b {z : Str} : bIsi kn [x14 z, .cl 6] = some (.v (.bl false)) := rfl
theorem f14c {z : Str} : bIsi kn [x14 z, .cl 7] = some (.v (.bl false)) := rfl
theorem f14d {z : Str} : bIsi kn [x14 z, .cl 8] = some (.v (.bl false)) := rfl
theorem f14e {z : Str} : bIsi kn [x14 z, .cl 14] = some (.v (.bl true)) := rfl
theorem f14f {z : Str} : bIsi kn [x14 z, .cl 16] = some (.v (.bl false)) := rfl
theorem f14g {z : Str} : bIsi kn [x14 z, .ty "ValueError"] = some (.v (.bl true)) := rfl
theorem f14h {z : Str} : bIsiT kn [x14 z, .tup [.cl 10, .cl 11, .cl 12, .cl 9, .cl 13, .cl 15]] = some (.v (.bl false)) := rfl
theorem peek_x {s : S} {c : Nat} {fs : List (Str × D)} : peek s (.v (.exc c fs)) = some (.exc c fs) := rfl
theorem at_x14 {z : Str} : attE at_reason "reason" (x14 z) = some (.str z) := by
  show List.lookup ("reason" : Str) [(("reason" : Str), D.str z)] = _
  exact lk_hit
theorem w_class7 {μ : List D} {Q : Rs → List D → Prop} {X : XF} (q : Q (.v (.str "list")) μ) : Wf (F_law_class [x7] μ) Q X := by
  refine wf_run rfl ?_
  show Ws (T_law_class ⟨[some (.s x7), none, none, none, none, none], μ⟩) _
  unfold T_law_class
  ((try walk_at "zs"); repeat (simp only [peek_x, f7a, f7b, f7c, f7d, f7e, f7f]; (try walk_at "zs")))
  refine ⟨by decide, ?_⟩
  refine wp_Lc ?_
  walk_at "zs"
  refine ⟨by decide, lc_each (xs := [(("item" : Str), false), ("index", false), ("list", true), ("log", false), ("impossible", false), ("text", false)]) (fun p : Str × Bool => D.tup [.str p.1, .bl p.2]) (fun p : Str × Bool => if p.2 = true then some (.str p.1) else none) (fun p hp => ?_) ?_⟩
  · walk_at "zs"
    cases p.2 with
    | true => simp
    | false => simp
  · rw [show List.filterMap (fun p : Str × Bool => if p.2 = true then some (D.str p.1) else none) [(("item" : Str), false), ("index", false), ("list", true), ("log", false), ("impossible", false), ("text", false)] = [D.str "list"] from rfl]
    ((try walk_at "zs"); repeat (simp only [peek_x, f7g, f7h, show atI [D.str "list"] 0 = some (.str "list") from rfl]; (try walk_at "zs")))
    exact q
theorem w_class14 {z : Str} {μ : List D} {Q : Rs → List D → Prop} {X : XF} (q : Q (.v (.str "impossible")) μ) : Wf (F_law_class [x14 z] μ) Q X := by
  refine wf_run rfl ?_
  show Ws (T_law_class ⟨[some (.s (x14 z)), none, none, none, none, none], μ⟩) _
  unfold T_law_class
  ((try walk_at "zs"); repeat (simp only [peek_x, f14a, f14b, f14c, f14d, f14e, f14f]; (try walk_at "zs")))
  refine ⟨by decide, ?_⟩
  refine wp_Lc ?_
  walk_at "zs"
  refine ⟨by decide, lc_each (xs := [(("item" : Str), false), ("index", false), ("list", false), ("log", false), ("impossible", true), ("text", false)]) (fun p : Str × Bool => D.tup [.str p.1, .bl p.2]) (fun p : Str × Bool => if p.2 = true then some (.str p.1) else none) (fun p hp => ?_) ?_⟩
  · walk_at "zs"
    cases p.2 with
    | true => simp
    | false => simp
  · rw [show List.filterMap (fun p : Str × Bool => if p.2 = true then some (D.str p.1) else none) [(("item" : Str), false), ("index", false), ("list", false), ("log", false), ("impossible", true), ("text", false)] = [D.str "impossible"] from rfl]
    ((try walk_at "zs"); repeat (simp only [peek_x, f14g, f14h, show atI [D.str "impossible"] 0 = some (.str "impossible") from rfl]; (try walk_at "zs")))
    exact q
/-! ### what is no list of items -/
theorem m_tb {k : Nat} (hk : k < 4) : mt_taken_back k = some F_Record_taken_back := by
  match k, hk with
  | 0, _ => rfl
  | 1, _ => rfl
  | 2, _ => rfl
  | 3, _ => rfl
theorem m_apd {k : Nat} (hk : k < 4) : mt_applied k = some F_Record_applied := by
  match k, hk with
  | 0, _ => rfl
  | 1, _ => rfl
  | 2, _ => rfl
  | 3, _ => rfl
theorem n_apd {z : Str} {i : Int} : List.lookup (Str.ofString "applied") [(("held_item" : Str), D.str z), ("held_slot", D.int i)] = none := n_any (by decide +kernel) (by decide +kernel)
theorem n_tb {z : Str} {i : Int} : List.lookup (Str.ofString "taken_back") [(("held_item" : Str), D.str z), ("held_slot", D.int i)] = none := n_any (by decide +kernel) (by decide +kernel)
theorem w_needX {d : D} {μ : List D} {Q : Rs → List D → Prop} {X : XF} (h : ∀ (Q' : Rs → List D → Prop) (X' : XF), Q' (.v (.bl false)) μ → Wf (F_are_items [d] μ) Q' X') (x : X ⟨7, []⟩ μ) : Wf (F_need_items [d] μ) Q X := by
  refine wf_run rfl ?_
  show Ws (T_need_items ⟨[some (.s d)], μ⟩) _
  unfold T_need_items
  walk_at "zs"
  refine h _ _ ?_
  walk_at "zs"
  exact x
def Bad (μ : List D) (d : D) : Prop := ∀ (Q' : Rs → List D → Prop) (X' : XF), Q' (.v (.bl false)) μ → Wf (F_are_items [d] μ) Q' X'
section
variable {k i : Nat} {z : Str} {zs : List Str} {μ : List D} {Q : Rs → List D → Prop} {X : XF} {e : D}
theorem w_tbX (hk : k < 4) (kn : Knw zs) (pl : Lk μ e (.list (zs.map D.str))) (h : ceB k z i zs = false) (x : X ⟨14, [("reason", .str z)]⟩ μ) : Wf (F_Record_taken_back [rcD k z (i : Nat), e] μ) Q X := by
  have pk : Lks μ (rcD k z (i : Nat)) k z i := fun _ => rfl
  have pe := fun env => pk env
  obtain ⟨F2, mF2, wF2⟩ := m_ce (zs := zs) hk pk pl
  rw [h] at wF2
  unfold rcD at pe wF2
  refine wf_run rfl ?_
  show Ws (T_Record_taken_back ⟨[some (.s (.obj k [("held_item", .str z), ("held_slot", .int (i : Nat))])), some (.s e)], μ⟩) _
  unfold T_Record_taken_back
  have ah := att_hi4 hk (z := z) (v := (i : Int))
  unfold rcD at ah
  walk_at "zs"
  refine w_need_items kn pl ?_
  ((try walk_at "zs"); repeat (simp only [pe, mF2, n_ce]; (try walk_at "zs")))
  refine wF2 _ _ ?_
  ((try walk_at "zs"); repeat (simp only [pe, ah]; (try walk_at "zs")))
  exact x
theorem w_tbL {d : D} (b : Bad μ d) (x : X ⟨7, []⟩ μ) : Wf (F_Record_taken_back [rcD k z (i : Nat), d] μ) Q X := by
  refine wf_run rfl ?_
  show Ws (T_Record_taken_back ⟨[some (.s (rcD k z (i : Nat))), some (.s d)], μ⟩) _
  unfold T_Record_taken_back
  walk_at "zs"
  refine w_needX b ?_
  (try walk_at "zs")
  exact x
def toldR (k : Nat) (z : Str) (i : Nat) (zs : List Str) : D := if ceB k z i zs = true then .list ((beL k z i zs).map D.str) else .tup [.str "impossible", .str z]
theorem w_told {by_ : Bool} (hk : k < 4) (kn : Knw zs) (pl : Lk μ e (.list (zs.map D.str))) (q : Q (.fr (toldR k z i zs)) μ) : Wf (F_law_told [rcD k z (i : Nat), e, .bl by_] μ) Q X := by
  have pk : Lks μ (rcD k z (i : Nat)) k z i := fun _ => rfl
  have wt := fun (Q' : Rs → List D → Prop) (X' : XF) => w_taken_back (zs := zs) (Q := Q') (X := X') hk pk pl kn
  have wx := fun (Q' : Rs → List D → Prop) (X' : XF) => w_tbX (z := z) (i := i) (Q := Q') (X := X') hk kn pl
  unfold toldR at q
  refine wf_run rfl ?_
  show Ws (T_law_told ⟨[some (.s (rcD k z (i : Nat))), some (.s e), some (.s (.bl by_)), none, none], μ⟩) _
  unfold T_law_told rcD
  unfold rcD at wt wx
  cases h : ceB k z i zs with
  | true =>
    rw [if_pos h] at q
    cases by_ with
    | true =>
      ((try walk_at "zs"); repeat (simp only [m_tb hk, n_tb]; (try walk_at "zs")))
      refine wt _ _ h ?_
      walk_at "zs"
      exact q
    | false =>
      ((try walk_at "zs"); repeat (simp only [m_tb hk, n_tb]; (try walk_at "zs")))
      refine wt _ _ h ?_
      walk_at "zs"
      exact q
  | false =>
    rw [if_neg (by rw [h]; exact Bool.false_ne_true)] at q
    cases by_ with
    | true =>
      ((try walk_at "zs"); repeat (simp only [m_tb hk, n_tb]; (try walk_at "zs")))
      refine wx _ _ h ?_
      ((try walk_at "zs"); repeat (simp only [xm14]; (try walk_at "zs")))
      refine w_class14 ?_
      ((try walk_at "zs"); repeat (simp only [peek_x, at_x14]; (try walk_at "zs")))
      exact q
    | false =>
      ((try walk_at "zs"); repeat (simp only [m_tb hk, n_tb]; (try walk_at "zs")))
      refine wx _ _ h ?_
      ((try walk_at "zs"); repeat (simp only [xm14]; (try walk_at "zs")))
      refine w_class14 ?_
      ((try walk_at "zs"); repeat (simp only [peek_x, at_x14]; (try walk_at "zs")))
      exact q
theorem w_toldL {by_ : Bool} {d : D} (hk : k < 4) (b : Bad μ d) (q : Q (.v (.str "list")) μ) : Wf (F_law_told [rcD k z (i : Nat), d, .bl by_] μ) Q X := by
  have wx := fun (Q' : Rs → List D → Prop) (X' : XF) => w_tbL (k := k) (z := z) (i := i) (Q := Q') (X := X') b
  refine wf_run rfl ?_
  show Ws (T_law_told ⟨[some (.s (rcD k z (i : Nat))), some (.s d), some (.s (.bl by_)), none, none], μ⟩) _
  unfold T_law_told rcD
  unfold rcD at wx
  have ne : vEq (.str "list") (.str "impossible") = some (.v (.bl false)) := rfl
  cases by_ with
  | true =>
    ((try walk_at "zs"); repeat (simp only [m_tb hk, n_tb]; (try walk_at "zs")))
    refine wx _ _ ?_
    ((try walk_at "zs"); repeat (simp only [xm7]; (try walk_at "zs")))
    refine w_class7 ?_
    ((try walk_at "zs"); repeat (simp only [ne]; (try walk_at "zs")))
    refine w_class7 ?_
    walk_at "zs"
    exact q
  | false =>
    ((try walk_at "zs"); repeat (simp only [m_tb hk, n_tb]; (try walk_at "zs")))
    refine wx _ _ ?_
    ((try walk_at "zs"); repeat (simp only [xm7]; (try walk_at "zs")))
    refine w_class7 ?_
    ((try walk_at "zs"); repeat (simp only [ne]; (try walk_at "zs")))
    refine w_class7 ?_
    walk_at "zs"
    exact q
end
theorem lenSet_gen {zs : List Str} (hl : zs.length ≤ 1000) : lenSet (.list (zs.map D.str)) = some (.v (.int (dd zs).length)) := by
  unfold lenSet
  have : (zs.map D.str).mapM asS = some zs := by
    clear hl
    induction zs with
    | nil => rfl
    | cons x xs ih => rw [List.map_cons, List.mapM_cons, ih]; rfl
  simp only [this, Option.bind_some]
  rw [if_pos hl]
theorem dd_nod : ∀ (l acc : List Str), acc.Nodup → (l.foldl ddS acc).length ≤ acc.length + l.length ∧ ((l.foldl ddS acc).length = acc.length + l.length → (acc ++ l).Nodup)
  | [], acc, h => ⟨by simp, fun _ => by simpa using h⟩
  | y :: l, acc, h => by
    rw [List.foldl_cons]
    by_cases c : y ∈ acc
    · have e : ddS acc y = acc := by unfold ddS; simp [c]
      rw [e]
      have ih := (dd_nod l acc h).1
      exact ⟨by rw [List.length_cons]; omega, fun e => by rw [List.length_cons] at e; omega⟩
    · have e : ddS acc y = acc ++ [y] := by unfold ddS; simp [c]
      rw [e]
      have hn : (acc ++ [y]).Nodup := by
        rw [List.nodup_append]
        exact ⟨h, List.nodup_cons.mpr ⟨List.not_mem_nil, List.nodup_nil⟩, fun a ha b hb e => c (by rw [List.mem_singleton] at hb; rw [← hb, ← e]; exact ha)⟩
      have ih := dd_nod l (acc ++ [y]) hn
      rw [List.length_append, List.length_singleton] at ih
      refine ⟨by rw [List.length_cons]; omega, fun e => ?_⟩
      rw [List.length_cons] at e
      have := ih.2 (by omega)
      rwa [List.append_assoc] at this
theorem dd_nodup {l : List Str} (h : (dd l).length = l.length) : l.Nodup := by
  have := (dd_nod l [] List.nodup_nil).2 (by unfold dd at h; rw [h]; simp)
  simpa using this
theorem at_mem {xs : List D} {r : Int} (h0 : 0 ≤ r) (h1 : r < xs.length) : ∃ d ∈ xs, atI xs r = some d := by
  obtain ⟨j, rfl⟩ : ∃ j : Nat, r = j := ⟨r.toNat, by omega⟩
  have hj : j < xs.length := by omega
  exact ⟨xs[j], List.getElem_mem hj, atI_nat hj⟩
/-! ### a list, a case -/
theorem w_make {k : Nat} {z : Str} {n : Int} {μ : List D} {Q : Rs → List D → Prop} {X : XF} (hk : k < 4) (hz : Itm z) (h0 : 0 ≤ n) (h1 : n ≤ 60) (q : Q (.fr (rcD k z n)) μ) : Wf (F_law_make [.int (k : Nat), .str z, .int n] μ) Q X := by
  refine wf_run rfl ?_
  show Ws (T_law_make ⟨[some (.s (.int (k : Nat))), some (.s (.str z)), some (.s (.int n))], μ⟩) _
  unfold T_law_make
  match k, hk with
  | 0, _ =>
    walk_at "zs"
    refine w_init (k := 0) (by decide) hz h0 h1 ?_
    walk_at "zs"
    exact q
  | 1, _ =>
    walk_at "zs"
    refine w_init (k := 1) (by decide) hz h0 h1 ?_
    walk_at "zs"
    exact q
  | 2, _ =>
    walk_at "zs"
    refine w_init (k := 2) (by decide) hz h0 h1 ?_
    walk_at "zs"
    exact q
  | 3, _ =>
    walk_at "zs"
    refine w_init (k := 3) (by decide) hz h0 h1 ?_
    walk_at "zs"
    exact q
theorem at3 {a b c w : Int} (h0 : 0 ≤ w) (h1 : w < 3) (P : Int → Prop) (pa : P a) (pb : P b) (pc : P c) : ∃ m, atI [D.int a, D.int b, D.int c] w = some (.int m) ∧ P m := by
  have : w = 0 ∨ w = 1 ∨ w = 2 := by omega
  rcases this with rfl | rfl | rfl
  · exact ⟨a, rfl, pa⟩
  · exact ⟨b, rfl, pb⟩
  · exact ⟨c, rfl, pc⟩
theorem w_shelf {n : Nat} {c : Int} {μ : List D} {Q : Rs → List D → Prop} {X : XF} (t : Tape μ n c) (hc : c ≤ 700000) (q : ∀ (zs ys : List Str) (μ' : List D), Knw zs → ys.length = 4 → (∀ y ∈ ys, Itm y) → (∀ y ∈ ys, y ∉ zs) → ys.Nodup → Tape μ' n (c + 100) → Q (.fr (.tup [.loc μ'.length, .list (ys.map D.str)])) (μ' ++ [.list (zs.map D.str)])) : Wf (F_law_shelf [.loc n, .int 60] μ) Q X := by
  refine wf_run rfl ?_
  show Ws (T_law_shelf ⟨[some (.s (.loc n)), some (.s (.int 60)), none, none], μ⟩) _
  unfold T_law_shelf
  walk_at "zs"
  refine w_pick t (by omega) (by omega) (by omega) fun a d1 a0 a1 t1 => ?_
  generalize μ.set n d1 = μ1 at t1
  walk_at "zs"
  refine w_pick t1 (by omega) (by omega) (by omega) fun b d2 b0 b1 t2 => ?_
  generalize μ1.set n d2 = μ2 at t2
  walk_at "zs"
  refine w_pick t2 (by omega) (by omega) (by omega) fun w d3 w0 w1 t3 => ?_
  generalize μ2.set n d3 = μ3 at t3
  obtain ⟨m, em, m0, m1⟩ := at3 (a := a) (b := b) (c := 60) w0 w1 (fun p => 0 ≤ p ∧ p ≤ 60) ⟨by omega, by omega⟩ ⟨by omega, by omega⟩ ⟨by omega, by omega⟩
  obtain ⟨m, rfl⟩ : ∃ j : Nat, m = j := ⟨m.toNat, by omega⟩
  ((try walk_at "zs"); repeat (simp only [em, show (m : Int) + 4 = ((m + 4 : Nat) : Int) from by omega]; (try walk_at "zs")))
  refine w_names t3 (by omega) (by omega) fun zs μ4 nd it zl t4 => ?_
  ((try walk_at "zs"); repeat (simp only [cutL_to, cutL_from, ← List.map_take, ← List.map_drop]; (try walk_at "zs")))
  have l1 : (zs.take m).length ≤ 60 := by rw [List.length_take]; omega
  have l2 : (zs.drop m).length = 4 := by rw [List.length_drop]; omega
  have dj : ∀ y ∈ zs.drop m, y ∉ zs.take m := fun y hy hx => by
    have nd2 := nd
    rw [← List.take_append_drop m zs] at nd2
    exact (List.nodup_append.mp nd2).2.2 y hx y hy rfl
  exact q (zs.take m) (zs.drop m) _ ⟨nd.sublist (List.take_sublist _ _), fun z hz => it z (List.mem_of_mem_take hz), l1⟩ l2 (fun y hy => it y (List.mem_of_mem_drop hy)) dj (nd.sublist (List.drop_sublist _ _)) (t4.mono (by omega))
theorem at_strs {xs : List Str} {r : Int} (h0 : 0 ≤ r) (h1 : r < xs.length) : ∃ z ∈ xs, atI (xs.map D.str) r = some (.str z) := by
  obtain ⟨i, rfl⟩ : ∃ i : Nat, r = i := ⟨r.toNat, by omega⟩
  have hi : i < xs.length := by omega
  exact ⟨xs[i], List.getElem_mem _, by rw [atI_nat (by rw [List.length_map]; exact hi)]; simp only [List.getElem_map]⟩
theorem at4w {w r : Int} (w0 : 0 ≤ w) (w1 : w < 4) (r0 : 0 ≤ r) (r1 : r < 4) : ∃ k : Nat, k < 4 ∧ atI [D.int 0, D.int 1, D.int 2, D.int w] r = some (.int (k : Int)) := by
  have : r = 0 ∨ r = 1 ∨ r = 2 ∨ r = 3 := by omega
  rcases this with rfl | rfl | rfl | rfl
  · exact ⟨0, by decide, rfl⟩
  · exact ⟨1, by decide, rfl⟩
  · exact ⟨2, by decide, rfl⟩
  · obtain ⟨j, rfl⟩ : ∃ j : Nat, w = j := ⟨w.toNat, by omega⟩
    exact ⟨j, by omega, rfl⟩
theorem at7 {a b c d e f g r : Int} (r0 : 0 ≤ r) (r1 : r < 7) : ∃ m, atI [D.int a, D.int b, D.int c, D.int d, D.int e, D.int f, D.int g] r = some (.int m) := by
  have : r = 0 ∨ r = 1 ∨ r = 2 ∨ r = 3 ∨ r = 4 ∨ r = 5 ∨ r = 6 := by omega
  rcases this with rfl | rfl | rfl | rfl | rfl | rfl | rfl <;> exact ⟨_, rfl⟩
noncomputable def csT : TSd := TSeq (TAsg (TOp vIx (TLst (TCons (TVar 5) (TCons (TVar 5) (TCons (TOp vAdd (TVar 5) (TC (.int 1))) (TCons (TOp vSub (TVar 5) (TC (.int 1))) (TCons (TCB bLen (PCons (TVar 1) (PNil))) (TCons (TFn F_law_pick (TCons (TVar 0) (TCons (TC (.int 61)) (TNil)))) (TCons (TC (.int 60)) (TNil))))))))) (TFn F_law_pick (TCons (TVar 0) (TCons (TC (.int 7)) (TNil))))) 6) (TRet (TTup (TCons (TVar 3) (TCons (TVar 4) (TCons (TCB bMin (PCons (TCB bMax (PCons (TC (.int 0)) (PCons (TVar 6) (PNil)))) (PCons (TC (.int 60)) (PNil)))) (TNil))))))
noncomputable def csB : TSd := TSeq (TAsg (TIf (TB (TOp vNotIn (TVar 4) (TVar 1))) (TFn F_law_pick (TCons (TVar 0) (TCons (TOp vAdd (TCB bLen (PCons (TVar 1) (PNil))) (TC (.int 1))) (TNil)))) (TIndex (TVar 1) (PCons (TVar 4) (PNil)))) 5) csT
noncomputable def csA : TSd := TSeq (TIfS (TB (TOp vGt (TFn F_law_pick (TCons (TVar 0) (TCons (TC (.int 3)) (TNil)))) (TC (.int 0)))) (TAsg (TIf (TOr (TB (TOp vEq (TVar 3) (TC (.int 0)))) (TB (TOp vEq (TVar 1) (TLst (TNil))))) (TOp vIx (TVar 2) (TC (.int 0))) (TOp vIx (TVar 1) (TFn F_law_pick (TCons (TVar 0) (TCons (TCB bLen (PCons (TVar 1) (PNil))) (TNil)))))) 4) (TNext)) csB
theorem cs_eq : T_law_case = TSeq (TAsg (TOp vIx (TLst (TCons (TC (.int 0)) (TCons (TC (.int 1)) (TCons (TC (.int 2)) (TCons (TFn F_law_pick (TCons (TVar 0) (TCons (TC (.int 4)) (TNil)))) (TNil)))))) (TFn F_law_pick (TCons (TVar 0) (TCons (TC (.int 4)) (TNil))))) 3) (TSeq (TAsg (TOp vIx (TOp vAdd (TVar 1) (TVar 2)) (TFn F_law_pick (TCons (TVar 0) (TCons (TOp vAdd (TCB bLen (PCons (TVar 1) (PNil))) (TCB bLen (PCons (TVar 2) (PNil)))) (TNil))))) 4) csA) := rfl
section
variable {k n : Nat} {zs ys : List Str} {e : D} {c : Int} {Q : Rs → List D → Prop} {X : XF}
theorem ix_in {z : Str} (h : z ∈ zs) : ∃ j : Nat, j < zs.length ∧ indexD (.list (zs.map D.str)) [.str z] = some (.v (.int (j : Int))) := by
  exact ⟨ix zs z, ix_lt h, index_strs h⟩
theorem w_csB {μ : List D} {z : Str} {v5 v6 : Option A} (hk : k < 4) (kn : Knw zs) (pl : Lk μ e (.list (zs.map D.str))) (en : e ≠ .loc n) (hz : Itm z) (t : Tape μ n c) (hc : c ≤ 800000) (q : ∀ (v : Nat) μ', v ≤ 60 → Lk μ' e (.list (zs.map D.str)) → Tape μ' n (c + 3) → Q (.fr (.tup [.int (k : Nat), .str z, .int (v : Nat)])) μ') : Ws (csB ⟨[some (.s (.loc n)), some (.s e), some (.s (.list (ys.map D.str))), some (.s (.int (k : Nat))), some (.s (.str z)), v5, v6], μ⟩) (outQ Q X) := by
  have few := kn.few
  have tail : ∀ (v : Int) (v6 : Option A) (μ1 : List D), 0 ≤ v → v ≤ 60 → Lk μ1 e (.list (zs.map D.str)) → Tape μ1 n (c + 1) → Ws (csT ⟨[some (.s (.loc n)), some (.s e), some (.s (.list (ys.map D.str))), some (.s (.int (k : Nat))), some (.s (.str z)), some (.s (.int v)), v6], μ1⟩) (outQ Q X) := by
    intro v v6 μ1 v0 v1 pl1 t1
    unfold csT
    have pl2 := fun env => pl1 env
    ((try walk_at "zs"); repeat (simp only [pl2]; (try walk_at "zs")))
    refine w_pick t1 (by omega) (by omega) (by omega) fun a d1 a0 a1 t2 => ?_
    have pl3 := pl1.set (y := d1) en
    generalize μ1.set n d1 = μ2 at t2 pl3
    walk_at "zs"
    refine w_pick t2 (by omega) (by omega) (by omega) fun b d2 b0 b1 t3 => ?_
    have pl4 := pl3.set (y := d2) en
    generalize μ2.set n d2 = μ3 at t3 pl4
    obtain ⟨m, em⟩ := at7 (a := v) (b := v) (c := v + 1) (d := v - 1) (e := ((zs.map D.str).length : Int)) (f := a) (g := 60) b0 b1
    ((try walk_at "zs"); repeat (simp only [em]; (try walk_at "zs")))
    obtain ⟨w, ew⟩ : ∃ w : Nat, (if 60 < (if m > 0 then m else 0) then 60 else if m > 0 then m else 0) = (w : Int) ∧ w ≤ 60 := ⟨(if 60 < (if m > 0 then m else 0) then 60 else if m > 0 then m else 0).toNat, by split <;> split <;> omega, by split <;> split <;> omega⟩
    rw [ew.1]
    exact q w μ3 ew.2 pl4 (t3.mono (by omega))
  have pl2 := fun env => pl env
  unfold csB
  by_cases ci : z ∈ zs
  · obtain ⟨j, jl, ej⟩ := ix_in ci
    ((try walk_at "zs"); repeat (simp only [pl2, vNotIn_strs, ci, ej]; (try walk_at "zs")))
    exact tail _ _ _ (by omega) (by omega) pl (t.mono (by omega))
  · ((try walk_at "zs"); repeat (simp only [pl2, vNotIn_strs, ci]; (try walk_at "zs")))
    refine w_pick t (by omega) (by rw [List.length_map]; omega) (by rw [List.length_map]; omega) fun a d1 a0 a1 t1 => ?_
    rw [List.length_map] at a1
    have pl1 := pl.set (y := d1) en
    generalize μ.set n d1 = μ1 at t1 pl1
    walk_at "zs"
    exact tail _ _ _ a0 (by omega) pl1 t1
theorem w_csA {μ : List D} {z : Str} {v5 v6 : Option A} (hk : k < 4) (kn : Knw zs) (pl : Lk μ e (.list (zs.map D.str))) (en : e ≠ .loc n) (hz : Itm z) (hy : ∀ y ∈ ys, Itm y) (yl : ys.length = 4) (t : Tape μ n c) (hc : c ≤ 700000) (q : ∀ (v : Nat) (z : Str) μ', v ≤ 60 → Itm z → Lk μ' e (.list (zs.map D.str)) → Tape μ' n (c + 10) → Q (.fr (.tup [.int (k : Nat), .str z, .int (v : Nat)])) μ') : Ws (csA ⟨[some (.s (.loc n)), some (.s e), some (.s (.list (ys.map D.str))), some (.s (.int (k : Nat))), some (.s (.str z)), v5, v6], μ⟩) (outQ Q X) := by
  have few := kn.few
  have pl2 := fun env => pl env
  unfold csA
  walk_at "zs"
  refine w_pick t (by omega) (by omega) (by omega) fun a d1 a0 a1 t1 => ?_
  have pl1 := pl.set (y := d1) en
  generalize μ.set n d1 = μ1 at t1 pl1
  have pl3 := fun env => pl1 env
  have done : ∀ (z : Str) (μ2 : List D), Itm z → Lk μ2 e (.list (zs.map D.str)) → Tape μ2 n (c + 2) → Ws (csB ⟨[some (.s (.loc n)), some (.s e), some (.s (.list (ys.map D.str))), some (.s (.int (k : Nat))), some (.s (.str z)), v5, v6], μ2⟩) (outQ Q X) := fun z μ2 iz p2 t2 => w_csB hk kn p2 en iz t2 (by omega) fun v μ3 vl p3 t3 => q v z μ3 vl iz p3 (t3.mono (by omega))
  by_cases c0 : a > 0
  · by_cases ck : (k : Int) = 0
    · obtain ⟨y, hy0, ey⟩ := at_strs (xs := ys) (r := 0) (by omega) (by omega)
      have dn := done y μ1 (hy y hy0) pl1 (t1.mono (by omega))
      rw [ck] at dn
      ((try walk_at "zs"); repeat (simp only [c0, ck, ey]; (try walk_at "zs")))
      exact dn
    · by_cases cz : zs = []
      · obtain ⟨y, hy0, ey⟩ := at_strs (xs := ys) (r := 0) (by omega) (by omega)
        have ve : vEq (.list (zs.map D.str)) (.list []) = some (.v (.bl true)) := by rw [cz]; rfl
        ((try walk_at "zs"); repeat (simp only [c0, ck, pl3, ve, ey]; (try walk_at "zs")))
        exact done y _ (hy y hy0) pl1 (t1.mono (by omega))
      · have ve : vEq (.list (zs.map D.str)) (.list []) = some (.v (.bl false)) := by
          cases zs with
          | nil => exact absurd rfl cz
          | cons x xs => rfl
        have zl : 0 < zs.length := List.length_pos_iff.mpr cz
        ((try walk_at "zs"); repeat (simp only [c0, ck, pl3, ve]; (try walk_at "zs")))
        refine w_pick t1 (by omega) (by rw [List.length_map]; omega) (by rw [List.length_map]; omega) fun r d2 r0 r1 t2 => ?_
        rw [List.length_map] at r1
        have p4 := pl1.set (y := d2) en
        generalize μ1.set n d2 = μ2 at t2 p4
        obtain ⟨y, hy0, ey⟩ := at_strs (xs := zs) r0 r1
        have p5 := fun env => p4 env
        ((try walk_at "zs"); repeat (simp only [p5, ey]; (try walk_at "zs")))
        exact done y _ (kn.itm y hy0) p4 (t2.mono (by omega))
  · ((try walk_at "zs"); repeat (simp only [c0]; (try walk_at "zs")))
    exact done _ _ hz pl1 (t1.mono (by omega))
theorem w_case {μ : List D} (kn : Knw zs) (pl : Lk μ e (.list (zs.map D.str))) (en : e ≠ .loc n) (hy : ∀ y ∈ ys, Itm y) (yl : ys.length = 4) (t : Tape μ n c) (hc : c ≤ 600000) (q : ∀ (k v : Nat) (z : Str) μ', k < 4 → v ≤ 60 → Itm z → Lk μ' e (.list (zs.map D.str)) → Tape μ' n (c + 20) → Q (.fr (.tup [.int (k : Nat), .str z, .int (v : Nat)])) μ') : Wf (F_law_case [.loc n, e, .list (ys.map D.str)] μ) Q X := by
  have few := kn.few
  refine wf_run rfl ?_
  show Ws (T_law_case ⟨[some (.s (.loc n)), some (.s e), some (.s (.list (ys.map D.str))), none, none, none, none], μ⟩) _
  rw [cs_eq]
  walk_at "zs"
  refine w_pick t (by omega) (by omega) (by omega) fun a d1 a0 a1 t1 => ?_
  have p1 := pl.set (y := d1) en
  generalize μ.set n d1 = μ1 at t1 p1
  walk_at "zs"
  refine w_pick t1 (by omega) (by omega) (by omega) fun b d2 b0 b1 t2 => ?_
  have p2 := p1.set (y := d2) en
  generalize μ1.set n d2 = μ2 at t2 p2
  obtain ⟨k, hk, ek⟩ := at4w a0 a1 b0 b1
  have p3 := fun env => p2 env
  ((try walk_at "zs"); repeat (simp only [ek, p3, List.length_map]; (try walk_at "zs")))
  refine ⟨by omega, ?_⟩
  refine w_pick t2 (by omega) (by omega) (by omega) fun r d3 r0 r1 t3 => ?_
  have p4 := p2.set (y := d3) en
  generalize μ2.set n d3 = μ3 at t3 p4
  have hl : (r : Int) < ((zs ++ ys).length : Int) := by rw [List.length_append]; omega
  obtain ⟨z, hz, ez⟩ := at_strs (xs := zs ++ ys) r0 hl
  rw [List.map_append] at ez
  have iz : Itm z := by
    rcases List.mem_append.mp hz with h | h
    · exact kn.itm z h
    · exact hy z h
  ((try walk_at "zs"); repeat (simp only [ez]; (try walk_at "zs")))
  exact w_csA hk kn p4 en iz hy yl t3 (by omega) fun v z μ4 vl iz p5 t4 => q k v z μ4 hk vl iz p5 (t4.mono (by omega))
end
/-! ### objects that are no list of items -/
theorem bad_pl {d : D} {μ : List D} (pd : ∀ s, peek s (.v d) = some d) (il : bIsi kn [d, .ty "list"] = some (.v (.bl false))) : Bad μ d := fun Q X q => by
  refine wf_run rfl ?_
  show Ws (T_are_items ⟨[some (.s d), none], μ⟩) _
  unfold T_are_items
  ((try walk_at "zs"); repeat (simp only [pd, il]; (try walk_at "zs")))
  exact q
def Ent (μ : List D) (e : D) (b : Bool) : Prop := ∀ (Q : Rs → List D → Prop) (X : XF), Q (.v (.bl b)) μ → Wf (F_is_item [e] μ) Q X
theorem ent_str {μ : List D} {z : Str} (h : z.length ≤ 1000) : Ent μ (.str z) (itemB z) := fun Q X q => w_is_item h q
theorem ent_itm {μ : List D} {z : Str} (h : Itm z) : Ent μ (.str z) true := fun Q X q => w_is_item h.sz (by rw [show itemB z = true from h]; exact q)
theorem ent_no {μ : List D} {e d : D} (pd : Lk μ e d) (il : bIsi kn [d, .ty "str"] = some (.v (.bl false))) : Ent μ e false := fun Q X q => by
  have p2 := fun env => pd env
  refine wf_run rfl ?_
  show Ws (T_is_item ⟨[some (.s e), none], μ⟩) _
  unfold T_is_item
  ((try walk_at "zs"); repeat (simp only [p2, il]; (try walk_at "zs")))
  exact q
/-- a list with its entries judged -/
theorem bad_list {μ : List D} {L : List (D × Bool)} (h : ∀ p ∈ L, Ent μ p.1 p.2) (b : L.all (·.2) = false ∨ 60 < L.length) (hl : L.length ≤ 1000) : Bad μ (.list (L.map (·.1))) := fun Q X q => by
  refine wf_run rfl ?_
  show Ws (T_are_items ⟨[some (.s (.list (L.map (·.1)))), none], μ⟩) _
  unfold T_are_items
  ((try walk_at "zs"); repeat (simp only [isi_ll]; (try walk_at "zs")))
  by_cases c : 60 < L.length
  · rw [if_pos (by rw [List.length_map]; omega)]
    exact q
  · rw [if_neg (by rw [List.length_map]; omega)]
    have b : L.all (·.2) = false := b.resolve_right c
    refine wp_LcC ?_
    walk_at "zs"
    refine ⟨by rw [List.length_map]; omega, lc_all (fun p : D × Bool => p.1) (fun p => .bl p.2) (fun p hp => ?_) ?_⟩
    · walk_at "zs"
      refine h p hp _ _ ?_
      walk_at "zs"
    · ((try walk_at "zs"); repeat (simp only [all_map, b]; (try walk_at "zs")))
      exact q
theorem bad_dup {μ : List D} {zs : List Str} (hz : ∀ z ∈ zs, Itm z) (nd : ¬ zs.Nodup) (hl : zs.length ≤ 1000) : Bad μ (.list (zs.map D.str)) := fun Q X q => by
  refine wf_run rfl ?_
  show Ws (T_are_items ⟨[some (.s (.list (zs.map D.str))), none], μ⟩) _
  unfold T_are_items
  ((try walk_at "zs"); repeat (simp only [isi_ll]; (try walk_at "zs")))
  by_cases c : 60 < zs.length
  · rw [if_pos (by rw [List.length_map]; omega)]
    exact q
  · rw [if_neg (by rw [List.length_map]; omega)]
    refine wp_LcC ?_
    walk_at "zs"
    refine ⟨by rw [List.length_map]; omega, lc_all D.str (fun _ => .bl true) (fun z h => ?_) ?_⟩
    · walk_at "zs"
      refine ent_itm (hz z h) _ _ ?_
      walk_at "zs"
    · rw [all_map (p := fun _ => true), List.all_eq_true.mpr fun _ _ => rfl]
      ((try walk_at "zs"); repeat (simp only [lenSet_gen hl, List.length_map]; (try walk_at "zs")))
      have cn : ¬ ((dd zs).length : Int) = (zs.length : Int) := fun h => nd (dd_nodup (by omega))
      rw [decide_eq_false cn]
      exact q
theorem bad_strs {μ : List D} {L : List Str} (h : ∀ z ∈ L, z.length ≤ 1000) (b : L.all itemB = false ∨ 60 < L.length) (hl : L.length ≤ 1000) : Bad μ (.list (L.map D.str)) := by
  have := bad_list (μ := μ) (L := L.map fun z => (D.str z, itemB z)) (fun p hp => by
    obtain ⟨z, hz, rfl⟩ := List.mem_map.mp hp
    exact ent_str (h z hz)) (by rw [List.all_map, List.length_map]; exact b) (by rw [List.length_map]; exact hl)
  rwa [List.map_map] at this
theorem bad_one {μ : List D} {e : D} (h : Ent μ e false) : Bad μ (.list [e]) := bad_list (L := [(e, false)]) (fun p hp => by rw [List.mem_singleton.mp hp]; exact h) (.inl rfl) (by show 1 ≤ 1000; decide)
def shl (zs : List Str) (e : D) (F : List Str) : List D := [.non, .bl true, .int 0, .str "", .str "ab", .tup [], .tup (zs.map D.str), .dict [], .list [.non], .list [.int 0], .list [.bl true], .list [.str ""], .list [.str "A"], .list [.str "abcdefghi"], .list [.str "a", .str "a"],
  .list [.str "a b"], .list [.list [.str "a"]], .list [.tup [.str "a"]], .list [.dict []], .list [rcD 0 "a" 0], .list (F.map D.str), .dict [(.inr "a", .int 0)], .list (zs.map D.str ++ [.str "a1"]), .list ([.str "a_"] ++ zs.map D.str),
  .list (zs.map D.str ++ (zs.take 1).map D.str ++ [.str "A"]), .list [e], .list [.str "a\n"], .list [.int (-1)], .list (zs.map D.str ++ [.non]), .list (zs.map D.str ++ [.str "zz", .str "zz"])]
theorem bad_end {μ : List D} {xs : List Str} {e : D} (hx : ∀ z ∈ xs, Itm z) (h : Ent μ e false) (hl : xs.length ≤ 900) : Bad μ (.list (xs.map D.str ++ [e])) := by
  have := bad_list (μ := μ) (L := (xs.map fun z => (D.str z, true)) ++ [(e, false)]) (fun p hp => by
    rcases List.mem_append.mp hp with hp | hp
    · obtain ⟨z, hz, rfl⟩ := List.mem_map.mp hp
      exact ent_itm (hx z hz)
    · rw [List.mem_singleton.mp hp]; exact h) (.inl (by rw [List.all_append]; simp)) (by rw [List.length_append, List.length_map, List.length_singleton]; omega)
  rw [List.map_append, List.map_map] at this
  exact this
theorem bad_all {μ : List D} {zs F : List Str} {e : D} (kn' : Knw zs) (pl : Lk μ e (.list (zs.map D.str))) (hF : ∀ z ∈ F, z.length ≤ 1000) (fl : F.length = 61) : ∀ d ∈ shl zs e F, Bad μ d := by
  have few := kn'.few
  have s0 : ∀ z : Str, itemB z = false → z.length ≤ 1000 → Ent μ (.str z) false := fun z h hl => by have := ent_str (μ := μ) hl; rwa [h] at this
  intro d hd
  unfold shl at hd
  simp only [List.mem_cons, List.not_mem_nil, or_false] at hd
  rcases hd with rfl | rfl | rfl | rfl | rfl | rfl | rfl | rfl | rfl | rfl | rfl | rfl | rfl | rfl | rfl | rfl | rfl | rfl | rfl | rfl | rfl | rfl | rfl | rfl | rfl | rfl | rfl | rfl | rfl | rfl
  · exact bad_pl (fun _ => rfl) rfl
  · exact bad_pl (fun _ => rfl) rfl
  · exact bad_pl (fun _ => rfl) rfl
  · exact bad_pl (fun _ => rfl) rfl
  · exact bad_pl (fun _ => rfl) rfl
  · exact bad_pl (fun _ => rfl) rfl
  · exact bad_pl (fun _ => rfl) rfl
  · exact bad_pl (fun _ => rfl) rfl
  · exact bad_one (ent_no (d := .non) (fun _ => rfl) rfl)
  · exact bad_one (ent_no (d := .int 0) (fun _ => rfl) rfl)
  · exact bad_one (ent_no (d := .bl true) (fun _ => rfl) rfl)
  · exact bad_one (s0 _ (by decide +kernel) (by decide +kernel))
  · exact bad_one (s0 _ (by decide +kernel) (by decide +kernel))
  · exact bad_one (s0 _ (by decide +kernel) (by decide +kernel))
  · exact bad_dup (zs := ["a", "a"]) (fun z hz => by
      rcases List.mem_cons.mp hz with rfl | hz
      · exact (by decide +kernel : itemB "a" = true)
      · rw [List.mem_singleton.mp hz]; exact (by decide +kernel : itemB "a" = true)) (by decide +kernel) (by decide)
  · exact bad_one (s0 _ (by decide +kernel) (by decide +kernel))
  · exact bad_one (ent_no (d := .list [.str "a"]) (fun _ => rfl) rfl)
  · exact bad_one (ent_no (d := .tup [.str "a"]) (fun _ => rfl) rfl)
  · exact bad_one (ent_no (d := .dict []) (fun _ => rfl) rfl)
  · exact bad_one (ent_no (d := rcD 0 "a" 0) (fun _ => rfl) rfl)
  · exact bad_strs hF (.inr (by omega)) (by omega)
  · exact bad_pl (fun _ => rfl) rfl
  · exact bad_end kn'.itm (s0 _ (by decide +kernel) (by decide +kernel)) (by omega)
  · have := bad_list (μ := μ) (L := (.str "a_", false) :: zs.map fun z => (D.str z, true)) (fun p hp => by
      rcases List.mem_cons.mp hp with rfl | hp
      · exact s0 _ (by decide +kernel) (by decide +kernel)
      · obtain ⟨z, hz, rfl⟩ := List.mem_map.mp hp
        exact ent_itm (kn'.itm z hz)) (.inl rfl) (by rw [List.length_cons, List.length_map]; omega)
    rw [List.map_cons, List.map_map] at this
    exact this
  · rw [← List.map_append]
    exact bad_end (fun z hz => by
      rcases List.mem_append.mp hz with h | h
      · exact kn'.itm z h
      · exact kn'.itm z (List.mem_of_mem_take h)) (s0 _ (by decide +kernel) (by decide +kernel)) (by rw [List.length_append, List.length_take]; omega)
  · exact bad_one (ent_no pl (by rfl))
  · exact bad_one (s0 _ (by decide +kernel) (by decide +kernel))
  · exact bad_one (ent_no (d := .int (-1)) (fun _ => rfl) rfl)
  · exact bad_end kn'.itm (ent_no (d := .non) (fun _ => rfl) rfl) (by omega)
  · have e1 : zs.map D.str ++ [D.str "zz", D.str "zz"] = (zs ++ (["zz", "zz"] : List Str)).map D.str := by rw [List.map_append]; rfl
    rw [e1]
    exact bad_dup (fun z hz => by
      rcases List.mem_append.mp hz with h | h
      · exact kn'.itm z h
      · rcases List.mem_cons.mp h with rfl | h
        · exact (by decide +kernel : itemB "zz" = true)
        · rw [List.mem_singleton.mp h]; exact (by decide +kernel : itemB "zz" = true)) (fun nd => by
      have := (List.nodup_append.mp nd).2.1
      exact absurd this (by decide +kernel)) (by rw [List.length_append]; show _ + 2 ≤ _; omega)
/-! ### one of them -/
def farS : List Str := (List.range 61).map fun j => lt (j / 26) ++ lt (j % 26)
theorem far_len : farS.length = 61 := by unfold farS; simp
theorem far_sz : ∀ z ∈ farS, z.length ≤ 1000 := fun z hz => by
  unfold farS at hz
  obtain ⟨j, _, rfl⟩ := List.mem_map.mp hz
  have l2 := lt_len (j := j / 26)
  have l3 := lt_len (j := j % 26)
  rw [Str.length_append]; omega
section
variable {k n : Nat} {zs ys : List Str} {e : D} {c : Int} {Q : Rs → List D → Prop} {X : XF}
theorem w_no_shelves {μ : List D} (kn' : Knw zs) (pl : Lk μ e (.list (zs.map D.str))) (en : e ≠ .loc n) (t : Tape μ n c) (hc : c ≤ 800000) (q : ∀ d μ', Bad μ' d → Lk μ' e (.list (zs.map D.str)) → Tape μ' n (c + 1) → Q (.v d) μ') : Wf (F_law_no_shelves [.loc n, e] μ) Q X := by
  have few := kn'.few
  have pl2 := fun env => pl env
  refine wf_run rfl ?_
  show Ws (T_law_no_shelves ⟨[some (.s (.loc n)), some (.s e), none, none, none, none], μ⟩) _
  unfold T_law_no_shelves
  walk_at "zs"
  refine wp_Lc ?_
  walk_at "zs"
  refine ⟨by decide, by decide, ?_⟩
  rw [show rngD 0 61 = (List.range 61).map (fun j : Nat => D.int (j : Int)) from by unfold rngD; exact List.map_congr_left fun j _ => by rw [Int.zero_add]]
  refine lc_each (fun j : Nat => D.int (j : Int)) (fun j => some (.str (lt (j / 26) ++ lt (j % 26)))) (fun j hj => ?_) ?_
  · have hj : j < 61 := List.mem_range.mp hj
    have e2 : ((j : Nat) : Int) / 26 = ((j / 26 : Nat) : Int) := by omega
    have e3 : ((j : Nat) : Int) % 26 = ((j % 26 : Nat) : Int) := by omega
    have x2 := ix_abc (j := j / 26) (by omega)
    have x3 := ix_abc (j := j % 26) (by omega)
    have l2 := lt_len (j := j / 26)
    have l3 := lt_len (j := j % 26)
    ((try walk_at "zs"); repeat (simp only [e2, e3, x2, x3]; (try walk_at "zs")))
    exact ⟨by decide, by omega⟩
  rw [fm_some, show (List.range 61).map (fun j => D.str (lt (j / 26) ++ lt (j % 26))) = farS.map D.str from by unfold farS; rw [List.map_map]; rfl]
  have bt : ∀ ds : List D, bTuple [.list ds] = some (.fr (.tup ds)) := fun _ => rfl
  have c1 : cutL (zs.map D.str) none (some 1) = (zs.take 1).map D.str := by rw [cutL_map]; exact congrArg _ (cutL_to (i := 1))
  have zl : (zs.map D.str).length ≤ 60 := by rw [List.length_map]; exact few
  have tl : ((zs.take 1).map D.str).length ≤ 60 := by rw [List.length_map, List.length_take]; omega
  ((try walk_at "zs"); repeat (simp only [pl2, bt]; (try walk_at "zs")))
  refine w_init (k := 0) (by decide) (by unfold Itm; decide +kernel) (by decide) (by decide) ?_
  ((try walk_at "zs"); repeat (simp only [pl2, slL_list, c1]; (try walk_at "zs")))
  refine ⟨by omega, by omega, by omega, by rw [List.length_append]; omega, by omega, by omega, by simp, ?_⟩
  generalize hs : (_ ++ _ ++ _ : List D) = S
  have eS : S = shl zs e farS := hs.symm
  have lS : (S.length : Int) = 30 := by rw [eS]; rfl
  rw [lS]
  refine w_pick t (by omega) (by omega) (by omega) fun r d1 r0 r1 t1 => ?_
  have p1 := pl.set (y := d1) en
  generalize μ.set n d1 = μ1 at t1 p1
  obtain ⟨d, hd, ed⟩ := at_mem (xs := S) r0 (by rw [lS]; exact r1)
  ((try walk_at "zs"); repeat (simp only [ed]; (try walk_at "zs")))
  rw [eS] at hd
  exact q d μ1 (bad_all kn' p1 far_sz far_len d hd) p1 t1
end
/-! ### the effect of a record -/
theorem strs_ne {xs : List Str} (h : ∀ z ∈ xs, Itm z) : vNe (.list (xs.map D.str)) (.list (xs.map D.str)) = some (.v (.bl false)) := by
  have e := eqL_self (xs := xs.map D.str) (ps := xs.map .str) (n := 1) (toPs_map fun _ => rfl) (okD_strs h)
  show (eqA _ _).map _ = _
  rw [e]; rfl
theorem put_itm {z : Str} {i : Nat} {zs : List Str} (hz : Itm z) (h : ∀ y ∈ zs, Itm y) : ∀ y ∈ putL z i zs, Itm y := fun y hy => by
  unfold putL at hy
  rcases List.mem_append.mp hy with hy | hy
  · rcases List.mem_append.mp hy with hy | hy
    · exact h y (List.mem_of_mem_take hy)
    · rw [List.mem_singleton.mp hy]; exact hz
  · exact h y (List.mem_of_mem_drop hy)
theorem oth_itm {z : Str} {zs : List Str} (h : ∀ y ∈ zs, Itm y) : ∀ y ∈ othL z zs, Itm y := fun y hy => h y (List.mem_filter.mp hy).1
theorem itm_len {z : Str} (h : Itm z) : z.cps.size ≤ 8 := by
  unfold Itm itemB at h
  simp only [Bool.and_eq_true, decide_eq_true_eq] at h
  exact h.1.2
theorem okI {z : Str} {n : Nat} (h : Itm z) : okR n 10 (.str z) := (okR.str (itm_ok h)).mono (Nat.le_refl _) (Nat.le_trans (itm_len h) (by decide))
def txt1 (zs : List Str) : Str := (PyData.list (zs.map .str)).shown
theorem okr_strs {zs : List Str} (hx : ∀ z ∈ zs, Itm z) (few : zs.length ≤ 60) : okR 2 2300 (.list (zs.map .str)) := by
  refine (okR.list (n := 0) (k := 10) fun d hd => ?_).mono (by decide) (by rw [List.length_map]; omega)
  obtain ⟨p, hp, rfl⟩ := List.mem_map.mp hd
  exact okI (hx p hp)
theorem p_strs {xs : List Str} : toP (.list (xs.map D.str)) = some (.list (xs.map .str)) := by rw [toP, toPs_map (g := .str) fun _ => rfl]; rfl
theorem ps1_strs {s : S} : ∀ {xs : List Str}, toPs1 s (xs.map D.str) = some (xs.map .str)
  | [] => rfl
  | x :: xs => by
    show ((toP1 s (.str x)).bind fun p => (toPs1 s (xs.map D.str)).bind fun ps => some (p :: ps)) = _
    rw [ps1_strs]; rfl
theorem rp_one {s : S} {zs : List Str} (hx : ∀ z ∈ zs, Itm z) (few : zs.length ≤ 60) : reprS s (.list (zs.map D.str)) = some (txt1 zs) := by
  obtain ⟨a, b, c, d⟩ := (okr_strs hx few).repr (by decide) (by decide)
  show (toPs1 s (zs.map D.str)).bind _ = _
  rw [ps1_strs, Option.bind_some, if_pos]
  · rfl
  · unfold reprOk
    rw [a, b, decide_eq_true c, decide_eq_true (show _ ≤ 16777216 from d)]
    rfl
/-! ### back and forth -/
theorem put_at {z : Str} {i : Nat} {zs : List Str} (h : i ≤ zs.length) : (putL z i zs)[i]? = some z := by
  unfold putL
  rw [List.append_assoc, List.getElem?_append_right (by rw [List.length_take]; omega), List.length_take, Nat.min_eq_left h, Nat.sub_self]; rfl
theorem oth_put {z : Str} {i : Nat} {zs : List Str} (h : z ∉ zs) : othL z (putL z i zs) = zs := by
  unfold othL putL
  rw [List.filter_append, List.filter_append, fil_none fun w => h (List.mem_of_mem_take w), fil_none fun w => h (List.mem_of_mem_drop w)]
  rw [show [z].filter (fun y => !decide (y = z)) = [] from by simp, List.append_nil, List.take_append_drop]
theorem put_len {z : Str} {i : Nat} {zs : List Str} : (putL z i zs).length = zs.length + 1 := by
  unfold putL
  rw [List.length_append, List.length_append, List.length_singleton, List.length_take, List.length_drop]; omega
theorem put_nd {z : Str} {i : Nat} {zs : List Str} (nd : zs.Nodup) (h : z ∉ zs) : (putL z i zs).Nodup := by
  have : (putL z i zs).Perm (z :: zs) := by
    unfold putL
    rw [List.append_assoc]
    refine (List.perm_middle (a := z) (l₁ := zs.take i) (l₂ := zs.drop i)).trans ?_
    rw [List.take_append_drop]
  exact this.nodup_iff.mpr (List.nodup_cons.mpr ⟨h, nd⟩)
theorem oth_no {z : Str} {zs : List Str} : z ∉ othL z zs := fun h => by
  unfold othL at h
  have := (List.mem_filter.mp h).2
  simp at this
theorem putL_at {z : Str} {i : Nat} {zs : List Str} (nd : zs.Nodup) (h : zs[i]? = some z) : putL z i (othL z zs) = zs := by
  rw [oth_at nd h]
  obtain ⟨il, e⟩ := List.getElem?_eq_some_iff.mp h
  unfold putL
  have tl : (zs.take i).length = i := by rw [List.length_take]; omega
  rw [List.take_left' tl, List.drop_left' tl]
  conv => rhs; rw [← List.take_append_drop i zs, List.drop_eq_getElem_cons il, e]
  rw [List.append_assoc]; rfl
theorem back {k i : Nat} {z : Str} {zs : List Str} (hk : k < 4) (kn : Knw zs) (hz : Itm z) (h : ceB k z i zs = true) : Knw (beL k z i zs) ∧ caB k z i (beL k z i zs) = true ∧ afL k z i (beL k z i zs) = zs := by
  have few := kn.few
  match k, hk with
  | 0, _ =>
    have h : z ∈ (zs.drop i).take 1 := of_decide_eq_true h
    have ha := mem_mid.mp h
    have il := (List.getElem?_eq_some_iff.mp ha).1
    have ol : (othL z zs).length + 1 = zs.length := by rw [oth_at kn.nd ha, List.length_append, List.length_take, List.length_drop]; omega
    refine ⟨⟨kn.nd.sublist List.filter_sublist, oth_itm kn.itm, Nat.le_trans oth_len few⟩, ?_, putL_at kn.nd ha⟩
    show roomB' z i (othL z zs) = true
    unfold roomB'
    rw [decide_eq_true (show (othL z zs).length < 60 by omega), decide_eq_false oth_no, decide_eq_true (show i ≤ (othL z zs).length by omega)]; rfl
  | 1, _ =>
    have h : roomB' z i zs = true := h
    unfold roomB' at h
    simp only [Bool.and_eq_true, decide_eq_true_eq, Bool.not_eq_true', decide_eq_false_iff_not] at h
    obtain ⟨h1, h2, h3⟩ := h
    refine ⟨⟨put_nd kn.nd h2, put_itm hz kn.itm, by show (putL z i zs).length ≤ 60; rw [put_len]; omega⟩, ?_, oth_put h2⟩
    show stB z i (putL z i zs) = true
    unfold stB
    exact decide_eq_true (mem_mid.mpr (put_at h3))
  | 2, _ =>
    have h : (decide (z ∈ zs.take 1) && decide (i < zs.length)) = true := h
    simp only [Bool.and_eq_true, decide_eq_true_eq] at h
    obtain ⟨h1, h2⟩ := h
    have h0 := mem_take1.mp h1
    have eo : othL z zs = zs.drop 1 := by rw [oth_at kn.nd h0, List.take_zero, List.nil_append]
    have ol : (othL z zs).length + 1 = zs.length := by rw [eo, List.length_drop]; omega
    refine ⟨⟨put_nd (kn.nd.sublist List.filter_sublist) oth_no, put_itm hz (oth_itm kn.itm), by show (putL z i (othL z zs)).length ≤ 60; rw [put_len]; omega⟩, ?_, ?_⟩
    · show stB z i (putL z i (othL z zs)) = true
      unfold stB
      exact decide_eq_true (mem_mid.mpr (put_at (by omega)))
    · show z :: othL z (putL z i (othL z zs)) = zs
      rw [oth_put oth_no]
      have := putL_at kn.nd h0
      unfold putL at this
      rw [List.take_zero, List.drop_zero] at this
      exact this
  | 3, _ => cases h
/-! ### shown -/
def toldP (k : Nat) (z : Str) (i : Nat) (zs : List Str) : PyData := if ceB k z i zs = true then .list ((beL k z i zs).map .str) else .tuple [.str "impossible", .str z]
theorem toP_told {k i : Nat} {z : Str} {zs : List Str} : toP (toldR k z i zs) = some (toldP k z i zs) := by
  unfold toldR toldP
  cases ceB k z i zs with
  | true => exact p_strs
  | false => rfl
theorem ok_told {k i : Nat} {z : Str} {zs : List Str} (hk : k < 4) (kn : Knw zs) (hz : Itm z) : okR 2 2300 (toldP k z i zs) := by
  unfold toldP
  cases h : ceB k z i zs with
  | true =>
    rw [if_pos rfl]
    have b := (back hk kn hz h).1
    exact okr_strs b.itm b.few
  | false =>
    rw [if_neg Bool.false_ne_true]
    refine (okR.tuple (n := 0) (k := 12) (ds := [.str "impossible", .str z]) fun d hd => ?_).mono (by decide) (by show (12 + 1) * 2 ≤ 2300; decide)
    rcases List.mem_cons.mp hd with rfl | hd
    · exact (okR.str (by decide +kernel)).mono (Nat.le_refl _) (by decide +kernel)
    · rw [List.mem_singleton.mp hd]
      exact (okI hz).mono (Nat.le_refl _) (by decide)
def txtP (p : PyData) : Str := (PyData.list [p, p]).shown
theorem rp_pair {s : S} {d1 d2 : D} {p : PyData} (h1 : toP1 s d1 = some p) (h2 : toP1 s d2 = some p) (ok : okR 2 2300 p) : reprS s (.list [d1, d2]) = some (txtP p) := by
  have o := okR.list (n := 2) (k := 2300) (ds := [p, p]) fun d hd => by
    rcases List.mem_cons.mp hd with rfl | hd
    · exact ok
    · rw [List.mem_singleton.mp hd]; exact ok
  obtain ⟨a, b, c, d⟩ := o.repr (by decide) (by show (2300 + 1) * 2 ≤ 1000000; decide)
  have e : toPs1 s [d1, d2] = some [p, p] := by
    show (toP1 s d1).bind _ = _
    rw [h1, Option.bind_some]
    show ((toP1 s d2).bind fun q => (toPs1 s []).bind fun qs => some (q :: qs)).bind _ = _
    rw [h2]; rfl
  show (toPs1 s [d1, d2]).bind _ = _
  rw [e, Option.bind_some, if_pos]
  · rfl
  · unfold reprOk
    rw [a, b, decide_eq_true c, decide_eq_true (show _ ≤ 16777216 from d)]
    rfl
/-! ### a record and a list -/
theorem ne_selfT {t : Str} : vNe (.str t) (.str t) = some (.v (.bl false)) := by rw [ne_sd, decide_eq_true rfl]; rfl
theorem eq_selfT {t : Str} : vEq (.str t) (.str t) = some (.v (.bl true)) := by rw [vEq_str, decide_eq_true rfl]
theorem lk_end {μ : List D} {d : D} : Lk (μ ++ [d]) (.loc μ.length) d := lk_loc (List.getElem?_concat_length ..)
theorem mReverse_list {xs : List D} : mReverse [] (.list xs) = some (.non, .list xs.reverse) := rfl
section
variable {k i : Nat} {z : Str} {zs : List Str} {e : D} {Q : Rs → List D → Prop} {X : XF}
theorem w_row_right {μ : List D} (hk : k < 4) (hi : i ≤ 60) (hz : Itm z) (kn' : Knw zs) (pl : Lk μ e (.list (zs.map D.str))) (q : ∀ l, Q (.v (.bl true)) (μ ++ l)) : Wf (F_law_row_right [rcD k z (i : Nat), .int (k : Nat), .str z, .int (i : Nat), e] μ) Q X := by
  have few := kn'.few
  have pl2 := fun env => pl env
  have r1 : ∀ s : S, reprS s (.list (zs.map D.str)) = some (txt1 zs) := fun s => rp_one kn'.itm few
  refine wf_run rfl ?_
  show Ws (T_law_row_right ⟨[some (.s (rcD k z (i : Nat))), some (.s (.int (k : Nat))), some (.s (.str z)), some (.s (.int (i : Nat))), some (.s e), none, none, none, none, none], μ⟩) _
  unfold T_law_row_right
  ((try walk_at "zs"); repeat (simp only [pl2, r1]; (try walk_at "zs")))
  refine w_undone hk kn' pl hz (fun h => ?_) (fun h => ?_)
  · have tr : toldR k z i zs = .list ((beL k z i zs).map D.str) := if_pos h
    have vn : ∀ ds, vIs (.list ds) .non = some (.v (.bl false)) := fun _ => rfl
    ((try walk_at "zs"); repeat (simp only [vn]; (try walk_at "zs")))
    refine w_told hk kn' pl ?_
    have p1 := pl.app (l := [toldR k z i zs])
    have pf := lk_end (μ := μ) (d := toldR k z i zs)
    walk_at "zs"
    refine w_told hk kn' p1 ?_
    obtain ⟨knb, hca, haf⟩ := back hk kn' hz h
    have okp := ok_told (k := k) (i := i) hk kn' hz
    have rA : ∀ env, reprS ⟨env, μ ++ [toldR k z i zs]⟩ (.list [.loc μ.length, toldR k z i zs]) = some (txtP (toldP k z i zs)) := fun env => rp_pair (by show (((μ ++ [toldR k z i zs])[μ.length]?).bind toP) = _; rw [List.getElem?_concat_length]; exact toP_told) (by have := toP_told (k := k) (z := z) (i := i) (zs := zs); rw [tr] at this ⊢; exact this) okp
    have rB : ∀ s, reprS s (.list [toldR k z i zs, toldR k z i zs]) = some (txtP (toldP k z i zs)) := fun s => by
      have : toP1 s (toldR k z i zs) = some (toldP k z i zs) := by have := toP_told (k := k) (z := z) (i := i) (zs := zs); rw [tr] at this ⊢; exact this
      exact rp_pair this this okp
    have rbe : ∀ s : S, reprS s (.list ((beL k z i zs).map D.str)) = some (txt1 (beL k z i zs)) := fun s => rp_one knb.itm knb.few
    rw [tr] at rA rB pf p1 ⊢
    have p1' := fun env => p1 env
    have pk : Lks (μ ++ [.list ((beL k z i zs).map D.str)]) (rcD k z (i : Nat)) k z i := fun _ => rfl
    have wa := fun (Q' : Rs → List D → Prop) (X' : XF) => w_applied (Q := Q') (X := X') hk pk pf knb hca
    rw [haf] at wa
    have ne := strs_ne kn'.itm
    have es : ∀ d d' : D, (μ ++ [d]).set μ.length d' = μ ++ [d'] := fun d d' => by simp
    have eg : ∀ d : D, (μ ++ [d])[μ.length]? = some d := fun d => List.getElem?_concat_length ..
    unfold rcD at wa ⊢
    ((try walk_at "zs"); repeat (simp only [rA, rB, p1', r1, ne_selfT, vn, m_apd hk, n_apd]; (try walk_at "zs")))
    refine wa _ _ ?_
    ((try walk_at "zs"); repeat (simp only [p1', ne, eg, es, mReverse_list]; (try walk_at "zs")))
    have bl := knb.few
    refine ⟨by rw [List.length_map]; omega, ?_⟩
    have p2 := pl.app (l := [D.list ((beL k z i zs).map D.str ++ [D.str (Str.ofString "new")]).reverse])
    generalize [D.list ((beL k z i zs).map D.str ++ [D.str (Str.ofString "new")]).reverse] = l2 at p2 ⊢
    have p2' := fun env => p2 env
    have pk2 : Lks (μ ++ l2) (rcD k z (i : Nat)) k z i := fun _ => rfl
    have wt := fun (Q' : Rs → List D → Prop) (X' : XF) => w_taken_back (Q := Q') (X := X') hk pk2 p2 kn' h
    unfold rcD at wt
    ((try walk_at "zs"); repeat (simp only [rbe, m_tb hk, n_tb, eq_selfT]; (try walk_at "zs")))
    refine wt _ _ ?_
    ((try walk_at "zs"); repeat (simp only [rbe, r1, p2', eq_selfT]; (try walk_at "zs")))
    exact q _
  · have tr : toldR k z i zs = .tup [.str "impossible", .str z] := if_neg (by rw [h]; exact Bool.false_ne_true)
    have vn : vIs .non .non = some (.v (.bl true)) := rfl
    ((try walk_at "zs"); repeat (simp only [vn]; (try walk_at "zs")))
    refine w_told hk kn' pl ?_
    have p1 := pl.app (l := [toldR k z i zs])
    have pf := lk_end (μ := μ) (d := toldR k z i zs)
    walk_at "zs"
    refine w_told hk kn' p1 ?_
    have okp := ok_told (k := k) (i := i) hk kn' hz
    have rA : ∀ env, reprS ⟨env, μ ++ [toldR k z i zs]⟩ (.list [.loc μ.length, toldR k z i zs]) = some (txtP (toldP k z i zs)) := fun env => rp_pair (by show (((μ ++ [toldR k z i zs])[μ.length]?).bind toP) = _; rw [List.getElem?_concat_length]; exact toP_told) (by have := toP_told (k := k) (z := z) (i := i) (zs := zs); rw [tr] at this ⊢; exact this) okp
    have rB : ∀ s, reprS s (.list [toldR k z i zs, toldR k z i zs]) = some (txtP (toldP k z i zs)) := fun s => by
      have : toP1 s (toldR k z i zs) = some (toldP k z i zs) := by have := toP_told (k := k) (z := z) (i := i) (zs := zs); rw [tr] at this ⊢; exact this
      exact rp_pair this this okp
    rw [tr] at rA rB pf p1 ⊢
    have p1' := fun env => p1 env
    ((try walk_at "zs"); repeat (simp only [rA, rB, p1', r1, ne_selfT, vn]; (try walk_at "zs")))
    exact q _
end
/-! ### the law -/
noncomputable def spC : TSd := TSeq (TAsg (TFn F_law_make (TCons (TVar 7) (TCons (TVar 8) (TCons (TVar 9) (TNil))))) 10) (TSeq (TIfS (TNot (TB (TFn F_law_row_right (TCons (TVar 10) (TCons (TVar 7) (TCons (TVar 8) (TCons (TVar 9) (TCons (TVar 4) (TNil))))))))) (TRet (TC (.bl false))) (TNext)) (TSeq (TAsg (TFn F_law_no_shelves (TCons (TVar 2) (TCons (TVar 4) (TNil)))) 11) (TSeq (TIfS (TOr (TB (TOp vNe (TFn F_law_told (TCons (TVar 10) (TCons (TVar 11) (TCons (TC (.bl false)) (TNil))))) (TC (.str "list")))) (TB (TOp vNe (TFn F_law_told (TCons (TVar 10) (TCons (TVar 11) (TCons (TC (.bl true)) (TNil))))) (TC (.str "list"))))) (TRet (TC (.bl false))) (TNext)) (TSeq (TDrop (TBM mReverse (TVar 4) TNil)) (TIfS (TAnd (TB (TOp vLt (TCB bLen (PCons (TVar 4) (PNil))) (TC (.int 60)))) (TB (TOp vEq (TVar 6) (TC (.int 1))))) (TDrop (TBM mAppend (TVar 4) (TCons (TOp vIx (TVar 5) (TC (.int 3))) (TNil)))) (TNext))))))
noncomputable def spD : TSd := TSeq (TIfS (TAnd (TB (TOp vEq (TVar 7) (TC (.int 1)))) (TB (TOp vEq (TFn F_law_pick (TCons (TVar 2) (TCons (TC (.int 2)) (TNil)))) (TC (.int 0))))) (TAsg (TOp vIx (TVar 5) (TC (.int 1))) 8) (TNext)) spC
noncomputable def spE : TSd := TSeq (TIfS (TAnd (TB (TOp vEq (TVar 7) (TC (.int 1)))) (TB (TOp vEq (TFn F_law_pick (TCons (TVar 2) (TCons (TC (.int 2)) (TNil)))) (TC (.int 0))))) (TAsg (TOp vIx (TVar 5) (TC (.int 1))) 8) (TNext)) (TSeq (TAsg (TFn F_law_make (TCons (TVar 7) (TCons (TVar 8) (TCons (TVar 9) (TNil))))) 10) (TSeq (TIfS (TNot (TB (TFn F_law_row_right (TCons (TVar 10) (TCons (TVar 7) (TCons (TVar 8) (TCons (TVar 9) (TCons (TVar 4) (TNil))))))))) (TRet (TC (.bl false))) (TNext)) (TSeq (TAsg (TFn F_law_no_shelves (TCons (TVar 2) (TCons (TVar 4) (TNil)))) 11) (TSeq (TIfS (TOr (TB (TOp vNe (TFn F_law_told (TCons (TVar 10) (TCons (TVar 11) (TCons (TC (.bl false)) (TNil))))) (TC (.str "list")))) (TB (TOp vNe (TFn F_law_told (TCons (TVar 10) (TCons (TVar 11) (TCons (TC (.bl true)) (TNil))))) (TC (.str "list"))))) (TRet (TC (.bl false))) (TNext)) (TSeq (TDrop (TBM mReverse (TVar 4) TNil)) (TIfS (TAnd (TB (TOp vLt (TCB bLen (PCons (TVar 4) (PNil))) (TC (.int 60)))) (TB (TOp vEq (TVar 6) (TC (.int 1))))) (TDrop (TBM mAppend (TVar 4) (TCons (TOp vIx (TVar 5) (TC (.int 3))) (TNil)))) (TNext)))))))
noncomputable def spB : TSd := TSeq (TAsgG (TFn F_law_case (TCons (TVar 2) (TCons (TVar 4) (TCons (TVar 5) (TNil))))) (GTup 3 (GCons (GName 7) (GCons (GName 8) (GCons (GName 9) (GNil)))))) (TSeq (TIfS (TAnd (TB (TOp vEq (TVar 7) (TC (.int 2)))) (TAnd (TB (TOp vNe (TVar 4) (TLst (TNil)))) (TB (TOp vEq (TFn F_law_pick (TCons (TVar 2) (TCons (TC (.int 2)) (TNil)))) (TC (.int 0)))))) (TAsg (TOp vIx (TVar 4) (TC (.int 0))) 8) (TNext)) (TSeq (TIfS (TAnd (TB (TOp vEq (TVar 7) (TC (.int 1)))) (TB (TOp vEq (TFn F_law_pick (TCons (TVar 2) (TCons (TC (.int 2)) (TNil)))) (TC (.int 0))))) (TAsg (TOp vIx (TVar 5) (TC (.int 1))) 8) (TNext)) (TSeq (TAsg (TFn F_law_make (TCons (TVar 7) (TCons (TVar 8) (TCons (TVar 9) (TNil))))) 10) (TSeq (TIfS (TNot (TB (TFn F_law_row_right (TCons (TVar 10) (TCons (TVar 7) (TCons (TVar 8) (TCons (TVar 9) (TCons (TVar 4) (TNil))))))))) (TRet (TC (.bl false))) (TNext)) (TSeq (TAsg (TFn F_law_no_shelves (TCons (TVar 2) (TCons (TVar 4) (TNil)))) 11) (TSeq (TIfS (TOr (TB (TOp vNe (TFn F_law_told (TCons (TVar 10) (TCons (TVar 11) (TCons (TC (.bl false)) (TNil))))) (TC (.str "list")))) (TB (TOp vNe (TFn F_law_told (TCons (TVar 10) (TCons (TVar 11) (TCons (TC (.bl true)) (TNil))))) (TC (.str "list"))))) (TRet (TC (.bl false))) (TNext)) (TSeq (TDrop (TBM mReverse (TVar 4) TNil)) (TIfS (TAnd (TB (TOp vLt (TCB bLen (PCons (TVar 4) (PNil))) (TC (.int 60)))) (TB (TOp vEq (TVar 6) (TC (.int 1))))) (TDrop (TBM mAppend (TVar 4) (TCons (TOp vIx (TVar 5) (TC (.int 3))) (TNil)))) (TNext)))))))))
noncomputable def lpE : TSd := TSeq (TAsgG (TFn F_law_case (TCons (TVar 2) (TCons (TVar 4) (TCons (TVar 5) (TNil))))) (GTup 3 (GCons (GName 7) (GCons (GName 8) (GCons (GName 9) (GNil)))))) (TSeq (TAsg (TFn F_law_make (TCons (TVar 7) (TCons (TVar 8) (TCons (TVar 9) (TNil))))) 10) (TFor (ILst (TLst (TCons (TVar 4) (TCons (TRevL (TVar 4)) (TCons (TSl slL (TVar 4) (TPart (TC (.int 1))) (TNoP)) (TCons (TVar 4) (TCons (TOp vAdd (TSl slL (TVar 4) (TNoP) (TPart (TUn vNeg (TC (.int 1))))) (TSl slL (TVar 5) (TPart (TC (.int 1))) (TPart (TC (.int 2))))) (TCons (TRevL (TVar 4)) (TCons (TVar 5) (TNil)))))))))) (GName 12) (TIfS (TNot (TB (TFn F_law_row_right (TCons (TVar 10) (TCons (TVar 7) (TCons (TVar 8) (TCons (TVar 9) (TCons (TVar 12) (TNil))))))))) (TRet (TC (.bl false))) (TNext))))
theorem spB_eq : spB = TSeq (TAsgG (TFn F_law_case (TCons (TVar 2) (TCons (TVar 4) (TCons (TVar 5) (TNil))))) (GTup 3 (GCons (GName 7) (GCons (GName 8) (GCons (GName 9) (GNil)))))) (TSeq (TIfS (TAnd (TB (TOp vEq (TVar 7) (TC (.int 2)))) (TAnd (TB (TOp vNe (TVar 4) (TLst (TNil)))) (TB (TOp vEq (TFn F_law_pick (TCons (TVar 2) (TCons (TC (.int 2)) (TNil)))) (TC (.int 0)))))) (TAsg (TOp vIx (TVar 4) (TC (.int 0))) 8) (TNext)) spE) := rfl
theorem spE_eq : spE = spD := rfl
theorem law_eq : T_law = TSeq (TFor (IRng1 (TCons (TCB bMax (PCons (TC (.int 1)) (PCons (TCB bMin (PCons (TC (.int 4)) (PCons (TCB bLen (PCons (TVar 0) (PNil))) (PNil)))) (PNil)))) (TNil))) (GName 1) (TSeq (TAsg (TKeep (TFn F_law_source (TCons (TVar 0) (TCons (TVar 1) (TNil))))) 2) (TFor (IRng1 (TCons (TC (.int 12)) (TNil))) (GName 3) (TSeq (TAsgG (TFn F_law_shelf (TCons (TVar 2) (TCons (TC (.int 60)) (TNil)))) (GTup 2 (GCons (GName 4) (GCons (GName 5) (GNil))))) (TSeq (TFor (IRng1 (TCons (TC (.int 3)) (TNil))) (GName 6) spB) lpE))))) (TRet (TAndV (TOp vEq (TMth mt_taken_back "taken_back" (TFn I_Fronted (TCons (TC (.str "b")) (TCons (TC (.int 1)) (TNil)))) (TCons (TLst (TCons (TC (.str "b")) (TCons (TC (.str "a")) (TNil)))) (TNil))) (TLst (TCons (TC (.str "a")) (TCons (TC (.str "b")) (TNil))))) (TOp vEq (TMth mt_taken_back "taken_back" (TFn I_Removed (TCons (TC (.str "x")) (TCons (TC (.int 0)) (TNil)))) (TCons (TLst (TNil)) (TNil))) (TLst (TCons (TC (.str "x")) (TNil)))))) := rfl
structure Sh (μ : List D) (n m : Nat) (zs ys : List Str) (c : Int) : Prop where
  tape : Tape μ n c
  at_ : Lk μ (.loc m) (.list (zs.map D.str))
  ne : n < m
  kn : Knw zs
  yl : ys.length = 4
  yi : ∀ y ∈ ys, Itm y
  nd : ys.Nodup
  y1 : ∀ y, ys[1]? = some y → y ∉ zs
theorem Sh.en {μ : List D} {n m : Nat} {zs ys : List Str} {c : Int} (h : Sh μ n m zs ys c) : D.loc m ≠ .loc n := fun e => by
  have := h.ne
  injection e with e
  omega
theorem ys_at {ys : List Str} (yl : ys.length = 4) {i : Nat} (hi : i < 4) : ∃ y, ys[i]? = some y ∧ y ∈ ys ∧ atI (ys.map D.str) (i : Int) = some (.str y) := by
  have il : i < ys.length := by omega
  exact ⟨ys[i], List.getElem?_eq_getElem il, List.getElem_mem _, by rw [atI_nat (by rw [List.length_map]; exact il)]; simp only [List.getElem_map]⟩
section
variable {n m : Nat} {zs ys : List Str} {c : Int} {Q : Fl → S → Prop} {ns : List Int}
theorem w_spC {μ : List D} {k v j : Nat} {z : Str} {v1 v3 v10 v11 v12 : Option A} (h : Sh μ n m zs ys c) (hc : c ≤ 500000) (hk : k < 4) (vl : v ≤ 60) (iz : Itm z) (hj : j < 3) (y3 : j ≤ 1 → ∀ y, ys[3]? = some y → y ∉ zs)
    (q : ∀ zs' v10 v11 μ', Sh μ' n m zs' ys (c + 1) → (j + 1 ≤ 1 → ∀ y, ys[3]? = some y → y ∉ zs') → Q .nx ⟨[some (.s (.scr (ns.map D.int))), v1, some (.s (.loc n)), v3, some (.s (.loc m)), some (.s (.list (ys.map D.str))), some (.s (.int (j : Int))), some (.s (.int (k : Int))), some (.s (.str z)), some (.s (.int (v : Int))), v10, v11, v12], μ'⟩) :
    Ws (spC ⟨[some (.s (.scr (ns.map D.int))), v1, some (.s (.loc n)), v3, some (.s (.loc m)), some (.s (.list (ys.map D.str))), some (.s (.int (j : Int))), some (.s (.int (k : Int))), some (.s (.str z)), some (.s (.int (v : Int))), v10, v11, v12], μ⟩) Q := by
  have few := h.kn.few
  unfold spC
  walk_at "zs"
  refine w_make hk iz (by omega) (by omega) ?_
  walk_at "zs"
  refine w_row_right hk vl iz h.kn h.at_ fun l => ?_
  have t1 : Tape (μ ++ l) n c := h.tape.app
  have p1 := h.at_.app (l := l)
  generalize μ ++ l = μ1 at t1 p1
  walk_at "zs"
  refine w_no_shelves h.kn p1 h.en t1 (by omega) fun d μ2 bd p2 t2 => ?_
  walk_at "zs"
  refine w_toldL hk bd ?_
  walk_at "zs"
  refine w_toldL hk bd ?_
  have p2' : μ2[m]? = some (.list (zs.map D.str)) := p2 []
  have ml : m < μ2.length := (List.getElem?_eq_some_iff.mp p2').1
  have kr : Knw zs.reverse := ⟨(List.reverse_perm zs).nodup_iff.mpr h.kn.nd, fun z hz => h.kn.itm z (List.mem_reverse.mp hz), by rw [List.length_reverse]; exact few⟩
  have er : (zs.map D.str).reverse = zs.reverse.map D.str := by rw [List.map_reverse]
  have eg : ∀ d, (μ2.set m d)[m]? = some d := fun d => by rw [List.getElem?_set_self ml]
  have tb : Tape (μ2.set m (.list (zs.reverse.map D.str))) n (c + 1) := t2.other (by have := h.ne; omega)
  have sh1 : Sh (μ2.set m (.list (zs.reverse.map D.str))) n m zs.reverse ys (c + 1) := ⟨tb, lk_loc (eg _), h.ne, kr, h.yl, h.yi, h.nd, fun y hy hm => h.y1 y hy (List.mem_reverse.mp hm)⟩
  have y3' : j ≤ 1 → ∀ y, ys[3]? = some y → y ∉ zs.reverse := fun hj y hy hm => y3 hj y hy (List.mem_reverse.mp hm)
  ((try walk_at "zs"); repeat (simp only [p2', er, mReverse_list, eg, List.length_map, List.length_reverse]; (try walk_at "zs")))
  have n1 : Q .nx ⟨[some (.s (.scr (ns.map D.int))), v1, some (.s (.loc n)), v3, some (.s (.loc m)), some (.s (.list (ys.map D.str))), some (.s (.int (j : Int))), some (.s (.int (k : Int))), some (.s (.str z)), some (.s (.int (v : Int))), some (.s (rcD k z (v : Int))), some (.s d), v12], μ2.set m (.list (zs.reverse.map D.str))⟩ := q _ _ _ _ sh1 fun hj => y3' (by omega)
  by_cases c1 : (zs.length : Int) < 60
  · rw [if_pos c1]
    by_cases c2 : (j : Int) = 1
    · rw [if_pos c2]
      obtain ⟨y, hy, ym, ey⟩ := ys_at h.yl (i := 3) (by decide)
      have ey : atI (ys.map D.str) 3 = some (.str y) := ey
      have ap : zs.reverse.map D.str ++ [D.str y] = (zs.reverse ++ [y]).map D.str := by rw [List.map_append]; rfl
      have ss : ∀ a b : D, (μ2.set m a).set m b = μ2.set m b := fun a b => List.set_set ..
      ((try walk_at "zs"); repeat (simp only [ey, eg, ap, ss, List.length_map, List.length_reverse]; (try walk_at "zs")))
      have yn := y3' (by omega) y hy
      refine ⟨by omega, q _ _ _ _ ⟨t2.other (by have := h.ne; omega), lk_loc (eg _), h.ne, ⟨?_, fun x hx => ?_, by rw [List.length_append, List.length_reverse, List.length_singleton]; omega⟩, h.yl, h.yi, h.nd, fun w hw hm => ?_⟩ fun hj => by omega⟩
      · exact List.nodup_append.mpr ⟨kr.nd, by simp, fun a ha b hb => by rw [List.mem_singleton.mp hb]; intro e; rw [e] at ha; exact yn ha⟩
      · rcases List.mem_append.mp hx with hx | hx
        · exact kr.itm x hx
        · rw [List.mem_singleton.mp hx]; exact h.yi y ym
      · rcases List.mem_append.mp hm with hm | hm
        · exact h.y1 w hw (List.mem_reverse.mp hm)
        · rw [List.mem_singleton.mp hm] at hw
          have := (List.getElem?_inj (by rw [h.yl]; decide) h.nd).mp (hw.trans hy.symm)
          omega
    · rw [if_neg c2]
      exact n1
  · rw [if_neg c1]
    exact n1
theorem w_spD {μ : List D} {k v j : Nat} {z : Str} {v1 v3 v10 v11 v12 : Option A} (h : Sh μ n m zs ys c) (hc : c ≤ 450000) (hk : k < 4) (vl : v ≤ 60) (iz : Itm z) (hj : j < 3) (y3 : j ≤ 1 → ∀ y, ys[3]? = some y → y ∉ zs)
    (q : ∀ zs' z v10 v11 μ', Sh μ' n m zs' ys (c + 2) → (j + 1 ≤ 1 → ∀ y, ys[3]? = some y → y ∉ zs') → Q .nx ⟨[some (.s (.scr (ns.map D.int))), v1, some (.s (.loc n)), v3, some (.s (.loc m)), some (.s (.list (ys.map D.str))), some (.s (.int (j : Int))), some (.s (.int (k : Int))), some (.s (.str z)), some (.s (.int (v : Int))), v10, v11, v12], μ'⟩) :
    Ws (spD ⟨[some (.s (.scr (ns.map D.int))), v1, some (.s (.loc n)), v3, some (.s (.loc m)), some (.s (.list (ys.map D.str))), some (.s (.int (j : Int))), some (.s (.int (k : Int))), some (.s (.str z)), some (.s (.int (v : Int))), v10, v11, v12], μ⟩) Q := by
  have done : ∀ (z : Str) (μ2 : List D), Itm z → Lk μ2 (.loc m) (.list (zs.map D.str)) → Tape μ2 n (c + 1) → Ws (spC ⟨[some (.s (.scr (ns.map D.int))), v1, some (.s (.loc n)), v3, some (.s (.loc m)), some (.s (.list (ys.map D.str))), some (.s (.int (j : Int))), some (.s (.int (k : Int))), some (.s (.str z)), some (.s (.int (v : Int))), v10, v11, v12], μ2⟩) Q := fun z μ2 iz p2 t2 =>
    w_spC ⟨t2, p2, h.ne, h.kn, h.yl, h.yi, h.nd, h.y1⟩ (by omega) hk vl iz hj y3 fun zs' v10 v11 μ3 h3 y3' => q _ _ _ _ _ ⟨h3.tape.mono (by omega), h3.at_, h3.ne, h3.kn, h3.yl, h3.yi, h3.nd, h3.y1⟩ y3'
  obtain ⟨y, hy, ym, ey⟩ := ys_at h.yl (i := 1) (by decide)
  have ey : atI (ys.map D.str) 1 = some (.str y) := ey
  unfold spD
  by_cases c1 : (k : Int) = 1
  · obtain rfl : k = 1 := by omega
    walk_at "zs"
    refine w_pick h.tape (by omega) (by omega) (by omega) fun r d r0 r1 t1 => ?_
    have p1 := h.at_.set (y := d) h.en
    generalize μ.set n d = μ1 at t1 p1
    by_cases c2 : r = 0
    · ((try walk_at "zs"); repeat (simp only [c2, ey]; (try walk_at "zs")))
      exact done y _ (h.yi y ym) p1 t1
    · ((try walk_at "zs"); repeat (simp only [c2]; (try walk_at "zs")))
      exact done z _ iz p1 t1
  · ((try walk_at "zs"); repeat (simp only [c1]; (try walk_at "zs")))
    exact done z _ iz h.at_ (h.tape.mono (by omega))
theorem w_spB {μ : List D} {j : Nat} {v1 v3 v7 v8 v9 v10 v11 v12 : Option A} (h : Sh μ n m zs ys c) (hc : c ≤ 400000) (hj : j < 3) (y3 : j ≤ 1 → ∀ y, ys[3]? = some y → y ∉ zs)
    (q : ∀ zs' v7 v8 v9 v10 v11 μ', Sh μ' n m zs' ys (c + 30) → (j + 1 ≤ 1 → ∀ y, ys[3]? = some y → y ∉ zs') → Q .nx ⟨[some (.s (.scr (ns.map D.int))), v1, some (.s (.loc n)), v3, some (.s (.loc m)), some (.s (.list (ys.map D.str))), some (.s (.int (j : Int))), v7, v8, v9, v10, v11, v12], μ'⟩) :
    Ws (spB ⟨[some (.s (.scr (ns.map D.int))), v1, some (.s (.loc n)), v3, some (.s (.loc m)), some (.s (.list (ys.map D.str))), some (.s (.int (j : Int))), v7, v8, v9, v10, v11, v12], μ⟩) Q := by
  have few := h.kn.few
  rw [spB_eq]
  walk_at "zs"
  refine w_case h.kn h.at_ h.en h.yi h.yl h.tape (by omega) fun k v z μ1 hk vl iz p1 t1 => ?_
  have done : ∀ (z : Str) (μ2 : List D), Itm z → Lk μ2 (.loc m) (.list (zs.map D.str)) → Tape μ2 n (c + 25) → Ws (spD ⟨[some (.s (.scr (ns.map D.int))), v1, some (.s (.loc n)), v3, some (.s (.loc m)), some (.s (.list (ys.map D.str))), some (.s (.int (j : Int))), some (.s (.int (k : Int))), some (.s (.str z)), some (.s (.int (v : Int))), v10, v11, v12], μ2⟩) Q := fun z μ2 iz p2 t2 =>
    w_spD ⟨t2, p2, h.ne, h.kn, h.yl, h.yi, h.nd, h.y1⟩ (by omega) hk vl iz hj y3 fun zs' z v10 v11 μ3 h3 y3' => q _ _ _ _ _ _ _ ⟨h3.tape.mono (by omega), h3.at_, h3.ne, h3.kn, h3.yl, h3.yi, h3.nd, h3.y1⟩ y3'
  have p1' : μ1[m]? = some (.list (zs.map D.str)) := p1 []
  rw [spE_eq]
  by_cases c1 : (k : Int) = 2
  · obtain rfl : k = 2 := by omega
    by_cases cz : zs = []
    · have vn : vNe (.list (zs.map D.str)) (.list []) = some (.v (.bl false)) := by rw [cz]; rfl
      ((try walk_at "zs"); repeat (simp only [p1', vn]; (try walk_at "zs")))
      exact done z _ iz p1 (t1.mono (by omega))
    · have vn : vNe (.list (zs.map D.str)) (.list []) = some (.v (.bl true)) := by
        cases zs with
        | nil => exact absurd rfl cz
        | cons x xs => rfl
      ((try walk_at "zs"); repeat (simp only [p1', vn]; (try walk_at "zs")))
      refine w_pick t1 (by omega) (by omega) (by omega) fun r d r0 r1 t2 => ?_
      have p2 := p1.set (y := d) h.en
      generalize μ1.set n d = μ2 at t2 p2
      have p2' : μ2[m]? = some (.list (zs.map D.str)) := p2 []
      by_cases c2 : r = 0
      · have zl : 0 < zs.length := List.length_pos_iff.mpr cz
        obtain ⟨y, hy, ey⟩ := at_strs (xs := zs) (r := 0) (by omega) (by omega)
        ((try walk_at "zs"); repeat (simp only [c2, p2', ey]; (try walk_at "zs")))
        exact done y _ (h.kn.itm y hy) p2 (t2.mono (by omega))
      · ((try walk_at "zs"); repeat (simp only [c2]; (try walk_at "zs")))
        exact done z _ iz p2 (t2.mono (by omega))
  · ((try walk_at "zs"); repeat (simp only [c1]; (try walk_at "zs")))
    exact done z _ iz p1 (t1.mono (by omega))
theorem knw_sub {zs ws : List Str} (kn' : Knw zs) (s : ws.Sublist zs) : Knw ws := ⟨kn'.nd.sublist s, fun z hz => kn'.itm z (s.subset hz), Nat.le_trans s.length_le kn'.few⟩
theorem cut_butlast {α : Type} {xs : List α} : cutL xs none (some (-1)) = xs.dropLast := by
  unfold cutL
  rw [HT.sIx_none]
  have e : HT.sIx xs.length xs.length (some (-1)) = xs.length - 1 := by
    show (if (-1 : Int) < 0 then (-1 + (xs.length : Int)).toNat else min (-1 : Int).toNat xs.length) = _
    rw [if_pos (by decide)]; omega
  rw [e, List.drop_zero, Nat.sub_zero, List.dropLast_eq_take]
theorem w_lpE {μ : List D} {v1 v3 v6 v7 v8 v9 v10 v11 v12 : Option A} (h : Sh μ n m zs ys c) (hc : c ≤ 400000)
    (q : ∀ v7 v8 v9 v10 v12 μ', Tape μ' n (c + 30) → Q .nx ⟨[some (.s (.scr (ns.map D.int))), v1, some (.s (.loc n)), v3, some (.s (.loc m)), some (.s (.list (ys.map D.str))), v6, v7, v8, v9, v10, v11, v12], μ'⟩) :
    Ws (lpE ⟨[some (.s (.scr (ns.map D.int))), v1, some (.s (.loc n)), v3, some (.s (.loc m)), some (.s (.list (ys.map D.str))), v6, v7, v8, v9, v10, v11, v12], μ⟩) Q := by
  have few := h.kn.few
  have kr : Knw zs.reverse := ⟨(List.reverse_perm zs).nodup_iff.mpr h.kn.nd, fun z hz => h.kn.itm z (List.mem_reverse.mp hz), by rw [List.length_reverse]; exact few⟩
  obtain ⟨y, hy, ym, ey⟩ := ys_at h.yl (i := 1) (by decide)
  have c1 : cutL (zs.map D.str) (some 1) none = (zs.drop 1).map D.str := by rw [cutL_map]; exact congrArg _ (cutL_from (i := 1))
  have c2 : cutL (zs.map D.str) none (some (-1)) = zs.dropLast.map D.str := by rw [cutL_map, cut_butlast]
  have c3 : cutL (ys.map D.str) (some 1) (some 2) = [y].map D.str := by
    rw [cutL_map, show cutL ys (some 1) (some 2) = (ys.drop 1).take 1 from cut_mid (j := 1)]
    congr 1
    obtain ⟨il, e⟩ := List.getElem?_eq_some_iff.mp hy
    rw [List.drop_eq_getElem_cons il, e]; rfl
  have rv : revL (.list (zs.map D.str)) = some (.fr (.list (zs.reverse.map D.str))) := by show some (Rs.fr (.list (zs.map D.str).reverse)) = _; rw [List.map_reverse]
  unfold lpE
  walk_at "zs"
  refine w_case h.kn h.at_ h.en h.yi h.yl h.tape (by omega) fun k v z μ1 hk vl iz p1 t1 => ?_
  have p1' : μ1[m]? = some (.list (zs.map D.str)) := p1 []
  walk_at "zs"
  refine w_make hk iz (by omega) (by omega) ?_
  have ap : zs.dropLast.map D.str ++ [y].map D.str = (zs.dropLast ++ [y]).map D.str := by rw [List.map_append]
  have dl : zs.dropLast.length ≤ 60 := by rw [List.length_dropLast]; omega
  ((try walk_at "zs"); repeat (simp only [p1', rv, slL_list, c1, c2, c3]; (try walk_at "zs")))
  rw [ap]
  have kd : Knw (zs.dropLast ++ [y]) := ⟨List.nodup_append.mpr ⟨h.kn.nd.sublist (List.dropLast_sublist _), by simp, fun a ha b hb => by rw [List.mem_singleton.mp hb]; intro e; rw [e] at ha; exact h.y1 y hy ((List.dropLast_sublist _).subset ha)⟩, fun x hx => by
      rcases List.mem_append.mp hx with hx | hx
      · exact h.kn.itm x ((List.dropLast_sublist _).subset hx)
      · rw [List.mem_singleton.mp hx]; exact h.yi y ym, by
      by_cases c : zs = []
      · rw [c]; show 1 ≤ 60; decide
      · have := List.length_pos_iff.mpr c
        rw [List.length_append, List.length_dropLast, List.length_singleton]; omega⟩
  have ky : Knw ys := ⟨h.nd, h.yi, by have := h.yl; omega⟩
  have all : ∀ d ∈ [D.loc m, .list (zs.reverse.map D.str), .list ((zs.drop 1).map D.str), .loc m, .list ((zs.dropLast ++ [y]).map D.str), .list (zs.reverse.map D.str), .list (ys.map D.str)], ∃ ws, Knw ws ∧ Lk μ1 d (.list (ws.map D.str)) := fun d hd => by
    simp only [List.mem_cons, List.not_mem_nil, or_false] at hd
    rcases hd with rfl | rfl | rfl | rfl | rfl | rfl | rfl
    · exact ⟨zs, h.kn, p1⟩
    · exact ⟨_, kr, lk_list⟩
    · exact ⟨_, knw_sub h.kn (List.drop_sublist _ _), lk_list⟩
    · exact ⟨zs, h.kn, p1⟩
    · exact ⟨_, kd, lk_list⟩
    · exact ⟨_, kr, lk_list⟩
    · exact ⟨_, ky, lk_list⟩
  generalize [D.loc m, .list (zs.reverse.map D.str), .list ((zs.drop 1).map D.str), .loc m, .list ((zs.dropLast ++ [y]).map D.str), .list (zs.reverse.map D.str), .list (ys.map D.str)] = L at all
  refine ⟨by rw [List.length_map, List.length_map]; show _ + 1 ≤ _; omega, ?_⟩
  refine for_inv (fun j s => ∃ (a10 : A) (v12 : Option A) (l : List D), s = ⟨[some (.s (.scr (ns.map D.int))), v1, some (.s (.loc n)), v3, some (.s (.loc m)), some (.s (.list (ys.map D.str))), v6, some (.s (.int (k : Int))), some (.s (.str z)), some (.s (.int (v : Int))), some a10, v11, v12], μ1 ++ l⟩ ∧ (a10 = .s (rcD k z (v : Int)) ∨ a10 = .o (rcD k z (v : Int)))) ⟨_, _, [], by rw [List.append_nil], .inr rfl⟩ ?_ ?_
  · rintro j d s hd ⟨a10, v12, l, rfl, h10⟩
    obtain ⟨ws, kw, pw⟩ := all d (List.mem_of_getElem? hd)
    have pw := pw.app (l := l)
    rcases h10 with rfl | rfl
    all_goals
      ((try walk_at "zs"); repeat (simp only [peek_rc]; (try walk_at "zs")))
      refine w_row_right hk vl iz kw pw fun l2 => ?_
      walk_at "zs"
      exact ⟨_, _, l ++ l2, by rw [List.append_assoc], .inl rfl⟩
  · rintro s ⟨a10, v12, l, rfl, h10⟩
    exact q _ _ _ _ _ _ (t1.app.mono (by omega))
theorem law_true (ns : List Int) (hl : ns.length ≤ 63) : ∃ μ, F_law [.scr (ns.map D.int)] [] = some (.ok (.v (.bl true)), μ) := by
  refine wf_eq (wf_run rfl ?_)
  show Ws (T_law ⟨[some (.s (.scr (ns.map D.int))), none, none, none, none, none, none, none, none, none, none, none, none], []⟩) _
  rw [law_eq]
  walk_at "zs"
  have hm : ∃ m : Int, (if (if ((ns.map D.int).length : Int) < 4 then ((ns.map D.int).length : Int) else 4) > 1 then (if ((ns.map D.int).length : Int) < 4 then ((ns.map D.int).length : Int) else 4) else 1) = m ∧ 1 ≤ m ∧ m ≤ 4 := ⟨_, rfl, by split <;> omega, by split <;> (try split) <;> omega⟩
  obtain ⟨m, em, m1, m6⟩ := hm
  rw [em]
  refine ⟨by simp [smallI]; omega, ?_⟩
  refine for_inv (fun k s => ∃ (v1 v2 v3 v4 v5 v6 v7 v8 v9 v10 v11 v12 : Option A) (μ : List D), s = ⟨[some (.s (.scr (ns.map D.int))), v1, v2, v3, v4, v5, v6, v7, v8, v9, v10, v11, v12], μ⟩) ⟨_, _, _, _, _, _, _, _, _, _, _, _, _, rfl⟩ ?_ ?_
  · rintro k d s hd ⟨v1, v2, v3, v4, v5, v6, v7, v8, v9, v10, v11, v12, μ, rfl⟩
    obtain ⟨rfl, hk⟩ := rng_get hd
    walk_at "zs"
    refine w_source (by omega) fun n0 n1 h0 h1 h2 => ?_
    walk_at "zs"
    refine ⟨by decide, ?_⟩
    refine for_inv (fun j s => ∃ (v3 v4 v5 v6 v7 v8 v9 v10 v11 v12 : Option A) (μ' : List D), s = ⟨[some (.s (.scr (ns.map D.int))), some (.s (.int (k : Int))), some (.s (.loc μ.length)), v3, v4, v5, v6, v7, v8, v9, v10, v11, v12], μ'⟩ ∧ Tape μ' μ.length (300 * j)) ⟨_, _, _, _, _, _, _, _, _, _, _, rfl, n0, n1, 0, by simp, h0, h1, h2, by omega, by omega⟩ ?_ ?_
    · rintro j d s hd ⟨v3, v4, v5, v6, v7, v8, v9, v10, v11, v12, μ1, rfl, t1⟩
      obtain ⟨rfl, hj⟩ := rng_get hd
      have hj : j < 12 := hj
      generalize μ.length = n at t1
      walk_at "zs"
      refine w_shelf t1 (by omega) fun zs ys μ2 kz yl yi dj nd t2 => ?_
      have sh0 : Sh (μ2 ++ [.list (zs.map D.str)]) n μ2.length zs ys (300 * (j : Int) + 100) := ⟨t2.app, lk_end, t2.lt, kz, yl, yi, nd, fun y hy => dj y (List.mem_of_getElem? hy)⟩
      have y30 : ∀ y, ys[3]? = some y → y ∉ zs := fun y hy => dj y (List.mem_of_getElem? hy)
      generalize μ2 ++ [D.list (zs.map D.str)] = μ3 at sh0
      generalize μ2.length = m at sh0
      walk_at "zs"
      refine ⟨by decide, ?_⟩
      refine for_inv (fun i s => ∃ (v6 v7 v8 v9 v10 v11 : Option A) (zs : List Str) (μ' : List D), s = ⟨[some (.s (.scr (ns.map D.int))), some (.s (.int (k : Int))), some (.s (.loc n)), some (.s (.int (j : Int))), some (.s (.loc m)), some (.s (.list (ys.map D.str))), v6, v7, v8, v9, v10, v11, v12], μ'⟩ ∧ Sh μ' n m zs ys (300 * (j : Int) + 100 + 30 * i) ∧ (i ≤ 1 → ∀ y, ys[3]? = some y → y ∉ zs)) ⟨_, _, _, _, _, _, zs, μ3, rfl, by simpa using sh0, fun _ => y30⟩ ?_ ?_
      · rintro i d s hd ⟨v6, v7, v8, v9, v10, v11, zs, μ4, rfl, sh, y3⟩
        obtain ⟨rfl, hi⟩ := rng_get hd
        have hi : i < 3 := hi
        walk_at "zs"
        exact w_spB sh (by omega) hi y3 fun zs' v7 v8 v9 v10 v11 μ5 h5 y5 => ⟨_, _, _, _, _, _, zs', μ5, rfl, ⟨h5.tape.mono (by omega), h5.at_, h5.ne, h5.kn, h5.yl, h5.yi, h5.nd, h5.y1⟩, fun hi => y5 (by omega)⟩
      · rintro s ⟨v6, v7, v8, v9, v10, v11, zs, μ4, rfl, sh, y3⟩
        have l3 : (rngD 0 3).length = 3 := rfl
        rw [l3] at sh
        walk_at "zs"
        exact w_lpE sh (by omega) fun v7 v8 v9 v10 v12 μ5 t5 => ⟨_, _, _, _, _, _, _, _, _, _, _, rfl, t5.mono (by omega)⟩
    · rintro s ⟨v3, v4, v5, v6, v7, v8, v9, v10, v11, v12, μ1, rfl, t1⟩
      exact ⟨_, _, _, _, _, _, _, _, _, _, _, _, _, rfl⟩
  · rintro s ⟨v1, v2, v3, v4, v5, v6, v7, v8, v9, v10, v11, v12, μ, rfl⟩
    have ib : Itm "b" := by unfold Itm; decide +kernel
    have ia : Itm "a" := by unfold Itm; decide +kernel
    have ix : Itm "x" := by unfold Itm; decide +kernel
    have m2 : mt_taken_back 2 = some F_Record_taken_back := rfl
    have m1 : mt_taken_back 1 = some F_Record_taken_back := rfl
    have k1 : Knw ["b", "a"] := ⟨by decide +kernel, fun z hz => by
      rcases List.mem_cons.mp hz with rfl | hz
      · exact ib
      · rw [List.mem_singleton.mp hz]; exact ia, by decide⟩
    have k2 : Knw [] := ⟨List.nodup_nil, fun z hz => (nomatch hz), by decide⟩
    have w1 := fun μ (Q' : Rs → List D → Prop) (X' : XF) => w_taken_back (k := 2) (i := 1) (d := rcD 2 "b" 1) (z := "b") (zs := ["b", "a"]) (μ := μ) (Q := Q') (X := X') (by decide) (fun _ => rfl) lk_list k1 (by decide +kernel)
    have w2 := fun μ (Q' : Rs → List D → Prop) (X' : XF) => w_taken_back (k := 1) (i := 0) (d := rcD 1 "x" 0) (z := "x") (zs := []) (μ := μ) (Q := Q') (X := X') (by decide) (fun _ => rfl) lk_list k2 (by decide +kernel)
    rw [show beL 2 "b" 1 ["b", "a"] = (["a", "b"] : List Str) from by decide +kernel] at w1
    rw [show beL 1 "x" 0 [] = (["x"] : List Str) from by decide +kernel] at w2
    have e1 : vEq (.list ((["a", "b"] : List Str).map D.str)) (.list [.str "a", .str "b"]) = some (.v (.bl true)) := by
      have := eq_strs (xs := ["a", "b"]) (ys := ["a", "b"]) (fun z hz => by
        rcases List.mem_cons.mp hz with rfl | hz
        · exact ia
        · rw [List.mem_singleton.mp hz]; exact ib) (fun z hz => by
        rcases List.mem_cons.mp hz with rfl | hz
        · exact ia
        · rw [List.mem_singleton.mp hz]; exact ib)
      rw [decide_eq_true rfl] at this
      exact this
    have e2 : vEq (.list ((["x"] : List Str).map D.str)) (.list [.str "x"]) = some (.v (.bl true)) := by
      have := eq_strs (xs := ["x"]) (ys := ["x"]) (fun z hz => by rw [List.mem_singleton.mp hz]; exact ix) (fun z hz => by rw [List.mem_singleton.mp hz]; exact ix)
      rw [decide_eq_true rfl] at this
      exact this
    unfold rcD at w1 w2
    walk_at "zs"
    refine w_init (k := 2) (n := 1) (by decide) ib (by decide) (by decide) ?_
    unfold rcD
    ((try walk_at "zs"); repeat (simp only [m2, n_tb]; (try walk_at "zs")))
    refine w1 _ _ _ ?_
    ((try walk_at "zs"); repeat (simp only [e1]; (try walk_at "zs")))
    refine w_init (k := 1) (n := 0) (by decide) ix (by decide) (by decide) ?_
    unfold rcD
    ((try walk_at "zs"); repeat (simp only [m1, n_tb]; (try walk_at "zs")))
    refine w2 _ _ _ ?_
    ((try walk_at "zs"); repeat (simp only [e2]; (try walk_at "zs")))
end
end K
namespace K
open PySem PySem.Spec PyProof.Rows L2 U ClX Z
open Hk He
theorem bi_Impossible_init {K : PySem.W.Frag} {f : Addr} {fd : FuncData} (F : Fun K "__init__" "Impossible.__init__" s_Impossible_init f fd) : Binds K fd ["self", "reason"] [] := F.binds (ps := ["self", "reason"]) fun _ _ _ _ _ _ us hl => match us, hl with | [_, _], _ => rfl
theorem bi_Record_init {K : PySem.W.Frag} {f : Addr} {fd : FuncData} (F : Fun K "__init__" "Record.__init__" s_Record_init f fd) : Binds K fd ["self", "item", "slot"] [] := F.binds (ps := ["self", "item", "slot"]) fun _ _ _ _ _ _ us hl => match us, hl with | [_, _, _], _ => rfl
theorem bi_Record_item {K : PySem.W.Frag} {f : Addr} {fd : FuncData} (F : Fun K "item" "Record.item" s_Record_item f fd) : Binds K fd ["self"] [] := F.binds (ps := ["self"]) fun _ _ _ _ _ _ us hl => match us, hl with | [_], _ => rfl
theorem bi_Record_slot {K : PySem.W.Frag} {f : Addr} {fd : FuncData} (F : Fun K "slot" "Record.slot" s_Record_slot f fd) : Binds K fd ["self"] [] := F.binds (ps := ["self"]) fun _ _ _ _ _ _ us hl => match us, hl with | [_], _ => rfl
theorem bi_Inserted_can_apply {K : PySem.W.Frag} {f : Addr} {fd : FuncData} (F : Fun K "can_apply" "Inserted.can_apply" s_Inserted_can_apply f fd) : Binds K fd ["self", "items"] [] := F.binds (ps := ["self", "items"]) fun _ _ _ _ _ _ us hl => match us, hl with | [_, _], _ => rfl
theorem bi_Inserted_can_end {K : PySem.W.Frag} {f : Addr} {fd : FuncData} (F : Fun K "can_end" "Inserted.can_end" s_Inserted_can_end f fd) : Binds K fd ["self", "items"] [] := F.binds (ps := ["self", "items"]) fun _ _ _ _ _ _ us hl => match us, hl with | [_, _], _ => rfl
theorem bi_Inserted_after {K : PySem.W.Frag} {f : Addr} {fd : FuncData} (F : Fun K "after" "Inserted.after" s_Inserted_after f fd) : Binds K fd ["self", "items"] [] := F.binds (ps := ["self", "items"]) fun _ _ _ _ _ _ us hl => match us, hl with | [_, _], _ => rfl
theorem bi_Inserted_before {K : PySem.W.Frag} {f : Addr} {fd : FuncData} (F : Fun K "before" "Inserted.before" s_Inserted_before f fd) : Binds K fd ["self", "items"] [] := F.binds (ps := ["self", "items"]) fun _ _ _ _ _ _ us hl => match us, hl with | [_, _], _ => rfl
theorem bi_Record_applies {K : PySem.W.Frag} {f : Addr} {fd : FuncData} (F : Fun K "applies" "Record.applies" s_Record_applies f fd) : Binds K fd ["self", "items"] [] := F.binds (ps := ["self", "items"]) fun _ _ _ _ _ _ us hl => match us, hl with | [_, _], _ => rfl
theorem bi_Record_applied {K : PySem.W.Frag} {f : Addr} {fd : FuncData} (F : Fun K "applied" "Record.applied" s_Record_applied f fd) : Binds K fd ["self", "items"] [] := F.binds (ps := ["self", "items"]) fun _ _ _ _ _ _ us hl => match us, hl with | [_, _], _ => rfl
theorem bi_Record_taken_back {K : PySem.W.Frag} {f : Addr} {fd : FuncData} (F : Fun K "taken_back" "Record.taken_back" s_Record_taken_back f fd) : Binds K fd ["self", "items"] [] := F.binds (ps := ["self", "items"]) fun _ _ _ _ _ _ us hl => match us, hl with | [_, _], _ => rfl
theorem bi_Record_stands {K : PySem.W.Frag} {f : Addr} {fd : FuncData} (F : Fun K "stands" "Record.stands" s_Record_stands f fd) : Binds K fd ["self", "items"] [] := F.binds (ps := ["self", "items"]) fun _ _ _ _ _ _ us hl => match us, hl with | [_, _], _ => rfl
theorem bi_Record_has_room {K : PySem.W.Frag} {f : Addr} {fd : FuncData} (F : Fun K "has_room" "Record.has_room" s_Record_has_room f fd) : Binds K fd ["self", "items"] [] := F.binds (ps := ["self", "items"]) fun _ _ _ _ _ _ us hl => match us, hl with | [_, _], _ => rfl
theorem bi_Record_others {K : PySem.W.Frag} {f : Addr} {fd : FuncData} (F : Fun K "others" "Record.others" s_Record_others f fd) : Binds K fd ["self", "items"] [] := F.binds (ps := ["self", "items"]) fun _ _ _ _ _ _ us hl => match us, hl with | [_, _], _ => rfl
theorem bi_Record_put_in {K : PySem.W.Frag} {f : Addr} {fd : FuncData} (F : Fun K "put_in" "Record.put_in" s_Record_put_in f fd) : Binds K fd ["self", "items"] [] := F.binds (ps := ["self", "items"]) fun _ _ _ _ _ _ us hl => match us, hl with | [_, _], _ => rfl
theorem bi_Removed_can_apply {K : PySem.W.Frag} {f : Addr} {fd : FuncData} (F : Fun K "can_apply" "Removed.can_apply" s_Removed_can_apply f fd) : Binds K fd ["self", "items"] [] := F.binds (ps := ["self", "items"]) fun _ _ _ _ _ _ us hl => match us, hl with | [_, _], _ => rfl
theorem bi_Removed_can_end {K : PySem.W.Frag} {f : Addr} {fd : FuncData} (F : Fun K "can_end" "Removed.can_end" s_Removed_can_end f fd) : Binds K fd ["self", "items"] [] := F.binds (ps := ["self", "items"]) fun _ _ _ _ _ _ us hl => match us, hl with | [_, _], _ => rfl
theorem bi_Removed_after {K : PySem.W.Frag} {f : Addr} {fd : FuncData} (F : Fun K "after" "Removed.after" s_Removed_after f fd) : Binds K fd ["self", "items"] [] := F.binds (ps := ["self", "items"]) fun _ _ _ _ _ _ us hl => match us, hl with | [_, _], _ => rfl
theorem bi_Removed_before {K : PySem.W.Frag} {f : Addr} {fd : FuncData} (F : Fun K "before" "Removed.before" s_Removed_before f fd) : Binds K fd ["self", "items"] [] := F.binds (ps := ["self", "items"]) fun _ _ _ _ _ _ us hl => match us, hl with | [_, _], _ => rfl
theorem bi_Fronted_can_apply {K : PySem.W.Frag} {f : Addr} {fd : FuncData} (F : Fun K "can_apply" "Fronted.can_apply" s_Fronted_can_apply f fd) : Binds K fd ["self", "items"] [] := F.binds (ps := ["self", "items"]) fun _ _ _ _ _ _ us hl => match us, hl with | [_, _], _ => rfl
theorem bi_Fronted_can_end {K : PySem.W.Frag} {f : Addr} {fd : FuncData} (F : Fun K "can_end" "Fronted.can_end" s_Fronted_can_end f fd) : Binds K fd ["self", "items"] [] := F.binds (ps := ["self", "items"]) fun _ _ _ _ _ _ us hl => match us, hl with | [_, _], _ => rfl
theorem bi_Fronted_after {K : PySem.W.Frag} {f : Addr} {fd : FuncData} (F : Fun K "after" "Fronted.after" s_Fronted_after f fd) : Binds K fd ["self", "items"] [] := F.binds (ps := ["self", "items"]) fun _ _ _ _ _ _ us hl => match us, hl with | [_, _], _ => rfl
theorem bi_Fronted_before {K : PySem.W.Frag} {f : Addr} {fd : FuncData} (F : Fun K "before" "Fronted.before" s_Fronted_before f fd) : Binds K fd ["self", "items"] [] := F.binds (ps := ["self", "items"]) fun _ _ _ _ _ _ us hl => match us, hl with | [_, _], _ => rfl
theorem bi_Record_can_apply {K : PySem.W.Frag} {f : Addr} {fd : FuncData} (F : Fun K "can_apply" "Record.can_apply" s_Record_can_apply f fd) : Binds K fd ["self", "items"] [] := F.binds (ps := ["self", "items"]) fun _ _ _ _ _ _ us hl => match us, hl with | [_, _], _ => rfl
theorem bi_Record_can_end {K : PySem.W.Frag} {f : Addr} {fd : FuncData} (F : Fun K "can_end" "Record.can_end" s_Record_can_end f fd) : Binds K fd ["self", "items"] [] := F.binds (ps := ["self", "items"]) fun _ _ _ _ _ _ us hl => match us, hl with | [_, _], _ => rfl
theorem bi_Record_after {K : PySem.W.Frag} {f : Addr} {fd : FuncData} (F : Fun K "after" "Record.after" s_Record_after f fd) : Binds K fd ["self", "items"] [] := F.binds (ps := ["self", "items"]) fun _ _ _ _ _ _ us hl => match us, hl with | [_, _], _ => rfl
theorem bi_Record_before {K : PySem.W.Frag} {f : Addr} {fd : FuncData} (F : Fun K "before" "Record.before" s_Record_before f fd) : Binds K fd ["self", "items"] [] := F.binds (ps := ["self", "items"]) fun _ _ _ _ _ _ us hl => match us, hl with | [_, _], _ => rfl
theorem bi_is_integer {K : PySem.W.Frag} {f : Addr} {fd : FuncData} (F : Fun K "is_integer" "is_integer" s_is_integer f fd) : Binds K fd ["thing", "least", "most"] [] := F.binds (ps := ["thing", "least", "most"]) fun _ _ _ _ _ _ us hl => match us, hl with | [_, _, _], _ => rfl
theorem bi_is_item {K : PySem.W.Frag} {f : Addr} {fd : FuncData} (F : Fun K "is_item" "is_item" s_is_item f fd) : Binds K fd ["thing"] [] := F.binds (ps := ["thing"]) fun _ _ _ _ _ _ us hl => match us, hl with | [_], _ => rfl
theorem bi_are_items {K : PySem.W.Frag} {f : Addr} {fd : FuncData} (F : Fun K "are_items" "are_items" s_are_items f fd) : Binds K fd ["thing"] [] := F.binds (ps := ["thing"]) fun _ _ _ _ _ _ us hl => match us, hl with | [_], _ => rfl
theorem bi_need_items {K : PySem.W.Frag} {f : Addr} {fd : FuncData} (F : Fun K "need_items" "need_items" s_need_items f fd) : Binds K fd ["thing"] [] := F.binds (ps := ["thing"]) fun _ _ _ _ _ _ us hl => match us, hl with | [_], _ => rfl
theorem bi_law_source {K : PySem.W.Frag} {f : Addr} {fd : FuncData} (F : Fun K "_law_source" "_law_source" s_law_source f fd) : Binds K fd ["_law_script", "_law_k"] [] := F.binds (ps := ["_law_script", "_law_k"]) fun _ _ _ _ _ _ us hl => match us, hl with | [_, _], _ => rfl
theorem bi_law_pick {K : PySem.W.Frag} {f : Addr} {fd : FuncData} (F : Fun K "_law_pick" "_law_pick" s_law_pick f fd) : Binds K fd ["_law_source_here", "_law_size"] [] := F.binds (ps := ["_law_source_here", "_law_size"]) fun _ _ _ _ _ _ us hl => match us, hl with | [_, _], _ => rfl
theorem bi_law_shuffled {K : PySem.W.Frag} {f : Addr} {fd : FuncData} (F : Fun K "_law_shuffled" "_law_shuffled" s_law_shuffled f fd) : Binds K fd ["_law_source_here", "_law_row"] [] := F.binds (ps := ["_law_source_here", "_law_row"]) fun _ _ _ _ _ _ us hl => match us, hl with | [_, _], _ => rfl
theorem bi_law_names {K : PySem.W.Frag} {f : Addr} {fd : FuncData} (F : Fun K "_law_names" "_law_names" s_law_names f fd) : Binds K fd ["_law_source_here", "_law_many"] [] := F.binds (ps := ["_law_source_here", "_law_many"]) fun _ _ _ _ _ _ us hl => match us, hl with | [_, _], _ => rfl
theorem bi_law_make {K : PySem.W.Frag} {f : Addr} {fd : FuncData} (F : Fun K "_law_make" "_law_make" s_law_make f fd) : Binds K fd ["_law_way", "_law_name", "_law_place"] [] := F.binds (ps := ["_law_way", "_law_name", "_law_place"]) fun _ _ _ _ _ _ us hl => match us, hl with | [_, _, _], _ => rfl
theorem bi_law_class {K : PySem.W.Frag} {f : Addr} {fd : FuncData} (F : Fun K "_law_class" "_law_class" s_law_class f fd) : Binds K fd ["_law_caught"] [] := F.binds (ps := ["_law_caught"]) fun _ _ _ _ _ _ us hl => match us, hl with | [_], _ => rfl
theorem bi_law_undone {K : PySem.W.Frag} {f : Addr} {fd : FuncData} (F : Fun K "_law_undone" "_law_undone" s_law_undone f fd) : Binds K fd ["_law_way", "_law_name", "_law_place", "_law_shelf_here"] [] := F.binds (ps := ["_law_way", "_law_name", "_law_place", "_law_shelf_here"]) fun _ _ _ _ _ _ us hl => match us, hl with | [_, _, _, _], _ => rfl
theorem bi_law_shelf {K : PySem.W.Frag} {f : Addr} {fd : FuncData} (F : Fun K "_law_shelf" "_law_shelf" s_law_shelf f fd) : Binds K fd ["_law_source_here", "_law_most"] [] := F.binds (ps := ["_law_source_here", "_law_most"]) fun _ _ _ _ _ _ us hl => match us, hl with | [_, _], _ => rfl
theorem bi_law_case {K : PySem.W.Frag} {f : Addr} {fd : FuncData} (F : Fun K "_law_case" "_law_case" s_law_case f fd) : Binds K fd ["_law_source_here", "_law_shelf_here", "_law_spare"] [] := F.binds (ps := ["_law_source_here", "_law_shelf_here", "_law_spare"]) fun _ _ _ _ _ _ us hl => match us, hl with | [_, _, _], _ => rfl
theorem bi_law_no_shelves {K : PySem.W.Frag} {f : Addr} {fd : FuncData} (F : Fun K "_law_no_shelves" "_law_no_shelves" s_law_no_shelves f fd) : Binds K fd ["_law_source_here", "_law_shelf_here"] [] := F.binds (ps := ["_law_source_here", "_law_shelf_here"]) fun _ _ _ _ _ _ us hl => match us, hl with | [_, _], _ => rfl
theorem bi_law_told {K : PySem.W.Frag} {f : Addr} {fd : FuncData} (F : Fun K "_law_told" "_law_told" s_law_told f fd) : Binds K fd ["_law_row", "_law_shelf_here", "_law_by_name"] [] := F.binds (ps := ["_law_row", "_law_shelf_here", "_law_by_name"]) fun _ _ _ _ _ _ us hl => match us, hl with | [_, _, _], _ => rfl
theorem bi_law_row_right {K : PySem.W.Frag} {f : Addr} {fd : FuncData} (F : Fun K "_law_row_right" "_law_row_right" s_law_row_right f fd) : Binds K fd ["_law_row", "_law_way", "_law_name", "_law_place", "_law_shelf_here"] [] := F.binds (ps := ["_law_row", "_law_way", "_law_name", "_law_place", "_law_shelf_here"]) fun _ _ _ _ _ _ us hl => match us, hl with | [_, _, _, _, _], _ => rfl
theorem bi_law {K : PySem.W.Frag} {f : Addr} {fd : FuncData} (F : Fun K "law" "law" s_law f fd) : Binds K fd ["_law_script"] [] := F.binds (ps := ["_law_script"]) fun _ _ _ _ _ _ us hl => match us, hl with | [_], _ => rfl
def sp_law (K : PySem.W.Frag) : Sp := fun vs H Q _ => ∃ (a : Addr) (ns : List Int), vs = [.ref a] ∧ SqL K H a (ns.map V.int) ∧ ns.length ≤ 63 ∧ ∀ H', Q (.bl true) H'
theorem p_law {P : Program} {w : World} {K : PySem.W.Frag} {mg : Str → Option Value} {base : Heap} {A : Ads} (T : Tx P K mg A) : Pur N_law ps_law (fun E => t_law P w K mg base A fun _ => E) (sp_law K) := fun vs H Q E ⟨a, ns, e, hs, hl, q⟩ => pur_F (z_law T) vs H Q E (by subst e; exact law_sp (cad := cadA A) (F := F_law) hs (law_true ns hl) q)
def Ze_AA (K : PySem.W.Frag) : Ads := { cInserted := ga K "Inserted", cRemoved := ga K "Removed", cFronted := ga K "Fronted", cRecord := ga K "Record", cLogError := ga K "LogError", cNoItem := ga K "NoItem", cNoIndex := ga K "NoIndex", cNoList := ga K "NoList", cNoLog := ga K "NoLog", cNoSeen := ga K "NoSeen", cNoClients := ga K "NoClients", cNoNumber := ga K "NoNumber", cNoPosition := ga K "NoPosition", cNothing := ga K "Nothing", cImpossible := ga K "Impossible", cTooMany := ga K "TooMany", cNoText := ga K "NoText" }
theorem Ze_facts {w : World} {K : PySem.W.Frag} {h : Heap} {mg : Str → Option Value} {fa : Addr} (X : K.In h) (G : h.Ns mainGlobals mg) (hfa : mg "law" = some (.ref fa)) (c : obsB Ze_fn Ze_ex K = valB Ze_fn) :
    ∃ fd : FuncData, (∀ (s : Shared) (v : Value), BindsTo s fd ⟨[v], []⟩ [("_law_script", v)]) ∧ ∀ base : Heap, K.In base → base.Ns mainGlobals mg → FnG (PySem.Challenge.rw_indexlogs_k06_records_taken_back).prog w K mg base 32 fa fd ["_law_script"] (sp_law K) := by
  have e := hfa.symm.trans (glo_ok X G (te c 6 22))
  cases e
  have GG : Gm (PySem.Challenge.rw_indexlogs_k06_records_taken_back).prog K mg (Ze_AA K) := { g_ValueError := free_ok X G (te c 0 0), g_abs := free_ok X G (te c 0 1), g_all := free_ok X G (te c 0 2), g_bool := free_ok X G (te c 0 3), g_int := free_ok X G (te c 0 4), g_isinstance := free_ok X G (te c 0 5), g_len := free_ok X G (te c 0 6), g_list := free_ok X G (te c 0 7), g_max := free_ok X G (te c 0 8), g_min := free_ok X G (te c 0 9), g_range := free_ok X G (te c 0 10), g_repr := free_ok X G (te c 0 11), g_set := free_ok X G (te c 0 12), g_str := free_ok X G (te c 0 13), g_tuple := free_ok X G (te c 0 14), g_LETTERS := gs_ok X G (te c 0 15), g_MOST_ITEMS := gi_ok X G (te c 0 16), g_MOST_LETTERS := gi_ok X G (te c 0 17), cInserted := (glo_ok X G (te c 0 18)), cRemoved := (glo_ok X G (te c 0 19)), cFronted := (glo_ok X G (te c 0 20)), cRecord := (glo_ok X G (te c 0 21)), cLogError := (glo_ok X G (te c 0 22)), cNoItem := (glo_ok X G (te c 0 23)), cNoIndex := (glo_ok X G (te c 0 24)), cNoList := (glo_ok X G (te c 0 25)), cNoLog := (glo_ok X G (te c 0 26)), cNoSeen := (glo_ok X G (te c 0 27)), cNoClients := (glo_ok X G (te c 0 28)), cNoNumber := (glo_ok X G (te c 0 29)), cNoPosition := (glo_ok X G (te c 1 0)), cNothing := (glo_ok X G (te c 1 1)), cImpossible := (glo_ok X G (te c 1 2)), cTooMany := (glo_ok X G (te c 1 3)), cNoText := (glo_ok X G (te c 1 4)), x_Impossible := xfn_ok (df c 0) (ox_ok (te c 1 5)) (glo_ok X G (te c 1 2)) (te c 1 6) bi_Impossible_init (fun w base F r v => xi_Impossible_init F (ox_ok (te c 1 5)) (xf_ok (te c 1 7)).2 (glo_ok X G (te c 0 22)) r v), x_NoIndex := exn_ok (te c 1 8) (glo_ok X G (te c 0 24)), x_NoItem := exn_ok (te c 1 9) (glo_ok X G (te c 0 23)), x_NoList := exn_ok (te c 1 10) (glo_ok X G (te c 0 25)) }
  have T : Tx (PySem.Challenge.rw_indexlogs_k06_records_taken_back).prog K mg (Ze_AA K) := { G := GG, cls_Inserted := (cls_ok (te c 1 11)), ty_Inserted := ty_ok (te c 1 12), made_Inserted := dk_ok (df c 1) (glo_ok X G (te c 0 18)) (te c 1 13) bi_Record_init, n_Inserted_held_item := noat_ok (te c 1 14), n_Inserted_held_slot := noat_ok (te c 1 15), con_Inserted_SIGN := conB_ok (te c 1 16) (by decide +kernel), prop_Inserted_item := dg_ok (df c 2) (te c 1 17) bi_Record_item, prop_Inserted_slot := dg_ok (df c 3) (te c 1 18) bi_Record_slot, m_Inserted_can_apply := dm_ok (df c 4) (cls_ok (te c 1 11)) (te c 1 19) bi_Inserted_can_apply, m_Inserted_can_end := dm_ok (df c 5) (cls_ok (te c 1 11)) (te c 1 20) bi_Inserted_can_end, m_Inserted_after := dm_ok (df c 6) (cls_ok (te c 1 11)) (te c 1 21) bi_Inserted_after, m_Inserted_before := dm_ok (df c 7) (cls_ok (te c 1 11)) (te c 1 22) bi_Inserted_before, m_Inserted_applies := dm_ok (df c 8) (cls_ok (te c 1 11)) (te c 1 23) bi_Record_applies, m_Inserted_applied := dm_ok (df c 9) (cls_ok (te c 1 11)) (te c 1 24) bi_Record_applied, m_Inserted_taken_back := dm_ok (df c 10) (cls_ok (te c 1 11)) (te c 1 25) bi_Record_taken_back, m_Inserted_stands := dm_ok (df c 11) (cls_ok (te c 1 11)) (te c 1 26) bi_Record_stands, m_Inserted_has_room := dm_ok (df c 12) (cls_ok (te c 1 11)) (te c 1 27) bi_Record_has_room, m_Inserted_others := dm_ok (df c 13) (cls_ok (te c 1 11)) (te c 1 28) bi_Record_others, m_Inserted_put_in := dm_ok (df c 14) (cls_ok (te c 1 11)) (te c 1 29) bi_Record_put_in, cls_Removed := (cls_ok (te c 2 0)), ty_Removed := ty_ok (te c 2 1), made_Removed := dk_ok (df c 15) (glo_ok X G (te c 0 19)) (te c 2 2) bi_Record_init, n_Removed_held_item := noat_ok (te c 2 3), n_Removed_held_slot := noat_ok (te c 2 4), con_Removed_SIGN := conB_ok (te c 2 5) (by decide +kernel), prop_Removed_item := dg_ok (df c 16) (te c 2 6) bi_Record_item, prop_Removed_slot := dg_ok (df c 17) (te c 2 7) bi_Record_slot, m_Removed_can_apply := dm_ok (df c 18) (cls_ok (te c 2 0)) (te c 2 8) bi_Removed_can_apply, m_Removed_can_end := dm_ok (df c 19) (cls_ok (te c 2 0)) (te c 2 9) bi_Removed_can_end, m_Removed_after := dm_ok (df c 20) (cls_ok (te c 2 0)) (te c 2 10) bi_Removed_after, m_Removed_before := dm_ok (df c 21) (cls_ok (te c 2 0)) (te c 2 11) bi_Removed_before, m_Removed_applies := dm_ok (df c 22) (cls_ok (te c 2 0)) (te c 2 12) bi_Record_applies, m_Removed_applied := dm_ok (df c 23) (cls_ok (te c 2 0)) (te c 2 13) bi_Record_applied, m_Removed_taken_back := dm_ok (df c 24) (cls_ok (te c 2 0)) (te c 2 14) bi_Record_taken_back, m_Removed_stands := dm_ok (df c 25) (cls_ok (te c 2 0)) (te c 2 15) bi_Record_stands, m_Removed_has_room := dm_ok (df c 26) (cls_ok (te c 2 0)) (te c 2 16) bi_Record_has_room, m_Removed_others := dm_ok (df c 27) (cls_ok (te c 2 0)) (te c 2 17) bi_Record_others, m_Removed_put_in := dm_ok (df c 28) (cls_ok (te c 2 0)) (te c 2 18) bi_Record_put_in, cls_Fronted := (cls_ok (te c 2 19)), ty_Fronted := ty_ok (te c 2 20), made_Fronted := dk_ok (df c 29) (glo_ok X G (te c 0 20)) (te c 2 21) bi_Record_init, n_Fronted_held_item := noat_ok (te c 2 22), n_Fronted_held_slot := noat_ok (te c 2 23), con_Fronted_SIGN := conB_ok (te c 2 24) (by decide +kernel), prop_Fronted_item := dg_ok (df c 30) (te c 2 25) bi_Record_item, prop_Fronted_slot := dg_ok (df c 31) (te c 2 26) bi_Record_slot, m_Fronted_can_apply := dm_ok (df c 32) (cls_ok (te c 2 19)) (te c 2 27) bi_Fronted_can_apply, m_Fronted_can_end := dm_ok (df c 33) (cls_ok (te c 2 19)) (te c 2 28) bi_Fronted_can_end, m_Fronted_after := dm_ok (df c 34) (cls_ok (te c 2 19)) (te c 2 29) bi_Fronted_after, m_Fronted_before := dm_ok (df c 35) (cls_ok (te c 2 19)) (te c 3 0) bi_Fronted_before, m_Fronted_applies := dm_ok (df c 36) (cls_ok (te c 2 19)) (te c 3 1) bi_Record_applies, m_Fronted_applied := dm_ok (df c 37) (cls_ok (te c 2 19)) (te c 3 2) bi_Record_applied, m_Fronted_taken_back := dm_ok (df c 38) (cls_ok (te c 2 19)) (te c 3 3) bi_Record_taken_back, m_Fronted_stands := dm_ok (df c 39) (cls_ok (te c 2 19)) (te c 3 4) bi_Record_stands, m_Fronted_has_room := dm_ok (df c 40) (cls_ok (te c 2 19)) (te c 3 5) bi_Record_has_room, m_Fronted_others := dm_ok (df c 41) (cls_ok (te c 2 19)) (te c 3 6) bi_Record_others, m_Fronted_put_in := dm_ok (df c 42) (cls_ok (te c 2 19)) (te c 3 7) bi_Record_put_in, cls_Record := (cls_ok (te c 3 8)), ty_Record := ty_ok (te c 3 9), made_Record := dk_ok (df c 43) (glo_ok X G (te c 0 21)) (te c 3 10) bi_Record_init, n_Record_held_item := noat_ok (te c 3 11), n_Record_held_slot := noat_ok (te c 3 12), con_Record_SIGN := conB_ok (te c 3 13) (by decide +kernel), prop_Record_item := dg_ok (df c 44) (te c 3 14) bi_Record_item, prop_Record_slot := dg_ok (df c 45) (te c 3 15) bi_Record_slot, m_Record_can_apply := dm_ok (df c 46) (cls_ok (te c 3 8)) (te c 3 16) bi_Record_can_apply, m_Record_can_end := dm_ok (df c 47) (cls_ok (te c 3 8)) (te c 3 17) bi_Record_can_end, m_Record_after := dm_ok (df c 48) (cls_ok (te c 3 8)) (te c 3 18) bi_Record_after, m_Record_before := dm_ok (df c 49) (cls_ok (te c 3 8)) (te c 3 19) bi_Record_before, m_Record_applies := dm_ok (df c 50) (cls_ok (te c 3 8)) (te c 3 20) bi_Record_applies, m_Record_applied := dm_ok (df c 51) (cls_ok (te c 3 8)) (te c 3 21) bi_Record_applied, m_Record_taken_back := dm_ok (df c 52) (cls_ok (te c 3 8)) (te c 3 22) bi_Record_taken_back, m_Record_stands := dm_ok (df c 53) (cls_ok (te c 3 8)) (te c 3 23) bi_Record_stands, m_Record_has_room := dm_ok (df c 54) (cls_ok (te c 3 8)) (te c 3 24) bi_Record_has_room, m_Record_others := dm_ok (df c 55) (cls_ok (te c 3 8)) (te c 3 25) bi_Record_others, m_Record_put_in := dm_ok (df c 56) (cls_ok (te c 3 8)) (te c 3 26) bi_Record_put_in, cv_Record_MOST := cv_ok (v := (.int 60)) (te c 3 27), so_Inserted_list := so_ok (te c 3 28), so_Inserted_str := so_ok (te c 3 29), so_Removed_list := so_ok (te c 4 0), so_Removed_str := so_ok (te c 4 1), so_Fronted_list := so_ok (te c 4 2), so_Fronted_str := so_ok (te c 4 3), so_Record_list := so_ok (te c 4 4), so_Record_str := so_ok (te c 4 5), xc_Impossible := ex_ok (te c 4 6), xk_Impossible_NoItem := ki_ok (te c 4 7), xk_Impossible_NoIndex := ki_ok (te c 4 8), xk_Impossible_NoList := ki_ok (te c 4 9), xk_Impossible_NoLog := ki_ok (te c 4 10), xk_Impossible_NoSeen := ki_ok (te c 4 11), xk_Impossible_NoClients := ki_ok (te c 4 12), xk_Impossible_NoNumber := ki_ok (te c 4 13), xk_Impossible_NoPosition := ki_ok (te c 4 14), xk_Impossible_Nothing := ki_ok (te c 4 15), xk_Impossible_Impossible := ki_ok (te c 4 16), xk_Impossible_TooMany := ki_ok (te c 4 17), xk_Impossible_NoText := ki_ok (te c 4 18), xq_Impossible_ValueError := so_ok (te c 4 19), xm_LogError_Impossible := exm_ok (te c 4 20), xa_Impossible := xf_ok (te c 1 7), xc_NoIndex := ex_ok (te c 4 21), xk_NoIndex_NoItem := ki_ok (te c 4 22), xk_NoIndex_NoIndex := ki_ok (te c 4 23), xk_NoIndex_NoList := ki_ok (te c 4 24), xk_NoIndex_NoLog := ki_ok (te c 4 25), xk_NoIndex_NoSeen := ki_ok (te c 4 26), xk_NoIndex_NoClients := ki_ok (te c 4 27), xk_NoIndex_NoNumber := ki_ok (te c 4 28), xk_NoIndex_NoPosition := ki_ok (te c 4 29), xk_NoIndex_Nothing := ki_ok (te c 5 0), xk_NoIndex_Impossible := ki_ok (te c 5 1), xk_NoIndex_TooMany := ki_ok (te c 5 2), xk_NoIndex_NoText := ki_ok (te c 5 3), xq_NoIndex_ValueError := so_ok (te c 5 4), xm_LogError_NoIndex := exm_ok (te c 5 5), xc_NoItem := ex_ok (te c 5 6), xk_NoItem_NoItem := ki_ok (te c 5 7), xk_NoItem_NoIndex := ki_ok (te c 5 8), xk_NoItem_NoList := ki_ok (te c 5 9), xk_NoItem_NoLog := ki_ok (te c 5 10), xk_NoItem_NoSeen := ki_ok (te c 5 11), xk_NoItem_NoClients := ki_ok (te c 5 12), xk_NoItem_NoNumber := ki_ok (te c 5 13), xk_NoItem_NoPosition := ki_ok (te c 5 14), xk_NoItem_Nothing := ki_ok (te c 5 15), xk_NoItem_Impossible := ki_ok (te c 5 16), xk_NoItem_TooMany := ki_ok (te c 5 17), xk_NoItem_NoText := ki_ok (te c 5 18), xq_NoItem_ValueError := so_ok (te c 5 19), xm_LogError_NoItem := exm_ok (te c 5 20), xc_NoList := ex_ok (te c 5 21), xk_NoList_NoItem := ki_ok (te c 5 22), xk_NoList_NoIndex := ki_ok (te c 5 23), xk_NoList_NoList := ki_ok (te c 5 24), xk_NoList_NoLog := ki_ok (te c 5 25), xk_NoList_NoSeen := ki_ok (te c 5 26), xk_NoList_NoClients := ki_ok (te c 5 27), xk_NoList_NoNumber := ki_ok (te c 5 28), xk_NoList_NoPosition := ki_ok (te c 5 29), xk_NoList_Nothing := ki_ok (te c 6 0), xk_NoList_Impossible := ki_ok (te c 6 1), xk_NoList_TooMany := ki_ok (te c 6 2), xk_NoList_NoText := ki_ok (te c 6 3), xq_NoList_ValueError := so_ok (te c 6 4), xm_LogError_NoList := exm_ok (te c 6 5), f_is_integer := df_ok (df c 57) (glo_ok X G (te c 6 6)) bi_is_integer, f_is_item := df_ok (df c 58) (glo_ok X G (te c 6 7)) bi_is_item, f_are_items := df_ok (df c 59) (glo_ok X G (te c 6 8)) bi_are_items, f_need_items := df_ok (df c 60) (glo_ok X G (te c 6 9)) bi_need_items, f_law_source := df_ok (df c 61) (glo_ok X G (te c 6 10)) bi_law_source, f_law_pick := df_ok (df c 62) (glo_ok X G (te c 6 11)) bi_law_pick, f_law_shuffled := df_ok (df c 63) (glo_ok X G (te c 6 12)) bi_law_shuffled, f_law_names := df_ok (df c 64) (glo_ok X G (te c 6 13)) bi_law_names, f_law_make := df_ok (df c 65) (glo_ok X G (te c 6 14)) bi_law_make, f_law_class := df_ok (df c 66) (glo_ok X G (te c 6 15)) bi_law_class, f_law_undone := df_ok (df c 67) (glo_ok X G (te c 6 16)) bi_law_undone, f_law_shelf := df_ok (df c 68) (glo_ok X G (te c 6 17)) bi_law_shelf, f_law_case := df_ok (df c 69) (glo_ok X G (te c 6 18)) bi_law_case, f_law_no_shelves := df_ok (df c 70) (glo_ok X G (te c 6 19)) bi_law_no_shelves, f_law_told := df_ok (df c 71) (glo_ok X G (te c 6 20)) bi_law_told, f_law_row_right := df_ok (df c 72) (glo_ok X G (te c 6 21)) bi_law_row_right, f_law := df_ok (df c 73) (glo_ok X G (te c 6 22)) bi_law }
  obtain ⟨fd, F⟩ := Fd.fun_ (df c 73)
  refine ⟨fd, fun s v => ?_, fun base _ _ => fnok_of F sc_law (fun hr => d_law T.G hr) (p_law T)⟩
  obtain ⟨oc, od, kV, doc, pm, an, cdv, ct, osl, rfl, lk, hcd⟩ := F.ex
  exact .of_eq rfl
end K
open PySem PySem.W PySem.Calls PyProof.Rows
set_option maxRecDepth 100000 in
set_option maxHeartbeats 0 in
theorem PySem.Challenge.cw_indexlogs_k06_records_taken_back_holds : PySem.Challenge.rw_indexlogs_k06_records_taken_back.Holds := by
  w_on; o_law
  refine HandSHeadRun.head_any (r := PySem.W.OpenLaw.row PySem.Challenge.rw_indexlogs_k06_records_taken_back) (q := view (PySem.W.OpenLaw.row PySem.Challenge.rw_indexlogs_k06_records_taken_back).prog [49]) (H := K.Ze_hk) (ob := K.Ze_ob) (M := 60000) (loose := K.Ze_names) (d := HandSHeadRun.topDef (PySem.W.OpenLaw.row PySem.Challenge.rw_indexlogs_k06_records_taken_back).prog 49) (kwd := []) K.Ze_ob_eq
    (by kernel_rfl) (fun s => by kernel_rfl) K.Ze_run (by kernel_rfl) (by kernel_rfl) (by kernel_rfl) (by rfl) (by first | assumption | decide +kernel) (by decide +kernel) ⟨rfl, rfl, rfl, rfl, rfl, by decide +kernel⟩ ?hw ?hc
  case hw => w_witness2
  case hc =>
    refine Hk.walk_h (l := PySem.Challenge.rw_indexlogs_k06_records_taken_back) (n := 63) (k := 32) (x := "_law_script") (sp := K.sp_law) rfl (by decide) (by kernel_rfl) ⟨rfl, by decide, by decide⟩ ?F (fun _ _ a ns hl hS => ⟨a, ns, rfl, hS, hl, fun _ => rfl⟩)
    intro w mg fa h Y G hmg0
    obtain ⟨L, KX, c⟩ := Y
    have hmg : mg ("law" : PySem.Str) = some (.ref fa) := by
      have e : (HandSHeadRun.topDef (PySem.W.OpenLaw.row PySem.Challenge.rw_indexlogs_k06_records_taken_back).prog 49).name = ("law" : PySem.Str) := by kernel_rfl
      rw [← e]
      exact hmg0
    obtain ⟨fd, hb, hF⟩ := K.Ze_facts (w := w) KX G hmg c
    exact ⟨L, fd, KX, hb, hF⟩
