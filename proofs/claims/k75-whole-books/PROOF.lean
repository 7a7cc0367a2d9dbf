import PyProof.Rows.All
import Wide.All
import OpenK.AllK
import Wide.FinOn
import KE.KStateDown
import Lean
import HandS.Head0
import HandS.Head1
import HandS.Head2
import HandS.HeadHook1
import HandS.HeadHook2
import HandS.HeadEnd
import HandS.ForMost
import HandS.Exc
import HandS.TryOnly
import HandS.ExcOwn
import HandS.WordsExc
import HandS.IsInst
import HandS.Defaults
import HandS.MakeKw
import HandS.MakeKwOnly
import HandS.More
import HandS.Star
import HandS.SlotsOwn
import HandS.Property
import PyProof.EqAt
import PyProof.EqKinds
import PyProof.TupleCall
import KE.KExcSuper
import HandS.ExcSuper
import HandS.ExcInit
import HandS.ExcField
import HandS.Base
import HandS.Call
import Wide.Seal
import PyProof.Rows.SortShell
import PyProof.Rows.SortKey
import KE.KSortTup
import HandS.Sort
import HandS.Keys
import HandS.SetFor
import HandS.TupSets
import HandS.Strs
import KE.KDictKeyed
import KE.KDictDisplayH
import HandS.Style
import KE.KDictZip
import HandS.Zip0
import HandS.Zip
import HandS.Deep
import PyProof.Rows.InDataRows
import PyProof.ReprRoads
import HandS.DictComp
import HandS.Codes
import HandS.AnyAll
import HandS.TupAny
import HandS.Wide
import HandS.Conv
import HandS.WordsDict
import PyProof.ReprBulk
import PySem.Challenge.RW_oddfigures_k75_whole_books_as_a_model
set_option Elab.async false
set_option linter.all false
set_option maxRecDepth 100000
set_option maxHeartbeats 0
namespace K75
open PySem PySem.Spec PyProof.Rows L2
def top (i : Nat) : Stmt := PySem.Challenge.pw_oddfigures_k75_whole_books_as_a_model.main.body.getD i (.Pass ⟨0, 0, 0, 0⟩)
/-- the j-th statement of a class's body -/
def inC (st : Stmt) (j : Nat) : Stmt := match st with
  | .ClassDef (body := b) .. => b.getD j (.Pass ⟨0, 0, 0, 0⟩)
  | _ => .Pass ⟨0, 0, 0, 0⟩
/-! ### what is read off the heap behind the top -/
abbrev lawR : PySem.W.OpenLaw := PySem.Challenge.rw_oddfigures_k75_whole_books_as_a_model
abbrev Prg : Program := lawR.prog
/-- what a dict's values, a def, a class, a property name -/
def rDic (g : Addr → Option Obj) (as : List Addr) : List Addr := as.flatMap fun a => match g a with
  | some ⟨_, _, .dict es _, _⟩ => es.toList.flatMap fun e => He.refV e.val
  | _ => []
def rDef (g : Addr → Option Obj) (as : List Addr) : List Addr := as.flatMap fun a => match g a with
  | some ⟨_, _, .func d, _⟩ => He.refV d.code ++ (He.refV d.defaults ++ d.closure.map (·.2))
  | some ⟨_, _, .cls c, _⟩ => [c.ns]
  | _ => []
def rPro (g : Addr → Option Obj) (as : List Addr) : List Addr := as.flatMap fun a => match g a with
  | some ⟨_, _, .func d, _⟩ => He.refV d.code ++ d.closure.map (·.2)
  | some ⟨_, _, .fields vs, _⟩ => vs.toList.flatMap He.refV
  | _ => []
def adX (g : Addr → Option Obj) : List Addr :=
  let f1 := rDic g [mainGlobals]
  let f2 := rDef g f1
  let f3 := rDic g f2
  let f4 := rPro g f3
  mainGlobals :: PySem.cStatics :: (f1 ++ (f2 ++ (f3 ++ (f4 ++ rDef g f4))))
def frX (g : Addr → Option Obj) : PySem.W.Frag := He.frG g (adX g)
/-- a property's getter -/
def prAd (K : PySem.W.Frag) (p : Addr) : Addr := match PySem.W.recIn K p "property" with
  | some (.ref g :: _) => g
  | _ => 0
def prB (K : PySem.W.Frag) (p : Addr) : Bool := match PySem.W.recIn K p "property" with
  | some (.ref _ :: _) => true
  | _ => false
/-- a def: where it stands, its text -/
structure DX where
  at_ : PySem.W.Frag → Addr
  nm : Str
  qn : Str
  st : Stmt
  df : List V := []
abbrev FW : Type := Option (Str × Str × Arguments × FuncBody × Scope × Addr × List (Str × Addr) × Addr)
def fwAt (K : PySem.W.Frag) (a : Addr) : FW := match K.lookup a with
  | some ⟨_, _, .func d, _⟩ => some (d.name, d.qualname, d.params, d.body, d.scope, d.globals, d.closure, d.builtins)
  | _ => none
def DX.want (d : DX) : FW := some (d.nm, d.qn, defArgs d.st, .stmts (defBody d.st), defScope d.st, mainGlobals, [], builtinsNs)
def DX.okB (K : PySem.W.Frag) (d : DX) : Bool := PySem.W.keepIn K (.ref (d.at_ K)) && (match K.lookup (d.at_ K) with
  | some ⟨_, _, .func e, _⟩ => PySem.W.codeIn K e.code d.qn && He.dflB K e.defaults d.df
  | _ => false)
/-! ### the exceptions -/
/-- the __init__ of an exception: its function's text, its closure's names, its defaults -/
abbrev XW : Type := Option (Str × Str × Arguments × FuncBody × Scope × Addr × List Str × Value × Value × Addr)
def xwAt (K : PySem.W.Frag) (a : Addr) : XW := match K.lookup a with
  | some ⟨_, _, .func d, _⟩ => some (d.name, d.qualname, d.params, d.body, d.scope, d.globals, d.closure.map (·.1), d.defaults, d.kwdefaults, d.builtins)
  | _ => none
structure EX where
  cn : Str
  qn : Str
  st : Stmt
def EX.fI (K : PySem.W.Frag) (e : EX) : Addr := He.ma K (He.ga K e.cn) "__init__"
def EX.want (e : EX) : XW := some ("__init__", e.qn, defArgs e.st, .stmts (defBody e.st), defScope e.st, mainGlobals, ["__class__"], .none, .none, builtinsNs)
def celA (K : PySem.W.Frag) (f : Addr) : Addr := match K.lookup f with
  | some ⟨_, _, .func d, _⟩ => (match d.closure with
    | [(_, a)] => a
    | _ => 0)
  | _ => 0
def codA (K : PySem.W.Frag) (f : Addr) : Addr := match K.lookup f with
  | some ⟨_, _, .func d, _⟩ => (match d.code with
    | .ref a => a
    | _ => 0)
  | _ => 0
def codR (K : PySem.W.Frag) (f : Addr) : Bool := match K.lookup f with
  | some ⟨_, _, .func d, _⟩ => (match d.code with
    | .ref _ => true
    | _ => false)
  | _ => false
def celB (K : PySem.W.Frag) (cc C : Addr) : Bool := match K.lookup cc with
  | some ⟨_, _, .cell (some (.ref D)), _⟩ => decide (D = C)
  | _ => false
def codB (K : PySem.W.Frag) (cda : Addr) : Bool := match K.lookup cda with
  | some ⟨_, _, .fields vs, _⟩ => (match (vs[2]? : Option Value) with
    | some (.str file _) => (Prg.main.file : Str) == file
    | _ => false)
  | _ => false
def clsB (K : PySem.W.Frag) (C : Addr) : Bool := match K.lookup C with
  | some ⟨.type t, _, .cls cd, sl⟩ => (match cd.mro, sl.toList with
    | .ref D :: bm, [_, _, _, _, some (.builtin n), _] => decide (t = "type") && (decide (D = C) && (decide (n = "ValueError.__new__") && (!cd.hasDel && (cd.hasDict && (PySem.HandSPX.refsVE bm && He.eqO (PySem.W.alongIn K "__init__" bm) (some (some (.builtin "ValueError.__init__"))))))))
    | _, _ => false)
  | _ => false
/-- what is looked at of such a class -/
def EX.okB (K : PySem.W.Frag) (e : EX) : Bool :=
  let C := He.ga K e.cn
  let f := e.fI K
  clsB K C && (He.eqO (PySem.W.findIn K (.ref C) "__setattr__") (some (some (.builtin "object.__setattr__"))) && (He.eqO (PySem.W.findIn K (.ref C) "__getattribute__") (some (some (.builtin "BaseException.__getattribute__"))) && (He.eqO (PySem.W.findIn K (.ref C) "__getattr__") (some none) && (He.eqO (PySem.W.findIn K (.ref C) "__init__") (some (some (.ref f))) &&
  (decide (PySem.W.typeIn K (.ref f) = some (.type "function")) && (PySem.W.keepIn K (.ref C) && (decide (PySem.W.subIn K (.ref C) (.type "BaseException") = some true) && (decide (PySem.W.subIn K (.ref C) (.type "ValueError") = some true) && (decide (PySem.W.typeIn K (.ref C) = some (.type "type")) && (PySem.W.hasDictIn K C &&
  (decide (PySem.W.exmOne K (.ref C) (.ref C) = some true) && (decide (PySem.W.mroIn K C (.ref C) = some true) && (celB K (celA K f) C && (codB K (codA K f) && (PySem.W.codeIn K (.ref (codA K f)) e.qn && codR K f)))))))))))))))
/-! ### other facts -/
inductive Fx where
  | isc (x : Str)
  | kit (t : String) (x : Str)
  | prop (x f : Str)
  | stat
def Fx.okB (K : PySem.W.Frag) : Fx → Bool
  | .isc x => He.eqO (PySem.W.findIn K (.ref (He.ga K x)) "__class__") (some (some (.builtin "object.__class__"))) && (He.eqO (PySem.W.specialIn K (.builtin "object.__class__") "__get__") (some (some (.builtin "getset_descriptor.__get__"))) && (decide (PySem.W.takesIn K (.builtin "object.__class__") = some true) && decide (PySem.W.mroIn K (He.ga K x) (.type "object") = some true)))
  | .kit t x => decide (PySem.W.kitOne K (.type t) (.ref (He.ga K x)) = some false)
  | .prop x f => He.eqO (PySem.W.findIn K (.ref (He.ga K x)) f) (some (some (.ref (He.ma K (He.ga K x) f)))) && (He.eqO (PySem.W.specialIn K (.ref (He.ma K (He.ga K x) f)) "__get__") (some (some (.builtin "property.__get__"))) && (decide (PySem.W.takesIn K (.ref (He.ma K (He.ga K x) f)) = some true) && prB K (He.ma K (He.ga K x) f)))
  | .stat => He.eqO (PySem.W.nsIn K cStatics "thirdparty.any") (some none)
/-! ### the hook -/
def faL0 : List He.Fa := [.free "isinstance", .free "int", .free "bool", .free "str", .free "list", .free "tuple", .free "set", .free "sorted", .free "all", .free "any", .free "max", .free "min", .free "sum", .free "range", .free "zip", .free "abs", .free "dict", .free "len", .free "repr", .free "super", .int "MOST_DIGITS" 6, .int "GREATEST_DIGIT" 9, .int "GREATEST_BASE" 6, .int "GREATEST_FACTOR" 2, .int "LONGEST_NAME" 8, .glo "Scheme", .cls "Scheme", .mkr "Scheme", .glo "Book", .cls "Book"]
def faL1 : List He.Fa := [.mkr "Book", .noat "Scheme" "own_base", .noat "Scheme" "own_digits", .noat "Scheme" "own_bars", .noat "Scheme" "own_parts", .noat "Book" "own_schemes", .noat "Book" "own_rows", .noat "Book" "past", .glo "is_integer", .glo "is_base", .glo "is_digit", .glo "is_list", .glo "different", .glo "is_digit_list", .glo "is_pair", .meth "Scheme" "has", .meth "Scheme" "allows", .meth "Scheme" "__contains__", .meth "Scheme" "value_of", .meth "Scheme" "__eq__", .glo "is_whole", .glo "check_place", .glo "steps_from", .glo "levels_from", .glo "is_open", .glo "is_written", .glo "traced", .glo "writing", .glo "is_name", .glo "is_named_term"]
def faL2 : List He.Fa := [.meth "Book" "__contains__", .meth "Book" "schemes", .meth "Book" "entries", .meth "Book" "scheme_of", .meth "Book" "entry_of", .meth "Book" "home", .meth "Book" "row_of", .meth "Book" "number_of", .meth "Book" "writers", .meth "Book" "change", .meth "Book" "check_name", .meth "Book" "enter", .meth "Book" "written", .meth "Book" "keep", .meth "Book" "put", .meth "Book" "lay", .meth "Book" "move", .meth "Book" "deeds", .meth "Book" "undo", .meth "Book" "__eq__", .meth "Book" "drop", .meth "Book" "checked_terms", .meth "Book" "reckon", .glo "_law_cell", .glo "_law_box", .glo "_law_take", .glo "_law_digits", .glo "_law_pairs", .glo "_law_scheme", .glo "_law_made"]
def faL3 : List He.Fa := [.glo "_law_value", .glo "_law_known", .glo "_law_is_name", .glo "_law_is_row", .glo "_law_name", .glo "_law_any_name", .glo "_law_entry_due", .glo "_law_written", .glo "_law_number_of", .glo "_law_entered", .glo "_law_keep_due", .glo "_law_put_due", .glo "_law_lay_due", .glo "_law_move_due", .glo "_law_good_term", .glo "_law_reckon_due", .glo "_law_drop_due", .glo "_law_done", .glo "_law_due", .glo "_law_told", .glo "_law_row", .glo "_law_number", .glo "_law_some_row", .glo "_law_deed", .glo "_law_writers_right", .glo "_law_look", .glo "law", .glo "InvalidName", .noat "InvalidName" "name", .glo "NameTaken"]
def faL4 : List He.Fa := [.noat "NameTaken" "name", .glo "NotScheme", .noat "NotScheme" "value", .glo "UnknownName", .noat "UnknownName" "name", .glo "InvalidNumber", .noat "InvalidNumber" "number", .glo "NotWritten", .noat "NotWritten" "number", .glo "InvalidRow", .noat "InvalidRow" "row", .glo "InvalidTerms", .noat "InvalidTerms" "value", .glo "InvalidTerm", .noat "InvalidTerm" "term", .glo "InUse", .noat "InUse" "name", .glo "NothingToUndo", .exm "InvalidName" "InvalidName" true, .exm "InvalidName" "NameTaken" false, .exm "InvalidName" "NotScheme" false, .exm "InvalidName" "UnknownName" false, .exm "InvalidName" "InvalidNumber" false, .exm "InvalidName" "NotWritten" false, .exm "InvalidName" "InvalidRow" false, .exm "InvalidName" "InvalidTerms" false, .exm "InvalidName" "InvalidTerm" false, .exm "InvalidName" "InUse" false, .exm "InvalidName" "NothingToUndo" false, .exm "NameTaken" "InvalidName" false]
def faL5 : List He.Fa := [.exm "NameTaken" "NameTaken" true, .exm "NameTaken" "NotScheme" false, .exm "NameTaken" "UnknownName" false, .exm "NameTaken" "InvalidNumber" false, .exm "NameTaken" "NotWritten" false, .exm "NameTaken" "InvalidRow" false, .exm "NameTaken" "InvalidTerms" false, .exm "NameTaken" "InvalidTerm" false, .exm "NameTaken" "InUse" false, .exm "NameTaken" "NothingToUndo" false, .exm "NotScheme" "InvalidName" false, .exm "NotScheme" "NameTaken" false, .exm "NotScheme" "NotScheme" true, .exm "NotScheme" "UnknownName" false, .exm "NotScheme" "InvalidNumber" false, .exm "NotScheme" "NotWritten" false, .exm "NotScheme" "InvalidRow" false, .exm "NotScheme" "InvalidTerms" false, .exm "NotScheme" "InvalidTerm" false, .exm "NotScheme" "InUse" false, .exm "NotScheme" "NothingToUndo" false, .exm "UnknownName" "InvalidName" false, .exm "UnknownName" "NameTaken" false, .exm "UnknownName" "NotScheme" false, .exm "UnknownName" "UnknownName" true, .exm "UnknownName" "InvalidNumber" false, .exm "UnknownName" "NotWritten" false, .exm "UnknownName" "InvalidRow" false, .exm "UnknownName" "InvalidTerms" false, .exm "UnknownName" "InvalidTerm" false]
def faL6 : List He.Fa := [.exm "UnknownName" "InUse" false, .exm "UnknownName" "NothingToUndo" false, .exm "InvalidNumber" "InvalidName" false, .exm "InvalidNumber" "NameTaken" false, .exm "InvalidNumber" "NotScheme" false, .exm "InvalidNumber" "UnknownName" false, .exm "InvalidNumber" "InvalidNumber" true, .exm "InvalidNumber" "NotWritten" false, .exm "InvalidNumber" "InvalidRow" false, .exm "InvalidNumber" "InvalidTerms" false, .exm "InvalidNumber" "InvalidTerm" false, .exm "InvalidNumber" "InUse" false, .exm "InvalidNumber" "NothingToUndo" false, .exm "NotWritten" "InvalidName" false, .exm "NotWritten" "NameTaken" false, .exm "NotWritten" "NotScheme" false, .exm "NotWritten" "UnknownName" false, .exm "NotWritten" "InvalidNumber" false, .exm "NotWritten" "NotWritten" true, .exm "NotWritten" "InvalidRow" false, .exm "NotWritten" "InvalidTerms" false, .exm "NotWritten" "InvalidTerm" false, .exm "NotWritten" "InUse" false, .exm "NotWritten" "NothingToUndo" false, .exm "InvalidRow" "InvalidName" false, .exm "InvalidRow" "NameTaken" false, .exm "InvalidRow" "NotScheme" false, .exm "InvalidRow" "UnknownName" false, .exm "InvalidRow" "InvalidNumber" false, .exm "InvalidRow" "NotWritten" false]
def faL7 : List He.Fa := [.exm "InvalidRow" "InvalidRow" true, .exm "InvalidRow" "InvalidTerms" false, .exm "InvalidRow" "InvalidTerm" false, .exm "InvalidRow" "InUse" false, .exm "InvalidRow" "NothingToUndo" false, .exm "InvalidTerms" "InvalidName" false, .exm "InvalidTerms" "NameTaken" false, .exm "InvalidTerms" "NotScheme" false, .exm "InvalidTerms" "UnknownName" false, .exm "InvalidTerms" "InvalidNumber" false, .exm "InvalidTerms" "NotWritten" false, .exm "InvalidTerms" "InvalidRow" false, .exm "InvalidTerms" "InvalidTerms" true, .exm "InvalidTerms" "InvalidTerm" false, .exm "InvalidTerms" "InUse" false, .exm "InvalidTerms" "NothingToUndo" false, .exm "InvalidTerm" "InvalidName" false, .exm "InvalidTerm" "NameTaken" false, .exm "InvalidTerm" "NotScheme" false, .exm "InvalidTerm" "UnknownName" false, .exm "InvalidTerm" "InvalidNumber" false, .exm "InvalidTerm" "NotWritten" false, .exm "InvalidTerm" "InvalidRow" false, .exm "InvalidTerm" "InvalidTerms" false, .exm "InvalidTerm" "InvalidTerm" true, .exm "InvalidTerm" "InUse" false, .exm "InvalidTerm" "NothingToUndo" false, .exm "InUse" "InvalidName" false, .exm "InUse" "NameTaken" false, .exm "InUse" "NotScheme" false]
def faL8 : List He.Fa := [.exm "InUse" "UnknownName" false, .exm "InUse" "InvalidNumber" false, .exm "InUse" "NotWritten" false, .exm "InUse" "InvalidRow" false, .exm "InUse" "InvalidTerms" false, .exm "InUse" "InvalidTerm" false, .exm "InUse" "InUse" true, .exm "InUse" "NothingToUndo" false, .exm "NothingToUndo" "InvalidName" false, .exm "NothingToUndo" "NameTaken" false, .exm "NothingToUndo" "NotScheme" false, .exm "NothingToUndo" "UnknownName" false, .exm "NothingToUndo" "InvalidNumber" false, .exm "NothingToUndo" "NotWritten" false, .exm "NothingToUndo" "InvalidRow" false, .exm "NothingToUndo" "InvalidTerms" false, .exm "NothingToUndo" "InvalidTerm" false, .exm "NothingToUndo" "InUse" false, .exm "NothingToUndo" "NothingToUndo" true]
def faL : List He.Fa := faL0 ++ faL1 ++ faL2 ++ faL3 ++ faL4 ++ faL5 ++ faL6 ++ faL7 ++ faL8
def fxL : List Fx := [.isc "Scheme", .isc "Book", .kit "NoneType" "Scheme", .kit "bool" "Scheme", .kit "int" "Scheme", .kit "str" "Scheme", .prop "Scheme" "base", .prop "Scheme" "digits", .stat]
def dx0 : DX := ⟨fun K => He.ga K "is_integer", "is_integer", "is_integer", (top 23), []⟩
def dx1 : DX := ⟨fun K => He.ga K "is_base", "is_base", "is_base", (top 24), []⟩
def dx2 : DX := ⟨fun K => He.ga K "is_digit", "is_digit", "is_digit", (top 25), []⟩
def dx3 : DX := ⟨fun K => He.ga K "is_list", "is_list", "is_list", (top 31), []⟩
def dx4 : DX := ⟨fun K => He.ga K "different", "different", "different", (top 32), []⟩
def dx5 : DX := ⟨fun K => He.ga K "is_digit_list", "is_digit_list", "is_digit_list", (top 33), []⟩
def dx6 : DX := ⟨fun K => He.ga K "is_pair", "is_pair", "is_pair", (top 34), []⟩
def dx7 : DX := ⟨fun K => He.ma K (He.ga K "Scheme") "__init__", "__init__", "Scheme.__init__", (inC (top 35) 0), []⟩
def dx8 : DX := ⟨fun K => prAd K (He.ma K (He.ga K "Scheme") "base"), "base", "Scheme.base", (inC (top 35) 1), []⟩
def dx9 : DX := ⟨fun K => prAd K (He.ma K (He.ga K "Scheme") "digits"), "digits", "Scheme.digits", (inC (top 35) 2), []⟩
def dx10 : DX := ⟨fun K => He.ma K (He.ga K "Scheme") "has", "has", "Scheme.has", (inC (top 35) 6), []⟩
def dx11 : DX := ⟨fun K => He.ma K (He.ga K "Scheme") "allows", "allows", "Scheme.allows", (inC (top 35) 7), []⟩
def dx12 : DX := ⟨fun K => He.ma K (He.ga K "Scheme") "__contains__", "__contains__", "Scheme.__contains__", (inC (top 35) 8), []⟩
def dx13 : DX := ⟨fun K => He.ma K (He.ga K "Scheme") "value_of", "value_of", "Scheme.value_of", (inC (top 35) 9), []⟩
def dx14 : DX := ⟨fun K => He.ma K (He.ga K "Scheme") "__eq__", "__eq__", "Scheme.__eq__", (inC (top 35) 4), []⟩
def dx15 : DX := ⟨fun K => He.ga K "is_whole", "is_whole", "is_whole", (top 38), []⟩
def dx16 : DX := ⟨fun K => He.ga K "check_place", "check_place", "check_place", (top 39), []⟩
def dx17 : DX := ⟨fun K => He.ga K "steps_from", "steps_from", "steps_from", (top 40), []⟩
def dx18 : DX := ⟨fun K => He.ga K "levels_from", "levels_from", "levels_from", (top 41), []⟩
def dx19 : DX := ⟨fun K => He.ga K "is_open", "is_open", "is_open", (top 42), []⟩
def dx20 : DX := ⟨fun K => He.ga K "is_written", "is_written", "is_written", (top 43), [.non]⟩
def dx21 : DX := ⟨fun K => He.ga K "traced", "traced", "traced", (top 44), []⟩
def dx22 : DX := ⟨fun K => He.ga K "writing", "writing", "writing", (top 45), [.non]⟩
def dx23 : DX := ⟨fun K => He.ga K "is_name", "is_name", "is_name", (top 49), []⟩
def dx24 : DX := ⟨fun K => He.ga K "is_named_term", "is_named_term", "is_named_term", (top 50), []⟩
def dx25 : DX := ⟨fun K => He.ma K (He.ga K "Book") "__init__", "__init__", "Book.__init__", (inC (top 52) 0), []⟩
def dx26 : DX := ⟨fun K => He.ma K (He.ga K "Book") "__contains__", "__contains__", "Book.__contains__", (inC (top 52) 2), []⟩
def dx27 : DX := ⟨fun K => He.ma K (He.ga K "Book") "schemes", "schemes", "Book.schemes", (inC (top 52) 3), []⟩
def dx28 : DX := ⟨fun K => He.ma K (He.ga K "Book") "entries", "entries", "Book.entries", (inC (top 52) 4), []⟩
def dx29 : DX := ⟨fun K => He.ma K (He.ga K "Book") "scheme_of", "scheme_of", "Book.scheme_of", (inC (top 52) 5), []⟩
def dx30 : DX := ⟨fun K => He.ma K (He.ga K "Book") "entry_of", "entry_of", "Book.entry_of", (inC (top 52) 6), []⟩
def dx31 : DX := ⟨fun K => He.ma K (He.ga K "Book") "home", "home", "Book.home", (inC (top 52) 7), []⟩
def dx32 : DX := ⟨fun K => He.ma K (He.ga K "Book") "row_of", "row_of", "Book.row_of", (inC (top 52) 8), []⟩
def dx33 : DX := ⟨fun K => He.ma K (He.ga K "Book") "number_of", "number_of", "Book.number_of", (inC (top 52) 9), []⟩
def dx34 : DX := ⟨fun K => He.ma K (He.ga K "Book") "writers", "writers", "Book.writers", (inC (top 52) 10), []⟩
def dx35 : DX := ⟨fun K => He.ma K (He.ga K "Book") "change", "change", "Book.change", (inC (top 52) 11), []⟩
def dx36 : DX := ⟨fun K => He.ma K (He.ga K "Book") "check_name", "check_name", "Book.check_name", (inC (top 52) 12), []⟩
def dx37 : DX := ⟨fun K => He.ma K (He.ga K "Book") "enter", "enter", "Book.enter", (inC (top 52) 13), []⟩
def dx38 : DX := ⟨fun K => He.ma K (He.ga K "Book") "written", "written", "Book.written", (inC (top 52) 14), []⟩
def dx39 : DX := ⟨fun K => He.ma K (He.ga K "Book") "keep", "keep", "Book.keep", (inC (top 52) 15), []⟩
def dx40 : DX := ⟨fun K => He.ma K (He.ga K "Book") "put", "put", "Book.put", (inC (top 52) 16), []⟩
def dx41 : DX := ⟨fun K => He.ma K (He.ga K "Book") "lay", "lay", "Book.lay", (inC (top 52) 17), []⟩
def dx42 : DX := ⟨fun K => He.ma K (He.ga K "Book") "move", "move", "Book.move", (inC (top 52) 18), []⟩
def dx43 : DX := ⟨fun K => He.ma K (He.ga K "Book") "deeds", "deeds", "Book.deeds", (inC (top 52) 23), []⟩
def dx44 : DX := ⟨fun K => He.ma K (He.ga K "Book") "undo", "undo", "Book.undo", (inC (top 52) 24), []⟩
def dx45 : DX := ⟨fun K => He.ma K (He.ga K "Book") "__eq__", "__eq__", "Book.__eq__", (inC (top 52) 1), []⟩
def dx46 : DX := ⟨fun K => He.ma K (He.ga K "Book") "drop", "drop", "Book.drop", (inC (top 52) 21), []⟩
def dx47 : DX := ⟨fun K => He.ma K (He.ga K "Book") "checked_terms", "checked_terms", "Book.checked_terms", (inC (top 52) 19), []⟩
def dx48 : DX := ⟨fun K => He.ma K (He.ga K "Book") "reckon", "reckon", "Book.reckon", (inC (top 52) 20), []⟩
def dx49 : DX := ⟨fun K => He.ga K "_law_cell", "_law_cell", "_law_cell", (top 54), []⟩
def dx50 : DX := ⟨fun K => He.ga K "_law_box", "_law_box", "_law_box", (top 55), []⟩
def dx51 : DX := ⟨fun K => He.ga K "_law_take", "_law_take", "_law_take", (top 56), []⟩
def dx52 : DX := ⟨fun K => He.ga K "_law_digits", "_law_digits", "_law_digits", (top 57), []⟩
def dx53 : DX := ⟨fun K => He.ga K "_law_pairs", "_law_pairs", "_law_pairs", (top 58), []⟩
def dx54 : DX := ⟨fun K => He.ga K "_law_scheme", "_law_scheme", "_law_scheme", (top 59), []⟩
def dx55 : DX := ⟨fun K => He.ga K "_law_made", "_law_made", "_law_made", (top 60), []⟩
def dx56 : DX := ⟨fun K => He.ga K "_law_value", "_law_value", "_law_value", (top 61), []⟩
def dx57 : DX := ⟨fun K => He.ga K "_law_known", "_law_known", "_law_known", (top 67), []⟩
def dx58 : DX := ⟨fun K => He.ga K "_law_is_name", "_law_is_name", "_law_is_name", (top 66), []⟩
def dx59 : DX := ⟨fun K => He.ga K "_law_is_row", "_law_is_row", "_law_is_row", (top 62), []⟩
def dx60 : DX := ⟨fun K => He.ga K "_law_name", "_law_name", "_law_name", (top 64), []⟩
def dx61 : DX := ⟨fun K => He.ga K "_law_any_name", "_law_any_name", "_law_any_name", (top 65), []⟩
def dx62 : DX := ⟨fun K => He.ga K "_law_entry_due", "_law_entry_due", "_law_entry_due", (top 68), []⟩
def dx63 : DX := ⟨fun K => He.ga K "_law_written", "_law_written", "_law_written", (top 69), []⟩
def dx64 : DX := ⟨fun K => He.ga K "_law_number_of", "_law_number_of", "_law_number_of", (top 71), []⟩
def dx65 : DX := ⟨fun K => He.ga K "_law_entered", "_law_entered", "_law_entered", (top 70), []⟩
def dx66 : DX := ⟨fun K => He.ga K "_law_keep_due", "_law_keep_due", "_law_keep_due", (top 72), []⟩
def dx67 : DX := ⟨fun K => He.ga K "_law_put_due", "_law_put_due", "_law_put_due", (top 73), []⟩
def dx68 : DX := ⟨fun K => He.ga K "_law_lay_due", "_law_lay_due", "_law_lay_due", (top 74), []⟩
def dx69 : DX := ⟨fun K => He.ga K "_law_move_due", "_law_move_due", "_law_move_due", (top 75), []⟩
def dx70 : DX := ⟨fun K => He.ga K "_law_good_term", "_law_good_term", "_law_good_term", (top 76), []⟩
def dx71 : DX := ⟨fun K => He.ga K "_law_reckon_due", "_law_reckon_due", "_law_reckon_due", (top 77), []⟩
def dx72 : DX := ⟨fun K => He.ga K "_law_drop_due", "_law_drop_due", "_law_drop_due", (top 78), []⟩
def dx73 : DX := ⟨fun K => He.ga K "_law_done", "_law_done", "_law_done", (top 79), []⟩
def dx74 : DX := ⟨fun K => He.ga K "_law_due", "_law_due", "_law_due", (top 81), []⟩
def dx75 : DX := ⟨fun K => He.ga K "_law_told", "_law_told", "_law_told", (top 80), []⟩
def dx76 : DX := ⟨fun K => He.ga K "_law_row", "_law_row", "_law_row", (top 63), []⟩
def dx77 : DX := ⟨fun K => He.ga K "_law_number", "_law_number", "_law_number", (top 82), []⟩
def dx78 : DX := ⟨fun K => He.ga K "_law_some_row", "_law_some_row", "_law_some_row", (top 83), []⟩
def dx79 : DX := ⟨fun K => He.ga K "_law_deed", "_law_deed", "_law_deed", (top 84), []⟩
def dx80 : DX := ⟨fun K => He.ga K "_law_writers_right", "_law_writers_right", "_law_writers_right", (top 86), []⟩
def dx81 : DX := ⟨fun K => He.ga K "_law_look", "_law_look", "_law_look", (top 85), []⟩
def dx82 : DX := ⟨fun K => He.ga K "law", "law", "law", (top 87), []⟩
def fnL0 : List DX := [dx0, dx1, dx2, dx3, dx4, dx5, dx6, dx7, dx8, dx9, dx10, dx11, dx12, dx13, dx14, dx15, dx16, dx17, dx18, dx19, dx20, dx21, dx22, dx23, dx24, dx25, dx26, dx27, dx28, dx29]
def fnL1 : List DX := [dx30, dx31, dx32, dx33, dx34, dx35, dx36, dx37, dx38, dx39, dx40, dx41, dx42, dx43, dx44, dx45, dx46, dx47, dx48, dx49, dx50, dx51, dx52, dx53, dx54, dx55, dx56, dx57, dx58, dx59]
def fnL2 : List DX := [dx60, dx61, dx62, dx63, dx64, dx65, dx66, dx67, dx68, dx69, dx70, dx71, dx72, dx73, dx74, dx75, dx76, dx77, dx78, dx79, dx80, dx81, dx82]
def fnL : List DX := fnL0 ++ fnL1 ++ fnL2
abbrev s_InvalidName_init : Stmt := inC (top 11) 0
def ex0 : EX := ⟨"InvalidName", "InvalidName.__init__", s_InvalidName_init⟩
abbrev s_NameTaken_init : Stmt := inC (top 14) 0
def ex1 : EX := ⟨"NameTaken", "NameTaken.__init__", s_NameTaken_init⟩
abbrev s_NotScheme_init : Stmt := inC (top 17) 0
def ex2 : EX := ⟨"NotScheme", "NotScheme.__init__", s_NotScheme_init⟩
abbrev s_UnknownName_init : Stmt := inC (top 13) 0
def ex3 : EX := ⟨"UnknownName", "UnknownName.__init__", s_UnknownName_init⟩
abbrev s_InvalidNumber_init : Stmt := inC (top 8) 0
def ex4 : EX := ⟨"InvalidNumber", "InvalidNumber.__init__", s_InvalidNumber_init⟩
abbrev s_NotWritten_init : Stmt := inC (top 15) 0
def ex5 : EX := ⟨"NotWritten", "NotWritten.__init__", s_NotWritten_init⟩
abbrev s_InvalidRow_init : Stmt := inC (top 6) 0
def ex6 : EX := ⟨"InvalidRow", "InvalidRow.__init__", s_InvalidRow_init⟩
abbrev s_InvalidTerms_init : Stmt := inC (top 9) 0
def ex7 : EX := ⟨"InvalidTerms", "InvalidTerms.__init__", s_InvalidTerms_init⟩
abbrev s_InvalidTerm_init : Stmt := inC (top 10) 0
def ex8 : EX := ⟨"InvalidTerm", "InvalidTerm.__init__", s_InvalidTerm_init⟩
abbrev s_InUse_init : Stmt := inC (top 16) 0
def ex9 : EX := ⟨"InUse", "InUse.__init__", s_InUse_init⟩
abbrev s_NothingToUndo_init : Stmt := inC (top 18) 0
def ex10 : EX := ⟨"NothingToUndo", "NothingToUndo.__init__", s_NothingToUndo_init⟩
def exL : List EX := [ex0, ex1, ex2, ex3, ex4, ex5, ex6, ex7, ex8, ex9, ex10]
abbrev Al2 : Type := Bool × List FW
abbrev Al3 : Type := Bool × Bool × List XW
abbrev AlX : Type := Bool × Al2 × Al3
def obs1 (K : PySem.W.Frag) : Bool := faL.all fun f => f.ok K
def obs2 (K : PySem.W.Frag) : Al2 := (fnL.all fun d => d.okB K, fnL.map fun d => fwAt K (d.at_ K))
def obs3 (K : PySem.W.Frag) : Al3 := (fxL.all fun f => f.okB K, exL.all fun e => e.okB K, exL.map fun e => xwAt K (e.fI K))
def val2 : Al2 := (true, fnL.map DX.want)
def val3 : Al3 := (true, true, exL.map EX.want)
def obsK (K : PySem.W.Frag) : AlX := (obs1 K, obs2 K, obs3 K)
def valK : AlX := (true, val2, val3)
def SaysX (K : PySem.W.Frag) : Prop := obsK K = valK
/-- a hook that says nothing -/
def hkP (α : Type) (ob : PySem.W.Frag → α) (v : α) : PySem.W.Hook where
  α := α
  obs := fun s => ob (frX s.heap.get?)
  val := fun _ => v
  says := fun _ _ => True
  of := fun _ _ _ => trivial
  keeps := fun _ _ _ _ _ => trivial
def hkX : PySem.W.Hook where
  α := AlX
  obs := fun s => obsK (frX s.heap.get?)
  val := fun _ => valK
  says := fun _ h => ∃ K : PySem.W.Frag, K.In h ∧ SaysX K
  of := fun _ _ e => ⟨_, He.frG_in, e⟩
  keeps := fun _ _ _ ⟨K, hK, c⟩ k => ⟨K, PySem.W.Frag.In.keeps hK k, c⟩
end K75
set_option maxHeartbeats 0
namespace HeadK75
open PySem PySem.W PySem.Calls PyProof.Rows
abbrev R : OpenRow := OpenLaw.row PySem.Challenge.rw_oddfigures_k75_whole_books_as_a_model
abbrev qv : Program := view R.prog [87]
def names0 : List PySem.Str := ["_wall", "FigureError", "InvalidBase", "InvalidDigits", "InvalidBars", "InvalidRow", "InvalidText", "InvalidNumber", "InvalidTerms", "InvalidTerm", "InvalidName", "UnknownDigit", "UnknownName", "NameTaken", "NotWritten", "InUse", "NotScheme", "NothingToUndo", "MOST_DIGITS", "GREATEST_DIGIT", "GREATEST_BASE", "is_integer", "is_base", "is_digit", "are_digits", "row_text", "digit_of", "row_of", "is_list", "different"]
def names1 : List PySem.Str := ["is_digit_list", "is_pair", "Scheme", "scheme_of", "is_whole", "check_place", "steps_from", "levels_from", "is_open", "is_written", "traced", "writing", "GREATEST_FACTOR", "LONGEST_NAME", "is_name", "is_named_term", "Block", "Book", "_law_cell", "_law_box", "_law_take", "_law_digits", "_law_pairs", "_law_scheme", "_law_made", "_law_value", "_law_is_row", "_law_row", "_law_name", "_law_any_name"]
def names2 : List PySem.Str := ["_law_is_name", "_law_known", "_law_entry_due", "_law_written", "_law_entered", "_law_number_of", "_law_keep_due", "_law_put_due", "_law_lay_due", "_law_move_due", "_law_good_term", "_law_reckon_due", "_law_drop_due", "_law_done", "_law_told", "_law_due", "_law_number", "_law_some_row", "_law_deed", "_law_look", "_law_writers_right"]
def names : List PySem.Str := names0 ++ names1 ++ names2
end HeadK75
set_option maxHeartbeats 0
namespace HeadK75
open PySem PySem.W PySem.Calls PyProof.Rows
theorem run1 (w : World) : HandSHeadRun.RunEq R qv (K75.hkP Bool K75.obs1 true) (fun s => K75.obs1 (K75.frX (HandSHeadRun.getT s))) 40000 names w := by
  intro os
  kernel_rfl
end HeadK75
set_option maxHeartbeats 0
namespace HeadK75
open PySem PySem.W PySem.Calls PyProof.Rows
theorem run2 (w : World) : HandSHeadRun.RunEq R qv (K75.hkP K75.Al2 K75.obs2 K75.val2) (fun s => K75.obs2 (K75.frX (HandSHeadRun.getT s))) 40000 names w := by
  intro os
  kernel_rfl
end HeadK75
set_option maxHeartbeats 0
namespace HeadK75
open PySem PySem.W PySem.Calls PyProof.Rows
theorem run3 (w : World) : HandSHeadRun.RunEq R qv (K75.hkP K75.Al3 K75.obs3 K75.val3) (fun s => K75.obs3 (K75.frX (HandSHeadRun.getT s))) 40000 names w := by
  intro os
  kernel_rfl
end HeadK75
set_option maxHeartbeats 2000000
/-! ### calls by positional promises; own == and in -/
namespace K75
open PySem PySem.Spec PyProof.Rows L2
/-- a global name that holds a def or a class of the text -/
structure GloF (K : PySem.W.Frag) (mg : Str → Option Value) (x : Str) (f : Addr) : Prop where
  mg : mg x = some (.ref f)
  kp : PySem.W.keepIn K (.ref f) = true
def tCR (sp : Sp) (E : XK) (t : TA) : TE := fun σ H Q => t σ H fun vs H1 => sp vs H1 Q E
def tMR0 (C : Addr) (m : Str) (sp : Sp) (E : XK) (ta : TE) : TE := fun σ H Q => ta σ H fun x H1 => ∃ a dx fs, x = .ref a ∧ H1 a = some (.ins C dx fs) ∧ fs.lookup m = none ∧ sp [x] H1 Q E
section
variable {X : Cx} {CX : CXT} {k j : Nat} {f C : Addr} {sp : Sp} {E : XK} {x m : Str} {p pos apos : Pos} {e o : Expr} {es : List Expr} {ta : TE} {t : TA}
theorem cR (F : FnR X.prog X.w X.K X.mg X.base CX k f sp) (hr : Room j X.A) (g : GloF X.K X.mg x f) (hx : Passes CX X E) (ha : PA X (e :: es) t) (hk : k ≤ j := by decide) (hg : Gl X x := by rfl)
    (hdb : (x == ("__debug__" : Str)) = false := by decide) (he : starEach (e :: es) X.env = (false, eval e X.env) :: starEach es X.env := by rfl) (hpl : (backTo pos (starEach es X.env)).any (·.1) = false := by rfl) :
    PE X (.Call (.Name x p) (e :: es) [] pos) (tCR sp E t) := by
  refine ⟨fun pins s σ H Q I h => ?_⟩
  refine wpAny_Call_Name_kw (ld_glob I hg g.mg ?_ hdb)
  refine PySem.W.callWith_K (h₀ := X.base) I.ok.mod.kin g.kp (thn (ha.run pos pins s σ H _ I h) fun us s1 ⟨vs, H1, I1, r, q⟩ => ⟨I1.kIn, ?_⟩) he hpl
  exact wpAny_call (run_fnR F (hr.mono hk) hx I1 r q)
theorem mR {pl : Sem Bool} (F : FnR X.prog X.w X.K X.mg X.base CX k f sp) (hr : Room j X.A) (c : Cls X.K C) (hm : Meth X.K C m f) (hx : Passes CX X E) (he : PE X o ta) (ha : PA X (e :: es) t) (hk : k ≤ j := by decide)
    (hst : starEach (e :: es) X.env = (false, eval e X.env) :: starEach es X.env := by rfl) (hpl : (backTo pos (starEach es X.env)).any (·.1) = false := by rfl)
    (ht : eval (.Call (.Attribute o m apos) (e :: es) [] pos) X.env = (do
      let ov ← eval o X.env
      standAt apos.atName
      let (f, first) ← holding [ov] (getMethod ov m pl)
      callWith pos f first (backTo pos (starEach (e :: es) X.env)) (backToKw pos (keywordEach [] X.env))) := by rfl) :
    PE X (.Call (.Attribute o m apos) (e :: es) [] pos) (tMethR C m sp E ta t) := pe_methR (pl := pl) he c hm F (hr.mono hk) hx ha hst hpl ht
theorem mR0 {pl : Sem Bool} (F : FnR X.prog X.w X.K X.mg X.base CX k f sp) (hr : Room j X.A) (c : Cls X.K C) (hm : Meth X.K C m f) (hx : Passes CX X E) (he : PE X o ta) (hk : k ≤ j := by decide)
    (ht : eval (.Call (.Attribute o m apos) [] [] pos) X.env = (do
      let ov ← eval o X.env
      standAt apos.atName
      let (f, first) ← holding [ov] (getMethod ov m pl)
      callWith pos f first (backTo pos (starEach [] X.env)) (backToKw pos (keywordEach [] X.env))) := by rfl) :
    PE X (.Call (.Attribute o m apos) [] [] pos) (tMR0 C m sp E ta) := by
  refine ⟨fun pins s σ H Q I h => ?_⟩
  refine PySem.W.methodCall_KW (pl := pl) (thn (he.run pins s σ H _ I h) fun u s1 ⟨x, H1, I1, rx, a, dx, fs, ex, ea, l, q⟩ => ?_) ht
  subst ex
  obtain rfl : u = Value.ref a := rx
  refine getmeth_ok I1 ea c hm l ?_
  exact PySem.W.callWith_K0 (first := [.ref a]) I1.kIn hm.kp (wpAny_call (run_fnR (us := [.ref a]) (vs := [.ref a]) F (hr.mono hk) hx I1 (.cons rfl .nil) q))
theorem mkR0 (M : Mk X.K C f) (F : FnR X.prog X.w X.K X.mg X.base CX k f sp) (hr : Room j X.A) (g : X.mg x = some (.ref C)) (hx : Passes CX X E) (hk : k + 1 ≤ j := by decide) (hg : Gl X x := by rfl)
    (hdb : (x == ("__debug__" : Str)) = false := by decide) : PE X (.Call (.Name x p) [] [] pos) (StX.tMakeR C sp E tNil) := by
  refine ⟨fun pins s σ H Q I h => ?_⟩
  refine wpAny_Call_Name_kw (ld_glob I hg g ?_ hdb)
  exact PySem.W.callWith_K0 I.kIn M.kp (StX.run_makeR (us := []) M F (hr.mono hk) hx I .nil h)
/-- x in a, a an instance whose class has its own __contains__ at f -/
def rOwnIn (C : Addr) (sp : Sp) (E : XK) (neg : Bool) : R2 := fun x y H Q => ∃ a dx fs, y = .ref a ∧ H a = some (.ins C dx fs) ∧ sp [y, x] H (fun v H' => ∃ b, v = .bl b ∧ Q (.bl (if neg then !b else b)) H') E
theorem op_ownIn (hs : PySem.W.findIn X.K (.ref C) "__contains__" = some (some (.ref f))) (hf : PySem.W.isFn X.K (.ref f) = true) (F : FnR X.prog X.w X.K X.mg X.base CX k f sp) (hr : Room j X.A) (hx : Passes CX X E) (hk : k ≤ j := by decide) :
    OpR X (compareOp .In) (rOwnIn C sp E false) := by
  intro pins s σ H x y v u Q I rx ry h
  obtain ⟨a, dx, fs, rfl, ha, q⟩ := h
  cases (show u = Value.ref a from ry)
  obtain ⟨mA, O, _⟩ := ins_get I.hok ha
  obtain ⟨od, J, _⟩ := O.look
  obtain ⟨m, hF⟩ := I.fr
  refine PySem.W.in_K hF I.ok.mod.kin J hs hf ?_
  refine wpAny_mono (wpAny_call (run_fnR (us := [.ref a, v]) (vs := [.ref a, x]) F (hr.mono hk) hx I (.cons rfl (.cons rx .nil)) q)) (fun w s' z => ?_) fun _ _ x => x
  obtain ⟨z', H', I', rz, b, eb, qz⟩ := z
  subst eb
  cases rz
  exact wpAny_truthy_bool ⟨.bl b, H', I', rfl, qz⟩
theorem op_ownNotIn (hs : PySem.W.findIn X.K (.ref C) "__contains__" = some (some (.ref f))) (hf : PySem.W.isFn X.K (.ref f) = true) (F : FnR X.prog X.w X.K X.mg X.base CX k f sp) (hr : Room j X.A) (hx : Passes CX X E) (hk : k ≤ j := by decide) :
    OpR X (compareOp .NotIn) (rOwnIn C sp E true) := by
  intro pins s σ H x y v u Q I rx ry h
  obtain ⟨a, dx, fs, rfl, ha, q⟩ := h
  cases (show u = Value.ref a from ry)
  obtain ⟨mA, O, _⟩ := ins_get I.hok ha
  obtain ⟨od, J, _⟩ := O.look
  obtain ⟨m, hF⟩ := I.fr
  refine PySem.W.notIn_K hF I.ok.mod.kin J hs hf ?_
  refine wpAny_mono (wpAny_call (run_fnR (us := [.ref a, v]) (vs := [.ref a, x]) F (hr.mono hk) hx I (.cons rfl (.cons rx .nil)) q)) (fun w s' z => ?_) fun _ _ x => x
  obtain ⟨z', H', I', rz, b, eb, qz⟩ := z
  subst eb
  cases rz
  exact wpAny_truthy_bool ⟨.bl (!b), H', I', rfl, qz⟩
/-- a == b of two instances of the class at C, by its own __eq__ at f -/
def rOwnEq (C : Addr) (sp : Sp) (E : XK) : R2 := fun x y H Q => ∃ a dx fs b dy gs, x = .ref a ∧ y = .ref b ∧ H a = some (.ins C dx fs) ∧ H b = some (.ins C dy gs) ∧ sp [x, y] H Q E
theorem op_ownEq (hs : PySem.W.findIn X.K (.ref C) "__eq__" = some (some (.ref f))) (hf : PySem.W.isFn X.K (.ref f) = true) (F : FnR X.prog X.w X.K X.mg X.base CX k f sp) (hr : Room j X.A) (hx : Passes CX X E) (hk : k ≤ j := by decide) :
    OpR X (compareOp .Eq) (rOwnEq C sp E) := by
  intro pins s σ H x y v u Q I rx ry h
  obtain ⟨a, dx, fs, b, dy, gs, rfl, rfl, ha, hb, q⟩ := h
  cases (show v = Value.ref a from rx)
  cases (show u = Value.ref b from ry)
  obtain ⟨mA, O, _⟩ := ins_get I.hok ha
  obtain ⟨od, J, _⟩ := O.look
  obtain ⟨mB, O', _⟩ := ins_get I.hok hb
  obtain ⟨od', J', _⟩ := O'.look
  obtain ⟨m, hF⟩ := I.fr
  refine PySem.W.cmp_K (op := .Eq) (tb := .ref C) (hr.mono hk).units0 hF I.ok.mod.kin J J'.type (by simp [PySem.W.notFirst]) hs hf ?_
  refine wpAny_mono (wpAny_call (run_fnR (us := [.ref a, .ref b]) (vs := [.ref a, .ref b]) F (hr.mono hk) hx I (.cons rfl (.cons rfl .nil)) q)) (fun w s' z => ?_) fun _ _ x => x
  obtain ⟨z', H', I', rz, qz⟩ := z
  exact SlX.cmpback rz ⟨z', H', I', rz, qz⟩
end
end K75
set_option maxHeartbeats 2000000
/-! ### {**d, k: v} -/
namespace PySem
namespace KM1
section
variable {prog : Program} {w : World} {K : Type} [DecidableEq K] {knd : KeyKind prog w K} {A : Around} {E : Value → Shared → Prop} {s : Shared}
theorem wpAny_dictPut_pairs {d : Addr} {kvs : List (K × Value)} {k : K} {key v : Value} {Q : Unit → Shared → Prop} (hkey : knd.is k key = true) (hm : s.heap.DictOf knd d kvs)
    (hQ : ∀ h', h'.DictOf knd d (stored kvs k v) → Heap.SameBut d s.heap h' → Q () { s with heap := h' })
    (hsz : kvs.length ≤ sizeLine := by size_fits) :
    wpAny (model prog w) A (dictPut d (knd.hash k) key v) Q E s := by
  obtain ⟨o, es, ep, ho, hc, hd, hk, hp, hn⟩ := hm
  have hes : es.size ≤ sizeLine := by have e1 := hp.length; have e2 : es.toList.length = es.size := by simp
                                      omega
  unfold dictPut
  refine wpAny_bind (wpAny_dictFind_of hkey ho hd hk ?_)
  have hidx : (es.findIdx? fun e => knd.is k e.key) = kvs.findIdx? fun kv => decide (kv.1 = k) := by
    rw [← hp.findIdx k]; obtain ⟨l⟩ := es; simp
  cases hi : es.findIdx? fun e => knd.is k e.key with
  | some i =>
    refine (wpAny_updateDict ho hd ((hQ _ ⟨_, _, ep, Heap.get?_update_self _ ho (Obj.isFreed_of_dict (Obj.data_mapDict hd _)),
      hc.mapDict _, Obj.data_mapDict hd _, hk.modify _ _, ?_, ?_⟩ (Heap.SameBut.update ..))))
    · rw [stored, if_pos (any_of_findIdx_some (hidx ▸ hi))]
      have hl : (es.toList.findIdx? fun e => knd.is k e.key) = some i := by rw [← hi]; obtain ⟨l⟩ := es; simp
      have := hp.modify hn hl v
      obtain ⟨l⟩ := es
      simpa using this
    · rw [stored, if_pos (any_of_findIdx_some (hidx ▸ hi)), keys_map_store]; exact hn
  | none =>
    have hnot : k ∉ kvs.map (·.1) := not_mem_of_findIdx_none (hidx ▸ hi)
    have hany : ¬ (kvs.any fun kv => decide (kv.1 = k)) = true := by
      rw [List.any_eq_true]; rintro ⟨kv, hkv, he⟩
      exact hnot (List.mem_map.mpr ⟨kv, hkv, of_decide_eq_true he⟩)
    refine (wpAny_updateDictKeys (hz := hes) ho hd (hQ _ ⟨_, _, ep + 1, Heap.get?_update_self _ ho (Obj.isFreed_of_dict (Obj.data_mapDictKeys hd _)),
      hc.mapDictKeys _, Obj.data_mapDictKeys hd _, hk.push hkey _, ?_, ?_⟩ (Heap.SameBut.update ..)))
    · rw [stored, if_neg hany]
      have := hp.append hkey (knd.hash k) v
      obtain ⟨l⟩ := es
      simpa using this
    · rw [stored, if_neg hany, List.map_append, List.nodup_append]
      refine ⟨hn, by simp, ?_⟩
      intro a ha b hb
      simp only [List.map_cons, List.map_nil, List.mem_singleton] at hb
      subst hb
      exact fun e => hnot (e ▸ ha)
/-- the other dict's keys are no objects -/
def Flat (knd : KeyKind prog w K) : Prop := ∀ k v, knd.is k v = true → ∀ a, v ≠ .ref a
theorem wpAny_mergeMapping {d o : Addr} {kvs more : List (K × Value)} {Q : Unit → Shared → Prop} (hf : Flat knd) (hdo : d ≠ o) (hoS : (o == sysModules) = false)
    (hd : s.heap.DictOf knd d kvs) (ho : s.heap.DictOf knd o more)
    (hQ : ∀ h', h'.DictOf knd d (merged kvs more) → h'.DictOf knd o more → Heap.SameBut d s.heap h' → Q () { s with heap := h' })
    (hsz : kvs.length + more.length ≤ sizeLine := by size_fits) :
    wpAny (model prog w) A (mergeMapping d (.ref o) false) Q E s := by
  obtain ⟨od, esd, epd, hod, hcd, hdd, hkd, hpd, hnd⟩ := id hd
  obtain ⟨oo, eso, epo, hoo, hco, hdo', hko, hpo, hno⟩ := id ho
  have hlen : more.length = eso.size := by rw [← hpo.length]; simp
  unfold mergeMapping
  refine wpAny_bind (wpAny_isInstance ho.typeIs isSubtype_dict_dict ?_)
  rw [if_pos rfl]
  refine wpAny_bind (wpAny_specialOf ho.typeIs F.slot_dict_iter.lookup (wpAny_bind (wpAny_pure ?_)))
  rw [show (some (Value.builtin "dict.__iter__") == some (Value.builtin "dict.__iter__")) = true by decide]
  dsimp only
  rw [if_neg (by rw [hoS]; exact Bool.false_ne_true)]
  refine wpAny_bind (wpAny_dictEntries hod hdd ?_)
  have loop : wpAny (model prog w) A (do
      let l ← dictEntries o
      let epoch ← dictEpoch o
      forIn (List.range l.size) PUnit.unit fun i (_ : PUnit) => (do
          let l' ← dictEntries o
          match l'[i]? with
            | some e => do
              holding [e.key, e.val] (dictPut d e.hash e.key e.val)
              let ep' ← dictEpoch o
              if (ep' != epoch) = true then do
                  (unsupported "dict.changed-during-merge" : Sem PUnit)
                  pure (ForInStep.yield PUnit.unit)
                else pure (ForInStep.yield PUnit.unit)
            | _ => do
              (unsupported "dict.changed-during-merge" : Sem PUnit)
              pure (ForInStep.yield PUnit.unit) : Sem (ForInStep PUnit))
      pure ()) Q E s := by
    refine wpAny_bind (wpAny_dictEntries hoo hdo' ?_)
    refine wpAny_bind (wpAny_dictEpoch hoo hdo' ?_)
    refine wpAny_bind ?_
    rw [List.range_eq_range']
    refine wpAny_forIn_list _
      (fun rest _ s' => ∃ h' i, s' = { s with heap := h' } ∧ rest = List.range' i (eso.size - i) ∧ i ≤ eso.size ∧ h'.DictOf knd d (merged kvs (more.take i)) ∧ h'.get? o = some oo ∧ Heap.SameBut d s.heap h')
      _ ?_ ?_ _ _ ⟨s.heap, 0, rfl, by simp, Nat.zero_le _, by simpa [merged] using hd, hoo, Heap.SameBut.refl _ _⟩
    · rintro x rest b s' ⟨h', i, rfl, hr, hi, hd', hoo', hs'⟩
      have hlt : i < eso.size := by
        rcases Nat.lt_or_ge i eso.size with h | h
        · exact h
        · rw [Nat.sub_eq_zero_of_le h] at hr; simp at hr
      obtain ⟨rfl, hrest⟩ : x = i ∧ rest = List.range' (i + 1) (eso.size - (i + 1)) := by
        have e : eso.size - i = (eso.size - (i + 1)) + 1 := by omega
        rw [e, List.range'_succ] at hr
        injection hr with h1 h2
        exact ⟨h1, h2⟩
      refine wpAny_bind (wpAny_dictEntries hoo' hdo' ?_)
      rw [Array.getElem?_eq_getElem hlt]
      obtain ⟨kv, hkv⟩ : ∃ kv, more[x]? = some kv := ⟨more[x]'(by rw [hlen]; exact hlt), List.getElem?_eq_getElem _⟩
      obtain ⟨k, v⟩ := kv
      obtain ⟨hkey, hval⟩ := hpo.get? (e := eso[x]) (by simp [hlt]) hkv
      obtain ⟨k', hkey', hhash⟩ := hko eso[x] (Array.getElem_mem hlt)
      obtain rfl : k' = k := knd.inj _ _ _ hkey' hkey
      show wpAny _ _ (holding [eso[x].key, eso[x].val] (dictPut d eso[x].hash eso[x].key eso[x].val) >>= _) _ _ _
      rw [hhash, hval]
      have hmx : (merged kvs (more.take x)).length ≤ sizeLine := by
        have e1 := merged_length_le kvs (more.take x)
        have e2 : (more.take x).length ≤ more.length := by rw [List.length_take]; omega
        omega
      refine wpAny_bind (wpAny_holding (wpAny_dictPut_pairs (hsz := hmx) hkey hd' fun h'' hd'' hs'' => ?_))
      have hoo'' : h''.get? o = some oo := (hs''.2 o (Ne.symm hdo)).trans hoo'
      refine wpAny_bind (wpAny_dictEpoch hoo'' hdo' ?_)
      rw [if_neg (by simp)]
      exact wpAny_pure ⟨h'', x + 1, rfl, hrest, hlt, by rw [merged_take_succ kvs more x (k', v) hkv]; exact hd'', hoo'', hs'.trans hs''⟩
    · rintro b s' ⟨h', i, rfl, hr, hi, hd', hoo', hs'⟩
      have hin : i = eso.size := by
        rcases Nat.lt_or_ge i eso.size with h | h
        · have e : eso.size - i = (eso.size - (i + 1)) + 1 := by omega
          rw [e, List.range'_succ] at hr; exact nomatch hr
        · exact Nat.le_antisymm hi h
      refine wpAny_pure (hQ h' ?_ ⟨oo, eso, epo, hoo', hco, hdo', hko, hpo, hno⟩ hs')
      rw [hin, ← hlen, List.take_length] at hd'; exact hd'
  split
  · refine wpAny_bind (wpAny_dictEntries hoo hdo' ?_)
    refine wpAny_bind ?_
    refine MeetsSeq2.wpAny_forIn_array _ (fun rest _ s' => s' = s ∧ ∀ e ∈ rest, ∀ a, e.key ≠ .ref a) _ ?_ ?_ _ _ ⟨rfl, fun e he a h => ?_⟩
    · rintro x rest b s' ⟨rfl, hx⟩
      have h0 := hx x List.mem_cons_self
      cases hk : x.key with
      | ref a => exact absurd hk (h0 a)
      | _ => exact wpAny_pure ⟨rfl, fun e he => hx e (List.mem_cons_of_mem _ he)⟩
    · rintro b s' ⟨rfl, _⟩
      exact loop
    · obtain ⟨k, hk, _⟩ := hko e (Array.mem_toList_iff.mp he)
      exact hf _ _ hk a h
  · exact loop
end
end KM1
end PySem
set_option maxHeartbeats 2000000
namespace K75
open PySem PySem.Spec PyProof.Rows L2 KM1
theorem mix_flat (P : Program) (w : World) : Flat (mixKind P w) := fun k v h a e => by
  subst e
  have h' : keyIs k (.ref a) = true := h
  rcases keyIs_shape h' with ⟨_, _, _, q⟩ | ⟨_, _, _, q⟩ <;> cases q
/-- {**d, k: v} -/
def tDM (td tk tv : TE) : TE := fun σ H Q => ∀ p, H p = none → td σ (upd H p (.dK [])) fun x H1 => ∃ a kvs, x = .ref a ∧ a ≠ p ∧ Rd H1 a (.dK kvs) ∧ H1 p = some (.dK []) ∧ kvs.length + 1 ≤ sizeLine ∧
  ∀ q, (upd H1 p (.dK kvs)) q = none → tk σ (upd (upd H1 p (.dK kvs)) q (.dK [])) fun y H2 => tv σ H2 fun z H3 => ∃ k, y = kV k ∧ p ≠ q ∧ H3 p = some (.dK kvs) ∧ H3 q = some (.dK []) ∧
    Q (.ref p) (upd (upd H3 q (.dK [(k, z)])) p (.dK (putK kvs k z)))
theorem pe_dmerge {X : Cx} {d k v : Expr} {td tk tv : TE} {pos : Pos} (hd : PE X d td) (hk : PE X k tk) (hv : PE X v tv) : PE X (.Dict [none, some k] [d, v] pos) (tDM td tk tv) := by
  refine ⟨fun pins s σ H Q I h => ?_⟩
  rw [arm_eval_Dict]
  refine wpAny_bind (wpAny_standAt ?_)
  show wpAny _ _ (dictDisplay [(none, do let x ← eval d X.env; standAt pos; pure x), (some (eval k X.env), do let x ← eval v X.env; standAt pos; pure x)]) _ _ _
  unfold dictDisplay
  refine wpAny_bind ?_
  rw [List.forIn_cons]
  refine wpAny_bind ?_
  dsimp only
  rw [if_pos (show List.isEmpty ([] : List (Sem Value × Sem Value)) = true from rfl)]
  refine wpAny_bind (wpAny_pure ?_)
  dsimp only
  refine wpAny_bind (wpAny_alloc ?_)
  have hn0 : H s.heap.objs.size = none := I.hok.fresh (Nat.le_refl _)
  have I0 := I.laid (a := s.heap.objs.size) (o := .dK []) (h' := s.heap.push { cls := .type "dict", data := .dict #[] }) (t' := s.toks) (fun _ _ q => Heap.get?_push_of_some _ q) (Nat.le_refl _) (dk_empty s.heap I.big)
  generalize s.heap.objs.size = D at *
  refine wpAny_bind (wpAny_holding (wpAny_bind (thn (hd.run pins _ σ _ _ I0 (h _ hn0)) fun mv s1 hh => wpAny_bind (wpAny_standAt (wpAny_pure ?_)))))
  obtain ⟨x, H1, I1, r1, a, kvs, ex, hne, ha, hp, hz, q1⟩ := hh
  subst ex
  cases r1
  refine wpAny_bind (wpAny_onRaise (wpAny_tryCatch (wpAny_onRaise (wpAny_holding ?_))))
  obtain ⟨_, hsys, vs, rv, dA⟩ := ha.ok I1.hok
  obtain ⟨_, hdD, vs0, r0, dd⟩ := dk_of I1.hok hp
  cases r0
  have hl : vs.length = kvs.length := (Paired.length rv).symm
  have hnd : (vs.map (·.1)).Nodup := by obtain ⟨_, _, _, _, _, _, _, _, hn⟩ := dA; exact hn
  refine wpAny_mergeMapping (mix_flat _ _) (Ne.symm hne) hsys dd dA (fun h1 dd1 dA1 hs1 => ?_) (by rw [List.length_nil, hl]; omega)
  rw [merged_nil_of_nodup vs hnd] at dd1
  have he1 : ∃ q, h1.get? D = some q := let ⟨q, _, _, hq, _⟩ := dd1; ⟨q, hq⟩
  have I2 := d_write I1 (ob := .dK kvs) (t' := s1.toks) (by rw [hp]; exact True.intro) hs1 he1 (dk_new (by omega) hdD rv dd1)
  refine wpAny_pure ?_
  dsimp only
  rw [List.forIn_cons]
  refine wpAny_bind ?_
  dsimp only
  rw [if_neg (by simp)]
  refine wpAny_pure ?_
  dsimp only
  rw [List.forIn_nil]
  refine wpAny_pure ?_
  dsimp only
  rw [if_neg (by simp)]
  refine wpAny_bind ?_
  refine wpAny_bind (wpAny_holding ?_)
  have hn2 : (upd H1 D (.dK kvs)) h1.objs.size = none := I2.hok.fresh (Nat.le_refl _)
  have I3 := I2.laid (a := h1.objs.size) (o := .dK []) (h' := h1.push { cls := .type "dict", data := .dict #[] }) (t' := s1.toks) (fun _ _ q => Heap.get?_push_of_some _ q) (Nat.le_refl _) (dk_empty h1 I2.big)
  refine wpAny_subDict (knd := mixKind X.prog X.w) (by simp) ?_
  have q2 := q1 _ hn2
  simp only [List.nil_append]
  show wpAny (model X.prog X.w) X.A (evalPairs [(eval k X.env, do let x ← eval v X.env; standAt pos; pure x)]) _ _ _
  generalize hS : h1.objs.size = S at *
  refine evalPairs_cons (thn (hk.run pins _ σ _ _ I3 q2) fun kv' s2 ⟨y, H2, I4, r4, q3⟩ => wpAny_bind (thn (hv.run pins _ σ _ _ I4 q3) fun vv s3 hh => wpAny_bind (wpAny_standAt (wpAny_pure (evalPairs_nil ?_)))))
  obtain ⟨z, H3, I5, r5, k', ey, hDS, hD3, hS3, qq⟩ := hh
  subst ey
  obtain ⟨_, hdS, vsS, rS0, ddS⟩ := dk_of I5.hok hS3
  cases rS0
  have hkey : (mixKind X.prog X.w).is k' kv' = true := by
    cases k' with
    | inl i =>
      obtain ⟨t, rfl⟩ := (show ∃ t, kv' = Value.int i t from r4)
      exact mixKind_int _ _ _ _
    | inr x =>
      obtain ⟨t, rfl⟩ := (show ∃ t, kv' = Value.str x t from r4)
      exact mixKind_str _ _ _ _
  have rS : KV [(k', z)] [(k', vv)] := .cons ⟨rfl, r5⟩ .nil
  refine ⟨[(k', vv)], ⟨hkey, rfl, trivial⟩, ddS, fun h2 ddS2 hs2 => ?_⟩
  have em : merged ([] : List (Key × Value)) [(k', vv)] = [(k', vv)] := merged_nil_of_nodup _ (by simp)
  rw [em] at ddS2
  have he2 : ∃ q, h2.get? S = some q := let ⟨q, _, _, hq, _⟩ := ddS2; ⟨q, hq⟩
  have I6 := d_write I5 (ob := .dK [(k', z)]) (t' := s3.toks + 1) (by rw [hS3]; exact True.intro) hs2 he2 (dk_new (by show 1 ≤ sizeLine; rw [sizeLine_eq]; omega) hdS rS ddS2)
  have hD4 : (upd H3 S (.dK [(k', z)])) D = some (.dK kvs) := by rw [upd_ne hDS]; exact hD3
  obtain ⟨_, _, vs', rv', ddD⟩ := dk_of I6.hok hD4
  have hl' : vs'.length = kvs.length := (Paired.length rv').symm
  refine wpAny_bind (wpAny_onRaise (wpAny_holding ?_))
  refine wpAny_mergeMapping (mix_flat _ _) hDS hdS ddD ddS2 (fun h3 dd3 _ hs3 => ?_) (by rw [hl']; exact hz)
  have e3 : merged vs' [(k', vv)] = stored vs' k' vv := rfl
  rw [e3] at dd3
  have he3 : ∃ q, h3.get? D = some q := let ⟨q, _, _, hq, _⟩ := dd3; ⟨q, hq⟩
  have rv3 : KV (putK kvs k' z) (stored vs' k' vv) := by
    have := KV.merge (more := [(k', z)]) (rs := [(k', vv)]) rS rv'
    exact this
  have hz3 : (putK kvs k' z).length ≤ sizeLine := by
    have := length_putK kvs k' z
    omega
  have I7 := d_write I6 (ob := .dK (putK kvs k' z)) (t' := s3.toks + 1) (by rw [hD4]; exact True.intro) hs3 he3 (dk_new hz3 hdD rv3 dd3)
  exact wpAny_pure (wpAny_pure ⟨.ref D, _, I7, rfl, qq⟩)
end K75
set_option maxHeartbeats 2000000
/-! ### own exceptions whose __init__ says super().__init__('..') and holds one field, or none -/
namespace K75
open PySem PySem.W PySem.Calls PyProof.Rows PySem.HandSPX
def eA1 (f : Str) (p1 p2 : Pos) : Arguments := { posonlyargs := [], args := [{ arg := "self", annotation := none, pos := p1 }, { arg := f, annotation := none, pos := p2 }], vararg := none, kwonlyargs := [], kw_defaults := [], kwarg := none, defaults := [] }
def eA0 (p1 : Pos) : Arguments := { posonlyargs := [], args := [{ arg := "self", annotation := none, pos := p1 }], vararg := none, kwonlyargs := [], kw_defaults := [], kwarg := none, defaults := [] }
def eB0 (t : Str) (n : Nat) (p1 p2 p3 p4 p5 p6 : Pos) : Stmt := .Expr (.Call (.Attribute (.Call (.Name "super" p1) [] [] p2) "__init__" p3) [.Constant (.str t) n p4] [] p5) p6
def eB1 (f : Str) (q1 q2 q3 q4 : Pos) : Stmt := .Assign [.Attribute (.Name "self" q1) f q2] (.Name f q3) q4
def eS1 (f : Str) : Scope := { kind := .function, names := [(PySem.Str.ofString "self", .local), (f, .local), (PySem.Str.ofString "__class__", .free), (PySem.Str.ofString "super", .globalImplicit)], isGenerator := false, isCoroutine := false, more := [] }
def eS0 : Scope := { kind := .function, names := [(PySem.Str.ofString "self", .local), (PySem.Str.ofString "__class__", .free), (PySem.Str.ofString "super", .globalImplicit)], isGenerator := false, isCoroutine := false, more := [] }
/-- what the written part says of such a class at C, and of its __init__ at fI -/
structure XCls (P : Program) (K : Frag) (mg : Str → Option Value) (C fI cc cda : Addr) (qual : Str) : Prop where
  cls : ∃ nm q N bs bm sn sub ab col dd k0 k1 k2 k3 k5, K.lookup C = some (excClassObj nm q C N bs bm true sn sub ab col dd k0 k1 k2 k3 k5 "ValueError.__new__") ∧ refsVE bm = true ∧ alongIn K "__init__" bm = some (some (.builtin "ValueError.__init__"))
  sa : findIn K (.ref C) "__setattr__" = some (some (.builtin "object.__setattr__"))
  ga : findIn K (.ref C) "__getattribute__" = some (some (.builtin "BaseException.__getattribute__"))
  gg : findIn K (.ref C) "__getattr__" = some none
  iC : findIn K (.ref C) "__init__" = some (some (.ref fI))
  tC : typeIn K (.ref fI) = some (.type "function")
  kC : keepIn K (.ref C) = true
  exC : subIn K (.ref C) (.type "BaseException") = some true
  veC : subIn K (.ref C) (.type "ValueError") = some true
  tyC : typeIn K (.ref C) = some (.type "type")
  hdC : hasDictIn K C = true
  te : exmOne K (.ref C) (.ref C) = some true
  own : mroIn K C (.ref C) = some true
  sup : mg "super" = none
  opq : nsIn K cStatics "thirdparty.any" = some none
  cell : ∃ cl cld csl, K.lookup cc = some ⟨cl, cld, .cell (some (.ref C)), csl⟩
  code : ∃ ccl cdd vs ccs file tf, K.lookup cda = some ⟨ccl, cdd, .fields vs, ccs⟩ ∧ vs[2]? = some (.str file tf) ∧ ((P.main.file : Str) == file) = true
  cdI : codeIn K (.ref cda) qual = true
  top : (P.main.scope.names.lookup ("super" : Str)).isSome = false
section
variable {prog : Program} {w : World} {A : Around} {E : Value → Shared → Prop} {R : Result → Shared → Prop} {s : Shared} {K : Frag} {mg : Str → Option Value} {C fI cc cda : Addr} {qual : Str}
theorem sz1 (v : Value) : [v].length ≤ sizeLine := by
  rw [sizeLine_eq]
  exact (by decide : 1 ≤ 16777216)
theorem XCls.hcl (T : XCls prog K mg C fI cc cda qual) : ∃ cd bm, clsIn K C = some cd ∧ cd.mro = .ref C :: bm ∧ refsVE cd.mro = true ∧ cd.hasDict = true ∧ alongIn K "__init__" bm = some (some (.builtin "ValueError.__init__")) := by
  obtain ⟨nm, q, N, bs, bm, sn, sub, ab, col, dd, k0, k1, k2, k3, k5, hC, hbm, hal⟩ := T.cls
  exact ⟨_, bm, by unfold clsIn; rw [hC] <;> rfl, rfl, hbm, rfl, hal⟩
theorem sup_eval {t : Str} {n : Nat} {p1 p2 p3 p4 p5 : Pos} {env : Env} (h : (p3.endLine == p5.line) = true) : ∃ pl, eval (.Call (.Attribute (.Call (.Name "super" p1) [] [] p2) "__init__" p3) [.Constant (.str t) n p4] [] p5) env = (do
      let ov ← attributeBase (.Call (.Name "super" p1) [] [] p2) "__init__" env (eval (.Call (.Name "super" p1) [] [] p2) env)
      standAt p3.atName
      let (f', first) ← holding [ov] (getMethod ov "__init__" pl)
      callWith p5 f' first (backTo p5 (starEach [.Constant (.str t) n p4] env)) []) := by
  refine ⟨(do return (← importBound (.Call (.Name "super" p1) [] [] p2) env).getD true), ?_⟩
  show (do
      let ov ← attributeBase (.Call (.Name "super" p1) [] [] p2) "__init__" env (eval (.Call (.Name "super" p1) [] [] p2) env)
      standAt p3.atName
      methodCall (.Call (.Name "super" p1) [] [] p2) "__init__" p3 p5 env ov 1 (backTo p5 (starEach [.Constant (.str t) n p4] env)) []) = _
  have e : methodCallForm 1 (backTo p5 (starEach [.Constant (.str t) n p4] env)) [] = true := rfl
  unfold methodCall methodCallPos
  rw [e, h]
  rfl
/-- super().__init__('..') as a statement -/
theorem sup_stmt (T : XCls prog K mg C fI cc cda qual) {x t0 L : Addr} {m : Str → Option Value} {t : Str} {n : Nat} {p1 p2 p3 p4 p5 p6 : Pos} {scope : Scope} {fd : FuncData} {oc : Value} {od : Option Addr} {osl : Array (Option Value)} {ar : Arg} {body : List Stmt} {Q : Flow → Shared → Prop} {E : Value → Shared → Prop}
    (X : K.In s.heap) (hg : s.heap.Ns mainGlobals mg) (hb : ∃ mb, s.heap.Ns builtinsNs mb ∧ ∀ x : Str, x ≠ "__name__" → mb x = bootBuiltins x) (hx : s.heap.get? x = some (excO C t0))
    (hf : K.lookup fI = some ⟨oc, od, .func fd, osl⟩) (hp : (fd.params.posonlyargs ++ fd.params.args).head? = some ar) (hv : m ar.arg = some (.ref x)) (hn : s.heap.Ns L m)
    (hks : scope.names.lookup ("super" : Str) = some .globalImplicit) (hkc : scope.names.lookup ("__class__" : Str) = some .free) (hka : scope.names.lookup ar.arg = some .local) (hk : scope.kind = .function)
    {pl : Sem Bool} (he : eval (.Call (.Attribute (.Call (.Name "super" p1) [] [] p2) "__init__" p3) [.Constant (.str t) n p4] [] p5) (ksEnv qual scope L fI (.ref cda) cc) = (do
      let ov ← attributeBase (.Call (.Name "super" p1) [] [] p2) "__init__" (ksEnv qual scope L fI (.ref cda) cc) (eval (.Call (.Name "super" p1) [] [] p2) (ksEnv qual scope L fI (.ref cda) cc))
      standAt p3.atName
      let (f', first) ← holding [ov] (getMethod ov "__init__" pl)
      callWith p5 f' first (backTo p5 (starEach [.Constant (.str t) n p4] (ksEnv qual scope L fI (.ref cda) cc))) []))
    (hq : ∀ h' t1, (∀ b o, b ≠ x → s.heap.get? b = some o → h'.get? b = some o) → h'.get? x = some (excO C t1) → s.heap.objs.size ≤ h'.objs.size → ∀ tk, Q .next { s with heap := h', toks := tk }) :
    _root_.PySem.wpAt (model prog w) A (.func body (ksEnv qual scope L fI (.ref cda) cc)) (exec (eB0 t n p1 p2 p3 p4 p5 p6) (ksEnv qual scope L fI (.ref cda) cc)) Q E s := by
  obtain ⟨cd, bm, hcl, hmro, hbm, hdd, hal⟩ := T.hcl
  obtain ⟨ccl, cdd, vs, ccs, file, tf, hcode, hvs, hfile⟩ := T.code
  obtain ⟨cl, cld, csl, hcell⟩ := T.cell
  obtain ⟨mb, hb1, hb2⟩ := hb
  obtain ⟨hh, g, d, tk, os⟩ := s
  obtain ⟨oD, hD1, hD2⟩ : ∃ oD, hh.get? C = some oD ∧ oD.data = .cls cd := by
    unfold clsIn at hcl
    split at hcl
    · rename_i c d cd' sl ho
      cases hcl
      exact ⟨_, X _ _ ho, rfl⟩
    · cases hcl
  refine ks_wpAt_Expr_any (hi := by show (scope.kind == .module && _) = false; rw [hk]; rfl) (ks_wpAt_MethodCall ?_ he)
  refine ks_wpAt_super_base (env := ksEnv qual scope L fI (.ref cda) cc) hks hkc (by decide) rfl (X _ _ hf) rfl hp rfl (X _ _ hcode) rfl hvs hfile T.top ?_
  refine ks_loadName_global hk hks (loadGlobal_builtin (env := ksEnv qual scope L fI (.ref cda) cc) hg T.sup hb1 ((hb2 _ (by decide)).trans PyProof.Rows.Boot.«super») ⟨rfl, ?_⟩)
  refine wpAny_loadName_free hk hkc rfl ⟨_, X _ _ hcell, rfl⟩ ?_
  refine wpAny_loadName_local hk hka hn hv ?_
  refine ks_wpAny_isType_cls hD1 hD2 ⟨rfl, ?_⟩
  have hsub : Looks (model prog w) hh (isSubtype (.ref C) (.ref C)) true := looks_mroIn X T.own
  refine ks_wpAny_call_super hD1 hD2 hx rfl (fun c e => by cases e) hsub (fun h1 e1 k1 => ?_)
  have X1 : K.In h1 := fun a o e => k1 a o (X _ _ e)
  have hx1 := k1 _ _ hx
  have I1 : InstAt h1 x (excO C t0) C none := ⟨hx1, rfl, rfl, trivial⟩
  have hI : Looks (model prog w) h1 (isInstance (.ref x) (.type "ValueError")) true := I1.type.andThen (looks_subIn X1 T.veC)
  have hl : ((cd.mro).dropWhile (· != .ref C)).drop 1 = bm := by
    rw [hmro]
    simp [List.dropWhile_cons]
  refine kxs_getMethod kxs_ValueError e1 (looks_opaque X1 T.opq) (l₀ := cd.mro) ?_ hl X1 hal hI (ks_ne X1 I1 hcl) (by decide) ?_
  · exact fun A Q E s k q => wpAny_bind ((looks_clsIn X1 hcl) A _ E s k (wpAny_pure q))
  have k2 : ∀ b o, h1.get? b = some o → (h1.push (kxs_mw "ValueError.__init__" x)).get? b = some o := fun b o e => Heap.get?_push_of_some _ e
  show wpAny _ _ (callWith p5 (.ref h1.objs.size) [] ((false, eval (.Constant (.str t) n p4) (ksEnv qual scope L fI (.ref cda) cc)) :: []) []) _ _ _
  refine kxs_callWith (i := "ValueError.__init__") (x := x) rfl (evalArgs_plain (spliced_cons (Calls.Constant_str (wpAny_pure ⟨Heap.get?_push_at rfl rfl, ?_⟩))))
  have hx2 := k2 _ _ hx1
  have X2 : K.In (h1.push (kxs_mw "ValueError.__init__" x)) := fun a o e => k2 a o (X1 _ _ e)
  obtain ⟨nm, q, N, bs, bm', sn, sub, ab, col, dd, c0, c1, c2, c3, c5, hC, hbm', _⟩ := T.cls
  refine wpAny_call (codeAny_of_tree ?_)
  show wpAny _ A.in1 (callAny (.ref h1.objs.size) ⟨[.str t _], []⟩) _ _ _
  simp only [callAny]
  refine wpAny_bind (wpAny_load (Heap.get?_push_at rfl rfl) ?_)
  simp only [kxs_mw, show (Value.type "method-wrapper" == Value.type "method" || Value.type "method-wrapper" == Value.type "builtin_function_or_method" || Value.type "method-wrapper" == Value.type "method-wrapper") = true by decide, if_true]
  refine KFB.if_so (by decide) ?_
  refine wpAny_bind (PySem.ESX.check_bound F.excBase_ValueError (X2 _ _ hC) hx2 rfl ?_)
  refine wpAny_bind (wpAny_pure (wpAny_pure ?_))
  refine ⟨Code.quiet_builtin _ (by decide +kernel), codeAny_builtin F.excBase_ValueError.initEntry ?_⟩
  rw [Around.under_plainId F.excBase_ValueError.init.plain _]
  wp_walk
  refine hq _ (h1.push (kxs_mw "ValueError.__init__" x)).objs.size (fun b o hb ho => ?_) ?_ ?_ _
  · rw [Heap.get?_update_other _ _ (Ne.symm hb)]
    exact Heap.get?_push_of_some _ (k2 _ _ (k1 _ _ ho))
  · exact (Heap.get?_update_self _ (Heap.get?_push_of_some _ hx2) rfl).trans rfl
  · have nx : h1.objs.size ≠ x := Nat.ne_of_gt (Heap.lt_size hx1)
    refine Nat.le_of_lt (Nat.lt_trans (Heap.lt_size e1) (Heap.lt_size (a := h1.objs.size) (o := kxs_mw "ValueError.__init__" x) ?_))
    rw [Heap.get?_update_other _ _ (Ne.symm nx)]
    exact Heap.get?_push_of_some _ (Heap.get?_push_at rfl rfl)
end
end K75
namespace K75
open PySem PySem.Spec PyProof.Rows L2
/-- the __init__ of one field -/
structure XFn (K : PySem.W.Frag) (fI : Addr) (f qual : Str) (cc cda : Addr) (fd : FuncData) : Prop where
  fn : ∃ (oc : Value) (od : Option Addr) (doc pm : Value) (an : Option Addr) (ct : Value) (osl : Array (Option Value)) (t : Str) (n : Nat) (p1 p2 q1 q2 q3 q4 q5 q6 r1 r2 r3 r4 : Pos),
    (q3.endLine == q5.line) = true ∧ fd = PySem.W.ksFn "__init__" qual (eA1 f p1 p2) [eB0 t n q1 q2 q3 q4 q5 q6, eB1 f r1 r2 r3 r4] (eS1 f) .none .none doc pm an (.ref cda) ct cc ∧ K.lookup fI = some ⟨oc, od, .func fd, osl⟩
/-- .. of none -/
structure XFn0 (K : PySem.W.Frag) (fI : Addr) (qual : Str) (cc cda : Addr) (fd : FuncData) : Prop where
  fn : ∃ (oc : Value) (od : Option Addr) (doc pm : Value) (an : Option Addr) (ct : Value) (osl : Array (Option Value)) (t : Str) (n : Nat) (p1 q1 q2 q3 q4 q5 q6 : Pos),
    (q3.endLine == q5.line) = true ∧ fd = PySem.W.ksFn "__init__" qual (eA0 p1) [eB0 t n q1 q2 q3 q4 q5 q6] eS0 .none .none doc pm an (.ref cda) ct cc ∧ K.lookup fI = some ⟨oc, od, .func fd, osl⟩
def sp_x1 (C : Addr) (f : Str) : Sp := fun vs H Q _ => ∃ a y, vs = [.ref a, y] ∧ H a = some (exo a C none) ∧ ∀ d, H d = none → d ≠ a → Q .non (upd (upd H d (exd d [(f, y)])) a (exo a C (some d)))
def sp_x0 (C : Addr) : Sp := fun vs H Q _ => ∃ a, vs = [.ref a] ∧ H a = some (exo a C none) ∧ Q .non H
section
variable {P : Program} {w : World} {K : PySem.W.Frag} {mg : Str → Option Value} {base : Heap} {CX : CXT} {C fI cc cda : Addr} {qual f : Str} {fd : FuncData}
theorem fnok1 (T : XCls P K mg C fI cc cda qual) (F : XFn K fI f qual cc cda fd) (noN : PySem.W.findIn K (.ref C) f = some none)
    (l1 : (eS1 f).names.lookup ("super" : Str) = some .globalImplicit) (l2 : (eS1 f).names.lookup ("__class__" : Str) = some .free) (l3 : (eS1 f).names.lookup f = some .local) (l4 : ∀ u v : Value, [(f, u), (("self" : Str), v)].lookup ("self" : Str) = some v) (hfd : (f == ("__debug__" : Str)) = false) : FnOk P w K mg base CX 1 fI fd ["self", f] (sp_x1 C f) := by
  refine ⟨fun vs H Q E ⟨a, y, e, _⟩ => by rw [e]; rfl, fun A outer s H args us vs Q E hr e0 hb r hsp => ?_⟩
  obtain ⟨a, y, rfl, ea, q⟩ := hsp
  obtain ⟨oc, od, doc, pm, an, ct, osl, t, n, p1, p2, q1, q2, q3, q4, q5, q6, r1, r2, r3, r4, hpos, rfl, ho⟩ := F.fn
  obtain ⟨cd, bm, hcl, hmro, hbm, hdd, hal⟩ := T.hcl
  have KX : K.In s.heap := e0.mod.kin.keeps fun b o e => (e0.bs b o e).1
  have lim : s.heap.NoLimit := e0.mod.nolimit.keeps fun b o e => (e0.bs b o e).1
  have gl : s.heap.Ns PySem.mainGlobals mg := e0.mod.glob.keeps fun b o e => (e0.bs b o e).1
  obtain ⟨mb, hb1, hb2⟩ := e0.mod.blt
  have bl : s.heap.Ns PySem.builtinsNs mb := hb1.keeps fun b o e => (e0.bs b o e).1
  obtain ⟨t0, hx⟩ := exo_at e0.hok ea
  cases r with
  | @cons _ u0 _ ur ra rr =>
    cases rr with
    | @cons _ u1 _ ur1 rb rn =>
      cases rn
      obtain rfl : u0 = Value.ref a := ra
      obtain ⟨pl, he'⟩ := sup_eval (t := t) (n := n) (p1 := q1) (p2 := q2) (p4 := q4) (env := PySem.W.ksEnv qual (eS1 f) s.heap.objs.size fI (.ref cda) cc) hpos
      refine PySem.ks_codeAny_call_defAt (binds := [("self", .ref a), (f, u1)]) hr.depth (KX _ _ ho) rfl lim (PySem.W.codeRec_of KX T.cdI) rfl hb ?_ ?_ (fun h₁ hns hk₁ => ?_) rfl rfl rfl
      · simp [eS1]
      · intro y hy
        simp at hy
        rcases hy with rfl | rfl
        · rfl
        · exact l3
      refine PySem.ks_wpAt_execs_cons (sup_stmt T (fun b o e => hk₁ _ _ (KX _ _ e)) (gl.keeps hk₁) ⟨mb, bl.keeps hk₁, hb2⟩ (hk₁ _ _ hx) ho rfl (l4 _ _) hns l1 l2 rfl rfl he' (fun h2 t1 k2 hx2 sz2 tk => ?_))
      have na : s.heap.objs.size ≠ a := Nat.ne_of_gt (Heap.lt_size hx)
      have hns2 : h2.Ns s.heap.objs.size (fun x => [(("self" : Str), Value.ref a), (f, u1)].reverse.lookup x) := hns.at fun o e => k2 _ _ na e
      have nK : K.lookup a = none := by
        cases z : K.lookup a with
        | none => rfl
        | some o =>
          have := (e0.bs a o (e0.mod.kin _ _ z)).2
          rw [ea] at this
          cases this
      have X2 : K.In h2 := fun b o e => k2 b o (fun z => by rw [z, nK] at e; cases e) (hk₁ _ _ (KX _ _ e))
      refine PySem.wpAt_of_wpAny (PySem.wpAny_execs_cons (plainObj_wpAny_Assign_Attribute ?_))
      refine PySem.wpAny_Name (wpAny_loadName_local (v := u1) rfl l3 hns2 (by simp [List.lookup]) ?_) hfd
      refine PySem.wpAny_Name (wpAny_loadName_local (v := .ref a) rfl rfl hns2 (l4 _ _) ?_) (by decide)
      refine PySem.W.set_plain X2 (ox := PySem.HandSPX.excO C t1) (od := none) ⟨hx2, rfl, rfl, trivial⟩ T.sa ?_
      refine PySem.HandSPX.exc_osa X2 hx2 hcl hbm hdd noN (fun h' tk' dx k3 dn dne hx3 hn3 => ?_)
      refine PySem.wpAny_execs_nil ?_
      have hk : ∀ b o, b ≠ a → s.heap.get? b = some o → h'.get? b = some o := fun b o n e => k3 b o n (k2 b o n (hk₁ b o e))
      have hz : s.heap.objs.size ≤ dx := by
        have z1 : s.heap.objs.size < h₁.objs.size := hns.lt
        have z2 : h₁.objs.size ≤ h2.objs.size := sz2
        have z3 : h2.objs.size ≤ dx := dn
        omega
      have hnd : H dx = none := e0.hok.fresh hz
      have nd : ∀ {b : Addr} {o : Obj}, s.heap.get? b = some o → b ≠ dx := fun {b o} q => Nat.ne_of_lt (Nat.lt_of_lt_of_le (Heap.lt_size q) hz)
      have nna : ∀ {b : Addr}, H b = none → b ≠ a := fun {b} n z => by
        rw [z, ea] at n
        cases n
      have Un1 : Un (frs outer) [] H (upd (upd H dx (exd dx [(f, y)])) a (exo a C (some dx))) s.heap h' := {
        keep := fun b o q n _ _ => hk b o (nna n) q
        slot := fun b o q n _ _ => ⟨o.slots, hk b o (nna n) q⟩
        free := fun b o q n _ => by rw [upd_ne (nna n), upd_ne (nd q)]; exact n
        there := fun b o q _ => by
          by_cases hb : b = a
          · exact ⟨_, by rw [hb]; exact hx3⟩
          · exact ⟨o, hk b o hb q⟩
        tups := fun b xs q => by rw [upd_ne (at_ne ea q exo_tup), upd_ne (ne_of_none q hnd)]; exact q
        frzs := fun b o v q => by rw [upd_ne (at_ne ea q exo_frz), upd_ne (ne_of_none q hnd)]; exact q
        tbls := fun b ps q => ⟨#[], by rw [upd_ne (at_ne ea q exo_tbl), upd_ne (ne_of_none q hnd), q]; simp⟩ }
      refine ⟨.non, _, rfl, e0.bare, Un1, fun b o q => ?_, rfl, q dx hnd dne⟩
      by_cases hb : b = a
      · subst hb
        rw [upd_same] at q
        cases q
        exact exo_ok hx3
      · rw [upd_ne hb] at q
        by_cases hd : b = dx
        · subst hd
          rw [upd_same] at q
          cases q
          exact exd_ok hn3 (relO_put (fs := []) rb fun g => True.intro)
        · rw [upd_ne hd] at q
          exact (e0.hok b o q).stay (fun c v hc z => hk c v (by
              rcases hc with hc | hc
              · rw [hc]
                exact hb
              · exact at_ne ea hc exo_own) z)
            (fun c hc => by rw [upd_ne (at_ne ea hc exo_own), upd_ne (ne_of_none hc hnd)]; exact hc) (fun c xs hc => by rw [upd_ne (at_ne ea hc exo_tup), upd_ne (ne_of_none hc hnd)]; exact hc)
theorem fnok0 (T : XCls P K mg C fI cc cda qual) (F : XFn0 K fI qual cc cda fd) : FnOk P w K mg base CX 1 fI fd ["self"] (sp_x0 C) := by
  refine ⟨fun vs H Q E ⟨a, e, _⟩ => by rw [e]; rfl, fun A outer s H args us vs Q E hr e0 hb r hsp => ?_⟩
  obtain ⟨a, rfl, ea, q⟩ := hsp
  obtain ⟨oc, od, doc, pm, an, ct, osl, t, n, p1, q1, q2, q3, q4, q5, q6, hpos, rfl, ho⟩ := F.fn
  have KX : K.In s.heap := e0.mod.kin.keeps fun b o e => (e0.bs b o e).1
  have lim : s.heap.NoLimit := e0.mod.nolimit.keeps fun b o e => (e0.bs b o e).1
  have gl : s.heap.Ns PySem.mainGlobals mg := e0.mod.glob.keeps fun b o e => (e0.bs b o e).1
  obtain ⟨mb, hb1, hb2⟩ := e0.mod.blt
  have bl : s.heap.Ns PySem.builtinsNs mb := hb1.keeps fun b o e => (e0.bs b o e).1
  obtain ⟨t0, hx⟩ := exo_at e0.hok ea
  cases r with
  | @cons _ u0 _ ur ra rn =>
    cases rn
    obtain rfl : u0 = Value.ref a := ra
    refine PySem.ks_codeAny_call_defAt (binds := [("self", .ref a)]) hr.depth (KX _ _ ho) rfl lim (PySem.W.codeRec_of KX T.cdI) rfl hb ?_ ?_ (fun h₁ hns hk₁ => ?_) rfl rfl rfl
    · simp [eS0]
    · intro y hy
      simp at hy
      subst hy
      rfl
    obtain ⟨pl, he'⟩ := sup_eval (t := t) (n := n) (p1 := q1) (p2 := q2) (p4 := q4) (env := PySem.W.ksEnv qual eS0 s.heap.objs.size fI (.ref cda) cc) hpos
    refine PySem.ks_wpAt_execs_cons (sup_stmt T (fun b o e => hk₁ _ _ (KX _ _ e)) (gl.keeps hk₁) ⟨mb, bl.keeps hk₁, hb2⟩ (hk₁ _ _ hx) ho rfl rfl hns rfl rfl rfl rfl he' (fun h2 t1 k2 hx2 sz2 tk => ?_))
    have na : s.heap.objs.size ≠ a := Nat.ne_of_gt (Heap.lt_size hx)
    have nK : K.lookup a = none := by
      cases z : K.lookup a with
      | none => rfl
      | some o =>
        have := (e0.bs a o (e0.mod.kin _ _ z)).2
        rw [ea] at this
        cases this
    refine PySem.wpAt_of_wpAny (PySem.wpAny_execs_nil ?_)
    have hk : ∀ b o, b ≠ a → s.heap.get? b = some o → h2.get? b = some o := fun b o n e => k2 b o n (hk₁ b o e)
    have nna : ∀ {b : Addr}, H b = none → b ≠ a := fun {b} n z => by
      rw [z, ea] at n
      cases n
    have Un1 : Un (frs outer) [] H H s.heap h2 := {
      keep := fun b o q n _ _ => hk b o (nna n) q
      slot := fun b o q n _ _ => ⟨o.slots, hk b o (nna n) q⟩
      free := fun b o q n _ => n
      there := fun b o q _ => by
        by_cases hb : b = a
        · exact ⟨_, by rw [hb]; exact hx2⟩
        · exact ⟨o, hk b o hb q⟩
      tups := fun b xs q => q
      frzs := fun b o v q => q
      tbls := fun b ps q => ⟨#[], by rw [q]; simp⟩ }
    refine ⟨.non, H, rfl, e0.bare, Un1, fun b o q => ?_, rfl, q⟩
    by_cases hb : b = a
    · subst hb
      rw [ea] at q
      cases q
      exact exo_ok hx2
    · exact (e0.hok b o q).stay (fun c v hc z => hk c v (by
          rcases hc with hc | hc
          · rw [hc]
            exact hb
          · exact at_ne ea hc exo_own) z) (fun c hc => hc) (fun c xs hc => hc)
end
end K75
set_option maxHeartbeats 2000000
/-! ### raise X(e), raise X() of such classes -/
namespace K75
open PySem PySem.Spec PyProof.Rows L2
/-- what is known of such a class (f: its field) -/
structure XR (P : Program) (w : World) (K : PySem.W.Frag) (mg : Str → Option Value) (base : Heap) (x : Str) (ps : List Str) (C : Addr) (sp : Sp) : Prop where
  gC : mg x = some (.ref C)
  oex : OexC K C
  xf : XfC K C
  te : PySem.W.exmOne K (.ref C) (.ref C) = some true
  init : ∃ fI fd, PySem.W.findIn K (.ref C) "__init__" = some (some (.ref fI)) ∧ PySem.W.typeIn K (.ref fI) = some (.type "function") ∧ FnOk P w K mg base CX0 1 fI fd ps sp ∧ Binds K fd ps []
abbrev XR1 (P : Program) (w : World) (K : PySem.W.Frag) (mg : Str → Option Value) (base : Heap) (x f : Str) (C : Addr) : Prop := XR P w K mg base x ["self", f] C (sp_x1 C f)
abbrev XR0 (P : Program) (w : World) (K : PySem.W.Frag) (mg : Str → Option Value) (base : Heap) (x : Str) (C : Addr) : Prop := XR P w K mg base x ["self"] C (sp_x0 C)
section
variable {P : Program} {w : World} {K : PySem.W.Frag} {mg : Str → Option Value} {base : Heap} {C fI cc cda : Addr} {qual f x : Str} {fd : FuncData}
theorem XCls.oex (T : XCls P K mg C fI cc cda qual) : OexC K C := by
  obtain ⟨nm, q, N, bs, bm, sn, sub, ab, col, dd, k0, k1, k2, k3, k5, hC, hbm, _⟩ := T.cls
  exact ⟨⟨nm, q, N, bs, bm, sn, sub, ab, col, dd, k0, k1, k2, k3, k5, hC, hbm⟩, T.sa, T.exC, T.tyC, T.kC⟩
theorem XCls.xf (T : XCls P K mg C fI cc cda qual) : XfC K C := ⟨T.ga, T.gg, T.exC, T.hdC⟩
theorem xr1 (T : XCls P K mg C fI cc cda qual) (F : XFn K fI f qual cc cda fd) (noN : PySem.W.findIn K (.ref C) f = some none) (gC : mg x = some (.ref C))
    (l1 : (eS1 f).names.lookup ("super" : Str) = some .globalImplicit) (l2 : (eS1 f).names.lookup ("__class__" : Str) = some .free) (l3 : (eS1 f).names.lookup f = some .local) (l4 : ∀ u v : Value, [(f, u), (("self" : Str), v)].lookup ("self" : Str) = some v) (hfd : (f == ("__debug__" : Str)) = false)
    (hb : ∀ (body : List Stmt) (scope : Scope) (doc pm ct : Value) (an : Option Addr) (p1 p2 : Pos) (us : List Value), us.length = 2 → bindArgs (PySem.W.ksFn "__init__" qual (eA1 f p1 p2) body scope .none .none doc pm an (.ref cda) ct cc) ⟨us, []⟩ = pure ((["self", f] : List Str).zip us)) :
    XR1 P w K mg base x f C := by
  refine ⟨gC, T.oex, T.xf, T.te, fI, fd, T.iC, T.tC, fnok1 T F noN l1 l2 l3 l4 hfd, .all fun us hl => ?_⟩
  obtain ⟨oc, od, doc, pm, an, ct, osl, t, n, p1, p2, q1, q2, q3, q4, q5, q6, r1, r2, r3, r4, hpos, rfl, ho⟩ := F.fn
  exact hb _ _ _ _ _ _ _ _ us hl
theorem xr0 (T : XCls P K mg C fI cc cda qual) (F : XFn0 K fI qual cc cda fd) (gC : mg x = some (.ref C))
    (hb : ∀ (body : List Stmt) (scope : Scope) (doc pm ct : Value) (an : Option Addr) (p1 : Pos) (us : List Value), us.length = 1 → bindArgs (PySem.W.ksFn "__init__" qual (eA0 p1) body scope .none .none doc pm an (.ref cda) ct cc) ⟨us, []⟩ = pure ((["self"] : List Str).zip us)) :
    XR0 P w K mg base x C := by
  refine ⟨gC, T.oex, T.xf, T.te, fI, fd, T.iC, T.tC, fnok0 T F, .all fun us hl => ?_⟩
  obtain ⟨oc, od, doc, pm, an, ct, osl, t, n, p1, q1, q2, q3, q4, q5, q6, hpos, rfl, ho⟩ := F.fn
  exact hb _ _ _ _ _ _ _ us hl
end
example {P : Program} {w : World} {K : PySem.W.Frag} {mg : Str → Option Value} {base : Heap} {C fI cc cda : Addr} {qual : Str} {fd : FuncData} (T : XCls P K mg C fI cc cda qual) (F : XFn K fI "name" qual cc cda fd) (noN : PySem.W.findIn K (.ref C) "name" = some none) (gC : mg "InvalidName" = some (.ref C)) :
    XR1 P w K mg base "InvalidName" "name" C := xr1 T F noN gC rfl rfl rfl (fun _ _ => rfl) (by decide) (fun _ _ _ _ _ _ _ _ us h => match us, h with | [_, _], _ => rfl)
section
variable {X : Cx} {C : Addr} {f : Str}
theorem upd_gone {H : Hp} {a d : Addr} {o u v x : HO} (ha : H a = none) (hd : d ≠ a) : upd (del (upd (upd (upd H a o) d u) a v) a) d x = upd H d x := by
  funext b
  by_cases hb : b = d
  · rw [hb, upd_same, upd_same]
  · rw [upd_ne hb, upd_ne hb]
    by_cases hba : b = a
    · rw [hba, del_same, ha]
    · rw [del_ne hba, upd_ne hba, upd_ne hb, upd_ne hba]
/-- the answer to a made exception of one field -/
theorem mk1_ans {H1 : Hp} {y : V} {Q : XK} (h : ∀ d, H1 d = none → Q (.ref C) (some d) (upd H1 d (.xd [(f, y)]))) : ([y] : List V).length ≤ 1000 ∧ ∀ a, H1 a = none → sp_x1 C f (.ref a :: ([y] ++ [])) (upd H1 a (exo a C none))
    (fun v H2 => v = .non ∧ ∃ (d : Addr) (fs : List (Str × V)), H2 a = some (exo a C (some d)) ∧ H2 d = some (exd d fs) ∧ H1 d = none ∧ Q (.ref C) (some d) (upd (del H2 a) d (.xd fs))) (fun _ _ _ => False) := by
  refine ⟨by show 1 ≤ 1000; decide, fun a ha => ⟨a, y, rfl, upd_same, fun d hd ne => ⟨rfl, d, [(f, y)], upd_same, by rw [upd_ne ne, upd_same], by rw [upd_ne ne] at hd; exact hd, ?_⟩⟩⟩
  rw [upd_gone ha ne]
  rw [upd_ne ne] at hd
  exact h d hd
theorem pmk1 {e : Expr} {ta : TA} {x : Str} {p pos : Pos} {k : Nat} (R : XR1 X.prog X.w X.K X.mg X.base x f C) (hr : Room k X.A) (ha : PA X [e] ta) (hk : 2 ≤ k := by decide) (hg : Gl X x := by rfl) (hdb : (x == ("__debug__" : Str)) = false := by decide)
    (he : starEach (e :: []) X.env = (false, eval e X.env) :: starEach [] X.env := by rfl) (hpl : (backTo pos (starEach [] X.env)).any (·.1) = false := by rfl) :
    PMk X (.Call (.Name x p) [e] [] pos) (tMkO C (sp_x1 C f) [] ta) := by
  obtain ⟨fI, fd, iC, tI, F1, hb⟩ := R.init
  exact pmk_oex (X := X) (p := p) (pos := pos) R.oex iC tI F1 (hr.mono hk) hb .nil (pass0 (X := X)) hg R.gC ha hdb he hpl
/-- raise X(e) -/
theorem ps_raise1 {e : Expr} {ta : TA} {W : WX} {x : Str} {p pos pos2 : Pos} {k : Nat} (R : XR1 X.prog X.w X.K X.mg X.base x f C) (hr : Room k X.A) (tk : Takes X W) (ha : PA X [e] ta) (hc : X.calm = true := by rfl) (hk : 2 ≤ k := by decide) (hg : Gl X x := by rfl) (hdb : (x == ("__debug__" : Str)) = false := by decide)
    (he : starEach (e :: []) X.env = (false, eval e X.env) :: starEach [] X.env := by rfl) (hpl : (backTo pos (starEach [] X.env)).any (·.1) = false := by rfl) :
    PS X (.Raise (some (.Call (.Name x p) [e] [] pos)) none pos2) (fun _ σ H => tMkO C (sp_x1 C f) [] ta σ H fun cls d H' => W cls d σ H') := ps_raise hc tk (pmk1 R hr ha hk hg hdb he hpl)
theorem mk_end00 {pins : List (Addr × Obj)} {σ : L2.St} {H1 H2 : Hp} {hp hp2 h2 : Heap} {g1 g2 : Array GenState} {d1 d2 : Drawn} {t1 t2 : Nat} {os1 os2 : OsState} {a C : Addr} (I1 : Inv X pins σ H1 ⟨hp, g1, d1, t1, os1⟩)
    (ha : hp.objs.size ≤ a) (k : ∀ b o, hp.get? b = some o → hp2.get? b = some o) (un : Un (frs X.stack) [] (upd H1 a (exo a C none)) H2 hp2 h2) (hok : HOk X.prog X.w H2 h2) (ho : os2 = os1) (hb : AllBare g2)
    (ea : H2 a = some (exo a C none)) :
    ∃ (t0 : Addr) (G : Heap), Inv X pins σ (del H2 a) ⟨G, g2, d2, t2, os2⟩ ∧ (∀ b o, G.get? b = some o → h2.get? b = some o) ∧ G.get? a = none ∧
      h2.get? a = some ({ cls := .ref C, dict := none, data := .fields #[.ref t0, .none, .none, .none, .bool false, .none] } : Obj) := by
  obtain ⟨t0, hoe⟩ := exo_at hok ea
  have hn : H1 a = none := I1.hok.fresh ha
  obtain ⟨G, g1', g2'⟩ := restrict h2 fun b => decide (b ≠ a)
  have gk : ∀ b, b ≠ a → G.get? b = h2.get? b := fun b hb => g1' b (decide_eq_true hb)
  have ge : G.get? a = none := g2' a (by simp)
  have nha : ∀ {b : Addr} {o : Obj}, hp.get? b = some o → b ≠ a := fun {b o} z => Nat.ne_of_lt (Nat.lt_of_lt_of_le (Heap.lt_size z) ha)
  have up : ∀ {b : Addr}, b ≠ a → H1 b = none → upd H1 a (exo a C none) b = none := fun {b} hb n => by rw [upd_ne hb]; exact n
  have U : Un (frs X.stack) [] H1 (del H2 a) hp G := {
    keep := fun b o z n hf hx => by
      rw [gk b (nha z)]
      exact un.keep b o (k b o z) (up (nha z) n) hf hx
    slot := fun b o z n hf hx => by
      rw [gk b (nha z)]
      exact un.slot b o (k b o z) (up (nha z) n) hf hx
    free := fun b o z n hx => by
      rw [del_ne (nha z)]
      exact un.free b o (k b o z) (up (nha z) n) hx
    there := fun b o z hx => by
      rw [gk b (nha z)]
      exact un.there b o (k b o z) hx
    tups := fun b xs z => by
      rw [del_ne (ne_of_none z hn)]
      exact un.tups b xs (by rw [upd_ne (ne_of_none z hn)]; exact z)
    frzs := fun b o v z => by
      rw [del_ne (ne_of_none z hn)]
      exact un.frzs b o v (by rw [upd_ne (ne_of_none z hn)]; exact z)
    tbls := fun b ps z => by
      rw [del_ne (ne_of_none z hn)]
      exact un.tbls b ps (by rw [upd_ne (ne_of_none z hn)]; exact z) }
  have hok3 : HOk X.prog X.w (del H2 a) G := fun b o z => by
    have hba : b ≠ a := fun e => by
      rw [e, del_same] at z
      cases z
    rw [del_ne hba] at z
    have noa : ∀ {c : Addr}, H2 c = some (.own b) → c ≠ a := fun {c} hc => at_ne ea hc exo_own
    exact (hok b o z).stay (fun c v hc y => by
        have hca : c ≠ a := by
          rcases hc with hc | hc
          · rw [hc]
            exact hba
          · exact noa hc
        rw [gk c hca]
        exact y)
      (fun c hc => by rw [del_ne (noa hc)]; exact hc) (fun c xs hc => by rw [del_ne (at_ne ea hc exo_tup)]; exact hc)
  have J : Inv X pins σ (del H2 a) ⟨G, g2, d2, t2, os2⟩ := I1.call' (ch := []) ho U hok3 hb (fun b z => absurd z (by simp))
  refine ⟨t0, G, J, fun b o z => ?_, ge, hoe⟩
  by_cases hba : b = a
  · rw [hba, ge] at z
    cases z
  · exact (gk b hba).symm.trans z
/-- X() -/
def tMkO0 (C : Addr) : L2.St → Hp → XK → Prop := fun _ H Q => Q (.ref C) none H
theorem pmk0 {x : Str} {p pos : Pos} {k : Nat} (R : XR0 X.prog X.w X.K X.mg X.base x C) (hr : Room k X.A) (hk : 2 ≤ k := by decide) (hg : Gl X x := by rfl) (hdb : (x == ("__debug__" : Str)) = false := by decide) :
    PMk X (.Call (.Name x p) [] [] pos) (tMkO0 C) := by
  obtain ⟨fI, fd, iC, tI, F1, hb⟩ := R.init
  have hr := hr.mono hk
  intro pins s σ H Q I h
  have I1 := I
  obtain ⟨nm, q, N, bs, bm, sn, sub, ab, col, dd, k0, k1, k2, k3, k5, hC, hbm⟩ := R.oex.cls
  refine wpAny_Call_Name_kw (ld_glob I hg R.gC ?_ hdb)
  refine PySem.W.callWith_K0 I.kIn R.oex.kC ?_
  obtain ⟨hp, g, dr, tk, os⟩ := s
  have hsz : hp.objs.size ≤ hp.objs.size + 1 := Nat.le_succ _
  have hn : H (hp.objs.size + 1) = none := I1.hok.fresh hsz
  have kk : ∀ b o, hp.get? b = some o → ((hp.push (PySem.W.kdv_tup [])).push (PySem.HandSPX.excO C hp.objs.size)).get? b = some o := fun b o e => Heap.get?_push_of_some _ (Heap.get?_push_of_some _ e)
  have hget : ((hp.push (PySem.W.kdv_tup [])).push (PySem.HandSPX.excO C hp.objs.size)).get? (hp.objs.size + 1) = some (PySem.HandSPX.excO C hp.objs.size) := by heap_get
  have I2 : Inv X pins σ (upd H (hp.objs.size + 1) (exo (hp.objs.size + 1) C none)) ⟨(hp.push (PySem.W.kdv_tup [])).push (PySem.HandSPX.excO C hp.objs.size), g, dr, tk, os⟩ :=
    I1.laid (t' := tk) (a := hp.objs.size + 1) (o := exo (hp.objs.size + 1) C none) (h' := (hp.push (PySem.W.kdv_tup [])).push (PySem.HandSPX.excO C hp.objs.size)) kk hsz (exo_ok hget)
  have r2 : Vals [V.ref (hp.objs.size + 1)] [Value.ref (hp.objs.size + 1)] := .cons rfl .nil
  have hl : ([Value.ref (hp.objs.size + 1)] ++ []).length = (["self"] : List Str).length := rfl
  have hus : ([] : List Value).length ≤ sizeLine := by
    rw [sizeLine_eq]
    exact (by decide : 0 ≤ 16777216)
  have hq : sp_x0 C [V.ref (hp.objs.size + 1)] (upd H (hp.objs.size + 1) (exo (hp.objs.size + 1) C none)) (fun v H2 => v = .non ∧ H2 = upd H (hp.objs.size + 1) (exo (hp.objs.size + 1) C none)) (fun _ _ _ => False) := ⟨_, rfl, upd_same, rfl, rfl⟩
  refine wpAny_call (PySem.HandSPX.call_own F.excBase_ValueError (fun Y => PySem.HandSPX.refsVE_contains Y bm hbm) (I1.kIn _ _ hC) (PySem.W.looks_findIn I1.kIn iC) (fun self => PySem.W.bind_fn I1.kIn self tI) hus
    (codeAny_mono (F1.run _ X.stack _ _ ⟨[Value.ref (hp.objs.size + 1)], []⟩ [Value.ref (hp.objs.size + 1)] _ _ (fun _ _ _ => False) (hr.make C [] []) (I2.env0.make C [] []) (hb _ [Value.ref (hp.objs.size + 1)] I2.kIn hl) r2 hq) fun r s' hq' => ?_))
  cases r with
  | error er => exact (pass0 (X := X)) pins σ _ _ er s' I2 hq'
  | ok fl =>
    cases fl with
    | ret u =>
      obtain ⟨v, H2, os2, bare2, un2, hok2, rv, ev, eH⟩ := hq'
      subst ev
      subst eH
      obtain ⟨h2, g2, d2, t2, os'⟩ := s'
      obtain ⟨t0, G, J, kG, ge, hoe⟩ := mk_end00 (d2 := d2) (t2 := t2) I1 hsz kk un2 hok2 os2 bare2 upd_same
      have eq : del (upd H (hp.objs.size + 1) (exo (hp.objs.size + 1) C none)) (hp.objs.size + 1) = H := by
        funext b
        by_cases hb : b = hp.objs.size + 1
        · rw [hb, del_same, hn]
        · rw [del_ne hb, upd_ne hb]
      rw [eq] at J
      exact ⟨rv, _, _, _, ⟨G, g2, d2, t2, os'⟩, _, .ref C, none, rfl, J, kG, ge, hoe, ⟨rfl, rfl⟩, rfl, rfl, hn, rfl, bare2, raises_own R.oex.exC R.oex.tyC, h⟩
    | next => exact False.elim hq'
    | brk => exact False.elim hq'
    | cont => exact False.elim hq'
/-- raise X() -/
theorem ps_raise0 {W : WX} {x : Str} {p pos pos2 : Pos} {k : Nat} (R : XR0 X.prog X.w X.K X.mg X.base x C) (hr : Room k X.A) (tk : Takes X W) (hc : X.calm = true := by rfl) (hk : 2 ≤ k := by decide) (hg : Gl X x := by rfl) (hdb : (x == ("__debug__" : Str)) = false := by decide) :
    PS X (.Raise (some (.Call (.Name x p) [] [] pos)) none pos2) (fun _ σ H => W (.ref C) none σ H) := ps_raise hc tk (pmk0 R hr hk hg hdb)
end
end K75
set_option maxHeartbeats 2000000
/-! ### a try with several clauses, each with or without a name -/
namespace K75
open PySem PySem.Spec PyProof.Rows L2
/-- where the ways out of a suite lead: its name, if any, is gone -/
def endsA (D : Ends) : Option Nat → Ends
  | none => D
  | some i => { nx := fun σ' H' => D.nx (σ'.set i none) H', rt := D.rt, bk := fun σ' H' => D.bk (σ'.set i none) H', ct := fun σ' H' => D.ct (σ'.set i none) H' }
def slotA (σ : L2.St) (a : Addr) : Option Nat → L2.St
  | none => σ
  | some i => σ.set i (some (.ref a))
def wManyA (K : PySem.W.Frag) (Wout : WX) (D : Ends) : List (Value × Option Nat × (Addr → Value → Option Addr → TS)) → WX
  | [] => Wout
  | (c, i, ts) :: r => fun cls d σ H => ∃ b, PySem.W.exmOne K cls c = some b ∧ (b = true → ∀ a, H a = none → ts a cls d (endsA D i) (slotA σ a i) H) ∧ (b = false → wManyA K Wout D r cls d σ H)
inductive HdsA (X : Cx) : List ExceptHandler → List (Value × Option Nat × (Addr → Value → Option Addr → TS)) → Prop
  | nil : HdsA X [] []
  | cons {x : Str} {c : Value} {ts : Addr → Value → Option Addr → TS} {b₀ : Stmt} {suite : List Stmt} {np pos' : Pos} {hds : List ExceptHandler} {l : List (Value × Option Nat × (Addr → Value → Option Addr → TS))} (hc : Names X x c)
      (hsu : ∀ (a : Addr) (oe : Obj) (cls : Value) (d : Option Addr) (pn : List (Addr × Obj)), Zc cls d oe → (∃ vs, oe.data = .fields vs) → PSs (X.suite a ((a, oe) :: pn)) (b₀ :: suite) (ts a cls d)) (r : HdsA X hds l) :
      HdsA X (.ExceptHandler (some (.Name x np)) none (b₀ :: suite) pos' :: hds) ((c, none, ts) :: l)
  | consA {x n : Str} {i : Nat} {c : Value} {ts : Addr → Value → Option Addr → TS} {b₀ : Stmt} {suite : List Stmt} {np pos' : Pos} {hds : List ExceptHandler} {l : List (Value × Option Nat × (Addr → Value → Option Addr → TS))} (hc : Names X x c)
      (hi : X.N[i]? = some n) (hln : X.env.kindOf n = some .local)
      (hsu : ∀ (a : Addr) (oe : Obj) (cls : Value) (d : Option Addr) (pn : List (Addr × Obj)), Zc cls d oe → (∃ vs, oe.data = .fields vs) → PSs (X.suite a ((a, oe) :: pn)) (b₀ :: suite) (ts a cls d)) (r : HdsA X hds l) :
      HdsA X (.ExceptHandler (some (.Name x np)) (some n) (b₀ :: suite) pos' :: hds) ((c, some i, ts) :: l)
section
variable {X : Cx} {body : List Stmt} {h₀ : ExceptHandler} {hds : List ExceptHandler} {l : List (Value × Option Nat × (Addr → Value → Option Addr → TS))} {pos : Pos} {tb : WX → TS} {Wout : WX}
theorem ps_try_manyA (hs : X.stack = X.env :: X.outer) (hf : X.env.frame = some X.env.locals) (hN : X.N.Nodup) (tk : Takes X Wout)
    (hb : ∀ (W : WX) (pn : List (Addr × Obj)) (xe : Value → Shared → Prop), Takes (X.tr pn xe) W → PassesOwn (model X.prog X.w) X.A X.env xe → PSs (X.tr pn xe) body (tb W))
    (hh : HdsA X (h₀ :: hds) l) : PS X (.Try body (h₀ :: hds) [] [] pos) (fun D σ H => tb (wManyA X.K Wout D l) D σ H) := by
  refine ⟨fun pins s σ H D I h => ?_⟩
  have ok := I.ok
  have hfr : X.A.frames = some (X.env :: X.outer) := by rw [ok.frames, hs]
  refine wpAny_Try_except ?_
  refine wpAny_mono ((hb (wManyA X.K Wout D l) (X.pn ++ pins) (fun e s₁ => wpAny (model X.prog X.w) X.A (noteFrame e X.env) (fun _ s₂ => wpAny (model X.prog X.w) X.A (setFlight e none) (fun _ s₃ =>
    wpAny (model X.prog X.w) X.A (handleBy e X.env (h₀ :: hds)) (SP X pins D) X.xe s₃) X.xe s₂) X.xe s₁) (fun u s' xx => ?_) PassesOwn.looking).run [] s σ H D (I.toTry _) h) (fun f s1 hsp => ?_) (fun e s1 he => he)
  · -- the catch
    obtain ⟨a, B, sI, pins', σ', H', cls, d, rfl, J', nb, up, sky, na, os, ag, w⟩ := xx
    have J : Inv X pins σ' H' sI := J'.ofTry ok
    have sky' : Sky B (X.env :: X.outer) a (Zc cls d) X.env.locals s'.heap := by rw [← hs]; exact sky
    show wpAny (model X.prog X.w) X.A (noteFrame (.ref a) X.env) _ _ _
    refine Sky.land Zc.steady hfr hf sky' fun h3 fl3 up3 => ?_
    have J3 : Inv X pins σ' H' { s' with heap := h3 } := J.landed nb fl3.1 (up.trans up3) os ag
    obtain ⟨oe3, vs3, he3, hz3, hd3⟩ := fl3.there
    have notFr : ∀ {h : Heap} {o : Obj} {vs : Array Value}, h.FunFrames B (X.env :: X.outer) → h.get? a = some o → o.data = .fields vs → a ∉ frs (X.env :: X.outer) := fun {h o vs} ff e dd hm => by
      obtain ⟨_, o', e', hnf⟩ := ff.mem hm
      rw [e] at e'; cases e'
      exact hnf _ dd
    have nfr := notFr fl3.2.2.1 he3 hd3
    have nL : a ≠ X.env.locals := fun z => nfr (List.mem_filterMap.mpr ⟨X.env, List.mem_cons_self, by rw [hf, z]⟩)
    have nF : a ∉ X.fs := fun hm => by
      obtain ⟨e, he, q⟩ := List.mem_filterMap.mp hm
      exact nfr (List.mem_filterMap.mpr ⟨e, List.mem_cons_of_mem _ he, q⟩)
    have S3 := J3.suite he3 hd3 na nL nF
    have go : ∀ {hds' : List ExceptHandler} {l' : List (Value × Option Nat × (Addr → Value → Option Addr → TS))}, HdsA X hds' l' → wManyA X.K Wout D l' cls d σ' H' →
        wpAny (model X.prog X.w) X.A (handleBy (.ref a) X.env hds') (SP X pins D) X.xe { s' with heap := h3 } := by
      intro hds' l' hk
      induction hk with
      | nil =>
        intro w
        refine wpAny_handleBy_nil ?_
        obtain ⟨k1, k2, k3, oe, vs, T, oT, ts', he, hz, hd, h1, hr⟩ := id fl3
        unfold PySem.passOn
        refine wpAny_bind (wpAny_field he hd h1 ?_)
        rw [if_neg (show ¬ ((Value.ref T == Value.none) = true) from by simp)]
        have fin : wpAny (model X.prog X.w) X.A (setFlight (.ref a) X.env.frame) (fun _ s4 => wpAny (model X.prog X.w) X.A (throw (.ref a) : Sem Flow) (SP X pins D) X.xe s4) X.xe { s' with heap := h3 } := by
          rw [hf]
          refine HandSPX.setFlight_upZ fl3 fun h4 hh4 up4 => wpAny_throw (tk _ _ ?_)
          exact ⟨a, B, sI, pins, σ', H', cls, d, rfl, J, nb, (up.trans up3).trans up4, .inr (.inr (by rw [hs]; exact hh4)), na, os, ag, w⟩
        first
          | exact wpAny_bind (wpAny_pure (wpAny_bind fin))
          | exact wpAny_bind fin
      | @cons x c ts b₀ suite np pos' hds2 l2 hc hsu r ih =>
        intro w
        obtain ⟨b, hb1, hyes, hno⟩ := w
        refine wpAny_handleBy_cons (codeAny_handlers_test ?_) (by intro q; cases q)
        have LT : PySem.W.Looks (model X.prog X.w) h3 (typeOf (.ref a)) cls := fun A Q E s k q => wpAny_typeOf_ref (k _ _ he3) (by rw [hz3.1]; exact q)
        have LM := PySem.W.exm_one (M := model X.prog X.w) (J3.kIn) LT hb1
        have test : ∀ {Q : Value → Shared → Prop} {E : Value → Shared → Prop}, Q c { s' with heap := h3 } → wpAny (model X.prog X.w) (X.A.mark (some (.ref a))) (eval (.Name x np) X.env) Q E { s' with heap := h3 } := fun {Q E} q => by
          obtain ⟨hg, hdbg, hm | ⟨hm, hv, hnn⟩⟩ := hc
          · exact ld_glob (X := X.suite a ((a, oe3) :: (X.pn ++ pins))) S3 hg hm q hdbg
          · exact ld_blt (X := X.suite a ((a, oe3) :: (X.pn ++ pins))) S3 hg hm hv q hnn hdbg
        refine test (LM.here ?_)
        cases b with
        | true =>
          refine codeAny_handlers_suite ?_
          refine HandSPX.lands_againZ fl3 fun h4 fl4 up4 => ?_
          have J4 : Inv X pins σ' H' { s' with heap := h4 } := J.landed nb fl4.1 ((up.trans up3).trans up4) os ag
          obtain ⟨oe4, vs4, he4, hz4, hd4⟩ := fl4.there
          have S4 := J4.suite he4 hd4 na nL nF
          refine wpAny_mono ((hsu a oe4 cls d (X.pn ++ pins) hz4 ⟨_, hd4⟩).run [] _ _ H' _ S4 (hyes rfl a na)) (fun f s6 hsp => ?_) (fun _ _ z => False.elim z)
          cases f with
          | next =>
            obtain ⟨σ6, H6, S6, q6⟩ := hsp
            exact ⟨_, _, S6.unsuite ok, q6⟩
          | brk =>
            obtain ⟨σ6, H6, S6, q6⟩ := hsp
            exact ⟨_, _, S6.unsuite ok, q6⟩
          | cont =>
            obtain ⟨σ6, H6, S6, q6⟩ := hsp
            exact ⟨_, _, S6.unsuite ok, q6⟩
          | ret u =>
            obtain ⟨v6, σ6, H6, S6, r6, q6⟩ := hsp
            exact ⟨_, _, _, S6.unsuite ok, r6, q6⟩
        | false =>
          show wpAny _ X.A (handleBy (.ref a) X.env hds2) _ _ _
          exact ih (hno rfl)
      | @consA x n i c ts b₀ suite np pos' hds2 l2 hc hi hln hsu r ih =>
        intro w
        obtain ⟨b, hb1, hyes, hno⟩ := w
        have hloc : Loc X.env.scope n := .inl hln
        refine wpAny_handleBy_cons (codeAny_handlers_test ?_) (by intro q; cases q)
        have LT : PySem.W.Looks (model X.prog X.w) h3 (typeOf (.ref a)) cls := fun A Q E s k q => wpAny_typeOf_ref (k _ _ he3) (by rw [hz3.1]; exact q)
        have LM := PySem.W.exm_one (M := model X.prog X.w) (J3.kIn) LT hb1
        have test : ∀ {Q : Value → Shared → Prop} {E : Value → Shared → Prop}, Q c { s' with heap := h3 } → wpAny (model X.prog X.w) (X.A.mark (some (.ref a))) (eval (.Name x np) X.env) Q E { s' with heap := h3 } := fun {Q E} q => by
          obtain ⟨hg, hdbg, hm | ⟨hm, hv, hnn⟩⟩ := hc
          · exact ld_glob (X := X.suite a ((a, oe3) :: (X.pn ++ pins))) S3 hg hm q hdbg
          · exact ld_blt (X := X.suite a ((a, oe3) :: (X.pn ++ pins))) S3 hg hm hv q hnn hdbg
        refine test (LM.here ?_)
        cases b with
        | true =>
          refine codeAny_handlers_suite_as ?_
          refine HandSPX.lands_againZ fl3 fun h4 fl4 up4 => ?_
          have J4 : Inv X pins σ' H' { s' with heap := h4 } := J.landed nb fl4.1 ((up.trans up3).trans up4) os ag
          obtain ⟨oe4, vs4, he4, hz4, hd4⟩ := fl4.there
          have S4 := J4.suite he4 hd4 na nL nF
          refine store_ok (X := X.suite a ((a, oe4) :: (X.pn ++ pins))) (v := .ref a) S4 hN hi hloc rfl (fun s5 S5 => ?_) (.inr hln)
          refine wpAny_mono ((hsu a oe4 cls d (X.pn ++ pins) hz4 ⟨_, hd4⟩).run [] s5 _ H' _ S5 (hyes rfl a na)) (fun f s6 hsp => ?_) (fun _ _ z => False.elim z)
          have end_ : ∀ {σ6 : L2.St} {H6 : Hp} {Q : Shared → Prop}, Inv (X.suite a ((a, oe4) :: (X.pn ++ pins))) [] σ6 H6 s6 → (∀ s7, Inv X pins (σ6.set i none) H6 s7 → Q s7) →
              wpAny (model X.prog X.w) X.A (do bindName X.env n .none; unbindBehindTheSuite X.env n pos') (fun _ s7 => Q s7) X.xe s6 := fun {σ6 H6 Q} S6 hq => gone_ok (S6.unsuite ok) hN hi hln hq
          cases f with
          | next =>
            obtain ⟨σ6, H6, S6, q6⟩ := hsp
            exact end_ S6 fun s7 J7 => ⟨_, _, J7, q6⟩
          | brk =>
            obtain ⟨σ6, H6, S6, q6⟩ := hsp
            exact end_ S6 fun s7 J7 => ⟨_, _, J7, q6⟩
          | cont =>
            obtain ⟨σ6, H6, S6, q6⟩ := hsp
            exact end_ S6 fun s7 J7 => ⟨_, _, J7, q6⟩
          | ret u =>
            obtain ⟨v6, σ6, H6, S6, r6, q6⟩ := hsp
            exact end_ S6 fun s7 J7 => ⟨_, _, _, J7, r6, q6⟩
        | false =>
          show wpAny _ X.A (handleBy (.ref a) X.env hds2) _ _ _
          exact ih (hno rfl)
    exact go hh w
  · cases f with
    | next =>
      obtain ⟨σ', H', J', q⟩ := hsp
      exact wpAny_execs_nil ⟨σ', H', J'.ofTry ok, q⟩
    | brk =>
      obtain ⟨σ', H', J', q⟩ := hsp
      exact ⟨σ', H', J'.ofTry ok, q⟩
    | cont =>
      obtain ⟨σ', H', J', q⟩ := hsp
      exact ⟨σ', H', J'.ofTry ok, q⟩
    | ret u =>
      obtain ⟨v, σ', H', J', r, q⟩ := hsp
      exact ⟨v, σ', H', J'.ofTry ok, r, q⟩
end
end K75
set_option maxHeartbeats 2000000
/-! ### sorted(set of tuples of small ints of either sign) -/
namespace K75S
open PySem PyProof.Rows TS L2
def cod (ns : List Int) : Int := code 64 (ns.map (· + 32))
def Bn (ns : List Int) : Prop := ∀ m, m ∈ ns → -32 ≤ m ∧ m < 32
theorem Bn.head {d : Int} {r : List Int} (h : Bn (d :: r)) : -32 ≤ d ∧ d < 32 := h d (List.mem_cons_self ..)
theorem Bn.tail {d : Int} {r : List Int} (h : Bn (d :: r)) : Bn r := fun m hm => h m (List.mem_cons_of_mem _ hm)
theorem Bn.bd {ns : List Int} (h : Bn ns) : Bd 64 (ns.map (· + 32)) := fun m hm => by
  obtain ⟨x, hx, rfl⟩ := List.mem_map.mp hm
  have := h x hx
  omega
theorem cod_lt {d e : Int} {r q : List Int} (hl : r.length = q.length) (hr : Bn r) (hq : Bn q) (h : d < e) : cod (d :: r) < cod (e :: q) :=
  code_lt (B := 64) (d := d + 32) (e := e + 32) (by simpa using hl) hr.bd hq.bd (by omega)
theorem cod_same {d : Int} {r q : List Int} (hl : r.length = q.length) : cod (d :: r) < cod (d :: q) ↔ cod r < cod q :=
  code_same (B := 64) (d := d + 32) (r := r.map (· + 32)) (q := q.map (· + 32)) (by simpa using hl)
section
variable {prog : Program} {w : World} {A : Around} {E : Value → Shared → Prop} {s : Shared} {Q : Bool → Shared → Prop}
theorem lex_ints {b : Bool} {xs ys : List Value} {ns ms : List Int} (i : Nat) (hx : IntsAre xs ns) (hy : IntsAre ys ms) (hl : ns.length = ms.length) (h1 : Bn ns) (h2 : Bn ms)
    (h : Q (decide (cod ns < cod ms)) s) : PySem.W.KatLex prog w A b false Q (xs.zip ys) i s := by
  induction hx generalizing ys ms i with
  | nil =>
    cases hy with
    | nil =>
      have e : decide (cod [] < cod []) = false := decide_eq_false (Int.lt_irrefl _)
      rw [e] at h
      exact PySem.W.kat_nil h
    | cons q u hy => simp at hl
  | @cons p t xs ns hx ih =>
    cases hy with
    | nil => simp at hl
    | @cons q u ys ms hy =>
      have hl' : ns.length = ms.length := by simpa using hl
      show PySem.W.KatLex prog w A b false Q ((Value.int p t, Value.int q u) :: xs.zip ys) i s
      refine PySem.W.kat_cons (wpAny_eqBool_int ?_)
      by_cases e : p = q
      · subst e
        rw [beq_self_eq_true]
        have d : decide (cod (p :: ns) < cod (p :: ms)) = decide (cod ns < cod ms) := decide_eq_decide.mpr (cod_same hl')
        rw [d] at h
        refine PySem.W.kat_yes ?_
        first
          | exact ih (i + 1) hy hl' h1.tail h2.tail h
          | exact ih _ _ (i + 1) hy hl' h1.tail h2.tail h
      · rw [show (p == q) = false from beq_eq_false_iff_ne.mpr e]
        refine PySem.W.kat_no (oneLt_ints _ ?_)
        have d : decide (cod (p :: ns) < cod (q :: ms)) = decide (p < q) := by
          refine decide_eq_decide.mpr ⟨fun x => ?_, fun x => cod_lt hl' h1.tail h2.tail x⟩
          rcases Int.lt_trichotomy p q with y | y | y
          · exact y
          · exact absurd y e
          · have := cod_lt hl'.symm h2.tail h1.tail y
            omega
        rw [d] at h
        exact h
end
def TupsOk (h : Heap) (d : Nat) (vs : List Value) : Prop := ∀ v, v ∈ vs → ∃ ns, TupInts h v ns ∧ ns.length = d ∧ Bn ns
theorem TupsOk.keeps {h h' : Heap} {d : Nat} {vs : List Value} (x : TupsOk h d vs) (k : ∀ b o, h.get? b = some o → o.cls = .type "tuple" → h'.get? b = some o) : TupsOk h' d vs := fun v hv =>
  let ⟨ns, t, r⟩ := x v hv; ⟨ns, t.keeps k, r⟩
theorem firsts_of {h : Heap} {d : Nat} (hd : 1 ≤ d) : ∀ vs : List Value, TupsOk h d vs → ∃ fs, PySem.W.KatTups h vs fs ∧ fs.length = vs.length ∧ ∀ f, f ∈ fs → ∃ n t, f = Value.int n t
  | [], _ => ⟨[], PySem.W.KatTups.nil, rfl, fun f hf => by simp at hf⟩
  | v :: vs, x => by
    obtain ⟨fs, k, hl, hi⟩ := firsts_of hd vs fun u hu => x u (List.mem_cons_of_mem _ hu)
    obtain ⟨ns, ⟨a, xs, rfl, ⟨o, ho, hc, n, hdt⟩, i⟩, hn, _⟩ := x v (List.mem_cons_self ..)
    obtain ⟨y, ys, e⟩ : ∃ y ys, xs.toList = y :: ys := by
      cases q : xs.toList with
      | nil =>
        rw [q] at i
        have l := i.length
        rw [List.length_nil, hn] at l
        omega
      | cons y ys => exact ⟨y, ys, rfl⟩
    obtain ⟨m, t, hy⟩ := i.all y (by rw [e]; exact List.mem_cons_self ..)
    refine ⟨y :: fs, PySem.W.KatTups.cons ho hc hdt ?_ k, by simp [hl], ?_⟩
    · have z := congrArg (fun l : List Value => l[0]?) e
      simpa using z
    · intro f hf
      rcases List.mem_cons.mp hf with rfl | hf
      · exact ⟨m, t, hy⟩
      · exact hi f hf
section
variable {prog : Program} {w : World} {A : Around} {E : Value → Shared → Prop} {s : Shared}
theorem kind_tups {d : Nat} {vs : List Value} (hd : 1 ≤ d) (h2 : 2 ≤ vs.length) (x : TupsOk s.heap d vs) (r : Value → Int) (hr : ∀ v, v ∈ vs → ∀ ns, TupInts s.heap v ns → r v = cod ns) (Q : SortKind → Shared → Prop)
    (h : ∀ κ, Cmp prog w A s κ (pairsOf vs) r → Q κ s) : wpAny (model prog w) A (keyKind' vs.toArray) Q E s := by
  obtain ⟨fs, k, hl, hi⟩ := firsts_of hd vs x
  refine PySem.W.kat_kind (T := Value.type "int") k (by omega) (fun f hf => ?_) rfl (h _ ?_)
  · obtain ⟨n, t, rfl⟩ := hi f hf
    exact PySem.W.Looks.of_pure rfl
  · intro p q hp hq Q' E' hQ
    rw [pairsOf_toList] at hp hq
    obtain ⟨ns, tp, lp, bp⟩ := x _ (mem_zip_self hp).2
    obtain ⟨ms, tq, lq, bq⟩ := x _ (mem_zip_self hq).2
    have ep := hr _ (mem_zip_self hp).2 _ tp
    have eq2 := hr _ (mem_zip_self hq).2 _ tq
    have hQ' : Q' (decide (cod ns < cod ms)) s := by
      have z : decide (r p.1 < r q.1) = decide (cod ns < cod ms) := by rw [ep, eq2]
      rw [← z]; exact hQ
    obtain ⟨a, xs, e1, ⟨o, ho, hc, n, hdt⟩, i⟩ := tp
    obtain ⟨a', ys, e2, ⟨o', ho', hc', n', hdt'⟩, i'⟩ := tq
    rw [e1, e2]
    refine PySem.W.kat_lt ho hdt ho' hdt' ?_
    have sz : decide (xs.size < ys.size) = false := by
      have l1 := i.length
      have l2 := i'.length
      rw [Array.length_toList] at l1 l2
      exact decide_eq_false (by omega)
    rw [sz]
    exact lex_ints 0 i i' (by omega) bp bq hQ'
/-- list.sort of a list of tuples of ints -/
theorem sort_tups {a : Addr} {vs : List Value} {n d : Nat} {P : PySem.Fin → Shared → Prop} (ho : s.heap.get? a = some (seqObj "list" vs.toArray n)) (h64 : vs.length < 64) (hd : 1 ≤ d) (x : TupsOk s.heap d vs)
    (r : Value → Int) (hr : ∀ v, v ∈ vs → ∀ ns, TupInts s.heap v ns → r v = cod ns)
    (h : ∀ out : Array Value, out.toList.Perm vs → out.toList.Pairwise (fun u v => r u ≤ r v) → P (.done (.ret .none)) { s with heap := sortedHeap s.heap a vs out }) :
    wpAny (model prog w) A (Builtin.«list.sort» ⟨[.ref a], []⟩) P E s := by
  have keep : ∀ b o, s.heap.get? b = some o → o.cls = .type "tuple" → (midHeap s.heap a vs).get? b = some o := fun b o e hc => by
    refine midHeap_old ?_ e
    rintro rfl
    rw [ho] at e
    have e' : seqObj "list" vs.toArray n = o := Option.some.inj e
    rw [← e'] at hc
    have c' : Value.type "list" = Value.type "tuple" := hc
    injection c' with c''
    exact absurd c'' (by decide)
  refine SK.plain_sort (r := r) ho h64 (fun h2 Q hQ => ?_) fun ps out h1 h2 h3 => ?_
  · refine kind_tups (s := { s with heap := midHeap s.heap a vs }) hd h2 (x.keeps keep) r (fun v hv ns t => ?_) Q hQ
    obtain ⟨ns0, t0, _⟩ := x v hv
    have e : ns = ns0 := t.ints.symm.trans (t0.keeps keep).ints
    rw [e]
    exact hr v hv ns0 t0
  · obtain ⟨p, o⟩ := out_rank h1 h2 h3
    exact h out p o
/-- xs.sort() -/
theorem call_sort_tups {a : Addr} {vs : List Value} {n d : Nat} {Q : Value → Shared → Prop} (ho : s.heap.get? a = some (seqObj "list" vs.toArray n)) (h64 : vs.length < 64) (hd : 1 ≤ d) (x : TupsOk s.heap d vs)
    (h : ∀ out : Array Value, out.toList.Perm vs → out.toList.Pairwise (fun u v => cod (intsOf s.heap u) ≤ cod (intsOf s.heap v)) → Q .none { s with heap := sortedHeap s.heap a vs out }) :
    wpAny (model prog w) A (call (.builtin "list.sort") [.ref a]) Q E s :=
  wpAny_call_entry slot_list_sort ⟨_, ho, rfl⟩ entry_list_sort (sort_tups ho h64 hd x (fun v => cod (intsOf s.heap v)) (fun v _ ns t => by
    show cod (intsOf s.heap v) = cod ns
    rw [t.ints]) fun out h1 h2 => ⟨_, rfl, h out h1 h2⟩) (args_list_sort _)
end
end K75S
namespace K75S
open PySem PySem.Spec PyProof.Rows TS L2
section
variable {P : Program} {w : World} {A : Around} {E : Value → Shared → Prop} {s : Shared}
theorem sorted_setT {a : Addr} {L : List (Addr × List Int)} {es : Array (Int × Value)} {ep : Nat} {t : SetTable} {Q : Value → Shared → Prop} (R : SetTR P w s.heap a L es ep t) (hh : A.handled = none)
    {d : Nat} (hd1 : 1 ≤ d) (hB : ∀ p ∈ L, p.2.length = d ∧ Bn p.2)
    (hQ : ∀ s' p (out : Array Value) (c : Nat) (L' : List (Addr × List Int)), (∀ b o, s.heap.get? b = some o → s'.heap.get? b = some o) → s'.gens = s.gens → s'.os = s.os → s.heap.objs.size ≤ p →
      s'.heap.get? p = some (seqObj "list" out c) → out.toList = L'.map (fun q => Value.ref q.1) → L'.Perm L → L'.Pairwise (fun q r => cod q.2 ≤ cod r.2) → Q (.ref p) s') :
    wpAny (model P w) A (call (.builtin "sorted") [.ref a]) Q E s := by
  obtain ⟨o, ho, hex, hd⟩ := R.ob
  have hsz := R.size
  have hfew := R.few
  refine Calls.call_function_entry kind_sorted plain_sorted entry_sorted (args_sorted1 _) ?_
  unfold Builtin.«sorted»
  refine wpAny_bind (m := checkCount "sorted" 1 1 _) (wpAny_pure ?_)
  refine wpAny_bind (collect_set (A := A.in1) hh ⟨o, ho, hex.1, hd⟩ R.fits (by unfold scanBound; omega) R.tab.ris R.led fun s1 vs k1 hz g1 o1 pm => ?_)
  have hes : es.toList.map (·.2) = L.map fun q => Value.ref q.1 := by
    rw [R.rows]
    unfold rowsOf
    rw [List.map_map] <;> rfl
  rw [hes] at pm
  -- the values are the addresses of the rows, in some order
  have ord : ∀ vs : List Value, (∀ v ∈ vs, ∃ q ∈ L, v = Value.ref q.1) → ∃ L1 : List (Addr × List Int), vs = L1.map (fun q => Value.ref q.1) ∧ ∀ q ∈ L1, q ∈ L := by
    intro vs
    induction vs with
    | nil => intro _; exact ⟨[], rfl, fun q hq => (by cases hq)⟩
    | cons v vs ih =>
      intro hv
      obtain ⟨q, hq, e⟩ := hv v List.mem_cons_self
      obtain ⟨L1, e1, hs⟩ := ih fun u hu => hv u (List.mem_cons_of_mem _ hu)
      refine ⟨q :: L1, by rw [List.map_cons, e, e1], fun r hr => ?_⟩
      rcases List.mem_cons.mp hr with z | z
      · rw [z]; exact hq
      · exact hs r z
  -- an address has one key
  have one : ∀ q ∈ L, ∀ r ∈ L, q.1 = r.1 → q = r := fun q hq r hr e => by
    have a1 := R.tup q hq
    have a2 := R.tup r hr
    rw [e] at a1
    have e2 : q.2 = r.2 := a1.inj a2
    exact Prod.ext e e2
  have perm_of : ∀ L1 : List (Addr × List Int), (∀ q ∈ L1, q ∈ L) → (L1.map (fun q => Value.ref q.1)).Perm (L.map fun q => Value.ref q.1) → L1.Perm L := by
    intro L1 hs pm1
    have nL : L.Nodup := nodup_of_map R.nd
    have nref : (L.map fun q => Value.ref q.1).Nodup := by
      refine List.pairwise_map.mpr (List.Pairwise.imp_of_mem (fun {q r} hq hr hne e => ?_) nL)
      injection e with e
      exact hne (one q hq r hr e)
    have n1 : L1.Nodup := nodup_of_map (pm1.nodup_iff.mpr nref)
    refine (List.perm_ext_iff_of_nodup n1 nL).mpr fun q => ⟨hs q, fun hq => ?_⟩
    have hm : Value.ref q.1 ∈ L1.map (fun q => Value.ref q.1) := pm1.mem_iff.mpr (List.mem_map.mpr ⟨q, hq, rfl⟩)
    obtain ⟨r, hr, e⟩ := List.mem_map.mp hm
    injection e with e
    rw [← one r (hs r hr) q hq e]
    exact hr
  have hvl : vs.length < 64 := by rw [pm.length_eq, List.length_map]; exact hfew
  refine wpAny_bind (wpAny_newList ?_ (by rw [sizeLine_eq]; omega))
  have hoL : (s1.heap.push (seqObj "list" vs.toArray 0)).get? s1.heap.objs.size = some (seqObj "list" vs.toArray 0) := Heap.get?_push_size _ rfl
  have tk : ∀ q ∈ L, TS.TupInts (s1.heap.push (seqObj "list" vs.toArray 0)) (.ref q.1) q.2 := fun q hq => tupInts_of (P := P) (w := w) (isT_keep (R.tup q hq) fun b u e => Heap.get?_push_of_some _ (k1 b u e))
  have x : TupsOk (s1.heap.push (seqObj "list" vs.toArray 0)) d vs := fun v hv => by
    obtain ⟨q, hq, e⟩ := List.mem_map.mp (pm.mem_iff.mp hv)
    rw [← e]
    exact ⟨q.2, tk q hq, (hB q hq).1, (hB q hq).2⟩
  refine wpAny_bind (wpAny_holding (call_sort_tups (s := { s1 with heap := s1.heap.push (seqObj "list" vs.toArray 0) }) hoL hvl hd1 x fun out a1 a2 => ?_))
  obtain ⟨c, hc⟩ := sortedHeap_at (vs := vs) (out := out) hoL
  obtain ⟨L', e', hs'⟩ := ord out.toList fun v hv => by
    obtain ⟨q, hq, e⟩ := List.mem_map.mp (pm.mem_iff.mp (a1.mem_iff.mp hv))
    exact ⟨q, hq, e.symm⟩
  have pL : L'.Perm L := perm_of L' hs' (by rw [← e']; exact a1.trans pm)
  have pw : L'.Pairwise (fun q r => cod q.2 ≤ cod r.2) := by
    rw [e'] at a2
    refine List.Pairwise.imp_of_mem (fun {q r} hq hr hle => ?_) (List.pairwise_map.mp a2)
    have f1 : TS.intsOf (s1.heap.push (seqObj "list" vs.toArray 0)) (.ref q.1) = q.2 := (tk q (hs' q hq)).ints
    have f2 : TS.intsOf (s1.heap.push (seqObj "list" vs.toArray 0)) (.ref r.1) = r.2 := (tk r (hs' r hr)).ints
    rw [← f1, ← f2]
    exact hle
  refine wpAny_pure ⟨_, rfl, hQ _ s1.heap.objs.size out c L' (fun b u e => ?_) g1 o1 hz hc e' pL pw⟩
  have q := k1 b u e
  have hlt := Heap.lt_size q
  show (sortedHeap (s1.heap.push (seqObj "list" vs.toArray 0)) s1.heap.objs.size vs out).get? b = some u
  rw [sortedHeap_old (Nat.ne_of_lt hlt) (by rw [size_push']; exact Nat.lt_succ_of_lt hlt)]
  exact Heap.get?_push_of_some _ q
end
section
variable {X : Cx}
/-- sorted(set), the tuples of d ints in [-32, 32) -/
def rSortedT (K : PySem.W.Frag) (P : Program) (w : World) : List V → Hp → VK → Prop := fun vs H Q => ∃ (a : Addr) (L : List (Addr × List Int)) (d : Nat), vs = [V.ref a] ∧ H a = some (SetTO P w a L) ∧ (∀ p ∈ L, SqT K H p.1 (p.2.map V.int)) ∧ 1 ≤ d ∧
  (∀ p ∈ L, p.2.length = d ∧ Bn p.2) ∧
  ∀ (L' : List (Addr × List Int)) (p : Addr), L'.Perm L → (L'.map (·.2)).Nodup → L'.length < 64 → L'.Pairwise (fun q r => cod q.2 ≤ cod r.2) → H p = none → Q (.ref p) (upd H p (.lst (L'.map fun q => V.ref q.1)))
theorem cr_sortedT (hc : X.calm = true) : CallR X (.builtin "sorted") (rSortedT X.K X.prog X.w) := by
  intro pins s σ H vs us Q I r h
  obtain ⟨a, L, d, rfl, ha, hk, hd, hB, q⟩ := h
  have R0 : SetT0 X.prog X.w s.heap a L := (I.hok a _ ha).1
  obtain ⟨es, ep, t, R⟩ := R0.full fun p hp => I.isT (hk p hp)
  rw [Vals.ref1 r]
  refine sorted_setT R (I.ok.hd hc) hd hB fun s' p out c L' k g o hp hg hout pm pw => ?_
  have hfew : L'.length < 64 := by rw [pm.length_eq]; exact R.few
  have hlen : (L'.map fun q => V.ref q.1).length ≤ sizeLine := by rw [List.length_map, sizeLine_eq]; omega
  have hn : H p = none := I.hok.fresh hp
  have hv : Vals (L'.map fun q => V.ref q.1) out.toList := by rw [hout]; exact vals_of_refs L'
  have J : Inv X pins σ (upd H p (.lst (L'.map fun q => V.ref q.1))) { s with heap := s'.heap, gens := s'.gens, drawn := s'.drawn, toks := s'.toks } :=
    I.call (ch := []) (Un.laid k hp hn) (I.hok.laid k hp ⟨hlen, out.toList, c, hv, hg⟩) (by rw [g]; exact I.bare) (fun _ z => nomatch z)
  have e : s' = { s with heap := s'.heap, gens := s'.gens, drawn := s'.drawn, toks := s'.toks } := by
    cases s'
    cases s
    cases o
    rfl
  rw [e]
  exact ⟨.ref p, _, J, rfl, q L' p pm ((pm.map (·.2)).nodup_iff.mpr R.nd) hfew pw hn⟩
end
theorem cod_pair (x y : Int) : cod [x, y] = (x + 32) * 64 + (y + 32) := code_pair (x + 32) (y + 32)
end K75S
set_option maxHeartbeats 4000000
/-! ### set(list of ints) -/
namespace K75
open PySem PySem.Spec PyProof.Rows L2
section
variable {P : Program} {w : World} {A : Around} {E : Value → Shared → Prop} {s : Shared}
set_option maxRecDepth 100000 in
set_option maxHeartbeats 3200000 in
theorem call_set_listI {l : Addr} {items : Array Value} (ns : List Int) {Q : Value → Shared → Prop} (hh : A.handled = none) (hl : s.heap.IsList l items) (hit : IntsAre items.toList ns) (hb : ns.length + 1 < scanBound)
    (h : ∀ (h' : Heap) (tk c : Nat), SetR w h' s.heap.objs.size (fun j => decide (j ∈ ns)) c → c ≤ ns.length → (∀ b o, s.heap.get? b = some o → h'.get? b = some o) → Q (.ref s.heap.objs.size) { s with heap := h', toks := tk }) :
    wpAny (model P w) A (call (.type "set") [.ref l]) Q E s := by
  have hisz : items.size = ns.length := by
    have q := IntsAre.length hit
    rw [Array.length_toList] at q
    exact q
  obtain ⟨c, tl, hmro⟩ := F.called_set.mro
  have hmade := F.called_set.made
  have hsub := F.called_set.sub
  refine wpAny_call (codeAny_of_tree ?_)
  show wpAny _ _ (callAny (.type "set") _) _ _ _
  refine wpAny_pure ⟨Code.quiet_builtin _ (by decide +kernel), codeAny_builtin F.entry_type_call ?_⟩
  rw [Around.under_plain (weight_type_call_type "set" [.ref l] []) rfl]
  have h1 := F.called_set.notType
  have h2 := F.called_set.canCreate
  have hct := F.typeCall_set_1 (.ref l)
  repeat (any_goals (first | assumption | wp_step))
  refine codeAny_mono (code_set_led1 (.ref l) (E := E) (Q₁ := fun obj s₁ => obj = .ref s.heap.objs.size ∧ s₁ = { s with heap := s.heap.push { cls := .type "set", dict := none, data := .set #[] 0 (.fresh 0 0 (!w.params.followText "set-order")) } }) ⟨rfl, rfl⟩) fun r s₁ hr => ?_
  cases r with
  | error e => exact hr
  | ok fl =>
    cases fl with
    | ret obj =>
      obtain ⟨rfl, rfl⟩ := hr
      have hS : (s.heap.push { cls := .type "set", dict := none, data := .set #[] 0 (.fresh 0 0 (!w.params.followText "set-order")) }).get? s.heap.objs.size = some { cls := .type "set", dict := none, data := .set #[] 0 (.fresh 0 0 (!w.params.followText "set-order")) } := Heap.get?_push_size _ rfl
      have hT : Shared.TypeIs { s with heap := s.heap.push { cls := .type "set", dict := none, data := .set #[] 0 (.fresh 0 0 (!w.params.followText "set-order")) } } (.ref s.heap.objs.size) "set" := ⟨_, hS, rfl⟩
      have hli := F.called_set.init.lookup
      have hbi := F.called_set.init.bind (.ref s.heap.objs.size)
      repeat (any_goals (first | assumption | wp_step))
      refine codeAny_mono (codeAny_call_builtin (R := wants (fun r s₂ => r = .none ∧ ∃ h' tk c, s₂ = { s with heap := h', toks := tk } ∧ SetR w h' s.heap.objs.size (fun j => decide (j ∈ ns)) c ∧ c ≤ ns.length ∧
          (∀ b o, s.heap.get? b = some o → h'.get? b = some o)) E) F.called_set.init.plain F.entry_set_init (check_set_init_1 hT ?_)) fun r₂ s₂ hr₂ => ?_
      · obtain ⟨ol, hol, hcl, nl, hdl⟩ := hl
        obtain ⟨ocls, odict, odata, oslots⟩ := ol
        simp only at hcl hdl
        subst hcl; subst hdl
        have hol' : (s.heap.push { cls := .type "set", dict := none, data := .set #[] 0 (.fresh 0 0 (!w.params.followText "set-order")) }).get? l = some { cls := .type "list", dict := odict, data := .seq items nl, slots := oslots } := Heap.get?_push_of_some _ hol
        have hsls := F.sub_list_set
        have hslf := F.sub_list_frozenset
        have hne : (Value.type "list" == Value.type "dict") = false := by decide
        have hl1 : (s.heap.push { cls := .type "set", dict := none, data := .set #[] 0 (.fresh 0 0 (!w.params.followText "set-order")) }).IsList l items := ⟨_, hol', rfl, nl, rfl⟩
        unfold Builtin.«set.__init__» noKeywords Builtin.Frozenset.updateFrom
        generalize hPI : pyIter = PI
        wp_walk
        subst hPI
        refine wpAny_pyIter_list hl1 ?_
        refine wpAny_bind (wpAny_runValue ?_)
        have hlS : l < s.heap.objs.size := Heap.lt_size hol
        have hh3 : A.in1.in1.in1.handled = none := by simp [hh]
        have hz1 : (s.heap.push { cls := .type "set", dict := none, data := .set #[] 0 (.fresh 0 0 (!w.params.followText "set-order")) }).objs.size = s.heap.objs.size + 1 := Heap.size_push ..
        have hneI : l ≠ (s.heap.push { cls := .type "set", dict := none, data := .set #[] 0 (.fresh 0 0 (!w.params.followText "set-order")) }).objs.size := by
          rw [Heap.size_push]; exact Nat.ne_of_lt (Nat.lt_succ_of_lt hlS)
        have hSf : s.heap.objs.size ∉ [(s.heap.push { cls := .type "set", dict := none, data := .set #[] 0 (.fresh 0 0 (!w.params.followText "set-order")) }).objs.size, l] := by
          rw [Heap.size_push]; simp only [List.mem_cons, List.mem_singleton, List.not_mem_nil, or_false, not_or]
          exact ⟨Nat.ne_of_lt (Nat.lt_succ_self _), Nat.ne_of_gt hlS⟩
        have hval : ∀ (i : Nat) (v : Value), items[i]? = some v → ∃ k t, ns[i]? = some k ∧ v = .int k t := fun i v hv => by
          have hi : i < ns.length := by rw [← hisz]; exact (Array.getElem?_eq_some_iff.mp hv).1
          obtain ⟨t, e⟩ := PyProof.Rows.IntsAre.int_at hit i v (by rw [Array.getElem?_toList]; exact hv)
          refine ⟨ns[i], t, List.getElem?_eq_getElem hi, ?_⟩
          rw [e, List.getD_eq_getElem?_getD, List.getElem?_eq_getElem hi] <;> rfl
        refine set_update_ints ((Walks.list hh3 _ l hneI items).toS) s.heap.objs.size
          hSf ns hisz hb hval (items.size - 0) 0 _ (by omega) (Nat.zero_le _)
          ⟨⟨_, Heap.get?_push_size _ rfl, rfl, rfl⟩, (hl1.push _)⟩ ?hS0 ?hR
        case hS0 =>
          have hget : ((s.heap.push { cls := .type "set", dict := none, data := .set #[] 0 (.fresh 0 0 (!w.params.followText "set-order")) }).push { cls := .type "list_iterator", data := .fields #[.ref l, .int 0 0] }).get? s.heap.objs.size
              = some { cls := .type "set", dict := none, data := .set #[] 0 (.fresh 0 0 (!w.params.followText "set-order")) } := Heap.get?_push_of_some _ hS
          exact ⟨0, Nat.le_refl 0, setR_new_at hget⟩
        case hR =>
          intro s' c' hm hc' hS'
          obtain ⟨h', g2, d', tk', os'⟩ := s'
          have eg : g2 = s.gens := hm.gens
          have ed : d' = s.drawn := hm.drawn
          have eo : os' = s.os := hm.os
          subst eg; subst ed; subst eo
          show wpAny _ _ _ _ _ _
          refine wpAny_pure ?_
          show wpAny _ _ (ret Value.none) _ _ _
          rw [hisz] at hc'
          refine wpAny_pure ⟨rfl, h', tk', c', rfl, hS', hc', fun b o e => ?_⟩
          have hb0 : b < s.heap.objs.size := Heap.lt_size e
          have hb1 : b ≠ s.heap.objs.size := Nat.ne_of_lt hb0
          have hb2 : b ≠ (s.heap.push { cls := .type "set", dict := none, data := .set #[] 0 (.fresh 0 0 (!w.params.followText "set-order")) }).objs.size := by
            rw [Heap.size_push]; exact Nat.ne_of_lt (Nat.lt_succ_of_lt hb0)
          exact hm.heap b o (by simp only [List.mem_cons, List.mem_singleton, List.not_mem_nil, or_false, not_or]; exact ⟨hb1, hb2⟩) (Heap.get?_push_of_some _ (Heap.get?_push_of_some _ e))
      · cases r₂ with
        | error e => exact hr₂
        | ok fl₂ =>
          cases fl₂ with
          | ret r =>
            obtain ⟨rfl, h', tk, c', rfl, hS', hc', hk'⟩ := hr₂
            repeat (any_goals (first | assumption | wp_step))
            exact h _ _ _ hS' hc' hk'
          | _ => exact hr₂.elim
    | _ => exact hr.elim
end
section
variable {X : Cx}
/-- set(xs), xs a list of ints -/
def rSetOfI (K : PySem.W.Frag) (w : World) : List V → Hp → VK → Prop := fun xs H Q => ∃ (l : Addr) (ns : List Int), xs = [V.ref l] ∧ SqL K H l (ns.map V.int) ∧ ns.length + 1 < scanBound ∧
  ∀ a c, H a = none → c ≤ ns.length → Q (.ref a) (upd H a (SetO w a (fun j => decide (j ∈ ns)) c))
theorem cr_setOfI (hc : X.calm = true) : CallR X (.type "set") (rSetOfI X.K X.w) := by
  intro pins s σ H xs us Q I r h
  obtain ⟨l, ns, rfl, hl, hf, q⟩ := h
  rw [Vals.ref1 r]
  obtain ⟨its, rv, pl, hz⟩ := I.list hl
  have hn : H s.heap.objs.size = none := I.hok.fresh (Nat.le_refl _)
  refine call_set_listI (P := X.prog) (w := X.w) ns (I.ok.hd hc) pl.isList (by simpa using intsAre_of rv) hf fun h' tk c R hc' k => ?_
  exact ⟨.ref s.heap.objs.size, upd H s.heap.objs.size (SetO X.w s.heap.objs.size (fun j => decide (j ∈ ns)) c), I.laid (t' := tk) k (Nat.le_refl _) (setO_new R), rfl, q _ c hn hc'⟩
theorem cr_or {f : Value} {r1 r2 : List V → Hp → VK → Prop} (h1 : CallR X f r1) (h2 : CallR X f r2) : CallR X f (fun xs H Q => r1 xs H Q ∨ r2 xs H Q) := fun pins s σ H xs us Q I r h => by
  rcases h with h | h
  · exact h1 pins s σ H xs us Q I r h
  · exact h2 pins s σ H xs us Q I r h
end
end K75
set_option maxHeartbeats 2000000
/-! ### dicts whose keys are tuples of ints and None, the values True -/
namespace K75
open PySem PySem.Spec PyProof.Rows L2
abbrev LK (P : Program) (w : World) := tupleKind (leafKind P w)
def lfV : Leaf → V
  | .none => .non
  | .num i => .int i
  | .text x => .str x
def metX (L : List (Addr × List Leaf)) : List (List Leaf × Addr × Value) := L.map fun p => (p.2, p.1, Value.bool true)
structure Met0 (P : Program) (w : World) (h : Heap) (a : Addr) (L : List (Addr × List Leaf)) : Prop where
  sys : (a == sysModules) = false
  len : L.length ≤ sizeLine
  ex : ∃ o es ep, h.get? a = some o ∧ o.ExactDict ∧ o.data = .dict es ep ∧ es.toList = (metX L).map (entryOfKey (LK P w)) ∧ ((metX L).map (·.1)).Nodup
def MetO (P : Program) (w : World) (a : Addr) (L : List (Addr × List Leaf)) : HO := .ext fun h => Met0 P w h a L
theorem metO_new {P : Program} {w : World} {H : Hp} {h : Heap} {a : Addr} {L : List (Addr × List Leaf)} (R : Met0 P w h a L) : ObjOk P w H h a (MetO P w a L) := by
  have ⟨o, es, ep, ho, r⟩ := R.ex
  exact ⟨R, ⟨o, ho⟩, fun h1 h2 p k => ⟨p.sys, p.len, let ⟨o', es', ep', ho', r'⟩ := p.ex; ⟨o', es', ep', k o' ho', r'⟩⟩⟩
theorem leaf_is : ∀ {k : Leaf} {u : Value}, RelV (lfV k) u → Leaf.isOf k u = true
  | .none, u, r => by
    cases (show u = Value.none from r)
    rfl
  | .num i, u, r => by
    obtain ⟨t, rfl⟩ := (show ∃ t, u = Value.int i t from r)
    simp [Leaf.isOf]
  | .text x, u, r => by
    obtain ⟨t, rfl⟩ := (show ∃ t, u = Value.str x t from r)
    simp [Leaf.isOf, Value.isStrOf]
theorem leaf_items {P : Program} {w : World} : ∀ {k : List Leaf} {us : List Value}, Vals (k.map lfV) us → ItemsAre (leafKind P w) k us
  | [], _, .nil => .nil
  | n :: k, _, .cons r t => .cons (leaf_is r) (leaf_items t)
/-- the keys' tuples stand -/
def MetT (K : PySem.W.Frag) (H : Hp) (L : List (Addr × List Leaf)) : Prop := ∀ p ∈ L, SqT K H p.1 (p.2.map lfV)
section
variable {X : Cx} {pins : List (Addr × Obj)} {σ : L2.St} {H : Hp} {s : Shared}
theorem isK_of (I : Inv X pins σ H s) {b : Addr} {k : List Leaf} (h : SqT X.K H b (k.map lfV)) : (LK X.prog X.w).is s.heap k b := by
  obtain ⟨its, r, ⟨o, ho, hc, n, hd⟩, _⟩ := I.tuple h
  exact ⟨o, its.toArray, n, ho, hc, hd, by simpa using leaf_items r⟩
theorem met_full (I : Inv X pins σ H s) {a : Addr} {L : List (Addr × List Leaf)} (ha : H a = some (MetO X.prog X.w a L)) (ht : MetT X.K H L) : s.heap.DictOfH (LK X.prog X.w) a (metX L) ∧ (a == sysModules) = false ∧ L.length ≤ sizeLine := by
  have R : Met0 X.prog X.w s.heap a L := (I.hok a _ ha).1
  obtain ⟨o, es, ep, ho, h1, h2, h3, h4⟩ := R.ex
  refine ⟨⟨o, es, ep, ho, h1, h2, h3, fun x hx => ?_, h4⟩, R.sys, R.len⟩
  obtain ⟨p, hp, rfl⟩ := List.mem_map.mp hx
  exact isK_of I (ht p hp)
theorem metX_at (L : List (Addr × List Leaf)) (k : List Leaf) : (atKey (metX L) k).isSome = decide (k ∈ L.map (·.2)) := by
  induction L with
  | nil => rfl
  | cons p L ih =>
    by_cases h : p.2 = k
    · simp [metX, atKey, h]
    · have h' : ¬ k = p.2 := fun e => h e.symm
      have e : decide (k ∈ (p :: L).map (·.2)) = decide (k ∈ L.map (·.2)) := by simp [h']
      rw [e, ← ih]
      simp [metX, atKey, h]
theorem metX_new {L : List (Addr × List Leaf)} {k : List Leaf} (h : k ∉ L.map (·.2)) (b : Addr) : storedH (metX L) k b (Value.bool true) = metX (L ++ [(b, k)]) := by
  have e : atKey (metX L) k = none := by
    have z := metX_at L k
    rw [decide_eq_false h] at z
    cases q : atKey (metX L) k with
    | none => rfl
    | some p => rw [q] at z; cases z
  rw [storedH_new e]
  simp [metX]
theorem wpAny_Dict_pairsH' {prog : Program} {w : World} {K : Type} [DecidableEq K] {knd : HeapKind prog w K} {A : Around} {E : Value → Shared → Prop} {s : Shared} {env : Env} {keys : List (Option Expr)} {values : List Expr} {pos : Pos} {pairs : List (Sem Value × Sem Value)} {Q : Value → Shared → Prop} (hu : knd.room A)
    (hshape : (evalEachOpt keys env).zip ((evalEach values env).map fun v => do let x ← v; standAt pos; pure x) = pairs.map fun p => (some p.1, p.2)) (h0 : pairs ≠ []) (hlen : pairs.length ≤ 15)
    (h : wpAny (model prog w) A (evalPairs pairs) (fun vs s₁ => ∃ ps, CarriesH knd s₁.heap vs ps ∧ s₁.heap.DictOfH knd s.heap.objs.size [] ∧
      ∀ h' tk, h'.DictOfH knd s.heap.objs.size (storedAllH [] ps) → Heap.SameBut s.heap.objs.size s₁.heap h' → Q (.ref s.heap.objs.size) { s₁ with heap := h', toks := tk }) E
      { s with heap := s.heap.push { cls := .type "dict", data := .dict #[] } }) :
    wpAny (model prog w) A (eval (.Dict keys values pos) env) Q E s := by
  rw [arm_eval_Dict, hshape, dictDisplay_pairs pairs h0 (by omega)]
  exact wpAny_bind (wpAny_standAt (wpAny_bind (wpAny_subDictH (knd := knd) (Q := fun d s' => wpAny (model prog w) A (pure (Value.ref d)) Q E s') hu hlen
    (wpAny_mono h (fun vs s₁ h₁ => by obtain ⟨ps, hc, hm, hq⟩ := h₁; exact ⟨ps, hc, hm, fun h' tk a b => wpAny_pure (hq h' tk a b)⟩) fun _ _ e => e))))
/-- {k: True} -/
def tMet1 (P : Program) (w : World) (K : PySem.W.Frag) (tk : TE) : TE := fun σ H Q => ∀ p, H p = none → tk σ (upd H p (MetO P w p [])) fun y H2 => ∃ (t : Addr) (k : List Leaf), y = .ref t ∧ SqT K H2 t (k.map lfV) ∧ H2 p = some (MetO P w p []) ∧
  Q (.ref p) (upd H2 p (MetO P w p [(t, k)]))
theorem met_empty {P : Program} {w : World} (h : Heap) (hb : sysModules < h.objs.size) : Met0 P w (h.push { cls := .type "dict", data := .dict #[] }) h.objs.size [] :=
  ⟨by simpa using Nat.ne_of_gt hb, Nat.zero_le _, _, #[], 0, Heap.get?_push_size _ rfl, ⟨rfl, rfl, rfl⟩, rfl, rfl, List.nodup_nil⟩
theorem met_put {a b : Addr} {L : List (Addr × List Leaf)} {k : List Leaf} {h' : Heap} (hm : h'.DictOfH (LK X.prog X.w) a (storedH (metX L) k b (Value.bool true))) (hs : (a == sysModules) = false) (hl : L.length < sizeLine) (hn : k ∉ L.map (·.2)) : Met0 X.prog X.w h' a (L ++ [(b, k)]) := by
  rw [metX_new hn] at hm
  obtain ⟨o, es, ep, ho, h1, h2, h3, _, h4⟩ := hm
  exact ⟨hs, by rw [List.length_append]; exact hl, o, es, ep, ho, h1, h2, h3, h4⟩
theorem pe_met1 {k : Expr} {j : Nat} {tk : TE} {p2 pos : Pos} (hr : Room j X.A) (hk : PE X k tk) : PE X (.Dict [some k] [.Constant (.bool true) 0 p2] pos) (tMet1 X.prog X.w X.K tk) := by
  refine ⟨fun pins s σ H Q I h => ?_⟩
  have hn0 : H s.heap.objs.size = none := I.hok.fresh (Nat.le_refl _)
  refine wpAny_Dict_pairsH' (knd := LK X.prog X.w) (pairs := [(eval k X.env, do let x ← eval (.Constant (.bool true) 0 p2) X.env; standAt pos; pure x)]) ?_ rfl (by simp) (by simp) ?_
  · have := hr.un
    show X.A.units < cLine
    omega
  have I0 := I.laid (a := s.heap.objs.size) (o := MetO X.prog X.w s.heap.objs.size []) (h' := s.heap.push { cls := .type "dict", data := .dict #[] }) (t' := s.toks) (fun _ _ q => Heap.get?_push_of_some _ q) (Nat.le_refl _) (metO_new (met_empty s.heap I.big))
  refine evalPairs_cons (thn (hk.run pins _ σ _ _ I0 (h _ hn0)) fun kv s1 ⟨y, H2, I2, r2, t, k', ey, hk', hp, q⟩ => ?_)
  subst ey
  cases (show kv = Value.ref t from r2)
  refine wpAny_bind (wpAny_Constant_bool (wpAny_bind (wpAny_standAt (wpAny_pure (evalPairs_nil ?_)))))
  obtain ⟨hm, hs, hl⟩ := met_full I2 hp (fun p hp => by cases hp)
  refine ⟨[(k', t, .bool true)], ⟨rfl, rfl, isK_of I2 hk', trivial⟩, hm, fun h' tk hm' hsb => ?_⟩
  have he : ∃ q, h'.get? s.heap.objs.size = some q := let ⟨q, _, _, hq, _⟩ := hm'; ⟨q, hq⟩
  have new := met_put (X := X) (L := []) (k := k') (b := t) hm' hs (by rw [sizeLine_eq]; decide) (by simp)
  have J := d_write I2 (ob := MetO X.prog X.w s.heap.objs.size [(t, k')]) (t' := tk) (by rw [hp]; exact True.intro) hsb he (metO_new new)
  exact ⟨.ref s.heap.objs.size, _, J, rfl, q⟩
/-- t in d, t not in d -/
def rMetNot (P : Program) (w : World) (K : PySem.W.Frag) : R2 := fun x y H Q => ∃ (a t : Addr) (L : List (Addr × List Leaf)) (k : List Leaf), y = .ref a ∧ x = .ref t ∧ H a = some (MetO P w a L) ∧ MetT K H L ∧ SqT K H t (k.map lfV) ∧ Q (.bl (!decide (k ∈ L.map (·.2)))) H
theorem op_metNot {j : Nat} (hr : Room j X.A) : OpR X (compareOp .NotIn) (rMetNot X.prog X.w X.K) := by
  intro pins s σ H x y v u Q I rx ry h
  obtain ⟨a, t, L, k, rfl, rfl, ha, ht, hk, q⟩ := h
  cases (show v = Value.ref t from rx)
  cases (show u = Value.ref a from ry)
  obtain ⟨hm, hs, _⟩ := met_full I ha ht
  have q' := q
  rw [← metX_at] at q'
  show wpAny _ _ (do return Value.bool (!(← contains (.ref a) (.ref t)))) _ _ s
  refine wpAny_bind (wpAny_contains_heap (knd := LK X.prog X.w) ?_ (isK_of I hk) hs hm (wpAny_pure ⟨.bl (!(atKey (metX L) k).isSome), H, I.tok _, rfl, q'⟩))
  have := hr.un
  show X.A.units + 1 < cLine
  omega
/-- d[t] = True -/
def setMet (P : Program) (w : World) (K : PySem.W.Frag) : TSet := fun o i v H Q => ∃ (a t : Addr) (L : List (Addr × List Leaf)) (k : List Leaf), o = .ref a ∧ i = .ref t ∧ v = .bl true ∧ H a = some (MetO P w a L) ∧ MetT K H L ∧ SqT K H t (k.map lfV) ∧ L.length < sizeLine ∧ k ∉ L.map (·.2) ∧
  Q (upd H a (MetO P w a (L ++ [(t, k)])))
theorem set_met {j : Nat} (hr : Room j X.A) : PSet X (setMet X.prog X.w X.K) := by
  intro pins s σ H o i v ov iv u Q I ro ri rv h
  obtain ⟨a, t, L, k, rfl, rfl, rfl, ha, ht, hk, hl, hn, q⟩ := h
  cases (show ov = Value.ref a from ro)
  cases (show iv = Value.ref t from ri)
  cases (show u = Value.bool true from rv)
  obtain ⟨hm, hs, _⟩ := met_full I ha ht
  refine wpAny_setItem_heap (hsz := by simp [metX]; omega) (knd := LK X.prog X.w) ?_ (isK_of I hk) hm fun h' dd' hsb => ?_
  · have := hr.un
    show X.A.units + 1 < cLine
    omega
  have he : ∃ q, h'.get? a = some q := let ⟨q, _, _, hq, _⟩ := dd'; ⟨q, hq⟩
  exact ⟨_, d_write I (ob := MetO X.prog X.w a (L ++ [(t, k)])) (by rw [ha]; exact True.intro) hsb he (metO_new (met_put (X := X) dd' hs hl hn)), q⟩
end
end K75
set_option maxHeartbeats 2000000
/-! ### xs[-2:0:-1] of a list, t[::-1] of a tuple -/
namespace K75
open PySem PySem.Spec PyProof.Rows L2 HT
theorem fm_congr {α β : Type} {f g : α → Option β} : ∀ {l : List α}, (∀ x ∈ l, f x = g x) → l.filterMap f = l.filterMap g
  | [], _ => rfl
  | a :: l, h => by
    rw [List.filterMap_cons, List.filterMap_cons, h a List.mem_cons_self, fm_congr fun x hx => h x (List.mem_cons_of_mem _ hx)]
/-- the items but the first and the last, backwards -/
def mid {α : Type} (xs : List α) : List α := ((xs.drop 1).dropLast).reverse
theorem mid_pick (its : List Value) (h : 2 ≤ its.length) : slicePick its.toArray (some (-2)) (some 0) (some (-1)) = (mid its).toArray := by
  unfold slicePick
  have hb : sliceBounds (some (-2)) (some 0) (some (-1)) its.toArray.size = ((its.length : Int) - 2, 0, -1) := by
    rw [List.size_toArray]
    simp only [sliceBounds, Option.getD_some]
    rw [if_neg (by decide : ¬ ((-1 : Int) > 0)), if_neg (by decide : ¬ ((-1 : Int) > 0)), if_pos (by decide : (-2 : Int) < 0), if_neg (by decide : ¬ ((0 : Int) < 0))]
    congr 1
    · omega
    · congr 1
      omega
  rw [hb]
  show ((sliceRange ((its.length : Int) - 2) 0 (-1)).filterMap (its.toArray[·]?)).toArray = _
  have hr : sliceRange ((its.length : Int) - 2) 0 (-1) = (List.range (its.length - 2)).map fun k => its.length - 2 - k := by
    unfold sliceRange
    have h1 : ¬ ((-1 : Int) > 0) := by decide
    by_cases c : (its.length : Int) - 2 > 0
    · have e : ((its.length : Int) - 2 - 0 - -1 - 1) / (- -1) = ((its.length - 2 : Nat) : Int) := by
        rw [show (- -1 : Int) = 1 by decide, Int.ediv_one]
        omega
      simp only [h1, if_false, c, if_true, e, Int.toNat_natCast]
      apply List.map_congr_left
      intro k hk
      have := List.mem_range.mp hk
      omega
    · have e : its.length - 2 = 0 := by omega
      simp only [h1, if_false, c, e]
      rfl
  rw [hr]
  congr 1
  apply List.ext_getElem?
  intro i
  have hf : ((List.range (its.length - 2)).map fun k => its.length - 2 - k).filterMap (its.toArray[·]?) = (List.range (its.length - 2)).map fun k => its.getD (its.length - 2 - k) default := by
    rw [List.filterMap_map]
    rw [← List.filterMap_eq_map]
    apply fm_congr
    intro k hk
    have := List.mem_range.mp hk
    simp only [Function.comp]
    rw [List.getElem?_toArray, List.getElem?_eq_getElem (by omega), List.getD_eq_getElem?_getD, List.getElem?_eq_getElem (by omega)]
    rfl
  rw [hf, List.getElem?_map]
  unfold mid
  by_cases hi : i < its.length - 2
  · rw [List.getElem?_range hi, List.getElem?_reverse (by simp; omega)]
    simp only [Option.map_some, List.length_dropLast, List.length_drop, List.getElem?_dropLast, List.getElem?_drop]
    rw [if_pos (by omega)]
    rw [List.getD_eq_getElem?_getD, List.getElem?_eq_getElem (by omega), List.getElem?_eq_getElem (by omega)]
    simp only [Option.getD_some]
    congr 2
    omega
  · rw [List.getElem?_eq_none (by simp; omega), List.getElem?_eq_none (by simp; omega)]
    rfl
def tMidL (K : PySem.W.Frag) (te : TE) : TE := fun σ H Q => te σ H fun x H1 => ∃ a xs, x = .ref a ∧ SqL K H1 a xs ∧ 2 ≤ xs.length ∧ ∀ p, H1 p = none → Q (.ref p) (upd H1 p (.lst (mid xs)))
theorem paired_mid {xs : List V} {us : List Value} (r : Vals xs us) : Vals (mid xs) (mid us) := by
  have h1 : Vals (xs.drop 1) (us.drop 1) := r.drop 1
  have h2 : Vals (xs.drop 1).dropLast (us.drop 1).dropLast := by
    rw [List.dropLast_eq_take, List.dropLast_eq_take, h1.length]
    exact h1.take _
  exact h2.reverse
theorem pe_midL {X : Cx} {e : Expr} {te : TE} {k1 k2 k3 : Nat} {p1 p2 p3 p4 p5 p6 pos : Pos} (he : PE X e te) :
    PE X (.Subscript e (.Slice (some (.UnaryOp .USub (.Constant (.int 2) k1 p1) p2)) (some (.Constant (.int 0) k2 p3)) (some (.UnaryOp .USub (.Constant (.int 1) k3 p4) p5)) p6) pos) (tMidL X.K te) := by
  refine ⟨fun pins s σ H Q I h => ?_⟩
  refine Subscript_ (thn (he.run pins s σ H _ I h) fun v s1 ⟨x, H1, I1, r1, q1⟩ => ?_)
  obtain ⟨a, xs, ex, hx, h2, q⟩ := q1
  subst ex
  cases r1
  have hlo : PO X (some (.UnaryOp .USub (.Constant (.int 2) k1 p1) p2)) (tPart (tUn (rU fun i => .int (-i)) (tC (.int 2)))) := po_some (pe_un un_neg pe_int)
  have hup : PO X (some (.Constant (.int 0) k2 p3)) (tPart (tC (.int 0))) := po_some pe_int
  have hst : PO X (some (.UnaryOp .USub (.Constant (.int 1) k3 p4) p5)) (tPart (tUn (rU fun i => .int (-i)) (tC (.int 1)))) := po_some (pe_un un_neg pe_int)
  refine wpAny_Slice (thn (hlo.run pins s1 σ H1 (fun o H2 => o = some (-2) ∧ H2 = H1) I1 ⟨2, rfl, -2, rfl, rfl, rfl⟩) fun vl s2 ⟨l, H2, I2, pl, el, e2⟩ => ?_)
  subst el e2
  refine thn (hup.run pins s2 σ H2 (fun o H3 => o = some 0 ∧ H3 = H2) I2 ⟨0, rfl, rfl, rfl⟩) fun vu s3 ⟨u, H3, I3, pu, eu, e3⟩ => ?_
  subst eu e3
  refine thn (hst.run pins s3 σ H3 (fun o H4 => o = some (-1) ∧ H4 = H3) I3 ⟨1, rfl, -1, rfl, rfl, rfl⟩) fun vs s4 ⟨o, H4, I4, ps, eo, e4⟩ => ?_
  subst eo e4
  have I5 : Inv X pins σ H4 { s4 with heap := s4.heap.push { cls := .type "slice", data := .fields #[vl, vu, vs] } } := I4.kept (t' := s4.toks) fun b ob q => Heap.get?_push_of_some _ q
  obtain ⟨its, r, ht, hz⟩ := I5.list hx
  have hlen := r.length
  show wpAny (model X.prog X.w) X.A (subscriptTail e (.Slice (some (.UnaryOp .USub (.Constant (.int 2) k1 p1) p2)) (some (.Constant (.int 0) k2 p3)) (some (.UnaryOp .USub (.Constant (.int 1) k3 p4) p5)) p6) (.ref a) (.ref s4.heap.objs.size)) (EP X pins σ Q) X.xe { s4 with heap := s4.heap.push { cls := .type "slice", data := .fields #[vl, vu, vs] } }
  refine tail_any (ops := [.ref a, .ref s4.heap.objs.size]) ht.isList.typeIs (PySem.slot_list_getitem.lookup) ?_ (by with_unfolding_all rfl)
  refine wpAny_getItem_list_slice ht.isList (Heap.IsSliceOf.new _ vl vu vs) pl pu ps (by decide) ?_ (by rw [List.size_toArray]; omega)
  rw [mid_pick its (by omega)]
  refine ⟨.ref _, _, I5.laid (t' := s4.toks) (o := .lst (mid xs)) (fun b ob q => Heap.get?_push_of_some _ q) (Nat.le_refl _) ?_, rfl, q _ (I5.hok.fresh (Nat.le_refl _))⟩
  exact ⟨by unfold mid; rw [List.length_reverse, List.length_dropLast, List.length_drop]; omega, _, 0, paired_mid r, Heap.get?_push_size _ rfl⟩
/-! #### t[::-1] -/
section
variable {prog : Program} {w : World} {A : Around} {E : Value → Shared → Prop} {s : Shared}
theorem sliceApplied_rev {sl : Addr} {vs : Value} {n : Nat} {Q : Int × Int × Nat → Shared → Prop} (hs : s.heap.IsSliceOf sl .none .none vs) (ps : IsPart vs (some (-1)))
    (h : Q ((n : Int) - 1, -1, n) s) : wpAny (model prog w) A (Builtin.Slice.sliceApplied (.ref sl) (pure (n : Int))) Q E s := by
  obtain ⟨os, hos, hcs, hds⟩ := id hs
  unfold Builtin.Slice.sliceApplied Builtin.Slice.sliceFields
  refine wpAny_bind (wpAny_bind (wpAny_field hos hds (x := .none) rfl (wpAny_bind (wpAny_field hos hds (x := .none) rfl (wpAny_bind (wpAny_field hos hds (x := vs) rfl (wpAny_pure ?_)))))))
  refine wpAny_bind (slicePart_ ps ?_)
  show wpAny _ _ (if ((-1 : Int) == 0) = true then _ else _) _ _ s
  rw [if_neg (by decide)]
  refine wpAny_bind (slicePart_none (wpAny_bind (slicePart_none (wpAny_bind (wpAny_pure ?_)))))
  show wpAny _ _ (match Builtin.Slice.sliceAdjust none none (-1) (n : Int) with | (lo, hi) => pure (lo, (-1 : Int), Builtin.Slice.slicePlaces lo hi (-1))) _ _ s
  have e1 : Builtin.Slice.sliceAdjust none none (-1) (n : Int) = ((n : Int) - 1, -1) := by
    simp [Builtin.Slice.sliceAdjust]
  rw [e1]
  have e2 : Builtin.Slice.slicePlaces ((n : Int) - 1) (-1) (-1) = n := by
    unfold Builtin.Slice.slicePlaces
    simp
    try omega
  show wpAny _ _ (pure ((n : Int) - 1, (-1 : Int), Builtin.Slice.slicePlaces ((n : Int) - 1) (-1) (-1))) _ _ s
  rw [e2]
  exact wpAny_pure h
theorem pick_rev (xs : Array Value) : ((List.range xs.size).filterMap fun (m : Nat) => xs[(((xs.size : Int) - 1) + (m : Int) * (-1)).toNat]?).toArray = xs.toList.reverse.toArray := by
  have e : ((List.range xs.size).filterMap fun (m : Nat) => xs[(((xs.size : Int) - 1) + (m : Int) * (-1)).toNat]?) = ((List.range xs.size).map fun k => xs.size - 1 - k).filterMap (xs[·]?) := by
    rw [List.filterMap_map]
    apply fm_congr
    intro k hk
    have := List.mem_range.mp hk
    simp only [Function.comp]
    congr 1
    omega
  rw [e, PySem.W.krv_range, List.filterMap_reverse, PySem.W.krv_all]
theorem getItem_tuple_rev {t sl : Addr} {items : Array Value} {vs : Value} {Q : Value → Shared → Prop} (ht : IsTup s.heap t items) (hs : s.heap.IsSliceOf sl .none .none vs) (ps : IsPart vs (some (-1)))
    (h : Q (.ref s.heap.objs.size) { s with heap := s.heap.push { cls := .type "tuple", data := .seq items.toList.reverse.toArray } })
    (hsz : items.size ≤ sizeLine) : wpAny (model prog w) A (getItem (.ref t) (.ref sl)) Q E s := by
  have htake : sizeOk (.seq items.toList.reverse.toArray) := by
    show items.toList.reverse.toArray.size ≤ sizeLine
    rw [List.size_toArray, List.length_reverse, Array.length_toList]
    omega
  obtain ⟨os, hos, hcs, hds⟩ := id hs
  have hTs : s.TypeIs (.ref sl) "slice" := ⟨os, hos, hcs⟩
  unfold getItem
  try with_reducible refine wpAny_holding ?_
  first | refine wpAny_bind (wpAny_pure ?_) | skip
  refine wpAny_bind (wpAny_sequenceKey ht.typeIs (by decide) ?_)
  refine wpAny_bind (wpAny_callSpecial?_slot (name := Str.ofString "__getitem__") ht.typeIs PyProof.Rows.slot_tuple_getitem
    (wpAny_call_entry PyProof.Rows.slot_tuple_getitem ht.typeIs entry_tuple_getitem ?_ (args_tuple_getitem _ _)))
  show wpAny _ _ (Builtin.Tuple.tupleItemsOf (.ref t) >>= _) _ _ s
  refine wpAny_bind (tupleItemsOf_ ht ?_)
  refine wpAny_bind (wpAny_typeOf hTs ?_)
  rw [if_pos (by decide)]
  refine wpAny_bind (sliceApplied_rev hs ps ?_)
  show wpAny _ _ (if (((items.size : Int) - 1) == 0 && (-1 : Int) == 1 && items.size == items.size) = true then _ else _) _ _ s
  rw [if_neg (by simp), pick_rev]
  first
    | exact wpAny_bind (m := Builtin.Tuple.tupleExact _) (wpAny_newObj_type (wpAny_pure ⟨_, rfl, wpAny_pure h⟩) htake)
    | exact wpAny_bind (m := Builtin.Tuple.tupleExact _) (wpAny_newObj_type (wpAny_bind (wpAny_pure (wpAny_pure ⟨_, rfl, wpAny_pure h⟩))) htake)
    | exact wpAny_bind (wpAny_bind (m := Builtin.Tuple.tupleExact _) (wpAny_newObj_type (wpAny_pure (wpAny_pure ⟨_, rfl, wpAny_pure h⟩)) htake))
    | exact wpAny_bind (wpAny_bind (m := Builtin.Tuple.tupleExact _) (wpAny_newObj_type (wpAny_pure ⟨_, rfl, wpAny_pure h⟩) htake))
end
def tRevT (K : PySem.W.Frag) (te : TE) : TE := fun σ H Q => te σ H fun x H1 => ∃ a xs, x = .ref a ∧ SqT K H1 a xs ∧ ∀ p, H1 p = none → Q (.ref p) (upd H1 p (.tup xs.reverse))
theorem pe_revT {X : Cx} {e : Expr} {te : TE} {k : Nat} {p1 p2 p3 pos : Pos} (he : PE X e te) : PE X (.Subscript e (.Slice none none (some (.UnaryOp .USub (.Constant (.int 1) k p1) p2)) p3) pos) (tRevT X.K te) := by
  refine ⟨fun pins s σ H Q I h => ?_⟩
  refine Subscript_ (thn (he.run pins s σ H _ I h) fun v s1 ⟨x, H1, I1, r1, q1⟩ => ?_)
  obtain ⟨a, xs, ex, hx, q⟩ := q1
  subst ex
  cases r1
  have hst : PO X (some (.UnaryOp .USub (.Constant (.int 1) k p1) p2)) (tPart (tUn (rU fun i => .int (-i)) (tC (.int 1)))) := po_some (pe_un un_neg pe_int)
  refine wpAny_Slice ?_
  rw [evalPart_none]
  refine wpAny_pure (wpAny_pure ?_)
  refine thn (hst.run pins s1 σ H1 (fun o H4 => o = some (-1) ∧ H4 = H1) I1 ⟨1, rfl, -1, rfl, rfl, rfl⟩) fun vs s4 ⟨o, H4, I4, ps, eo, e4⟩ => ?_
  subst eo e4
  have I5 : Inv X pins σ H4 { s4 with heap := s4.heap.push { cls := .type "slice", data := .fields #[.none, .none, vs] } } := I4.kept (t' := s4.toks) fun b ob q => Heap.get?_push_of_some _ q
  obtain ⟨its, r, ht, hz⟩ := I5.tuple hx
  have hlen := r.length
  show wpAny (model X.prog X.w) X.A (subscriptTail e (.Slice none none (some (.UnaryOp .USub (.Constant (.int 1) k p1) p2)) p3) (.ref a) (.ref s4.heap.objs.size)) (EP X pins σ Q) X.xe { s4 with heap := s4.heap.push { cls := .type "slice", data := .fields #[.none, .none, vs] } }
  refine tail_any (ops := [.ref a, .ref s4.heap.objs.size]) ht.typeIs (PyProof.Rows.slot_tuple_getitem.lookup) ?_ (by with_unfolding_all rfl)
  refine getItem_tuple_rev ht (Heap.IsSliceOf.new _ .none .none vs) ps ?_ (by rw [List.size_toArray]; omega)
  refine ⟨.ref _, _, I5.laid (t' := s4.toks) (o := .tup xs.reverse) (fun b ob q => Heap.get?_push_of_some _ q) (Nat.le_refl _) ?_, rfl, q _ (I5.hok.fresh (Nat.le_refl _))⟩
  exact ⟨by rw [List.length_reverse]; exact hz, its.reverse, r.reverse, IsTup.new _ _⟩
end K75
set_option maxHeartbeats 2000000
/-! ### zip of two tuples, walked by one name -/
namespace K75Z
open PySem PyProof.Rows RZ
abbrev IsZG (h : Heap) (z TI TO : Addr) (f0 : Value) (f : Bool) : Prop :=
  h.get? z = some { cls := .type "zip", dict := none, data := .fields #[f0, .bool f, .bool false, .ref TI, .ref TO], slots := #[] }
/-- the tuple handed out is gone, or there was none -/
def Dead (h : Heap) (f0 : Value) : Prop := f0 = .none ∨ ∃ T : Addr, f0 = rawInt T ∧ h.get? T = none
section
variable {prog : Program} {w : World} {A : Around} {E : Value → Shared → Prop} {s : Shared}
theorem free_yes {z TI TO : Addr} {f0 : Value} {f : Bool} {Q : Bool → Shared → Prop} (hz : IsZG s.heap z TI TO f0 f) (hd : Dead s.heap f0) (h : Q true s) : wpAny (model prog w) A (Builtin.SmallTypes.ownedTupleIsFree (.ref z)) Q E s := by
  unfold Builtin.SmallTypes.ownedTupleIsFree
  rcases hd with rfl | ⟨T, rfl, hT⟩
  · exact wpAny_bind (wpAny_field hz rfl (x := .none) rfl (wpAny_pure h))
  · refine wpAny_bind (wpAny_field hz rfl (x := rawInt T) rfl ?_)
    show wpAny _ _ (loadIfAlive ((T : Int).toNat) >>= _) _ _ _
    rw [Int.toNat_natCast]
    refine wpAny_bind (m := loadIfAlive T) (Q := _) ?_
    have h' : ∀ (Q' : Option Obj → Shared → Prop), Q' none s → wpAny (model prog w) A (loadIfAlive T) Q' E s := fun Q' q => by
      have q' : Q' (s.heap.get? T) s := by rw [hT]; exact q
      exact fun _ _ _ => q'
    refine h' _ ?_
    simp only [Option.isNone_none, if_true]
    exact wpAny_pure h
theorem zipT_next_itemG {f0 : Value} {f : Bool} {z TI TO i1 i2 l1 l2 : Addr} {k1 k2 : Nat} {xs ys : Array Value} {x y a b : Value} {Q : Value → Shared → Prop} (D : ZipApart z TI TO i1 i2 l1 l2)
    (hz : IsZG s.heap z TI TO f0 f) (hfr : Dead s.heap f0) (hTI : IsPair s.heap TI (.ref i1) (.ref i2)) (hTO : IsPair s.heap TO a b)
    (h1 : s.heap.IsTupleIter i1 l1 k1) (h2 : s.heap.IsTupleIter i2 l2 k2) (hl1 : s.heap.IsTuple l1 xs) (hl2 : s.heap.IsTuple l2 ys) (hx : xs[k1]? = some x) (hy : ys[k2]? = some y)
    (hQ : ∀ h', IsZG h' z TI TO (rawInt s.heap.objs.size) false → IsPair h' TO x y → h'.IsTupleIter i1 l1 (k1 + 1) → h'.IsTupleIter i2 l2 (k2 + 1) → IsPair h' s.heap.objs.size x y → h'.objs.size = s.heap.objs.size + 1 →
      (∀ c o, c ≠ z → c ≠ TO → c ≠ i1 → c ≠ i2 → s.heap.get? c = some o → h'.get? c = some o) → Q (.ref s.heap.objs.size) { s with heap := h' }) :
    wpAny (model prog w) A (Builtin.«zip.__next__» ⟨[.ref z], []⟩) (fun fin s' => ∃ v, fin = .done (.ret v) ∧ Q v s') E s := by
  show wpAny _ _ (field (.ref z) 2 >>= _) _ _ _
  refine wpAny_bind (wpAny_field hz rfl (x := .bool false) rfl ?_)
  show wpAny _ _ (field (.ref z) 3 >>= _) _ _ _
  refine wpAny_bind (wpAny_field hz rfl (x := .ref TI) rfl ?_)
  refine wpAny_bind (wpAny_seqItems hTI rfl ?_)
  show wpAny _ _ (Builtin.SmallTypes.ownedTupleIsFree (.ref z) >>= _) _ _ _
  refine wpAny_bind (free_yes hz hfr ?_)
  simp only [if_true]
  refine wpAny_bind (wpAny_rule ?_)
  refine wpAny_bind (wpAny_field hz rfl (x := .ref TO) rfl ?_)
  refine wpAny_bind (wpAny_setField_rec hz (by simp) fun h₁ hz₁ hs₁ => ?_)
  replace hz₁ : IsZG h₁ z TI TO .ellipsis f := hz₁
  refine wpAny_bind ?_
  simp only [List.zipIdx_cons, List.zipIdx_nil, List.forIn_cons, List.forIn_nil]
  refine wpAny_bind (wpAny_bind (wpAny_onRaise ?_))
  show wpAny _ _ (Builtin.SmallTypes.nextOf (.ref i1) >>= _) _ _ _
  refine wpAny_bind (nextOf_tuple_item (h1.extBut hs₁.extBut D.i1z) (hl1.extBut hs₁.extBut D.l1z) hx fun h₂ h1₂ hs₂ => wpAny_pure ?_)
  have hTO₂ : IsPair h₂ TO a b := hs₂.extBut _ _ D.TOi1 (hs₁.extBut _ _ D.TOz hTO)
  refine wpAny_bind (wpAny_seqItems hTO₂ rfl ?_)
  refine wpAny_bind (wpAny_updateSeq_pair hTO₂ fun h₃ hTO₃ hs₃ => ?_)
  replace hTO₃ : IsPair h₃ TO x b := hTO₃
  refine wpAny_bind (wpAny_letGo (wpAny_pure ?_))
  refine wpAny_bind (wpAny_bind (wpAny_onRaise ?_))
  show wpAny _ _ (Builtin.SmallTypes.nextOf (.ref i2) >>= _) _ _ _
  refine wpAny_bind (nextOf_tuple_item (((h2.extBut hs₁.extBut D.i2z).extBut hs₂.extBut D.i12.symm).extBut hs₃.extBut D.TOi2.symm)
    (((hl2.extBut hs₁.extBut D.l2z).extBut hs₂.extBut D.l2i1).extBut hs₃.extBut D.l2TO) hy fun h₄ h2₄ hs₄ => wpAny_pure ?_)
  have hTO₄ : IsPair h₄ TO x b := hs₄.extBut _ _ D.TOi2 hTO₃
  refine wpAny_bind (wpAny_seqItems hTO₄ rfl ?_)
  refine wpAny_bind (wpAny_updateSeq_pair hTO₄ fun h₅ hTO₅ hs₅ => ?_)
  replace hTO₅ : IsPair h₅ TO x y := hTO₅
  refine wpAny_bind (wpAny_letGo (wpAny_pure (wpAny_pure ?_)))
  refine wpAny_bind (wpAny_seqItems hTO₅ rfl ?_)
  refine wpAny_bind (wpAny_newTuple ?_)
  have hsz : h₅.objs.size = s.heap.objs.size := by rw [hs₅.1, hs₄.1, hs₃.1, hs₂.1, hs₁.1]
  have hz₅ : IsZG h₅ z TI TO .ellipsis f := hs₅.extBut _ _ D.TOz.symm (hs₄.extBut _ _ D.i2z.symm (hs₃.extBut _ _ D.TOz.symm (hs₂.extBut _ _ D.i1z.symm hz₁)))
  have hk₅ : ∀ c o, c ≠ z → c ≠ TO → c ≠ i1 → c ≠ i2 → s.heap.get? c = some o → h₅.get? c = some o := fun c o c1 c2 c3 c4 e =>
    hs₅.extBut _ _ c2 (hs₄.extBut _ _ c4 (hs₃.extBut _ _ c2 (hs₂.extBut _ _ c3 (hs₁.extBut _ _ c1 e))))
  have h1₅ : h₅.IsTupleIter i1 l1 (k1 + 1) := ((h1₂.extBut hs₃.extBut D.TOi1.symm).extBut hs₄.extBut D.i12).extBut hs₅.extBut D.TOi1.symm
  have h2₅ : h₅.IsTupleIter i2 l2 (k2 + 1) := h2₄.extBut hs₅.extBut D.TOi2.symm
  have hzlt : z < h₅.objs.size := Heap.lt_size hz₅
  have hTOlt : TO < h₅.objs.size := Heap.lt_size hTO₅
  have hi1lt : i1 < h₅.objs.size := by obtain ⟨_, e, _⟩ := h1₅; exact Heap.lt_size e
  have hi2lt : i2 < h₅.objs.size := by obtain ⟨_, e, _⟩ := h2₅; exact Heap.lt_size e
  show wpAny _ _ (Builtin.SmallTypes.ownedTupleHandOut (.ref z) (.ref h₅.objs.size) >>= _) _ _ _
  refine wpAny_bind ?_
  unfold Builtin.SmallTypes.ownedTupleHandOut
  have hz₆ : IsZG (h₅.push { cls := .type "tuple", data := .seq #[x, y] }) z TI TO .ellipsis f := Heap.get?_push_of_some _ hz₅
  refine wpAny_bind (wpAny_setField_rec hz₆ (by simp) fun h₇ hz₇ hs₇ => ?_)
  replace hz₇ : IsZG h₇ z TI TO (rawInt h₅.objs.size) f := hz₇
  refine wpAny_setField_rec hz₇ (by simp) fun h₈ hz₈ hs₈ => ?_
  replace hz₈ : IsZG h₈ z TI TO (rawInt h₅.objs.size) false := hz₈
  have up : ∀ c o, c ≠ z → h₅.get? c = some o → h₈.get? c = some o := fun c o c1 e => hs₈.extBut _ _ c1 (hs₇.extBut _ _ c1 (Heap.get?_push_of_some _ e))
  have hT₈ : IsPair h₈ h₅.objs.size x y := hs₈.extBut _ _ (Nat.ne_of_gt hzlt) (hs₇.extBut _ _ (Nat.ne_of_gt hzlt) (Heap.get?_push_size _ rfl))
  have hz8 : h₈.objs.size = h₅.objs.size + 1 := by rw [hs₈.1, hs₇.1, Heap.size_push]
  rw [hsz] at hz₈ hT₈ hz8
  refine wpAny_pure ⟨_, rfl, ?_⟩
  show Q (.ref h₅.objs.size) _
  rw [hsz]
  exact hQ h₈ hz₈ (up _ _ D.TOz hTO₅) (h1₅.at fun o e => up _ o D.i1z e) (h2₅.at fun o e => up _ o D.i2z e) hT₈ hz8 fun c o c1 c2 c3 c4 e => up c o c1 (hk₅ c o c1 c2 c3 c4 e)
theorem zipT_next_endG {f0 : Value} {f : Bool} {z TI TO i1 i2 l1 l2 : Addr} {k1 k2 : Nat} {xs ys : Array Value} {a b : Value} {Q : Fin → Shared → Prop} (hh : A.handled = none) (D : ZipApart z TI TO i1 i2 l1 l2)
    (hz : IsZG s.heap z TI TO f0 f) (hfr : Dead s.heap f0) (hTI : IsPair s.heap TI (.ref i1) (.ref i2)) (hTO : IsPair s.heap TO a b)
    (h1 : s.heap.IsTupleIter i1 l1 k1) (h2 : s.heap.IsTupleIter i2 l2 k2) (hl1 : s.heap.IsTuple l1 xs) (hl2 : s.heap.IsTuple l2 ys) (hend : xs[k1]? = none ∨ ys[k2]? = none)
    (hE : ∀ h' e, (∀ c o, c ≠ z → c ≠ TO → c ≠ i1 → c ≠ i2 → s.heap.get? c = some o → h'.get? c = some o) → (∃ o, h'.get? e = some o ∧ o.cls = .type "StopIteration") → E (.ref e) { s with heap := h' }) :
    wpAny (model prog w) A (Builtin.«zip.__next__» ⟨[.ref z], []⟩) Q E s := by
  show wpAny _ _ (field (.ref z) 2 >>= _) _ _ _
  refine wpAny_bind (wpAny_field hz rfl (x := .bool false) rfl ?_)
  show wpAny _ _ (field (.ref z) 3 >>= _) _ _ _
  refine wpAny_bind (wpAny_field hz rfl (x := .ref TI) rfl ?_)
  refine wpAny_bind (wpAny_seqItems hTI rfl ?_)
  show wpAny _ _ (Builtin.SmallTypes.ownedTupleIsFree (.ref z) >>= _) _ _ _
  refine wpAny_bind (free_yes hz hfr ?_)
  simp only [if_true]
  refine wpAny_bind (wpAny_rule ?_)
  refine wpAny_bind (wpAny_field hz rfl (x := .ref TO) rfl ?_)
  refine wpAny_bind (wpAny_setField_rec hz (by simp) fun h₁ hz₁ hs₁ => ?_)
  replace hz₁ : IsZG h₁ z TI TO .ellipsis f := hz₁
  refine wpAny_bind ?_
  simp only [List.zipIdx_cons, List.zipIdx_nil, List.forIn_cons, List.forIn_nil]
  refine wpAny_bind (wpAny_bind (wpAny_onRaise ?_))
  show wpAny _ _ (Builtin.SmallTypes.nextOf (.ref i1) >>= _) _ _ _
  cases hx : xs[k1]? with
  | none =>
    refine wpAny_bind (nextOf_tuple_end hh (h1.extBut hs₁.extBut D.i1z) (hl1.extBut hs₁.extBut D.l1z) hx fun h₂ e hs₂ he => ?_)
    obtain ⟨oe, hoe, hce⟩ := he
    have hz₂ : IsZG h₂ z TI TO .ellipsis f := hs₂ _ _ D.i1z.symm hz₁
    have hez : e ≠ z := fun x => by subst x; rw [hz₂] at hoe; cases hoe; simp at hce
    refine wpAny_setField_rec hz₂ (by simp) fun h₃ _ hs₃ => hE h₃ e (fun c o c1 _ c3 _ x => hs₃.extBut _ _ c1 (hs₂ _ _ c3 (hs₁.extBut _ _ c1 x))) ⟨oe, hs₃.extBut _ _ hez hoe, hce⟩
  | some x =>
    have hy : ys[k2]? = none := by rcases hend with h | h; rw [hx] at h; cases h; exact h
    refine wpAny_bind (nextOf_tuple_item (h1.extBut hs₁.extBut D.i1z) (hl1.extBut hs₁.extBut D.l1z) hx fun h₂ h1₂ hs₂ => wpAny_pure ?_)
    have hTO₂ : IsPair h₂ TO a b := hs₂.extBut _ _ D.TOi1 (hs₁.extBut _ _ D.TOz hTO)
    refine wpAny_bind (wpAny_seqItems hTO₂ rfl ?_)
    refine wpAny_bind (wpAny_updateSeq_pair hTO₂ fun h₃ hTO₃ hs₃ => ?_)
    refine wpAny_bind (wpAny_letGo (wpAny_pure ?_))
    refine wpAny_bind (wpAny_bind (wpAny_onRaise ?_))
    show wpAny _ _ (Builtin.SmallTypes.nextOf (.ref i2) >>= _) _ _ _
    refine wpAny_bind (nextOf_tuple_end hh (((h2.extBut hs₁.extBut D.i2z).extBut hs₂.extBut D.i12.symm).extBut hs₃.extBut D.TOi2.symm)
      (((hl2.extBut hs₁.extBut D.l2z).extBut hs₂.extBut D.l2i1).extBut hs₃.extBut D.l2TO) hy fun h₄ e hs₄ he => ?_)
    obtain ⟨oe, hoe, hce⟩ := he
    have hz₄ : IsZG h₄ z TI TO .ellipsis f := hs₄ _ _ D.i2z.symm (hs₃.extBut _ _ D.TOz.symm (hs₂.extBut _ _ D.i1z.symm hz₁))
    have hez : e ≠ z := fun x => by subst x; rw [hz₄] at hoe; cases hoe; simp at hce
    refine wpAny_setField_rec hz₄ (by simp) fun h₅ _ hs₅ => hE h₅ e (fun c o c1 c2 c3 c4 x => hs₅.extBut _ _ c1 (hs₄ _ _ c4 (hs₃.extBut _ _ c2 (hs₂.extBut _ _ c3 (hs₁.extBut _ _ c1 x))))) ⟨oe, hs₅.extBut _ _ hez hoe, hce⟩
theorem zipT_next_item_held {z TI TO T i1 i2 l1 l2 : Addr} {f : Bool} {oT : Obj} {k1 k2 : Nat} {xs ys : Array Value} {x y : Value} {Q : Value → Shared → Prop} (D : ZipApart z TI TO i1 i2 l1 l2)
    (hz : IsZipHeld s.heap z TI TO T f) (hT : s.heap.get? T = some oT) (hTI : IsPair s.heap TI (.ref i1) (.ref i2))
    (h1 : s.heap.IsTupleIter i1 l1 k1) (h2 : s.heap.IsTupleIter i2 l2 k2) (hl1 : s.heap.IsTuple l1 xs) (hl2 : s.heap.IsTuple l2 ys) (hx : xs[k1]? = some x) (hy : ys[k2]? = some y)
    (hQ : ∀ h', IsZipHeld h' z TI TO T true → h'.IsTupleIter i1 l1 (k1 + 1) → h'.IsTupleIter i2 l2 (k2 + 1) → IsPair h' s.heap.objs.size x y → h'.objs.size = s.heap.objs.size + 1 →
      (∀ c o, c ≠ z → c ≠ i1 → c ≠ i2 → s.heap.get? c = some o → h'.get? c = some o) → Q (.ref s.heap.objs.size) { s with heap := h' }) :
    wpAny (model prog w) A (Builtin.«zip.__next__» ⟨[.ref z], []⟩) (fun fin s' => ∃ v, fin = .done (.ret v) ∧ Q v s') E s := by
  show wpAny _ _ (field (.ref z) 2 >>= _) _ _ _
  refine wpAny_bind (wpAny_field hz rfl (x := .bool false) rfl ?_)
  show wpAny _ _ (field (.ref z) 3 >>= _) _ _ _
  refine wpAny_bind (wpAny_field hz rfl (x := .ref TI) rfl ?_)
  refine wpAny_bind (wpAny_seqItems hTI rfl ?_)
  show wpAny _ _ (Builtin.SmallTypes.ownedTupleIsFree (.ref z) >>= _) _ _ _
  refine wpAny_bind (wpAny_tupleHeld_zip hz hT fun h₁ hz₁ hs₁ => ?_)
  simp only [Bool.false_eq_true, if_false]
  refine wpAny_bind ?_
  rw [← Array.forIn_toList]
  simp only [List.forIn_cons, List.forIn_nil]
  refine wpAny_bind (wpAny_bind (wpAny_holding ?_))
  show wpAny _ _ (Builtin.SmallTypes.nextOf (.ref i1) >>= _) _ _ _
  refine wpAny_bind (nextOf_tuple_item (s := { s with heap := h₁ }) (h1.extBut hs₁.extBut D.i1z) (hl1.extBut hs₁.extBut D.l1z) hx fun h₂ h1₂ hs₂ => wpAny_pure ?_)
  refine wpAny_pure ?_
  refine wpAny_bind (wpAny_bind (wpAny_holding ?_))
  show wpAny _ _ (Builtin.SmallTypes.nextOf (.ref i2) >>= _) _ _ _
  refine wpAny_bind (nextOf_tuple_item (s := { s with heap := h₂ }) ((h2.extBut hs₁.extBut D.i2z).extBut hs₂.extBut D.i12.symm) ((hl2.extBut hs₁.extBut D.l2z).extBut hs₂.extBut D.l2i1) hy fun h₃ h2₃ hs₃ => wpAny_pure ?_)
  refine wpAny_pure (wpAny_pure ?_)
  show wpAny _ _ (newTuple [x, y] >>= _) _ _ _
  refine wpAny_bind (wpAny_newTuple ?_)
  have hsz : h₃.objs.size = s.heap.objs.size := by rw [hs₃.1, hs₂.1, hs₁.1]
  have hz₃ : IsZipHeld h₃ z TI TO T true := hs₃.extBut _ _ D.i2z.symm (hs₂.extBut _ _ D.i1z.symm hz₁)
  have hk : ∀ c o, c ≠ z → c ≠ i1 → c ≠ i2 → s.heap.get? c = some o → h₃.get? c = some o := fun c o c1 c2 c3 e => hs₃.extBut _ _ c3 (hs₂.extBut _ _ c2 (hs₁.extBut _ _ c1 e))
  have h1₃ : h₃.IsTupleIter i1 l1 (k1 + 1) := h1₂.extBut hs₃.extBut D.i12
  refine wpAny_pure ⟨_, rfl, ?_⟩
  show Q (.ref h₃.objs.size) _
  have hp : IsPair (h₃.push { cls := .type "tuple", data := .seq #[x, y] }) h₃.objs.size x y := Heap.get?_push_size _ rfl
  have hz4 : (h₃.push { cls := .type "tuple", data := .seq #[x, y] }).objs.size = h₃.objs.size + 1 := Heap.size_push ..
  rw [hsz] at hp hz4 ⊢
  exact hQ _ (Heap.get?_push_of_some _ hz₃) (h1₃.at fun o e => Heap.get?_push_of_some _ e) (h2₃.at fun o e => Heap.get?_push_of_some _ e) hp hz4 fun c o c1 c2 c3 e => Heap.get?_push_of_some _ (hk c o c1 c2 c3 e)
theorem zipT_next_end_held {z TI TO T i1 i2 l1 l2 : Addr} {f : Bool} {oT : Obj} {k1 k2 : Nat} {xs ys : Array Value} {Q : Fin → Shared → Prop} (hh : A.handled = none) (D : ZipApart z TI TO i1 i2 l1 l2)
    (hz : IsZipHeld s.heap z TI TO T f) (hT : s.heap.get? T = some oT) (hTI : IsPair s.heap TI (.ref i1) (.ref i2))
    (h1 : s.heap.IsTupleIter i1 l1 k1) (h2 : s.heap.IsTupleIter i2 l2 k2) (hl1 : s.heap.IsTuple l1 xs) (hl2 : s.heap.IsTuple l2 ys) (hend : xs[k1]? = none ∨ ys[k2]? = none)
    (hE : ∀ h' e, (∀ c o, c ≠ z → c ≠ i1 → c ≠ i2 → s.heap.get? c = some o → h'.get? c = some o) → (∃ o, h'.get? e = some o ∧ o.cls = .type "StopIteration") → E (.ref e) { s with heap := h' }) :
    wpAny (model prog w) A (Builtin.«zip.__next__» ⟨[.ref z], []⟩) Q E s := by
  show wpAny _ _ (field (.ref z) 2 >>= _) _ _ _
  refine wpAny_bind (wpAny_field hz rfl (x := .bool false) rfl ?_)
  show wpAny _ _ (field (.ref z) 3 >>= _) _ _ _
  refine wpAny_bind (wpAny_field hz rfl (x := .ref TI) rfl ?_)
  refine wpAny_bind (wpAny_seqItems hTI rfl ?_)
  show wpAny _ _ (Builtin.SmallTypes.ownedTupleIsFree (.ref z) >>= _) _ _ _
  refine wpAny_bind (wpAny_tupleHeld_zip hz hT fun h₁ hz₁ hs₁ => ?_)
  simp only [Bool.false_eq_true, if_false]
  refine wpAny_bind ?_
  rw [← Array.forIn_toList]
  simp only [List.forIn_cons, List.forIn_nil]
  refine wpAny_bind (wpAny_bind (wpAny_holding ?_))
  show wpAny _ _ (Builtin.SmallTypes.nextOf (.ref i1) >>= _) _ _ _
  cases hx : xs[k1]? with
  | none =>
    refine wpAny_bind (nextOf_tuple_end (s := { s with heap := h₁ }) hh (h1.extBut hs₁.extBut D.i1z) (hl1.extBut hs₁.extBut D.l1z) hx fun h₂ e hs₂ he => ?_)
    exact hE h₂ e (fun c o c1 c2 _ x => hs₂ _ _ c2 (hs₁.extBut _ _ c1 x)) he
  | some x =>
    have hy : ys[k2]? = none := by rcases hend with h | h; rw [hx] at h; cases h; exact h
    refine wpAny_bind (nextOf_tuple_item (s := { s with heap := h₁ }) (h1.extBut hs₁.extBut D.i1z) (hl1.extBut hs₁.extBut D.l1z) hx fun h₂ h1₂ hs₂ => wpAny_pure ?_)
    refine wpAny_pure ?_
    refine wpAny_bind (wpAny_bind (wpAny_holding ?_))
    show wpAny _ _ (Builtin.SmallTypes.nextOf (.ref i2) >>= _) _ _ _
    refine wpAny_bind (nextOf_tuple_end (s := { s with heap := h₂ }) hh ((h2.extBut hs₁.extBut D.i2z).extBut hs₂.extBut D.i12.symm) ((hl2.extBut hs₁.extBut D.l2z).extBut hs₂.extBut D.l2i1) hy fun h₃ e hs₃ he => ?_)
    exact hE h₃ e (fun c o c1 c2 c3 x => hs₃ _ _ c3 (hs₂.extBut _ _ c2 (hs₁.extBut _ _ c1 x))) he
/-- the tuple handed out: any, or none -/
def Own (f0 : Value) : Prop := f0 = .none ∨ ∃ T : Addr, f0 = rawInt T
theorem own_cases {f0 : Value} (ho : Own f0) (h : Heap) : Dead h f0 ∨ ∃ (T : Addr) (oT : Obj), f0 = rawInt T ∧ h.get? T = some oT := by
  rcases ho with rfl | ⟨T, rfl⟩
  · exact .inl (.inl rfl)
  · cases e : h.get? T with
    | none => exact .inl (.inr ⟨T, rfl, e⟩)
    | some oT => exact .inr ⟨T, oT, rfl, e⟩
theorem pyNext_item {z TI TO i1 i2 l1 l2 : Addr} {k1 k2 : Nat} {xs ys : Array Value} {x y a b f0 : Value} {f : Bool} {Q : Option Value → Shared → Prop} (D : ZipApart z TI TO i1 i2 l1 l2)
    (hz : IsZG s.heap z TI TO f0 f) (ho : Own f0) (hTI : IsPair s.heap TI (.ref i1) (.ref i2)) (hTO : IsPair s.heap TO a b)
    (h1 : s.heap.IsTupleIter i1 l1 k1) (h2 : s.heap.IsTupleIter i2 l2 k2) (hl1 : s.heap.IsTuple l1 xs) (hl2 : s.heap.IsTuple l2 ys) (hx : xs[k1]? = some x) (hy : ys[k2]? = some y)
    (hQ : ∀ h' f0' f' a' b', IsZG h' z TI TO f0' f' → Own f0' → IsPair h' TO a' b' → h'.IsTupleIter i1 l1 (k1 + 1) → h'.IsTupleIter i2 l2 (k2 + 1) → IsPair h' s.heap.objs.size x y → h'.objs.size = s.heap.objs.size + 1 →
      (∀ c o, c ≠ z → c ≠ TO → c ≠ i1 → c ≠ i2 → s.heap.get? c = some o → h'.get? c = some o) → Q (some (.ref s.heap.objs.size)) { s with heap := h' }) :
    wpAny (model prog w) A (pyNext (.ref z)) Q E s := by
  have hT : s.TypeIs (.ref z) "zip" := ⟨_, hz, rfl⟩
  unfold pyNext
  rcases own_cases ho s.heap with hd | ⟨T, oT, rfl, hoT⟩
  · exact wpAny_bind (wpAny_attempt (wpAny_callSpecial?_slot (name := Str.ofString "__next__") hT F.slot_zip_next
      (wpAny_call_entry F.slot_zip_next hT F.entry_zip_next (zipT_next_itemG D hz hd hTI hTO h1 h2 hl1 hl2 hx hy fun h' a1 a2 a3 a4 a5 a6 a7 => wpAny_pure (hQ h' _ _ _ _ a1 (.inr ⟨_, rfl⟩) a2 a3 a4 a5 a6 a7)) (F.args_zip_next_1 _))))
  · exact wpAny_bind (wpAny_attempt (wpAny_callSpecial?_slot (name := Str.ofString "__next__") hT F.slot_zip_next
      (wpAny_call_entry F.slot_zip_next hT F.entry_zip_next (zipT_next_item_held D hz hoT hTI h1 h2 hl1 hl2 hx hy fun h' a1 a3 a4 a5 a6 a7 => wpAny_pure (hQ h' _ _ a b a1 (.inr ⟨_, rfl⟩) (a7 _ _ D.TOz D.TOi1 D.TOi2 hTO) a3 a4 a5 a6 fun c o c1 _ c3 c4 e => a7 c o c1 c3 c4 e)) (F.args_zip_next_1 _))))
theorem pyNext_end {z TI TO i1 i2 l1 l2 : Addr} {k1 k2 : Nat} {xs ys : Array Value} {a b f0 : Value} {f : Bool} {Q : Option Value → Shared → Prop} (hh : A.handled = none) (D : ZipApart z TI TO i1 i2 l1 l2)
    (hz : IsZG s.heap z TI TO f0 f) (ho : Own f0) (hTI : IsPair s.heap TI (.ref i1) (.ref i2)) (hTO : IsPair s.heap TO a b)
    (h1 : s.heap.IsTupleIter i1 l1 k1) (h2 : s.heap.IsTupleIter i2 l2 k2) (hl1 : s.heap.IsTuple l1 xs) (hl2 : s.heap.IsTuple l2 ys) (hend : xs[k1]? = none ∨ ys[k2]? = none)
    (hQ : ∀ h', (∀ c o, c ≠ z → c ≠ TO → c ≠ i1 → c ≠ i2 → s.heap.get? c = some o → h'.get? c = some o) → Q none { s with heap := h' }) : wpAny (model prog w) A (pyNext (.ref z)) Q E s := by
  have hT : s.TypeIs (.ref z) "zip" := ⟨_, hz, rfl⟩
  unfold pyNext
  rcases own_cases ho s.heap with hd | ⟨T, oT, rfl, hoT⟩
  · refine wpAny_bind (wpAny_attempt (wpAny_callSpecial?_slot (name := Str.ofString "__next__") hT F.slot_zip_next
      (wpAny_call_entry F.slot_zip_next hT F.entry_zip_next (zipT_next_endG hh D hz hd hTI hTO h1 h2 hl1 hl2 hend fun h' e hk he => ?_) (F.args_zip_next_1 _))))
    obtain ⟨o, ho, hc⟩ := he
    refine wpAny_bind (wpAny_isInstance (T := "StopIteration") (b := true) ⟨o, ho, hc⟩ isSubtype_stop ?_)
    exact wpAny_pure (hQ _ hk)
  · refine wpAny_bind (wpAny_attempt (wpAny_callSpecial?_slot (name := Str.ofString "__next__") hT F.slot_zip_next
      (wpAny_call_entry F.slot_zip_next hT F.entry_zip_next (zipT_next_end_held hh D hz hoT hTI h1 h2 hl1 hl2 hend fun h' e hk he => ?_) (F.args_zip_next_1 _))))
    obtain ⟨o, ho, hc⟩ := he
    refine wpAny_bind (wpAny_isInstance (T := "StopIteration") (b := true) ⟨o, ho, hc⟩ isSubtype_stop ?_)
    exact wpAny_pure (hQ _ fun c o c1 _ c3 c4 e => hk c o c1 c3 c4 e)
end
end K75Z
namespace K75Z
open PySem PySem.Spec PyProof.Rows L2 RZ
theorem pyIter_zG {z TI TO : Addr} {f0 : Value} {f : Bool} {prog : Program} {w : World} {A : Around} {E : Value → Shared → Prop} {s : Shared} {Q : Value → Shared → Prop} (hz : IsZG s.heap z TI TO f0 f) (h : Q (.ref z) s) : wpAny (model prog w) A (pyIter (.ref z)) Q E s := by
  have hT : s.TypeIs (.ref z) "zip" := ⟨_, hz, rfl⟩
  refine wpAny_pyIter_slot hT F.slot_zip_iter (wpAny_call_entry F.slot_zip_iter hT F.entry_zip_iter ?_ (F.args_zip_iter_1 _))
  show wpAny _ _ (ret (.ref z)) _ _ s
  exact wpAny_pure ⟨_, rfl, "zip", _, hT, F.slot_zip_next.lookup, h⟩
theorem turn_zipN {P : Program} {w : World} {K : PySem.W.Frag} {tx : Str} {tpos : Pos} {a b z TI TO i1 i2 : Addr} (D : ZipApart z TI TO i1 i2 a b) :
    Turn P w K (.Name tx tpos) (ItzT K a b) [z, TI, TO, i1, i2] z (fun i h => (∃ f0 f, IsZG h z TI TO f0 f ∧ Own f0) ∧ IsPair h TI (.ref i1) (.ref i2) ∧ (∃ x y, IsPair h TO x y) ∧ h.IsTupleIter i1 a i ∧ h.IsTupleIter i2 b i) where
  mem := by simp
  obj := fun i h st c hc => by
    obtain ⟨⟨f0, ff, hz, hw0⟩, hTI, ⟨x, y, hTO⟩, ⟨o1, e1, _, d1⟩, ⟨o2, e2, _, d2⟩⟩ := st
    have e' : c = z ∨ c = TI ∨ c = TO ∨ c = i1 ∨ c = i2 := by simpa using hc
    rcases e' with q | q | q | q | q
    · rw [q]; exact ⟨_, hz, fun v q => nomatch q⟩
    · rw [q]; exact ⟨_, hTI, fun v q => nomatch q⟩
    · rw [q]; exact ⟨_, hTO, fun v q => nomatch q⟩
    · rw [q]; exact ⟨o1, e1, fun v q => by rw [d1] at q; cases q⟩
    · rw [q]; exact ⟨o2, e2, fun v q => by rw [d2] at q; cases q⟩
  keep := fun i h h' st k => by
    obtain ⟨⟨f0, ff, hz, hw0⟩, hTI, ⟨x, y, hTO⟩, h1, h2⟩ := st
    exact ⟨⟨f0, ff, k z (by simp) _ hz, hw0⟩, k TI (by simp) _ hTI, ⟨x, y, k TO (by simp) _ hTO⟩, h1.at fun o q => k i1 (by simp) o q, h2.at fun o q => k i2 (by simp) o q⟩
  item := by
    intro X hP hw hK hc i pins s σ H E I hf st hg
    subst hP hw hK
    obtain ⟨⟨f0, ff, hz, hw0⟩, hTI, ⟨x0, y0, hTO⟩, h1, h2⟩ := st
    obtain ⟨xs, ys, x, y, hqx, hqy, hx, hy⟩ := hg
    obtain ⟨its, rv, p, _⟩ := I.tuple hqx
    obtain ⟨its2, rv2, p2, _⟩ := I.tuple hqy
    obtain ⟨u, hu, ru⟩ := rv.get hx
    obtain ⟨u2, hu2, ru2⟩ := rv2.get hy
    have hzl : z < s.heap.objs.size := Heap.lt_size hz
    refine pyNext_item D hz hw0 hTI hTO h1 h2 p p2 (x := u) (y := u2) (by simpa using hu) (by simpa using hu2) fun h' f0' f' a' b' z' ho' TO' h1' h2' hT hsz hk => ?_
    refine ⟨_, rfl, ?_⟩
    show wpAny _ _ (pure ()) _ _ _
    refine wpAny_pure ?_
    have new : ObjOk X.prog X.w (upd H s.heap.objs.size (.tup [x, y])) h' s.heap.objs.size (.tup [x, y]) :=
      ⟨by show 2 ≤ sizeLine; decide, [u, u2], .cons ru (.cons ru2 .nil), ⟨_, hT, rfl, _, rfl⟩⟩
    have I1 : Inv X pins σ (upd H s.heap.objs.size (.tup [x, y])) { s with heap := h' } :=
      I.turnedNew (t' := s.toks) (ch := [z, TI, TO, i1, i2]) (fun c o hb q => hk c o (fun q' => hb (by simp [q'])) (fun q' => hb (by simp [q'])) (fun q' => hb (by simp [q'])) (fun q' => hb (by simp [q'])) q) hf (Nat.le_refl _) new
    refine ⟨.ref s.heap.objs.size, _, I1, rfl, ⟨_, x, y, rfl, I.hok.fresh (Nat.le_refl _), rfl, fun l hl => by rw [I.tuple_inj hl hqx]; exact hx, fun l hl => by rw [I.tuple_inj hl hqy]; exact hy⟩, ⟨⟨f0', f', z', ho'⟩, ?_, ⟨a', b', TO'⟩, h1', h2'⟩, fun c hcm => ?_⟩
    · exact hk _ _ D.TIz D.TITO D.TIi1 D.TIi2 hTI
    · have hlt : c < s.heap.objs.size := by
        have e' : c = z ∨ c = TI ∨ c = TO ∨ c = i1 ∨ c = i2 := by simpa using hcm
        rcases e' with q | q | q | q | q
        · rw [q]; exact hzl
        · rw [q]; exact Heap.lt_size hTI
        · rw [q]; exact Heap.lt_size hTO
        · rw [q]; obtain ⟨_, e1, _⟩ := h1; exact Heap.lt_size e1
        · rw [q]; obtain ⟨_, e2, _⟩ := h2; exact Heap.lt_size e2
      rw [upd_ne (Nat.ne_of_lt hlt)]
      exact (hf c hcm).1
  done := by
    intro X hP hw hK hc i pins s σ H E I hf st hg
    subst hP hw hK
    obtain ⟨⟨f0, ff, hz, hw0⟩, hTI, ⟨x0, y0, hTO⟩, h1, h2⟩ := st
    obtain ⟨xs, ys, hqx, hqy, hend⟩ := hg
    obtain ⟨its, rv, p, _⟩ := I.tuple hqx
    obtain ⟨its2, rv2, p2, _⟩ := I.tuple hqy
    have l1 := rv.length
    have l2 := rv2.length
    have he : its.toArray[i]? = none ∨ its2.toArray[i]? = none := by
      rcases hend with q | q
      · exact .inl (by simp; omega)
      · exact .inr (by simp; omega)
    exact pyNext_end (I.ok.hd hc) D hz hw0 hTI hTO h1 h2 p p2 he fun h' hk => ⟨rfl, I.turnedL (t' := s.toks) (ch := [z, TI, TO, i1, i2]) (fun c o hb q =>
      hk c o (fun q' => hb (by simp [q'])) (fun q' => hb (by simp [q'])) (fun q' => hb (by simp [q'])) (fun q' => hb (by simp [q'])) q) hf⟩
  self := fun A i s Q E st h => let ⟨_, _, hz, _⟩ := st.1; pyIter_zG hz h
def iZipN (K : PySem.W.Frag) (ta : TA) : TI := fun σ H R => ta σ H fun vs H1 => ∃ a b xs ys, vs = [.ref a, .ref b] ∧ SqT K H1 a xs ∧ SqT K H1 b ys ∧ R (ItzT K a b) H1
theorem pi_zipN {X : Cx} {e e2 : Expr} {ta : TA} {p pos tpos : Pos} {tx : Str} (hg : Gl X "zip") (hm : X.mg "zip" = none) (ha : PA X [e, e2] ta)
    (hs : starEach [e, e2] X.env = (false, eval e X.env) :: starEach [e2] X.env := by rfl) (hpl : (backTo pos (starEach [e2] X.env)).any (·.1) = false := by rfl) :
    PI X (.Name tx tpos) (.Call (.Name "zip" p) [e, e2] [] pos) (iZipN X.K ta) := by
  refine ⟨fun pins s σ H R I h => ?_⟩
  refine Call_ (ld_blt I hg hm PyProof.Rows.boot_zip (PyProof.Rows.callWith_type1 (thn (ha.run pos pins s σ H _ I h) fun us s1 ⟨vs, H1, I1, r1, q1⟩ => ?_) hs hpl))
  obtain ⟨a, b, xs, ys, ex, q1⟩ := q1
  subst ex
  cases r1 with
  | cons r rr =>
    cases rr with
    | cons r' rr =>
      cases rr
      cases r
      cases r'
      have fresh5 : ∀ c, c ∈ [s1.heap.objs.size + 4, s1.heap.objs.size + 2, s1.heap.objs.size + 3, s1.heap.objs.size, s1.heap.objs.size + 1] → FpOk X pins H1 c := fun c hcm => by
        have e' : c = s1.heap.objs.size + 4 ∨ c = s1.heap.objs.size + 2 ∨ c = s1.heap.objs.size + 3 ∨ c = s1.heap.objs.size ∨ c = s1.heap.objs.size + 1 := by simpa using hcm
        have hle : s1.heap.objs.size ≤ c := by
          rcases e' with z | z | z | z | z
          · rw [z]; exact Nat.le_add_right _ _
          · rw [z]; exact Nat.le_add_right _ _
          · rw [z]; exact Nat.le_add_right _ _
          · rw [z]; exact Nat.le_refl _
          · rw [z]; exact Nat.le_add_right _ _
        exact I1.fpOk hle (I1.hok.fresh hle)
      obtain ⟨hqx, hqy, q⟩ := q1
      obtain ⟨its, rv, p1, _⟩ := I1.tuple hqx
      obtain ⟨its2, rv2, p2, _⟩ := I1.tuple hqy
      obtain ⟨o1, ho1, _⟩ := id p1
      obtain ⟨o2, ho2, _⟩ := id p2
      refine call_zipT (show s1.heap.IsTuple a its.toArray from p1) (show s1.heap.IsTuple b its2.toArray from p2) fun h' hz hTI hTO h1 h2 hsz hk => wpAny_pyIter_zip hz ?_
      have I2 : Inv X pins σ H1 { s1 with heap := h' } := I1.kept (t' := s1.toks) hk
      exact ⟨s1.heap.objs.size + 4, [s1.heap.objs.size + 4, s1.heap.objs.size + 2, s1.heap.objs.size + 3, s1.heap.objs.size, s1.heap.objs.size + 1], _, _, H1, rfl, I2, turn_zipN (PySem.W.ktu_apart s1.heap.objs.size a b (Heap.lt_size ho1) (Heap.lt_size ho2)), ⟨⟨.none, false, hz, .inl rfl⟩, hTI, ⟨_, _, hTO⟩, h1, h2⟩, fresh5, q⟩
end K75Z
set_option maxHeartbeats 2000000
/-! ### the law's def, called by the caller; repr of data; in, not in of tuples of data -/
namespace K75
open PySem PySem.Spec PyProof.Rows L2
/-- the law's def keeps its promise, called by the caller -/
structure LawOk (P : Program) (w : World) (K : PySem.W.Frag) (mg : Str → Option Value) (base : Heap) (CX : CXT) (f : Addr) (fd : FuncData) (x : Str) (sp : Sp) : Prop where
  run : ∀ (s : Shared) (H : Hp) (us : List Value) (vs : List V) (Q : VK) (E : XK), Env0 P w K mg base callerA [] s H → BindsTo s fd ⟨us, []⟩ ([x].zip us) → Vals vs us → sp vs H Q E →
    codeAny (model P w) callerA (.call (.ref f) ⟨us, []⟩) (CR CX [] P w H s Q E) s
theorem law_callL {P : Program} {w : World} {K : PySem.W.Frag} {mg mb : Str → Option Value} {CX : CXT} {fa a : Addr} {fd : FuncData} {x : Str} {sp : Sp} {s₁ : Shared} {vs : List Value} {ns : List Int}
    (KX : K.In s₁.heap) (hns : s₁.heap.Ns mainGlobals mg) (hb : s₁.heap.Ns builtinsNs mb) (hbb : ∀ x : Str, x ≠ "__name__" → mb x = bootBuiltins x) (hlim : s₁.heap.NoLimit) (hg : s₁.gens = #[])
    (ha : s₁.heap.get? a = some { cls := .type "list", data := .seq vs.toArray }) (hi : IntsAre vs ns) (hl : ns.length ≤ sizeLine)
    (F : ∀ base : Heap, K.In base → base.Ns mainGlobals mg → LawOk P w K mg base CX fa fd x sp) (hbind : ∀ (s : Shared) (u : Value), BindsTo s fd ⟨[u], []⟩ [(x, u)])
    (hsp : ∀ H : Hp, Only H → SqL K H a (ns.map V.int) → sp [.ref a] H (fun v _ => v = .bl true) fun _ _ _ => False)
    (hCX : ∀ H e s', CX [] H s₁ (fun _ _ _ => False) e s' → False) :
    codeAny (model P w) callerA (.call (.ref fa) ⟨[.ref a], []⟩) (fun r s' => r = .ok (.ret (.bool true)) ∧ OldK s₁.heap s'.heap ∧ s'.os = s₁.os ∧ AllBare s'.gens) s₁ := by
  have rv := vals_ints hi
  have lenV := hi.length
  -- from an abstract heap in which nothing but the script may be tracked
  have core : ∀ H : Hp, Only H → SqL K H a (ns.map V.int) → HOk P w H s₁.heap → (∀ b, H b ≠ none → b = a) → (H a ≠ none → K.lookup a = none) →
      codeAny (model P w) callerA (.call (.ref fa) ⟨[.ref a], []⟩) (fun r s' => r = .ok (.ret (.bool true)) ∧ OldK s₁.heap s'.heap ∧ s'.os = s₁.os ∧ AllBare s'.gens) s₁ := by
    intro H hO hS hok hA hK
    have base_of : ∀ {b : Addr} {o : Obj}, s₁.heap.get? b = some o → H b = none → (hidT s₁.heap H).get? b = some o := fun e n => hidT_get e n
    have noA : ∀ {b : Addr} {o : Obj} {es : Array DictEntry} {ep : Nat}, s₁.heap.get? b = some o → o.data = .dict es ep → H b = none := fun {b o es ep} e d => by
      cases q : H b with
      | none => rfl
      | some u =>
        have e' : b = a := hA b (by rw [q]; simp)
        subst e'
        rw [ha] at e; cases e
        have d' : Data.seq vs.toArray _ = Data.dict es ep := d
        cases d'
    have nsK : ∀ {b : Addr} {m : Str → Option Value}, s₁.heap.Ns b m → (hidT s₁.heap H).Ns b m := fun {b m} ⟨o, es, ep, e, d, r⟩ => ⟨o, es, ep, base_of e (noA e d), d, r⟩
    have hKb : K.In (hidT s₁.heap H) := fun b o e => base_of (KX b o e) (by
      cases q : H b with
      | none => rfl
      | some u =>
        have e' : b = a := hA b (by rw [q]; simp)
        subst e'
        rw [hK (by rw [q]; simp)] at e; cases e)
    have hM : Mod K mg (hidT s₁.heap H) := ⟨hKb, nsK hns, ⟨mb, nsK hb, hbb⟩, let ⟨mc, h1, h2⟩ := hlim; ⟨mc, nsK h1, h2⟩⟩
    have e0 : Env0 P w K mg (hidT s₁.heap H) callerA [] s₁ H := ⟨rfl, hM, fun b o e => of_hidT e, Nat.le_of_eq (hidT_size _ _), trivial, fun b hb => absurd (show b ∈ ([] : List Addr) from hb) (by simp), hok, .of_eq hg⟩
    refine codeAny_mono ((F _ hKb (nsK hns)).run s₁ H [.ref a] [.ref a] _ _ e0 (hbind s₁ (.ref a)) (.cons rfl .nil) (hsp H hO hS)) fun r s' h => ?_
    cases r with
    | error e => exact (hCX H e s' h).elim
    | ok fl =>
      cases fl with
      | next => exact False.elim h
      | brk => exact False.elim h
      | cont => exact False.elim h
      | ret u =>
        obtain ⟨v, H', os, bare, un, hok', r', q⟩ := h
        have q' : v = .bl true := q
        subst q'
        obtain rfl : u = Value.bool true := r'
        refine ⟨rfl, OldK.of_keep fun b o e => ?_, os, bare⟩
        cases q : H b with
        | none => exact un.keep b o e q (by intro z; exact absurd (show b ∈ ([] : List Addr) from z) (by simp)) (by simp)
        | some u =>
          rcases hO b with z | ⟨ob, xs, z⟩
          · rw [q] at z; cases z
          · have z2 := un.frzs b ob _ z
            obtain ⟨e1, _⟩ := hok b _ z
            obtain ⟨e2, _⟩ := hok' b _ z2
            rw [e] at e1; cases e1
            exact e2
  cases hk : K.lookup a with
  | some o =>
    -- the script is one of the module's own objects
    have e := KX a o hk
    rw [ha] at e
    cases e
    refine core (fun _ => none) (fun _ => .inl rfl) (.inr ⟨_, vs.toArray, _, hk, rfl, rfl, rfl, by rw [List.size_toArray, lenV]; exact hl, by simpa using rv⟩) (fun b u z => by have z' : (none : Option HO) = some u := z; cases z') (fun b z => absurd rfl z) fun z => absurd rfl z
  | none =>
    refine core (fun b => if b = a then some (.frz { cls := .type "list", data := .seq vs.toArray } (.lst (ns.map V.int))) else none) (fun b => ?_) (.inl (.inr ⟨{ cls := .type "list", data := .seq vs.toArray }, if_pos rfl⟩)) (fun b u z => ?_) (fun b z => ?_) fun _ => hk
    · by_cases hb : b = a
      · exact .inr ⟨_, _, if_pos hb⟩
      · exact .inl (if_neg hb)
    · by_cases hb : b = a
      · have z' := (if_pos hb).symm.trans z
        cases z'
        subst hb
        exact ⟨ha, by rw [List.length_map]; exact hl, vs, _, rv, ha⟩
      · have z' := (if_neg hb).symm.trans z
        cases z'
    · by_cases hb : b = a
      · exact hb
      · exact absurd (if_neg hb) z
theorem walk_ofL {l : PySem.W.OpenLaw} {n : Nat} {q : Program} {loose : List Str} {XP : (Str → Option Value) → Heap → Prop} {YP : World → Heap → Prop} {d : DefRec} {CX : CXT} {x : Str}
    (hn : l.most = some n) (hn2 : n ≤ sizeLine) (hdf : d.params.defaults = [])
    (F : ∀ (w : World) (mg : Str → Option Value) (fa : Addr) (h : Heap), YP w h → h.Ns mainGlobals mg → mg d.name = some (.ref fa) →
      ∃ (K : PySem.W.Frag) (fd : FuncData) (sp : Sp), K.In h ∧ (∀ (s : Shared) (u : Value), BindsTo s fd ⟨[u], []⟩ [(x, u)]) ∧
        (∀ (H : Hp) (a : Addr) (ns : List Int), ns.length ≤ n → Only H → SqL K H a (ns.map V.int) → sp [.ref a] H (fun v _ => v = .bl true) fun _ _ _ => False) ∧
        ∀ base : Heap, K.In base → base.Ns mainGlobals mg → LawOk l.prog w K mg base CX fa fd x sp)
    (hCX : ∀ (H : Hp) (s : Shared) (e : Value) (s' : Shared), CX [] H s (fun _ _ _ => False) e s' → False) :
    PySem.W.WalkO q loose XP YP l.row.toRowW d [] (fun f vs => PySem.call f vs) := by
  refine Att.attach_call hn hdf fun w s₀ s₁ mg mb fa o pm cd doc a vs ns G Y ho hd hcd hmg hobj hints hlen hg => ?_
  obtain ⟨K, fd, sp, KX, hb, hsp, hF⟩ := F w mg fa _ Y G.T.g hmg
  exact law_callL KX G.T.g G.T.b G.T.builtins G.T.nolimit hg hobj hints (Nat.le_trans hlen hn2) hF hb (fun H hO hS => hsp H a ns hlen hO hS) fun H e s' => hCX H s₁ e s'
theorem law_of {P : Program} {w : World} {K : PySem.W.Frag} {mg : Str → Option Value} {base : Heap} {x y qual : Str} {params : Arguments} {body : List Stmt} {scope : Scope} {dvs : List V} {kws : List (Str × V)} {f : Addr} {fd : FuncData} {CX : CXT} {N : List Str} {k : Nat} {sp : Sp}
    (F : FunD K y qual params body scope dvs kws f fd) (S : FnScope N [x] scope) (hr : Room (k + 1) callerA) (len : ∀ vs H Q E, sp vs H Q E → vs.length = ([x] : List Str).length)
    (hbody : ∀ (cdv : Value) (s : Shared) (H : Hp) (vs : List V) (Q : VK) (E : XK), Room k (callerA.deeper (envOfC qual scope s.heap.objs.size f cdv)) → sp vs H Q E →
      ∃ t, PSs (cxOf CX P w K mg base N qual scope f cdv callerA [] s H E) body t ∧ t { nx := fun _ H' => Q .non H', rt := Q } (start N vs) H) : LawOk P w K mg base CX f fd x sp := by
  obtain ⟨oc, od, dV, kV, doc, pm, an, cdv, ct, osl, rfl, lk, hcd, _, _⟩ := F.ex
  refine ⟨fun s H us vs Q E e0 hb r hsp => ?_⟩
  have hl := len _ _ _ _ hsp
  have KX : K.In s.heap := e0.mod.kin.keeps fun b o e => (e0.bs b o e).1
  have lim : s.heap.NoLimit := e0.mod.nolimit.keeps fun b o e => (e0.bs b o e).1
  have hkind : ∀ y ∈ [x].zip us, scope.names.lookup y.1 = some .local ∨ (scope.names.lookup y.1 = some .cell ∧ ((cellsFrom (s.heap.objs.size + 1) scope.names []).lookup y.1).isSome = true) := fun ⟨n, v⟩ hy => by
    rcases S.par n (List.of_mem_zip hy).1 with q | q
    · exact .inl q
    · exact .inr ⟨q, PySem.W.cellsFrom_some _ _ _ (.inl q)⟩
  refine codeAny_call_function hr.depth (KX _ _ lk) rfl S.co S.gen rfl (PySem.W.codeRec_of KX hcd) (hb _ _ _ _ ?_)
  refine wpAny_newFunctionEnv_cells S.kind hkind fun env he s1 x => ?_
  subst he
  refine ⟨lim.keeps x.toInCall.keep, codeAny_func ?_⟩
  obtain ⟨t, ht, hq⟩ := hbody cdv s H vs Q E (hr.deeper _) hsp
  have I : Inv (cxOf CX P w K mg base N qual scope f cdv callerA [] s H E) [] (start N vs) H s1 := inv_start S hr.hd e0 hl r x
  refine wpAny_mono (ht.run [] s1 (start N vs) H _ I hq) (fun fl s' hs => ?_) fun e s' hs => hs
  have fin : ∀ {σ' : L2.St} {H' : Hp} {v : V} {u : Value}, Inv (cxOf CX P w K mg base N qual scope f cdv callerA [] s H E) [] σ' H' s' → RelV v u → Q v H' → CE [] P w H s Q u s' :=
    fun {σ' H' v u} J rv q => ⟨v, H', J.os, J.bare, J.base, J.hok, rv, q⟩
  cases fl with
  | ret u =>
    obtain ⟨v, σ', H', J, rv, q⟩ := hs
    exact fin J rv q
  | next =>
    obtain ⟨σ', H', J, q⟩ := hs
    exact fin (v := V.non) (u := Value.none) J rfl q
  | brk =>
    obtain ⟨_, _, _, q⟩ := hs
    exact False.elim q
  | cont =>
    obtain ⟨_, _, _, q⟩ := hs
    exact False.elim q
section
variable {X : Cx}
/-- repr of data -/
def rReprD (K : PySem.W.Frag) : List V → Hp → VK → Prop := fun vs H Q => ∃ (a : Addr) (d : PyData), vs = [.ref a] ∧ Dp K H (.ref a) d ∧ d.showable = true ∧ d.hasDict = false ∧ d.depth ≤ 60 ∧ d.shown.length ≤ sizeLine ∧ Q (.str d.shown) H
theorem cr_repr {k : Nat} (hr : Room k X.A) (hg : X.A.guards = some []) : CallR X (.builtin "repr") (rReprD X.K) := by
  intro pins s σ H xs us Q I r h
  obtain ⟨a, d, rfl, hd, hs, hnd, hdp, hz, q⟩ := h
  rw [Vals.ref1 r]
  obtain ⟨as, rd⟩ := Dp.reads I d (.ref a) (.ref a) hd rfl
  refine repr_of_reads' rd hs (fun z => by rw [hnd] at z; cases z) hg ?_ (fun b o e => e) (fun h' u tk hk => ?_) hz
  · have := hr.un
    omega
  · exact ⟨.str d.shown, H, I.kept (t' := tk) hk, ⟨u, rfl⟩, q⟩
/-- x in t, x not in t, t a tuple of data -/
def rInT (K : PySem.W.Frag) (neg : Bool) : R2 := fun x y H Q => ∃ d ds, Dp K H x d ∧ Dp K H y (.tuple ds) ∧ SeqAt.shaped d = true ∧ SeqAt.shaped (.tuple ds) = true ∧ Q (.bl (if neg = true then !(ds.any fun z => PyData.eqv z d) else ds.any fun z => PyData.eqv z d)) H
theorem op_inT {k : Nat} (hr : Room k X.A) : OpR X (compareOp .In) (rInT X.K false) := by
  intro pins s σ H x y v u Q I rx ry h
  obtain ⟨d, ds, hd, he, sd, se, q⟩ := h
  obtain ⟨as, r1⟩ := Dp.reads I d x v hd rx
  obtain ⟨bs, r2⟩ := Dp.reads I (.tuple ds) y u he ry
  exact SeqAt.in_tuple_reads r2 r1 (SeqAt.canLay_of_shaped se) (SeqAt.canLay_of_shaped sd) (PyProof.Rows.room_in_shaped sd (by have := hr.un; omega)) ⟨.bl _, H, I, rfl, q⟩
theorem op_notInT {k : Nat} (hr : Room k X.A) : OpR X (compareOp .NotIn) (rInT X.K true) := by
  intro pins s σ H x y v u Q I rx ry h
  obtain ⟨d, ds, hd, he, sd, se, q⟩ := h
  obtain ⟨as, r1⟩ := Dp.reads I d x v hd rx
  obtain ⟨bs, r2⟩ := Dp.reads I (.tuple ds) y u he ry
  exact SeqAt.notIn_tuple_reads r2 r1 (SeqAt.canLay_of_shaped se) (SeqAt.canLay_of_shaped sd) (PyProof.Rows.room_in_shaped sd (by have := hr.un; omega)) ⟨.bl _, H, I, rfl, q⟩
end
end K75
set_option maxHeartbeats 2000000
namespace K75
open PySem PySem.Spec PyProof.Rows L2
/-! ### d != {}, d == {}; a, o.f = .. -/
section
variable {X : Cx}
def rNe0 : R2 := fun x y H Q => ∃ a b ks, x = .ref a ∧ y = .ref b ∧ Rd H a (.dK ks) ∧ H b = some (.dK []) ∧ Q (.bl (!ks.isEmpty)) H
theorem op_ne0 {k : Nat} (hr : Room k X.A) : OpR X (compareOp .NotEq) rNe0 := by
  intro pins s σ H x y v u Q I rx ry h
  obtain ⟨a, b, ks, rfl, rfl, ea, eb, q⟩ := h
  obtain rfl : v = Value.ref a := rx
  obtain rfl : u = Value.ref b := ry
  obtain ⟨_, ya, va, ra, da⟩ := ea.ok I.hok
  obtain ⟨_, yb, vb, rb, db⟩ := (show ObjOk X.prog X.w H s.heap b (.dK []) from I.hok b _ eb)
  cases rb
  refine PySem.W.keq_ne (knd := mixKind X.prog X.w) (r := true) ya yb da db (by have := hr.un; omega) (fun e => ?_) (fin_bl I q ?_)
  · cases va with
    | nil => exact .nil
    | cons p r => simp at e
  · cases ra with
    | nil => rfl
    | cons _ _ => simp
theorem pg_fld {o : Expr} {f : Str} {pos : Pos} {ta : TE} (ho : PE X o ta) (ha : ∀ v, assign (.Attribute o f pos) X.env v = (do
      let ov ← holding [v] (eval o X.env)
      standAt pos.atName
      holding [v, ov] (setAttr ov f v)
      release [v, ov] []) := by intro _; rfl) :
    PG X (.Attribute o f pos) (fun v σ H Q => ta σ H fun x H2 => ∃ a C dx fs, x = .ref a ∧ H2 a = some (.ins C dx fs) ∧ Cls X.K C ∧ NoAttr X.K C f ∧ fs.length < 1000 ∧ Q σ (upd H2 a (.ins C dx (putF f v fs)))) := by
  refine ⟨fun pins s σ H v u Q I r h => ?_⟩
  rw [ha]
  refine wpAny_bind (wpAny_holding (thn (ho.run pins s σ H _ I h) fun ov s2 ⟨x, H2, I2, rx, a, C, dx, fs, ex, ea, c, n, l, q2⟩ => ?_))
  subst ex
  obtain rfl : ov = Value.ref a := rx
  refine wpAny_bind (wpAny_standAt (wpAny_bind (wpAny_holding (setattr_ok I2 ea c n l r fun s3 I3 => ?_))))
  exact wpAny_release ⟨σ, _, I3, q2⟩
end
end K75
set_option maxHeartbeats 2000000
/-! ### what stands in the heap, but for what changes -/
namespace K75
open PySem PySem.Spec PyProof.Rows L2
def fr (M : List Addr) (H : Hp) : Hp := fun a => if a ∈ M then none else H a
/-- what stands in F stands in G, perhaps locked or unlocked -/
structure Le (F G : Hp) : Prop where
  rd : ∀ a u, Rd F a u → Rd G a u
  ins : ∀ a C dx fs, F a = some (.ins C dx fs) → G a = some (.ins C dx fs)
theorem Le.refl (F : Hp) : Le F F := ⟨fun _ _ h => h, fun _ _ _ _ h => h⟩
theorem Le.trans {F G H : Hp} (a : Le F G) (b : Le G H) : Le F H := ⟨fun x u h => b.rd x u (a.rd x u h), fun x C d f h => b.ins x C d f (a.ins x C d f h)⟩
theorem Le.of {F G : Hp} (h : ∀ a o, F a = some o → G a = some o) : Le F G := ⟨fun a u r => by
  rcases r with r | ⟨o, r⟩
  · exact .inl (h a _ r)
  · exact .inr ⟨o, h a _ r⟩, fun a C d f r => h a _ r⟩
/-- all but what stands at A stands as before -/
def SB (A : List Addr) (H H' : Hp) : Prop := ∀ a o, a ∉ A → H a = some o → H' a = some o
theorem SB.refl (A : List Addr) (H : Hp) : SB A H H := fun _ _ _ h => h
theorem SB.trans {A : List Addr} {H H1 H2 : Hp} (a : SB A H H1) (b : SB A H1 H2) : SB A H H2 := fun x o n h => b x o n (a x o n h)
theorem SB.sub {A B : List Addr} {H H' : Hp} (a : SB A H H') (h : ∀ x ∈ A, x ∈ B) : SB B H H' := fun x o n q => a x o (fun m => n (h x m)) q
theorem sb_same {H H' : Hp} (s : Same H H') (A : List Addr) : SB A H H' := fun a o _ h => s a o h
theorem same_sb {H H' : Hp} (s : SB [] H H') : Same H H' := fun a o h => s a o (by simp) h
theorem fr_some {M : List Addr} {H : Hp} {a : Addr} {o : HO} (h : fr M H a = some o) : H a = some o ∧ a ∉ M := by
  unfold fr at h
  by_cases m : a ∈ M
  · rw [if_pos m] at h; cases h
  · rw [if_neg m] at h; exact ⟨h, m⟩
theorem fr_of {M : List Addr} {H : Hp} {a : Addr} {o : HO} (h : H a = some o) (m : a ∉ M) : fr M H a = some o := by
  unfold fr
  rw [if_neg m]
  exact h
theorem fr_nil (H : Hp) : fr [] H = H := by
  funext a
  unfold fr
  rw [if_neg (by simp)]
theorem fr_le (M : List Addr) (H : Hp) : Le (fr M H) H := Le.of fun _ _ h => (fr_some h).1
theorem sb_le {A M : List Addr} {H H' : Hp} (s : SB A H H') (h : ∀ x ∈ A, x ∈ M) : Le (fr M H) (fr M H') := Le.of fun a o q => by
  obtain ⟨q, m⟩ := fr_some q
  exact fr_of (s a o (fun z => m (h a z)) q) m
theorem same_le {M : List Addr} {H H' : Hp} (s : Same H H') : Le (fr M H) (fr M H') := sb_le (sb_same s []) (by simp)
/-- the changing things are there -/
def Mok (M : List Addr) (H : Hp) : Prop := ∀ a ∈ M, H a ≠ none
theorem Mok.new {M : List Addr} {H : Hp} {p : Addr} (h : Mok M H) (n : H p = none) : p ∉ M := fun m => h p m n
theorem Mok.sb {A M : List Addr} {H H' : Hp} (h : Mok M H) (s : SB A H H') (hA : ∀ a ∈ A, H' a ≠ none) : Mok M H' := fun a m z => by
  by_cases q : a ∈ A
  · exact hA a q z
  · cases e : H a with
    | none => exact h a m e
    | some o => rw [s a o q e] at z; cases z
theorem Mok.same {M : List Addr} {H H' : Hp} (h : Mok M H) (s : Same H H') : Mok M H' := h.sb (sb_same s []) (by simp)
/-- a new object is laid -/
theorem same_new {H : Hp} {p : Addr} {o : HO} (n : H p = none) : Same H (upd H p o) := fun a u h => by
  rw [upd_ne (ne_of_none h n)]
  exact h
theorem upd_le {M : List Addr} {H : Hp} {p : Addr} {o : HO} (n : H p = none) : Le (fr M H) (fr M (upd H p o)) := same_le (same_new n)
theorem upd_fr {M : List Addr} {H : Hp} {p : Addr} {o : HO} (n : H p = none) (h : Mok M H) : fr M (upd H p o) p = some o := fr_of upd_same (h.new n)
/-- a changing thing is stored -/
theorem sb_upd {H : Hp} {a : Addr} {o : HO} : SB [a] H (upd H a o) := fun b u n h => by
  rw [upd_ne (by simpa using n)]
  exact h
theorem Le.sqL {K : PySem.W.Frag} {F G : Hp} {a : Addr} {xs : List V} (e : Le F G) (h : SqL K F a xs) : SqL K G a xs := by
  rcases h with h | h
  · exact .inl (e.rd _ _ h)
  · exact .inr h
theorem Le.sqT {K : PySem.W.Frag} {F G : Hp} {a : Addr} {xs : List V} (e : Le F G) (h : SqT K F a xs) : SqT K G a xs := by
  rcases h with h | h
  · exact .inl (e.rd _ _ h)
  · exact .inr h
mutual
theorem Le.dp {K : PySem.W.Frag} {F G : Hp} (e : Le F G) : ∀ {v : V} {d : PyData}, Dp K F v d → Dp K G v d
  | _, _, .non => .non
  | _, _, .bl b => .bl b
  | _, _, .int i => .int i
  | _, _, .str x => .str x
  | _, _, .lst h r => .lst (e.sqL h) (Le.dpAll e r)
  | _, _, .tup h r => .tup (e.sqT h) (Le.dpAll e r)
theorem Le.dpAll {K : PySem.W.Frag} {F G : Hp} (e : Le F G) : ∀ {vs : List V} {ds : List PyData}, DpAll K F vs ds → DpAll K G vs ds
  | _, _, .nil => .nil
  | _, _, .cons h r => .cons (Le.dp e h) (Le.dpAll e r)
end
theorem dp_ints {K : PySem.W.Frag} {F : Hp} : ∀ (ns : List Int), DpAll K F (ns.map V.int) (ns.map PyData.int)
  | [] => .nil
  | n :: ns => .cons (.int n) (dp_ints ns)
theorem of_dp_ints {K : PySem.W.Frag} {F : Hp} : ∀ {ns : List Int} {vs : List V}, DpAll K F vs (ns.map PyData.int) → vs = ns.map V.int
  | [], _, .nil => rfl
  | n :: ns, _, .cons h r => by
    cases h
    rw [of_dp_ints r]
    rfl
/-- a built-in type's name, of data -/
def tyD : PyData → String
  | .none => "NoneType"
  | .bool _ => "bool"
  | .int _ => "int"
  | .str _ => "str"
  | .list _ => "list"
  | .tuple _ => "tuple"
  | .dict _ => "dict"
theorem tyX_of {K : PySem.W.Frag} {H : Hp} {v : V} {d : PyData} (h : Dp K H v d) : TyX K H v (.type (tyD d)) := by
  cases h with
  | non => exact .base .non
  | bl b => exact .base (.bl b)
  | int i => exact .base (.int i)
  | str x => exact .base (.str x)
  | lst h r =>
    rcases h with (h | ⟨o, h⟩) | ⟨o, its, n, h, c, _⟩
    · exact .base (.lst h)
    · exact .base (.frz h)
    · exact .kList h c
  | tup h r =>
    rcases h with (h | ⟨o, h⟩) | ⟨o, its, n, h, c, _⟩
    · exact .base (.tup h)
    · exact .fTuple h
    · exact .kTuple h c
/-- is data an instance of a built-in type -/
def isD (n : String) (d : PyData) : Bool := match n, d with
  | "int", .int _ => true
  | "int", .bool _ => true
  | "bool", .bool _ => true
  | "str", .str _ => true
  | "list", .list _ => true
  | "tuple", .tuple _ => true
  | _, _ => false
theorem kit_int {K : PySem.W.Frag} (d : PyData) : PySem.W.kitOne K (.type (tyD d)) (.type "int") = some (isD "int" d) := by
  cases d with
  | none => exact (show PySem.W.kitOne K (.type "NoneType") (.type "int") = some false from kit_ty (by decide +kernel))
  | bool _ => exact (show PySem.W.kitOne K (.type "bool") (.type "int") = some true from kit_ty (by decide +kernel))
  | int _ => exact (show PySem.W.kitOne K (.type "int") (.type "int") = some true from kit_ty (by decide +kernel))
  | str _ => exact (show PySem.W.kitOne K (.type "str") (.type "int") = some false from kit_ty (by decide +kernel))
  | list _ => exact (show PySem.W.kitOne K (.type "list") (.type "int") = some false from kit_ty (by decide +kernel))
  | tuple _ => exact (show PySem.W.kitOne K (.type "tuple") (.type "int") = some false from kit_ty (by decide +kernel))
  | dict _ => exact (show PySem.W.kitOne K (.type "dict") (.type "int") = some false from kit_ty (by decide +kernel))
theorem kit_bool {K : PySem.W.Frag} (d : PyData) : PySem.W.kitOne K (.type (tyD d)) (.type "bool") = some (isD "bool" d) := by
  cases d with
  | none => exact (show PySem.W.kitOne K (.type "NoneType") (.type "bool") = some false from kit_ty (by decide +kernel))
  | bool _ => exact (show PySem.W.kitOne K (.type "bool") (.type "bool") = some true from kit_ty (by decide +kernel))
  | int _ => exact (show PySem.W.kitOne K (.type "int") (.type "bool") = some false from kit_ty (by decide +kernel))
  | str _ => exact (show PySem.W.kitOne K (.type "str") (.type "bool") = some false from kit_ty (by decide +kernel))
  | list _ => exact (show PySem.W.kitOne K (.type "list") (.type "bool") = some false from kit_ty (by decide +kernel))
  | tuple _ => exact (show PySem.W.kitOne K (.type "tuple") (.type "bool") = some false from kit_ty (by decide +kernel))
  | dict _ => exact (show PySem.W.kitOne K (.type "dict") (.type "bool") = some false from kit_ty (by decide +kernel))
theorem kit_str {K : PySem.W.Frag} (d : PyData) : PySem.W.kitOne K (.type (tyD d)) (.type "str") = some (isD "str" d) := by
  cases d with
  | none => exact (show PySem.W.kitOne K (.type "NoneType") (.type "str") = some false from kit_ty (by decide +kernel))
  | bool _ => exact (show PySem.W.kitOne K (.type "bool") (.type "str") = some false from kit_ty (by decide +kernel))
  | int _ => exact (show PySem.W.kitOne K (.type "int") (.type "str") = some false from kit_ty (by decide +kernel))
  | str _ => exact (show PySem.W.kitOne K (.type "str") (.type "str") = some true from kit_ty (by decide +kernel))
  | list _ => exact (show PySem.W.kitOne K (.type "list") (.type "str") = some false from kit_ty (by decide +kernel))
  | tuple _ => exact (show PySem.W.kitOne K (.type "tuple") (.type "str") = some false from kit_ty (by decide +kernel))
  | dict _ => exact (show PySem.W.kitOne K (.type "dict") (.type "str") = some false from kit_ty (by decide +kernel))
theorem kit_list {K : PySem.W.Frag} (d : PyData) : PySem.W.kitOne K (.type (tyD d)) (.type "list") = some (isD "list" d) := by
  cases d with
  | none => exact (show PySem.W.kitOne K (.type "NoneType") (.type "list") = some false from kit_ty (by decide +kernel))
  | bool _ => exact (show PySem.W.kitOne K (.type "bool") (.type "list") = some false from kit_ty (by decide +kernel))
  | int _ => exact (show PySem.W.kitOne K (.type "int") (.type "list") = some false from kit_ty (by decide +kernel))
  | str _ => exact (show PySem.W.kitOne K (.type "str") (.type "list") = some false from kit_ty (by decide +kernel))
  | list _ => exact (show PySem.W.kitOne K (.type "list") (.type "list") = some true from kit_ty (by decide +kernel))
  | tuple _ => exact (show PySem.W.kitOne K (.type "tuple") (.type "list") = some false from kit_ty (by decide +kernel))
  | dict _ => exact (show PySem.W.kitOne K (.type "dict") (.type "list") = some false from kit_ty (by decide +kernel))
theorem kit_tuple {K : PySem.W.Frag} (d : PyData) : PySem.W.kitOne K (.type (tyD d)) (.type "tuple") = some (isD "tuple" d) := by
  cases d with
  | none => exact (show PySem.W.kitOne K (.type "NoneType") (.type "tuple") = some false from kit_ty (by decide +kernel))
  | bool _ => exact (show PySem.W.kitOne K (.type "bool") (.type "tuple") = some false from kit_ty (by decide +kernel))
  | int _ => exact (show PySem.W.kitOne K (.type "int") (.type "tuple") = some false from kit_ty (by decide +kernel))
  | str _ => exact (show PySem.W.kitOne K (.type "str") (.type "tuple") = some false from kit_ty (by decide +kernel))
  | list _ => exact (show PySem.W.kitOne K (.type "list") (.type "tuple") = some false from kit_ty (by decide +kernel))
  | tuple _ => exact (show PySem.W.kitOne K (.type "tuple") (.type "tuple") = some true from kit_ty (by decide +kernel))
  | dict _ => exact (show PySem.W.kitOne K (.type "dict") (.type "tuple") = some false from kit_ty (by decide +kernel))
/-- the answer to isinstance(x, T) of data -/
theorem isi_ans {K : PySem.W.Frag} {H : Hp} {Q : VK} {v : V} {d : PyData} {n : String} (h : Dp K H v d) (k : PySem.W.kitOne K (.type (tyD d)) (.type n) = some (isD n d)) (q : Q (.bl (isD n d)) H) : rIsi K [v, .ty n] H Q :=
  ⟨v, .ty n, _, _, _, rfl, .ty n, tyX_of h, k, q⟩
/-! ### defs and methods by their promises -/
structure Fn (P : Program) (w : World) (K : PySem.W.Frag) (mg : Str → Option Value) (base : Heap) (x : Str) (k : Nat) (sp : Sp) : Prop where
  ex : ∃ f, GloF K mg x f ∧ FnR P w K mg base (L2.CX P w) k f sp
structure Me (P : Program) (w : World) (K : PySem.W.Frag) (mg : Str → Option Value) (base : Heap) (C : Addr) (m : Str) (k : Nat) (sp : Sp) : Prop where
  ex : ∃ f, Meth K C m f ∧ FnR P w K mg base (L2.CX P w) k f sp
/-- a def of the top, as the head leaves it -/
def FnD (K : PySem.W.Frag) (mg : Str → Option Value) (x : Str) (st : Stmt) (dvs : List V) (kws : List (Str × V)) : Prop := ∃ f fd, FunD K x x (defArgs st) (defBody st) (defScope st) dvs kws f fd ∧ mg x = some (.ref f)
/-- a method of the class at C -/
def MeD (K : PySem.W.Frag) (C : Addr) (m qual : Str) (st : Stmt) (kws : List (Str × V)) : Prop := ∃ f fd, FunD K m qual (defArgs st) (defBody st) (defScope st) [] kws f fd ∧ Meth K C m f
section
variable {P : Program} {w : World} {K : PySem.W.Frag} {mg : Str → Option Value} {base : Heap} {x qual m : Str} {st : Stmt} {kws : List (Str × V)} {N ps : List Str} {k : Nat} {sp : Sp} {C : Addr}
theorem FnD.fn (D : FnD K mg x st [] kws) (S : FnScope N ps (defScope st))
    (h : ∀ (kV doc pm : Value) (an : Option Addr) (cdv ct : Value) (us : List Value), us.length = ps.length → bindArgs (PySem.W.fnOf x x (defArgs st) (defBody st) (defScope st) .none kV doc pm an cdv ct) ⟨us, []⟩ = pure (ps.zip us))
    (len : ∀ vs H Q E, sp vs H Q E → vs.length = ps.length)
    (hbody : ∀ (f : Addr) (cdv : Value) (A : Around) (outer : List Env) (s : Shared) (H : Hp) (vs : List V) (Q : VK) (E : XK), Room k (A.deeper (envOfC x (defScope st) s.heap.objs.size f cdv)) → sp vs H Q E →
      ∃ t, PSs (cxOf (L2.CX P w) P w K mg base N x (defScope st) f cdv A outer s H E) (defBody st) t ∧ t { nx := fun _ H' => Q .non H', rt := Q } (start N vs) H) : Fn P w K mg base x (k + 1) sp := by
  obtain ⟨f, fd, F, hm⟩ := D
  have ok := F.ok (CX := L2.CX P w) (P := P) (w := w) (mg := mg) (base := base) S len (hbody f)
  have r := ok.raw (F.bindsN h) .nil
  exact ⟨f, ⟨hm, F.kp⟩, r.imp fun vs H Q E q => by rw [List.append_nil]; exact q⟩
theorem MeD.me (D : MeD K C m qual st kws) (S : FnScope N ps (defScope st))
    (h : ∀ (kV doc pm : Value) (an : Option Addr) (cdv ct : Value) (us : List Value), us.length = ps.length → bindArgs (PySem.W.fnOf m qual (defArgs st) (defBody st) (defScope st) .none kV doc pm an cdv ct) ⟨us, []⟩ = pure (ps.zip us))
    (len : ∀ vs H Q E, sp vs H Q E → vs.length = ps.length)
    (hbody : ∀ (f : Addr) (cdv : Value) (A : Around) (outer : List Env) (s : Shared) (H : Hp) (vs : List V) (Q : VK) (E : XK), Room k (A.deeper (envOfC qual (defScope st) s.heap.objs.size f cdv)) → sp vs H Q E →
      ∃ t, PSs (cxOf (L2.CX P w) P w K mg base N qual (defScope st) f cdv A outer s H E) (defBody st) t ∧ t { nx := fun _ H' => Q .non H', rt := Q } (start N vs) H) : Me P w K mg base C m (k + 1) sp := by
  obtain ⟨f, fd, F, hm⟩ := D
  have ok := F.ok (CX := L2.CX P w) (P := P) (w := w) (mg := mg) (base := base) S len (hbody f)
  have r := ok.raw (F.bindsN h) .nil
  exact ⟨f, hm, r.imp fun vs H Q E q => by rw [List.append_nil]; exact q⟩
end
section
variable {X : Cx} {k j : Nat} {C : Addr} {sp : Sp} {E : XK} {x m : Str} {p pos apos : Pos} {e o : Expr} {es : List Expr} {ta : TE} {t : TA}
/-- f(e, ..), that raises nothing -/
theorem c0 (F : Fn X.prog X.w X.K X.mg X.base x k sp) (hr : Room j X.A) (ha : PA X (e :: es) t) (hk : k ≤ j := by decide) (hg : Gl X x := by rfl)
    (hdb : (x == ("__debug__" : Str)) = false := by decide) (he : starEach (e :: es) X.env = (false, eval e X.env) :: starEach es X.env := by rfl) (hpl : (backTo pos (starEach es X.env)).any (·.1) = false := by rfl) :
    PE X (.Call (.Name x p) (e :: es) [] pos) (tCR sp E0 t) := by
  obtain ⟨f, g, R⟩ := F.ex
  exact cR R hr g passL ha hk hg hdb he hpl
/-- .. that may raise what the def may let out -/
theorem cE (F : Fn X.prog X.w X.K X.mg X.base x k sp) (hr : Room j X.A) (hx : Passes (L2.CX X.prog X.w) X E) (ha : PA X (e :: es) t) (hk : k ≤ j := by decide) (hg : Gl X x := by rfl)
    (hdb : (x == ("__debug__" : Str)) = false := by decide) (he : starEach (e :: es) X.env = (false, eval e X.env) :: starEach es X.env := by rfl) (hpl : (backTo pos (starEach es X.env)).any (·.1) = false := by rfl) :
    PE X (.Call (.Name x p) (e :: es) [] pos) (tCR sp E t) := by
  obtain ⟨f, g, R⟩ := F.ex
  exact cR R hr g hx ha hk hg hdb he hpl
theorem mE {pl : Sem Bool} (F : Me X.prog X.w X.K X.mg X.base C m k sp) (hr : Room j X.A) (c : Cls X.K C) (hx : Passes (L2.CX X.prog X.w) X E) (he : PE X o ta) (ha : PA X (e :: es) t) (hk : k ≤ j := by decide)
    (hst : starEach (e :: es) X.env = (false, eval e X.env) :: starEach es X.env := by rfl) (hpl : (backTo pos (starEach es X.env)).any (·.1) = false := by rfl)
    (ht : eval (.Call (.Attribute o m apos) (e :: es) [] pos) X.env = (do
      let ov ← eval o X.env
      standAt apos.atName
      let (f, first) ← holding [ov] (getMethod ov m pl)
      callWith pos f first (backTo pos (starEach (e :: es) X.env)) (backToKw pos (keywordEach [] X.env))) := by rfl) :
    PE X (.Call (.Attribute o m apos) (e :: es) [] pos) (tMethR C m sp E ta t) := by
  obtain ⟨f, g, R⟩ := F.ex
  exact mR (pl := pl) R hr c g hx he ha hk hst hpl ht
theorem mE0 {pl : Sem Bool} (F : Me X.prog X.w X.K X.mg X.base C m k sp) (hr : Room j X.A) (c : Cls X.K C) (hx : Passes (L2.CX X.prog X.w) X E) (he : PE X o ta) (hk : k ≤ j := by decide)
    (ht : eval (.Call (.Attribute o m apos) [] [] pos) X.env = (do
      let ov ← eval o X.env
      standAt apos.atName
      let (f, first) ← holding [ov] (getMethod ov m pl)
      callWith pos f first (backTo pos (starEach [] X.env)) (backToKw pos (keywordEach [] X.env))) := by rfl) :
    PE X (.Call (.Attribute o m apos) [] [] pos) (tMR0 C m sp E ta) := by
  obtain ⟨f, g, R⟩ := F.ex
  exact mR0 (pl := pl) R hr c g hx he hk ht
end
end K75
set_option maxHeartbeats 2000000
/-! ### comprehensions and loops by one invariant -/
namespace K75
open PySem PySem.Spec PyProof.Rows L2
/-- what a turn leaves: the things at A changed, nothing else; they are there -/
structure Stp (A : List Addr) (H H' : Hp) : Prop where
  sb : SB A H H'
  ok : ∀ a ∈ A, H' a ≠ none
theorem Stp.refl {A M : List Addr} {H : Hp} (m : Mok M H) (h : ∀ a ∈ A, a ∈ M) : Stp A H H := ⟨SB.refl _ _, fun a q => m a (h a q)⟩
theorem Stp.nil {H H' : Hp} (s : Same H H') : Stp [] H H' := ⟨sb_same s _, by simp⟩
theorem Stp.of_same {A M : List Addr} {H H' : Hp} (s : Same H H') (m : Mok M H) (h : ∀ a ∈ A, a ∈ M) : Stp A H H' := ⟨sb_same s _, fun a q => (m.same s) a (h a q)⟩
theorem Stp.trans {A : List Addr} {H H1 H2 : Hp} (a : Stp A H H1) (b : Stp A H1 H2) : Stp A H H2 := ⟨a.sb.trans b.sb, b.ok⟩
theorem Stp.mok {A M : List Addr} {H H' : Hp} (s : Stp A H H') (m : Mok M H) : Mok M H' := m.sb s.sb s.ok
theorem Stp.same {H H' : Hp} (s : Stp [] H H') : Same H H' := same_sb s.sb
/-- the invariant of a comprehension: D the new list, what is made so far acc; R: what is known of it after i items -/
structure LcI (A M : List Addr) (D : Addr) (H1 : Hp) (R : Nat → List V → Hp → Prop) (i : Nat) (H : Hp) : Prop where
  stp : Stp A H1 H
  mok : Mok (D :: M) H
  ex : ∃ acc, H D = some (.lst acc) ∧ acc.length ≤ i ∧ R i acc (fr (D :: M) H)
section
variable {A M : List Addr} {D : Addr} {H1 H H2 H4 : Hp} {R : Nat → List V → Hp → Prop} {i : Nat} {K : PySem.W.Frag}
theorem fr_cons (n : H1 D = none) : Le (fr M H1) (fr (D :: M) H1) := Le.of fun a o q => by
  obtain ⟨q, m⟩ := fr_some q
  refine fr_of q ?_
  rw [List.mem_cons]
  rintro (rfl | z)
  · rw [n] at q; cases q
  · exact m z
theorem fr_sub (D : Addr) (M : List Addr) (H : Hp) : Le (fr (D :: M) H) (fr M H) := Le.of fun a o q => by
  obtain ⟨q, m⟩ := fr_some q
  exact fr_of q fun z => m (List.mem_cons_of_mem _ z)
theorem LcI.le (p : LcI A M D H1 R i H) (hA : ∀ a ∈ A, a ∈ M) (n : H1 D = none) : Le (fr M H1) (fr (D :: M) H) :=
  (fr_cons n).trans (sb_le p.stp.sb fun a q => List.mem_cons_of_mem _ (hA a q))
theorem LcI.start (m : Mok M H1) (hA : ∀ a ∈ A, a ∈ M) (n : H1 D = none) (h : R 0 [] (fr (D :: M) (upd H1 D (.lst [])))) : LcI A M D H1 R 0 (upd H1 D (.lst [])) :=
  ⟨.of_same (same_new n) m hA, fun a q => by
    rcases List.mem_cons.mp q with rfl | q
    · rw [upd_same]; simp
    · exact (m.same (same_new n)) a q, [], upd_same, Nat.le_refl _, h⟩
theorem fr_upd (D : Addr) (M : List Addr) (H : Hp) (o : HO) : fr (D :: M) (upd H D o) = fr (D :: M) H := by
  funext a
  unfold fr
  by_cases h : a ∈ D :: M
  · rw [if_pos h, if_pos h]
  · rw [if_neg h, if_neg h, upd_ne fun z => h (by rw [z]; exact List.mem_cons_self)]
/-- an item is put behind -/
theorem LcI.step (p : LcI A M D H1 R i H) (hA : ∀ a ∈ A, a ∈ M) (n : H1 D = none) (m : Mok M H1) (s : Stp A H H4) (hi : i < sizeLine) {v : V} (r : ∀ acc, H D = some (.lst acc) → R i acc (fr (D :: M) H) → R (i + 1) (acc ++ [v]) (fr (D :: M) H4)) :
    ∃ acc, H4 D = some (.lst acc) ∧ acc.length < sizeLine ∧ LcI A M D H1 R (i + 1) (upd H4 D (.lst (acc ++ [v]))) := by
  obtain ⟨acc, hD, hl, h⟩ := p.ex
  have nA : D ∉ A := fun z => (m.new n) (hA D z)
  have hD4 : H4 D = some (.lst acc) := s.sb D _ nA hD
  refine ⟨acc, hD4, by omega, ⟨⟨?_, ?_⟩, ?_, acc ++ [v], upd_same, by rw [List.length_append]; simp; omega, ?_⟩⟩
  · intro a o q z
    have z4 := (p.stp.trans s).sb a o q z
    rw [upd_ne (ne_of_none z n)]
    exact z4
  · intro a q
    have := s.ok a q
    rw [upd_ne fun z => nA (by rw [← z]; exact q)]
    exact this
  · intro a q
    by_cases e : a = D
    · rw [e, upd_same]; simp
    · rw [upd_ne e]
      exact (s.mok p.mok) a q
  · rw [fr_upd]
    exact r acc hD h
/-- an item is left out -/
theorem LcI.skip (p : LcI A M D H1 R i H) (hA : ∀ a ∈ A, a ∈ M) (n : H1 D = none) (m : Mok M H1) (s : Stp A H H4) (r : ∀ acc, H D = some (.lst acc) → R i acc (fr (D :: M) H) → R (i + 1) acc (fr (D :: M) H4)) : LcI A M D H1 R (i + 1) H4 := by
  obtain ⟨acc, hD, hl, h⟩ := p.ex
  have nA : D ∉ A := fun z => (m.new n) (hA D z)
  exact ⟨p.stp.trans s, s.mok p.mok, acc, s.sb D _ nA hD, by omega, r acc hD h⟩
end
section
variable {K : PySem.W.Frag} {g : TG} {tt : TT} {te : TE} {vs : List Nat} {σ : L2.St} {H1 : Hp} {D : Addr} {Qd : Hp → Prop}
/-- a comprehension over the keys of a locked dict -/
theorem lc_keys {d : Addr} {o : Obj} {kvs : List (Key × V)} (Pv : Nat → Hp → Prop) (h0 : Pv 0 (upd H1 D (.lst []))) (hl : ∀ i H, i ≤ kvs.length → Pv i H → H d = some (.frz o (.dK kvs)))
    (hs : ∀ i k v H, kvs[i]? = some (k, v) → Pv i H → g (kV k) (wipe σ vs) H fun σ2 H2 => wipe σ2 vs = wipe σ vs ∧ tt σ2 H2 fun b H3 =>
      if b = true then te σ2 H3 fun y H4 => ∃ acc, H4 D = some (.lst acc) ∧ acc.length < sizeLine ∧ Pv (i + 1) (upd H4 D (.lst (acc ++ [y]))) else Pv (i + 1) H3) (hd : ∀ H, Pv kvs.length H → Qd H) :
    ∃ W : Nat → Nat → Hp → Prop, (∃ m, W 0 m (upd H1 D (.lst []))) ∧ ∀ i m H, W i m H →
      ((Itk d o kvs).stop i H ∧ Qd H) ∨ ((Itk d o kvs).go i H ∧ ∃ Nx : Hp → Prop, (∀ H', Nx H' → ∃ m', m' < m ∧ W (i + 1) m' H') ∧ ∀ x H', (Itk d o kvs).yld i H x H' → g x (wipe σ vs) H' fun σ2 H2 => wipe σ2 vs = wipe σ vs ∧ tt σ2 H2 fun b H3 =>
        if b = true then te σ2 H3 fun y H4 => ∃ acc, H4 D = some (.lst acc) ∧ acc.length < sizeLine ∧ Nx (upd H4 D (.lst (acc ++ [y]))) else Nx H3) := by
  refine ⟨fun i m H => m = kvs.length - i ∧ i ≤ kvs.length ∧ Pv i H, ⟨kvs.length, by simp, Nat.zero_le _, h0⟩, ?_⟩
  rintro i m H ⟨rfl, hi, p⟩
  have q := hl i H hi p
  by_cases hlt : i < kvs.length
  · refine .inr ⟨⟨q, hlt⟩, Pv (i + 1), fun H' p' => ⟨kvs.length - (i + 1), by omega, rfl, hlt, p'⟩, fun x H' y => ?_⟩
    obtain ⟨rfl, k, v, e, rfl⟩ := y
    exact hs i k v _ e p
  · have e : i = kvs.length := by omega
    subst e
    exact .inl ⟨⟨q, Nat.le_refl _⟩, hd H p⟩
/-- .. over zip of two tuples of one length less -/
theorem lc_zipT {a b : Addr} {xs ys : List V} (n : Nat) (hn : n = min xs.length ys.length) (Pv : Nat → Hp → Prop) (h0 : Pv 0 (upd H1 D (.lst []))) (hl : ∀ i H, Pv i H → SqT K H a xs ∧ SqT K H b ys)
    (hs : ∀ i x y T H, xs[i]? = some x → ys[i]? = some y → Pv i H → H T = none → g (.ref T) (wipe σ vs) (upd H T (.tup [x, y])) fun σ2 H2 => wipe σ2 vs = wipe σ vs ∧ tt σ2 H2 fun b H3 =>
      if b = true then te σ2 H3 fun y H4 => ∃ acc, H4 D = some (.lst acc) ∧ acc.length < sizeLine ∧ Pv (i + 1) (upd H4 D (.lst (acc ++ [y]))) else Pv (i + 1) H3) (hd : ∀ H, Pv n H → Qd H) :
    ∃ W : Nat → Nat → Hp → Prop, (∃ m, W 0 m (upd H1 D (.lst []))) ∧ ∀ i m H, W i m H →
      ((RZ.ItzT K a b).stop i H ∧ Qd H) ∨ ((RZ.ItzT K a b).go i H ∧ ∃ Nx : Hp → Prop, (∀ H', Nx H' → ∃ m', m' < m ∧ W (i + 1) m' H') ∧ ∀ x H', (RZ.ItzT K a b).yld i H x H' → g x (wipe σ vs) H' fun σ2 H2 => wipe σ2 vs = wipe σ vs ∧ tt σ2 H2 fun b H3 =>
        if b = true then te σ2 H3 fun y H4 => ∃ acc, H4 D = some (.lst acc) ∧ acc.length < sizeLine ∧ Nx (upd H4 D (.lst (acc ++ [y]))) else Nx H3) := by
  refine ⟨fun i m H => m = n - i ∧ i ≤ n ∧ Pv i H, ⟨n, by simp, Nat.zero_le _, h0⟩, ?_⟩
  rintro i m H ⟨rfl, hi, p⟩
  obtain ⟨qx, qy⟩ := hl i H p
  by_cases hlt : i < n
  · have hx : xs[i]? = some xs[i] := List.getElem?_eq_getElem (by omega)
    have hy : ys[i]? = some ys[i] := List.getElem?_eq_getElem (by omega)
    refine .inr ⟨⟨xs, ys, _, _, qx, qy, hx, hy⟩, Pv (i + 1), fun H' p' => ⟨n - (i + 1), by omega, rfl, hlt, p'⟩, fun x H' y => ?_⟩
    obtain ⟨T, x', y', rfl, hT, rfl, f1, f2⟩ := y
    exact hs i x' y' T H (f1 xs qx) (f2 ys qy) p hT
  · have e : i = n := by omega
    subst e
    exact .inl ⟨⟨xs, ys, qx, qy, by omega⟩, hd H p⟩
/-- a dict comprehension over the keys of a locked dict -/
theorem dc_keys {tk tv : TE} {d : Addr} {o : Obj} {kvs : List (Key × V)} (Pv : Nat → Hp → Prop) (h0 : Pv 0 (upd H1 D (.dK []))) (hl : ∀ i H, i ≤ kvs.length → Pv i H → H d = some (.frz o (.dK kvs)))
    (hs : ∀ i k v H, kvs[i]? = some (k, v) → Pv i H → g (kV k) (wipe σ vs) H fun σ2 H2 => wipe σ2 vs = wipe σ vs ∧ tt σ2 H2 fun b H3 =>
      if b = true then tk σ2 H3 fun y H4 => tv σ2 H4 fun z H5 => ∃ kvs k, y = kV k ∧ H5 D = some (.dK kvs) ∧ kvs.length < sizeLine ∧ Pv (i + 1) (upd H5 D (.dK (putK kvs k z))) else Pv (i + 1) H3) (hd : ∀ H, Pv kvs.length H → Qd H) :
    ∃ W : Nat → Nat → Hp → Prop, (∃ m, W 0 m (upd H1 D (.dK []))) ∧ ∀ i m H, W i m H →
      ((Itk d o kvs).stop i H ∧ Qd H) ∨ ((Itk d o kvs).go i H ∧ ∃ Nx : Hp → Prop, (∀ H', Nx H' → ∃ m', m' < m ∧ W (i + 1) m' H') ∧ ∀ x H', (Itk d o kvs).yld i H x H' → g x (wipe σ vs) H' fun σ2 H2 => wipe σ2 vs = wipe σ vs ∧ tt σ2 H2 fun b H3 =>
        if b = true then tk σ2 H3 fun y H4 => tv σ2 H4 fun z H5 => ∃ kvs k, y = kV k ∧ H5 D = some (.dK kvs) ∧ kvs.length < sizeLine ∧ Nx (upd H5 D (.dK (putK kvs k z))) else Nx H3) := by
  refine ⟨fun i m H => m = kvs.length - i ∧ i ≤ kvs.length ∧ Pv i H, ⟨kvs.length, by simp, Nat.zero_le _, h0⟩, ?_⟩
  rintro i m H ⟨rfl, hi, p⟩
  have q := hl i H hi p
  by_cases hlt : i < kvs.length
  · refine .inr ⟨⟨q, hlt⟩, Pv (i + 1), fun H' p' => ⟨kvs.length - (i + 1), by omega, rfl, hlt, p'⟩, fun x H' y => ?_⟩
    obtain ⟨rfl, k, v, e, rfl⟩ := y
    exact hs i k v _ e p
  · have e : i = kvs.length := by omega
    subst e
    exact .inl ⟨⟨q, Nat.le_refl _⟩, hd H p⟩
/-- a loop over the keys of a locked dict -/
theorem for_keys {tb : TS} {De : Ends} {H : Hp} {d : Addr} {o : Obj} {kvs : List (Key × V)} (Pv : Nat → L2.St → Hp → Prop) (h0 : Pv 0 σ H) (hl : ∀ i σ H, i ≤ kvs.length → Pv i σ H → H d = some (.frz o (.dK kvs)))
    (hs : ∀ i k v σ H, kvs[i]? = some (k, v) → Pv i σ H → g (kV k) σ H fun σ2 H2 => tb { De with nx := Pv (i + 1), ct := Pv (i + 1), bk := De.nx } σ2 H2) (hd : ∀ σ H, Pv kvs.length σ H → De.nx σ H) :
    ∃ W : Nat → Nat → L2.St → Hp → Prop, (∃ m, W 0 m σ H) ∧ ∀ i m σ H, W i m σ H →
      ((Itk d o kvs).stop i H ∧ De.nx σ H) ∨ ((Itk d o kvs).go i H ∧ ∃ N : L2.St → Hp → Prop, (∀ σ' H', N σ' H' → ∃ m', m' < m ∧ W (i + 1) m' σ' H') ∧ ∀ x H', (Itk d o kvs).yld i H x H' → g x σ H' fun σ2 H2 => tb { De with nx := N, ct := N, bk := De.nx } σ2 H2) := by
  refine ⟨fun i m σ H => m = kvs.length - i ∧ i ≤ kvs.length ∧ Pv i σ H, ⟨kvs.length, by simp, Nat.zero_le _, h0⟩, ?_⟩
  rintro i m σ H ⟨rfl, hi, p⟩
  have q := hl i σ H hi p
  by_cases hlt : i < kvs.length
  · refine .inr ⟨⟨q, hlt⟩, Pv (i + 1), fun σ' H' p' => ⟨kvs.length - (i + 1), by omega, rfl, hlt, p'⟩, fun x H' y => ?_⟩
    obtain ⟨rfl, k, v, e, rfl⟩ := y
    exact hs i k v σ _ e p
  · have e : i = kvs.length := by omega
    subst e
    exact .inl ⟨⟨q, Nat.le_refl _⟩, hd σ H p⟩
end
/-- a filter over items, told of the results -/
def Filt {α : Type} (xs : List α) (p : α → Bool) (f : α → V) : Nat → List V → Hp → Prop := fun i acc _ => acc = ((xs.take i).filter p).map f
theorem take_succ_of {α : Type} {xs : List α} {i : Nat} {x : α} (h : xs[i]? = some x) : xs.take (i + 1) = xs.take i ++ [x] := by
  rw [List.take_succ, h]
  rfl
theorem Filt.yes {α : Type} {xs : List α} {p : α → Bool} {f : α → V} {i : Nat} {x : α} {acc : List V} {F G : Hp} (h : xs[i]? = some x) (c : p x = true) (r : Filt xs p f i acc F) : Filt xs p f (i + 1) (acc ++ [f x]) G := by
  unfold Filt at *
  rw [take_succ_of h, List.filter_append, List.map_append, ← r]
  simp [c]
theorem Filt.no {α : Type} {xs : List α} {p : α → Bool} {f : α → V} {i : Nat} {x : α} {acc : List V} {F G : Hp} (h : xs[i]? = some x) (c : p x = false) (r : Filt xs p f i acc F) : Filt xs p f (i + 1) acc G := by
  unfold Filt at *
  rw [take_succ_of h, List.filter_append, List.map_append, ← r]
  simp [c]
theorem Filt.zero {α : Type} {xs : List α} {p : α → Bool} {f : α → V} {F : Hp} : Filt xs p f 0 [] F := rfl
theorem Filt.all {α : Type} {xs : List α} {p : α → Bool} {f : α → V} {acc : List V} {F : Hp} (r : Filt xs p f xs.length acc F) : acc = (xs.filter p).map f := by
  unfold Filt at r
  rw [r, List.take_length]
/-- each item gives one -/
def Mapd {α : Type} (xs : List α) (f : α → V) : Nat → List V → Hp → Prop := fun i acc _ => acc = (xs.take i).map f
theorem Mapd.yes {α : Type} {xs : List α} {f : α → V} {i : Nat} {x : α} {acc : List V} {F G : Hp} (h : xs[i]? = some x) (r : Mapd xs f i acc F) : Mapd xs f (i + 1) (acc ++ [f x]) G := by
  unfold Mapd at *
  rw [take_succ_of h, List.map_append, ← r]
  rfl
theorem Mapd.zero {α : Type} {xs : List α} {f : α → V} {F : Hp} : Mapd xs f 0 [] F := rfl
theorem Mapd.all {α : Type} {xs : List α} {f : α → V} {acc : List V} {F : Hp} (r : Mapd xs f xs.length acc F) : acc = xs.map f := by
  unfold Mapd at r
  rw [r, List.take_length]
end K75
set_option maxHeartbeats 2000000
/-! ### sorted lists, pairs -/
namespace K75
open PySem PySem.Spec PyProof.Rows L2
theorem strict_eq : ∀ {a b : List Int}, a.Pairwise (· < ·) → b.Pairwise (· < ·) → (∀ k, k ∈ a ↔ k ∈ b) → a = b
  | [], [], _, _, _ => rfl
  | [], y :: b, _, _, h => absurd ((h y).mpr List.mem_cons_self) (by simp)
  | x :: a, [], _, _, h => absurd ((h x).mp List.mem_cons_self) (by simp)
  | x :: a, y :: b, ha, hb, h => by
    obtain ⟨ha1, ha2⟩ := List.pairwise_cons.mp ha
    obtain ⟨hb1, hb2⟩ := List.pairwise_cons.mp hb
    have e : x = y := by
      have h1 := (h x).mp List.mem_cons_self
      have h2 := (h y).mpr List.mem_cons_self
      rcases List.mem_cons.mp h1 with h1 | h1
      · exact h1
      · rcases List.mem_cons.mp h2 with h2 | h2
        · exact h2.symm
        · have := ha1 y h2
          have := hb1 x h1
          omega
    subst e
    rw [strict_eq ha2 hb2 fun k => ?_]
    constructor
    · intro hk
      rcases List.mem_cons.mp ((h k).mp (List.mem_cons_of_mem _ hk)) with z | z
      · have := ha1 k hk
        omega
      · exact z
    · intro hk
      rcases List.mem_cons.mp ((h k).mpr (List.mem_cons_of_mem _ hk)) with z | z
      · have := hb1 k hk
        omega
      · exact z
def pairD (p : Int × Int) : PyData := .tuple [.int p.1, .int p.2]
/-- the order of pairs -/
def plt (p q : Int × Int) : Prop := p.1 < q.1 ∨ (p.1 = q.1 ∧ p.2 < q.2)
def small (p : Int × Int) : Prop := -9 ≤ p.1 ∧ p.1 ≤ 9 ∧ -9 ≤ p.2 ∧ p.2 ≤ 9
def pcod (p : Int × Int) : Int := (p.1 + 32) * 64 + (p.2 + 32)
theorem pcod_lt {p q : Int × Int} (hp : small p) (hq : small q) (h : plt p q) : pcod p < pcod q := by
  obtain ⟨p1, p2⟩ := p
  obtain ⟨q1, q2⟩ := q
  simp only [small, plt, pcod] at *
  omega
theorem pcod_inj {p q : Int × Int} (hp : small p) (hq : small q) (h : pcod p = pcod q) : p = q := by
  obtain ⟨p1, p2⟩ := p
  obtain ⟨q1, q2⟩ := q
  simp only [small, pcod, Prod.mk.injEq] at *
  omega
theorem map_inj_on {α : Type} {f : α → Int} : ∀ {a b : List α}, (∀ x ∈ a, ∀ y ∈ b, f x = f y → x = y) → a.map f = b.map f → a = b
  | [], [], _, _ => rfl
  | [], _ :: _, _, h => by cases h
  | _ :: _, [], _, h => by cases h
  | x :: a, y :: b, hi, h => by
    simp only [List.map_cons, List.cons.injEq] at h
    rw [hi x List.mem_cons_self y List.mem_cons_self h.1, map_inj_on (fun u hu v hv => hi u (List.mem_cons_of_mem _ hu) v (List.mem_cons_of_mem _ hv)) h.2]
theorem pairs_eq {a b : List (Int × Int)} (sa : ∀ p ∈ a, small p) (sb : ∀ p ∈ b, small p) (ha : a.Pairwise plt) (hb : b.Pairwise fun p q => pcod p < pcod q) (h : ∀ k, k ∈ a ↔ k ∈ b) : a = b := by
  refine map_inj_on (f := pcod) (fun x hx y hy e => pcod_inj (sa x hx) (sb y hy) e) (strict_eq ?_ ?_ fun k => ?_)
  · refine List.pairwise_map.mpr (List.Pairwise.imp_of_mem (fun {x y} hx hy h => pcod_lt (sa x hx) (sa y hy) h) ha)
  · exact List.pairwise_map.mpr hb
  · constructor
    · intro hk
      obtain ⟨x, hx, rfl⟩ := List.mem_map.mp hk
      exact List.mem_map.mpr ⟨x, (h x).mp hx, rfl⟩
    · intro hk
      obtain ⟨x, hx, rfl⟩ := List.mem_map.mp hk
      exact List.mem_map.mpr ⟨x, (h x).mpr hx, rfl⟩
def lst2 (p : Int × Int) : List Int := [p.1, p.2]
theorem lst2_inj {p q : Int × Int} (h : lst2 p = lst2 q) : p = q := by
  simp only [lst2, List.cons.injEq, and_true] at h
  exact Prod.ext h.1 h.2
/-- a list of pairs' tuples: their addresses -/
theorem dp_pairs {K : PySem.W.Frag} {F : Hp} : ∀ {ps : List (Int × Int)} {xs : List V}, DpAll K F xs (ps.map pairD) → ∃ ks : List (Addr × List Int), xs = ks.map (fun p => V.ref p.1) ∧ (∀ p ∈ ks, SqT K F p.1 (p.2.map V.int)) ∧ ks.map (·.2) = ps.map lst2
  | [], _, .nil => ⟨[], rfl, by simp, rfl⟩
  | q :: ps, _, .cons h r => by
    obtain ⟨ks, rfl, h1, h2⟩ := dp_pairs r
    cases h with
    | @tup a ys _ hs hy =>
      have e : ys = [V.int q.1, V.int q.2] := by
        cases hy with
        | cons x1 r1 =>
          cases x1
          cases r1 with
          | cons x2 r2 =>
            cases x2
            cases r2
            rfl
      subst e
      refine ⟨(a, lst2 q) :: ks, rfl, fun p hp => ?_, by simp [h2]⟩
      rcases List.mem_cons.mp hp with rfl | hp
      · exact hs
      · exact h1 p hp
theorem dp_of_pairs {K : PySem.W.Frag} {F : Hp} : ∀ {ps : List (Int × Int)} {ks : List (Addr × List Int)}, (∀ p ∈ ks, SqT K F p.1 (p.2.map V.int)) → ks.map (·.2) = ps.map lst2 → DpAll K F (ks.map fun p => V.ref p.1) (ps.map pairD)
  | [], [], _, _ => .nil
  | [], _ :: _, _, h => by cases h
  | _ :: _, [], _, h => by cases h
  | q :: ps, k :: ks, h, e => by
    simp only [List.map_cons, List.cons.injEq] at e
    refine .cons (.tup (h k List.mem_cons_self) ?_) (dp_of_pairs (fun p hp => h p (List.mem_cons_of_mem _ hp)) e.2)
    rw [e.1]
    exact .cons (.int _) (.cons (.int _) .nil)
theorem sqL_len {K : PySem.W.Frag} {F : Hp} {xs : List V} {ds : List PyData} (h : DpAll K F xs ds) : xs.length = ds.length := by
  induction xs generalizing ds with
  | nil => cases h; rfl
  | cons x xs ih =>
    cases h with
    | cons h r => simp [ih r]
theorem cod_lst2 (p : Int × Int) : K75S.cod (lst2 p) = pcod p := K75S.cod_pair p.1 p.2
/-- the answer of sorted(set(..)) of pairs -/
theorem sorted_pairs {ps : List (Int × Int)} (sp : ∀ p ∈ ps, small p) (hp : ps.Pairwise plt) {ks L L' : List (Addr × List Int)} (hk : ks.map (·.2) = ps.map lst2) (h1 : ∀ p ∈ L, p ∈ ks) (h2 : ∀ p ∈ ks, p.2 ∈ L.map (·.2))
    (pm : L'.Perm L) (nd : (L'.map (·.2)).Nodup) (pw : L'.Pairwise (fun q r => K75S.cod q.2 ≤ K75S.cod r.2)) : L'.map (·.2) = ps.map lst2 := by
  have mem : ∀ p ∈ L', ∃ q ∈ ps, p.2 = lst2 q := fun p hp => by
    have : p.2 ∈ ks.map (·.2) := List.mem_map.mpr ⟨p, h1 p (pm.mem_iff.mp hp), rfl⟩
    rw [hk] at this
    obtain ⟨q, hq, e⟩ := List.mem_map.mp this
    exact ⟨q, hq, e.symm⟩
  -- the pairs of L'
  have ex : ∀ l : List (Addr × List Int), (∀ p ∈ l, ∃ q ∈ ps, p.2 = lst2 q) → ∃ qs : List (Int × Int), l.map (·.2) = qs.map lst2 ∧ ∀ q ∈ qs, q ∈ ps := by
    intro l
    induction l with
    | nil => intro _; exact ⟨[], rfl, by simp⟩
    | cons p l ih =>
      intro h
      obtain ⟨q, hq, e⟩ := h p List.mem_cons_self
      obtain ⟨qs, e2, hs⟩ := ih fun x hx => h x (List.mem_cons_of_mem _ hx)
      refine ⟨q :: qs, by simp [e, e2], fun r hr => ?_⟩
      rcases List.mem_cons.mp hr with rfl | hr
      · exact hq
      · exact hs r hr
  obtain ⟨qs, e, hs⟩ := ex L' mem
  have sq : ∀ p ∈ qs, small p := fun p hp => sp p (hs p hp)
  have strict : qs.Pairwise fun p q => pcod p < pcod q := by
    have w1 : (L'.map (·.2)).Pairwise (fun a b => K75S.cod a ≤ K75S.cod b) := List.pairwise_map.mpr pw
    rw [e] at w1 nd
    have w2 := List.pairwise_map.mp w1
    have w3 : qs.Pairwise (fun a b => lst2 a ≠ lst2 b) := List.pairwise_map.mp nd
    refine List.Pairwise.imp_of_mem (fun {x y} hx hy h => ?_) (w2.and w3)
    rw [cod_lst2, cod_lst2] at h
    have := pcod_inj (sq x hx) (sq y hy)
    rcases Int.lt_or_eq_of_le h.1 with z | z
    · exact z
    · exact absurd (congrArg lst2 (this z)) h.2
  have : ps = qs := by
    refine pairs_eq sp sq hp strict fun k => ⟨fun hk1 => ?_, fun h => hs k h⟩
    have m1 : lst2 k ∈ ks.map (·.2) := by rw [hk]; exact List.mem_map.mpr ⟨k, hk1, rfl⟩
    obtain ⟨p, hp1, e1⟩ := List.mem_map.mp m1
    have m2 := h2 p hp1
    have m3 : p.2 ∈ L'.map (·.2) := ((pm.map (·.2)).mem_iff).mpr m2
    rw [e, e1] at m3
    obtain ⟨q, hq, e3⟩ := List.mem_map.mp m3
    rw [← lst2_inj e3]
    exact hq
  rw [e, this]
end K75
set_option maxHeartbeats 2000000
namespace K75
open PySem PySem.Spec PyProof.Rows L2
/-- the built-in names that the text uses are the built-ins -/
structure Blt (mg : Str → Option Value) : Prop where
  isinstance : mg "isinstance" = none
  int : mg "int" = none
  bool : mg "bool" = none
  str : mg "str" = none
  list : mg "list" = none
  tuple : mg "tuple" = none
  set : mg "set" = none
  sorted : mg "sorted" = none
  all : mg "all" = none
  any : mg "any" = none
  max : mg "max" = none
  min : mg "min" = none
  sum : mg "sum" = none
  range : mg "range" = none
  zip : mg "zip" = none
  abs : mg "abs" = none
  dict : mg "dict" = none
  len : mg "len" = none
  repr : mg "repr" = none
/-- a module's constant, an int -/
def CI (mg : Str → Option Value) (x : Str) (n : Int) : Prop := ∃ t, mg x = some (.int n t)
theorem pe_ci {X : Cx} {x : Str} {n : Int} {pos : Pos} (h : CI X.mg x n) (hg : Gl X x := by rfl) (hd : (x == ("__debug__" : Str)) = false := by decide) : PE X (.Name x pos) (tC (.int n)) := by
  obtain ⟨t, h⟩ := h
  exact pe_glob hg h ⟨_, rfl⟩ hd
/-- the module's constants -/
structure Con5 (mg : Str → Option Value) : Prop where
  c_MOST_DIGITS : CI mg "MOST_DIGITS" 6
  c_GREATEST_DIGIT : CI mg "GREATEST_DIGIT" 9
  c_GREATEST_BASE : CI mg "GREATEST_BASE" 6
  c_GREATEST_FACTOR : CI mg "GREATEST_FACTOR" 2
  c_LONGEST_NAME : CI mg "LONGEST_NAME" 8
abbrev s_is_integer : Stmt := top 23
theorem sc_is_integer : FnScope ["value", "low", "high"] ["value", "low", "high"] (defScope s_is_integer) := ⟨rfl, rfl, rfl, by decide +kernel, rfl, by decide +kernel, by decide +kernel⟩
abbrev s_is_base : Stmt := top 24
theorem sc_is_base : FnScope ["value"] ["value"] (defScope s_is_base) := ⟨rfl, rfl, rfl, by decide +kernel, rfl, by decide +kernel, by decide +kernel⟩
abbrev s_is_digit : Stmt := top 25
theorem sc_is_digit : FnScope ["value"] ["value"] (defScope s_is_digit) := ⟨rfl, rfl, rfl, by decide +kernel, rfl, by decide +kernel, by decide +kernel⟩
abbrev s_is_list : Stmt := top 31
theorem sc_is_list : FnScope ["value"] ["value"] (defScope s_is_list) := ⟨rfl, rfl, rfl, by decide +kernel, rfl, by decide +kernel, by decide +kernel⟩
abbrev s_different : Stmt := top 32
theorem sc_different : FnScope ["items"] ["items"] (defScope s_different) := ⟨rfl, rfl, rfl, by decide +kernel, rfl, by decide +kernel, by decide +kernel⟩
abbrev s_is_digit_list : Stmt := top 33
theorem sc_is_digit_list : FnScope ["value", "digits", "least", "item"] ["value", "digits", "least"] (defScope s_is_digit_list) := ⟨rfl, rfl, rfl, by decide +kernel, rfl, by decide +kernel, by decide +kernel⟩
abbrev s_is_pair : Stmt := top 34
theorem sc_is_pair : FnScope ["value", "digits", "item"] ["value", "digits"] (defScope s_is_pair) := ⟨rfl, rfl, rfl, by decide +kernel, rfl, by decide +kernel, by decide +kernel⟩
/-- a list or a tuple -/
def isLT : PyData → Bool
  | .list _ => true
  | .tuple _ => true
  | _ => false
theorem kit_lt {K : PySem.W.Frag} (d : PyData) : PySem.W.kitAny K (.type (tyD d)) [.type "list", .type "tuple"] = some (isLT d) := by
  cases d with
  | list xs => exact kitAny_cons (kit_list (.list xs)) (fun e => nomatch e) (fun _ => rfl)
  | tuple xs => exact kitAny_cons (kit_list (.tuple xs)) (fun _ => kitAny_cons (kit_tuple (.tuple xs)) (fun e => nomatch e) fun _ => rfl) (fun e => nomatch e)
  | none => exact kitAny_cons (kit_list .none) (fun _ => kitAny_cons (kit_tuple .none) (fun _ => rfl) fun e => nomatch e) (fun e => nomatch e)
  | bool b => exact kitAny_cons (kit_list (.bool b)) (fun _ => kitAny_cons (kit_tuple (.bool b)) (fun _ => rfl) fun e => nomatch e) (fun e => nomatch e)
  | int b => exact kitAny_cons (kit_list (.int b)) (fun _ => kitAny_cons (kit_tuple (.int b)) (fun _ => rfl) fun e => nomatch e) (fun e => nomatch e)
  | str b => exact kitAny_cons (kit_list (.str b)) (fun _ => kitAny_cons (kit_tuple (.str b)) (fun _ => rfl) fun e => nomatch e) (fun e => nomatch e)
  | dict b => exact kitAny_cons (kit_list (.dict b)) (fun _ => kitAny_cons (kit_tuple (.dict b)) (fun _ => rfl) fun e => nomatch e) (fun e => nomatch e)
theorem hu64 {k : Nat} {A : Around} (r : Room k A) : A.units + 64 < cLine := by
  have := r.un
  omega
theorem hu65 {k : Nat} {A : Around} (r : Room k A) : A.units + 65 < cLine := by
  have := r.un
  omega
section
variable {P : Program} {w : World} {K : PySem.W.Frag} {mg : Str → Option Value} {base : Heap} (B : Blt mg) (T : Con5 mg)
include B T
/-- an int that is no bool, from lo to hi -/
def isIntD (d : PyData) (lo hi : Int) : Bool := match d with
  | .int i => decide (lo ≤ i) && decide (i ≤ hi)
  | _ => false
def sp_is_integer (K : PySem.W.Frag) : Sp := fun vs H Q _ => ∃ v d lo hi, vs = [v, .int lo, .int hi] ∧ Dp K H v d ∧ Q (.bl (isIntD d lo hi)) H
theorem ok_is_integer (D : FnD K mg "is_integer" s_is_integer [] []) : Fn P w K mg base "is_integer" 1 (sp_is_integer K) := by
  refine D.fn sc_is_integer (fun _ _ _ _ _ _ us hl => match us, hl with | [_, _, _], _ => rfl) (fun vs H Q E h => ?_) (fun f cdv A outer s H vs Q E hr h => ?_)
  · obtain ⟨_, _, _, _, rfl, _⟩ := h
    rfl
  · obtain ⟨v, d, lo, hi, rfl, hd, q⟩ := h
    refine ⟨_, (pss_one (ps_ret (pe_and (pe_callB call_isi (by rfl) B.isinstance (by decide +kernel) (pa_cons (pv 0) (pa_cons (pe_bltn (v := .ty "int") (by rfl) B.int (by decide +kernel) rfl) pa_nil))) (pe_and (pe_not (pe_callB call_isi (by rfl) B.isinstance (by decide +kernel) (pa_cons (pv 0) (pa_cons (pe_bltn (v := .ty "bool") (by rfl) B.bool (by decide +kernel) rfl) pa_nil)))) (pe_one (pe_chain op_le op_le (pv 1) (pv 0) (pv 2))))))), ?_⟩
    refine ⟨v, rfl, v, .ty "int", _, _, _, rfl, .ty _, tyX_of hd, kit_int d, _, rfl, ?_⟩
    cases hd with
    | int i =>
      refine ⟨_, rfl, _, .ty "bool", _, _, _, rfl, .ty _, tyX_of (.int i), kit_bool (.int i), _, rfl, _, rfl, ?_⟩
      refine ⟨_, rfl, _, rfl, _, _, rfl, rfl, _, rfl, ?_⟩
      refine ite2 (fun c => ⟨_, rfl, _, _, rfl, rfl, ?_⟩) fun c => ?_
      · have e : isIntD (.int i) lo hi = decide (i ≤ hi) := by
          show (decide (lo ≤ i) && decide (i ≤ hi)) = _
          rw [c, Bool.true_and]
        rw [e] at q
        exact q
      · have e : isIntD (.int i) lo hi = false := by
          show (decide (lo ≤ i) && decide (i ≤ hi)) = _
          rw [Bool.eq_false_iff.mpr c, Bool.false_and]
        rw [e] at q
        exact q
    | bl b => exact ⟨_, rfl, _, .ty "bool", _, _, _, rfl, .ty _, tyX_of (.bl b), kit_bool (.bool b), _, rfl, _, rfl, q⟩
    | non => exact q
    | str x => exact q
    | lst _ _ => exact q
    | tup _ _ => exact q
def isBase (i : Int) : Bool := (decide (-6 ≤ i) && decide (i ≤ 6)) && decide (1 < (if i < 0 then -i else i))
def sp_is_base : Sp := fun vs H Q _ => ∃ i, vs = [.int i] ∧ Q (.bl (isBase i)) H
theorem ok_is_base (D : FnD K mg "is_base" s_is_base [] []) (F_is_integer : Fn P w K mg base "is_integer" 1 (sp_is_integer K)) : Fn P w K mg base "is_base" 2 sp_is_base := by
  refine D.fn sc_is_base (fun _ _ _ _ _ _ us hl => match us, hl with | [_], _ => rfl) (fun vs H Q E h => ?_) (fun f cdv A outer s H vs Q E hr h => ?_)
  · obtain ⟨_, rfl, _⟩ := h
    rfl
  · obtain ⟨i, rfl, q⟩ := h
    refine ⟨_, (pss_one (ps_ret (pe_and (c0 F_is_integer hr (pa_cons (pv 0) (pa_cons (pe_un un_neg (pe_ci T.c_GREATEST_BASE)) (pa_cons (pe_ci T.c_GREATEST_BASE) pa_nil)))) (pe_one (pe_cmpR op_gt (pe_callB call_abs (by rfl) B.abs (by decide +kernel) (pa_cons (pv 0) pa_nil)) pe_int (nomark _)))))), ?_⟩
    refine ⟨_, rfl, _, rfl, _, .int i, -6, 6, rfl, .int i, _, rfl, ?_⟩
    have e : isIntD (.int i) (-6) 6 = (decide (-6 ≤ i) && decide (i ≤ 6)) := rfl
    refine ite2 (fun c => ⟨_, rfl, _, rfl, _, _, rfl, rfl, ?_⟩) fun c => ?_
    · have e2 : isBase i = decide (1 < (if i < 0 then -i else i)) := by
        unfold isBase
        rw [← e, c, Bool.true_and]
      rw [e2] at q
      exact q
    · have e2 : isBase i = false := by
        unfold isBase
        rw [← e, Bool.eq_false_iff.mpr c, Bool.false_and]
      rw [e2] at q
      exact q
def sp_is_digit (K : PySem.W.Frag) : Sp := fun vs H Q _ => ∃ v d, vs = [v] ∧ Dp K H v d ∧ Q (.bl (isIntD d (-9) 9)) H
theorem ok_is_digit (D : FnD K mg "is_digit" s_is_digit [] []) (F_is_integer : Fn P w K mg base "is_integer" 1 (sp_is_integer K)) : Fn P w K mg base "is_digit" 2 (sp_is_digit K) := by
  refine D.fn sc_is_digit (fun _ _ _ _ _ _ us hl => match us, hl with | [_], _ => rfl) (fun vs H Q E h => ?_) (fun f cdv A outer s H vs Q E hr h => ?_)
  · obtain ⟨_, _, rfl, _⟩ := h
    rfl
  · obtain ⟨v, d, rfl, hd, q⟩ := h
    refine ⟨_, (pss_one (ps_ret (c0 F_is_integer hr (pa_cons (pv 0) (pa_cons (pe_un un_neg (pe_ci T.c_GREATEST_DIGIT)) (pa_cons (pe_ci T.c_GREATEST_DIGIT) pa_nil)))))), ?_⟩
    exact ⟨_, rfl, _, rfl, _, d, -9, 9, rfl, hd, q⟩
def sp_is_list (K : PySem.W.Frag) : Sp := fun vs H Q _ => ∃ v d, vs = [v] ∧ Dp K H v d ∧ ∀ H', Same H H' → Q (.bl (isLT d)) H'
theorem ok_is_list (D : FnD K mg "is_list" s_is_list [] []) : Fn P w K mg base "is_list" 1 (sp_is_list K) := by
  refine D.fn sc_is_list (fun _ _ _ _ _ _ us hl => match us, hl with | [_], _ => rfl) (fun vs H Q E h => ?_) (fun f cdv A outer s H vs Q E hr h => ?_)
  · obtain ⟨_, _, rfl, _⟩ := h
    rfl
  · obtain ⟨v, d, rfl, hd, q⟩ := h
    refine ⟨_, (pss_one (ps_ret (pe_callB call_isiT (by rfl) B.isinstance (by decide +kernel) (pa_cons (pv 0) (pa_cons (pe_tup (pa_cons (pe_bltn (v := .ty "list") (by rfl) B.list (by decide +kernel) rfl) (pa_cons (pe_bltn (v := .ty "tuple") (by rfl) B.tuple (by decide +kernel) rfl) pa_nil))) pa_nil))))), ?_⟩
    refine ⟨_, rfl, by show 2 ≤ sizeLine; decide, fun p np => ?_⟩
    exact ⟨v, p, _, _, _, _, rfl, upd_same, .cons (.ty _) (.cons (.ty _) .nil), tyX_of ((Le.of (same_new np)).dp hd), kit_lt d, q _ (same_new np)⟩
/-- data in strict order: ints, or pairs of small ints -/
def Sorted1 (ds : List PyData) : Prop := (∃ ns : List Int, ds = ns.map PyData.int ∧ ns.Pairwise (· < ·) ∧ ns.length < 60) ∨ ∃ ps : List (Int × Int), ds = ps.map pairD ∧ ps.Pairwise plt ∧ (∀ p ∈ ps, small p) ∧ ps.length < 60
def sp_different (K : PySem.W.Frag) : Sp := fun vs H Q _ => ∃ M l ds, vs = [.ref l] ∧ Mok M H ∧ Dp K (fr M H) (.ref l) (.list ds) ∧ Sorted1 ds ∧
  ∀ H' p, Same H H' → Dp K (fr M H') (.ref p) (.tuple ds) → Q (.ref p) H'
theorem ok_different (D : FnD K mg "different" s_different [] []) : Fn P w K mg base "different" 1 (sp_different K) := by
  refine D.fn sc_different (fun _ _ _ _ _ _ us hl => match us, hl with | [_], _ => rfl) (fun vs H Q E h => ?_) (fun f cdv A outer s H vs Q E hr h => ?_)
  · obtain ⟨_, _, _, rfl, _⟩ := h
    rfl
  · obtain ⟨M, l, ds, rfl, mok, hd, hs, q⟩ := h
    refine ⟨_, (pss_one (ps_ret (pe_callTy call_tuple_of (by rfl) B.tuple (by decide +kernel) (pa_cons (pe_callB (cr_or (cr_sortedSet rfl) (K75S.cr_sortedT rfl)) (by rfl) B.sorted (by decide +kernel) (pa_cons (pe_callTy (cr_or (cr_setOfI rfl) (cr_setOfT rfl (hu64 hr))) (by rfl) B.set (by decide +kernel) (pa_cons (pv 0) pa_nil)) pa_nil)) pa_nil)))), ?_⟩
    cases hd with
    | @lst _ xs _ hl ha =>
      rcases hs with ⟨ns, rfl, hp, hz⟩ | ⟨ps, rfl, hp, hsm, hz⟩
      · have e := of_dp_ints ha
        subst e
        refine ⟨_, rfl, .inl ⟨l, ns, rfl, (fr_le M H).sqL hl, by unfold scanBound; omega, fun a c na hc => ?_⟩⟩
        refine .inl ⟨a, _, c, rfl, upd_same, by omega, fun rs p hr1 hr2 _ np => ?_⟩
        have e : rs = ns := strict_eq hr1 hp fun k => by rw [hr2]; simp
        subst e
        refine ⟨p, _, rfl, .inl ⟨.inl (.inl upd_same), fun t nt => ?_⟩⟩
        have s1 := same_new (o := SetO w a (fun j => decide (j ∈ rs)) c) na
        have s2 := same_new (o := .lst (rs.map V.int)) np
        have s3 := same_new (o := .tup (rs.map V.int)) nt
        exact q _ t ((s1.trans s2).trans s3) (.tup (.inl (.inl (upd_fr nt ((mok.same s1).same s2)))) (dp_ints _))
      · obtain ⟨ks, rfl, h1, h2⟩ := dp_pairs ha
        have hks : ks.length = ps.length := by
          have := congrArg List.length h2
          simpa using this
        refine ⟨_, rfl, .inr ⟨l, ks, rfl, (fr_le M H).sqL hl, fun p hp => (fr_le M H).sqT (h1 p hp), by omega, fun a L na hL1 hL2 => ?_⟩⟩
        have sa : Same H (upd H a (SetTO P w a L)) := same_new na
        refine .inr ⟨a, L, 2, rfl, upd_same, fun p hp => (Le.of sa).sqT ((fr_le M H).sqT (h1 p (hL1 p hp))), by decide, fun p hp => ?_, fun L' p pm nd hl' pw np => ?_⟩
        · have : p.2 ∈ ks.map (·.2) := List.mem_map.mpr ⟨p, hL1 p hp, rfl⟩
          rw [h2] at this
          obtain ⟨q, hq, e⟩ := List.mem_map.mp this
          rw [← e]
          refine ⟨rfl, fun m hm => ?_⟩
          have := hsm q hq
          simp only [small] at this
          simp only [lst2, List.mem_cons, List.not_mem_nil, or_false] at hm
          rcases hm with rfl | rfl <;> omega
        · have e := sorted_pairs hsm hp h2 hL1 hL2 pm nd pw
          refine ⟨p, _, rfl, .inl ⟨.inl (.inl upd_same), fun t nt => ?_⟩⟩
          have s1 : Same H (upd (upd (upd H a (SetTO P w a L)) p (.lst (L'.map fun q => V.ref q.1))) t (.tup (L'.map fun q => V.ref q.1))) := (sa.trans (same_new np)).trans (same_new nt)
          refine q _ t s1 (.tup (.inl (.inl (upd_fr nt ((mok.same sa).same (same_new np))))) (dp_of_pairs (fun x hx => ?_) e))
          exact (same_le s1).sqT (h1 x (hL1 x (pm.mem_iff.mp hx)))
end
end K75
set_option maxHeartbeats 2000000
namespace K75
open PySem PySem.Spec PyProof.Rows L2
theorem eqV_int (a b : Int) : eqV (.int a) (.int b) = (a == b) := rfl
theorem inV_ints (n : Int) : ∀ ns : List Int, inV (.int n) (ns.map V.int) = decide (n ∈ ns)
  | [] => rfl
  | m :: ns => by
    show (eqV (.int m) (.int n) || inV (.int n) (ns.map V.int)) = _
    rw [inV_ints n ns, eqV_int]
    by_cases h : m = n
    · subst h
      simp
    · have : ¬ n = m := fun e => h e.symm
      simp [h, this]
theorem flat_ints : ∀ ns : List Int, (ns.map V.int).all flatV = true
  | [] => rfl
  | _ :: ns => by
    show (true && (ns.map V.int).all flatV) = true
    rw [flat_ints ns]
    rfl
section
variable {P : Program} {w : World} {K : PySem.W.Frag} {mg : Str → Option Value} {base : Heap} (B : Blt mg) (T : Con5 mg)
include B T
/-- digits of a scheme -/
structure GoodD (ns : List Int) : Prop where
  up : ns.Pairwise (· < ·)
  sm : ∀ n ∈ ns, -9 ≤ n ∧ n ≤ 9
  lo : 1 ≤ ns.length
  hi : ns.length ≤ 6
def sp_is_digit_list (K : PySem.W.Frag) : Sp := fun vs H Q _ => ∃ M l e ns, vs = [.ref l, .ref e, .int 1] ∧ Mok M H ∧ SqL K (fr M H) l (ns.map V.int) ∧ SqT K H e [] ∧ GoodD ns ∧ ∀ H', Same H H' → Q (.bl true) H'
theorem ok_is_digit_list (D : FnD K mg "is_digit_list" s_is_digit_list [] []) (F_is_list : Fn P w K mg base "is_list" 1 (sp_is_list K)) (F_is_digit : Fn P w K mg base "is_digit" 2 (sp_is_digit K)) (F_different : Fn P w K mg base "different" 1 (sp_different K)) :
    Fn P w K mg base "is_digit_list" 3 (sp_is_digit_list K) := by
  refine D.fn sc_is_digit_list (fun _ _ _ _ _ _ us hl => match us, hl with | [_, _, _], _ => rfl) (fun vs H Q E h => ?_) (fun f cdv A outer s H vs Q E hr h => ?_)
  · obtain ⟨_, _, _, _, rfl, _⟩ := h
    rfl
  · obtain ⟨M, l, e, ns, rfl, mok, hl, he, g, q⟩ := h
    refine ⟨_, (pss_cons (ps_if (PW.pt (pw_or (pt_not (pt_val (c0 F_is_list hr (pa_cons (pv 0) pa_nil)))) (pw_or1 (pt_not (pt_val (pe_callB (cr_all rfl) (by rfl) B.all (by decide +kernel) (pa_cons (pe_lc rfl sc_is_digit_list.nd (own := [("item", 3)]) (g := gName 3) (tt := tYes) (pi_list (pv 0)) (blkOk_by (N := ["value", "digits", "least", "item"]) (sc := defScope s_is_digit_list) (by decide +kernel)) (fun _ _ _ _ _ => (pg_name (i := 3) sc_is_digit_list.nd rfl (.inl rfl))) (fun _ _ _ _ _ => pts_nil) (fun _ _ _ _ _ => (c0 F_is_digit hr (pa_cons (pv 3) pa_nil)))) pa_nil))))))) (pss_one (ps_ret pe_bl)) pss_nil) (pss_one (ps_ret (pe_chain op_le op_le (pv 2) (pe_callB call_len (by rfl) B.len (by decide +kernel) (pa_cons (c0 F_different hr (pa_cons (pe_lst (StX.pa_star (pv 0) (StX.pa_star (pv 1) pa_nil))) pa_nil)) pa_nil)) (pe_ci T.c_MOST_DIGITS))))), ?_⟩
    have hd : Dp K H (.ref l) (.list (ns.map PyData.int)) := .lst ((fr_le M H).sqL hl) (dp_ints ns)
    refine ⟨_, rfl, _, _, rfl, hd, fun H1 s1 => ⟨_, rfl, ?_⟩⟩
    refine iteF ?_
    have mok1 := mok.same s1
    have hl1 : SqL K (fr M H1) l (ns.map V.int) := (same_le s1).sqL hl
    refine ⟨_, rfl, l, rfl, ⟨_, (fr_le M H1).sqL hl1⟩, fun Dl nD => lc_list (xs := ns.map V.int) (LcI [] M Dl H1 (Mapd ns fun n => .bl (isIntD (.int n) (-9) 9))) (LcI.start mok1 (by simp) nD Mapd.zero)
      (fun i H' _ p => (fr_le _ _).sqL ((p.le (by simp) nD).sqL hl1)) (fun i x H' hx p => ?_) (fun H' p => ?_)⟩
    · rw [List.getElem?_map] at hx
      cases e : ns[i]? with
      | none => rw [e] at hx; cases hx
      | some n =>
        rw [e] at hx
        cases hx
        refine ⟨rfl, _, rfl, _, _, rfl, .int n, ?_⟩
        have hi : i < ns.length := (List.getElem?_eq_some_iff.mp e).1
        exact p.step (by simp) nD mok1 (.refl p.mok (by simp)) (by have := g.hi; rw [sizeLine_eq]; omega) (fun acc _ r => r.yes e)
    · obtain ⟨acc, hA, _, r⟩ := p.ex
      have r2 := r
      rw [List.length_map] at r2
      have e := r2.all
      subst e
      have ha : (ns.map fun n => isIntD (.int n) (-9) 9).all id = true := by
        rw [List.all_eq_true]
        intro b hb
        obtain ⟨n, hn, rfl⟩ := List.mem_map.mp hb
        have := g.sm n hn
        show (decide (-9 ≤ n) && decide (n ≤ 9)) = true
        simp [this.1, this.2]
      refine ⟨Dl, ns.map fun n => isIntD (.int n) (-9) 9, rfl, .inl (.inl (by rw [hA, List.map_map]; rfl)), _, rfl, ?_⟩
      rw [ha]
      refine iteF ?_
      have s2 : Same H H' := s1.trans p.stp.same
      have hl2 : SqL K (fr M H') l (ns.map V.int) := (same_le s2).sqL hl
      have mok2 := mok.same s2
      refine ⟨_, rfl, _, rfl, l, _, rfl, .inr ((fr_le M H').sqL hl2), _, rfl, e, _, rfl, .inl ((Le.of s2).sqT he), ?_⟩
      have hz := g.hi
      refine ⟨by simp; rw [sizeLine_eq]; omega, fun l2 n2 => ?_⟩
      have s3 : Same H (upd H' l2 (.lst (ns.map V.int ++ ([] ++ [])))) := s2.trans (same_new n2)
      refine ⟨M, l2, ns.map PyData.int, rfl, mok.same s3, .lst (.inl (.inl (upd_fr n2 mok2))) ?_, .inl ⟨ns, rfl, g.up, by omega⟩, fun H5 p5 s5 d5 => ?_⟩
      · simpa using dp_ints ns
      · cases d5 with
        | tup h5 a5 =>
          have e5 := of_dp_ints a5
          subst e5
          refine ⟨_, ns.length, rfl, .inr ⟨_, (fr_le M H5).sqT h5, by simp⟩, _, _, rfl, rfl, _, rfl, ?_⟩
          rw [if_pos (by have := g.lo; simp; omega)]
          refine ⟨_, _, rfl, rfl, ?_⟩
          have := q H5 (s3.trans s5)
          have e6 : decide ((ns.length : Int) ≤ 6) = true := decide_eq_true (by omega)
          show Q (.bl (decide ((ns.length : Int) ≤ 6))) H5
          rw [e6]
          exact this
def sp_is_pair (K : PySem.W.Frag) : Sp := fun vs H Q _ => ∃ (t l : Addr) (p : Int × Int) (ns : List Int), vs = [.ref t, .ref l] ∧ SqT K H t [.int p.1, .int p.2] ∧ SqL K H l (ns.map V.int) ∧ small p ∧ p.1 ∈ ns ∧ p.2 ∈ ns ∧ ∀ H', Same H H' → Q (.bl true) H'
theorem ok_is_pair (D : FnD K mg "is_pair" s_is_pair [] []) (F_is_digit : Fn P w K mg base "is_digit" 2 (sp_is_digit K)) :
    Fn P w K mg base "is_pair" 3 (sp_is_pair K) := by
  refine D.fn sc_is_pair (fun _ _ _ _ _ _ us hl => match us, hl with | [_, _], _ => rfl) (fun vs H Q E h => ?_) (fun f cdv A outer s H vs Q E hr h => ?_)
  · obtain ⟨_, _, _, _, rfl, _⟩ := h
    rfl
  · obtain ⟨t, l, p, ns, rfl, ht, hl, hs, h1, h2, q_⟩ := h
    refine ⟨_, (pss_one (ps_ret (pe_and (pe_callB call_isi (by rfl) B.isinstance (by decide +kernel) (pa_cons (pv 0) (pa_cons (pe_bltn (v := .ty "tuple") (by rfl) B.tuple (by decide +kernel) rfl) pa_nil))) (pe_and (pe_cmpR op_eq (pe_callB call_len (by rfl) B.len (by decide +kernel) (pa_cons (pv 0) pa_nil)) pe_int (nomark _)) (pe_one (pe_callB (cr_all rfl) (by rfl) B.all (by decide +kernel) (pa_cons (pe_lc rfl sc_is_pair.nd (own := [("item", 2)]) (g := gName 2) (tt := tYes) (pi_tup (pv 0)) (blkOk_by (N := ["value", "digits", "item"]) (sc := defScope s_is_pair) (by decide +kernel)) (fun _ _ _ _ _ => (pg_name (i := 2) sc_is_pair.nd rfl (.inl rfl))) (fun _ _ _ _ _ => pts_nil) (fun _ _ _ _ _ => (pe_and (c0 F_is_digit hr (pa_cons (pv 2) pa_nil)) (pe_one (pe_cmpR (r := rIn K false) op_in_seq (pv 2) (pv 1) (by rfl)))))) pa_nil))))))), ?_⟩
    have hd : Dp K H (.ref t) (pairD p) := .tup ht (.cons (.int _) (.cons (.int _) .nil))
    refine ⟨_, rfl, _, .ty "tuple", _, _, _, rfl, .ty _, tyX_of hd, kit_tuple (pairD p), _, rfl, ?_⟩
    refine ⟨_, rfl, _, 2, rfl, .inr ⟨_, ht, rfl⟩, rfl, _, rfl, ?_⟩
    refine ⟨_, rfl, t, rfl, ⟨_, ht⟩, fun Dl nD => lc_tup (xs := [.int p.1, .int p.2]) (LcI [] [] Dl H (Mapd [p.1, p.2] fun _ => .bl true)) (LcI.start (by intro a h; cases h) (by simp) nD Mapd.zero)
      (fun i H' _ q => (Le.of q.stp.same).sqT ht) (fun i x H' hx q => ?_) (fun H' q => ?_)⟩
    · have e : ∃ n, ([p.1, p.2] : List Int)[i]? = some n ∧ x = .int n ∧ n ∈ ns ∧ -9 ≤ n ∧ n ≤ 9 ∧ i < 2 := by
        match i, hx with
        | 0, hx => cases hx; exact ⟨_, rfl, rfl, h1, hs.1, hs.2.1, by omega⟩
        | 1, hx => cases hx; exact ⟨_, rfl, rfl, h2, hs.2.2.1, hs.2.2.2, by omega⟩
      obtain ⟨n, e1, rfl, e2, e3, e4, e5⟩ := e
      refine ⟨rfl, _, rfl, _, _, rfl, .int n, _, rfl, ?_⟩
      have e6 : isIntD (.int n) (-9) 9 = true := by
        show (decide (-9 ≤ n) && decide (n ≤ 9)) = true
        simp [e3, e4]
      rw [e6]
      refine ⟨_, rfl, _, rfl, l, ns.map V.int, rfl, .inl ((Le.of q.stp.same).sqL hl), rfl, flat_ints ns, ?_⟩
      have e7 : inV (.int n) (ns.map V.int) = true := by rw [inV_ints]; exact decide_eq_true e2
      show ∃ acc, _
      rw [if_neg (by decide), e7]
      exact q.step (by simp) nD (by intro a h; cases h) (.refl (M := []) (by intro a h; cases h) (by simp)) (by rw [sizeLine_eq]; omega) (fun acc _ r => r.yes e1)
    · obtain ⟨acc, hA, _, r⟩ := q.ex
      have e := Mapd.all (xs := [p.1, p.2]) r
      subst e
      exact ⟨Dl, [true, true], rfl, .inl (.inl hA), q_ H' q.stp.same⟩
end
end K75
set_option maxHeartbeats 2000000
namespace K75
open PySem PySem.Spec PyProof.Rows L2
/-- what a scheme is -/
structure Sch where
  base : Int
  digits : List Int
  bars : List (Int × Int)
structure GoodS (s : Sch) : Prop where
  base : isBase s.base = true
  dig : GoodD s.digits
  up : s.bars.Pairwise plt
  bin : ∀ p ∈ s.bars, p.1 ∈ s.digits ∧ p.2 ∈ s.digits
  blen : s.bars.length ≤ 36
theorem GoodS.small {s : Sch} (g : GoodS s) : ∀ p ∈ s.bars, small p := fun p hp => by
  have h := g.bin p hp
  have h1 := g.dig.sm _ h.1
  have h2 := g.dig.sm _ h.2
  exact ⟨h1.1, h1.2, h2.1, h2.2⟩
def flds (s : Sch) (t1 t2 t3 : Addr) : List (Str × V) := [("own_base", .int s.base), ("own_digits", .ref t1), ("own_bars", .ref t2), ("own_parts", .ref t3)]
/-- at a stands the scheme -/
def SchAt (K : PySem.W.Frag) (CS : Addr) (F : Hp) (a : Addr) (s : Sch) : Prop := ∃ dx t1 t2 t3, F a = some (.ins CS dx (flds s t1 t2 t3)) ∧ SqT K F t1 (s.digits.map V.int) ∧ Dp K F (.ref t2) (.tuple (s.bars.map pairD)) ∧ SqT K F t3 [.int s.base, .ref t1, .ref t2]
theorem Le.sch {K : PySem.W.Frag} {CS : Addr} {F G : Hp} {a : Addr} {s : Sch} (e : Le F G) (h : SchAt K CS F a s) : SchAt K CS G a s := by
  obtain ⟨dx, t1, t2, t3, h1, h2, h3, h4⟩ := h
  exact ⟨dx, t1, t2, t3, e.ins _ _ _ _ h1, e.sqT h2, e.dp h3, e.sqT h4⟩
/-- instances of the class are known as such -/
structure IsC (K : PySem.W.Frag) (C : Addr) : Prop where
  ha : PySem.W.findIn K (.ref C) "__class__" = some (some (.builtin "object.__class__"))
  hn : PySem.W.specialIn K (.builtin "object.__class__") "__get__" = some (some (.builtin "getset_descriptor.__get__"))
  htk : PySem.W.takesIn K (.builtin "object.__class__") = some true
  hm : PySem.W.mroIn K C (.type "object") = some true
theorem IsC.ty {K : PySem.W.Frag} {C a dx : Addr} {fs : List (Str × V)} {H : Hp} (i : IsC K C) (c : Cls K C) (h : H a = some (.ins C dx fs)) : TyX K H (.ref a) (.ref C) := .base (.ins h c i.ha i.hn i.htk i.hm)
theorem kit_self {K : PySem.W.Frag} {v : Value} : PySem.W.kitOne K v v = some true := by
  unfold PySem.W.kitOne
  rw [if_pos (by simp)]
/-- what the written part says of Scheme, at CS -/
structure SchC (K : PySem.W.Frag) (mg : Str → Option Value) (CS : Addr) : Prop where
  cl : Cls K CS
  nB : NoAttr K CS "own_base"
  nD : NoAttr K CS "own_digits"
  nR : NoAttr K CS "own_bars"
  nP : NoAttr K CS "own_parts"
  mg : mg "Scheme" = some (.ref CS)
  ic : IsC K CS
  kN : PySem.W.kitOne K (.type "NoneType") (.ref CS) = some false
  kB : PySem.W.kitOne K (.type "bool") (.ref CS) = some false
  kI : PySem.W.kitOne K (.type "int") (.ref CS) = some false
  kS : PySem.W.kitOne K (.type "str") (.ref CS) = some false
abbrev s_Scheme___init__ : Stmt := inC (top 35) 0
theorem sc_Scheme___init__ : FnScope ["self", "base", "digits", "bars", "item"] ["self", "base", "digits", "bars"] (defScope s_Scheme___init__) := ⟨rfl, rfl, rfl, by decide +kernel, rfl, by decide +kernel, by decide +kernel⟩
abbrev s_Scheme_base : Stmt := inC (top 35) 1
theorem sc_Scheme_base : FnScope ["self"] ["self"] (defScope s_Scheme_base) := ⟨rfl, rfl, rfl, by decide +kernel, rfl, by decide +kernel, by decide +kernel⟩
abbrev s_Scheme_digits : Stmt := inC (top 35) 2
theorem sc_Scheme_digits : FnScope ["self"] ["self"] (defScope s_Scheme_digits) := ⟨rfl, rfl, rfl, by decide +kernel, rfl, by decide +kernel, by decide +kernel⟩
abbrev s_Scheme___eq__ : Stmt := inC (top 35) 4
theorem sc_Scheme___eq__ : FnScope ["self", "other"] ["self", "other"] (defScope s_Scheme___eq__) := ⟨rfl, rfl, rfl, by decide +kernel, rfl, by decide +kernel, by decide +kernel⟩
abbrev s_Scheme_has : Stmt := inC (top 35) 6
theorem sc_Scheme_has : FnScope ["self", "value"] ["self", "value"] (defScope s_Scheme_has) := ⟨rfl, rfl, rfl, by decide +kernel, rfl, by decide +kernel, by decide +kernel⟩
abbrev s_Scheme_allows : Stmt := inC (top 35) 7
theorem sc_Scheme_allows : FnScope ["self", "left", "right"] ["self", "left", "right"] (defScope s_Scheme_allows) := ⟨rfl, rfl, rfl, by decide +kernel, rfl, by decide +kernel, by decide +kernel⟩
abbrev s_Scheme___contains__ : Stmt := inC (top 35) 8
theorem sc_Scheme___contains__ : FnScope ["self", "value", "item", "pair"] ["self", "value"] (defScope s_Scheme___contains__) := ⟨rfl, rfl, rfl, by decide +kernel, rfl, by decide +kernel, by decide +kernel⟩
abbrev s_Scheme_value_of : Stmt := inC (top 35) 9
theorem sc_Scheme_value_of : FnScope ["self", "row", "total", "digit"] ["self", "row"] (defScope s_Scheme_value_of) := ⟨rfl, rfl, rfl, by decide +kernel, rfl, by decide +kernel, by decide +kernel⟩
section
variable {P : Program} {w : World} {K : PySem.W.Frag} {mg : Str → Option Value} {base : Heap} (B : Blt mg) (T : Con5 mg) {CS : Addr} (C : SchC K mg CS)
include B T C
def sp_Scheme_init (K : PySem.W.Frag) (CS : Addr) : Sp := fun vs H Q _ => ∃ M a dx l e s, vs = [.ref a, .int s.base, .ref l, .ref e] ∧ H a = some (.ins CS dx []) ∧ Mok (a :: M) H ∧ SqL K (fr (a :: M) H) l (s.digits.map V.int) ∧ Dp K (fr (a :: M) H) (.ref e) (.list (s.bars.map pairD)) ∧ GoodS s ∧
  ∀ H' t1 t2 t3, SB [a] H H' → H' a = some (.ins CS dx (flds s t1 t2 t3)) → SqT K (fr (a :: M) H') t1 (s.digits.map V.int) → Dp K (fr (a :: M) H') (.ref t2) (.tuple (s.bars.map pairD)) → SqT K (fr (a :: M) H') t3 [.int s.base, .ref t1, .ref t2] → Q .non H'
theorem ok_Scheme_init {f : Addr} {fd : FuncData} {kws : List (Str × V)} (F : FunD K "__init__" "Scheme.__init__" (defArgs s_Scheme___init__) (defBody s_Scheme___init__) (defScope s_Scheme___init__) [] kws f fd)
    (F_is_base : Fn P w K mg base "is_base" 2 sp_is_base) (F_is_list : Fn P w K mg base "is_list" 1 (sp_is_list K)) (F_is_digit_list : Fn P w K mg base "is_digit_list" 3 (sp_is_digit_list K)) (F_is_pair : Fn P w K mg base "is_pair" 3 (sp_is_pair K)) (F_different : Fn P w K mg base "different" 1 (sp_different K)) :
    FnOk P w K mg base (L2.CX P w) 4 f fd ["self", "base", "digits", "bars"] (sp_Scheme_init K CS) := by
  refine F.ok sc_Scheme___init__ (fun vs H Q E h => ?_) (fun cdv A outer s H vs Q E hr h => ?_)
  · obtain ⟨_, _, _, _, _, _, rfl, _⟩ := h
    rfl
  · obtain ⟨M, a, dx, l, e, sc, rfl, ha, mok, hl, he, g, q⟩ := h
    refine ⟨_, (pss_cons (ps_if (pt_not (pt_val (c0 F_is_base hr (pa_cons (pv 1) pa_nil)))) (pss_one ps_never) pss_nil) (pss_cons (ps_if (pt_not (pt_val (c0 F_is_digit_list hr (pa_cons (pv 2) (pa_cons (pe_tup pa_nil) (pa_cons pe_int pa_nil)))))) (pss_one ps_never) pss_nil) (pss_cons (ps_if (pt_not (pt_val (c0 F_is_list hr (pa_cons (pv 3) pa_nil)))) (pss_one ps_never) pss_nil) (pss_cons (ps_for (passes_of rfl) rfl (pi_list (pv 3)) (pg_name (i := 4) sc_Scheme___init__.nd rfl (.inl rfl)) (pss_one (ps_if (pt_not (pt_val (c0 F_is_pair hr (pa_cons (pv 4) (pa_cons (pv 2) pa_nil))))) (pss_one ps_never) pss_nil))) (pss_cons (ps_fld (pv 0) (pv 1) rfl) (pss_cons (ps_fld (pv 0) (c0 F_different hr (pa_cons (pv 2) pa_nil)) rfl) (pss_cons (ps_fld (pv 0) (c0 F_different hr (pa_cons (pv 3) pa_nil)) rfl) (pss_one (ps_fld (pv 0) (pe_tup (pa_cons (pe_fld (pv 0) rfl) (pa_cons (pe_fld (pv 0) rfl) (pa_cons (pe_fld (pv 0) rfl) pa_nil)))) rfl))))))))), ?_⟩
    have hb := g.base
    have leH : Le (fr (a :: M) H) H := fr_le _ _
    refine ⟨_, rfl, _, rfl, ?_⟩
    rw [hb]
    refine ⟨_, rfl, ?_⟩
    refine ⟨_, rfl, by show 0 ≤ sizeLine; decide, fun p np => ?_⟩
    have s1 := same_new (o := .tup []) np
    have m1 := mok.same s1
    refine ⟨a :: M, l, p, sc.digits, rfl, m1, (same_le s1).sqL hl, .inl (.inl upd_same), g.dig, fun H2 s2 => ⟨_, rfl, ?_⟩⟩
    have s12 := s1.trans s2
    refine ⟨_, rfl, .ref e, _, rfl, ((fr_le _ _).trans (Le.of s12)).dp he, fun H3 s3 => ⟨_, rfl, ?_⟩⟩
    have s13 := s12.trans s3
    have m3 := mok.same s13
    have hl3 : SqL K (fr (a :: M) H3) l (sc.digits.map V.int) := (same_le s13).sqL hl
    have he3 : Dp K (fr (a :: M) H3) (.ref e) (.list (sc.bars.map pairD)) := (same_le s13).dp he
    cases he3 with
    | @lst _ xs _ hx hxs =>
      obtain ⟨ks, rfl, hk1, hk2⟩ := dp_pairs hxs
      refine ⟨_, rfl, e, rfl, ⟨_, (fr_le _ _).sqL hx⟩, for_list (xs := ks.map fun (p : Addr × List Int) => V.ref p.1) (fun i σ H' => (∃ y, σ = [some (.ref a), some (.int sc.base), some (.ref l), some (.ref e), y]) ∧ Same H3 H')
        ⟨⟨_, rfl⟩, Same.refl _⟩ (fun i σ H' _ p => (Le.of p.2).sqL ((fr_le _ _).sqL hx)) (fun i x σ H' hx' p => ?_) (fun σ H' p => ?_)⟩
      · obtain ⟨⟨y, rfl⟩, sH⟩ := p
        rw [List.getElem?_map] at hx'
        cases ek : ks[i]? with
        | none => rw [ek] at hx'; cases hx'
        | some k =>
          rw [ek] at hx'
          cases hx'
          have hkm : k ∈ ks := List.mem_of_getElem? ek
          have : k.2 ∈ sc.bars.map lst2 := by rw [← hk2]; exact List.mem_map.mpr ⟨k, hkm, rfl⟩
          obtain ⟨pr, hpr, e2⟩ := List.mem_map.mp this
          have ht : SqT K H' k.1 [.int pr.1, .int pr.2] := by
            have := (Le.of sH).sqT ((fr_le _ _).sqT (hk1 k hkm))
            rw [← e2] at this
            exact this
          have hb := g.bin pr hpr
          refine ⟨_, rfl, _, rfl, k.1, l, pr, sc.digits, rfl, ht, (Le.of sH).sqL ((fr_le _ _).sqL hl3), g.small pr hpr, hb.1, hb.2, fun H4 s4 => ⟨_, rfl, ?_⟩⟩
          exact ⟨⟨_, rfl⟩, sH.trans s4⟩
      · obtain ⟨⟨y, rfl⟩, sH⟩ := p
        have s14 := s13.trans sH
        have m4 := mok.same s14
        have ha4 := s14 _ _ ha
        refine ⟨_, rfl, _, rfl, a, CS, dx, [], rfl, ha4, C.cl, C.nB, by decide, ?_⟩
        have b5 : SB [a] H (upd H' a (.ins CS dx [("own_base", .int sc.base)])) := (sb_same s14 _).trans sb_upd
        have st5 : Stp [a] H (upd H' a (.ins CS dx [("own_base", .int sc.base)])) := ⟨b5, by simp [upd_same]⟩
        have m5 := st5.mok mok
        have le5 : Le (fr (a :: M) H) (fr (a :: M) (upd H' a (.ins CS dx [("own_base", .int sc.base)]))) := sb_le b5 (by simp)
        refine ⟨_, rfl, a :: M, l, sc.digits.map PyData.int, rfl, m5, .lst (le5.sqL hl) (dp_ints _), .inl ⟨_, rfl, g.dig.up, by have := g.dig.hi; omega⟩, fun H6 t1 s6 d6 => ?_⟩
        have ha6 := s6 _ _ (upd_same (H := H') (a := a) (o := .ins CS dx [("own_base", .int sc.base)]))
        refine ⟨_, rfl, a, CS, dx, _, rfl, ha6, C.cl, C.nD, by simp, ?_⟩
        have st6 : Stp [a] H H6 := st5.trans (.of_same s6 m5 (by simp))
        cases d6 with
        | @tup _ xs6 _ q6 a6 =>
        have e6 := of_dp_ints a6
        subst e6
        have st7 : Stp [a] H (upd H6 a (.ins CS dx [("own_base", .int sc.base), ("own_digits", .ref t1)])) := st6.trans ⟨sb_upd, by simp [upd_same]⟩
        have m7 := st7.mok mok
        have le67 : Le (fr (a :: M) H6) (fr (a :: M) (upd H6 a (.ins CS dx [("own_base", .int sc.base), ("own_digits", .ref t1)]))) := sb_le (A := [a]) sb_upd (by simp)
        refine ⟨_, rfl, a :: M, e, sc.bars.map pairD, rfl, m7, (sb_le st7.sb (by simp)).dp he, .inr ⟨_, rfl, g.up, g.small, by have := g.blen; omega⟩, fun H8 t2 s8 d8 => ?_⟩
        have ha8 := s8 _ _ (upd_same (H := H6) (a := a) (o := .ins CS dx [("own_base", .int sc.base), ("own_digits", .ref t1)]))
        refine ⟨_, rfl, a, CS, dx, _, rfl, ha8, C.cl, C.nR, by simp, ?_⟩
        have st8 : Stp [a] H H8 := st7.trans (.of_same s8 m7 (by simp))
        have st9 : Stp [a] H (upd H8 a (.ins CS dx [("own_base", .int sc.base), ("own_digits", .ref t1), ("own_bars", .ref t2)])) := st8.trans ⟨sb_upd, by simp [upd_same]⟩
        have m9 := st9.mok mok
        have ha9 := (upd_same (H := H8) (a := a) (o := .ins CS dx [("own_base", .int sc.base), ("own_digits", .ref t1), ("own_bars", .ref t2)]))
        have le89 : Le (fr (a :: M) H8) (fr (a :: M) (upd H8 a (.ins CS dx [("own_base", .int sc.base), ("own_digits", .ref t1), ("own_bars", .ref t2)]))) := sb_le (A := [a]) sb_upd (by simp)
        refine ⟨_, rfl, a, CS, dx, _, _, rfl, ha9, C.cl, C.nB, rfl, ?_⟩
        refine ⟨_, rfl, a, CS, dx, _, _, rfl, ha9, C.cl, C.nD, rfl, ?_⟩
        refine ⟨_, rfl, a, CS, dx, _, _, rfl, ha9, C.cl, C.nR, rfl, ?_⟩
        refine ⟨by show 3 ≤ sizeLine; decide, fun t3 n3 => ?_⟩
        have s10 := same_new (o := .tup [.int sc.base, .ref t1, .ref t2]) n3
        have ha10 := s10 _ _ ha9
        refine ⟨_, rfl, a, CS, dx, _, rfl, ha10, C.cl, C.nP, by simp, ?_⟩
        have st10 := st9.trans (Stp.of_same (A := [a]) s10 m9 (by simp))
        have st11 := st10.trans (Stp.mk (A := [a]) (sb_upd (o := .ins CS dx (flds sc t1 t2 t3))) (by simp [upd_same]))
        have le1011 : Le (fr (a :: M) (upd (upd H8 a (.ins CS dx [("own_base", .int sc.base), ("own_digits", .ref t1), ("own_bars", .ref t2)])) t3 (.tup [.int sc.base, .ref t1, .ref t2]))) (fr (a :: M) (upd (upd (upd H8 a (.ins CS dx [("own_base", .int sc.base), ("own_digits", .ref t1), ("own_bars", .ref t2)])) t3 (.tup [.int sc.base, .ref t1, .ref t2])) a (.ins CS dx (flds sc t1 t2 t3)))) := sb_le (A := [a]) sb_upd (by simp)
        refine q _ t1 t2 t3 st11.sb upd_same ?_ ?_ ?_
        · exact (le67.trans ((same_le s8).trans (le89.trans ((same_le s10).trans le1011)))).sqT q6
        · exact (le89.trans ((same_le s10).trans le1011)).dp d8
        · exact le1011.sqT (.inl (.inl (upd_fr n3 m9)))
end
/-! ### properties, own __contains__ and __eq__ by their promises -/
def Prp (P : Program) (w : World) (K : PySem.W.Frag) (mg : Str → Option Value) (base : Heap) (C : Addr) (f g : Str) : Prop := ∃ p fg fd, PropOf K C f p fg ∧ FnOk P w K mg base (L2.CX P w) 1 fg fd ["self"] (getSp C g) ∧ Binds K fd ["self"] []
theorem pe_pr {X : Cx} {C : Addr} {f g : Str} {e : Expr} {te : TE} {pos : Pos} {j : Nat} (R : Prp X.prog X.w X.K X.mg X.base C f g) (c : Cls X.K C) (hr : Room j X.A) (he : PE X e te) (hj : 2 ≤ j := by decide) (hab : attributeBase e f X.env (eval e X.env) = eval e X.env := by rfl) :
    PE X (.Attribute e f pos) (tProp C (getSp C g) [] E0 te) := by
  obtain ⟨p, fg, fd, hp, F, hb⟩ := R
  exact pe_prop he c hp F (hr.mono hj) hb .nil (passL (X := X.nox)) hab
/-- a class's own special method -/
structure Spc (P : Program) (w : World) (K : PySem.W.Frag) (mg : Str → Option Value) (base : Heap) (C : Addr) (m : Str) (k : Nat) (sp : Sp) : Prop where
  ex : ∃ f, PySem.W.findIn K (.ref C) m = some (some (.ref f)) ∧ PySem.W.isFn K (.ref f) = true ∧ FnR P w K mg base (L2.CX P w) k f sp
theorem op_ownInM {X : Cx} {C : Addr} {k j : Nat} {sp : Sp} (S : Spc X.prog X.w X.K X.mg X.base C "__contains__" k sp) (hr : Room j X.A) (hk : k ≤ j := by decide) : OpR X (compareOp .In) (rOwnIn C sp E0 false) := by
  obtain ⟨f, h1, h2, F⟩ := S.ex
  exact op_ownIn h1 h2 F hr passL hk
theorem op_ownNotInM {X : Cx} {C : Addr} {k j : Nat} {sp : Sp} (S : Spc X.prog X.w X.K X.mg X.base C "__contains__" k sp) (hr : Room j X.A) (hk : k ≤ j := by decide) : OpR X (compareOp .NotIn) (rOwnIn C sp E0 true) := by
  obtain ⟨f, h1, h2, F⟩ := S.ex
  exact op_ownNotIn h1 h2 F hr passL hk
theorem op_ownEqM {X : Cx} {C : Addr} {k j : Nat} {sp : Sp} (S : Spc X.prog X.w X.K X.mg X.base C "__eq__" k sp) (hr : Room j X.A) (hk : k ≤ j := by decide) : OpR X (compareOp .Eq) (rOwnEq C sp E0) := by
  obtain ⟨f, h1, h2, F⟩ := S.ex
  exact op_ownEq h1 h2 F hr passL hk
def SpD (K : PySem.W.Frag) (C : Addr) (m qual : Str) (st : Stmt) : Prop := ∃ f fd, FunD K m qual (defArgs st) (defBody st) (defScope st) [] [] f fd ∧ PySem.W.findIn K (.ref C) m = some (some (.ref f)) ∧ PySem.W.isFn K (.ref f) = true
theorem SpD.spc {P : Program} {w : World} {K : PySem.W.Frag} {mg : Str → Option Value} {base : Heap} {qual m : Str} {st : Stmt} {N ps : List Str} {k : Nat} {sp : Sp} {C : Addr} (D : SpD K C m qual st) (S : FnScope N ps (defScope st))
    (h : ∀ (kV doc pm : Value) (an : Option Addr) (cdv ct : Value) (us : List Value), us.length = ps.length → bindArgs (PySem.W.fnOf m qual (defArgs st) (defBody st) (defScope st) .none kV doc pm an cdv ct) ⟨us, []⟩ = pure (ps.zip us))
    (len : ∀ vs H Q E, sp vs H Q E → vs.length = ps.length)
    (hbody : ∀ (f : Addr) (cdv : Value) (A : Around) (outer : List Env) (s : Shared) (H : Hp) (vs : List V) (Q : VK) (E : XK), Room k (A.deeper (envOfC qual (defScope st) s.heap.objs.size f cdv)) → sp vs H Q E →
      ∃ t, PSs (cxOf (L2.CX P w) P w K mg base N qual (defScope st) f cdv A outer s H E) (defBody st) t ∧ t { nx := fun _ H' => Q .non H', rt := Q } (start N vs) H) : Spc P w K mg base C m (k + 1) sp := by
  obtain ⟨f, fd, F, h1, h2⟩ := D
  have ok := F.ok (CX := L2.CX P w) (P := P) (w := w) (mg := mg) (base := base) S len (hbody f)
  have r := ok.raw (F.bindsN h) .nil
  exact ⟨f, h1, h2, r.imp fun vs H Q E q => by rw [List.append_nil]; exact q⟩
/-- Scheme(base, digits, bars=bars) -/
def SchM (P : Program) (w : World) (K : PySem.W.Frag) (mg : Str → Option Value) (base : Heap) (CS : Addr) : Prop := ∃ f fd g, Mk K CS f ∧ FnOk P w K mg base (L2.CX P w) 4 f fd ["self", "base", "digits", "bars"] (sp_Scheme_init K CS) ∧ KBn K fd ["self", "base", "digits", "bars"] 3 ["bars"] g (fun vs zs => vs ++ zs)
theorem pe_mkS {X : Cx} {CS : Addr} {e1 e2 e3 : Expr} {t1 t2 t3 : TE} {p pos kp : Pos} {j : Nat} (S : SchM X.prog X.w X.K X.mg X.base CS) (C : SchC X.K X.mg CS) (hr : Room j X.A) (h1 : PE X e1 t1) (h2 : PE X e2 t2) (h3 : PE X e3 t3) (hj : 5 ≤ j := by decide) (hg : Gl X "Scheme" := by rfl)
    (hs : starEach [e2] X.env = (false, eval e2 X.env) :: starEach [] X.env := by rfl)
    (hall : (backToKw pos (keywordEach [⟨some "bars", e3, kp⟩] X.env)).all (·.1.isSome) = true := by rfl) (hks : (backToKw pos (keywordEach [⟨some "bars", e3, kp⟩] X.env)).filterMap (·.1) = ([("bars" : Str)] : List Str) := by rfl)
    (he : starEach [e1, e2] X.env = (false, eval e1 X.env) :: starEach [e2] X.env := by rfl) (hpl : ((backTo pos (starEach [e1, e2] X.env)).any (·.1) || (backToKw pos (keywordEach [⟨some "bars", e3, kp⟩] X.env)).any (·.1.isNone)) = false := by rfl) :
    PE X (.Call (.Name "Scheme" p) [e1, e2] [⟨some "bars", e3, kp⟩] pos) (tMakeK CS 2 1 (sp_Scheme_init X.K CS) (fun vs zs => vs ++ zs) E0 (tCons t1 (tCons t2 tNil)) (tCons t3 tNil)) := by
  obtain ⟨f, fd, g, M, F, hb⟩ := S
  exact pe_makeK (n := 2) (ks := [("bars" : Str)]) M F (hr.mono hj) hg C.mg hb passL (pa_cons h1 (pa_cons h2 pa_nil hs) he) (pk_cons h3 pk_nil) hall hks (by decide) he hpl
/-- the answer to it -/
theorem mkS_ans {K : PySem.W.Frag} {CS : Addr} {M : List Addr} {H : Hp} {l e : Addr} {s : Sch} {Q : VK} (m : Mok M H) (hl : SqL K (fr M H) l (s.digits.map V.int)) (he : Dp K (fr M H) (.ref e) (.list (s.bars.map pairD))) (g : GoodS s)
    (q : ∀ H' x, Same H H' → H x = none → SchAt K CS (fr M H') x s → Q (.ref x) H') : ([.int s.base, .ref l] : List V).length = 2 ∧ ([.ref e] : List V).length = 1 ∧ ∀ x dx, H x = none → H dx = none → dx ≠ x →
      sp_Scheme_init K CS ((.ref x :: [.int s.base, .ref l]) ++ [.ref e]) (upd (upd H dx (.own x)) x (.ins CS dx [])) (fun v H3 => v = .non ∧ Q (.ref x) H3) E0 := by
  refine ⟨rfl, rfl, fun x dx nx ndx ne => ?_⟩
  have nx2 : upd H dx (.own x) x = none := by rw [upd_ne (Ne.symm ne)]; exact nx
  have s1 : Same H (upd (upd H dx (.own x)) x (.ins CS dx [])) := (same_new ndx).trans (same_new nx2)
  have m2 : Mok (x :: M) (upd (upd H dx (.own x)) x (.ins CS dx [])) := fun a q => by
    rcases List.mem_cons.mp q with rfl | q
    · rw [upd_same]; simp
    · exact (m.same s1) a q
  have le1 : Le (fr M H) (fr (x :: M) (upd (upd H dx (.own x)) x (.ins CS dx []))) := (fr_cons nx).trans (Le.of fun a o q => by
    obtain ⟨q1, q2⟩ := fr_some q
    exact fr_of (s1 a o q1) q2)
  refine ⟨M, x, dx, l, e, s, rfl, upd_same, m2, le1.sqL hl, le1.dp he, g, fun H' t1 t2 t3 b h1 h2 h3 h4 => ⟨rfl, ?_⟩⟩
  have s2 : Same H H' := fun a o h => b a o (by
    intro z
    rw [List.mem_singleton] at z
    rw [z, nx] at h
    cases h) (s1 a o h)
  refine q H' x s2 nx ⟨dx, t1, t2, t3, fr_of h1 (m.new nx), (fr_sub x M H').sqT h2, (fr_sub x M H').dp h3, (fr_sub x M H').sqT h4⟩
section
variable {P : Program} {w : World} {K : PySem.W.Frag} {mg : Str → Option Value} {base : Heap} (B : Blt mg) (T : Con5 mg) {CS : Addr} (C : SchC K mg CS)
include B T C
theorem ok_Scheme_base {p fg : Addr} {fd : FuncData} (hp : PropOf K CS "base" p fg) (F : FunD K "base" "Scheme.base" (defArgs s_Scheme_base) (defBody s_Scheme_base) (defScope s_Scheme_base) [] [] fg fd) : Prp P w K mg base CS "base" "own_base" := by
  refine ⟨p, fg, fd, hp, F.ok sc_Scheme_base (fun vs H Q E h => ?_) (fun cdv A outer s H vs Q E hr h => ?_), F.bindsN (fun _ _ _ _ _ _ us hl => match us, hl with | [_], _ => rfl)⟩
  · obtain ⟨_, _, _, _, rfl, _⟩ := h
    rfl
  · obtain ⟨a, dx, fs, v, rfl, ha, hl, q⟩ := h
    exact ⟨_, (pss_one (ps_ret (pe_fld (pv 0) rfl))), _, rfl, a, CS, dx, fs, v, rfl, ha, C.cl, C.nB, hl, q⟩
theorem ok_Scheme_digits {p fg : Addr} {fd : FuncData} (hp : PropOf K CS "digits" p fg) (F : FunD K "digits" "Scheme.digits" (defArgs s_Scheme_digits) (defBody s_Scheme_digits) (defScope s_Scheme_digits) [] [] fg fd) : Prp P w K mg base CS "digits" "own_digits" := by
  refine ⟨p, fg, fd, hp, F.ok sc_Scheme_digits (fun vs H Q E h => ?_) (fun cdv A outer s H vs Q E hr h => ?_), F.bindsN (fun _ _ _ _ _ _ us hl => match us, hl with | [_], _ => rfl)⟩
  · obtain ⟨_, _, _, _, rfl, _⟩ := h
    rfl
  · obtain ⟨a, dx, fs, v, rfl, ha, hl, q⟩ := h
    exact ⟨_, (pss_one (ps_ret (pe_fld (pv 0) rfl))), _, rfl, a, CS, dx, fs, v, rfl, ha, C.cl, C.nD, hl, q⟩
end
end K75
set_option maxHeartbeats 2000000
namespace K75
open PySem PySem.Spec PyProof.Rows L2
theorem pe_fldK {X : Cx} {K : PySem.W.Frag} {e : Expr} {ta : TE} {f : Str} {pos : Pos} (he : PE X e ta) (hb : attributeBase e f X.env (eval e X.env) = eval e X.env) (hK : X.K = K) : PE X (.Attribute e f pos) (tFld K ta f) := by
  subst hK
  exact pe_fld he hb
/-- is data one of the digits -/
def hasD (s : Sch) (d : PyData) : Bool := match d with
  | .int i => decide (i ∈ s.digits)
  | _ => false
def optV : Option Int → V
  | none => .non
  | some i => .int i
/-- may l stand to the left of r, or of nothing -/
def alw (s : Sch) (l : Int) (r : Option Int) : Bool := match r with
  | none => decide (l ∈ s.digits)
  | some r => decide (l ∈ s.digits) && (decide (r ∈ s.digits) && !decide ((l, r) ∈ s.bars))
/-- neighbours -/
def nbrs (row : List Int) : List (Int × Int) := row.zip (row.drop 1)
def toInt1 : PyData → Option Int
  | .int i => some i
  | _ => none
/-- is data a row of the scheme -/
def rowD (s : Sch) (d : PyData) : Bool := match d with
  | .tuple ds => ds.all (hasD s) && (match ds.mapM toInt1 with | some row => (nbrs row).all fun p => !decide (p ∈ s.bars) | none => false)
  | _ => false
theorem pairD_eqv (p q : Int × Int) : PyData.eqv (pairD p) (pairD q) = decide (p = q) := by
  obtain ⟨a, b⟩ := p
  obtain ⟨c, d⟩ := q
  have e : PyData.eqv (pairD (a, b)) (pairD (c, d)) = ((a == c) && ((b == d) && true)) := by simp only [pairD, PyData.eqv, PyData.eqvAll]
  rw [e, Bool.and_true]
  by_cases h1 : a = c
  · by_cases h2 : b = d
    · subst h1 h2; simp
    · simp [h2]
  · simp [h1]
theorem any_pairs (p : Int × Int) : ∀ ps : List (Int × Int), ((ps.map pairD).any fun z => PyData.eqv z (pairD p)) = decide (p ∈ ps)
  | [] => by simp
  | q :: ps => by
    rw [List.map_cons, List.any_cons, any_pairs p ps, pairD_eqv]
    by_cases h : q = p
    · subst h; simp
    · have h' : ¬ p = q := fun e => h e.symm
      simp [h, h']
theorem pair_lay (p : Int × Int) : (pairD p).canLay0 = true := by simp [pairD, PyData.canLay0, PyData.canLayAll0]
theorem pair_depth (p : Int × Int) : (pairD p).depth = 1 := by simp [pairD, PyData.depth, PyData.depthAll]
theorem pairs_lay : ∀ ps : List (Int × Int), PyData.canLayAll0 (ps.map pairD) = true
  | [] => by simp [PyData.canLayAll0]
  | p :: ps => by simp [PyData.canLayAll0, pair_lay p, pairs_lay ps]
theorem pairs_depth : ∀ ps : List (Int × Int), PyData.depthAll (ps.map pairD) ≤ 1
  | [] => by simp [PyData.depthAll]
  | p :: ps => by
    have h1 := pairs_depth ps
    have h2 := pair_depth p
    simp only [List.map_cons, PyData.depthAll]
    omega
theorem pair_shaped (p : Int × Int) : SeqAt.shaped (pairD p) = true := by
  have h := pair_depth p
  show ((pairD p).canLay0 && decide ((pairD p).depth ≤ 64)) = true
  rw [Bool.and_eq_true]
  exact ⟨pair_lay p, decide_eq_true (by omega)⟩
theorem pairs_shapedT (ps : List (Int × Int)) : SeqAt.shaped (.tuple (ps.map pairD)) = true := by
  have h1 := pairs_depth ps
  have h2 : PyData.depth (.tuple (ps.map pairD)) ≤ 64 := by
    simp only [PyData.depth]
    omega
  show (PyData.canLay0 (.tuple (ps.map pairD)) && decide (PyData.depth (.tuple (ps.map pairD)) ≤ 64)) = true
  rw [Bool.and_eq_true]
  exact ⟨by simp only [PyData.canLay0]; exact pairs_lay ps, decide_eq_true h2⟩
theorem dpAll_get {K : PySem.W.Frag} {F : Hp} : ∀ {vs : List V} {ds : List PyData} {i : Nat} {v : V}, DpAll K F vs ds → vs[i]? = some v → True ∧ ∀ h : i < ds.length, Dp K F v ds[i]
  | _, _, 0, _, .cons h r, e => by
    cases e
    exact ⟨trivial, fun _ => h⟩
  | _, _, i + 1, _, .cons h r, e => ⟨trivial, fun q => (dpAll_get r e).2 (by simpa using q)⟩
  | _, _, i, _, .nil, e => by simp at e
theorem sIx_one {n : Nat} (h : 0 < n) : HT.sIx n 0 (some 1) = 1 := by
  have := HT.sIx_nat n 0 1
  rw [Nat.min_eq_left h] at this
  exact this
theorem sIx_none {n : Nat} : HT.sIx n n none = n := rfl
theorem nbr_get {row : List Int} {i : Nat} {x y : V} (hx : (row.map V.int)[i]? = some x) (hy : ((row.drop 1).map V.int)[i]? = some y) : ∃ pr : Int × Int, (nbrs row)[i]? = some pr ∧ x = .int pr.1 ∧ y = .int pr.2 ∧ i < row.length := by
  rw [List.getElem?_map] at hx hy
  cases e1 : row[i]? with
  | none => rw [e1] at hx; cases hx
  | some a =>
    cases e2 : (row.drop 1)[i]? with
    | none => rw [e2] at hy; cases hy
    | some b =>
      rw [e1] at hx
      rw [e2] at hy
      cases hx
      cases hy
      exact ⟨(a, b), by unfold nbrs; rw [List.getElem?_zip_eq_some]; exact ⟨e1, e2⟩, rfl, rfl, (List.getElem?_eq_some_iff.mp e1).1⟩
theorem mapM_ints : ∀ row : List Int, (row.map PyData.int).mapM toInt1 = some row
  | [] => rfl
  | n :: row => by
    rw [List.map_cons, List.mapM_cons, mapM_ints row]
    rfl
theorem rowD_ints {s : Sch} {row : List Int} (c : (row.map PyData.int).all (hasD s) = true) : rowD s (.tuple (row.map PyData.int)) = ((nbrs row).all fun p => !decide (p ∈ s.bars)) := by
  show ((row.map PyData.int).all (hasD s) && (match (row.map PyData.int).mapM toInt1 with | some row => (nbrs row).all fun p => !decide (p ∈ s.bars) | none => false)) = _
  rw [mapM_ints, c, Bool.true_and]
theorem ints_of_has {s : Sch} : ∀ {ds : List PyData}, ds.all (hasD s) = true → ∃ row : List Int, ds = row.map PyData.int
  | [], _ => ⟨[], rfl⟩
  | d :: ds, h => by
    rw [List.all_cons, Bool.and_eq_true] at h
    obtain ⟨row, e⟩ := ints_of_has h.2
    cases d with
    | int i => exact ⟨i :: row, by rw [e]; rfl⟩
    | _ => exact absurd h.1 (by simp [hasD])
/-- the value of a row -/
def val (b : Int) (row : List Int) : Int := row.foldl (fun t d => t * b + d) 0
theorem val_snoc (b : Int) (row : List Int) (d : Int) : val b (row ++ [d]) = val b row * b + d := by
  unfold val
  rw [List.foldl_append]
  rfl
theorem isBase_bd {b : Int} (h : isBase b = true) : -6 ≤ b ∧ b ≤ 6 ∧ (2 ≤ b ∨ b ≤ -2) := by
  unfold isBase at h
  simp only [Bool.and_eq_true, decide_eq_true_eq] at h
  split at h <;> omega
theorem val_bd {b : Int} (hb : -6 ≤ b ∧ b ≤ 6) : ∀ (n : Nat) (row : List Int), row.length = n → (∀ d ∈ row, -9 ≤ d ∧ d ≤ 9) → (val b row).natAbs < 2 ^ (3 * n + 4)
  | 0, row, hn, h => by
    have : row = [] := List.eq_nil_of_length_eq_zero hn
    subst this
    show (0 : Int).natAbs < 2 ^ (3 * 0 + 4)
    decide
  | n + 1, row, hn, h => by
    have hne : row ≠ [] := by
      intro e
      subst e
      simp at hn
    have e := List.dropLast_concat_getLast hne
    have ih := val_bd hb n row.dropLast (by rw [List.length_dropLast]; omega) (fun d hd => h d (List.dropLast_subset _ hd))
    have hl := h _ (List.getLast_mem hne)
    rw [← e, val_snoc]
    generalize val b row.dropLast = x at *
    generalize row.getLast hne = y at *
    have h1 : (x * b + y).natAbs ≤ x.natAbs * 6 + 9 := by
      have h2 : (x * b).natAbs = x.natAbs * b.natAbs := Int.natAbs_mul x b
      have h3 : x.natAbs * b.natAbs ≤ x.natAbs * 6 := Nat.mul_le_mul_left _ (by omega)
      omega
    have h4 : 2 ^ (3 * (n + 1) + 4) = 2 ^ (3 * n + 4) * 8 := by
      rw [show 3 * (n + 1) + 4 = (3 * n + 4) + 3 by omega, Nat.pow_add]
    have h5 : 16 ≤ 2 ^ (3 * n + 4) := by
      have : 2 ^ 4 ≤ 2 ^ (3 * n + 4) := Nat.pow_le_pow_right (by omega) (by omega)
      omega
    omega
theorem row_small {s : Sch} (g : GoodS s) {row : List Int} (h : rowD s (.tuple (row.map PyData.int)) = true) : ∀ d ∈ row, d ∈ s.digits ∧ -9 ≤ d ∧ d ≤ 9 := by
  have h1 : (row.map PyData.int).all (hasD s) = true := by
    have : ((row.map PyData.int).all (hasD s) && _) = true := h
    exact (Bool.and_eq_true_iff.mp this).1
  intro d hd
  have := List.all_eq_true.mp h1 (.int d) (List.mem_map.mpr ⟨d, hd, rfl⟩)
  have hm : d ∈ s.digits := of_decide_eq_true this
  exact ⟨hm, g.dig.sm d hm⟩
theorem val_wide {s : Sch} (g : GoodS s) {row : List Int} {i : Nat} {n : Int} (e : row[i]? = some n) (h : rowD s (.tuple (row.map PyData.int)) = true) (hz : row.length ≤ 10000) : CMulW (val s.base (row.take i)) s.base := by
  have hb := isBase_bd g.base
  have h1 := val_bd (b := s.base) ⟨hb.1, hb.2.1⟩ (row.take i).length (row.take i) rfl (fun d hd => (row_small g h d (List.mem_of_mem_take hd)).2)
  have hl : (row.take i).length ≤ 10000 := by rw [List.length_take]; omega
  refine wide_mul (a := 3 * (row.take i).length + 4) (b := 3) h1 (by have := hb.1; have := hb.2.1; show s.base.natAbs < 8; omega) (by omega) (by omega) (by omega)
def partsD (s : Sch) : PyData := .tuple [.int s.base, .tuple (s.digits.map PyData.int), .tuple (s.bars.map pairD)]
theorem ints_lay : ∀ ns : List Int, PyData.canLayAll0 (ns.map PyData.int) = true
  | [] => by simp [PyData.canLayAll0]
  | n :: ns => by simp [PyData.canLayAll0, PyData.canLay0, ints_lay ns]
theorem ints_depth : ∀ ns : List Int, PyData.depthAll (ns.map PyData.int) = 0
  | [] => by simp [PyData.depthAll]
  | n :: ns => by simp [PyData.depthAll, PyData.depth, ints_depth ns]
theorem parts_shaped (s : Sch) : SeqAt.shaped (partsD s) = true := by
  have h1 := pairs_depth s.bars
  have h2 := ints_depth s.digits
  have hd : (partsD s).depth ≤ 64 := by
    simp only [partsD, PyData.depth, PyData.depthAll]
    omega
  show ((partsD s).canLay0 && decide ((partsD s).depth ≤ 64)) = true
  rw [Bool.and_eq_true]
  refine ⟨?_, decide_eq_true hd⟩
  simp [partsD, PyData.canLay0, PyData.canLayAll0, ints_lay, pairs_lay]
section
variable {P : Program} {w : World} {K : PySem.W.Frag} {mg : Str → Option Value} {base : Heap} (B : Blt mg) (T : Con5 mg) {CS : Addr} (C : SchC K mg CS)
include B T C
def sp_has (K : PySem.W.Frag) (CS : Addr) : Sp := fun vs H Q _ => ∃ a v s d, vs = [.ref a, v] ∧ SchAt K CS H a s ∧ GoodS s ∧ Dp K H v d ∧ Q (.bl (hasD s d)) H
theorem ok_has (D : MeD K CS "has" "Scheme.has" s_Scheme_has []) (F_is_digit : Fn P w K mg base "is_digit" 2 (sp_is_digit K)) : Me P w K mg base CS "has" 3 (sp_has K CS) := by
  refine D.me sc_Scheme_has (fun _ _ _ _ _ _ us hl => match us, hl with | [_, _], _ => rfl) (fun vs H Q E h => ?_) (fun f cdv A outer s H vs Q E hr h => ?_)
  · obtain ⟨_, _, _, _, rfl, _⟩ := h
    rfl
  · obtain ⟨a, v, sc, d, rfl, ⟨dx, t1, t2, t3, ha, h1, h2, h3⟩, g, hd, q⟩ := h
    refine ⟨_, (pss_one (ps_ret (pe_and (c0 F_is_digit hr (pa_cons (pv 1) pa_nil)) (pe_one (pe_cmpR op_in_seq (pv 1) (pe_fld (pv 0) rfl) (by rfl)))))), ?_⟩
    refine ⟨_, rfl, _, d, rfl, hd, _, rfl, ?_⟩
    refine ite2 (fun c => ?_) fun c => ?_
    · cases hd with
      | int i =>
        refine ⟨_, rfl, _, rfl, a, CS, dx, _, _, rfl, ha, C.cl, C.nD, rfl, t1, _, rfl, .inr h1, rfl, flat_ints _, ?_⟩
        show Q (.bl (inV (.int i) (sc.digits.map V.int))) H
        rw [inV_ints]
        exact q
      | _ => cases c
    · have e : hasD sc d = false := by
        cases d with
        | int i =>
          show decide (i ∈ sc.digits) = false
          refine decide_eq_false fun m => c ?_
          have := g.dig.sm i m
          show (decide (-9 ≤ i) && decide (i ≤ 9)) = true
          simp [this.1, this.2]
        | _ => rfl
      rw [e] at q
      exact q
def sp_allows (K : PySem.W.Frag) (CS : Addr) : Sp := fun vs H Q _ => ∃ a l r s, vs = [.ref a, .int l, optV r] ∧ SchAt K CS H a s ∧ GoodS s ∧ ∀ H', Same H H' → Q (.bl (alw s l r)) H'
theorem ok_allows (D : MeD K CS "allows" "Scheme.allows" s_Scheme_allows []) (F_has : Me P w K mg base CS "has" 3 (sp_has K CS)) : Me P w K mg base CS "allows" 4 (sp_allows K CS) := by
  refine D.me sc_Scheme_allows (fun _ _ _ _ _ _ us hl => match us, hl with | [_, _, _], _ => rfl) (fun vs H Q E h => ?_) (fun f cdv A outer s H vs Q E hr h => ?_)
  · obtain ⟨_, _, _, _, rfl, _⟩ := h
    rfl
  · obtain ⟨a, l, r, sc, rfl, hs, g, q⟩ := h
    refine ⟨_, (pss_cons (ps_if (pt_not (pt_val (mE F_has hr C.cl passL (pv 0) (pa_cons (pv 1) pa_nil)))) (pss_one (ps_ret pe_bl)) pss_nil) (pss_one (ps_ret (pe_or (pe_cmpR op_isN (pv 2) pe_non (nomark _)) (pe_one (pe_and (mE F_has hr C.cl passL (pv 0) (pa_cons (pv 2) pa_nil)) (pe_one (pe_cmpR (op_notInT hr) (pe_tup (pa_cons (pv 1) (pa_cons (pv 2) pa_nil))) (pe_fld (pv 0) rfl) (by rfl))))))))), ?_⟩
    have hs0 := hs
    obtain ⟨dx, t1, t2, t3, ha, h1, h2, h3⟩ := hs
    refine ⟨_, rfl, a, dx, _, rfl, ha, rfl, _, rfl, a, .int l, sc, .int l, rfl, hs0, g, .int l, _, rfl, ?_⟩
    show if (!decide (l ∈ sc.digits)) = true then _ else _
    by_cases c : l ∈ sc.digits
    · rw [if_neg (by simp [c])]
      cases r with
      | none =>
        refine ⟨_, rfl, rfl, _, rfl, ?_⟩
        have e : alw sc l none = true := decide_eq_true c
        have := q H (Same.refl H)
        rw [e] at this
        exact this
      | some r =>
        refine ⟨_, rfl, rfl, _, rfl, ?_⟩
        refine ⟨_, rfl, a, dx, _, rfl, ha, rfl, _, rfl, a, .int r, sc, .int r, rfl, hs0, g, .int r, _, rfl, ?_⟩
        show if decide (r ∈ sc.digits) = true then _ else _
        by_cases c2 : r ∈ sc.digits
        · rw [if_pos (by simp [c2])]
          refine ⟨_, rfl, _, rfl, by show 2 ≤ sizeLine; decide, fun p np => ?_⟩
          have s1 := same_new (o := .tup [.int l, .int r]) np
          have ha1 := s1 _ _ ha
          refine ⟨_, rfl, a, CS, dx, _, _, rfl, ha1, C.cl, C.nR, rfl, pairD (l, r), _, .tup (.inl (.inl upd_same)) (.cons (.int _) (.cons (.int _) .nil)), (Le.of s1).dp h2, pair_shaped _, pairs_shapedT _, ?_⟩
          have := q _ s1
          have e : alw sc l (some r) = !decide ((l, r) ∈ sc.bars) := by
            show (decide (l ∈ sc.digits) && (decide (r ∈ sc.digits) && !decide ((l, r) ∈ sc.bars))) = _
            simp [c, c2]
          rw [e] at this
          show Q (.bl (if true = true then !(((sc.bars.map pairD).any fun z => PyData.eqv z (pairD (l, r)))) else _)) _
          rw [if_pos rfl, any_pairs]
          exact this
        · rw [if_neg (by simp [c2])]
          have := q H (Same.refl H)
          have e : alw sc l (some r) = false := by
            show (decide (l ∈ sc.digits) && (decide (r ∈ sc.digits) && !decide ((l, r) ∈ sc.bars))) = _
            simp [c2]
          rw [e] at this
          exact this
    · rw [if_pos (by simp [c])]
      have := q H (Same.refl H)
      have e : alw sc l r = false := by
        cases r with
        | none => exact decide_eq_false c
        | some r =>
          show (decide (l ∈ sc.digits) && (decide (r ∈ sc.digits) && !decide ((l, r) ∈ sc.bars))) = _
          simp [c]
      rw [e] at this
      exact this
def sp_contains (K : PySem.W.Frag) (CS : Addr) : Sp := fun vs H Q _ => ∃ a v s d, vs = [.ref a, v] ∧ SchAt K CS H a s ∧ GoodS s ∧ Dp K H v d ∧ (∀ ds, d = .tuple ds → ds.length < sizeLine) ∧ ∀ H', Same H H' → Q (.bl (rowD s d)) H'
theorem ok_contains (D : SpD K CS "__contains__" "Scheme.__contains__" s_Scheme___contains__) (F_has : Me P w K mg base CS "has" 3 (sp_has K CS)) : Spc P w K mg base CS "__contains__" 4 (sp_contains K CS) := by
  refine D.spc sc_Scheme___contains__ (fun _ _ _ _ _ _ us hl => match us, hl with | [_, _], _ => rfl) (fun vs H Q E h => ?_) (fun f cdv A outer s H vs Q E hr h => ?_)
  · obtain ⟨_, _, _, _, rfl, _⟩ := h
    rfl
  · obtain ⟨a, v, sc, d, rfl, hs, g, hd, hz, q⟩ := h
    refine ⟨_, (pss_cons (ps_if (PW.pt (pw_or (pt_not (pt_val (pe_callB call_isi (by rfl) B.isinstance (by decide +kernel) (pa_cons (pv 1) (pa_cons (pe_bltn (v := .ty "tuple") (by rfl) B.tuple (by decide +kernel) rfl) pa_nil))))) (pw_or1 (pt_not (pt_val (pe_callB (cr_all rfl) (by rfl) B.all (by decide +kernel) (pa_cons (pe_lc rfl sc_Scheme___contains__.nd (own := [("item", 2)]) (g := gName 2) (tt := tYes) (pi_tup (pv 1)) (blkOk_by (N := ["self", "value", "item", "pair"]) (sc := defScope s_Scheme___contains__) (by decide +kernel)) (fun _ _ _ _ _ => (pg_name (i := 2) sc_Scheme___contains__.nd rfl (.inl rfl))) (fun _ _ _ _ _ => pts_nil) (fun _ _ _ _ _ => (mE F_has hr C.cl passL (pv 0) (pa_cons (pv 2) pa_nil)))) pa_nil))))))) (pss_one (ps_ret pe_bl)) pss_nil) (pss_one (ps_ret (pe_callB (cr_all rfl) (by rfl) B.all (by decide +kernel) (pa_cons (pe_lc rfl sc_Scheme___contains__.nd (own := [("pair", 3)]) (g := gName 3) (tt := tYes) (K75Z.pi_zipN (by rfl) B.zip (pa_cons (pv 1) (pa_cons (pe_slice sl_tupA (pv 1) (po_some pe_int) po_none) pa_nil))) (blkOk_by (N := ["self", "value", "item", "pair"]) (sc := defScope s_Scheme___contains__) (by decide +kernel)) (fun _ _ _ _ _ => (pg_name (i := 3) sc_Scheme___contains__.nd rfl (.inl rfl))) (fun _ _ _ _ _ => pts_nil) (fun _ _ _ _ _ => (pe_cmpR (r := rInT K true) (op_notInT hr) (pv 3) (pe_fldK (K := K) (pv 0) rfl rfl) (by rfl)))) pa_nil))))), ?_⟩
    have hs0 := hs
    obtain ⟨dx, t1, t2, t3, ha, h1, h2, h3⟩ := hs
    refine ⟨_, rfl, _, .ty "tuple", _, _, _, rfl, .ty _, tyX_of hd, kit_tuple d, _, rfl, ?_⟩
    cases hd with
    | @tup t xs ds ht hxs =>
      have hlen := sqL_len hxs
      have hz2 := hz ds rfl
      refine ⟨_, rfl, t, rfl, ⟨_, ht⟩, fun Dl nD => lc_tup (xs := xs) (LcI [] [] Dl H (Mapd ds fun d => .bl (hasD sc d))) (LcI.start (by intro a h; cases h) (by simp) nD Mapd.zero)
        (fun i H' _ p => (Le.of p.stp.same).sqT ht) (fun i x H' hx p => ?_) (fun H' p => ?_)⟩
      · have hi : i < ds.length := by
          have := (List.getElem?_eq_some_iff.mp hx).1
          omega
        obtain ⟨e1, e2⟩ := dpAll_get hxs hx
        have s1 := p.stp.same
        refine ⟨rfl, _, rfl, a, dx, _, rfl, s1 _ _ ha, rfl, _, rfl, a, _, sc, ds[i], rfl, (Le.of s1).sch hs0, g, (Le.of s1).dp (e2 hi), ?_⟩
        exact p.step (by simp) nD (by intro a h; cases h) (.refl (M := []) (by intro a h; cases h) (by simp)) (by omega) (fun acc _ r => r.yes (List.getElem?_eq_getElem hi))
      · obtain ⟨acc, hA, _, r⟩ := p.ex
        rw [hlen] at r
        have e := r.all
        subst e
        have s1 := p.stp.same
        refine ⟨Dl, ds.map (hasD sc), rfl, .inl (.inl (by rw [hA, List.map_map]; rfl)), _, rfl, ?_⟩
        have e0 : (ds.map (hasD sc)).all id = ds.all (hasD sc) := by rw [List.all_map]; rfl
        rw [e0]
        show if (!ds.all (hasD sc)) = true then _ else _
        by_cases c : ds.all (hasD sc) = true
        · rw [if_neg (by simp [c])]
          obtain ⟨row, hrow⟩ := ints_of_has c
          subst hrow
          have e1 := of_dp_ints hxs
          subst e1
          have ht1 := (Le.of s1).sqT ht
          have hlen1 : (row.map V.int).length = row.length := List.length_map _
          refine ⟨_, rfl, _, rfl, 1, rfl, t, _, rfl, ht1, fun hw => ?_, fun hw p np => ?_⟩
          · have hb : SqT K H' t ((row.drop 1).map V.int) := by
              have : row = [] := by
                have h0 := hw.1
                rw [hlen1] at h0
                have : row.length = 0 := by
                  rcases Nat.eq_zero_or_pos row.length with z | z
                  · exact z
                  · exfalso
                    have := sIx_one z
                    omega
                exact List.eq_nil_of_length_eq_zero this
              subst this
              exact ht1
            have sb : Same H H' := s1
            exact ⟨t, _, _, _, rfl, (Le.of sb).sqT ht, hb, fun D2 n2 => lc_zipT (nbrs row).length (by simp [nbrs]) (LcI [] [] D2 _ (Mapd (nbrs row) fun p => .bl (!decide (p ∈ sc.bars)))) (LcI.start (by intro a h; cases h) (by simp) n2 Mapd.zero)
              (fun i H5 p => ⟨(Le.of (sb.trans p.stp.same)).sqT ht, (Le.of p.stp.same).sqT hb⟩) (fun i x y T5 H5 hx hy p n5 => by
                obtain ⟨pr, e1, rfl, rfl, hi⟩ := nbr_get hx hy
                have s5 := sb.trans p.stp.same
                have s6 := same_new (o := .tup [V.int pr.1, V.int pr.2]) n5
                have s7 := s5.trans s6
                refine ⟨rfl, _, rfl, _, rfl, a, CS, dx, _, _, rfl, s7 _ _ ha, C.cl, C.nR, rfl, pairD pr, _, .tup (.inl (.inl upd_same)) (.cons (.int _) (.cons (.int _) .nil)), (Le.of s7).dp h2, pair_shaped _, pairs_shapedT _, ?_⟩
                show ∃ acc, _
                rw [if_pos rfl, any_pairs]
                exact p.step (by simp) n2 (by intro a h; cases h) (.nil s6) (by omega) (fun acc _ r => r.yes e1)) (fun H5 p => by
                obtain ⟨acc5, hA5, _, r5⟩ := p.ex
                have e5 := r5.all
                subst e5
                refine ⟨D2, (nbrs row).map (fun p => !decide (p ∈ sc.bars)), rfl, .inl (.inl (by rw [hA5, List.map_map]; rfl)), ?_⟩
                have := q H5 (sb.trans p.stp.same)
                rw [rowD_ints c] at this
                rw [List.all_map]
                exact this)⟩
          · have hb : SqT K (upd H' p (.tup (cutV (row.map V.int) (some 1) none))) p ((row.drop 1).map V.int) := by
              have e : cutV (row.map V.int) (some 1) none = (row.drop 1).map V.int := by
                unfold cutV
                rw [sIx_none, hlen1]
                rcases Nat.eq_zero_or_pos row.length with z | z
                · have : row = [] := List.eq_nil_of_length_eq_zero z
                  subst this
                  rfl
                · rw [sIx_one z, List.map_drop, List.take_of_length_le (by simp)]
              rw [e]
              exact .inl (.inl upd_same)
            have sb : Same H (upd H' p (.tup (cutV (row.map V.int) (some 1) none))) := s1.trans (same_new np)
            exact ⟨t, _, _, _, rfl, (Le.of sb).sqT ht, hb, fun D2 n2 => lc_zipT (nbrs row).length (by simp [nbrs]) (LcI [] [] D2 _ (Mapd (nbrs row) fun p => .bl (!decide (p ∈ sc.bars)))) (LcI.start (by intro a h; cases h) (by simp) n2 Mapd.zero)
              (fun i H5 p => ⟨(Le.of (sb.trans p.stp.same)).sqT ht, (Le.of p.stp.same).sqT hb⟩) (fun i x y T5 H5 hx hy p n5 => by
                obtain ⟨pr, e1, rfl, rfl, hi⟩ := nbr_get hx hy
                have s5 := sb.trans p.stp.same
                have s6 := same_new (o := .tup [V.int pr.1, V.int pr.2]) n5
                have s7 := s5.trans s6
                refine ⟨rfl, _, rfl, _, rfl, a, CS, dx, _, _, rfl, s7 _ _ ha, C.cl, C.nR, rfl, pairD pr, _, .tup (.inl (.inl upd_same)) (.cons (.int _) (.cons (.int _) .nil)), (Le.of s7).dp h2, pair_shaped _, pairs_shapedT _, ?_⟩
                show ∃ acc, _
                rw [if_pos rfl, any_pairs]
                exact p.step (by simp) n2 (by intro a h; cases h) (.nil s6) (by omega) (fun acc _ r => r.yes e1)) (fun H5 p => by
                obtain ⟨acc5, hA5, _, r5⟩ := p.ex
                have e5 := r5.all
                subst e5
                refine ⟨D2, (nbrs row).map (fun p => !decide (p ∈ sc.bars)), rfl, .inl (.inl (by rw [hA5, List.map_map]; rfl)), ?_⟩
                have := q H5 (sb.trans p.stp.same)
                rw [rowD_ints c] at this
                rw [List.all_map]
                exact this)⟩
        · rw [if_pos (by simp [c])]
          have := q H' s1
          have e : rowD sc (.tuple ds) = false := by
            show (ds.all (hasD sc) && _) = false
            rw [Bool.eq_false_iff.mpr c, Bool.false_and]
          rw [e] at this
          exact this
    | _ => exact q H (Same.refl H)
def sp_value_of (K : PySem.W.Frag) (CS : Addr) : Sp := fun vs H Q _ => ∃ a t s row, vs = [.ref a, .ref t] ∧ SchAt K CS H a s ∧ GoodS s ∧ SqT K H t (row.map V.int) ∧ rowD s (.tuple (row.map PyData.int)) = true ∧ row.length ≤ 10000 ∧ ∀ H', Same H H' → Q (.int (val s.base row)) H'
theorem ok_value_of (D : MeD K CS "value_of" "Scheme.value_of" s_Scheme_value_of []) (F_Scheme_contains : Spc P w K mg base CS "__contains__" 4 (sp_contains K CS)) : Me P w K mg base CS "value_of" 5 (sp_value_of K CS) := by
  refine D.me sc_Scheme_value_of (fun _ _ _ _ _ _ us hl => match us, hl with | [_, _], _ => rfl) (fun vs H Q E h => ?_) (fun f cdv A outer s H vs Q E hr h => ?_)
  · obtain ⟨_, _, _, _, rfl, _⟩ := h
    rfl
  · obtain ⟨a, t, sc, row, rfl, hs, g, ht, hrow, hz, q⟩ := h
    refine ⟨_, (pss_cons (ps_if (pt_cmpR (op_ownNotInM F_Scheme_contains hr) (pv 1) (pv 0) (by rfl)) (pss_one ps_never) pss_nil) (pss_cons (ps_set (i := 2) sc_Scheme_value_of.nd rfl (.inl rfl) pe_int) (pss_cons (ps_for (passes_of rfl) rfl (pi_tup (pv 1)) (pg_name (i := 3) sc_Scheme_value_of.nd rfl (.inl rfl)) (pss_one (ps_set (i := 2) sc_Scheme_value_of.nd rfl (.inl rfl) (pe_op op_add (pe_op op_mulW (pv 2) (pe_fld (pv 0) rfl)) (pv 3))))) (pss_one (ps_ret (pv 2)))))), ?_⟩
    have hs0 := hs
    obtain ⟨dx, t1, t2, t3, ha, h1, h2, h3⟩ := hs
    have hd : Dp K H (.ref t) (.tuple (row.map PyData.int)) := .tup ht (dp_ints row)
    refine ⟨_, rfl, _, rfl, a, dx, _, rfl, ha, a, .ref t, sc, _, rfl, hs0, g, hd, fun ds e => ?_, fun H1 s1 => ⟨_, rfl, _, rfl, ?_⟩⟩
    · cases e
      rw [List.length_map, sizeLine_eq]
      omega
    rw [hrow]
    refine ⟨_, rfl, t, rfl, ⟨_, (Le.of s1).sqT ht⟩, for_tup (xs := row.map V.int) (fun i σ H' => (∃ y, σ = [some (.ref a), some (.ref t), some (.int (val sc.base (row.take i))), y]) ∧ Same H1 H') ⟨⟨_, rfl⟩, Same.refl _⟩
      (fun i σ H' _ p => (Le.of (s1.trans p.2)).sqT ht) (fun i x σ H' hx p => ?_) (fun σ H' p => ?_)⟩
    · obtain ⟨⟨y, rfl⟩, sH⟩ := p
      rw [List.getElem?_map] at hx
      cases e : row[i]? with
      | none => rw [e] at hx; cases hx
      | some n =>
        rw [e] at hx
        cases hx
        have ha' := (s1.trans sH) _ _ ha
        refine ⟨_, rfl, _, rfl, a, CS, dx, _, _, rfl, ha', C.cl, C.nB, rfl, _, _, rfl, rfl, ?_, _, rfl, _, _, rfl, rfl, ?_⟩
        · exact val_wide g e hrow hz
        · refine ⟨⟨some (.int n), ?_⟩, sH⟩
          rw [take_succ_of e, val_snoc]
          rfl
    · obtain ⟨⟨y, rfl⟩, sH⟩ := p
      refine ⟨_, rfl, ?_⟩
      have := q H' (s1.trans sH)
      rw [List.length_map, List.take_length]
      exact this
def sp_Scheme_eq (K : PySem.W.Frag) (CS : Addr) : Sp := fun vs H Q _ => ∃ a b s, vs = [.ref a, .ref b] ∧ SchAt K CS H a s ∧ SchAt K CS H b s ∧ GoodS s ∧ Q (.bl true) H
theorem ok_Scheme_eq (D : SpD K CS "__eq__" "Scheme.__eq__" s_Scheme___eq__) : Spc P w K mg base CS "__eq__" 1 (sp_Scheme_eq K CS) := by
  refine D.spc sc_Scheme___eq__ (fun _ _ _ _ _ _ us hl => match us, hl with | [_, _], _ => rfl) (fun vs H Q E h => ?_) (fun f cdv A outer s H vs Q E hr h => ?_)
  · obtain ⟨_, _, _, rfl, _⟩ := h
    rfl
  · obtain ⟨a, b, sc, rfl, ⟨dx, t1, t2, t3, ha, h1, h2, h3⟩, ⟨dy, u1, u2, u3, hb, k1, k2, k3⟩, g, q⟩ := h
    refine ⟨_, (pss_one (ps_ret (pe_and (pe_callB call_isi (by rfl) B.isinstance (by decide +kernel) (pa_cons (pv 1) (pa_cons (pe_glob (v := .ref CS) rfl C.mg rfl) pa_nil))) (pe_one (pe_cmpR (op_eqD hr.units) (pe_fld (pv 0) rfl) (pe_fld (pv 1) rfl) (nomark _)))))), ?_⟩
    refine ⟨_, rfl, _, .ref CS, _, _, _, rfl, .own CS, C.ic.ty C.cl hb, kit_self, _, rfl, ?_⟩
    have d1 : Dp K H (.ref t3) (partsD sc) := .tup h3 (.cons (.int _) (.cons (.tup h1 (dp_ints _)) (.cons h2 .nil)))
    have d2 : Dp K H (.ref u3) (partsD sc) := .tup k3 (.cons (.int _) (.cons (.tup k1 (dp_ints _)) (.cons k2 .nil)))
    refine ⟨_, rfl, a, CS, dx, _, _, rfl, ha, C.cl, C.nP, rfl, _, rfl, b, CS, dy, _, _, rfl, hb, C.cl, C.nP, rfl, _, _, d1, d2, parts_shaped sc, parts_shaped sc, ?_⟩
    rw [SeqAt.eqv_refl]
    · exact q
    · exact SeqAt.canLay_of_shaped (parts_shaped sc)
end
end K75
set_option maxHeartbeats 2000000
/-! ### writing, in plain Lean -/
namespace K75
open PySem
abbrev Pl := Int × Option Int
def stepsP (s : Sch) (p : Pl) : List Pl := (s.digits.filter fun d => decide ((p.1 - d).fmod s.base = 0) && alw s d p.2).map fun d => ((p.1 - d).fdiv s.base, some d)
def addNew (ls : List Pl) (f : List Pl) (p : Pl) : List Pl := if p ∈ ls ++ f then f else f ++ [p]
def furP (s : Sch) (met : List Pl) (last : List Pl) : List Pl := last.foldl (fun f old => (stepsP s old).foldl (addNew met) f) []
def lastL (ls : List (List Pl)) : List Pl := ls.getLastD []
def zero (l : List Pl) : Bool := l.any fun p => decide (p.1 = 0)
def fur (s : Sch) (ls : List (List Pl)) : List Pl := furP s ls.flatten (lastL ls)
def runL (s : Sch) : Nat → List (List Pl) → List (List Pl)
  | 0, ls => ls
  | k + 1, ls => if zero (lastL ls) = true then ls else if fur s ls = [] then ls else runL s k (ls ++ [fur s ls])
def fuelN (n : Int) : Nat := n.natAbs.log2 + 120
def lvls (s : Sch) (n : Int) : List (List Pl) := runL s (fuelN n) [[(n, none)]]
def minL : List Int → Int
  | [] => 0
  | a :: r => r.foldl min a
def trc (s : Sch) : List (List Pl) → Int → Int → List Int → List Int
  | [], _, _, row => row
  | lv :: more, rest, digit, row =>
    let rest' := digit + s.base * rest
    let d' := minL ((lv.filter fun p => decide (p.1 = rest') && alw s digit p.2).map fun p => p.2.getD 0)
    trc s more rest' d' (row ++ [d'])
def trace (s : Sch) (ls : List (List Pl)) : List Int :=
  if ls.length = 1 then [] else
    let d0 := minL (((lastL ls).filter fun p => decide (p.1 = 0)).map fun p => p.2.getD 0)
    trc s (mid ls) 0 d0 [d0]
def wr (s : Sch) (n : Int) : Option (List Int) := if zero (lastL (lvls s n)) = true then some (trace s (lvls s n)) else none
/-! #### what steps are -/
theorem steps_mem {s : Sch} (g : GoodS s) {p q : Pl} (h : q ∈ stepsP s p) : ∃ d, q.2 = some d ∧ d ∈ s.digits ∧ alw s d p.2 = true ∧ p.1 = s.base * q.1 + d := by
  obtain ⟨d, hd, rfl⟩ := List.mem_map.mp h
  obtain ⟨h1, h2⟩ := List.mem_filter.mp hd
  rw [Bool.and_eq_true] at h2
  refine ⟨d, rfl, h1, h2.2, ?_⟩
  have h3 : (p.1 - d).fmod s.base = 0 := of_decide_eq_true h2.1
  have h4 := Int.mul_fdiv_add_fmod (p.1 - d) s.base
  rw [h3] at h4
  show p.1 = s.base * (p.1 - d).fdiv s.base + d
  omega
theorem mem_steps {s : Sch} (g : GoodS s) {p : Pl} {r d : Int} (hd : d ∈ s.digits) (ha : alw s d p.2 = true) (e : p.1 = s.base * r + d) : (r, some d) ∈ stepsP s p := by
  have hb := isBase_bd g.base
  have h0 : s.base ≠ 0 := by omega
  have e2 : p.1 - d = s.base * r := by omega
  refine List.mem_map.mpr ⟨d, List.mem_filter.mpr ⟨hd, ?_⟩, ?_⟩
  · rw [ha, Bool.and_true, e2]
    exact decide_eq_true (Int.mul_fmod_right _ _)
  · rw [e2, Int.mul_fdiv_cancel_left _ h0]
/-! #### the new places of a level -/
structure NewOf (s : Sch) (ls : List (List Pl)) (f : List Pl) : Prop where
  nd : f.Nodup
  out : ∀ p ∈ f, p ∉ ls.flatten
  src : ∀ p ∈ f, ∃ old ∈ lastL ls, p ∈ stepsP s old
theorem NewOf.nil (s : Sch) (ls : List (List Pl)) : NewOf s ls [] := ⟨List.nodup_nil, by simp, by simp⟩
theorem NewOf.add {s : Sch} {ls : List (List Pl)} {f : List Pl} (h : NewOf s ls f) {old p : Pl} (ho : old ∈ lastL ls) (hp : p ∈ stepsP s old) : NewOf s ls (addNew ls.flatten f p) := by
  unfold addNew
  by_cases c : p ∈ ls.flatten ++ f
  · rw [if_pos c]; exact h
  · rw [if_neg c]
    rw [List.mem_append, not_or] at c
    refine ⟨List.nodup_append.mpr ⟨h.nd, by simp, ?_⟩, fun q hq => ?_, fun q hq => ?_⟩
    · intro a ha b hb e
      rw [List.mem_singleton] at hb
      exact c.2 (by rw [← hb, ← e]; exact ha)
    · rcases List.mem_append.mp hq with hq | hq
      · exact h.out q hq
      · rw [List.mem_singleton] at hq
        rw [hq]; exact c.1
    · rcases List.mem_append.mp hq with hq | hq
      · exact h.src q hq
      · rw [List.mem_singleton] at hq
        exact ⟨old, ho, by rw [hq]; exact hp⟩
theorem NewOf.adds {s : Sch} {ls : List (List Pl)} {old : Pl} (ho : old ∈ lastL ls) : ∀ (qs : List Pl) {f : List Pl}, NewOf s ls f → (∀ p ∈ qs, p ∈ stepsP s old) → NewOf s ls (qs.foldl (addNew ls.flatten) f)
  | [], _, h, _ => h
  | p :: qs, f, h, hq => NewOf.adds ho qs (h.add ho (hq p List.mem_cons_self)) fun x hx => hq x (List.mem_cons_of_mem _ hx)
theorem NewOf.all {s : Sch} {ls : List (List Pl)} : ∀ (os : List Pl) {f : List Pl}, NewOf s ls f → (∀ o ∈ os, o ∈ lastL ls) → NewOf s ls (os.foldl (fun f old => (stepsP s old).foldl (addNew ls.flatten) f) f)
  | [], _, h, _ => h
  | o :: os, f, h, ho => NewOf.all os (NewOf.adds (ho o List.mem_cons_self) _ h fun _ hp => hp) fun x hx => ho x (List.mem_cons_of_mem _ hx)
theorem NewOf.fur (s : Sch) (ls : List (List Pl)) : NewOf s ls (fur s ls) := NewOf.all _ (NewOf.nil s ls) fun _ h => h
/-! #### the levels -/
inductive LI (s : Sch) (n : Int) : List (List Pl) → Prop
  | one : LI s n [[(n, none)]]
  | snoc {ls : List (List Pl)} {f : List Pl} (h : LI s n ls) (hf : NewOf s ls f) (hne : f ≠ []) : LI s n (ls ++ [f])
theorem lastL_snoc (ls : List (List Pl)) (f : List Pl) : lastL (ls ++ [f]) = f := by simp [lastL]
section
variable {s : Sch} {n : Int} {ls : List (List Pl)}
theorem LI.ne (h : LI s n ls) : ls ≠ [] := by
  cases h <;> simp
theorem LI.last (h : LI s n ls) : lastL ls ∈ ls := by
  cases h with
  | one => simp [lastL]
  | snoc h hf hne => rw [lastL_snoc]; simp
theorem LI.nodup (h : LI s n ls) : ls.flatten.Nodup := by
  induction h with
  | one => simp
  | snoc h hf hne ih =>
    rw [List.flatten_append]
    refine List.nodup_append.mpr ⟨ih, by simpa using hf.nd, fun a ha b hb e => ?_⟩
    rw [List.flatten_cons, List.flatten_nil, List.append_nil] at hb
    exact hf.out b hb (by rw [← e]; exact ha)
/-- how far a level lies: by its place -/
def Far (n : Int) (i : Nat) (l : List Pl) : Prop := ∀ p ∈ l, (2 : Int) ^ i * ((p.1.natAbs : Int) - 9) ≤ (n.natAbs : Int)
theorem far_step {b r r' d : Int} (hb : -6 ≤ b ∧ b ≤ 6 ∧ (2 ≤ b ∨ b ≤ -2)) (hd : -9 ≤ d ∧ d ≤ 9) (e : r = b * r' + d) : 2 * ((r'.natAbs : Int) - 9) ≤ (r.natAbs : Int) - 9 := by
  have h1 : (b * r').natAbs = b.natAbs * r'.natAbs := Int.natAbs_mul b r'
  have h2 : 2 * r'.natAbs ≤ b.natAbs * r'.natAbs := Nat.mul_le_mul_right _ (by omega)
  omega
theorem LI.far (g : GoodS s) (h : LI s n ls) : Far n (ls.length - 1) (lastL ls) := by
  induction h with
  | one =>
    intro p hp
    simp [lastL] at hp
    subst hp
    simp
    omega
  | @snoc ls f h hf hne ih =>
    rw [lastL_snoc]
    intro p hp
    obtain ⟨old, ho, hs⟩ := hf.src p hp
    obtain ⟨d, _, hd, _, e⟩ := steps_mem g hs
    have h1 := ih old ho
    have h2 := far_step (isBase_bd g.base) (g.dig.sm d hd) e
    have hl : 0 < ls.length := List.length_pos_iff.mpr h.ne
    have e2 : (ls ++ [f]).length - 1 = (ls.length - 1) + 1 := by
      rw [List.length_append]
      simp
      omega
    rw [e2, Int.pow_succ, Int.mul_assoc]
    have h3 : (0 : Int) ≤ 2 ^ (ls.length - 1) := Int.le_of_lt (Int.pow_pos (by decide))
    exact Int.le_trans (Int.mul_le_mul_of_nonneg_left h2 h3) h1
theorem nodup_le {α : Type} [DecidableEq α] : ∀ (l D : List α), l.Nodup → (∀ x ∈ l, x ∈ D) → l.length ≤ D.length
  | [], _, _, _ => Nat.zero_le _
  | x :: l, D, hn, hs => by
    obtain ⟨h1, h2⟩ := List.nodup_cons.mp hn
    have hx : x ∈ D := hs x List.mem_cons_self
    have ih := nodup_le l (D.erase x) h2 fun y hy => by
      have hne : y ≠ x := fun e => h1 (e ▸ hy)
      exact (List.mem_erase_of_ne hne).2 (hs y (List.mem_cons_of_mem _ hy))
    have e := List.length_erase_of_mem hx
    have hp : 0 < D.length := List.length_pos_of_mem hx
    rw [List.length_cons]
    omega
/-- the places near r -/
def nearL (s : Sch) (r : Int) (k : Nat) : List Pl := (List.range (2 * k + 1)).flatMap fun (j : Nat) => s.digits.map fun d => (r - (k : Int) + (j : Int), some d)
theorem near_len (s : Sch) (r : Int) (k : Nat) : (nearL s r k).length = (2 * k + 1) * s.digits.length := by
  unfold nearL
  generalize 2 * k + 1 = m
  induction m with
  | zero => simp
  | succ m ih => rw [List.range_succ, List.flatMap_append, List.length_append, ih]; simp [Nat.add_mul]
theorem near_mem {s : Sch} {r x d : Int} {k : Nat} (h : (x - r).natAbs ≤ k) (hd : d ∈ s.digits) : (x, some d) ∈ nearL s r k := by
  refine List.mem_flatMap.mpr ⟨(x - r + k).toNat, List.mem_range.mpr (by omega), List.mem_map.mpr ⟨d, hd, ?_⟩⟩
  congr 1
  omega
def cor (p : Pl) : Bool := decide (p.1.natAbs ≤ 9) && p.2.isSome
theorem LI.src (g : GoodS s) (h : LI s n ls) : ∀ p ∈ ls.flatten, p = (n, none) ∨ ∃ d ∈ s.digits, p.2 = some d := by
  induction h with
  | one => intro p hp; simp at hp; exact .inl hp
  | snoc h hf hne ih =>
    intro p hp
    rw [List.flatten_append, List.mem_append] at hp
    rcases hp with hp | hp
    · exact ih p hp
    · rw [List.flatten_cons, List.flatten_nil, List.append_nil] at hp
      obtain ⟨old, ho, hs⟩ := hf.src p hp
      obtain ⟨d, e1, hd, _⟩ := steps_mem g hs
      exact .inr ⟨d, hd, e1⟩
theorem LI.count (g : GoodS s) (h : LI s n ls) : ls.length ≤ n.natAbs.log2 + 1 + (ls.flatten.filter cor).length := by
  induction h with
  | one => simp; omega
  | @snoc ls f h hf hne ih =>
    have hl : 0 < ls.length := List.length_pos_iff.mpr h.ne
    rw [List.length_append, List.flatten_append, List.filter_append, List.length_append, List.flatten_cons, List.flatten_nil, List.append_nil]
    rw [List.length_singleton]
    by_cases c : ls.length < n.natAbs.log2 + 1
    · omega
    · have hfar := (LI.snoc h hf hne).far g
      rw [lastL_snoc] at hfar
      have e2 : (ls ++ [f]).length - 1 = ls.length := by simp
      rw [e2] at hfar
      have hall : f.filter cor = f := by
        refine List.filter_eq_self.mpr fun p hp => ?_
        obtain ⟨old, ho, hs⟩ := hf.src p hp
        obtain ⟨d, e1, _⟩ := steps_mem g hs
        have h1 := hfar p hp
        have h2 : n.natAbs < 2 ^ ls.length := by
          have h3 : n.natAbs < 2 ^ (n.natAbs.log2 + 1) := Nat.lt_log2_self
          exact Nat.lt_of_lt_of_le h3 (Nat.pow_le_pow_right (by omega) (by omega))
        have h4 : p.1.natAbs ≤ 9 := by
          rcases Nat.lt_or_ge 9 p.1.natAbs with z | z
          · exfalso
            have h5 : (1 : Int) ≤ (p.1.natAbs : Int) - 9 := by omega
            have h6 : (2 : Int) ^ ls.length * 1 ≤ 2 ^ ls.length * ((p.1.natAbs : Int) - 9) := Int.mul_le_mul_of_nonneg_left h5 (Int.le_of_lt (Int.pow_pos (by decide)))
            have h7 : ((2 ^ ls.length : Nat) : Int) = (2 : Int) ^ ls.length := by simp
            have h8 : (2 : Int) ^ ls.length ≤ (n.natAbs : Int) := by omega
            rw [← h7] at h8
            omega
          · exact z
        unfold cor
        rw [e1, decide_eq_true h4]
        rfl
      rw [hall]
      have : 0 < f.length := List.length_pos_iff.mpr hne
      omega
theorem LI.core_le (g : GoodS s) (h : LI s n ls) : (ls.flatten.filter cor).length ≤ 114 := by
  have h1 := nodup_le (ls.flatten.filter cor) (nearL s 0 9) (h.nodup.filter _) fun p hp => by
    obtain ⟨h1, h2⟩ := List.mem_filter.mp hp
    unfold cor at h2
    rw [Bool.and_eq_true] at h2
    have h3 : p.1.natAbs ≤ 9 := of_decide_eq_true h2.1
    rcases h.src g p h1 with e | ⟨d, hd, e⟩
    · rw [e] at h2
      exact absurd h2.2 (by simp)
    · have : p = (p.1, some d) := Prod.ext rfl e
      rw [this]
      exact near_mem (by omega) hd
  rw [near_len] at h1
  have := g.dig.hi
  omega
theorem LI.len (g : GoodS s) (h : LI s n ls) : ls.length ≤ n.natAbs.log2 + 115 := by
  have h1 := h.count g
  have h2 := h.core_le g
  omega
/-- how wide a level is -/
theorem LI.wide (g : GoodS s) (h : LI s n ls) : ∀ p ∈ lastL ls, ∀ q ∈ lastL ls, (p.1 - q.1).natAbs ≤ 18 := by
  induction h with
  | one => intro p hp q hq; simp [lastL] at hp hq; subst hp hq; simp
  | @snoc ls f h hf hne ih =>
    rw [lastL_snoc]
    intro p hp q hq
    obtain ⟨o1, ho1, hs1⟩ := hf.src p hp
    obtain ⟨o2, ho2, hs2⟩ := hf.src q hq
    obtain ⟨d1, _, hd1, _, e1⟩ := steps_mem g hs1
    obtain ⟨d2, _, hd2, _, e2⟩ := steps_mem g hs2
    have h1 := ih o1 ho1 o2 ho2
    have b1 := g.dig.sm d1 hd1
    have b2 := g.dig.sm d2 hd2
    have hb := isBase_bd g.base
    have e3 : s.base * (p.1 - q.1) = (o1.1 - o2.1) - (d1 - d2) := by rw [Int.mul_sub]; omega
    have h2 : (s.base * (p.1 - q.1)).natAbs = s.base.natAbs * (p.1 - q.1).natAbs := Int.natAbs_mul _ _
    have h3 : 2 * (p.1 - q.1).natAbs ≤ s.base.natAbs * (p.1 - q.1).natAbs := Nat.mul_le_mul_right _ (by omega)
    omega
theorem NewOf.len (g : GoodS s) (h : LI s n ls) {f : List Pl} (hf : NewOf s ls f) : f.length ≤ 222 := by
  cases f with
  | nil => simp
  | cons p f =>
    have w := (LI.snoc h hf (by simp)).wide g
    rw [lastL_snoc] at w
    have h1 := nodup_le (p :: f) (nearL s p.1 18) hf.nd fun q hq => by
      obtain ⟨old, ho, hs⟩ := hf.src q hq
      obtain ⟨d, e1, hd, _⟩ := steps_mem g hs
      have : q = (q.1, some d) := Prod.ext rfl e1
      rw [this]
      exact near_mem (w q hq p List.mem_cons_self) hd
    rw [near_len] at h1
    have := g.dig.hi
    omega
theorem LI.flat (g : GoodS s) (h : LI s n ls) : ls.flatten.length ≤ 222 * ls.length := by
  induction h with
  | one => simp
  | snoc h hf hne ih =>
    have := hf.len g h
    rw [List.flatten_append, List.length_append, List.length_append, List.flatten_cons, List.flatten_nil, List.append_nil, List.length_singleton]
    omega
/-! #### the run's end -/
theorem runL_li (k : Nat) : ∀ {ls : List (List Pl)}, LI s n ls → LI s n (runL s k ls) := by
  induction k with
  | zero => intro ls h; exact h
  | succ k ih =>
    intro ls h
    unfold runL
    split
    · exact h
    · split
      · exact h
      · rename_i c
        exact ih (.snoc h (NewOf.fur s ls) c)
theorem lvls_li (s : Sch) (n : Int) : LI s n (lvls s n) := runL_li _ .one
/-! #### the row that is traced -/
theorem foldl_min_mem : ∀ (r : List Int) (a : Int), r.foldl min a = a ∨ r.foldl min a ∈ r
  | [], a => .inl rfl
  | b :: r, a => by
    rw [List.foldl_cons]
    rcases foldl_min_mem r (min a b) with h | h
    · rw [h]
      by_cases c : a ≤ b
      · rw [Int.min_eq_left c]; exact .inl rfl
      · rw [Int.min_eq_right (by omega)]; exact .inr List.mem_cons_self
    · exact .inr (List.mem_cons_of_mem _ h)
theorem minL_mem {l : List Int} (h : l ≠ []) : minL l ∈ l := by
  cases l with
  | nil => exact absurd rfl h
  | cons a r =>
    show r.foldl min a ∈ a :: r
    rcases foldl_min_mem r a with e | e
    · rw [e]; exact List.mem_cons_self
    · exact List.mem_cons_of_mem _ e
theorem foldl_min_le : ∀ (r : List Int) (a : Int), r.foldl min a ≤ a ∧ ∀ x ∈ r, r.foldl min a ≤ x
  | [], a => ⟨Int.le_refl _, by simp⟩
  | b :: r, a => by
    rw [List.foldl_cons]
    obtain ⟨h1, h2⟩ := foldl_min_le r (min a b)
    have h3 : min a b ≤ a := Int.min_le_left a b
    have h4 : min a b ≤ b := Int.min_le_right a b
    refine ⟨by omega, fun x hx => ?_⟩
    rcases List.mem_cons.mp hx with rfl | hx
    · omega
    · exact h2 x hx
theorem minL_le {l : List Int} : ∀ x ∈ l, minL l ≤ x := by
  intro x hx
  cases l with
  | nil => cases hx
  | cons a r =>
    obtain ⟨h1, h2⟩ := foldl_min_le r a
    show r.foldl min a ≤ x
    rcases List.mem_cons.mp hx with rfl | hx
    · exact h1
    · exact h2 x hx
theorem min_is {l : List Int} {m : Int} (hm : m ∈ l) (h : ∀ y ∈ l, m ≤ y) : m = minL l := by
  have h1 := minL_le m hm
  have h2 := h _ (minL_mem (List.ne_nil_of_mem hm))
  omega
structure RowOk (s : Sch) (row : List Int) : Prop where
  dig : ∀ d ∈ row, d ∈ s.digits
  nb : ∀ p ∈ nbrs row, p ∉ s.bars
theorem nbrs_snoc : ∀ (row : List Int) (a b : Int), nbrs (row ++ [a] ++ [b]) = nbrs (row ++ [a]) ++ [(a, b)]
  | [], a, b => rfl
  | [x], a, b => rfl
  | x :: y :: row, a, b => by
    have := nbrs_snoc (y :: row) a b
    unfold nbrs at *
    simp only [List.cons_append, List.drop_succ_cons, List.drop_zero, List.zip_cons_cons] at *
    rw [this]
theorem trc_ok (g : GoodS s) (h : LI s n ls) : ∀ (rest digit : Int) (row0 : List Int), (∃ old ∈ lastL ls, (rest, some digit) ∈ stepsP s old) → RowOk s (row0 ++ [digit]) → val s.base (row0 ++ [digit]) = digit + s.base * rest →
    RowOk s (trc s (ls.drop 1).reverse rest digit (row0 ++ [digit])) ∧ val s.base (trc s (ls.drop 1).reverse rest digit (row0 ++ [digit])) = n ∧ (trc s (ls.drop 1).reverse rest digit (row0 ++ [digit])).length = row0.length + ls.length := by
  induction h with
  | one =>
    intro rest digit row0 ⟨old, ho, hs⟩ ok hv
    simp [lastL] at ho
    subst ho
    obtain ⟨d, e1, _, _, e2⟩ := steps_mem g hs
    cases e1
    refine ⟨ok, ?_, by simp [trc]⟩
    show val s.base (row0 ++ [digit]) = n
    rw [hv]
    simp only at e2
    omega
  | @snoc ls f h hf hne ih =>
    intro rest digit row0 ⟨old, ho, hs⟩ ok hv
    rw [lastL_snoc] at ho
    obtain ⟨d, e1, hd, ha, e2⟩ := steps_mem g hs
    cases e1
    simp only at e2
    have hd1 : (ls ++ [f]).drop 1 = ls.drop 1 ++ [f] := by
      rw [List.drop_append_of_le_length]
      exact List.length_pos_iff.mpr h.ne
    rw [hd1, List.reverse_append, List.reverse_singleton, List.singleton_append]
    have e3 : old.1 = digit + s.base * rest := by omega
    have hm : old ∈ f.filter fun p => decide (p.1 = digit + s.base * rest) && alw s digit p.2 := List.mem_filter.mpr ⟨ho, by rw [ha, Bool.and_true]; exact decide_eq_true e3⟩
    have hne2 : ((f.filter fun p => decide (p.1 = digit + s.base * rest) && alw s digit p.2).map fun p => p.2.getD 0) ≠ [] := List.ne_nil_of_mem (List.mem_map.mpr ⟨old, hm, rfl⟩)
    obtain ⟨p, hp, e4⟩ := List.mem_map.mp (minL_mem hne2)
    obtain ⟨hp1, hp2⟩ := List.mem_filter.mp hp
    rw [Bool.and_eq_true] at hp2
    have e5 : p.1 = digit + s.base * rest := of_decide_eq_true hp2.1
    obtain ⟨old2, ho2, hs2⟩ := hf.src p hp1
    obtain ⟨d2, e6, hd2, _, _⟩ := steps_mem g hs2
    have e7 : p = (digit + s.base * rest, some (minL ((f.filter fun p => decide (p.1 = digit + s.base * rest) && alw s digit p.2).map fun p => p.2.getD 0))) := by
      refine Prod.ext e5 ?_
      rw [← e4, e6]
      rfl
    have e8 : d2 = minL ((f.filter fun p => decide (p.1 = digit + s.base * rest) && alw s digit p.2).map fun p => p.2.getD 0) := by
      rw [← e4, e6]
      rfl
    have key := ih (digit + s.base * rest) (minL ((f.filter fun p => decide (p.1 = digit + s.base * rest) && alw s digit p.2).map fun p => p.2.getD 0)) (row0 ++ [digit]) ⟨old2, ho2, by rw [← e7]; exact hs2⟩ ?_ ?_
    · refine ⟨key.1, key.2.1, ?_⟩
      show (trc s (ls.drop 1).reverse _ _ _).length = _
      rw [key.2.2, List.length_append, List.length_append, List.length_singleton, List.length_singleton]
      omega
    · refine ⟨fun x hx => ?_, fun q hq => ?_⟩
      · rcases List.mem_append.mp hx with hx | hx
        · exact ok.dig x hx
        · rw [List.mem_singleton] at hx
          rw [hx, ← e8]
          exact hd2
      · rw [nbrs_snoc] at hq
        rcases List.mem_append.mp hq with hq | hq
        · exact ok.nb q hq
        · rw [List.mem_singleton] at hq
          rw [hq, ← e8]
          have := hp2.2
          rw [e6] at this
          have h9 : (decide (digit ∈ s.digits) && (decide (d2 ∈ s.digits) && !decide ((digit, d2) ∈ s.bars))) = true := this
          simp only [Bool.and_eq_true, Bool.not_eq_true', decide_eq_false_iff_not] at h9
          exact h9.2.2
    · rw [val_snoc, hv, Int.mul_comm]
      omega
theorem rowOk_rowD {row : List Int} (h : RowOk s row) : rowD s (.tuple (row.map PyData.int)) = true := by
  have h1 : (row.map PyData.int).all (hasD s) = true := by
    rw [List.all_eq_true]
    intro x hx
    obtain ⟨d, hd, rfl⟩ := List.mem_map.mp hx
    exact decide_eq_true (h.dig d hd)
  rw [rowD_ints h1, List.all_eq_true]
  intro p hp
  have := h.nb p hp
  simp [this]
theorem zero_mem {l : List Pl} (h : zero l = true) : ∃ p ∈ l, p.1 = 0 := by
  obtain ⟨p, hp, e⟩ := List.any_eq_true.mp h
  exact ⟨p, hp, of_decide_eq_true e⟩
/-- what is written: a row of the number -/
theorem trace_ok (g : GoodS s) (h : LI s n ls) (hz : zero (lastL ls) = true) : rowD s (.tuple ((trace s ls).map PyData.int)) = true ∧ val s.base (trace s ls) = n ∧ (trace s ls).length + 1 = ls.length := by
  cases h with
  | one =>
    obtain ⟨p, hp, e⟩ := zero_mem hz
    simp [lastL] at hp
    subst hp
    exact ⟨rowOk_rowD ⟨by simp [trace], by simp [trace, nbrs]⟩, e.symm, rfl⟩
  | @snoc ls f h hf hne =>
    rw [lastL_snoc] at hz
    obtain ⟨p0, hp0, e0⟩ := zero_mem hz
    have hl : 0 < ls.length := List.length_pos_iff.mpr h.ne
    have hlen : ¬ (ls ++ [f]).length = 1 := by rw [List.length_append, List.length_singleton]; omega
    unfold trace
    rw [if_neg hlen, lastL_snoc]
    have hmid : mid (ls ++ [f]) = (ls.drop 1).reverse := by
      unfold mid
      rw [List.drop_append_of_le_length hl, List.dropLast_concat]
    rw [hmid]
    have hne2 : ((f.filter fun p => decide (p.1 = 0)).map fun p => p.2.getD 0) ≠ [] := List.ne_nil_of_mem (List.mem_map.mpr ⟨p0, List.mem_filter.mpr ⟨hp0, decide_eq_true e0⟩, rfl⟩)
    obtain ⟨p, hp, e4⟩ := List.mem_map.mp (minL_mem hne2)
    obtain ⟨hp1, hp2⟩ := List.mem_filter.mp hp
    have e5 : p.1 = 0 := of_decide_eq_true hp2
    obtain ⟨old2, ho2, hs2⟩ := hf.src p hp1
    obtain ⟨d2, e6, hd2, _, _⟩ := steps_mem g hs2
    have e8 : d2 = minL ((f.filter fun p => decide (p.1 = 0)).map fun p => p.2.getD 0) := by
      rw [← e4, e6]
      rfl
    have e7 : p = (0, some (minL ((f.filter fun p => decide (p.1 = 0)).map fun p => p.2.getD 0))) := by
      refine Prod.ext e5 ?_
      rw [← e8]
      exact e6
    have key := trc_ok g h 0 (minL ((f.filter fun p => decide (p.1 = 0)).map fun p => p.2.getD 0)) [] ⟨old2, ho2, by rw [← e7]; exact hs2⟩ ⟨fun x hx => ?_, by simp [nbrs]⟩ ?_
    · refine ⟨rowOk_rowD key.1, key.2.1, ?_⟩
      have := key.2.2
      rw [List.length_append, List.length_singleton]
      simp only [List.nil_append] at this
      rw [this]
      simp
    · simp only [List.nil_append, List.mem_singleton] at hx
      rw [hx, ← e8]
      exact hd2
    · simp [val]
theorem wr_ok (g : GoodS s) {row : List Int} (h : wr s n = some row) : rowD s (.tuple (row.map PyData.int)) = true ∧ val s.base row = n ∧ row.length ≤ n.natAbs.log2 + 115 := by
  unfold wr at h
  by_cases c : zero (lastL (lvls s n)) = true
  · rw [if_pos c] at h
    cases h
    have k := trace_ok g (lvls_li s n) c
    have := (lvls_li s n).len g
    exact ⟨k.1, k.2.1, by omega⟩
  · rw [if_neg c] at h
    cases h
end
end K75
set_option maxHeartbeats 2000000
namespace K75
open PySem PySem.Spec PyProof.Rows L2
theorem newU {H0 H : Hp} {p : Addr} {o : HO} (s : Same H0 H) (n : H0 p = none) : Same H0 (upd H p o) := fun a u h => by
  rw [upd_ne (ne_of_none h n)]
  exact s a u h
section
variable {P : Program} {w : World} {K : PySem.W.Frag} {mg : Str → Option Value} {base : Heap} {x qual m : Str} {st : Stmt} {N ps : List Str} {k : Nat} {sp : Sp} {d : V}
theorem FnD.fn1 (D : FnD K mg x st [d] []) (S : FnScope N ps (defScope st)) (n : Nat) (hn : n + 1 = ps.length)
    (h : ∀ (T : Addr) (kV doc pm : Value) (an : Option Addr) (cdv ct : Value) (us its : List Value), us.length = n → its.length = 1 →
      ∃ k, bindArgs (PySem.W.fnOf x x (defArgs st) (defBody st) (defScope st) (.ref T) kV doc pm an cdv ct) ⟨us, []⟩ = seqItems? (.ref T) >>= k ∧ k (some its.toArray) = pure (ps.zip (us ++ its.drop 0)))
    (len : ∀ vs H Q E, sp vs H Q E → vs.length = n)
    (hbody : ∀ (f : Addr) (cdv : Value) (A : Around) (outer : List Env) (s : Shared) (H : Hp) (vs : List V) (Q : VK) (E : XK), Room k (A.deeper (envOfC x (defScope st) s.heap.objs.size f cdv)) → sp vs H Q E →
      ∃ t, PSs (cxOf (L2.CX P w) P w K mg base N x (defScope st) f cdv A outer s H E) (defBody st) t ∧ t { nx := fun _ H' => Q .non H', rt := Q } (start N (vs ++ [d])) H) : Fn P w K mg base x (k + 1) sp := by
  obtain ⟨f, fd, F, hm⟩ := D
  have ok := F.ok (sp := fun us H Q E => ∃ vs, us = vs ++ [d] ∧ sp vs H Q E) (CX := L2.CX P w) (P := P) (w := w) (mg := mg) (base := base) S (fun us H Q E ⟨vs, e, q⟩ => by
    rw [e, List.length_append, len vs H Q E q]; exact hn) (fun cdv A outer s H us Q E hr ⟨vs, e, q⟩ => by rw [e]; exact hbody f cdv A outer s H vs Q E hr q)
  obtain ⟨ds, rv, hb⟩ := F.binds1 n 0 (by simp) hn h
  have r := ok.raw hb rv
  exact ⟨f, ⟨hm, F.kp⟩, r.imp fun vs H Q E q => ⟨vs, rfl, q⟩⟩
end
/-! ### places -/
def PlT (K : PySem.W.Frag) (F : Hp) (v : V) (p : Pl) : Prop := ∃ t, v = .ref t ∧ SqT K F t [.int p.1, optV p.2]
inductive PlA (K : PySem.W.Frag) (F : Hp) : List V → List Pl → Prop
  | nil : PlA K F [] []
  | cons {v p vs ps} (h : PlT K F v p) (r : PlA K F vs ps) : PlA K F (v :: vs) (p :: ps)
def PlL (K : PySem.W.Frag) (F : Hp) (a : Addr) (ps : List Pl) : Prop := ∃ vs, SqL K F a vs ∧ PlA K F vs ps
inductive LvA (K : PySem.W.Frag) (F : Hp) : List V → List (List Pl) → Prop
  | nil : LvA K F [] []
  | cons {a ps vs ls} (h : PlL K F a ps) (r : LvA K F vs ls) : LvA K F (.ref a :: vs) (ps :: ls)
section
variable {K : PySem.W.Frag} {F G : Hp}
theorem PlT.le (e : Le F G) {v : V} {p : Pl} (h : PlT K F v p) : PlT K G v p := let ⟨t, a, b⟩ := h; ⟨t, a, e.sqT b⟩
theorem PlA.le (e : Le F G) : ∀ {vs : List V} {ps : List Pl}, PlA K F vs ps → PlA K G vs ps
  | _, _, .nil => .nil
  | _, _, .cons h r => .cons (h.le e) (PlA.le e r)
theorem PlL.le (e : Le F G) {a : Addr} {ps : List Pl} (h : PlL K F a ps) : PlL K G a ps := let ⟨vs, x, y⟩ := h; ⟨vs, e.sqL x, y.le e⟩
theorem LvA.le (e : Le F G) : ∀ {vs : List V} {ls : List (List Pl)}, LvA K F vs ls → LvA K G vs ls
  | _, _, .nil => .nil
  | _, _, .cons h r => .cons (h.le e) (LvA.le e r)
theorem PlA.snoc {vs : List V} {ps : List Pl} {v : V} {p : Pl} (h : PlT K F v p) : PlA K F vs ps → PlA K F (vs ++ [v]) (ps ++ [p])
  | .nil => .cons h .nil
  | .cons a r => .cons a (PlA.snoc h r)
theorem LvA.snoc {vs : List V} {ls : List (List Pl)} {a : Addr} {ps : List Pl} (h : PlL K F a ps) : LvA K F vs ls → LvA K F (vs ++ [.ref a]) (ls ++ [ps])
  | .nil => .cons h .nil
  | .cons a r => .cons a (LvA.snoc h r)
theorem PlA.len {vs : List V} {ps : List Pl} : PlA K F vs ps → vs.length = ps.length
  | .nil => rfl
  | .cons _ r => by simp [PlA.len r]
theorem LvA.len {vs : List V} {ls : List (List Pl)} : LvA K F vs ls → vs.length = ls.length
  | .nil => rfl
  | .cons _ r => by simp [LvA.len r]
theorem PlA.get : ∀ {i : Nat} {vs : List V} {ps : List Pl} {v : V}, PlA K F vs ps → vs[i]? = some v → ∃ p, ps[i]? = some p ∧ PlT K F v p
  | _, _, _, _, .nil, e => by simp at e
  | 0, _, _, _, .cons h r, e => by cases e; exact ⟨_, rfl, h⟩
  | i + 1, _, _, _, .cons h r, e => by simpa using PlA.get (i := i) r (by simpa using e)
theorem LvA.get : ∀ {i : Nat} {vs : List V} {ls : List (List Pl)} {v : V}, LvA K F vs ls → vs[i]? = some v → ∃ a ps, v = .ref a ∧ ls[i]? = some ps ∧ PlL K F a ps
  | _, _, _, _, .nil, e => by simp at e
  | 0, _, _, _, .cons h r, e => by cases e; exact ⟨_, _, rfl, rfl, h⟩
  | i + 1, _, _, _, .cons h r, e => by simpa using LvA.get (i := i) r (by simpa using e)
theorem atI_last {α : Type} {xs : List α} (h : xs ≠ []) : atI xs (-1) = some (xs.getLast h) := by
  have hp : 0 < xs.length := List.length_pos_iff.mpr h
  have e : ixN xs.length (-1) = some (xs.length - 1) := by
    unfold ixN
    rw [if_neg (by omega), if_pos (by omega)]
    congr 1
    omega
  unfold atI
  rw [e, List.getLast_eq_getElem]
  exact List.getElem?_eq_getElem (by omega)
theorem LvA.last {vs : List V} {ls : List (List Pl)} (h : LvA K F vs ls) (hne : ls ≠ []) : ∃ a, atI vs (-1) = some (.ref a) ∧ PlL K F a (lastL ls) := by
  have hl := h.len
  have hp : 0 < ls.length := List.length_pos_iff.mpr hne
  have hv : vs ≠ [] := List.length_pos_iff.mp (by omega)
  have e1 := atI_last hv
  have e2 : vs[vs.length - 1]? = some (vs.getLast hv) := by rw [List.getLast_eq_getElem]; exact List.getElem?_eq_getElem (by omega)
  obtain ⟨a, ps, e3, e4, e5⟩ := h.get e2
  refine ⟨a, by rw [e1, e3], ?_⟩
  have e6 : lastL ls = ps := by
    unfold lastL
    rw [List.getLastD_eq_getLast?, List.getLast?_eq_getElem?, ← hl, e4]
    rfl
  rw [e6]
  exact e5
end
/-- what is made of the first digits -/
def stpD (s : Sch) (p : Pl) (ds : List Int) : List Pl := (ds.filter fun d => decide ((p.1 - d).fmod s.base = 0) && alw s d p.2).map fun d => ((p.1 - d).fdiv s.base, some d)
theorem stpD_yes {s : Sch} {p : Pl} {i : Nat} {d : Int} (h : s.digits[i]? = some d) (c : (decide ((p.1 - d).fmod s.base = 0) && alw s d p.2) = true) : stpD s p (s.digits.take (i + 1)) = stpD s p (s.digits.take i) ++ [((p.1 - d).fdiv s.base, some d)] := by
  unfold stpD
  rw [take_succ_of h, List.filter_append, List.map_append]
  simp [c]
theorem stpD_no {s : Sch} {p : Pl} {i : Nat} {d : Int} (h : s.digits[i]? = some d) (c : (decide ((p.1 - d).fmod s.base = 0) && alw s d p.2) = false) : stpD s p (s.digits.take (i + 1)) = stpD s p (s.digits.take i) := by
  unfold stpD
  rw [take_succ_of h, List.filter_append, List.map_append]
  simp [c]
theorem stpD_len {s : Sch} {p : Pl} {i : Nat} : (stpD s p (s.digits.take i)).length ≤ i := by
  unfold stpD
  rw [List.length_map]
  refine Nat.le_trans (List.length_filter_le _ _) ?_
  rw [List.length_take]
  omega
/-- a place as a key -/
def lf : Option Int → Leaf
  | none => .none
  | some i => .num i
def pk (p : Pl) : List Leaf := [.num p.1, lf p.2]
theorem pk_map (p : Pl) : (pk p).map lfV = [.int p.1, optV p.2] := by
  obtain ⟨a, b⟩ := p
  cases b <;> rfl
theorem pk_inj {p q : Pl} (h : pk p = pk q) : p = q := by
  obtain ⟨a, b⟩ := p
  obtain ⟨c, d⟩ := q
  cases b <;> cases d <;> simp [pk, lf] at h <;> simp [h]
theorem pk_mem {p : Pl} {ps : List Pl} : pk p ∈ ps.map pk ↔ p ∈ ps := by
  refine ⟨fun h => ?_, fun h => List.mem_map.mpr ⟨p, h, rfl⟩⟩
  obtain ⟨q, hq, e⟩ := List.mem_map.mp h
  rw [← pk_inj e]
  exact hq
theorem fr_updM {M : List Addr} {a : Addr} {H : Hp} {o : HO} (h : a ∈ M) : fr M (upd H a o) = fr M H := by
  funext b
  unfold fr
  by_cases m : b ∈ M
  · rw [if_pos m, if_pos m]
  · rw [if_neg m, if_neg m, upd_ne (fun e => m (by rw [e]; exact h))]
theorem MetT.le {K : PySem.W.Frag} {F G : Hp} {L : List (Addr × List Leaf)} (e : Le F G) (h : MetT K F L) : MetT K G L := fun p hp => e.sqT (h p hp)
/-- the state of the search between two levels -/
def LevI (P : Program) (w : World) (K : PySem.W.Frag) (M : List Addr) (H0 : Hp) (a t lv mt : Addr) (s : Sch) (n : Int) (m : Nat) (σ : L2.St) (H : Hp) : Prop :=
  ∃ ls vs L x4 x5 x6, σ = [some (.ref a), some (.ref t), some (.ref lv), some (.ref mt), x4, x5, x6, none, none] ∧ Same H0 H ∧ H lv = some (.lst vs) ∧ H mt = some (MetO P w mt L) ∧ LvA K (fr (lv :: mt :: M) H) vs ls ∧
    L.map (·.2) = ls.flatten.map pk ∧ MetT K (fr (lv :: mt :: M) H) L ∧ LI s n ls ∧ lvls s n = runL s m ls ∧ m + ls.length = fuelN n + 1
/-- .. while a level is made: f its places -/
structure FurI (P : Program) (w : World) (K : PySem.W.Frag) (M : List Addr) (H0 : Hp) (lv mt fu b : Addr) (ls : List (List Pl)) (vs xs : List V) (f : List Pl) (H : Hp) : Prop where
  sm : Same H0 H
  hv : H lv = some (.lst vs)
  la : LvA K (fr (fu :: lv :: mt :: M) H) vs ls
  ll : SqL K (fr (fu :: lv :: mt :: M) H) b xs
  lp : PlA K (fr (fu :: lv :: mt :: M) H) xs (lastL ls)
  hf : ∃ fv, H fu = some (.lst fv) ∧ PlA K (fr (fu :: lv :: mt :: M) H) fv f
  hm : ∃ L, H mt = some (MetO P w mt L) ∧ L.map (·.2) = (ls.flatten ++ f).map pk ∧ MetT K (fr (fu :: lv :: mt :: M) H) L
section
variable {P : Program} {w : World} {K : PySem.W.Frag} {M : List Addr} {H0 : Hp} {lv mt fu b : Addr} {ls : List (List Pl)} {vs xs : List V} {f : List Pl} {H H' : Hp}
theorem FurI.same (h : FurI P w K M H0 lv mt fu b ls vs xs f H) (s : Same H H') : FurI P w K M H0 lv mt fu b ls vs xs f H' := by
  obtain ⟨h1, h2, h3, l1, l2, ⟨fv, h4, h5⟩, L, h6, h7, h8⟩ := h
  exact ⟨h1.trans s, s _ _ h2, h3.le (same_le s), (same_le s).sqL l1, l2.le (same_le s), ⟨fv, s _ _ h4, h5.le (same_le s)⟩, L, s _ _ h6, h7, h8.le (same_le s)⟩
theorem FurI.mok (h : FurI P w K M H0 lv mt fu b ls vs xs f H) (m : Mok M H0) : Mok (fu :: lv :: mt :: M) H := by
  intro x hx
  rcases List.mem_cons.mp hx with rfl | hx
  · obtain ⟨_, e, _⟩ := h.hf; rw [e]; simp
  rcases List.mem_cons.mp hx with rfl | hx
  · rw [h.hv]; simp
  rcases List.mem_cons.mp hx with rfl | hx
  · obtain ⟨_, e, _⟩ := h.hm; rw [e]; simp
  · exact m.same h.sm x hx
/-- a new place is met and put behind -/
theorem FurI.add (h : FurI P w K M H0 lv mt fu b ls vs xs f H) {L : List (Addr × List Leaf)} {fv : List V} {t : Addr} {p : Pl} (e1 : H mt = some (MetO P w mt L)) (e2 : H fu = some (.lst fv)) (e3 : L.map (·.2) = (ls.flatten ++ f).map pk) (e4 : MetT K (fr (fu :: lv :: mt :: M) H) L) (e5 : PlA K (fr (fu :: lv :: mt :: M) H) fv f)
    (ht : SqT K (fr (fu :: lv :: mt :: M) H) t [.int p.1, optV p.2]) (n1 : H0 mt = none) (n2 : H0 fu = none) (d1 : mt ≠ lv) (d2 : fu ≠ lv) (d3 : fu ≠ mt) : FurI P w K M H0 lv mt fu b ls vs xs (f ++ [p]) (upd (upd H mt (MetO P w mt (L ++ [(t, pk p)]))) fu (.lst (fv ++ [.ref t]))) := by
  have ef : fr (fu :: lv :: mt :: M) (upd (upd H mt (MetO P w mt (L ++ [(t, pk p)]))) fu (.lst (fv ++ [.ref t]))) = fr (fu :: lv :: mt :: M) H := by
    rw [fr_updM (by simp), fr_updM (by simp)]
  refine ⟨newU (newU h.sm n1) n2, ?_, ef ▸ h.la, ef ▸ h.ll, ef ▸ h.lp, ⟨_, upd_same, ef ▸ PlA.snoc ⟨t, rfl, ht⟩ e5⟩, L ++ [(t, pk p)], ?_, ?_, ?_⟩
  · rw [upd_ne d2.symm, upd_ne d1.symm]; exact h.hv
  · rw [upd_ne d3.symm]; exact upd_same
  · rw [List.map_append, e3]; simp
  · rw [ef]
    intro q hq
    rcases List.mem_append.mp hq with hq | hq
    · exact e4 q hq
    · rw [List.mem_singleton] at hq
      subst hq
      show SqT K _ t ((pk p).map lfV)
      rw [pk_map]
      exact ht
end
theorem foldl_take {α β : Type} {l : List α} {g : β → α → β} {b : β} {i : Nat} {x : α} (h : l[i]? = some x) : (l.take (i + 1)).foldl g b = g ((l.take i).foldl g b) x := by
  rw [take_succ_of h, List.foldl_append]
  rfl
theorem dec_int0 {i : Int} : V.bl (decide (V.int i = V.int 0)) = V.bl (decide (i = 0)) := by
  by_cases h : i = 0
  · subst h; rfl
  · simp [h]
theorem LI.last_len {s : Sch} {n : Int} {ls : List (List Pl)} (g : GoodS s) (h : LI s n ls) : (lastL ls).length ≤ 222 := by
  cases h with
  | one => simp [lastL]
  | snoc h hf hne => rw [lastL_snoc]; exact hf.len g h
/-! #### the trace, step by step -/
def stp1 (s : Sch) (st : Int × Int × List Int) (lv : List Pl) : Int × Int × List Int :=
  (st.2.1 + s.base * st.1, minL ((lv.filter fun p => decide (p.1 = st.2.1 + s.base * st.1) && alw s st.2.1 p.2).map fun p => p.2.getD 0), st.2.2 ++ [minL ((lv.filter fun p => decide (p.1 = st.2.1 + s.base * st.1) && alw s st.2.1 p.2).map fun p => p.2.getD 0)])
theorem trc_fold (s : Sch) : ∀ (lvs : List (List Pl)) (rest digit : Int) (row : List Int), trc s lvs rest digit row = (lvs.foldl (stp1 s) (rest, digit, row)).2.2
  | [], _, _, _ => rfl
  | lv :: lvs, rest, digit, row => by
    rw [trc, trc_fold s lvs]
    rfl
theorem trc_ne {s : Sch} {n : Int} {ls : List (List Pl)} (g : GoodS s) (h : LI s n ls) : ∀ (rest digit : Int) (row0 : List Int), (∃ old ∈ lastL ls, (rest, some digit) ∈ stepsP s old) → ∀ (i : Nat) (lv : List Pl), ((ls.drop 1).reverse)[i]? = some lv →
    (∃ p ∈ lv, p.1 = ((((ls.drop 1).reverse).take i).foldl (stp1 s) (rest, digit, row0)).2.1 + s.base * ((((ls.drop 1).reverse).take i).foldl (stp1 s) (rest, digit, row0)).1 ∧ alw s ((((ls.drop 1).reverse).take i).foldl (stp1 s) (rest, digit, row0)).2.1 p.2 = true) ∧
    (((((ls.drop 1).reverse).take i).foldl (stp1 s) (rest, digit, row0)).1 = rest ∨ ∃ p ∈ ls.flatten, p.1 = ((((ls.drop 1).reverse).take i).foldl (stp1 s) (rest, digit, row0)).1) ∧ (∀ p ∈ lv, ∃ d, p.2 = some d) ∧ lv.length ≤ 222 := by
  induction h with
  | one => intro rest digit row0 _ i lv e; simp at e
  | @snoc ls f h hf hne ih =>
    intro rest digit row0 ⟨old, ho, hs⟩ i lv hlv
    rw [lastL_snoc] at ho
    obtain ⟨d, e1, hd, ha, e2⟩ := steps_mem g hs
    cases e1
    simp only at e2
    have hd1 : ((ls ++ [f]).drop 1).reverse = f :: (ls.drop 1).reverse := by
      rw [List.drop_append_of_le_length (List.length_pos_iff.mpr h.ne), List.reverse_append, List.reverse_singleton, List.singleton_append]
    rw [hd1] at hlv ⊢
    have hsm : ∀ p ∈ f, ∃ d, p.2 = some d := fun p hp => by
      obtain ⟨o2, _, hs2⟩ := hf.src p hp
      obtain ⟨d2, e6, _⟩ := steps_mem g hs2
      exact ⟨d2, e6⟩
    have e3 : old.1 = digit + s.base * rest := by omega
    cases i with
    | zero =>
      cases hlv
      exact ⟨⟨old, ho, e3, ha⟩, .inl rfl, hsm, hf.len g h⟩
    | succ i =>
      rw [List.getElem?_cons_succ] at hlv
      rw [List.take_succ_cons, List.foldl_cons]
      have hm : old ∈ f.filter fun p => decide (p.1 = digit + s.base * rest) && alw s digit p.2 := List.mem_filter.mpr ⟨ho, by rw [ha, Bool.and_true]; exact decide_eq_true e3⟩
      have hne2 : ((f.filter fun p => decide (p.1 = digit + s.base * rest) && alw s digit p.2).map fun p => p.2.getD 0) ≠ [] := List.ne_nil_of_mem (List.mem_map.mpr ⟨old, hm, rfl⟩)
      obtain ⟨p, hp, e4⟩ := List.mem_map.mp (minL_mem hne2)
      obtain ⟨hp1, hp2⟩ := List.mem_filter.mp hp
      rw [Bool.and_eq_true] at hp2
      have e5 : p.1 = digit + s.base * rest := of_decide_eq_true hp2.1
      obtain ⟨old2, ho2, hs2⟩ := hf.src p hp1
      obtain ⟨d2, e6, hd2, _, _⟩ := steps_mem g hs2
      have e7 : p = (digit + s.base * rest, some (minL ((f.filter fun p => decide (p.1 = digit + s.base * rest) && alw s digit p.2).map fun p => p.2.getD 0))) := by
        refine Prod.ext e5 ?_
        rw [← e4, e6]
        rfl
      have key := ih (digit + s.base * rest) (minL ((f.filter fun p => decide (p.1 = digit + s.base * rest) && alw s digit p.2).map fun p => p.2.getD 0)) (row0 ++ [minL ((f.filter fun p => decide (p.1 = digit + s.base * rest) && alw s digit p.2).map fun p => p.2.getD 0)]) ⟨old2, ho2, by rw [← e7]; exact hs2⟩ i lv hlv
      refine ⟨key.1, ?_, key.2.2.1, key.2.2.2⟩
      rcases key.2.1 with k | ⟨q, hq, k⟩
      · refine .inr ⟨p, ?_, ?_⟩
        · rw [List.flatten_append]
          exact List.mem_append_right _ (by simpa using hp1)
        · rw [e5]
          exact k.symm
      · refine .inr ⟨q, ?_, k⟩
        rw [List.flatten_append]
        exact List.mem_append_left _ hq
theorem far_all {s : Sch} {n : Int} {ls : List (List Pl)} (g : GoodS s) (h : LI s n ls) : ∀ p ∈ ls.flatten, (p.1.natAbs : Int) ≤ n.natAbs + 9 := by
  induction h with
  | one =>
    intro p hp
    simp at hp
    subst hp
    simp
    omega
  | @snoc ls f h hf hne ih =>
    intro p hp
    rw [List.flatten_append, List.mem_append] at hp
    rcases hp with hp | hp
    · exact ih p hp
    · have h1 := (LI.snoc h hf hne).far g p (by rw [lastL_snoc]; simpa using hp)
      rcases Nat.lt_or_ge 9 p.1.natAbs with z | z
      · have h2 : (1 : Int) ≤ 2 ^ ((ls ++ [f]).length - 1) := Int.pow_pos (by decide)
        have h3 : (1 : Int) * ((p.1.natAbs : Int) - 9) ≤ 2 ^ ((ls ++ [f]).length - 1) * ((p.1.natAbs : Int) - 9) := Int.mul_le_mul_of_nonneg_right h2 (by omega)
        omega
      · omega
section
variable {K : PySem.W.Frag} {F : Hp}
theorem LvA.drop1 {vs : List V} {ls : List (List Pl)} : LvA K F vs ls → LvA K F (vs.drop 1) (ls.drop 1)
  | .nil => .nil
  | .cons _ r => r
theorem LvA.dropLast {vs : List V} {ls : List (List Pl)} (h : LvA K F vs ls) : LvA K F vs.dropLast ls.dropLast := by
  induction h with
  | nil => exact .nil
  | cons h r ih =>
    cases r with
    | nil => exact .nil
    | cons h2 r2 => exact .cons h ih
theorem LvA.rev : ∀ {vs : List V} {ls : List (List Pl)}, LvA K F vs ls → LvA K F vs.reverse ls.reverse
  | _, _, .nil => .nil
  | _, _, .cons h r => by
    rw [List.reverse_cons, List.reverse_cons]
    exact LvA.snoc h (LvA.rev r)
theorem LvA.mid {vs : List V} {ls : List (List Pl)} (h : LvA K F vs ls) : LvA K F (mid vs) (mid ls) := h.drop1.dropLast.rev
end
theorem stp1_len (s : Sch) : ∀ (lvs : List (List Pl)) (st : Int × Int × List Int), (lvs.foldl (stp1 s) st).2.2.length = st.2.2.length + lvs.length
  | [], st => rfl
  | lv :: lvs, st => by
    rw [List.foldl_cons, stp1_len s lvs, List.length_cons]
    show (st.2.2 ++ [_]).length + _ = _
    rw [List.length_append, List.length_singleton]
    omega
theorem LI.split {s : Sch} {n : Int} {ls : List (List Pl)} (h : LI s n ls) (h0 : ls.length ≠ 1) : ∃ ls0 f, ls = ls0 ++ [f] ∧ LI s n ls0 ∧ NewOf s ls0 f := by
  cases h with
  | one => exact absurd rfl h0
  | snoc h hf hne => exact ⟨_, _, rfl, h, hf⟩
theorem opt_ints : ∀ (ps : List Pl), (∀ p ∈ ps, ∃ d, p.2 = some d) → ps.map (fun p => optV p.2) = (ps.map fun p => p.2.getD 0).map V.int
  | [], _ => rfl
  | p :: ps, h => by
    obtain ⟨d, e⟩ := h p List.mem_cons_self
    rw [List.map_cons, List.map_cons, List.map_cons, opt_ints ps fun q hq => h q (List.mem_cons_of_mem _ hq), e]
    rfl
theorem lim {n : Int} (hn : n.natAbs < 2 ^ 1000) : n.natAbs.log2 ≤ 1000 := by
  rcases Nat.eq_zero_or_pos n.natAbs with z | z
  · rw [z]; decide
  · have := (Nat.log2_lt (by omega)).mpr hn
    omega
abbrev s_is_whole : Stmt := top 38
theorem sc_is_whole : FnScope ["value"] ["value"] (defScope s_is_whole) := ⟨rfl, rfl, rfl, by decide +kernel, rfl, by decide +kernel, by decide +kernel⟩
abbrev s_check_place : Stmt := top 39
theorem sc_check_place : FnScope ["scheme", "number", "right"] ["scheme", "number", "right"] (defScope s_check_place) := ⟨rfl, rfl, rfl, by decide +kernel, rfl, by decide +kernel, by decide +kernel⟩
abbrev s_steps_from : Stmt := top 40
theorem sc_steps_from : FnScope ["scheme", "place", "rest", "right", "found", "digit"] ["scheme", "place"] (defScope s_steps_from) := ⟨rfl, rfl, rfl, by decide +kernel, rfl, by decide +kernel, by decide +kernel⟩
abbrev s_levels_from : Stmt := top 41
theorem sc_levels_from : FnScope ["scheme", "place", "levels", "met", "further", "old", "new", "rest", "digit"] ["scheme", "place"] (defScope s_levels_from) := ⟨rfl, rfl, rfl, by decide +kernel, rfl, by decide +kernel, by decide +kernel⟩
abbrev s_is_open : Stmt := top 42
theorem sc_is_open : FnScope ["scheme", "place", "rest", "digit"] ["scheme", "place"] (defScope s_is_open) := ⟨rfl, rfl, rfl, by decide +kernel, rfl, by decide +kernel, by decide +kernel⟩
abbrev s_is_written : Stmt := top 43
theorem sc_is_written : FnScope ["scheme", "number", "right"] ["scheme", "number", "right"] (defScope s_is_written) := ⟨rfl, rfl, rfl, by decide +kernel, rfl, by decide +kernel, by decide +kernel⟩
abbrev s_traced : Stmt := top 44
theorem sc_traced : FnScope ["scheme", "levels", "digit", "rest", "row", "level", "old", "other"] ["scheme", "levels"] (defScope s_traced) := ⟨rfl, rfl, rfl, by decide +kernel, rfl, by decide +kernel, by decide +kernel⟩
abbrev s_writing : Stmt := top 45
theorem sc_writing : FnScope ["scheme", "number", "right", "levels", "rest", "digit"] ["scheme", "number", "right"] (defScope s_writing) := ⟨rfl, rfl, rfl, by decide +kernel, rfl, by decide +kernel, by decide +kernel⟩
section
variable {P : Program} {w : World} {K : PySem.W.Frag} {mg : Str → Option Value} {base : Heap} (B : Blt mg) (T : Con5 mg) {CS : Addr} (C : SchC K mg CS)
include B T C
def isInt : PyData → Bool
  | .int _ => true
  | _ => false
def sp_is_whole (K : PySem.W.Frag) : Sp := fun vs H Q _ => ∃ v d, vs = [v] ∧ Dp K H v d ∧ Q (.bl (isInt d)) H
theorem ok_is_whole (D : FnD K mg "is_whole" s_is_whole [] []) : Fn P w K mg base "is_whole" 1 (sp_is_whole K) := by
  refine D.fn sc_is_whole (fun _ _ _ _ _ _ us hl => match us, hl with | [_], _ => rfl) (fun vs H Q E h => ?_) (fun f cdv A outer s H vs Q E hr h => ?_)
  · obtain ⟨_, _, rfl, _⟩ := h
    rfl
  · obtain ⟨v, d, rfl, hd, q⟩ := h
    refine ⟨_, (pss_one (ps_ret (pe_and (pe_callB call_isi (by rfl) B.isinstance (by decide +kernel) (pa_cons (pv 0) (pa_cons (pe_bltn (v := .ty "int") (by rfl) B.int (by decide +kernel) rfl) pa_nil))) (pe_one (pe_not (pe_callB call_isi (by rfl) B.isinstance (by decide +kernel) (pa_cons (pv 0) (pa_cons (pe_bltn (v := .ty "bool") (by rfl) B.bool (by decide +kernel) rfl) pa_nil)))))))), ?_⟩
    refine ⟨v, rfl, v, .ty "int", _, _, _, rfl, .ty _, tyX_of hd, kit_int d, _, rfl, ?_⟩
    cases hd with
    | int i => exact ⟨_, rfl, _, .ty "bool", _, _, _, rfl, .ty _, tyX_of (.int i), kit_bool (.int i), _, rfl, q⟩
    | bl b => exact ⟨_, rfl, _, .ty "bool", _, _, _, rfl, .ty _, tyX_of (.bl b), kit_bool (.bool b), _, rfl, q⟩
    | _ => exact q
def sp_check_place (K : PySem.W.Frag) (CS : Addr) : Sp := fun vs H Q _ => ∃ a n s, vs = [.ref a, .int n, .non] ∧ SchAt K CS H a s ∧ Q .non H
theorem ok_check_place (D : FnD K mg "check_place" s_check_place [] []) (F_is_whole : Fn P w K mg base "is_whole" 1 (sp_is_whole K)) (F_has : Me P w K mg base CS "has" 3 (sp_has K CS)) : Fn P w K mg base "check_place" 4 (sp_check_place K CS) := by
  refine D.fn sc_check_place (fun _ _ _ _ _ _ us hl => match us, hl with | [_, _, _], _ => rfl) (fun vs H Q E h => ?_) (fun f cdv A outer s H vs Q E hr h => ?_)
  · obtain ⟨_, _, _, rfl, _⟩ := h
    rfl
  · obtain ⟨a, n, sc, rfl, ⟨dx, t1, t2, t3, ha, h1, h2, h3⟩, q⟩ := h
    refine ⟨_, (pss_cons (ps_if (pt_not (pt_val (pe_callB call_isi (by rfl) B.isinstance (by decide +kernel) (pa_cons (pv 0) (pa_cons (pe_glob (v := .ref CS) rfl C.mg rfl) pa_nil))))) (pss_one ps_never) pss_nil) (pss_cons (ps_if (pt_not (pt_val (c0 F_is_whole hr (pa_cons (pv 1) pa_nil)))) (pss_one ps_never) pss_nil) (pss_one (ps_if (PW.pt (pw_and (pt_cmpR op_notN (pv 2) pe_non (nomark _)) (pw_and1 (pt_not (pt_val (mE F_has hr C.cl passL (pv 0) (pa_cons (pv 2) pa_nil))))))) (pss_one ps_never) pss_nil)))), ?_⟩
    refine ⟨_, rfl, _, .ref CS, _, _, _, rfl, .own CS, C.ic.ty C.cl ha, kit_self, _, rfl, ?_⟩
    refine ⟨_, rfl, _, _, rfl, .int n, _, rfl, ?_⟩
    exact ⟨_, rfl, rfl, _, rfl, q⟩
def sp_steps_from (K : PySem.W.Frag) (CS : Addr) : Sp := fun vs H Q _ => ∃ M a t s p, vs = [.ref a, .ref t] ∧ Mok M H ∧ SchAt K CS H a s ∧ GoodS s ∧ SqT K H t [.int p.1, optV p.2] ∧ ∀ l H', Same H H' → PlL K (fr M H') l (stepsP s p) → Q (.ref l) H'
theorem ok_steps_from (D : FnD K mg "steps_from" s_steps_from [] []) (PR_base : Prp P w K mg base CS "base" "own_base") (PR_digits : Prp P w K mg base CS "digits" "own_digits") (F_allows : Me P w K mg base CS "allows" 4 (sp_allows K CS)) : Fn P w K mg base "steps_from" 5 (sp_steps_from K CS) := by
  refine D.fn sc_steps_from (fun _ _ _ _ _ _ us hl => match us, hl with | [_, _], _ => rfl) (fun vs H Q E h => ?_) (fun f cdv A outer s H vs Q E hr h => ?_)
  · obtain ⟨_, _, _, _, _, rfl, _⟩ := h
    rfl
  · obtain ⟨M, a, t, sc, p, rfl, mok, hs, g, ht, q⟩ := h
    refine ⟨_, (pss_cons (ps_asg (pv 1) (pg_tup rfl (pgs_cons (pg_name (i := 2) sc_steps_from.nd rfl (.inl rfl)) (pgs_cons (pg_name (i := 3) sc_steps_from.nd rfl (.inl rfl)) pgs_nil)))) (pss_cons (ps_set (i := 4) sc_steps_from.nd rfl (.inl rfl) (pe_lst pa_nil)) (pss_cons (ps_for (passes_of rfl) rfl (pi_tup (pe_pr PR_digits C.cl hr (pv 0))) (pg_name (i := 5) sc_steps_from.nd rfl (.inl rfl)) (pss_one (ps_if (PW.pt (pw_and (pt_cmpR op_eq (pe_op op_modN (pe_op op_sub (pv 2) (pv 5)) (pe_pr PR_base C.cl hr (pv 0))) pe_int (nomark _)) (pw_and1 (pt_val (mE F_allows hr C.cl passL (pv 0) (pa_cons (pv 5) (pa_cons (pv 3) pa_nil))))))) (pss_one (ps_expr (pe_bm PySem.F.plainAttrs_list PySem.F.slot_list_append PySem.F.type_list_append mt_append (pv 4) (pa_cons (pe_tup (pa_cons (pe_op op_fdivN (pe_op op_sub (pv 2) (pv 5)) (pe_pr PR_base C.cl hr (pv 0))) (pa_cons (pv 5) pa_nil))) pa_nil)))) pss_nil))) (pss_one (ps_ret (pv 4)))))), ?_⟩
    have hs0 := hs
    obtain ⟨dx, t1, t2, t3, ha, h1, h2, h3⟩ := hs
    have hb := isBase_bd g.base
    refine ⟨_, rfl, t, _, rfl, ht, rfl, _, _, rfl, _, _, rfl, rfl, by simp, fun fo nfo => ?_⟩
    have s1 := same_new (o := .lst []) nfo
    refine ⟨_, rfl, a, dx, _, rfl, s1 _ _ ha, a, dx, _, .ref t1, rfl, s1 _ _ ha, rfl, t1, rfl, ⟨_, (Le.of s1).sqT h1⟩, ?_⟩
    refine for_tup (xs := sc.digits.map V.int) (fun i σ H' => (∃ y, σ = [some (.ref a), some (.ref t), some (.int p.1), some (optV p.2), some (.ref fo), y]) ∧ Same H H' ∧ ∃ vs, H' fo = some (.lst vs) ∧ PlA K (fr (fo :: M) H') vs (stpD sc p (sc.digits.take i)))
      ⟨⟨_, rfl⟩, s1, [], upd_same, .nil⟩ (fun i σ H' _ p => (Le.of p.2.1).sqT h1) (fun i x σ H' hx pv => ?_) (fun σ H' pv => ?_)
    · obtain ⟨⟨y, rfl⟩, sH, vs, hv, hp⟩ := pv
      rw [List.getElem?_map] at hx
      cases e : sc.digits[i]? with
      | none => rw [e] at hx; cases hx
      | some d =>
        rw [e] at hx
        cases hx
        have ha' := sH _ _ ha
        refine ⟨_, rfl, _, rfl, _, _, rfl, rfl, _, rfl, a, dx, _, rfl, ha', a, dx, _, .int sc.base, rfl, ha', rfl, _, _, rfl, rfl, (by show sc.base ≠ 0; omega), rfl, _, rfl, ?_⟩
        show if decide (V.int ((p.1 - d).fmod sc.base) = V.int 0) = true then _ else _
        by_cases c1 : (p.1 - d).fmod sc.base = 0
        · rw [if_pos (by simp [c1])]
          refine ⟨_, rfl, a, dx, _, rfl, ha', rfl, _, rfl, _, rfl, a, d, p.2, sc, rfl, (Le.of sH).sch hs0, g, fun H2 s2 => ⟨_, rfl, ?_⟩⟩
          have s3 := sH.trans s2
          have ha2 := s3 _ _ ha
          refine ite2 (fun c2 => ?_) fun c2 => ?_
          · have hfo : H2 fo = some (.lst vs) := s2 _ _ hv
            refine ⟨_, rfl, (.inl ⟨rfl, _, .inl (.inl hfo)⟩), _, rfl, _, rfl, _, _, rfl, rfl, _, rfl, a, dx, _, rfl, ha2, a, dx, _, .int sc.base, rfl, ha2, rfl, _, _, rfl, rfl, ⟨by omega, by omega⟩, _, rfl, by show 2 ≤ sizeLine; decide, fun t9 n9 => ?_⟩
            have hle := stpD_len (s := sc) (p := p) (i := i)
            have hi : i < sc.digits.length := (List.getElem?_eq_some_iff.mp e).1
            have hg := g.dig.hi
            have hl := hp.len
            refine ⟨fo, vs, _, rfl, rfl, by rw [upd_ne (ne_of_none hfo n9)]; exact hfo, by rw [sizeLine_eq]; omega, ⟨_, rfl⟩, newU (s3.trans (same_new n9)) nfo, _, upd_same, ?_⟩
            rw [stpD_yes e (by simp [c1, c2]), fr_upd]
            exact PlA.snoc ⟨t9, rfl, .inl (.inl (fr_of upd_same (by
              intro m
              rcases List.mem_cons.mp m with rfl | m
              · rw [hfo] at n9; cases n9
              · exact (mok.same s3).new n9 m)))⟩ (hp.le (Le.trans (same_le s2) (same_le (same_new n9))))
          · refine ⟨⟨_, rfl⟩, s3, vs, s2 _ _ hv, ?_⟩
            rw [stpD_no e (by simp [c2])]
            exact hp.le (same_le s2)
        · rw [if_neg (by simp [c1])]
          refine ⟨⟨_, rfl⟩, sH, vs, hv, ?_⟩
          rw [stpD_no e (by simp [c1])]
          exact hp
    · obtain ⟨⟨y, rfl⟩, sH, vs, hv, hp⟩ := pv
      rw [List.length_map, List.take_length] at hp
      refine ⟨_, rfl, q fo H' sH ⟨vs, .inl (.inl (fr_of hv (mok.new nfo))), hp.le (fr_sub _ _ _)⟩⟩
def sp_levels_from (K : PySem.W.Frag) (CS : Addr) : Sp := fun vs H Q _ => ∃ M a t s n, vs = [.ref a, .ref t] ∧ Mok M H ∧ SchAt K CS H a s ∧ GoodS s ∧ SqT K (fr M H) t [.int n, .non] ∧ n.natAbs < 2 ^ 1000 ∧ ∀ l H' vs, Same H H' → SqL K (fr M H') l vs → LvA K (fr M H') vs (lvls s n) → Q (.ref l) H'
theorem ok_levels_from (D : FnD K mg "levels_from" s_levels_from [] []) (F_steps_from : Fn P w K mg base "steps_from" 5 (sp_steps_from K CS)) : Fn P w K mg base "levels_from" 6 (sp_levels_from K CS) := by
  refine D.fn sc_levels_from (fun _ _ _ _ _ _ us hl => match us, hl with | [_, _], _ => rfl) (fun vs H Q E h => ?_) (fun f cdv A outer s H vs Q E hr h => ?_)
  · obtain ⟨_, _, _, _, _, rfl, _⟩ := h
    rfl
  · obtain ⟨M, a, t, sc, n, rfl, mok, hs, g, ht, hn, q⟩ := h
    refine ⟨_, (pss_cons (ps_par (i := 2) (j := 3) (by rfl) sc_levels_from.nd rfl rfl (by decide) rfl rfl (pa_cons (pe_lst (pa_cons (pe_lst (pa_cons (pv 1) pa_nil)) pa_nil)) (pa_cons (pe_met1 hr (pv 1)) pa_nil)) (by rfl)) (pss_cons (ps_while (passes_of rfl) (pt_not (pt_val (pe_callB (cr_any rfl) (by rfl) B.any (by decide +kernel) (pa_cons (pe_lc rfl sc_levels_from.nd (own := [("rest", 7), ("digit", 8)]) (g := gTup K 2 (gCons (gName 7) (gCons (gName 8) (gNil)))) (tt := tYes) (pi_list (pe_ix ix_list (pv 2) (pe_un un_neg pe_int) (fun _ _ => rfl))) (blkOk_by (N := ["scheme", "place", "levels", "met", "further", "old", "new", "rest", "digit"]) (sc := defScope s_levels_from) (by decide +kernel)) (fun _ _ _ _ _ => (pg_tup rfl (pgs_cons (pg_name (i := 7) sc_levels_from.nd rfl (.inl rfl)) (pgs_cons (pg_name (i := 8) sc_levels_from.nd rfl (.inl rfl)) pgs_nil)))) (fun _ _ _ _ _ => pts_nil) (fun _ _ _ _ _ => (pe_cmpR op_eq (pv 7) pe_int (nomark _)))) pa_nil)))) (pss_cons (ps_set (i := 4) sc_levels_from.nd rfl (.inl rfl) (pe_lst pa_nil)) (pss_cons (ps_for (passes_of rfl) rfl (pi_list (pe_ix ix_list (pv 2) (pe_un un_neg pe_int) (fun _ _ => rfl))) (pg_name (i := 5) sc_levels_from.nd rfl (.inl rfl)) (pss_one (ps_for (passes_of rfl) rfl (pi_list (c0 F_steps_from hr (pa_cons (pv 0) (pa_cons (pv 5) pa_nil)))) (pg_name (i := 6) sc_levels_from.nd rfl (.inl rfl)) (pss_one (ps_if (pt_cmpR (op_metNot hr) (pv 6) (pv 3) (by rfl)) (pss_cons (ps_asg pe_bl (pg_sub (pv 3) (pv 6) (set_met hr))) (pss_one (ps_expr (pe_bm PySem.F.plainAttrs_list PySem.F.slot_list_append PySem.F.type_list_append mt_append (pv 4) (pa_cons (pv 6) pa_nil))))) pss_nil))))) (pss_cons (ps_if (pt_cmpR op_eq (pe_callB call_len (by rfl) B.len (by decide +kernel) (pa_cons (pv 4) pa_nil)) pe_int (nomark _)) (pss_one (ps_ret (pv 2))) pss_nil) (pss_one (ps_expr (pe_bm PySem.F.plainAttrs_list PySem.F.slot_list_append PySem.F.type_list_append mt_append (pv 2) (pa_cons (pv 4) pa_nil)))))))) (pss_one (ps_ret (pv 2))))), ?_⟩
    have hs0 := hs
    refine ⟨_, rfl, by show 1 ≤ sizeLine; decide, fun l0 n0 => ⟨by show 1 ≤ sizeLine; decide, fun lv nlv mt nmt => ?_⟩⟩
    have s0 := same_new (o := .lst [.ref t]) n0
    have s1 := s0.trans (same_new (o := .lst [.ref l0]) nlv)
    have s2 : Same H _ := s1.trans (same_new (o := MetO P w mt []) nmt)
    refine ⟨_, rfl, t, pk (n, none), rfl, ?_, upd_same, ?_⟩
    · rw [pk_map]
      exact (Le.of s2).sqT ((fr_le M H).sqT ht)
    · have hl0 : upd (upd H l0 (.lst [.ref t])) lv (.lst [.ref l0]) lv = some (.lst [.ref l0]) := upd_same
      have hne : mt ≠ lv := fun e => by rw [e, upd_same] at nmt; cases nmt
      have hnl : H lv = none := by
        cases e : H lv with
        | none => rfl
        | some o => rw [s0 _ _ e] at nlv; cases nlv
      have hnm : H mt = none := by
        cases e : H mt with
        | none => rfl
        | some o => rw [s1 _ _ e] at nmt; cases nmt
      have leM : Le (fr M H) (fr (lv :: mt :: M) (upd H l0 (.lst [.ref t]))) := ((fr_cons hnm).trans (fr_cons hnl)).trans (same_le s0)
      refine ⟨_, _, rfl, LevI P w K M H a t lv mt sc n, ⟨fuelN n, [[(n, none)]], [.ref l0], [(t, pk (n, none))], none, none, none, rfl, newU s2 hnm, ?_, upd_same, ?_, rfl, ?_, .one, rfl, rfl⟩, ?_⟩
      · rw [upd_ne hne.symm, upd_ne hne.symm]; exact hl0
      · rw [fr_updM (by simp), fr_updM (by simp), fr_updM (by simp)]
        refine .cons ⟨[.ref t], .inl (.inl (fr_of upd_same ?_)), .cons ⟨t, rfl, leM.sqT ht⟩ .nil⟩ .nil
        simp only [List.mem_cons, not_or]
        refine ⟨fun e => ?_, fun e => ?_, mok.new n0⟩
        · rw [← e, upd_same] at nlv; cases nlv
        · have := s1 
          rw [← e, upd_ne, upd_same] at nmt
          · cases nmt
          · intro e
            rw [← e, upd_same] at nlv; cases nlv
      · intro p hp
        rw [List.mem_singleton] at hp
        subst hp
        rw [fr_updM (by simp), fr_updM (by simp), fr_updM (by simp)]
        exact leM.sqT ht
      · intro m σ H' hI
        obtain ⟨ls, vs, L, x4, x5, x6, rfl, sm, hv, hm, la, hk, hT, li, hrun, hfu⟩ := hI
        obtain ⟨b, hb1, hb2⟩ := la.last li.ne
        obtain ⟨xs, hx, hp⟩ := hb2
        have hx' := (fr_le _ _).sqL hx
        have hp' := hp.le (fr_le _ _)
        have hlen := hp.len
        have hsz : (lastL ls).length ≤ 222 := li.last_len g
        refine ⟨_, rfl, 1, rfl, lv, vs, -1, _, rfl, rfl, .inl (.inl hv), hb1, b, rfl, ⟨_, hx'⟩, fun Dl nD => lc_list (xs := xs) (LcI [] [] Dl H' (Mapd (lastL ls) fun p => .bl (decide (p.1 = 0)))) (LcI.start (by intro a h; cases h) (by simp) nD Mapd.zero)
          (fun i H2 _ p => (Le.of p.stp.same).sqL hx') (fun i x H2 hx2 p => ?_) (fun H2 p => ?_)⟩
        · obtain ⟨pl, e1, t1, rfl, e2⟩ := hp'.get hx2
          have hi : i < xs.length := (List.getElem?_eq_some_iff.mp hx2).1
          refine ⟨t1, _, rfl, (Le.of p.stp.same).sqT e2, rfl, _, _, rfl, _, _, rfl, rfl, rfl, _, rfl, rfl, ?_⟩
          show ∃ acc, _
          rw [dec_int0]
          exact p.step (by simp) nD (by intro a h; cases h) (.refl (M := []) (by intro a h; cases h) (by simp)) (by rw [sizeLine_eq]; omega) (fun acc _ r => r.yes e1)
        · obtain ⟨acc, hA, _, r⟩ := p.ex
          rw [hlen] at r
          have e := r.all
          subst e
          have s3 := p.stp.same
          refine ⟨Dl, (lastL ls).map fun p => decide (p.1 = 0), rfl, .inl (.inl (by rw [hA, List.map_map]; rfl)), _, rfl, ?_⟩
          have e0 : ((lastL ls).map fun p => decide (p.1 = 0)).any id = zero (lastL ls) := by rw [List.any_map]; rfl
          rw [e0]
          have sm2 := sm.trans s3
          have hll := li.len g
          have hlg : n.natAbs.log2 ≤ 1000 := by
            rcases Nat.eq_zero_or_pos n.natAbs with z | z
            · rw [z]; decide
            · have := (Nat.log2_lt (by omega)).mpr hn
              omega
          obtain ⟨m, rfl⟩ : ∃ k, m = k + 1 := ⟨m - 1, by unfold fuelN at hfu; omega⟩
          refine ite2 (fun c => ?_) fun c => ?_
          · have cz : ¬ zero (lastL ls) = true := by simpa using c
            refine ⟨LevI P w K M H a t lv mt sc n m, fun σ' H' h => ⟨m, by omega, h⟩, by show 0 ≤ sizeLine; decide, fun fu nfu => ?_⟩
            have nHfu : H fu = none := by
              cases e : H fu with
              | none => rfl
              | some o => rw [sm2 _ _ e] at nfu; cases nfu
            have hv2 := s3 _ _ hv
            have hm2 := s3 _ _ hm
            have d2 : fu ≠ lv := fun e => by rw [e, hv2] at nfu; cases nfu
            have d3 : fu ≠ mt := fun e => by rw [e, hm2] at nfu; cases nfu
            have ef : fr (fu :: lv :: mt :: M) (upd H2 fu (.lst [])) = fr (fu :: lv :: mt :: M) H2 := fr_updM (by simp)
            have le2 : Le (fr (lv :: mt :: M) H') (fr (fu :: lv :: mt :: M) H2) := (same_le s3).trans (fr_cons nfu)
            have F0 : FurI P w K M H lv mt fu b ls vs xs [] (upd H2 fu (.lst [])) := ⟨newU sm2 nHfu, by rw [upd_ne d2.symm]; exact hv2, ef ▸ la.le le2, ef ▸ le2.sqL hx, ef ▸ hp.le le2, ⟨[], upd_same, .nil⟩, L, by rw [upd_ne d3.symm]; exact hm2, by rw [hk, List.append_nil], ef ▸ hT.le le2⟩
            refine ⟨_, rfl, 1, rfl, lv, vs, -1, _, rfl, rfl, .inl (.inl F0.hv), hb1, b, rfl, ⟨_, (fr_le _ _).sqL F0.ll⟩, for_list (xs := xs) (fun i σ H4 => (∃ x5 x6, σ = [some (.ref a), some (.ref t), some (.ref lv), some (.ref mt), some (.ref fu), x5, x6, none, none]) ∧ FurI P w K M H lv mt fu b ls vs xs (((lastL ls).take i).foldl (fun f old => (stepsP sc old).foldl (addNew ls.flatten) f) []) H4)
              ⟨⟨_, _, rfl⟩, F0⟩ (fun i σ H4 _ p => (fr_le _ _).sqL p.2.ll) (fun i x σ H4 hx4 p => ?_) (fun σ H4 p => ?_)⟩
            · obtain ⟨⟨x5, x6, rfl⟩, FI⟩ := p
              obtain ⟨old, e1, t1, rfl, e2⟩ := FI.lp.get hx4
              have hold : old ∈ lastL ls := List.mem_of_getElem? e1
              have hNf : NewOf sc ls (((lastL ls).take i).foldl (fun f old => (stepsP sc old).foldl (addNew ls.flatten) f) []) := NewOf.all _ (NewOf.nil sc ls) fun o ho => List.mem_of_mem_take ho
              rw [foldl_take e1]
              generalize ((lastL ls).take i).foldl (fun f old => (stepsP sc old).foldl (addNew ls.flatten) f) [] = f0 at *
              refine ⟨_, rfl, _, rfl, fu :: lv :: mt :: M, a, t1, sc, old, rfl, FI.mok mok, (Le.of FI.sm).sch hs0, g, (fr_le _ _).sqT e2, fun l H5 s5 hl5 => ?_⟩
              obtain ⟨ys, hy, hpy⟩ := hl5
              refine ⟨l, rfl, ⟨_, (fr_le _ _).sqL hy⟩, for_list (xs := ys) (fun j σ H6 => (∃ x6, σ = [some (.ref a), some (.ref t), some (.ref lv), some (.ref mt), some (.ref fu), some (.ref t1), x6, none, none]) ∧ FurI P w K M H lv mt fu b ls vs xs (((stepsP sc old).take j).foldl (addNew ls.flatten) f0) H6 ∧ SqL K (fr (fu :: lv :: mt :: M) H6) l ys ∧ PlA K (fr (fu :: lv :: mt :: M) H6) ys (stepsP sc old))
                ⟨⟨_, rfl⟩, FI.same s5, hy, hpy⟩ (fun j σ H6 _ p => (fr_le _ _).sqL p.2.2.1) (fun j y σ H6 hy6 p => ?_) (fun σ H6 p => ?_)⟩
              · obtain ⟨⟨x6, rfl⟩, FJ, hy1, hpy1⟩ := p
                obtain ⟨pl, e3, t3, rfl, e4⟩ := hpy1.get hy6
                have hNj : NewOf sc ls (((stepsP sc old).take j).foldl (addNew ls.flatten) f0) := NewOf.adds hold _ hNf fun q hq => List.mem_of_mem_take hq
                rw [foldl_take e3]
                generalize ((stepsP sc old).take j).foldl (addNew ls.flatten) f0 = f1 at *
                obtain ⟨L6, hm6, hk6, hT6⟩ := FJ.hm
                obtain ⟨fv, hf6, hp6⟩ := FJ.hf
                have hn6 := hNj.len g li
                have hfl := li.flat g
                have hl6 : L6.length = ls.flatten.length + f1.length := by
                  have := congrArg List.length hk6
                  rw [List.length_map, List.length_map, List.length_append] at this
                  exact this
                refine ⟨_, rfl, _, rfl, mt, t3, L6, pk pl, rfl, rfl, hm6, hT6.le (fr_le _ _), by rw [pk_map]; exact (fr_le _ _).sqT e4, _, rfl, ?_⟩
                rw [hk6]
                by_cases c6 : pl ∈ ls.flatten ++ f1
                · have z : decide (pk pl ∈ (ls.flatten ++ f1).map pk) = true := decide_eq_true (pk_mem.mpr c6)
                  rw [z]
                  have e9 : addNew ls.flatten f1 pl = f1 := if_pos c6
                  rw [e9]
                  exact ⟨⟨_, rfl⟩, FJ, hy1, hpy1⟩
                · have z : decide (pk pl ∈ (ls.flatten ++ f1).map pk) = false := decide_eq_false fun m => c6 (pk_mem.mp m)
                  rw [z]
                  have e9 : addNew ls.flatten f1 pl = f1 ++ [pl] := if_neg c6
                  rw [e9]
                  refine ⟨_, rfl, _, rfl, mt, t3, L6, pk pl, rfl, rfl, rfl, hm6, hT6.le (fr_le _ _), by rw [pk_map]; exact (fr_le _ _).sqT e4, by rw [sizeLine_eq]; omega, by rw [hk6]; exact fun m => c6 (pk_mem.mp m), ?_⟩
                  have hfu6 : upd H6 mt (MetO P w mt (L6 ++ [(t3, pk pl)])) fu = some (.lst fv) := by rw [upd_ne d3]; exact hf6
                  refine ⟨_, rfl, (.inl ⟨rfl, _, .inl (.inl hfu6)⟩), _, rfl, fu, fv, _, rfl, rfl, hfu6, by have := hp6.len; rw [sizeLine_eq]; omega, ⟨_, rfl⟩, FJ.add hm6 hf6 hk6 hT6 hp6 e4 hnm nHfu hne d2 d3, ?_⟩
                  rw [fr_updM (by simp), fr_updM (by simp)]
                  exact ⟨hy1, hpy1⟩
              · obtain ⟨⟨x6, rfl⟩, FJ, _, _⟩ := p
                rw [hpy.len, List.take_length] at FJ
                exact ⟨⟨_, _, rfl⟩, FJ⟩
            · obtain ⟨⟨x5, x6, rfl⟩, FI⟩ := p
              rw [hlen, List.take_length] at FI
              have FI : FurI P w K M H lv mt fu b ls vs xs (fur sc ls) H4 := FI
              have hN := NewOf.fur sc ls
              obtain ⟨L6, hm6, hk6, hT6⟩ := FI.hm
              obtain ⟨fv, hf6, hp6⟩ := FI.hf
              have hn6 := hN.len g li
              have hl6 := hp6.len
              refine ⟨_, rfl, _, fv.length, rfl, .inl ⟨_, .inl (.inl hf6), rfl⟩, rfl, _, rfl, ?_⟩
              refine ite2 (fun c9 => ?_) fun c9 => ?_
              · have h0 : fv.length = 0 := by
                  have : V.int (fv.length : Int) = V.int 0 := of_decide_eq_true c9
                  injection this with this
                  omega
                have hf0 : fur sc ls = [] := List.eq_nil_of_length_eq_zero (by omega)
                refine ⟨_, rfl, q lv H4 vs FI.sm (.inl (.inl (fr_of FI.hv (mok.new hnl)))) ?_⟩
                rw [hrun]
                unfold runL
                rw [if_neg cz, if_pos hf0]
                exact FI.la.le (((fr_sub _ _ _).trans (fr_sub _ _ _)).trans (fr_sub _ _ _))
              · have hf0 : fur sc ls ≠ [] := fun e => c9 (by
                  rw [e] at hl6
                  simp [hl6])
                have hvl := FI.la.len
                refine ⟨_, rfl, (.inl ⟨rfl, _, .inl (.inl FI.hv)⟩), _, rfl, lv, vs, _, rfl, rfl, FI.hv, by rw [sizeLine_eq]; omega, ls ++ [fur sc ls], vs ++ [.ref fu], L6, some (.ref fu), x5, x6, rfl, newU FI.sm hnl, upd_same, by rw [upd_ne hne]; exact hm6, ?_, ?_, ?_, .snoc li hN hf0, ?_, ?_⟩
                · rw [fr_updM (by simp)]
                  refine LvA.snoc ⟨fv, .inl (.inl (fr_of hf6 (by simp only [List.mem_cons, not_or]; exact ⟨d2, d3, mok.new nHfu⟩))), hp6.le (fr_sub _ _ _)⟩ (FI.la.le (fr_sub _ _ _))
                · rw [hk6]; simp
                · rw [fr_updM (by simp)]
                  exact hT6.le (fr_sub _ _ _)
                · rw [hrun]
                  conv => lhs; unfold runL
                  rw [if_neg cz, if_neg hf0]
                · rw [List.length_append, List.length_singleton]; omega
          · have cz : zero (lastL ls) = true := by simpa using c
            refine ⟨_, rfl, q lv H2 vs sm2 (.inl (.inl (fr_of (s3 _ _ hv) (mok.new hnl)))) ?_⟩
            rw [hrun]
            unfold runL
            rw [if_pos cz]
            exact (la.le (same_le s3)).le ((fr_sub _ _ _).trans (fr_sub _ _ _))
def sp_is_open (K : PySem.W.Frag) (CS : Addr) : Sp := fun vs H Q _ => ∃ a t s n, vs = [.ref a, .ref t] ∧ SchAt K CS H a s ∧ GoodS s ∧ SqT K H t [.int n, .non] ∧ n.natAbs < 2 ^ 1000 ∧ ∀ H', Same H H' → Q (.bl (zero (lastL (lvls s n)))) H'
theorem ok_is_open (D : FnD K mg "is_open" s_is_open [] []) (F_levels_from : Fn P w K mg base "levels_from" 6 (sp_levels_from K CS)) : Fn P w K mg base "is_open" 7 (sp_is_open K CS) := by
  refine D.fn sc_is_open (fun _ _ _ _ _ _ us hl => match us, hl with | [_, _], _ => rfl) (fun vs H Q E h => ?_) (fun f cdv A outer s H vs Q E hr h => ?_)
  · obtain ⟨_, _, _, _, rfl, _⟩ := h
    rfl
  · obtain ⟨a, t, sc, n, rfl, hs, g, ht, hn, q⟩ := h
    refine ⟨_, (pss_one (ps_ret (pe_callB (cr_any rfl) (by rfl) B.any (by decide +kernel) (pa_cons (pe_lc rfl sc_is_open.nd (own := [("rest", 2), ("digit", 3)]) (g := gTup K 2 (gCons (gName 2) (gCons (gName 3) (gNil)))) (tt := tYes) (pi_list (pe_ix ix_list (c0 F_levels_from hr (pa_cons (pv 0) (pa_cons (pv 1) pa_nil))) (pe_un un_neg pe_int) (fun _ _ => rfl))) (blkOk_by (N := ["scheme", "place", "rest", "digit"]) (sc := defScope s_is_open) (by decide +kernel)) (fun _ _ _ _ _ => (pg_tup rfl (pgs_cons (pg_name (i := 2) sc_is_open.nd rfl (.inl rfl)) (pgs_cons (pg_name (i := 3) sc_is_open.nd rfl (.inl rfl)) pgs_nil)))) (fun _ _ _ _ _ => pts_nil) (fun _ _ _ _ _ => (pe_cmpR op_eq (pv 2) pe_int (nomark _)))) pa_nil)))), ?_⟩
    refine ⟨_, rfl, _, rfl, [], a, t, sc, n, rfl, (by intro a h; cases h), hs, g, by rw [fr_nil]; exact ht, hn, fun lv H' vs sm hv la => ?_⟩
    rw [fr_nil] at hv la
    have li := lvls_li sc n
    generalize lvls sc n = ls at *
    obtain ⟨b, hb1, hb2⟩ := la.last li.ne
    obtain ⟨xs, hx', hp'⟩ := hb2
    have hlen := hp'.len
    have hsz : (lastL ls).length ≤ 222 := li.last_len g
    refine ⟨1, rfl, lv, vs, -1, _, rfl, rfl, hv, hb1, b, rfl, ⟨_, hx'⟩, fun Dl nD => lc_list (xs := xs) (LcI [] [] Dl H' (Mapd (lastL ls) fun p => .bl (decide (p.1 = 0)))) (LcI.start (by intro a h; cases h) (by simp) nD Mapd.zero)
      (fun i H2 _ p => (Le.of p.stp.same).sqL hx') (fun i x H2 hx2 p => ?_) (fun H2 p => ?_)⟩
    · obtain ⟨pl, e1, t1, rfl, e2⟩ := hp'.get hx2
      have hi : i < xs.length := (List.getElem?_eq_some_iff.mp hx2).1
      refine ⟨t1, _, rfl, (Le.of p.stp.same).sqT e2, rfl, _, _, rfl, _, _, rfl, rfl, rfl, _, rfl, rfl, ?_⟩
      show ∃ acc, _
      rw [dec_int0]
      exact p.step (by simp) nD (by intro a h; cases h) (.refl (M := []) (by intro a h; cases h) (by simp)) (by rw [sizeLine_eq]; omega) (fun acc _ r => r.yes e1)
    · obtain ⟨acc, hA, _, r⟩ := p.ex
      rw [hlen] at r
      have e := r.all
      subst e
      have s3 := p.stp.same
      refine ⟨Dl, (lastL ls).map fun p => decide (p.1 = 0), rfl, .inl (.inl (by rw [hA, List.map_map]; rfl)), ?_⟩
      have e0 : ((lastL ls).map fun p => decide (p.1 = 0)).any id = zero (lastL ls) := by rw [List.any_map]; rfl
      rw [e0]
      exact q H2 (sm.trans s3)
def sp_is_written (K : PySem.W.Frag) (CS : Addr) : Sp := fun vs H Q _ => ∃ a s n, vs = [.ref a, .int n] ∧ SchAt K CS H a s ∧ GoodS s ∧ n.natAbs < 2 ^ 1000 ∧ ∀ H', Same H H' → Q (.bl (zero (lastL (lvls s n)))) H'
theorem ok_is_written (D : FnD K mg "is_written" s_is_written [.non] []) (F_check_place : Fn P w K mg base "check_place" 4 (sp_check_place K CS)) (F_is_open : Fn P w K mg base "is_open" 7 (sp_is_open K CS)) : Fn P w K mg base "is_written" 8 (sp_is_written K CS) := by
  refine D.fn1 sc_is_written 2 rfl (fun _ _ _ _ _ _ _ us its hl hi => match us, hl, its, hi with | [_, _], _, [_], _ => ⟨_, rfl, rfl⟩) (fun vs H Q E h => ?_) (fun f cdv A outer s H vs Q E hr h => ?_)
  · obtain ⟨_, _, _, rfl, _⟩ := h
    rfl
  · obtain ⟨a, sc, n, rfl, hs, g, hn, q⟩ := h
    refine ⟨_, (pss_cons (ps_expr (c0 F_check_place hr (pa_cons (pv 0) (pa_cons (pv 1) (pa_cons (pv 2) pa_nil))))) (pss_one (ps_ret (c0 F_is_open hr (pa_cons (pv 0) (pa_cons (pe_tup (pa_cons (pv 1) (pa_cons (pv 2) pa_nil))) pa_nil)))))), ?_⟩
    refine ⟨_, rfl, _, rfl, _, rfl, a, n, sc, rfl, hs, _, rfl, _, rfl, _, rfl, by show 2 ≤ sizeLine; decide, fun t nt => ?_⟩
    exact ⟨a, t, sc, n, rfl, (Le.of (same_new nt)).sch hs, g, .inl (.inl upd_same), hn, fun H' s' => q H' ((same_new nt).trans s')⟩
def sp_traced (K : PySem.W.Frag) (CS : Addr) : Sp := fun vs H Q _ => ∃ M a l xs s n ls, vs = [.ref a, .ref l] ∧ Mok M H ∧ SchAt K CS H a s ∧ GoodS s ∧ SqL K H l xs ∧ LvA K H xs ls ∧ LI s n ls ∧ zero (lastL ls) = true ∧ n.natAbs < 2 ^ 1000 ∧ ∀ t H', Same H H' → SqT K (fr M H') t ((trace s ls).map V.int) → Q (.ref t) H'
theorem ok_traced (D : FnD K mg "traced" s_traced [] []) (PR_base : Prp P w K mg base CS "base" "own_base") (F_allows : Me P w K mg base CS "allows" 4 (sp_allows K CS)) : Fn P w K mg base "traced" 5 (sp_traced K CS) := by
  refine D.fn sc_traced (fun _ _ _ _ _ _ us hl => match us, hl with | [_, _], _ => rfl) (fun vs H Q E h => ?_) (fun f cdv A outer s H vs Q E hr h => ?_)
  · obtain ⟨_, _, _, _, _, _, _, rfl, _⟩ := h
    rfl
  · obtain ⟨M, a, l, xs, sc, n, ls, rfl, mok, hs, g, hl, la, li, hz, hn, q⟩ := h
    refine ⟨_, (pss_cons (ps_if (pt_cmpR op_eq (pe_callB call_len (by rfl) B.len (by decide +kernel) (pa_cons (pv 1) pa_nil)) pe_int (nomark _)) (pss_one (ps_ret (pe_tup pa_nil))) pss_nil) (pss_cons (ps_set (i := 2) sc_traced.nd rfl (.inr rfl) (pe_callB (cr_min rfl) (by rfl) B.min (by decide +kernel) (pa_cons (pe_lc rfl sc_traced.nd (own := [("rest", 3), ("digit", 2)]) (g := gTup K 2 (gCons (gName 3) (gCons (gName 2) (gNil)))) (tt := _) (pi_list (pe_ix ix_list (pv 1) (pe_un un_neg pe_int) (fun _ _ => rfl))) (blkOk_by (N := ["scheme", "levels", "digit", "rest", "row", "level", "old", "other"]) (sc := defScope s_traced) (by decide +kernel)) (fun _ _ _ _ _ => (pg_tup rfl (pgs_cons (pg_name (i := 3) sc_traced.nd rfl (.inl rfl)) (pgs_cons (pg_name (i := 2) sc_traced.nd rfl (.inl rfl)) pgs_nil)))) (fun _ _ _ _ _ => (pts_one (pt_cmpR op_eq (pv 3) pe_int (nomark _)))) (fun _ _ _ _ _ => (pv 2))) pa_nil))) (pss_cons (ps_asg (pe_tup (pa_cons pe_int (pa_cons (pe_tup (pa_cons (pv 2) pa_nil)) pa_nil))) (pg_tup rfl (pgs_cons (pg_name (i := 3) sc_traced.nd rfl (.inr rfl)) (pgs_cons (pg_name (i := 4) sc_traced.nd rfl (.inl rfl)) pgs_nil)))) (pss_cons (ps_for (passes_of rfl) rfl (pi_list (pe_midL (pv 1))) (pg_name (i := 5) sc_traced.nd rfl (.inl rfl)) (pss_cons (ps_set (i := 3) sc_traced.nd rfl (.inr rfl) (pe_op op_add (pv 2) (pe_op op_mulW (pe_pr PR_base C.cl hr (pv 0)) (pv 3)))) (pss_cons (ps_set (i := 2) sc_traced.nd rfl (.inr rfl) (pe_callB (cr_min rfl) (by rfl) B.min (by decide +kernel) (pa_cons (pe_lc rfl sc_traced.nd (own := [("old", 6), ("other", 7)]) (g := gTup K 2 (gCons (gName 6) (gCons (gName 7) (gNil)))) (tt := _) (pi_list (pv 5)) (blkOk_by (N := ["scheme", "levels", "digit", "rest", "row", "level", "old", "other"]) (sc := defScope s_traced) (by decide +kernel)) (fun _ _ _ _ _ => (pg_tup rfl (pgs_cons (pg_name (i := 6) sc_traced.nd rfl (.inl rfl)) (pgs_cons (pg_name (i := 7) sc_traced.nd rfl (.inl rfl)) pgs_nil)))) (fun _ _ _ _ _ => (pts_one (PW.pt (pw_and (pt_cmpR op_eq (pv 6) (pv 3) (nomark _)) (pw_and1 (pt_val (mE F_allows hr C.cl passL (pv 0) (pa_cons (pv 2) (pa_cons (pv 7) pa_nil))))))))) (fun _ _ _ _ _ => (pv 7))) pa_nil))) (pss_one (ps_set (i := 4) sc_traced.nd rfl (.inl rfl) (pe_tup (StX.pa_star (pv 4) (pa_cons (pv 2) pa_nil)))))))) (pss_one (ps_ret (pv 4))))))), ?_⟩
    have hs0 := hs
    obtain ⟨dx, t1, t2, t3, ha, h1, h2, h3⟩ := hs
    have hll := la.len
    refine ⟨_, rfl, _, xs.length, rfl, .inl ⟨_, hl, rfl⟩, rfl, _, rfl, ?_⟩
    refine ite2 (fun c => ?_) fun c => ?_
    · have h0 : xs.length = 1 := by
        have : V.int (xs.length : Int) = V.int 1 := of_decide_eq_true c
        injection this with this
        omega
      refine ⟨by show 0 ≤ sizeLine; decide, fun p np => ?_⟩
      have e : trace sc ls = [] := if_pos (by omega)
      have := q p _ (same_new np) (by rw [e]; exact .inl (.inl (fr_of upd_same (mok.new np))))
      exact this
    · have h0 : ls.length ≠ 1 := fun e => c (by rw [hll, e]; rfl)
      obtain ⟨ls0, f0, els, li0, hf0⟩ := li.split h0
      have hlast : lastL ls = f0 := by rw [els, lastL_snoc]
      have hsome : ∀ p ∈ lastL ls, ∃ d, p.2 = some d ∧ ∃ old ∈ lastL ls0, p ∈ stepsP sc old := fun p hp => by
        rw [hlast] at hp
        obtain ⟨o2, ho2, hs2⟩ := hf0.src p hp
        obtain ⟨d2, e6, _⟩ := steps_mem g hs2
        exact ⟨d2, e6, o2, ho2, hs2⟩
      have hmid : mid ls = (ls0.drop 1).reverse := by
        unfold mid
        rw [els, List.drop_append_of_le_length (List.length_pos_iff.mpr li0.ne), List.dropLast_concat]
      obtain ⟨b, hb1, xb, hxb, hpb⟩ := la.last li.ne
      have hlb := hpb.len
      have hsz : (lastL ls).length ≤ 222 := li.last_len g
      have hll2 := li.len g
      have hlg := lim hn
      refine ⟨_, rfl, 1, rfl, l, xs, -1, _, rfl, rfl, hl, hb1, b, rfl, ⟨_, hxb⟩, fun Dl nD => lc_list (xs := xb) (LcI [] [] Dl H (Filt (lastL ls) (fun p => decide (p.1 = 0)) fun p => optV p.2)) (LcI.start (by intro a h; cases h) (by simp) nD Filt.zero)
        (fun i H2 _ p => (Le.of p.stp.same).sqL hxb) (fun i x H2 hx2 p => ?_) (fun H2 p => ?_)⟩
      · obtain ⟨pl, e1, t9, rfl, e2⟩ := hpb.get hx2
        have hi : i < xb.length := (List.getElem?_eq_some_iff.mp hx2).1
        refine ⟨t9, _, rfl, (Le.of p.stp.same).sqT e2, rfl, _, _, rfl, _, _, rfl, rfl, rfl, _, rfl, rfl, _, rfl, ?_⟩
        refine ite2 (fun c1 => ?_) fun c1 => ?_
        · have c2 : pl.1 = 0 := by
            have : V.int pl.1 = V.int 0 := of_decide_eq_true c1
            injection this
          refine ⟨_, rfl, ?_⟩
          exact p.step (by simp) nD (by intro a h; cases h) (.refl (M := []) (by intro a h; cases h) (by simp)) (by rw [sizeLine_eq]; omega) (fun acc _ r => r.yes e1 (decide_eq_true c2))
        · have c2 : ¬ pl.1 = 0 := fun e => c1 (by rw [e]; rfl)
          exact p.skip (by simp) nD (by intro a h; cases h) (.refl (M := []) (by intro a h; cases h) (by simp)) (fun acc _ r => r.no e1 (decide_eq_false c2))
      · obtain ⟨acc, hA, _, r⟩ := p.ex
        rw [hlb] at r
        have e := r.all
        rw [opt_ints _ (fun p hp => by
          obtain ⟨d, e, _⟩ := hsome p (List.mem_filter.mp hp).1
          exact ⟨d, e⟩)] at e
        have s3 := p.stp.same
        obtain ⟨pz, hpz, ez⟩ := zero_mem hz
        have hmz : pz ∈ (lastL ls).filter fun p => decide (p.1 = 0) := List.mem_filter.mpr ⟨hpz, decide_eq_true ez⟩
        have hne : (((lastL ls).filter fun p => decide (p.1 = 0)).map fun p => p.2.getD 0) ≠ [] := List.ne_nil_of_mem (List.mem_map.mpr ⟨pz, hmz, rfl⟩)
        refine ⟨Dl, ((lastL ls).filter fun p => decide (p.1 = 0)).map fun p => p.2.getD 0, rfl, .inl (.inl (by rw [hA, e])), List.length_pos_iff.mpr hne, fun m hm1 hm2 => ?_⟩
        have em := min_is hm1 hm2
        have hd0 : ∃ old ∈ lastL ls0, ((0 : Int), some m) ∈ stepsP sc old := by
          obtain ⟨p0, hp0, ep0⟩ := List.mem_map.mp hm1
          obtain ⟨hp1, hp2⟩ := List.mem_filter.mp hp0
          obtain ⟨d, ed, old, ho, hs9⟩ := hsome p0 hp1
          refine ⟨old, ho, ?_⟩
          have : p0 = (0, some m) := Prod.ext (of_decide_eq_true hp2) (by rw [← ep0, ed]; rfl)
          rw [← this]
          exact hs9
        have etr : trace sc ls = ((mid ls).foldl (stp1 sc) (0, m, [m])).2.2 := by
          rw [← trc_fold]
          show (if ls.length = 1 then [] else _) = _
          rw [if_neg h0, em]
        refine ⟨_, rfl, by show 1 ≤ sizeLine; decide, fun r0 nr0 => ⟨by show 2 ≤ sizeLine; decide, fun tt ntt => ⟨tt, _, rfl, .inl (.inl upd_same), rfl, _, _, rfl, _, _, rfl, rfl, ?_⟩⟩⟩
        have s4 : Same H2 (upd H2 r0 (.tup [.int m])) := same_new nr0
        have s5 := (s3.trans s4).trans (same_new (o := .tup [V.int 0, .ref r0]) ntt)
        have hr0 : SqT K (fr M (upd (upd H2 r0 (.tup [.int m])) tt (.tup [V.int 0, .ref r0]))) r0 [.int m] := (upd_le ntt).sqT (.inl (.inl (upd_fr nr0 (mok.same s3))))
        refine ⟨_, rfl, l, xs, rfl, (Le.of s5).sqL hl, by have := List.length_pos_iff.mpr li.ne; omega, fun ml nml => ⟨ml, rfl, ⟨_, .inl (.inl upd_same)⟩, ?_⟩⟩
        have s6 := s5.trans (same_new (o := .lst (mid xs)) nml)
        have hr1 := (upd_le (o := .lst (mid xs)) nml).sqT hr0
        have hmlL : SqL K (upd (upd (upd H2 r0 (.tup [.int m])) tt (.tup [V.int 0, .ref r0])) ml (.lst (mid xs))) ml (mid xs) := .inl (.inl upd_same)
        have la6 := (la.le (Le.of s6)).mid
        generalize upd (upd (upd H2 r0 (.tup [.int m])) tt (.tup [V.int 0, .ref r0])) ml (.lst (mid xs)) = H6 at *
        refine for_list (xs := mid xs) (fun i σ H7 => (∃ x5, ∃ rw : Addr, σ = [some (.ref a), some (.ref l), some (.int (((mid ls).take i).foldl (stp1 sc) (0, m, [m])).2.1), some (.int (((mid ls).take i).foldl (stp1 sc) (0, m, [m])).1), some (.ref rw), x5, none, none] ∧ SqT K (fr M H7) rw ((((mid ls).take i).foldl (stp1 sc) (0, m, [m])).2.2.map V.int)) ∧ Same H6 H7)
          ⟨⟨_, r0, rfl, hr1⟩, Same.refl _⟩ (fun i σ H7 _ p => (Le.of p.2).sqL hmlL) (fun i x σ H7 hx7 p => ?_) (fun σ H7 p => ?_)
        · obtain ⟨⟨x5, rw_, rfl, hrw⟩, s7⟩ := p
          obtain ⟨lva, lv, rfl, e1, xl, hxl, hpl⟩ := la6.get hx7
          rw [foldl_take e1]
          have e1' := e1
          rw [hmid] at e1'
          have key := trc_ne g li0 0 m [m] hd0 i lv e1'
          rw [← hmid] at key
          have hsl := stp1_len sc ((mid ls).take i) (0, m, [m])
          have hml2 : (mid ls).length ≤ ls.length := by
            unfold mid
            rw [List.length_reverse, List.length_dropLast, List.length_drop]
            omega
          have htl : ((mid ls).take i).length ≤ (mid ls).length := by rw [List.length_take]; omega
          generalize ((mid ls).take i).foldl (stp1 sc) (0, m, [m]) = st at *
          obtain ⟨⟨pz2, hpz2, ez2, az2⟩, hrest, hlvs, hlv2⟩ := key
          have ha7 := (s6.trans s7) _ _ ha
          have hbd : st.1.natAbs < 2 ^ 1001 := by
            have hb1 : st.1.natAbs ≤ n.natAbs + 9 := by
              rcases hrest with h | ⟨p9, hp9, e9⟩
              · rw [h]; simp
              · have := far_all g li0 p9 hp9
                rw [e9] at this
                omega
            have h2 : (2 : Nat) ^ 1001 = 2 ^ 1000 * 2 := by rw [Nat.pow_succ]
            have h3 : 16 ≤ 2 ^ 1000 := by
              have : (2 : Nat) ^ 4 ≤ 2 ^ 1000 := Nat.pow_le_pow_right (by omega) (by omega)
              omega
            omega
          have hbb := isBase_bd g.base
          refine ⟨_, rfl, _, rfl, a, dx, _, rfl, ha7, a, dx, _, .int sc.base, rfl, ha7, rfl, _, rfl, _, _, rfl, rfl, ?_, _, _, rfl, rfl, ?_⟩
          · exact wide_mul (a := 3) (b := 1001) (by omega) hbd (by omega) (by omega) (by omega)
          · have hxl7 := (Le.of s7).sqL hxl
            have hpl7 := hpl.le (Le.of s7)
            have hlx := hpl.len
            refine ⟨_, rfl, lva, rfl, ⟨_, hxl7⟩, fun D2 n2 => lc_list (xs := xl) (LcI [] [] D2 H7 (Filt lv (fun p => decide (p.1 = st.2.1 + sc.base * st.1) && alw sc st.2.1 p.2) fun p => optV p.2)) (LcI.start (by intro a h; cases h) (by simp) n2 Filt.zero)
              (fun i H2 _ p => (Le.of p.stp.same).sqL hxl7) (fun i x H8 hx2 p => ?_) (fun H8 p => ?_)⟩
            · obtain ⟨pl, e1, t9, rfl, e2⟩ := hpl7.get hx2
              have hi : i < xl.length := (List.getElem?_eq_some_iff.mp hx2).1
              have ha8 := p.stp.same _ _ ha7
              refine ⟨t9, _, rfl, (Le.of p.stp.same).sqT e2, rfl, _, _, rfl, _, _, rfl, rfl, rfl, _, rfl, _, rfl, rfl, _, rfl, ?_⟩
              refine ite2 (fun c1 => ?_) fun c1 => ?_
              · have c2 : pl.1 = st.2.1 + sc.base * st.1 := by
                  have : V.int pl.1 = V.int (st.2.1 + sc.base * st.1) := of_decide_eq_true c1
                  injection this
                refine ⟨_, rfl, a, dx, _, rfl, ha8, rfl, _, rfl, _, rfl, a, st.2.1, pl.2, sc, rfl, (Le.of ((s6.trans s7).trans p.stp.same)).sch hs0, g, fun H9 s9 => ⟨_, rfl, ?_⟩⟩
                refine ite2 (fun c3 => ?_) fun c3 => ?_
                · refine ⟨_, rfl, ?_⟩
                  exact p.step (by simp) n2 (by intro a h; cases h) (.nil s9) (by rw [sizeLine_eq]; omega) (fun acc _ r => r.yes e1 (by rw [c3, Bool.and_true]; exact decide_eq_true c2))
                · exact p.skip (by simp) n2 (by intro a h; cases h) (.nil s9) (fun acc _ r => r.no e1 (by rw [Bool.eq_false_iff.mpr c3, Bool.and_false]))
              · have c2 : ¬ pl.1 = st.2.1 + sc.base * st.1 := fun e => c1 (by rw [e]; simp)
                exact p.skip (by simp) n2 (by intro a h; cases h) (.refl (M := []) (by intro a h; cases h) (by simp)) (fun acc _ r => r.no e1 (by rw [decide_eq_false c2, Bool.false_and]))
            · obtain ⟨acc, hA, _, r⟩ := p.ex
              rw [hlx] at r
              have e := r.all
              rw [opt_ints _ (fun p hp => hlvs p (List.mem_filter.mp hp).1)] at e
              have hmz2 : pz2 ∈ lv.filter fun p => decide (p.1 = st.2.1 + sc.base * st.1) && alw sc st.2.1 p.2 := List.mem_filter.mpr ⟨hpz2, by rw [az2, Bool.and_true]; exact decide_eq_true ez2⟩
              have hne3 : ((lv.filter fun p => decide (p.1 = st.2.1 + sc.base * st.1) && alw sc st.2.1 p.2).map fun p => p.2.getD 0) ≠ [] := List.ne_nil_of_mem (List.mem_map.mpr ⟨pz2, hmz2, rfl⟩)
              refine ⟨D2, (lv.filter fun p => decide (p.1 = st.2.1 + sc.base * st.1) && alw sc st.2.1 p.2).map fun p => p.2.getD 0, rfl, .inl (.inl (by rw [hA, e])), List.length_pos_iff.mpr hne3, fun m9 hm8 hm9 => ?_⟩
              have em9 := min_is hm8 hm9
              have s8 := p.stp.same
              have hrw8 := (same_le s8).sqT hrw
              refine ⟨_, rfl, rw_, st.2.2.map V.int, rfl, .inl ((fr_le _ _).sqT hrw8), _, rfl, ?_, fun r9 nr9 => ?_⟩
              · rw [List.length_append, List.length_map, hsl, sizeLine_eq]
                show ([m].length + ((mid ls).take i).length) + 1 ≤ _
                rw [List.length_singleton]
                omega
              · refine ⟨⟨some (.ref lva), r9, ?_, ?_⟩, (s7.trans s8).trans (same_new nr9)⟩
                · rw [em9]; rfl
                · refine .inl (.inl ?_)
                  have hM : Mok M H8 := mok.same ((s6.trans s7).trans s8)
                  rw [upd_fr nr9 hM, em9]
                  show _ = some (HO.tup ((st.2.2 ++ [_]).map V.int))
                  rw [List.map_append]
                  rfl
        · obtain ⟨⟨x5, rw_, rfl, hrw⟩, s7⟩ := p
          rw [la6.len, List.take_length, ← etr] at hrw
          exact ⟨_, rfl, q rw_ H7 (s6.trans s7) hrw⟩
def sp_writing (K : PySem.W.Frag) (CS : Addr) : Sp := fun vs H Q _ => ∃ M a s n, vs = [.ref a, .int n] ∧ Mok M H ∧ SchAt K CS H a s ∧ GoodS s ∧ n.natAbs < 2 ^ 1000 ∧
  (wr s n = none → ∀ H', Same H H' → Q .non H') ∧ ∀ row, wr s n = some row → ∀ t H', Same H H' → SqT K (fr M H') t (row.map V.int) → Q (.ref t) H'
theorem ok_writing (D : FnD K mg "writing" s_writing [.non] []) (F_check_place : Fn P w K mg base "check_place" 4 (sp_check_place K CS)) (F_levels_from : Fn P w K mg base "levels_from" 6 (sp_levels_from K CS)) (F_traced : Fn P w K mg base "traced" 5 (sp_traced K CS)) : Fn P w K mg base "writing" 7 (sp_writing K CS) := by
  refine D.fn1 sc_writing 2 rfl (fun _ _ _ _ _ _ _ us its hl hi => match us, hl, its, hi with | [_, _], _, [_], _ => ⟨_, rfl, rfl⟩) (fun vs H Q E h => ?_) (fun f cdv A outer s H vs Q E hr h => ?_)
  · obtain ⟨_, _, _, _, rfl, _⟩ := h
    rfl
  · obtain ⟨M, a, sc, n, rfl, mok, hs, g, hn, q0, q1⟩ := h
    refine ⟨_, (pss_cons (ps_expr (c0 F_check_place hr (pa_cons (pv 0) (pa_cons (pv 1) (pa_cons (pv 2) pa_nil))))) (pss_cons (ps_set (i := 3) sc_writing.nd rfl (.inl rfl) (c0 F_levels_from hr (pa_cons (pv 0) (pa_cons (pe_tup (pa_cons (pv 1) (pa_cons (pv 2) pa_nil))) pa_nil)))) (pss_one (ps_ret (pe_ifExp (pt_val (pe_callB (cr_any rfl) (by rfl) B.any (by decide +kernel) (pa_cons (pe_lc rfl sc_writing.nd (own := [("rest", 4), ("digit", 5)]) (g := gTup K 2 (gCons (gName 4) (gCons (gName 5) (gNil)))) (tt := tYes) (pi_list (pe_ix ix_list (pv 3) (pe_un un_neg pe_int) (fun _ _ => rfl))) (blkOk_by (N := ["scheme", "number", "right", "levels", "rest", "digit"]) (sc := defScope s_writing) (by decide +kernel)) (fun _ _ _ _ _ => (pg_tup rfl (pgs_cons (pg_name (i := 4) sc_writing.nd rfl (.inl rfl)) (pgs_cons (pg_name (i := 5) sc_writing.nd rfl (.inl rfl)) pgs_nil)))) (fun _ _ _ _ _ => pts_nil) (fun _ _ _ _ _ => (pe_cmpR op_eq (pv 4) pe_int (nomark _)))) pa_nil))) (c0 F_traced hr (pa_cons (pv 0) (pa_cons (pv 3) pa_nil))) pe_non))))), ?_⟩
    refine ⟨_, rfl, _, rfl, _, rfl, a, n, sc, rfl, hs, _, rfl, _, rfl, _, rfl, by show 2 ≤ sizeLine; decide, fun t nt => ?_⟩
    have s1 := same_new (o := .tup [V.int n, .non]) nt
    refine ⟨[], a, t, sc, n, rfl, (by intro a h; cases h), (Le.of s1).sch hs, g, by rw [fr_nil]; exact .inl (.inl upd_same), hn, fun lv H' vs sm hv la => ?_⟩
    rw [fr_nil] at hv la
    have li := lvls_li sc n
    unfold wr at q0 q1
    generalize lvls sc n = ls at *
    obtain ⟨b, hb1, hb2⟩ := la.last li.ne
    obtain ⟨xs, hx', hp'⟩ := hb2
    have hlen := hp'.len
    have hsz : (lastL ls).length ≤ 222 := li.last_len g
    refine ⟨_, rfl, 1, rfl, lv, vs, -1, _, rfl, rfl, hv, hb1, b, rfl, ⟨_, hx'⟩, fun Dl nD => lc_list (xs := xs) (LcI [] [] Dl H' (Mapd (lastL ls) fun p => .bl (decide (p.1 = 0)))) (LcI.start (by intro a h; cases h) (by simp) nD Mapd.zero)
      (fun i H2 _ p => (Le.of p.stp.same).sqL hx') (fun i x H2 hx2 p => ?_) (fun H2 p => ?_)⟩
    · obtain ⟨pl, e1, t1, rfl, e2⟩ := hp'.get hx2
      have hi : i < xs.length := (List.getElem?_eq_some_iff.mp hx2).1
      refine ⟨t1, _, rfl, (Le.of p.stp.same).sqT e2, rfl, _, _, rfl, _, _, rfl, rfl, rfl, _, rfl, rfl, ?_⟩
      show ∃ acc, _
      rw [dec_int0]
      exact p.step (by simp) nD (by intro a h; cases h) (.refl (M := []) (by intro a h; cases h) (by simp)) (by rw [sizeLine_eq]; omega) (fun acc _ r => r.yes e1)
    · obtain ⟨acc, hA, _, r⟩ := p.ex
      rw [hlen] at r
      have e := r.all
      subst e
      have s3 := p.stp.same
      have s4 := (s1.trans sm).trans s3
      refine ⟨Dl, (lastL ls).map fun p => decide (p.1 = 0), rfl, .inl (.inl (by rw [hA, List.map_map]; rfl)), _, rfl, ?_⟩
      have e0 : ((lastL ls).map fun p => decide (p.1 = 0)).any id = zero (lastL ls) := by rw [List.any_map]; rfl
      rw [e0]
      refine ite2 (fun c => ?_) fun c => ?_
      · rw [if_pos c] at q1
        refine ⟨_, rfl, _, rfl, M, a, lv, vs, sc, n, ls, rfl, mok.same s4, (Le.of s4).sch hs, g, (Le.of s3).sqL hv, la.le (Le.of s3), li, c, hn, fun t9 H9 s9 h9 => q1 _ rfl t9 H9 (s4.trans s9) h9⟩
      · exact q0 (if_neg c) H2 s4
end
end K75
set_option maxHeartbeats 2000000
/-! ### the book's state, in plain Lean and in the heap -/
namespace K75
open PySem PySem.Spec PyProof.Rows L2
theorem lc_str {g : TG} {tt : TT} {te : TE} {vs : List Nat} {σ : L2.St} {H1 : Hp} {D : Addr} {Qd : Hp → Prop} {z : Str} (Pv : Nat → Hp → Prop) (h0 : Pv 0 (upd H1 D (.lst [])))
    (hs : ∀ i c H, z.cps[i]? = some c → Pv i H → g (.str ⟨#[c]⟩) (wipe σ vs) H fun σ2 H2 => wipe σ2 vs = wipe σ vs ∧ tt σ2 H2 fun b H3 =>
      if b = true then te σ2 H3 fun y H4 => ∃ acc, H4 D = some (.lst acc) ∧ acc.length < sizeLine ∧ Pv (i + 1) (upd H4 D (.lst (acc ++ [y]))) else Pv (i + 1) H3) (hd : ∀ H, Pv z.cps.size H → Qd H) :
    ∃ W : Nat → Nat → Hp → Prop, (∃ m, W 0 m (upd H1 D (.lst []))) ∧ ∀ i m H, W i m H →
      ((Its z).stop i H ∧ Qd H) ∨ ((Its z).go i H ∧ ∃ Nx : Hp → Prop, (∀ H', Nx H' → ∃ m', m' < m ∧ W (i + 1) m' H') ∧ ∀ x H', (Its z).yld i H x H' → g x (wipe σ vs) H' fun σ2 H2 => wipe σ2 vs = wipe σ vs ∧ tt σ2 H2 fun b H3 =>
        if b = true then te σ2 H3 fun y H4 => ∃ acc, H4 D = some (.lst acc) ∧ acc.length < sizeLine ∧ Nx (upd H4 D (.lst (acc ++ [y]))) else Nx H3) := by
  refine ⟨fun i m H => m = z.cps.size - i ∧ i ≤ z.cps.size ∧ Pv i H, ⟨z.cps.size, by simp, Nat.zero_le _, h0⟩, ?_⟩
  rintro i m H ⟨rfl, hi, p⟩
  by_cases hlt : i < z.cps.size
  · refine .inr ⟨hlt, Pv (i + 1), fun H' p' => ⟨z.cps.size - (i + 1), by omega, rfl, hlt, p'⟩, fun x H' y => ?_⟩
    obtain ⟨rfl, c, e, rfl⟩ := y
    exact hs i c _ e p
  · have e : i = z.cps.size := by omega
    subst e
    exact .inl ⟨Nat.le_refl _, hd H p⟩
/-! #### names -/
def alpha : Str := "abcdefghijklmnopqrstuvwxyz"
def isLetter (c : Nat) : Bool := !(Builtin.Str.occurrences alpha ⟨#[c]⟩ 0 alpha.length 1).isEmpty
def isNameS (x : Str) : Bool := decide (1 ≤ x.length) && decide (x.length ≤ 8) && x.cps.toList.all isLetter
def isName : PyData → Bool
  | .str x => isNameS x
  | _ => false
/-! #### lists by names -/
section
variable {α β : Type}
def look (l : List (Str × α)) (x : Str) : Option α := (l.find? fun p => decide (p.1 = x)).map (·.2)
def put (l : List (Str × α)) (x : Str) (y : α) : List (Str × α) := if (l.any fun p => decide (p.1 = x)) = true then l.map (fun p => if p.1 = x then (p.1, y) else p) else l ++ [(x, y)]
def dropN (l : List (Str × α)) (x : Str) : List (Str × α) := l.filter fun p => decide (p.1 ≠ x)
/-- the values stand for the items -/
inductive AssA (R : V → α → Prop) : List (Key × V) → List (Str × α) → Prop
  | nil : AssA R [] []
  | cons {x v y kvs l} (h : R v y) (r : AssA R kvs l) : AssA R ((.inr x, v) :: kvs) ((x, y) :: l)
variable {R S : V → α → Prop} {kvs : List (Key × V)} {l : List (Str × α)}
theorem AssA.mono (h : ∀ v y, R v y → S v y) : ∀ {kvs : List (Key × V)} {l : List (Str × α)}, AssA R kvs l → AssA S kvs l
  | _, _, .nil => .nil
  | _, _, .cons a r => .cons (h _ _ a) (AssA.mono h r)
theorem AssA.keys : ∀ {kvs : List (Key × V)} {l : List (Str × α)}, AssA R kvs l → kvs.map (·.1) = (l.map (·.1)).map Sum.inr
  | _, _, .nil => rfl
  | _, _, .cons a r => by simp [AssA.keys r]
theorem AssA.len : ∀ {kvs : List (Key × V)} {l : List (Str × α)}, AssA R kvs l → kvs.length = l.length
  | _, _, .nil => rfl
  | _, _, .cons a r => by simp [AssA.len r]
theorem AssA.get : ∀ {i : Nat} {kvs : List (Key × V)} {l : List (Str × α)} {k : Key} {v : V}, AssA R kvs l → kvs[i]? = some (k, v) → ∃ x y, k = .inr x ∧ l[i]? = some (x, y) ∧ R v y
  | _, _, _, _, _, .nil, e => by simp at e
  | 0, _, _, _, _, .cons h r, e => by cases e; exact ⟨_, _, rfl, rfl, h⟩
  | i + 1, _, _, _, _, .cons h r, e => by simpa using AssA.get (i := i) r (by simpa using e)
theorem AssA.none (x : Str) : ∀ {kvs : List (Key × V)} {l : List (Str × α)}, AssA R kvs l → look l x = .none → valV kvs (.inr x) = .none
  | _, _, .nil, _ => rfl
  | _, _, .cons (x := z) h r, e => by
    by_cases c : z = x
    · subst c; simp [look] at e
    · rw [valV_neg (by simpa using c)]
      exact AssA.none x r (by simpa [look, c] using e)
theorem AssA.some (x : Str) {y : α} : ∀ {kvs : List (Key × V)} {l : List (Str × α)}, AssA R kvs l → look l x = .some y → ∃ v, valV kvs (.inr x) = .some v ∧ R v y
  | _, _, .nil, e => by simp [look] at e
  | _, _, .cons (x := z) h r, e => by
    by_cases c : z = x
    · subst c
      simp [look] at e
      subst e
      exact ⟨_, valV_pos rfl, h⟩
    · rw [valV_neg (by simpa using c)]
      exact AssA.some x r (by simpa [look, c] using e)
theorem AssA.isSome (x : Str) (h : AssA R kvs l) : (valV kvs (.inr x)).isSome = (look l x).isSome := by
  cases e : look l x with
  | none => rw [h.none x e]; rfl
  | some y =>
    obtain ⟨v, e2, _⟩ := h.some x e
    rw [e2]; rfl
theorem AssA.anyK (x : Str) : ∀ {kvs : List (Key × V)} {l : List (Str × α)}, AssA R kvs l → (kvs.any fun kv => decide (kv.1 = .inr x)) = l.any fun p => decide (p.1 = x)
  | _, _, .nil => rfl
  | _, _, .cons (x := z) h r => by
    rw [List.any_cons, List.any_cons, AssA.anyK x r]
    congr 1
    by_cases c : z = x <;> simp [c]
theorem AssA.app {k2 : List (Key × V)} {l2 : List (Str × α)} (h2 : AssA R k2 l2) : ∀ {kvs : List (Key × V)} {l : List (Str × α)}, AssA R kvs l → AssA R (kvs ++ k2) (l ++ l2)
  | _, _, .nil => h2
  | _, _, .cons h r => .cons h (AssA.app h2 r)
theorem AssA.set (x : Str) {v : V} {y : α} (hv : R v y) : ∀ {kvs : List (Key × V)} {l : List (Str × α)}, AssA R kvs l → AssA R (kvs.map fun kv => if kv.1 = .inr x then (kv.1, v) else kv) (l.map fun p => if p.1 = x then (p.1, y) else p)
  | _, _, .nil => .nil
  | _, _, .cons (x := z) h r => by
    rw [List.map_cons, List.map_cons]
    by_cases c : z = x
    · subst c
      simp only [if_pos]
      exact .cons hv (AssA.set z hv r)
    · have c2 : ¬ (Sum.inr z : Key) = .inr x := by simpa using c
      simp only [if_neg c, if_neg c2]
      exact .cons h (AssA.set x hv r)
theorem AssA.put (x : Str) {v : V} {y : α} (hv : R v y) (h : AssA R kvs l) : AssA R (putK kvs (.inr x) v) (K75.put l x y) := by
  unfold putK K75.put
  rw [h.anyK x]
  split
  · exact h.set x hv
  · exact AssA.app (.cons hv .nil) h
theorem AssA.drop (x : Str) : ∀ {kvs : List (Key × V)} {l : List (Str × α)}, AssA R kvs l → AssA R (dropK kvs (.inr x)) (dropN l x)
  | _, _, .nil => .nil
  | _, _, .cons (x := z) h r => by
    have ih := AssA.drop x r
    unfold dropK dropN at *
    by_cases c : z = x
    · subst c
      rw [List.filter_cons_of_neg (by simp), List.filter_cons_of_neg (by simp)]
      exact ih
    · rw [List.filter_cons_of_pos (by simpa using c), List.filter_cons_of_pos (by simpa using c)]
      exact .cons h ih
theorem look_mem {l : List (Str × α)} {x : Str} {y : α} (h : look l x = some y) : (x, y) ∈ l := by
  unfold look at h
  cases e : l.find? fun p => decide (p.1 = x) with
  | none => rw [e] at h; cases h
  | some p =>
    rw [e] at h
    cases h
    have h1 := List.mem_of_find?_eq_some e
    have h2 := List.find?_some e
    have : p.1 = x := of_decide_eq_true h2
    rw [← this]
    exact h1
theorem look_isSome {l : List (Str × α)} {x : Str} : (look l x).isSome = l.any fun p => decide (p.1 = x) := by
  induction l with
  | nil => rfl
  | cons p l ih =>
    by_cases c : p.1 = x
    · simp [look, c]
    · rw [List.any_cons, ← ih]
      simp [look, c]
theorem put_mem {l : List (Str × α)} {x : Str} {y : α} {p : Str × α} (h : p ∈ put l x y) : p ∈ l ∨ p = (x, y) := by
  unfold put at h
  split at h
  · obtain ⟨q, hq, e⟩ := List.mem_map.mp h
    split at e
    · rename_i c; right; rw [← e, c]
    · left; rw [← e]; exact hq
  · rcases List.mem_append.mp h with h | h
    · exact .inl h
    · rw [List.mem_singleton] at h; exact .inr h
theorem put_keys {l : List (Str × α)} {x : Str} {y : α} : (put l x y).map (·.1) = if x ∈ l.map (·.1) then l.map (·.1) else l.map (·.1) ++ [x] := by
  unfold put
  have e : (l.any fun p => decide (p.1 = x)) = decide (x ∈ l.map (·.1)) := by
    rw [Bool.eq_iff_iff]
    simp only [List.any_eq_true, decide_eq_true_eq, List.mem_map]
  rw [e]
  by_cases c : x ∈ l.map (·.1)
  · rw [if_pos (decide_eq_true c), if_pos c, List.map_map]
    refine List.map_congr_left fun p _ => ?_
    show (if p.1 = x then (p.1, y) else p).1 = p.1
    split <;> rfl
  · rw [if_neg (by simp [c]), if_neg c, List.map_append]
    rfl
end
/-- a state of the book -/
structure Stt where
  sch : List (Str × Sch)
  ent : List (Str × (Str × List Int))
/-- what stands in F stands in G -/
def LeS (F G : Hp) : Prop := ∀ a o, F a = some o → G a = some o
theorem LeS.le {F G : Hp} (h : LeS F G) : Le F G := Le.of h
theorem LeS.trans {F G H : Hp} (a : LeS F G) (b : LeS G H) : LeS F H := fun x o h => b x o (a x o h)
theorem sb_leS {A M : List Addr} {H H' : Hp} (s : SB A H H') (h : ∀ x ∈ A, x ∈ M) : LeS (fr M H) (fr M H') := fun a o q => by
  obtain ⟨q, m⟩ := fr_some q
  exact fr_of (s a o (fun z => m (h a z)) q) m
theorem same_leS {M : List Addr} {H H' : Hp} (s : Same H H') : LeS (fr M H) (fr M H') := sb_leS (sb_same s []) (by simp)
theorem fr_leS (M : List Addr) (H : Hp) : LeS (fr M H) H := fun _ _ h => (fr_some h).1
/-- a dict by names: locked perhaps, if u = false -/
def Dk (u : Bool) (F : Hp) (d : Addr) (ks : List (Key × V)) : Prop := F d = some (.dK ks) ∨ (u = false ∧ ∃ o, F d = some (.frz o (.dK ks)))
section
variable {K : PySem.W.Frag} {CS CB : Addr} {F G : Hp} {u : Bool}
theorem Dk.rd {d : Addr} {ks : List (Key × V)} (h : Dk u F d ks) : Rd F d (.dK ks) := by
  rcases h with h | ⟨_, h⟩
  · exact .inl h
  · exact .inr h
theorem Dk.leS (e : LeS F G) {d : Addr} {ks : List (Key × V)} (h : Dk u F d ks) : Dk u G d ks := by
  rcases h with h | ⟨a, o, h⟩
  · exact .inl (e _ _ h)
  · exact .inr ⟨a, o, e _ _ h⟩
theorem Dk.le (e : Le F G) {d : Addr} {ks : List (Key × V)} (h : Dk false F d ks) : Dk false G d ks := by
  rcases e.rd _ _ h.rd with h | ⟨o, h⟩
  · exact .inl h
  · exact .inr ⟨rfl, o, h⟩
theorem Dk.weak {d : Addr} {ks : List (Key × V)} (h : Dk u F d ks) : Dk false F d ks := by
  rcases h with h | ⟨_, h⟩
  · exact .inl h
  · exact .inr ⟨rfl, h⟩
def SchR (K : PySem.W.Frag) (CS : Addr) (F : Hp) (v : V) (s : Sch) : Prop := ∃ a, v = .ref a ∧ SchAt K CS F a s
def EntR (K : PySem.W.Frag) (F : Hp) (v : V) (e : Str × List Int) : Prop := ∃ t r, v = .ref t ∧ SqT K F t [.str e.1, .ref r] ∧ SqT K F r (e.2.map V.int)
theorem SchR.le (e : Le F G) {v : V} {s : Sch} (h : SchR K CS F v s) : SchR K CS G v s := let ⟨a, b, c⟩ := h; ⟨a, b, e.sch c⟩
theorem EntR.le (e : Le F G) {v : V} {s : Str × List Int} (h : EntR K F v s) : EntR K G v s := let ⟨a, r, b, c, d⟩ := h; ⟨a, r, b, e.sqT c, e.sqT d⟩
/-- two dicts hold a state -/
structure StR (K : PySem.W.Frag) (CS : Addr) (u : Bool) (F : Hp) (ds de : Addr) (ks ke : List (Key × V)) (st : Stt) : Prop where
  rs : Dk u F ds ks
  re : Dk u F de ke
  as : AssA (SchR K CS F) ks st.sch
  ae : AssA (EntR K F) ke st.ent
variable {ds de pl : Addr} {ks ke : List (Key × V)} {st : Stt} {v : V} {vs : List V} {sts : List Stt}
theorem StR.leS (e : LeS F G) (h : StR K CS u F ds de ks ke st) : StR K CS u G ds de ks ke st :=
  ⟨h.rs.leS e, h.re.leS e, h.as.mono fun _ _ => SchR.le e.le, h.ae.mono fun _ _ => EntR.le e.le⟩
theorem StR.le (e : Le F G) (h : StR K CS false F ds de ks ke st) : StR K CS false G ds de ks ke st :=
  ⟨h.rs.le e, h.re.le e, h.as.mono fun _ _ => SchR.le e, h.ae.mono fun _ _ => EntR.le e⟩
theorem StR.weak (h : StR K CS u F ds de ks ke st) : StR K CS false F ds de ks ke st := ⟨h.rs.weak, h.re.weak, h.as, h.ae⟩
/-- what is good in a state; n: how great its numbers may be -/
structure GoodT (n : Nat) (st : Stt) : Prop where
  gs : ∀ p ∈ st.sch, GoodS p.2
  ns : ∀ p ∈ st.sch, isNameS p.1 = true
  ne : ∀ p ∈ st.ent, isNameS p.1 = true
  es : ∀ p ∈ st.ent, ∃ s, look st.sch p.2.1 = some s ∧ rowD s (.tuple (p.2.2.map PyData.int)) = true ∧ (val s.base p.2.2).natAbs ≤ 10 ^ 20 * 4 ^ n ∧ p.2.2.length ≤ 500
/-- the fields of a book -/
def bfs (ds de pl : Addr) : List (Str × V) := [("own_schemes", .ref ds), ("own_rows", .ref de), ("past", .ref pl)]
/-- a past state in the list -/
def PastR (K : PySem.W.Frag) (CS : Addr) (u : Bool) (F : Hp) (v : V) (st : Stt) : Prop := ∃ t ds de ks ke, v = .ref t ∧ SqT K F t [.ref ds, .ref de] ∧ StR K CS u F ds de ks ke st
theorem PastR.leS (e : LeS F G) (h : PastR K CS u F v st) : PastR K CS u G v st := let ⟨t, ds, de, ks, ke, a, b, c⟩ := h; ⟨t, ds, de, ks, ke, a, e.le.sqT b, c.leS e⟩
theorem PastR.le (e : Le F G) (h : PastR K CS false F v st) : PastR K CS false G v st := let ⟨t, ds, de, ks, ke, a, b, c⟩ := h; ⟨t, ds, de, ks, ke, a, e.sqT b, c.le e⟩
theorem PastR.weak (h : PastR K CS u F v st) : PastR K CS false F v st := let ⟨t, ds, de, ks, ke, a, b, c⟩ := h; ⟨t, ds, de, ks, ke, a, b, c.weak⟩
inductive PastA (R : V → Stt → Prop) : List V → List Stt → Prop
  | nil : PastA R [] []
  | cons {x : V} {y : Stt} {xs : List V} {ys : List Stt} (h : R x y) (r : PastA R xs ys) : PastA R (x :: xs) (y :: ys)
theorem PastA.mono {R S : V → Stt → Prop} (e : ∀ v s, R v s → S v s) : ∀ {vs : List V} {sts : List Stt}, PastA R vs sts → PastA S vs sts
  | _, _, .nil => .nil
  | _, _, .cons h r => .cons (e _ _ h) (PastA.mono e r)
theorem PastA.snoc {R : V → Stt → Prop} (h : R v st) : ∀ {vs : List V} {sts : List Stt}, PastA R vs sts → PastA R (vs ++ [v]) (sts ++ [st])
  | _, _, .nil => .cons h .nil
  | _, _, .cons a r => .cons a (PastA.snoc h r)
theorem PastA.len {R : V → Stt → Prop} : ∀ {vs : List V} {sts : List Stt}, PastA R vs sts → vs.length = sts.length
  | _, _, .nil => rfl
  | _, _, .cons _ r => by simp [PastA.len r]
theorem PastA.unsnoc {R : V → Stt → Prop} : ∀ {sts : List Stt} {vs : List V}, PastA R vs (sts ++ [st]) → ∃ vs0 v, vs = vs0 ++ [v] ∧ PastA R vs0 sts ∧ R v st
  | [], _, .cons h .nil => ⟨[], _, rfl, .nil, h⟩
  | s :: sts, _, .cons h r => by
    obtain ⟨vs0, v, e, a, b⟩ := PastA.unsnoc r
    subst e
    exact ⟨_ :: vs0, v, rfl, .cons h a, b⟩
/-- the book at b (an item of M): its state, what went before -/
structure BookAt (K : PySem.W.Frag) (CS CB : Addr) (u : Bool) (M : List Addr) (H : Hp) (b ds de pl : Addr) (ks ke : List (Key × V)) (vs : List V) (st : Stt) (past : List Stt) : Prop where
  ins : ∃ dx, H b = some (.ins CB dx (bfs ds de pl))
  mem : b ∈ M
  mok : Mok M H
  cur : StR K CS u (fr M H) ds de ks ke st
  lst : SqL K (fr M H) pl vs
  old : PastA (PastR K CS u (fr M H)) vs past
variable {M : List Addr} {H H' : Hp} {b : Addr} {past : List Stt}
theorem BookAt.same (h : BookAt K CS CB u M H b ds de pl ks ke vs st past) (s : Same H H') : BookAt K CS CB u M H' b ds de pl ks ke vs st past := by
  obtain ⟨⟨dx, h1⟩, h2, hm, h3, h4, h5⟩ := h
  exact ⟨⟨dx, s _ _ h1⟩, h2, hm.same s, h3.leS (same_leS s), (same_le s).sqL h4, h5.mono fun _ _ => PastR.leS (same_leS s)⟩
theorem BookAt.weak (h : BookAt K CS CB u M H b ds de pl ks ke vs st past) : BookAt K CS CB false M H b ds de pl ks ke vs st past := by
  obtain ⟨h1, h2, hm, h3, h4, h5⟩ := h
  exact ⟨h1, h2, hm, h3.weak, h4, h5.mono fun _ _ => PastR.weak⟩
theorem mok_lock {d : Addr} {o : Obj} {ks : List (Key × V)} (m : Mok M H) : Mok M (upd H d (.frz o (.dK ks))) := fun a ha => by
  by_cases c : a = d
  · rw [c, upd_same]; simp
  · rw [upd_ne c]; exact m a ha
theorem le_lock0 {d : Addr} {o : Obj} {ks : List (Key × V)} (e : H d = some (.dK ks)) : Le H (upd H d (.frz o (.dK ks))) := by
  refine ⟨fun a u' r => ?_, fun a C dx fs q => ?_⟩
  · by_cases c : a = d
    · subst c
      rcases r with r | ⟨o2, r⟩
      · rw [e] at r
        cases r
        exact .inr ⟨o, upd_same⟩
      · rw [e] at r; cases r
    · rcases r with r | ⟨o2, r⟩
      · exact .inl (by rw [upd_ne c]; exact r)
      · exact .inr ⟨o2, by rw [upd_ne c]; exact r⟩
  · by_cases c : a = d
    · subst c
      rw [e] at q; cases q
    · rw [upd_ne c]; exact q
theorem le_lock {d : Addr} {o : Obj} {ks : List (Key × V)} (e : H d = some (.dK ks)) : Le (fr M H) (fr M (upd H d (.frz o (.dK ks)))) := by
  by_cases m : d ∈ M
  · rw [fr_updM m]; exact Le.refl _
  · have h1 : fr M H d = some (.dK ks) := fr_of e m
    have h2 : fr M (upd H d (.frz o (.dK ks))) = upd (fr M H) d (.frz o (.dK ks)) := by
      funext a
      by_cases c : a = d
      · subst c; rw [upd_same]; exact fr_of upd_same m
      · rw [upd_ne c]
        unfold fr
        by_cases q : a ∈ M
        · rw [if_pos q, if_pos q]
        · rw [if_neg q, if_neg q, upd_ne c]
    rw [h2]
    exact le_lock0 h1
theorem BookAt.lock (h : BookAt K CS CB u M H b ds de pl ks ke vs st past) {d : Addr} {o : Obj} {k : List (Key × V)} (e : H d = some (.dK k)) : BookAt K CS CB false M (upd H d (.frz o (.dK k))) b ds de pl ks ke vs st past := by
  obtain ⟨⟨dx, h1⟩, h2, hm, h3, h4, h5⟩ := h.weak
  exact ⟨⟨dx, (le_lock0 e).ins _ _ _ _ h1⟩, h2, mok_lock hm, h3.le (le_lock e), (le_lock e).sqL h4, h5.mono fun _ _ => PastR.le (le_lock e)⟩
/-- unlocked again, all stands as before -/
theorem same_unlock {d : Addr} {o : HO} {x : HO} (e : H d = some x) (s : Same (upd H d o) H') : Same H (upd H' d x) := fun a y h => by
  by_cases c : a = d
  · subst c
    rw [upd_same, ← e, h]
  · rw [upd_ne c]
    exact s a y (by rw [upd_ne c]; exact h)
end
end K75
set_option maxHeartbeats 400000
namespace K75
open PySem PySem.Spec PyProof.Rows L2
/-- the classes of the book's exceptions -/
structure EA where
  iName : Addr
  taken : Addr
  notS : Addr
  unk : Addr
  iNum : Addr
  notW : Addr
  iRow : Addr
  iTerms : Addr
  iTerm : Addr
  inUse : Addr
  noth : Addr
structure Exs (P : Program) (w : World) (K : PySem.W.Frag) (mg : Str → Option Value) (base : Heap) (A : EA) : Prop where
  x_InvalidName : XR1 P w K mg base "InvalidName" "name" A.iName
  x_NameTaken : XR1 P w K mg base "NameTaken" "name" A.taken
  x_NotScheme : XR1 P w K mg base "NotScheme" "value" A.notS
  x_UnknownName : XR1 P w K mg base "UnknownName" "name" A.unk
  x_InvalidNumber : XR1 P w K mg base "InvalidNumber" "number" A.iNum
  x_NotWritten : XR1 P w K mg base "NotWritten" "number" A.notW
  x_InvalidRow : XR1 P w K mg base "InvalidRow" "row" A.iRow
  x_InvalidTerms : XR1 P w K mg base "InvalidTerms" "value" A.iTerms
  x_InvalidTerm : XR1 P w K mg base "InvalidTerm" "term" A.iTerm
  x_InUse : XR1 P w K mg base "InUse" "name" A.inUse
  x_NothingToUndo : XR0 P w K mg base "NothingToUndo" A.noth
/-- what the written part says of Book, at CB -/
structure BkC (K : PySem.W.Frag) (mg : Str → Option Value) (CB : Addr) : Prop where
  cl : Cls K CB
  nS : NoAttr K CB "own_schemes"
  nR : NoAttr K CB "own_rows"
  nP : NoAttr K CB "past"
  mg : mg "Book" = some (.ref CB)
  ic : IsC K CB
/-- an exception of class C, its field f holds v -/
def Rse (C : Addr) (f : Str) (v : V) (H : Hp) (E : XK) : Prop := ∀ d H', Same H H' → H' d = some (.xd [(f, v)]) → E (.ref C) (some d) H'
theorem Rse.same {C : Addr} {f : Str} {v : V} {H H' : Hp} {E : XK} (h : Rse C f v H E) (s : Same H H') : Rse C f v H' E := fun d H2 s2 e => h d H2 (s.trans s2) e
theorem Rse.at {C : Addr} {f : Str} {v : V} {H : Hp} {E : XK} (h : Rse C f v H E) : ∀ d, H d = none → E (.ref C) (some d) (upd H d (.xd [(f, v)])) := fun d n => h d _ (same_new n) upd_same
def lookD {α : Type} (l : List (Str × α)) (d : PyData) : Option α := match d with
  | .str x => look l x
  | _ => none
def nz : PyData → Bool
  | .int i => decide (i ≠ 0)
  | _ => true
/-- a factor and a name -/
def isTerm : PyData → Bool
  | .tuple [a, b] => isName b && (isIntD a (-2) 2 && nz a)
  | _ => false
/-- its strings are short -/
def ShS (d : PyData) : Prop := ∀ x, d = .str x → x.length ≤ sizeLine
/-! #### the deeds, in plain Lean -/
inductive Err | iName | taken | notS | unk | iNum | notW | iRow | iTerms | iTerm | inUse | noth
inductive Out
  | done (st : Stt)
  | no (e : Err) (d : PyData)
def EA.at (A : EA) : Err → Addr
  | .iName => A.iName
  | .taken => A.taken
  | .notS => A.notS
  | .unk => A.unk
  | .iNum => A.iNum
  | .notW => A.notW
  | .iRow => A.iRow
  | .iTerms => A.iTerms
  | .iTerm => A.iTerm
  | .inUse => A.inUse
  | .noth => A.noth
def fldE : Err → Str
  | .iName => "name"
  | .taken => "name"
  | .notS => "value"
  | .unk => "name"
  | .iNum => "number"
  | .notW => "number"
  | .iRow => "row"
  | .iTerms => "value"
  | .iTerm => "term"
  | .inUse => "name"
  | .noth => ""
def entryDue (st : Stt) (d w : PyData) : Option Out :=
  if isName d = false then some (.no .iName d) else if (lookD st.sch d).isSome = true then some (.no .taken d) else if lookD st.sch w = none then some (.no .unk w) else none
def writtenDue (st : Stt) (d w : PyData) (i : Int) : Out := match d, w with
  | .str x, .str y => match look st.sch y with
    | some sc => match wr sc i with
      | some row => .done { st with ent := put st.ent x (y, row) }
      | none => .no .notW (.int i)
    | none => .no .unk w
  | _, _ => .no .unk w
def keepDue (st : Stt) (d : PyData) (mo : Option Sch) (d2 : PyData) : Out :=
  if isName d = false then .no .iName d else if (lookD st.sch d).isSome = true then .no .taken d else if (lookD st.ent d).isSome = true then .no .taken d else match mo with
  | none => .no .notS d2
  | some sc => match d with
    | .str x => .done { st with sch := put st.sch x sc }
    | _ => .no .iName d
def putDue (st : Stt) (d w n : PyData) : Out := match entryDue st d w with
  | some o => o
  | none => match n with
    | .int i => writtenDue st d w i
    | _ => .no .iNum n
def rowOf : PyData → List Int
  | .tuple ds => ds.filterMap toInt1
  | _ => []
def layDue (st : Stt) (d w l : PyData) : Out := match entryDue st d w with
  | some o => o
  | none => match d, w with
    | .str x, .str y => match look st.sch y with
      | some sc => if rowD sc l = true then .done { st with ent := put st.ent x (y, rowOf l) } else .no .iRow l
      | none => .no .unk w
    | _, _ => .no .unk w
/-- the number of an entry -/
def numOf (st : Stt) (e : Str × List Int) : Int := match look st.sch e.1 with
  | some s => val s.base e.2
  | none => 0
def moveDue (st : Stt) (d w : PyData) : Out := match lookD st.ent d with
  | none => .no .unk d
  | some e => match lookD st.sch w with
    | none => .no .unk w
    | some _ => writtenDue st d w (numOf st e)
def termV (st : Stt) : PyData → Int
  | .tuple [.int f, d] => match lookD st.ent d with
    | some e => f * numOf st e
    | none => 0
  | _ => 0
def termN : PyData → PyData
  | .tuple [_, d] => d
  | _ => .none
def te2 (st : Stt) (l : List PyData) : Option (Err × PyData) := (l.find? fun t => (lookD st.ent (termN t)).isNone).map fun t => (.unk, termN t)
def te1 (st : Stt) (l : List PyData) : Option (Err × PyData) := ((l.find? fun t => !isTerm t).map fun t => (Err.iTerm, t)).orElse fun _ => te2 st l
def termsErr (st : Stt) : PyData → Option (Err × PyData)
  | .list l => if 1 ≤ l.length ∧ l.length ≤ 2 then te1 st l else some (.iTerms, .list l)
  | td => some (.iTerms, td)
def termsSum (st : Stt) : PyData → Int
  | .list l => (l.map (termV st)).sum
  | _ => 0
def reckonDue (st : Stt) (d w ts : PyData) : Out := match entryDue st d w with
  | some o => o
  | none => match termsErr st ts with
    | some e => .no e.1 e.2
    | none => writtenDue st d w (termsSum st ts)
def dropDue (st : Stt) (d : PyData) : Out := match d with
  | .str x => if (look st.sch x).isNone && (look st.ent x).isNone then .no .unk d else if st.ent.any (fun p => decide (p.2.1 = x)) = true then .no .inUse d else .done ⟨dropN st.sch x, dropN st.ent x⟩
  | _ => .no .unk d
/-- the book stands in a new state -/
def Kept (K : PySem.W.Frag) (CS CB : Addr) (u : Bool) (M : List Addr) (b : Addr) (H : Hp) (st : Stt) (past : List Stt) (Q : VK) : Prop :=
  ∀ H' ds de pl ks ke vs, SB [b] H H' → BookAt K CS CB u M H' b ds de pl ks ke vs st past → Q .non H'
theorem Kept.same {K : PySem.W.Frag} {CS CB : Addr} {u : Bool} {M : List Addr} {b : Addr} {H H1 : Hp} {st : Stt} {past : List Stt} {Q : VK} (h : Kept K CS CB u M b H st past Q) (s : Same H H1) : Kept K CS CB u M b H1 st past Q :=
  fun H' ds de pl ks ke vs sb ba => h H' ds de pl ks ke vs ((sb_same s [b]).trans sb) ba
/-- what a deed leaves -/
def Post (A : EA) (K : PySem.W.Frag) (CS CB : Addr) (u : Bool) (M : List Addr) (b : Addr) (st : Stt) (past : List Stt) (o : Out) (H : Hp) (Q : VK) (E : XK) : Prop := match o with
  | .done st' => Kept K CS CB u M b H st' (past ++ [st]) Q
  | .no e d => ∀ v, Dp K H v d → Rse (A.at e) (fldE e) v H E
abbrev s_is_name : Stmt := top 49
theorem sc_is_name : FnScope ["value", "letter"] ["value"] (defScope s_is_name) := ⟨rfl, rfl, rfl, by decide +kernel, rfl, by decide +kernel, by decide +kernel⟩
abbrev s_is_named_term : Stmt := top 50
theorem sc_is_named_term : FnScope ["value"] ["value"] (defScope s_is_named_term) := ⟨rfl, rfl, rfl, by decide +kernel, rfl, by decide +kernel, by decide +kernel⟩
abbrev s_Book___init__ : Stmt := inC (top 52) 0
theorem sc_Book___init__ : FnScope ["self"] ["self"] (defScope s_Book___init__) := ⟨rfl, rfl, rfl, by decide +kernel, rfl, by decide +kernel, by decide +kernel⟩
abbrev s_Book___eq__ : Stmt := inC (top 52) 1
theorem sc_Book___eq__ : FnScope ["self", "other"] ["self", "other"] (defScope s_Book___eq__) := ⟨rfl, rfl, rfl, by decide +kernel, rfl, by decide +kernel, by decide +kernel⟩
abbrev s_Book___contains__ : Stmt := inC (top 52) 2
theorem sc_Book___contains__ : FnScope ["self", "value"] ["self", "value"] (defScope s_Book___contains__) := ⟨rfl, rfl, rfl, by decide +kernel, rfl, by decide +kernel, by decide +kernel⟩
abbrev s_Book_schemes : Stmt := inC (top 52) 3
theorem sc_Book_schemes : FnScope ["self"] ["self"] (defScope s_Book_schemes) := ⟨rfl, rfl, rfl, by decide +kernel, rfl, by decide +kernel, by decide +kernel⟩
abbrev s_Book_entries : Stmt := inC (top 52) 4
theorem sc_Book_entries : FnScope ["self"] ["self"] (defScope s_Book_entries) := ⟨rfl, rfl, rfl, by decide +kernel, rfl, by decide +kernel, by decide +kernel⟩
abbrev s_Book_scheme_of : Stmt := inC (top 52) 5
theorem sc_Book_scheme_of : FnScope ["self", "name"] ["self", "name"] (defScope s_Book_scheme_of) := ⟨rfl, rfl, rfl, by decide +kernel, rfl, by decide +kernel, by decide +kernel⟩
abbrev s_Book_entry_of : Stmt := inC (top 52) 6
theorem sc_Book_entry_of : FnScope ["self", "name"] ["self", "name"] (defScope s_Book_entry_of) := ⟨rfl, rfl, rfl, by decide +kernel, rfl, by decide +kernel, by decide +kernel⟩
abbrev s_Book_home : Stmt := inC (top 52) 7
theorem sc_Book_home : FnScope ["self", "name"] ["self", "name"] (defScope s_Book_home) := ⟨rfl, rfl, rfl, by decide +kernel, rfl, by decide +kernel, by decide +kernel⟩
abbrev s_Book_row_of : Stmt := inC (top 52) 8
theorem sc_Book_row_of : FnScope ["self", "name"] ["self", "name"] (defScope s_Book_row_of) := ⟨rfl, rfl, rfl, by decide +kernel, rfl, by decide +kernel, by decide +kernel⟩
abbrev s_Book_number_of : Stmt := inC (top 52) 9
theorem sc_Book_number_of : FnScope ["self", "name", "where", "row"] ["self", "name"] (defScope s_Book_number_of) := ⟨rfl, rfl, rfl, by decide +kernel, rfl, by decide +kernel, by decide +kernel⟩
abbrev s_Book_writers : Stmt := inC (top 52) 10
theorem sc_Book_writers : FnScope ["self", "name", "number", "where"] ["self", "name"] (defScope s_Book_writers) := ⟨rfl, rfl, rfl, by decide +kernel, rfl, by decide +kernel, by decide +kernel⟩
abbrev s_Book_change : Stmt := inC (top 52) 11
theorem sc_Book_change : FnScope ["self", "schemes", "entries"] ["self", "schemes", "entries"] (defScope s_Book_change) := ⟨rfl, rfl, rfl, by decide +kernel, rfl, by decide +kernel, by decide +kernel⟩
abbrev s_Book_check_name : Stmt := inC (top 52) 12
theorem sc_Book_check_name : FnScope ["self", "name"] ["self", "name"] (defScope s_Book_check_name) := ⟨rfl, rfl, rfl, by decide +kernel, rfl, by decide +kernel, by decide +kernel⟩
abbrev s_Book_enter : Stmt := inC (top 52) 13
theorem sc_Book_enter : FnScope ["self", "name", "where", "row"] ["self", "name", "where", "row"] (defScope s_Book_enter) := ⟨rfl, rfl, rfl, by decide +kernel, rfl, by decide +kernel, by decide +kernel⟩
abbrev s_Book_written : Stmt := inC (top 52) 14
theorem sc_Book_written : FnScope ["self", "where", "number", "row"] ["self", "where", "number"] (defScope s_Book_written) := ⟨rfl, rfl, rfl, by decide +kernel, rfl, by decide +kernel, by decide +kernel⟩
abbrev s_Book_keep : Stmt := inC (top 52) 15
theorem sc_Book_keep : FnScope ["self", "name", "scheme"] ["self", "name", "scheme"] (defScope s_Book_keep) := ⟨rfl, rfl, rfl, by decide +kernel, rfl, by decide +kernel, by decide +kernel⟩
abbrev s_Book_put : Stmt := inC (top 52) 16
theorem sc_Book_put : FnScope ["self", "name", "where", "number"] ["self", "name", "where", "number"] (defScope s_Book_put) := ⟨rfl, rfl, rfl, by decide +kernel, rfl, by decide +kernel, by decide +kernel⟩
abbrev s_Book_lay : Stmt := inC (top 52) 17
theorem sc_Book_lay : FnScope ["self", "name", "where", "row"] ["self", "name", "where", "row"] (defScope s_Book_lay) := ⟨rfl, rfl, rfl, by decide +kernel, rfl, by decide +kernel, by decide +kernel⟩
abbrev s_Book_move : Stmt := inC (top 52) 18
theorem sc_Book_move : FnScope ["self", "name", "where", "number"] ["self", "name", "where"] (defScope s_Book_move) := ⟨rfl, rfl, rfl, by decide +kernel, rfl, by decide +kernel, by decide +kernel⟩
abbrev s_Book_checked_terms : Stmt := inC (top 52) 19
theorem sc_Book_checked_terms : FnScope ["self", "terms", "item", "factor", "entry"] ["self", "terms"] (defScope s_Book_checked_terms) := ⟨rfl, rfl, rfl, by decide +kernel, rfl, by decide +kernel, by decide +kernel⟩
abbrev s_Book_reckon : Stmt := inC (top 52) 20
theorem sc_Book_reckon : FnScope ["self", "name", "where", "terms", "total", "factor", "entry"] ["self", "name", "where", "terms"] (defScope s_Book_reckon) := ⟨rfl, rfl, rfl, by decide +kernel, rfl, by decide +kernel, by decide +kernel⟩
abbrev s_Book_drop : Stmt := inC (top 52) 21
theorem sc_Book_drop : FnScope ["self", "name", "entry", "schemes", "other", "entries"] ["self", "name"] (defScope s_Book_drop) := ⟨rfl, rfl, rfl, by decide +kernel, rfl, by decide +kernel, by decide +kernel⟩
abbrev s_Book_deeds : Stmt := inC (top 52) 23
theorem sc_Book_deeds : FnScope ["self"] ["self"] (defScope s_Book_deeds) := ⟨rfl, rfl, rfl, by decide +kernel, rfl, by decide +kernel, by decide +kernel⟩
abbrev s_Book_undo : Stmt := inC (top 52) 24
theorem sc_Book_undo : FnScope ["self"] ["self"] (defScope s_Book_undo) := ⟨rfl, rfl, rfl, by decide +kernel, rfl, by decide +kernel, by decide +kernel⟩
section
variable {P : Program} {w : World} {K : PySem.W.Frag} {mg : Str → Option Value} {base : Heap} (B : Blt mg) (T : Con5 mg) {CS CB : Addr} {XA : EA} (C : SchC K mg CS) (CBk : BkC K mg CB) (XS : Exs P w K mg base XA)
include B T C CBk XS
def sp_is_name (K : PySem.W.Frag) : Sp := fun vs H Q _ => ∃ v d, vs = [v] ∧ Dp K H v d ∧ ShS d ∧ ∀ H', Same H H' → Q (.bl (isName d)) H'
theorem ok_is_name (D : FnD K mg "is_name" s_is_name [] []) : Fn P w K mg base "is_name" 1 (sp_is_name K) := by
  refine D.fn sc_is_name (fun _ _ _ _ _ _ us hl => match us, hl with | [_], _ => rfl) (fun vs H Q E h => ?_) (fun f cdv A outer s H vs Q E hr h => ?_)
  · obtain ⟨_, _, rfl, _⟩ := h
    rfl
  · obtain ⟨v, d, rfl, hd, hsh, q⟩ := h
    refine ⟨_, (pss_cons (ps_if (PW.pt (pw_or (pt_not (pt_val (pe_callB call_isi (by rfl) B.isinstance (by decide +kernel) (pa_cons (pv 0) (pa_cons (pe_bltn (v := .ty "str") (by rfl) B.str (by decide +kernel) rfl) pa_nil))))) (pw_or1 (pt_not (pt_chain op_le op_le pe_int (pe_callB call_len (by rfl) B.len (by decide +kernel) (pa_cons (pv 0) pa_nil)) (pe_ci T.c_LONGEST_NAME)))))) (pss_one (ps_ret pe_bl)) pss_nil) (pss_one (ps_ret (pe_callB (cr_all rfl) (by rfl) B.all (by decide +kernel) (pa_cons (pe_lc rfl sc_is_name.nd (own := [("letter", 1)]) (g := gName 1) (tt := tYes) (pi_str (pv 0)) (blkOk_by (N := ["value", "letter"]) (sc := defScope s_is_name) (by decide +kernel)) (fun _ _ _ _ _ => (pg_name (i := 1) sc_is_name.nd rfl (.inl rfl))) (fun _ _ _ _ _ => pts_nil) (fun _ _ _ _ _ => (pe_cmpR op_in_str (pv 1) pe_str (by rfl)))) pa_nil))))), ?_⟩
    refine ⟨v, rfl, v, .ty "str", _, _, _, rfl, .ty _, tyX_of hd, kit_str d, _, rfl, ?_⟩
    cases hd with
    | str x =>
      refine ⟨_, rfl, _, x.length, rfl, ⟨hsh x rfl, rfl⟩, _, _, rfl, rfl, _, rfl, ?_⟩
      have hx : x.length = x.cps.size := rfl
      refine ite2 (fun c1 => ?_) fun c1 => ?_
      · have c1 : (1 : Int) ≤ (x.length : Int) := of_decide_eq_true c1
        refine ⟨_, _, rfl, rfl, _, rfl, ?_⟩
        by_cases c2 : (x.length : Int) ≤ 8
        · rw [decide_eq_true c2]
          refine ⟨_, rfl, _, rfl, fun Dl nD => lc_str (z := x) (LcI [] [] Dl H (Mapd x.cps.toList fun c => .bl (isLetter c))) (LcI.start (by intro a h; cases h) (by simp) nD Mapd.zero) (fun i c H' hc p => ?_) (fun H' p => ?_)⟩
          · have hc2 : x.cps.toList[i]? = some c := by rw [Array.getElem?_toList]; exact hc
            have hi : i < x.cps.size := (Array.getElem?_eq_some_iff.mp hc).1
            refine ⟨rfl, _, rfl, _, _, rfl, rfl, ?_⟩
            exact p.step (by simp) nD (by intro a h; cases h) (.refl (M := []) (by intro a h; cases h) (by simp)) (by rw [sizeLine_eq]; omega) (fun acc _ r => r.yes hc2)
          · obtain ⟨acc, hA, _, r⟩ := p.ex
            have r2 : Mapd x.cps.toList (fun c => V.bl (isLetter c)) x.cps.toList.length acc (fr [Dl] H') := by
              rw [Array.length_toList]; exact r
            have e := r2.all
            subst e
            refine ⟨Dl, x.cps.toList.map isLetter, rfl, .inl (.inl (by rw [hA, List.map_map]; rfl)), ?_⟩
            have e : isName (.str x) = (x.cps.toList.map isLetter).all id := by
              show (decide (1 ≤ x.length) && decide (x.length ≤ 8) && x.cps.toList.all isLetter) = _
              rw [decide_eq_true (by omega : 1 ≤ x.length), decide_eq_true (by omega : x.length ≤ 8), List.all_map]
              rfl
            have := q H' p.stp.same
            rw [e] at this
            exact this
        · rw [decide_eq_false c2]
          have e : isName (.str x) = false := by
            show (decide (1 ≤ x.length) && decide (x.length ≤ 8) && _) = false
            rw [decide_eq_false (by omega : ¬ x.length ≤ 8), Bool.and_false, Bool.false_and]
          have := q H (Same.refl H)
          rw [e] at this
          exact this
      · have c1 : ¬ (1 : Int) ≤ (x.length : Int) := fun h => c1 (decide_eq_true h)
        have e : isName (.str x) = false := by
          show (decide (1 ≤ x.length) && decide (x.length ≤ 8) && _) = false
          rw [decide_eq_false (by omega : ¬ 1 ≤ x.length), Bool.false_and, Bool.false_and]
        have := q H (Same.refl H)
        rw [e] at this
        exact ⟨_, rfl, this⟩
    | _ => exact q H (Same.refl H)
def sp_is_named_term (K : PySem.W.Frag) : Sp := fun vs H Q _ => ∃ v d, vs = [v] ∧ Dp K H v d ∧ (∀ ds, d = .tuple ds → ∀ x ∈ ds, ShS x) ∧ ∀ H', Same H H' → Q (.bl (isTerm d)) H'
theorem ok_is_named_term (D : FnD K mg "is_named_term" s_is_named_term [] []) (F_is_name : Fn P w K mg base "is_name" 1 (sp_is_name K)) (F_is_integer : Fn P w K mg base "is_integer" 1 (sp_is_integer K)) : Fn P w K mg base "is_named_term" 2 (sp_is_named_term K) := by
  refine D.fn sc_is_named_term (fun _ _ _ _ _ _ us hl => match us, hl with | [_], _ => rfl) (fun vs H Q E h => ?_) (fun f cdv A outer s H vs Q E hr h => ?_)
  · obtain ⟨_, _, rfl, _⟩ := h
    rfl
  · obtain ⟨v, d, rfl, hd, hsh, q⟩ := h
    refine ⟨_, (pss_cons (ps_if (PW.pt (pw_or (pt_not (pt_val (pe_callB call_isi (by rfl) B.isinstance (by decide +kernel) (pa_cons (pv 0) (pa_cons (pe_bltn (v := .ty "tuple") (by rfl) B.tuple (by decide +kernel) rfl) pa_nil))))) (pw_or (pt_cmpR op_ne (pe_callB call_len (by rfl) B.len (by decide +kernel) (pa_cons (pv 0) pa_nil)) pe_int (nomark _)) (pw_or1 (pt_not (pt_val (c0 F_is_name hr (pa_cons (pe_ix ix_tup (pv 0) pe_int (fun _ _ => rfl)) pa_nil)))))))) (pss_one (ps_ret pe_bl)) pss_nil) (pss_one (ps_ret (pe_and (c0 F_is_integer hr (pa_cons (pe_ix ix_tup (pv 0) pe_int (fun _ _ => rfl)) (pa_cons (pe_un un_neg (pe_ci T.c_GREATEST_FACTOR)) (pa_cons (pe_ci T.c_GREATEST_FACTOR) pa_nil)))) (pe_one (pe_cmpR op_ne (pe_ix ix_tup (pv 0) pe_int (fun _ _ => rfl)) pe_int (nomark _))))))), ?_⟩
    refine ⟨v, rfl, v, .ty "tuple", _, _, _, rfl, .ty _, tyX_of hd, kit_tuple d, _, rfl, ?_⟩
    cases hd with
    | @tup t xs ds ht hxs =>
      have hlen := sqL_len hxs
      refine ⟨_, rfl, _, xs.length, rfl, .inr ⟨_, ht, rfl⟩, rfl, _, rfl, ?_⟩
      refine ite2 (fun c => ?_) fun c => ?_
      · have c2 : ds.length ≠ 2 := fun h => by
          rw [hlen, h] at c
          exact absurd c (by decide)
        have e : isTerm (.tuple ds) = false := by
          match ds, c2 with
          | [], _ => rfl
          | [_], _ => rfl
          | _ :: _ :: _ :: _, _ => rfl
        have := q H (Same.refl H)
        rw [e] at this
        exact this
      · have c2 : xs.length = 2 := by
          have : ¬ V.int (xs.length : Int) ≠ V.int 2 := by simpa using c
          have := Classical.not_not.mp this
          injection this with this
          omega
        have hd2 : ds.length = 2 := by omega
        obtain ⟨d0, d1, rfl⟩ : ∃ d0 d1, ds = [d0, d1] := by
          match ds, hd2 with
          | [a, b], _ => exact ⟨a, b, rfl⟩
        obtain ⟨v0, v1, rfl⟩ : ∃ v0 v1, xs = [v0, v1] := by
          match xs, c2 with
          | [a, b], _ => exact ⟨a, b, rfl⟩
        have h0 : Dp K H v0 d0 := by cases hxs with | cons h r => exact h
        have h1 : Dp K H v1 d1 := by cases hxs with | cons h r => cases r with | cons h2 r2 => exact h2
        refine ⟨_, rfl, t, [v0, v1], 1, v1, rfl, rfl, ht, rfl, v1, d1, rfl, h1, hsh _ rfl d1 (by simp), fun H' s1 => ⟨_, rfl, ?_⟩⟩
        have ht' := (Le.of s1).sqT ht
        have h0' := (Le.of s1).dp h0
        refine ite2 (fun c3 => ?_) fun c3 => ?_
        · have e : isTerm (.tuple [d0, d1]) = false := by
            show (isName d1 && _) = false
            rw [show isName d1 = false by simpa using c3, Bool.false_and]
          have := q H' s1
          rw [e] at this
          exact this
        · have e : isTerm (.tuple [d0, d1]) = (isIntD d0 (-2) 2 && nz d0) := by
            show (isName d1 && _) = _
            rw [show isName d1 = true by simpa using c3, Bool.true_and]
          have q' := q H' s1
          rw [e] at q'
          refine ⟨_, rfl, t, [v0, v1], 0, v0, rfl, rfl, ht', rfl, 2, rfl, v0, d0, -2, 2, rfl, h0', ?_⟩
          refine ⟨_, rfl, ite2 (fun c4 => ?_) fun c4 => ?_⟩
          · rw [c4, Bool.true_and] at q'
            cases h0' with
            | int i =>
              refine ⟨_, rfl, t, [.int i, v1], 0, .int i, rfl, rfl, ht', rfl, rfl, ?_⟩
              have e2 : (!decide (V.int i = V.int 0)) = nz (.int i) := by
                show _ = decide (i ≠ 0)
                by_cases h : i = 0
                · subst h; rfl
                · simp [h]
              rw [e2]
              exact q'
            | _ => cases c4
          · rw [Bool.eq_false_iff.mpr c4, Bool.false_and] at q'
            exact q'
    | _ => exact q H (Same.refl H)
def sp_Book_init (CB : Addr) : Sp := fun vs H Q _ => ∃ b dx, vs = [.ref b] ∧ H b = some (.ins CB dx []) ∧ ∀ H' ds de pl, SB [b] H H' → H' b = some (.ins CB dx (bfs ds de pl)) → H' ds = some (.dK []) → H' de = some (.dK []) → H' pl = some (.lst []) → H ds = none → H de = none → H pl = none → Q .non H'
theorem ok_Book_init {f : Addr} {fd : FuncData} {kws : List (Str × V)} (F : FunD K "__init__" "Book.__init__" (defArgs s_Book___init__) (defBody s_Book___init__) (defScope s_Book___init__) [] kws f fd) : FnOk P w K mg base (L2.CX P w) 1 f fd ["self"] (sp_Book_init CB) := by
  refine F.ok sc_Book___init__ (fun vs H Q E h => ?_) (fun cdv A outer s H vs Q E hr h => ?_)
  · obtain ⟨_, _, rfl, _⟩ := h
    rfl
  · obtain ⟨b, dx, rfl, hb, q⟩ := h
    refine ⟨_, (pss_cons (ps_fld (pv 0) pe_dnewK rfl) (pss_cons (ps_fld (pv 0) pe_dnewK rfl) (pss_one (ps_fld (pv 0) (pe_lst pa_nil) rfl)))), ?_⟩
    refine fun ds nds => ⟨_, rfl, b, CB, dx, _, rfl, by rw [upd_ne (ne_of_none hb nds)]; exact hb, CBk.cl, CBk.nS, by decide, ?_⟩
    have nb : b ≠ ds := ne_of_none hb nds
    have sb1 : SB [b] H (upd (upd H ds (.dK [])) b (.ins CB dx (putF "own_schemes" (.ref ds) []))) := (sb_same (same_new nds) [b]).trans sb_upd
    have e1 : (upd (upd H ds (.dK [])) b (.ins CB dx (putF "own_schemes" (.ref ds) []))) ds = some (.dK []) := by rw [upd_ne nb.symm]; exact upd_same
    have b1 : (upd (upd H ds (.dK [])) b (.ins CB dx (putF "own_schemes" (.ref ds) []))) b = some (.ins CB dx (putF "own_schemes" (.ref ds) [])) := upd_same
    generalize upd (upd H ds (.dK [])) b (.ins CB dx (putF "own_schemes" (.ref ds) [])) = H1 at *
    refine fun de nde => ⟨_, rfl, b, CB, dx, _, rfl, by rw [upd_ne (ne_of_none b1 nde)]; exact b1, CBk.cl, CBk.nR, by show 1 < 1000; decide, ?_⟩
    have nb2 : b ≠ de := ne_of_none b1 nde
    have sb2 : SB [b] H1 (upd (upd H1 de (.dK [])) b (.ins CB dx (putF "own_rows" (.ref de) (putF "own_schemes" (.ref ds) [])))) := (sb_same (same_new nde) [b]).trans sb_upd
    have e2 : (upd (upd H1 de (.dK [])) b (.ins CB dx (putF "own_rows" (.ref de) (putF "own_schemes" (.ref ds) [])))) de = some (.dK []) := by rw [upd_ne nb2.symm]; exact upd_same
    have b2 : (upd (upd H1 de (.dK [])) b (.ins CB dx (putF "own_rows" (.ref de) (putF "own_schemes" (.ref ds) [])))) b = some (.ins CB dx (putF "own_rows" (.ref de) (putF "own_schemes" (.ref ds) []))) := upd_same
    have n2 : H de = none := by
      cases e : H de with
      | none => rfl
      | some o => rw [sb1 _ _ (by simpa using nb2.symm) e] at nde; cases nde
    generalize upd (upd H1 de (.dK [])) b (.ins CB dx (putF "own_rows" (.ref de) (putF "own_schemes" (.ref ds) []))) = H2 at *
    refine ⟨by show 0 ≤ sizeLine; decide, fun pl npl => ⟨_, rfl, b, CB, dx, _, rfl, by rw [upd_ne (ne_of_none b2 npl)]; exact b2, CBk.cl, CBk.nP, by show 2 < 1000; decide, ?_⟩⟩
    have nb3 : b ≠ pl := ne_of_none b2 npl
    have sb3 : SB [b] H2 (upd (upd H2 pl (.lst [])) b (.ins CB dx (bfs ds de pl))) := (sb_same (same_new npl) [b]).trans sb_upd
    have n3 : H pl = none := by
      cases e : H pl with
      | none => rfl
      | some o => rw [sb2 _ _ (by simpa using nb3.symm) (sb1 _ _ (by simpa using nb3.symm) e)] at npl; cases npl
    exact q _ ds de pl ((sb1.trans sb2).trans sb3) upd_same (sb3 _ _ (by simpa using nb.symm) (sb2 _ _ (by simpa using nb.symm) e1)) (sb3 _ _ (by simpa using nb2.symm) e2) (by rw [upd_ne nb3.symm]; exact upd_same) nds n2 n3
/-- the book, seen weakly -/
structure BkW (K : PySem.W.Frag) (CS CB : Addr) (H : Hp) (b ds de pl : Addr) (ks ke : List (Key × V)) (st : Stt) : Prop where
  ins : ∃ dx, H b = some (.ins CB dx (bfs ds de pl))
  cur : StR K CS false H ds de ks ke st
omit B T C CBk XS in
theorem BookAt.toW {u : Bool} {M : List Addr} {H : Hp} {b ds de pl : Addr} {ks ke : List (Key × V)} {vs : List V} {st : Stt} {past : List Stt} (h : BookAt K CS CB u M H b ds de pl ks ke vs st past) : BkW K CS CB H b ds de pl ks ke st := ⟨h.ins, (h.cur.leS (fr_leS M H)).weak⟩
omit B T C CBk XS in
theorem BkW.same {H H' : Hp} {b ds de pl : Addr} {ks ke : List (Key × V)} {st : Stt} (h : BkW K CS CB H b ds de pl ks ke st) (s : Same H H') : BkW K CS CB H' b ds de pl ks ke st := by
  obtain ⟨⟨dx, h1⟩, h2⟩ := h
  exact ⟨⟨dx, s _ _ h1⟩, h2.le (Le.of s)⟩
omit B T C CBk XS in
theorem BkW.gs {H : Hp} {b ds de pl : Addr} {ks ke : List (Key × V)} {st : Stt} (h : BkW K CS CB H b ds de pl ks ke st) (x : Str) : DGet H ds (.str x) (valV ks (.inr x)) := .inl ⟨ks, .inr x, h.cur.rs.rd, rfl, rfl⟩
omit B T C CBk XS in
theorem BkW.ge {H : Hp} {b ds de pl : Addr} {ks ke : List (Key × V)} {st : Stt} (h : BkW K CS CB H b ds de pl ks ke st) (x : Str) : DGet H de (.str x) (valV ke (.inr x)) := .inl ⟨ke, .inr x, h.cur.re.rd, rfl, rfl⟩
def sp_Book_contains (K : PySem.W.Frag) (CS CB : Addr) : Sp := fun vs H Q _ => ∃ b ds de pl ks ke st v d, vs = [.ref b, v] ∧ BkW K CS CB H b ds de pl ks ke st ∧ Dp K H v d ∧ Q (.bl ((lookD st.sch d).isSome || (lookD st.ent d).isSome)) H
theorem ok_Book_contains (D : SpD K CB "__contains__" "Book.__contains__" s_Book___contains__) : Spc P w K mg base CB "__contains__" 1 (sp_Book_contains K CS CB) := by
  refine D.spc sc_Book___contains__ (fun _ _ _ _ _ _ us hl => match us, hl with | [_, _], _ => rfl) (fun vs H Q E h => ?_) (fun f cdv A outer s H vs Q E hr h => ?_)
  · obtain ⟨_, _, _, _, _, _, _, _, _, rfl, _⟩ := h
    rfl
  · obtain ⟨b, ds, de, pl, ks, ke, st, v, d, rfl, W, hd, q⟩ := h
    refine ⟨_, (pss_one (ps_ret (pe_and (pe_callB call_isi (by rfl) B.isinstance (by decide +kernel) (pa_cons (pv 1) (pa_cons (pe_bltn (v := .ty "str") (by rfl) B.str (by decide +kernel) rfl) pa_nil))) (pe_one (pe_or (pe_cmp (pc_din (hu_of hr) (pv 1) (pe_fld (pv 0) rfl)) rfl) (pe_one (pe_cmp (pc_din (hu_of hr) (pv 1) (pe_fld (pv 0) rfl)) rfl))))))), ?_⟩
    obtain ⟨dx, hb⟩ := W.ins
    refine ⟨v, rfl, v, .ty "str", _, _, _, rfl, .ty _, tyX_of hd, kit_str d, _, rfl, ?_⟩
    cases hd with
    | str x =>
      refine ⟨_, rfl, _, rfl, b, CB, dx, _, _, rfl, hb, CBk.cl, CBk.nS, rfl, ds, _, rfl, W.gs x, _, rfl, ?_⟩
      rw [W.cur.as.isSome x]
      refine ite2 (fun c => ?_) fun c => ?_
      · have e : ((lookD st.sch (.str x)).isSome || (lookD st.ent (.str x)).isSome) = true := by
          show ((look st.sch x).isSome || _) = true
          rw [c, Bool.true_or]
        rw [e] at q
        exact q
      · refine ⟨_, rfl, _, rfl, b, CB, dx, _, _, rfl, hb, CBk.cl, CBk.nR, rfl, de, _, rfl, W.ge x, ?_⟩
        have e : ((lookD st.sch (.str x)).isSome || (lookD st.ent (.str x)).isSome) = (look st.ent x).isSome := by
          show ((look st.sch x).isSome || _) = _
          rw [Bool.eq_false_iff.mpr c, Bool.false_or]
          rfl
        rw [e] at q
        rw [W.cur.ae.isSome x]
        exact q
    | _ => exact q
def sp_schemes (K : PySem.W.Frag) (CS CB : Addr) : Sp := fun vs H Q _ => ∃ b ds de pl ks ke st, vs = [.ref b] ∧ BkW K CS CB H b ds de pl ks ke st ∧ st.sch.length < 64 ∧ ∀ ys p H', ys.Perm (st.sch.map (·.1)) → sortedS ys = true → Same H H' → H p = none → H' p = some (.lst (ys.map V.str)) → Q (.ref p) H'
theorem ok_schemes (D : MeD K CB "schemes" "Book.schemes" s_Book_schemes []) : Me P w K mg base CB "schemes" 1 (sp_schemes K CS CB) := by
  refine D.me sc_Book_schemes (fun _ _ _ _ _ _ us hl => match us, hl with | [_], _ => rfl) (fun vs H Q E h => ?_) (fun f cdv A outer s H vs Q E hr h => ?_)
  · obtain ⟨_, _, _, _, _, _, _, rfl, _⟩ := h
    rfl
  · obtain ⟨b, ds, de, pl, ks, ke, st, rfl, W, hz, q⟩ := h
    refine ⟨_, (pss_one (ps_ret (pe_callB cr_sortedS (by rfl) B.sorted (by decide +kernel) (pa_cons (pe_callTy (call_listD rfl) (by rfl) B.list (by decide +kernel) (pa_cons (pe_fld (pv 0) rfl) pa_nil)) pa_nil)))), ?_⟩
    obtain ⟨dx, hb⟩ := W.ins
    have hk := W.cur.as.keys
    refine ⟨_, rfl, b, CB, dx, _, _, rfl, hb, CBk.cl, CBk.nS, rfl, ds, ks, rfl, W.cur.rs.rd, fun l nl => ?_⟩
    have e : (ks.map fun kv => kV kv.1) = (st.sch.map (·.1)).map V.str := by
      have : (ks.map fun kv => kV kv.1) = (ks.map (·.1)).map kV := by rw [List.map_map]; rfl
      rw [this, hk, List.map_map]
      rfl
    rw [e]
    refine ⟨l, _, rfl, .inl (.inl upd_same), by rw [List.length_map]; exact hz, fun ys p h1 h2 np => ?_⟩
    exact q ys p _ h1 h2 ((same_new nl).trans (same_new np)) (by
      cases e : H p with
      | none => rfl
      | some o => rw [same_new nl _ _ e] at np; cases np) upd_same
def sp_entries (K : PySem.W.Frag) (CS CB : Addr) : Sp := fun vs H Q _ => ∃ b ds de pl ks ke st, vs = [.ref b] ∧ BkW K CS CB H b ds de pl ks ke st ∧ st.ent.length < 64 ∧ ∀ ys p H', ys.Perm (st.ent.map (·.1)) → sortedS ys = true → Same H H' → H p = none → H' p = some (.lst (ys.map V.str)) → Q (.ref p) H'
theorem ok_entries (D : MeD K CB "entries" "Book.entries" s_Book_entries []) : Me P w K mg base CB "entries" 1 (sp_entries K CS CB) := by
  refine D.me sc_Book_entries (fun _ _ _ _ _ _ us hl => match us, hl with | [_], _ => rfl) (fun vs H Q E h => ?_) (fun f cdv A outer s H vs Q E hr h => ?_)
  · obtain ⟨_, _, _, _, _, _, _, rfl, _⟩ := h
    rfl
  · obtain ⟨b, ds, de, pl, ks, ke, st, rfl, W, hz, q⟩ := h
    refine ⟨_, (pss_one (ps_ret (pe_callB cr_sortedS (by rfl) B.sorted (by decide +kernel) (pa_cons (pe_callTy (call_listD rfl) (by rfl) B.list (by decide +kernel) (pa_cons (pe_fld (pv 0) rfl) pa_nil)) pa_nil)))), ?_⟩
    obtain ⟨dx, hb⟩ := W.ins
    have hk := W.cur.ae.keys
    refine ⟨_, rfl, b, CB, dx, _, _, rfl, hb, CBk.cl, CBk.nR, rfl, de, ke, rfl, W.cur.re.rd, fun l nl => ?_⟩
    have e : (ke.map fun kv => kV kv.1) = (st.ent.map (·.1)).map V.str := by
      have : (ke.map fun kv => kV kv.1) = (ke.map (·.1)).map kV := by rw [List.map_map]; rfl
      rw [this, hk, List.map_map]
      rfl
    rw [e]
    refine ⟨l, _, rfl, .inl (.inl upd_same), by rw [List.length_map]; exact hz, fun ys p h1 h2 np => ?_⟩
    exact q ys p _ h1 h2 ((same_new nl).trans (same_new np)) (by
      cases e : H p with
      | none => rfl
      | some o => rw [same_new nl _ _ e] at np; cases np) upd_same
def sp_scheme_of (K : PySem.W.Frag) (CS CB : Addr) (XA : EA) : Sp := fun vs H Q E => ∃ b ds de pl ks ke st v d, vs = [.ref b, v] ∧ BkW K CS CB H b ds de pl ks ke st ∧ Dp K H v d ∧ (∀ s, lookD st.sch d = some s → ∀ a, SchAt K CS H a s → valV ks (match d with | .str x => .inr x | _ => .inl 0) = some (.ref a) → Q (.ref a) H) ∧ (lookD st.sch d = none → Rse XA.unk "name" v H E)
theorem ok_scheme_of (D : MeD K CB "scheme_of" "Book.scheme_of" s_Book_scheme_of []) : Me P w K mg base CB "scheme_of" 3 (sp_scheme_of K CS CB XA) := by
  refine D.me sc_Book_scheme_of (fun _ _ _ _ _ _ us hl => match us, hl with | [_, _], _ => rfl) (fun vs H Q E h => ?_) (fun f cdv A outer s H vs Q E hr h => ?_)
  · obtain ⟨_, _, _, _, _, _, _, _, _, rfl, _⟩ := h
    rfl
  · obtain ⟨b, ds, de, pl, ks, ke, st, v, d, rfl, W, hd, q, qn⟩ := h
    refine ⟨_, (pss_cons (ps_if (PW.pt (pw_or (pt_not (pt_val (pe_callB call_isi (by rfl) B.isinstance (by decide +kernel) (pa_cons (pv 1) (pa_cons (pe_bltn (v := .ty "str") (by rfl) B.str (by decide +kernel) rfl) pa_nil))))) (pw_or1 (pt_cmp (pc_dnotin (hu_of hr) (pv 1) (pe_fld (pv 0) rfl)))))) (pss_one (ps_raise1 XS.x_UnknownName hr (takes_of rfl rfl rfl rfl) (pa_cons (pv 1) pa_nil))) pss_nil) (pss_one (ps_ret (pe_dget (hu_of hr) (pe_fld (pv 0) rfl) (pv 1) (fun _ _ => rfl))))), ?_⟩
    obtain ⟨dx, hb⟩ := W.ins
    refine ⟨v, rfl, v, .ty "str", _, _, _, rfl, .ty _, tyX_of hd, kit_str d, _, rfl, ?_⟩
    cases hd with
    | str x =>
      refine ⟨_, rfl, _, rfl, b, CB, dx, _, _, rfl, hb, CBk.cl, CBk.nS, rfl, ds, _, rfl, W.gs x, _, rfl, ?_⟩
      cases e : look st.sch x with
      | none =>
        rw [W.cur.as.none x e]
        exact ⟨_, rfl, mk1_ans (qn e).at⟩
      | some sc =>
        obtain ⟨v2, e2, a, rfl, ha⟩ := W.cur.as.some x e
        have gs := W.gs x
        rw [e2] at gs ⊢
        exact ⟨_, rfl, b, CB, dx, _, _, rfl, hb, CBk.cl, CBk.nS, rfl, _, rfl, ds, _, rfl, gs, q sc e a ha e2⟩
    | _ => exact ⟨_, rfl, mk1_ans (qn rfl).at⟩
def sp_entry_of (K : PySem.W.Frag) (CS CB : Addr) (XA : EA) : Sp := fun vs H Q E => ∃ b ds de pl ks ke st v d, vs = [.ref b, v] ∧ BkW K CS CB H b ds de pl ks ke st ∧ Dp K H v d ∧ (∀ s, lookD st.ent d = some s → ∀ y, EntR K H y s → Q y H) ∧ (lookD st.ent d = none → Rse XA.unk "name" v H E)
theorem ok_entry_of (D : MeD K CB "entry_of" "Book.entry_of" s_Book_entry_of []) : Me P w K mg base CB "entry_of" 3 (sp_entry_of K CS CB XA) := by
  refine D.me sc_Book_entry_of (fun _ _ _ _ _ _ us hl => match us, hl with | [_, _], _ => rfl) (fun vs H Q E h => ?_) (fun f cdv A outer s H vs Q E hr h => ?_)
  · obtain ⟨_, _, _, _, _, _, _, _, _, rfl, _⟩ := h
    rfl
  · obtain ⟨b, ds, de, pl, ks, ke, st, v, d, rfl, W, hd, q, qn⟩ := h
    refine ⟨_, (pss_cons (ps_if (PW.pt (pw_or (pt_not (pt_val (pe_callB call_isi (by rfl) B.isinstance (by decide +kernel) (pa_cons (pv 1) (pa_cons (pe_bltn (v := .ty "str") (by rfl) B.str (by decide +kernel) rfl) pa_nil))))) (pw_or1 (pt_cmp (pc_dnotin (hu_of hr) (pv 1) (pe_fld (pv 0) rfl)))))) (pss_one (ps_raise1 XS.x_UnknownName hr (takes_of rfl rfl rfl rfl) (pa_cons (pv 1) pa_nil))) pss_nil) (pss_one (ps_ret (pe_dget (hu_of hr) (pe_fld (pv 0) rfl) (pv 1) (fun _ _ => rfl))))), ?_⟩
    obtain ⟨dx, hb⟩ := W.ins
    refine ⟨v, rfl, v, .ty "str", _, _, _, rfl, .ty _, tyX_of hd, kit_str d, _, rfl, ?_⟩
    cases hd with
    | str x =>
      refine ⟨_, rfl, _, rfl, b, CB, dx, _, _, rfl, hb, CBk.cl, CBk.nR, rfl, de, _, rfl, W.ge x, _, rfl, ?_⟩
      cases e : look st.ent x with
      | none =>
        rw [W.cur.ae.none x e]
        exact ⟨_, rfl, mk1_ans (qn e).at⟩
      | some sc =>
        obtain ⟨v2, e2, ha⟩ := W.cur.ae.some x e
        have gs := W.ge x
        rw [e2] at gs ⊢
        exact ⟨_, rfl, b, CB, dx, _, _, rfl, hb, CBk.cl, CBk.nR, rfl, _, rfl, de, _, rfl, gs, q sc e v2 ha⟩
    | _ => exact ⟨_, rfl, mk1_ans (qn rfl).at⟩
def sp_home (K : PySem.W.Frag) (CS CB : Addr) : Sp := fun vs H Q _ => ∃ b ds de pl ks ke st x e, vs = [.ref b, .str x] ∧ BkW K CS CB H b ds de pl ks ke st ∧ look st.ent x = some e ∧ Q (.str e.1) H
theorem ok_home (D : MeD K CB "home" "Book.home" s_Book_home []) (F_entry_of : Me P w K mg base CB "entry_of" 3 (sp_entry_of K CS CB XA)) : Me P w K mg base CB "home" 4 (sp_home K CS CB) := by
  refine D.me sc_Book_home (fun _ _ _ _ _ _ us hl => match us, hl with | [_, _], _ => rfl) (fun vs H Q E h => ?_) (fun f cdv A outer s H vs Q E hr h => ?_)
  · obtain ⟨_, _, _, _, _, _, _, _, _, rfl, _⟩ := h
    rfl
  · obtain ⟨b, ds, de, pl, ks, ke, st, x, e, rfl, W, he, q⟩ := h
    refine ⟨_, (pss_one (ps_ret (pe_ix ix_tup (mE F_entry_of hr CBk.cl passL (pv 0) (pa_cons (pv 1) pa_nil)) pe_int (fun _ _ => rfl)))), ?_⟩
    obtain ⟨dx, hb⟩ := W.ins
    refine ⟨_, rfl, b, dx, _, rfl, hb, rfl, _, rfl, b, ds, de, pl, ks, ke, st, .str x, .str x, rfl, W, .str x, fun s hs y hy => ?_, fun hn => ?_⟩
    · rw [show lookD st.ent (.str x) = some e from he] at hs
      cases hs
      obtain ⟨t, r, rfl, h1, h2⟩ := hy
      exact ⟨t, _, 0, _, rfl, rfl, h1, rfl, q⟩
    · rw [show lookD st.ent (.str x) = some e from he] at hn
      cases hn
def sp_row_of (K : PySem.W.Frag) (CS CB : Addr) : Sp := fun vs H Q _ => ∃ b ds de pl ks ke st x e, vs = [.ref b, .str x] ∧ BkW K CS CB H b ds de pl ks ke st ∧ look st.ent x = some e ∧ ∀ r, SqT K H r (e.2.map V.int) → Q (.ref r) H
theorem ok_row_of (D : MeD K CB "row_of" "Book.row_of" s_Book_row_of []) (F_entry_of : Me P w K mg base CB "entry_of" 3 (sp_entry_of K CS CB XA)) : Me P w K mg base CB "row_of" 4 (sp_row_of K CS CB) := by
  refine D.me sc_Book_row_of (fun _ _ _ _ _ _ us hl => match us, hl with | [_, _], _ => rfl) (fun vs H Q E h => ?_) (fun f cdv A outer s H vs Q E hr h => ?_)
  · obtain ⟨_, _, _, _, _, _, _, _, _, rfl, _⟩ := h
    rfl
  · obtain ⟨b, ds, de, pl, ks, ke, st, x, e, rfl, W, he, q⟩ := h
    refine ⟨_, (pss_one (ps_ret (pe_ix ix_tup (mE F_entry_of hr CBk.cl passL (pv 0) (pa_cons (pv 1) pa_nil)) pe_int (fun _ _ => rfl)))), ?_⟩
    obtain ⟨dx, hb⟩ := W.ins
    refine ⟨_, rfl, b, dx, _, rfl, hb, rfl, _, rfl, b, ds, de, pl, ks, ke, st, .str x, .str x, rfl, W, .str x, fun s hs y hy => ?_, fun hn => ?_⟩
    · rw [show lookD st.ent (.str x) = some e from he] at hs
      cases hs
      obtain ⟨t, r, rfl, h1, h2⟩ := hy
      exact ⟨t, _, 1, _, rfl, rfl, h1, rfl, q r h2⟩
    · rw [show lookD st.ent (.str x) = some e from he] at hn
      cases hn
def sp_number_of (K : PySem.W.Frag) (CS CB : Addr) (XA : EA) : Sp := fun vs H Q E => ∃ n b ds de pl ks ke st v d, vs = [.ref b, v] ∧ BkW K CS CB H b ds de pl ks ke st ∧ GoodT n st ∧ Dp K H v d ∧ (∀ e, lookD st.ent d = some e → ∀ H', Same H H' → Q (.int (numOf st e)) H') ∧ (lookD st.ent d = none → Rse XA.unk "name" v H E)
theorem ok_number_of (D : MeD K CB "number_of" "Book.number_of" s_Book_number_of []) (F_entry_of : Me P w K mg base CB "entry_of" 3 (sp_entry_of K CS CB XA)) (F_value_of : Me P w K mg base CS "value_of" 5 (sp_value_of K CS)) : Me P w K mg base CB "number_of" 6 (sp_number_of K CS CB XA) := by
  refine D.me sc_Book_number_of (fun _ _ _ _ _ _ us hl => match us, hl with | [_, _], _ => rfl) (fun vs H Q E h => ?_) (fun f cdv A outer s H vs Q E hr h => ?_)
  · obtain ⟨_, _, _, _, _, _, _, _, _, _, rfl, _⟩ := h
    rfl
  · obtain ⟨n, b, ds, de, pl, ks, ke, st, v, d, rfl, W, gt, hd, q, qn⟩ := h
    refine ⟨_, (pss_cons (ps_asg (mE F_entry_of hr CBk.cl (passes_call (takes_of rfl rfl rfl rfl) (fun _ _ _ _ h => h)) (pv 0) (pa_cons (pv 1) pa_nil)) (pg_tup rfl (pgs_cons (pg_name (i := 2) sc_Book_number_of.nd rfl (.inl rfl)) (pgs_cons (pg_name (i := 3) sc_Book_number_of.nd rfl (.inl rfl)) pgs_nil)))) (pss_one (ps_ret (mE F_value_of hr C.cl passL (pe_dget (hu_of hr) (pe_fld (pv 0) rfl) (pv 2) (fun _ _ => rfl)) (pa_cons (pv 3) pa_nil))))), ?_⟩
    obtain ⟨dx, hb⟩ := W.ins
    refine ⟨_, rfl, b, dx, _, rfl, hb, rfl, _, rfl, b, ds, de, pl, ks, ke, st, v, d, rfl, W, hd, fun e he y hy => ?_, qn⟩
    obtain ⟨t, r, rfl, h1, h2⟩ := hy
    have hm : ∃ x, (x, e) ∈ st.ent := by
      cases d with
      | str x => exact ⟨x, look_mem he⟩
      | _ => cases he
    obtain ⟨x, hm⟩ := hm
    obtain ⟨sc, hs1, hs2, hs3, hs4⟩ := gt.es _ hm
    obtain ⟨v2, e2, a, rfl, ha⟩ := W.cur.as.some e.1 hs1
    have gs := W.gs e.1
    rw [e2] at gs
    obtain ⟨dxa, t1, t2, t3, hins, _⟩ := id ha
    have g : GoodS sc := gt.gs _ (look_mem hs1)
    refine ⟨t, _, rfl, h1, rfl, _, _, rfl, _, _, rfl, rfl, _, rfl, b, CB, dx, _, _, rfl, hb, CBk.cl, CBk.nS, rfl, _, rfl, ds, _, rfl, gs, a, dxa, _, rfl, hins, rfl, _, rfl, a, r, sc, e.2, rfl, ha, g, h2, hs2, by have : e.2.length ≤ 500 := hs4; omega, fun H' s' => ?_⟩
    have := q e he H' s'
    unfold numOf at this
    rw [hs1] at this
    exact this
/-- may the number be written in the scheme of a name -/
def isW (st : Stt) (n : Int) (x : Str) : Bool := match look st.sch x with
  | some s => zero (lastL (lvls s n))
  | none => false
def sp_writers (K : PySem.W.Frag) (CS CB : Addr) : Sp := fun vs H Q _ => ∃ n b ds de pl ks ke st x e, vs = [.ref b, .str x] ∧ BkW K CS CB H b ds de pl ks ke st ∧ GoodT n st ∧ look st.ent x = some e ∧ (numOf st e).natAbs < 2 ^ 1000 ∧ st.sch.length < 64 ∧
  ∀ ys p H', ys.Perm (st.sch.map (·.1)) → sortedS ys = true → Same H H' → H' p = some (.lst ((ys.filter (isW st (numOf st e))).map V.str)) → Q (.ref p) H'
theorem ok_writers (D : MeD K CB "writers" "Book.writers" s_Book_writers []) (F_number_of : Me P w K mg base CB "number_of" 6 (sp_number_of K CS CB XA)) (F_schemes : Me P w K mg base CB "schemes" 1 (sp_schemes K CS CB)) (F_is_written : Fn P w K mg base "is_written" 8 (sp_is_written K CS)) : Me P w K mg base CB "writers" 9 (sp_writers K CS CB) := by
  refine D.me sc_Book_writers (fun _ _ _ _ _ _ us hl => match us, hl with | [_, _], _ => rfl) (fun vs H Q E h => ?_) (fun f cdv A outer s H vs Q E hr h => ?_)
  · obtain ⟨_, _, _, _, _, _, _, _, _, _, rfl, _⟩ := h
    rfl
  · obtain ⟨n, b, ds, de, pl, ks, ke, st, x, e, rfl, W, gt, he, hn, hz, q⟩ := h
    refine ⟨_, (pss_cons (ps_set (i := 2) sc_Book_writers.nd rfl (.inr rfl) (mE F_number_of hr CBk.cl passL (pv 0) (pa_cons (pv 1) pa_nil))) (pss_one (ps_ret (pe_lc rfl sc_Book_writers.nd (own := [("where", 3)]) (g := gName 3) (tt := _) (pi_list (mE0 F_schemes hr CBk.cl passL (pv 0))) (blkOk_by (N := ["self", "name", "number", "where"]) (sc := defScope s_Book_writers) (by decide +kernel)) (fun _ _ _ _ _ => (pg_name (i := 3) sc_Book_writers.nd rfl (.inl rfl))) (fun _ _ _ _ _ => (pts_one (pt_val (c0 F_is_written hr (pa_cons (pe_dget (hu_of hr) (pe_fldK (K := K) (pv 0) rfl rfl) (pv 3) (fun _ _ => rfl)) (pa_cons (pv 2) pa_nil)))))) (fun _ _ _ _ _ => (pv 3)))))), ?_⟩
    obtain ⟨dx, hb⟩ := W.ins
    refine ⟨_, rfl, b, dx, _, rfl, hb, rfl, _, rfl, n, b, ds, de, pl, ks, ke, st, .str x, .str x, rfl, W, gt, .str x, fun e' he' H1 s1 => ?_, fun hn => ?_⟩
    · rw [show lookD st.ent (.str x) = some e from he] at he'
      cases he'
      have hb1 := s1 _ _ hb
      refine ⟨_, rfl, b, dx, _, rfl, hb1, rfl, b, ds, de, pl, ks, ke, st, rfl, W.same s1, hz, fun ys p H2 hp1 hp2 s2 np ep => ?_⟩
      have hyl : ys.length < 64 := by rw [hp1.length_eq, List.length_map]; exact hz
      refine ⟨p, rfl, ⟨_, .inl (.inl ep)⟩, fun Dl nD => lc_list (xs := ys.map V.str) (LcI [] [] Dl H2 (Filt ys (isW st (numOf st e)) V.str)) (LcI.start (by intro a h; cases h) (by simp) nD Filt.zero)
        (fun i H' _ q => (Le.of q.stp.same).sqL (.inl (.inl ep))) (fun i y H3 hy q3 => ?_) (fun H3 q3 => ?_)⟩
      · rw [List.getElem?_map] at hy
        cases e1 : ys[i]? with
        | none => rw [e1] at hy; cases hy
        | some z =>
          rw [e1] at hy
          cases hy
          have hi : i < ys.length := (List.getElem?_eq_some_iff.mp e1).1
          have s3 := (s1.trans s2).trans q3.stp.same
          have W3 := W.same s3
          have hz2 : z ∈ st.sch.map (·.1) := hp1.mem_iff.mp (List.mem_of_getElem? e1)
          have hlk : ∃ sc, look st.sch z = some sc := by
            have : (look st.sch z).isSome = true := by
              rw [look_isSome, List.any_eq_true]
              obtain ⟨p9, h9, e9⟩ := List.mem_map.mp hz2
              exact ⟨p9, h9, decide_eq_true e9⟩
            exact Option.isSome_iff_exists.mp this
          obtain ⟨sc, hsc⟩ := hlk
          obtain ⟨v2, e2, a, rfl, ha⟩ := W3.cur.as.some z hsc
          have gs := W3.gs z
          rw [e2] at gs
          have g : GoodS sc := gt.gs _ (look_mem hsc)
          have eW : isW st (numOf st e) z = zero (lastL (lvls sc (numOf st e))) := by unfold isW; rw [hsc]
          refine ⟨rfl, _, rfl, b, CB, dx, _, _, rfl, s3 _ _ hb, CBk.cl, CBk.nS, rfl, _, rfl, ds, _, rfl, gs, _, rfl, a, sc, numOf st e, rfl, ha, g, hn, fun H4 s4 => ⟨_, rfl, ?_⟩⟩
          rw [← eW]
          refine ite2 (fun c => ?_) fun c => ?_
          · exact ⟨_, rfl, q3.step (by simp) nD (by intro a h; cases h) (.nil s4) (by rw [sizeLine_eq]; omega) (fun acc _ r => r.yes e1 c)⟩
          · exact q3.skip (by simp) nD (by intro a h; cases h) (.nil s4) (fun acc _ r => r.no e1 (Bool.eq_false_iff.mpr c))
      · obtain ⟨acc, hA, _, r⟩ := q3.ex
        rw [List.length_map] at r
        have e9 := r.all
        subst e9
        exact q ys Dl H3 hp1 hp2 ((s1.trans s2).trans q3.stp.same) hA
    · rw [show lookD st.ent (.str x) = some e from he] at hn
      cases hn
def sp_change (K : PySem.W.Frag) (CS CB : Addr) : Sp := fun vs H Q _ => ∃ u M b ds de pl ks ke ws st past ds' de' ks' ke' st', vs = [.ref b, .ref ds', .ref de'] ∧ BookAt K CS CB u M H b ds de pl ks ke ws st past ∧ StR K CS u (fr M H) ds' de' ks' ke' st' ∧ past.length < 1000 ∧ Kept K CS CB u M b H st' (past ++ [st]) Q
theorem ok_change (D : MeD K CB "change" "Book.change" s_Book_change []) : Me P w K mg base CB "change" 1 (sp_change K CS CB) := by
  refine D.me sc_Book_change (fun _ _ _ _ _ _ us hl => match us, hl with | [_, _, _], _ => rfl) (fun vs H Q E h => ?_) (fun f cdv A outer s H vs Q E hr h => ?_)
  · obtain ⟨_, _, _, _, _, _, _, _, _, _, _, _, _, _, _, _, rfl, _⟩ := h
    rfl
  · obtain ⟨u, M, b, ds, de, pl, ks, ke, ws, st, past, ds', de', ks', ke', st', rfl, W, S', hz, q⟩ := h
    refine ⟨_, (pss_cons (ps_fld (pv 0) (pe_lst (StX.pa_star (pe_fld (pv 0) rfl) (pa_cons (pe_tup (pa_cons (pe_fld (pv 0) rfl) (pa_cons (pe_fld (pv 0) rfl) pa_nil))) pa_nil))) rfl) (pss_cons (ps_fld (pv 0) (pv 1) rfl) (pss_one (ps_fld (pv 0) (pv 2) rfl)))), ?_⟩
    obtain ⟨dx, hb⟩ := W.ins
    have hlen := W.old.len
    refine ⟨_, rfl, b, CB, dx, _, _, rfl, hb, CBk.cl, CBk.nP, rfl, pl, ws, rfl, .inr ((fr_le M H).sqL W.lst), _, rfl, b, CB, dx, _, _, rfl, hb, CBk.cl, CBk.nS, rfl, _, rfl, b, CB, dx, _, _, rfl, hb, CBk.cl, CBk.nR, rfl, by show 2 ≤ sizeLine; decide, fun t nt => ?_⟩
    have s1 := same_new (o := .tup [.ref ds, .ref de]) nt
    refine ⟨by rw [List.length_append, sizeLine_eq]; show ws.length + 1 ≤ _; omega, fun l nl => ?_⟩
    have s2 := s1.trans (same_new (o := .lst (ws ++ [.ref t])) nl)
    have W2 := W.same s2
    have S2 := S'.leS (same_leS s2)
    have hl2 : SqL K (fr M (upd (upd H t (.tup [.ref ds, .ref de])) l (.lst (ws ++ [.ref t])))) l (ws ++ [.ref t]) := .inl (.inl (upd_fr nl (W.mok.same s1)))
    have ht2 : SqT K (fr M (upd (upd H t (.tup [.ref ds, .ref de])) l (.lst (ws ++ [.ref t])))) t [.ref ds, .ref de] := (upd_le nl).sqT (.inl (.inl (upd_fr nt W.mok)))
    have hb2 := s2 _ _ hb
    generalize upd (upd H t (.tup [.ref ds, .ref de])) l (.lst (ws ++ [.ref t])) = H2 at *
    refine ⟨_, rfl, b, CB, dx, _, rfl, hb2, CBk.cl, CBk.nP, by show 3 < 1000; decide, _, rfl, _, rfl, b, CB, dx, _, rfl, upd_same, CBk.cl, CBk.nS, by show 3 < 1000; decide, _, rfl, _, rfl, b, CB, dx, _, rfl, upd_same, CBk.cl, CBk.nR, by show 3 < 1000; decide, ?_⟩
    refine q _ ds' de' l ks' ke' (ws ++ [.ref t]) ((((sb_same s2 [b]).trans sb_upd).trans sb_upd).trans sb_upd) ⟨⟨dx, upd_same⟩, W.mem, ?_, ?_, ?_, ?_⟩
    · intro x hx
      by_cases c : x = b
      · rw [c, upd_same]; simp
      · rw [upd_ne c, upd_ne c, upd_ne c]; exact W2.mok x hx
    · rw [fr_updM W.mem, fr_updM W.mem, fr_updM W.mem]; exact S2
    · rw [fr_updM W.mem, fr_updM W.mem, fr_updM W.mem]; exact hl2
    · rw [fr_updM W.mem, fr_updM W.mem, fr_updM W.mem]
      exact PastA.snoc ⟨t, ds, de, ks, ke, rfl, ht2, W2.cur⟩ W2.old
def sp_check_name (K : PySem.W.Frag) (CS CB : Addr) (XA : EA) : Sp := fun vs H Q E => ∃ b ds de pl ks ke st v d, vs = [.ref b, v] ∧ BkW K CS CB H b ds de pl ks ke st ∧ Dp K H v d ∧ ShS d ∧ (isName d = false → Rse XA.iName "name" v H E) ∧ (isName d = true → (lookD st.sch d).isSome = true → Rse XA.taken "name" v H E) ∧ (isName d = true → (lookD st.sch d).isSome = false → ∀ H', Same H H' → Q .non H')
theorem ok_check_name (D : MeD K CB "check_name" "Book.check_name" s_Book_check_name []) (F_is_name : Fn P w K mg base "is_name" 1 (sp_is_name K)) : Me P w K mg base CB "check_name" 3 (sp_check_name K CS CB XA) := by
  refine D.me sc_Book_check_name (fun _ _ _ _ _ _ us hl => match us, hl with | [_, _], _ => rfl) (fun vs H Q E h => ?_) (fun f cdv A outer s H vs Q E hr h => ?_)
  · obtain ⟨_, _, _, _, _, _, _, _, _, rfl, _⟩ := h
    rfl
  · obtain ⟨b, ds, de, pl, ks, ke, st, v, d, rfl, W, hd, hsh, q1, q2, q3⟩ := h
    refine ⟨_, (pss_cons (ps_if (pt_not (pt_val (c0 F_is_name hr (pa_cons (pv 1) pa_nil)))) (pss_one (ps_raise1 XS.x_InvalidName hr (takes_of rfl rfl rfl rfl) (pa_cons (pv 1) pa_nil))) pss_nil) (pss_one (ps_if (pt_cmp (pc_din (hu_of hr) (pv 1) (pe_fld (pv 0) rfl))) (pss_one (ps_raise1 XS.x_NameTaken hr (takes_of rfl rfl rfl rfl) (pa_cons (pv 1) pa_nil))) pss_nil))), ?_⟩
    obtain ⟨dx, hb⟩ := W.ins
    refine ⟨_, rfl, v, d, rfl, hd, hsh, fun H1 s1 => ⟨_, rfl, ?_⟩⟩
    refine ite2 (fun c => ?_) fun c => ?_
    · exact ⟨_, rfl, mk1_ans ((q1 (by simpa using c)).same s1).at⟩
    · have c : isName d = true := by simpa using c
      have W1 := W.same s1
      cases hd with
      | str x =>
        refine ⟨_, rfl, _, rfl, b, CB, dx, _, _, rfl, s1 _ _ hb, CBk.cl, CBk.nS, rfl, ds, _, rfl, W1.gs x, _, rfl, ?_⟩
        rw [W1.cur.as.isSome x]
        refine ite2 (fun c2 => ?_) fun c2 => ?_
        · exact ⟨_, rfl, mk1_ans ((q2 c c2).same s1).at⟩
        · exact q3 c (Bool.eq_false_iff.mpr c2) H1 s1
      | _ => cases c
end
end K75
set_option maxHeartbeats 400000
namespace K75
open PySem PySem.Spec PyProof.Rows L2
theorem none_same {H H' : Hp} {a : Addr} (s : Same H H') (n : H' a = none) : H a = none := by
  cases e : H a with
  | none => rfl
  | some o => rw [s _ _ e] at n; cases n
theorem entry_none {st : Stt} {d w : PyData} (h : entryDue st d w = none) : isName d = true ∧ (lookD st.sch d).isSome = false ∧ ∃ x y sc, d = .str x ∧ w = .str y ∧ look st.sch y = some sc := by
  unfold entryDue at h
  split at h
  · cases h
  · rename_i h1
    split at h
    · cases h
    · rename_i h2
      split at h
      · cases h
      · rename_i h3
        refine ⟨by simpa using h1, by simpa using h2, ?_⟩
        have h1 : isName d = true := by simpa using h1
        cases d with
        | str x =>
          cases w with
          | str y =>
            obtain ⟨sc, e⟩ := Option.ne_none_iff_exists'.mp h3
            exact ⟨x, y, sc, rfl, rfl, e⟩
          | _ => exact absurd rfl h3
        | _ => cases h1
theorem entry_some {st : Stt} {d w : PyData} {o : Out} (h : entryDue st d w = some o) : (isName d = false ∧ o = .no .iName d) ∨ (isName d = true ∧ (lookD st.sch d).isSome = true ∧ o = .no .taken d) ∨ (isName d = true ∧ (lookD st.sch d).isSome = false ∧ lookD st.sch w = none ∧ o = .no .unk w) := by
  unfold entryDue at h
  split at h
  · rename_i h1; cases h; exact .inl ⟨h1, rfl⟩
  · rename_i h1
    split at h
    · rename_i h2; cases h; exact .inr (.inl ⟨by simpa using h1, h2, rfl⟩)
    · rename_i h2
      split at h
      · rename_i h3; cases h; exact .inr (.inr ⟨by simpa using h1, by simpa using h2, h3, rfl⟩)
      · cases h
/-- what the checks of a deed leave -/
theorem entry_cases (st : Stt) (d w : PyData) : (isName d = false ∧ entryDue st d w = some (.no .iName d)) ∨ (isName d = true ∧ (lookD st.sch d).isSome = true ∧ entryDue st d w = some (.no .taken d)) ∨
    (isName d = true ∧ (lookD st.sch d).isSome = false ∧ lookD st.sch w = none ∧ entryDue st d w = some (.no .unk w)) ∨ (isName d = true ∧ (lookD st.sch d).isSome = false ∧ entryDue st d w = none ∧ ∃ x y sc, d = .str x ∧ w = .str y ∧ look st.sch y = some sc) := by
  cases e : entryDue st d w with
  | none => exact .inr (.inr (.inr (let ⟨a, b, c⟩ := entry_none e; ⟨a, b, rfl, c⟩)))
  | some o =>
    rcases entry_some e with ⟨a, rfl⟩ | ⟨a, b, rfl⟩ | ⟨a, b, c, rfl⟩
    · exact .inl ⟨a, rfl⟩
    · exact .inr (.inl ⟨a, b, rfl⟩)
    · exact .inr (.inr (.inl ⟨a, b, c, rfl⟩))
theorem written_eq {st : Stt} {x y : Str} {i : Int} {sc : Sch} (h : look st.sch y = some sc) : writtenDue st (.str x) (.str y) i = match wr sc i with | some row => .done { st with ent := put st.ent x (y, row) } | none => .no .notW (.int i) := by
  show (match look st.sch y with
    | some sc => match wr sc i with
      | some row => Out.done { st with ent := put st.ent x (y, row) }
      | none => .no .notW (.int i)
    | none => .no .unk (.str y)) = _
  rw [h]
theorem rowD_row {sc : Sch} {d : PyData} (h : rowD sc d = true) : ∃ row : List Int, d = .tuple (row.map PyData.int) := by
  cases d with
  | tuple ds =>
    have h1 : (ds.all (hasD sc) && _) = true := h
    rw [Bool.and_eq_true] at h1
    obtain ⟨row, e⟩ := ints_of_has h1.1
    exact ⟨row, by rw [e]⟩
  | _ => cases h
theorem rowOf_ints (row : List Int) : rowOf (.tuple (row.map PyData.int)) = row := by
  show (row.map PyData.int).filterMap toInt1 = row
  induction row with
  | nil => rfl
  | cons a r ih => rw [List.map_cons, List.filterMap_cons]; simp only [toInt1]; rw [ih]
theorem cut_last {vs : List V} {v : V} : cutV (vs ++ [v]) none (some (-1)) = vs := by
  unfold cutV
  have h1 : HT.sIx (vs ++ [v]).length 0 none = 0 := rfl
  have h2 : HT.sIx (vs ++ [v]).length (vs ++ [v]).length (some (-1)) = vs.length := by
    unfold HT.sIx
    simp only []
    rw [if_pos (by decide), List.length_append, List.length_singleton]
    omega
  rw [h1, h2]
  simp
section
variable {X : Cx}
def rEq0 : R2 := fun x y H Q => ∃ a b ks, x = .ref a ∧ y = .ref b ∧ Rd H a (.dK ks) ∧ H b = some (.dK []) ∧ Q (.bl ks.isEmpty) H
theorem op_eq0 {k : Nat} (hr : Room k X.A) : OpR X (compareOp .Eq) rEq0 := by
  intro pins s σ H x y v u Q I rx ry h
  obtain ⟨a, b, ks, rfl, rfl, ea, eb, q⟩ := h
  obtain rfl : v = Value.ref a := rx
  obtain rfl : u = Value.ref b := ry
  obtain ⟨_, ya, va, ra, da⟩ := ea.ok I.hok
  obtain ⟨_, yb, vb, rb, db⟩ := (show ObjOk X.prog X.w H s.heap b (.dK []) from I.hok b _ eb)
  cases rb
  refine PySem.W.keq_eq (knd := mixKind X.prog X.w) (r := true) ya yb da db (by have := hr.un; omega) (fun e => ?_) (fin_bl I q ?_)
  · cases va with
    | nil => exact .nil
    | cons p r => simp at e
  · cases ra with
    | nil => rfl
    | cons _ _ => simp
end
theorem num_small {n : Nat} {i : Int} (hn : n ≤ 101) (h : i.natAbs ≤ 10 ^ 20 * 4 ^ n) : i.natAbs < 2 ^ 1000 := by
  have h1 : 4 ^ n ≤ 4 ^ 101 := Nat.pow_le_pow_right (by omega) hn
  have h2 : 10 ^ 20 * 4 ^ n ≤ 10 ^ 20 * 4 ^ 101 := Nat.mul_le_mul_left _ h1
  have h3 : 10 ^ 20 * 4 ^ 101 < 2 ^ 1000 := by decide +kernel
  omega
section
variable {P : Program} {w : World} {K : PySem.W.Frag} {mg : Str → Option Value} {base : Heap} (B : Blt mg) (T : Con5 mg) {CS CB : Addr} {XA : EA} (C : SchC K mg CS) (CBk : BkC K mg CB) (XS : Exs P w K mg base XA)
include B T C CBk XS
def sp_enter (K : PySem.W.Frag) (CS CB : Addr) : Sp := fun vs H Q _ => ∃ u M b ds de pl ks ke ws st past x y r row, vs = [.ref b, .str x, .str y, .ref r] ∧ BookAt K CS CB u M H b ds de pl ks ke ws st past ∧ SqT K (fr M H) r (row.map V.int) ∧ st.ent.length < 64 ∧ past.length < 1000 ∧
  Kept K CS CB u M b H { st with ent := put st.ent x (y, row) } (past ++ [st]) Q
theorem ok_enter (D : MeD K CB "enter" "Book.enter" s_Book_enter []) (F_change : Me P w K mg base CB "change" 1 (sp_change K CS CB)) : Me P w K mg base CB "enter" 2 (sp_enter K CS CB) := by
  refine D.me sc_Book_enter (fun _ _ _ _ _ _ us hl => match us, hl with | [_, _, _, _], _ => rfl) (fun vs H Q E h => ?_) (fun f cdv A outer s H vs Q E hr h => ?_)
  · obtain ⟨_, _, _, _, _, _, _, _, _, _, _, _, _, _, _, rfl, _⟩ := h
    rfl
  · obtain ⟨u, M, b, ds, de, pl, ks, ke, ws, st, past, x, y, r, row, rfl, W, hrow, hz, hz2, q⟩ := h
    refine ⟨_, (pss_one (ps_expr (mE F_change hr CBk.cl passL (pv 0) (pa_cons (pe_fld (pv 0) rfl) (pa_cons (pe_dmerge (pe_fld (pv 0) rfl) (pv 1) (pe_tup (pa_cons (pv 2) (pa_cons (pv 3) pa_nil)))) pa_nil))))), ?_⟩
    obtain ⟨dx, hb⟩ := W.ins
    have hlen := W.cur.ae.len
    refine ⟨_, rfl, b, dx, _, rfl, hb, rfl, _, rfl, b, CB, dx, _, _, rfl, hb, CBk.cl, CBk.nS, rfl, fun p np => ?_⟩
    have s1 := same_new (o := .dK []) np
    have hre := (W.cur.re.leS (fr_leS M H)).rd
    refine ⟨_, rfl, b, CB, dx, _, _, rfl, s1 _ _ hb, CBk.cl, CBk.nR, rfl, de, ke, rfl, fun e => ?_, (Le.of s1).rd _ _ hre, upd_same, by rw [sizeLine_eq]; omega, fun p2 np2 => ⟨_, rfl, _, rfl, _, rfl, by show 2 ≤ sizeLine; decide, fun t nt => ?_⟩⟩
    · subst e
      rcases hre with h | ⟨o, h⟩ <;> rw [np] at h <;> cases h
    have d12 : p ≠ p2 := fun e => by rw [← e, upd_same] at np2; cases np2
    have n2 : H p2 = none := by rw [upd_ne d12.symm, upd_ne d12.symm] at np2; exact np2
    have d2t : t ≠ p2 := fun e => by rw [e, upd_same] at nt; cases nt
    have d1t : t ≠ p := fun e => by rw [upd_ne d2t, e, upd_same] at nt; cases nt
    have nt0 : H t = none := by rw [upd_ne d2t, upd_ne d1t, upd_ne d1t] at nt; exact nt
    refine ⟨.inr x, rfl, d12, by rw [upd_ne d1t.symm, upd_ne d12]; exact upd_same, by rw [upd_ne d2t.symm]; exact upd_same, ?_⟩
    have s5 : Same H (upd (upd (upd (upd (upd (upd H p (.dK [])) p (.dK ke)) p2 (.dK [])) t (.tup [.str y, .ref r])) p2 (.dK [(.inr x, .ref t)])) p (.dK (putK ke (.inr x) (.ref t)))) :=
      newU (newU (newU (newU (newU (newU (Same.refl H) np) np) n2) nt0) n2) np
    have ht5 : (upd (upd (upd (upd (upd (upd H p (.dK [])) p (.dK ke)) p2 (.dK [])) t (.tup [.str y, .ref r])) p2 (.dK [(.inr x, .ref t)])) p (.dK (putK ke (.inr x) (.ref t)))) t = some (.tup [.str y, .ref r]) := by
      rw [upd_ne d1t, upd_ne d2t]; exact upd_same
    have hp5 : (upd (upd (upd (upd (upd (upd H p (.dK [])) p (.dK ke)) p2 (.dK [])) t (.tup [.str y, .ref r])) p2 (.dK [(.inr x, .ref t)])) p (.dK (putK ke (.inr x) (.ref t)))) p = some (.dK (putK ke (.inr x) (.ref t))) := upd_same
    generalize upd (upd (upd (upd (upd (upd H p (.dK [])) p (.dK ke)) p2 (.dK [])) t (.tup [.str y, .ref r])) p2 (.dK [(.inr x, .ref t)])) p (.dK (putK ke (.inr x) (.ref t))) = H5 at *
    have W5 := W.same s5
    refine ⟨u, M, b, ds, de, pl, ks, ke, ws, st, past, ds, p, ks, _, { st with ent := put st.ent x (y, row) }, rfl, W5, ⟨W5.cur.rs, .inl (fr_of hp5 (W.mok.new np)), W5.cur.as, W5.cur.ae.put x ?_⟩, hz2, q.same s5⟩
    exact ⟨t, r, rfl, .inl (.inl (fr_of ht5 (W.mok.new nt0))), (same_le s5).sqT hrow⟩
def sp_written (K : PySem.W.Frag) (CS CB : Addr) (XA : EA) : Sp := fun vs H Q E => ∃ M b ds de pl ks ke st y sc n, vs = [.ref b, .str y, .int n] ∧ BkW K CS CB H b ds de pl ks ke st ∧ Mok M H ∧ look st.sch y = some sc ∧ GoodS sc ∧ n.natAbs < 2 ^ 1000 ∧
  (wr sc n = none → Rse XA.notW "number" (.int n) H E) ∧ ∀ row, wr sc n = some row → ∀ t H', Same H H' → SqT K (fr M H') t (row.map V.int) → Q (.ref t) H'
theorem ok_written (D : MeD K CB "written" "Book.written" s_Book_written []) (F_writing : Fn P w K mg base "writing" 7 (sp_writing K CS)) : Me P w K mg base CB "written" 8 (sp_written K CS CB XA) := by
  refine D.me sc_Book_written (fun _ _ _ _ _ _ us hl => match us, hl with | [_, _, _], _ => rfl) (fun vs H Q E h => ?_) (fun f cdv A outer s H vs Q E hr h => ?_)
  · obtain ⟨_, _, _, _, _, _, _, _, _, _, _, rfl, _⟩ := h
    rfl
  · obtain ⟨M, b, ds, de, pl, ks, ke, st, y, sc, n, rfl, W, mok, hs, g, hn, q0, q1⟩ := h
    refine ⟨_, (pss_cons (ps_set (i := 3) sc_Book_written.nd rfl (.inl rfl) (c0 F_writing hr (pa_cons (pe_dget (hu_of hr) (pe_fld (pv 0) rfl) (pv 1) (fun _ _ => rfl)) (pa_cons (pv 2) pa_nil)))) (pss_cons (ps_if (pt_cmpR op_isN (pv 3) pe_non (nomark _)) (pss_one (ps_raise1 XS.x_NotWritten hr (takes_of rfl rfl rfl rfl) (pa_cons (pv 2) pa_nil))) pss_nil) (pss_one (ps_ret (pv 3))))), ?_⟩
    obtain ⟨dx, hb⟩ := W.ins
    obtain ⟨v2, e2, a, rfl, ha⟩ := W.cur.as.some y hs
    have gs := W.gs y
    rw [e2] at gs
    refine ⟨_, rfl, b, CB, dx, _, _, rfl, hb, CBk.cl, CBk.nS, rfl, _, rfl, ds, _, rfl, gs, _, rfl, M, a, sc, n, rfl, mok, ha, g, hn, fun e H' s' => ?_, fun row e t H' s' ht => ?_⟩
    · exact ⟨_, rfl, rfl, _, rfl, _, rfl, mk1_ans ((q0 e).same s').at⟩
    · exact ⟨_, rfl, rfl, _, rfl, _, rfl, q1 row e t H' s' ht⟩
/-- a scheme, or something odd -/
def MoAt (K : PySem.W.Frag) (CS : Addr) (F : Hp) (v : V) (mo : Option Sch) (d2 : PyData) : Prop :=
  (∃ a sc, v = .ref a ∧ SchAt K CS F a sc ∧ GoodS sc ∧ mo = some sc) ∨ (Dp K F v d2 ∧ mo = none ∧ ∃ ty ∈ ["NoneType", "bool", "int", "str"], tyD d2 = ty)
def sp_keep (K : PySem.W.Frag) (CS CB : Addr) (XA : EA) : Sp := fun vs H Q E => ∃ u M b ds de pl ks ke ws st past v d v2 mo d2, vs = [.ref b, v, v2] ∧ BookAt K CS CB u M H b ds de pl ks ke ws st past ∧ Dp K H v d ∧ ShS d ∧ MoAt K CS (fr M H) v2 mo d2 ∧ st.sch.length < 64 ∧ past.length < 1000 ∧ Post XA K CS CB u M b st past (keepDue st d mo d2) H Q E
theorem ok_keep (D : MeD K CB "keep" "Book.keep" s_Book_keep []) (F_check_name : Me P w K mg base CB "check_name" 3 (sp_check_name K CS CB XA)) (F_change : Me P w K mg base CB "change" 1 (sp_change K CS CB)) : Me P w K mg base CB "keep" 4 (sp_keep K CS CB XA) := by
  refine D.me sc_Book_keep (fun _ _ _ _ _ _ us hl => match us, hl with | [_, _, _], _ => rfl) (fun vs H Q E h => ?_) (fun f cdv A outer s H vs Q E hr h => ?_)
  · obtain ⟨_, _, _, _, _, _, _, _, _, _, _, _, _, _, _, _, rfl, _⟩ := h
    rfl
  · obtain ⟨u, M, b, ds, de, pl, ks, ke, ws, st, past, v, d, v2, mo, d2, rfl, W, hd, hsh, hmo, hz, hz2, q⟩ := h
    refine ⟨_, (pss_cons (ps_expr (mE F_check_name hr CBk.cl (passes_call (takes_of rfl rfl rfl rfl) (fun _ _ _ _ h => h)) (pv 0) (pa_cons (pv 1) pa_nil))) (pss_cons (ps_if (pt_cmp (pc_din (hu_of hr) (pv 1) (pe_fld (pv 0) rfl))) (pss_one (ps_raise1 XS.x_NameTaken hr (takes_of rfl rfl rfl rfl) (pa_cons (pv 1) pa_nil))) pss_nil) (pss_cons (ps_if (pt_not (pt_val (pe_callB call_isi (by rfl) B.isinstance (by decide +kernel) (pa_cons (pv 2) (pa_cons (pe_glob (v := .ref CS) rfl C.mg rfl) pa_nil))))) (pss_one (ps_raise1 XS.x_NotScheme hr (takes_of rfl rfl rfl rfl) (pa_cons (pv 2) pa_nil))) pss_nil) (pss_one (ps_expr (mE F_change hr CBk.cl passL (pv 0) (pa_cons (pe_dmerge (pe_fld (pv 0) rfl) (pv 1) (pv 2)) (pa_cons (pe_fld (pv 0) rfl) pa_nil)))))))), ?_⟩
    obtain ⟨dx, hb⟩ := W.ins
    refine ⟨_, rfl, b, dx, _, rfl, hb, rfl, _, rfl, b, ds, de, pl, ks, ke, st, v, d, rfl, W.toW, hd, hsh, fun c => ?_, fun c c2 => ?_, fun c c2 H1 s1 => ?_⟩
    · unfold keepDue at q
      rw [if_pos c] at q
      exact q v hd
    · unfold keepDue at q
      rw [if_neg (by simp [c]), if_pos c2] at q
      exact q v hd
    · unfold keepDue at q
      rw [if_neg (by simp [c]), if_neg (by simp [c2])] at q
      have W1 := W.same s1
      have hd1 := (Le.of s1).dp hd
      cases hd with
      | str x =>
        refine ⟨_, rfl, _, rfl, b, CB, dx, _, _, rfl, s1 _ _ hb, CBk.cl, CBk.nR, rfl, de, _, rfl, W1.toW.ge x, _, rfl, ?_⟩
        rw [W1.cur.ae.isSome x]
        refine ite2 (fun c3 => ?_) fun c3 => ?_
        · rw [if_pos (show (lookD st.ent (.str x)).isSome = true from c3)] at q
          exact ⟨_, rfl, mk1_ans ((q _ (.str x)).same s1).at⟩
        · rw [if_neg (show ¬ (lookD st.ent (.str x)).isSome = true from c3)] at q
          rcases hmo with ⟨a, sc, rfl, ha, g, rfl⟩ | ⟨h2, rfl, ty, hty, ety⟩
          · have q : Kept K CS CB u M b H { st with sch := put st.sch x sc } (past ++ [st]) Q := q
            have ha1 := (same_le s1).sch ha
            obtain ⟨dxa, t1, t2, t3, hins, _⟩ := id ha1
            have hb1 := s1 _ _ hb
            have hlen := W1.cur.as.len
            refine ⟨_, rfl, _, .ref CS, _, _, _, rfl, .own CS, C.ic.ty C.cl (fr_some hins).1, kit_self, _, rfl, ?_⟩
            refine ⟨_, rfl, b, dx, _, rfl, hb1, rfl, fun p np => ?_⟩
            have hre := (W1.cur.rs.leS (fr_leS M H1)).rd
            have s2 := same_new (o := .dK []) np
            refine ⟨_, rfl, b, CB, dx, _, _, rfl, s2 _ _ hb1, CBk.cl, CBk.nS, rfl, ds, ks, rfl, fun e => ?_, (Le.of s2).rd _ _ hre, upd_same, by rw [sizeLine_eq]; omega, fun p2 np2 => ⟨_, rfl, _, rfl, .inr x, rfl, fun e => ?_, ?_, upd_same, ?_⟩⟩
            · subst e
              rcases hre with h | ⟨o, h⟩ <;> rw [np] at h <;> cases h
            · rw [← e, upd_same] at np2; cases np2
            · rw [upd_ne (fun e => by rw [← e, upd_same] at np2; cases np2)]; exact upd_same
            · have d12 : p ≠ p2 := fun e => by rw [← e, upd_same] at np2; cases np2
              have n2 : H1 p2 = none := by rw [upd_ne d12.symm, upd_ne d12.symm] at np2; exact np2
              have s5 : Same H1 (upd (upd (upd (upd (upd H1 p (.dK [])) p (.dK ks)) p2 (.dK [])) p2 (.dK [(.inr x, .ref a)])) p (.dK (putK ks (.inr x) (.ref a)))) := newU (newU (newU (newU (newU (Same.refl H1) np) np) n2) n2) np
              have hp5 : (upd (upd (upd (upd (upd H1 p (.dK [])) p (.dK ks)) p2 (.dK [])) p2 (.dK [(.inr x, .ref a)])) p (.dK (putK ks (.inr x) (.ref a)))) p = some (.dK (putK ks (.inr x) (.ref a))) := upd_same
              generalize upd (upd (upd (upd (upd H1 p (.dK [])) p (.dK ks)) p2 (.dK [])) p2 (.dK [(.inr x, .ref a)])) p (.dK (putK ks (.inr x) (.ref a))) = H5 at *
              have W5 := W1.same s5
              refine ⟨_, rfl, b, CB, dx, _, _, rfl, s5 _ _ hb1, CBk.cl, CBk.nR, rfl, u, M, b, ds, de, pl, ks, ke, ws, st, past, p, de, _, ke, { st with sch := put st.sch x sc }, rfl, W5, ⟨.inl (fr_of hp5 (W1.mok.new np)), W5.cur.re, W5.cur.as.put x ?_, W5.cur.ae⟩, hz2, (q.same s1).same s5⟩
              exact ⟨a, rfl, (same_le s5).sch ha1⟩
          · have h21 := (Le.of s1).dp ((fr_le _ _).dp h2)
            have q : ∀ v, Dp K H v d2 → Rse XA.notS "value" v H E := q
            have ht := tyX_of h21
            have hk : PySem.W.kitOne K (.type (tyD d2)) (.ref CS) = some false := by
              rw [ety]
              simp only [List.mem_cons, List.not_mem_nil, or_false] at hty
              rcases hty with rfl | rfl | rfl | rfl
              · exact C.kN
              · exact C.kB
              · exact C.kI
              · exact C.kS
            refine ⟨_, rfl, _, .ref CS, _, _, _, rfl, .own CS, ht, hk, _, rfl, ?_⟩
            exact ⟨_, rfl, mk1_ans ((q v2 ((fr_le _ _).dp h2)).same s1).at⟩
      | _ => cases c
def sp_put (K : PySem.W.Frag) (CS CB : Addr) (XA : EA) : Sp := fun vs H Q E => ∃ u M b ds de pl ks ke ws st past v d wv wd nv nd, vs = [.ref b, v, wv, nv] ∧ BookAt K CS CB u M H b ds de pl ks ke ws st past ∧ (∀ p ∈ st.sch, GoodS p.2) ∧ Dp K H v d ∧ ShS d ∧ Dp K H wv wd ∧ Dp K H nv nd ∧ (∀ i, nd = .int i → i.natAbs < 2 ^ 1000) ∧ st.ent.length < 64 ∧ past.length < 1000 ∧
  Post XA K CS CB u M b st past (putDue st d wd nd) H Q E
theorem ok_put (D : MeD K CB "put" "Book.put" s_Book_put []) (F_check_name : Me P w K mg base CB "check_name" 3 (sp_check_name K CS CB XA)) (F_scheme_of : Me P w K mg base CB "scheme_of" 3 (sp_scheme_of K CS CB XA)) (F_is_whole : Fn P w K mg base "is_whole" 1 (sp_is_whole K)) (F_written : Me P w K mg base CB "written" 8 (sp_written K CS CB XA)) (F_enter : Me P w K mg base CB "enter" 2 (sp_enter K CS CB)) : Me P w K mg base CB "put" 9 (sp_put K CS CB XA) := by
  refine D.me sc_Book_put (fun _ _ _ _ _ _ us hl => match us, hl with | [_, _, _, _], _ => rfl) (fun vs H Q E h => ?_) (fun f cdv A outer s H vs Q E hr h => ?_)
  · obtain ⟨_, _, _, _, _, _, _, _, _, _, _, _, _, _, _, _, _, rfl, _⟩ := h
    rfl
  · obtain ⟨u, M, b, ds, de, pl, ks, ke, ws, st, past, v, d, wv, wd, nv, nd, rfl, W, gs, hd, hsh, hw, hn, hnb, hz, hz2, q⟩ := h
    refine ⟨_, (pss_cons (ps_expr (mE F_check_name hr CBk.cl (passes_call (takes_of rfl rfl rfl rfl) (fun _ _ _ _ h => h)) (pv 0) (pa_cons (pv 1) pa_nil))) (pss_cons (ps_expr (mE F_scheme_of hr CBk.cl (passes_call (takes_of rfl rfl rfl rfl) (fun _ _ _ _ h => h)) (pv 0) (pa_cons (pv 2) pa_nil))) (pss_cons (ps_if (pt_not (pt_val (c0 F_is_whole hr (pa_cons (pv 3) pa_nil)))) (pss_one (ps_raise1 XS.x_InvalidNumber hr (takes_of rfl rfl rfl rfl) (pa_cons (pv 3) pa_nil))) pss_nil) (pss_one (ps_expr (mE F_enter hr CBk.cl passL (pv 0) (pa_cons (pv 1) (pa_cons (pv 2) (pa_cons (mE F_written hr CBk.cl (passes_call (takes_of rfl rfl rfl rfl) (fun _ _ _ _ h => h)) (pv 0) (pa_cons (pv 2) (pa_cons (pv 3) pa_nil))) pa_nil))))))))), ?_⟩
    obtain ⟨dx, hb⟩ := W.ins
    unfold putDue at q
    rcases entry_cases st d wd with ⟨c1, e⟩ | ⟨c1, c2, e⟩ | ⟨c1, c2, c3, e⟩ | ⟨c1, c2, e, x, y, sc, rfl, rfl, hsc⟩
    · rw [e] at q
      refine ⟨_, rfl, b, dx, _, rfl, hb, rfl, _, rfl, b, ds, de, pl, ks, ke, st, v, d, rfl, W.toW, hd, hsh, fun _ => q v hd, fun c => ?_, fun c => ?_⟩ <;> (rw [c1] at c; cases c)
    · rw [e] at q
      refine ⟨_, rfl, b, dx, _, rfl, hb, rfl, _, rfl, b, ds, de, pl, ks, ke, st, v, d, rfl, W.toW, hd, hsh, fun c => ?_, fun _ _ => q v hd, fun _ c => ?_⟩
      · rw [c1] at c; cases c
      · rw [c2] at c; cases c
    · rw [e] at q
      refine ⟨_, rfl, b, dx, _, rfl, hb, rfl, _, rfl, b, ds, de, pl, ks, ke, st, v, d, rfl, W.toW, hd, hsh, fun c => ?_, fun _ c => ?_, fun _ _ H1 s1 => ?_⟩
      · rw [c1] at c; cases c
      · rw [c2] at c; cases c
      · refine ⟨_, rfl, b, dx, _, rfl, s1 _ _ hb, rfl, _, rfl, b, ds, de, pl, ks, ke, st, wv, wd, rfl, (W.same s1).toW, (Le.of s1).dp hw, fun s hs => ?_, fun _ => (q wv hw).same s1⟩
        rw [c3] at hs; cases hs
    · rw [e] at q
      refine ⟨_, rfl, b, dx, _, rfl, hb, rfl, _, rfl, b, ds, de, pl, ks, ke, st, v, .str x, rfl, W.toW, hd, hsh, fun c => ?_, fun _ c => ?_, fun _ _ H1 s1 => ?_⟩
      · rw [c1] at c; cases c
      · rw [c2] at c; cases c
      · have W1 := W.same s1
        have hb1 := s1 _ _ hb
        refine ⟨_, rfl, b, dx, _, rfl, hb1, rfl, _, rfl, b, ds, de, pl, ks, ke, st, wv, .str y, rfl, W1.toW, (Le.of s1).dp hw, fun s hs a ha _ => ?_, fun hno => ?_⟩
        · refine ⟨_, rfl, nv, nd, rfl, (Le.of s1).dp hn, _, rfl, ?_⟩
          cases hd
          cases hw
          cases hn with
          | int i =>
            have q : Post XA K CS CB u M b st past (writtenDue st (.str x) (.str y) i) H Q E := q
            rw [written_eq hsc] at q
            have g : GoodS sc := gs _ (look_mem hsc)
            refine ⟨_, rfl, b, dx, _, rfl, hb1, rfl, _, rfl, _, rfl, _, rfl, b, dx, _, rfl, hb1, rfl, _, rfl, _, rfl, M, b, ds, de, pl, ks, ke, st, y, sc, i, rfl, W1.toW, W1.mok, hsc, g, hnb i rfl, fun e0 => ?_, fun row e1 t H2 s2 ht => ?_⟩
            · rw [e0] at q
              exact (q _ (.int i)).same s1
            · rw [e1] at q
              have q : Kept K CS CB u M b H { st with ent := put st.ent x (y, row) } (past ++ [st]) Q := q
              exact ⟨u, M, b, ds, de, pl, ks, ke, ws, st, past, x, y, t, row, rfl, W1.same s2, ht, hz, hz2, (q.same s1).same s2⟩
          | non => exact ⟨_, rfl, mk1_ans ((q _ .non).same s1).at⟩
          | bl c => exact ⟨_, rfl, mk1_ans ((q _ (.bl c)).same s1).at⟩
          | str c => exact ⟨_, rfl, mk1_ans ((q _ (.str c)).same s1).at⟩
          | lst h1 h2 => exact ⟨_, rfl, mk1_ans ((q _ (.lst h1 h2)).same s1).at⟩
          | tup h1 h2 => exact ⟨_, rfl, mk1_ans ((q _ (.tup h1 h2)).same s1).at⟩
        · rw [show lookD st.sch (.str y) = some sc from hsc] at hno
          cases hno
def sp_lay (K : PySem.W.Frag) (CS CB : Addr) (XA : EA) : Sp := fun vs H Q E => ∃ u M b ds de pl ks ke ws st past v d wv wd lv ld, vs = [.ref b, v, wv, lv] ∧ BookAt K CS CB u M H b ds de pl ks ke ws st past ∧ (∀ p ∈ st.sch, GoodS p.2) ∧ Dp K H v d ∧ ShS d ∧ Dp K H wv wd ∧ Dp K (fr M H) lv ld ∧ (∀ ds, ld = .tuple ds → ds.length < sizeLine) ∧ st.ent.length < 64 ∧ past.length < 1000 ∧
  Post XA K CS CB u M b st past (layDue st d wd ld) H Q E
theorem ok_lay (D : MeD K CB "lay" "Book.lay" s_Book_lay []) (F_check_name : Me P w K mg base CB "check_name" 3 (sp_check_name K CS CB XA)) (F_scheme_of : Me P w K mg base CB "scheme_of" 3 (sp_scheme_of K CS CB XA)) (F_Scheme_contains : Spc P w K mg base CS "__contains__" 4 (sp_contains K CS)) (F_enter : Me P w K mg base CB "enter" 2 (sp_enter K CS CB)) : Me P w K mg base CB "lay" 5 (sp_lay K CS CB XA) := by
  refine D.me sc_Book_lay (fun _ _ _ _ _ _ us hl => match us, hl with | [_, _, _, _], _ => rfl) (fun vs H Q E h => ?_) (fun f cdv A outer s H vs Q E hr h => ?_)
  · obtain ⟨_, _, _, _, _, _, _, _, _, _, _, _, _, _, _, _, _, rfl, _⟩ := h
    rfl
  · obtain ⟨u, M, b, ds, de, pl, ks, ke, ws, st, past, v, d, wv, wd, lv, ld, rfl, W, gs, hd, hsh, hw, hl, hlz, hz, hz2, q⟩ := h
    refine ⟨_, (pss_cons (ps_expr (mE F_check_name hr CBk.cl (passes_call (takes_of rfl rfl rfl rfl) (fun _ _ _ _ h => h)) (pv 0) (pa_cons (pv 1) pa_nil))) (pss_cons (ps_if (pt_cmpR (op_ownNotInM F_Scheme_contains hr) (pv 3) (mE F_scheme_of hr CBk.cl (passes_call (takes_of rfl rfl rfl rfl) (fun _ _ _ _ h => h)) (pv 0) (pa_cons (pv 2) pa_nil)) (by rfl)) (pss_one (ps_raise1 XS.x_InvalidRow hr (takes_of rfl rfl rfl rfl) (pa_cons (pv 3) pa_nil))) pss_nil) (pss_one (ps_expr (mE F_enter hr CBk.cl passL (pv 0) (pa_cons (pv 1) (pa_cons (pv 2) (pa_cons (pv 3) pa_nil)))))))), ?_⟩
    obtain ⟨dx, hb⟩ := W.ins
    unfold layDue at q
    rcases entry_cases st d wd with ⟨c1, e⟩ | ⟨c1, c2, e⟩ | ⟨c1, c2, c3, e⟩ | ⟨c1, c2, e, x, y, sc, rfl, rfl, hsc⟩
    · rw [e] at q
      refine ⟨_, rfl, b, dx, _, rfl, hb, rfl, _, rfl, b, ds, de, pl, ks, ke, st, v, d, rfl, W.toW, hd, hsh, fun _ => q v hd, fun c => ?_, fun c => ?_⟩ <;> (rw [c1] at c; cases c)
    · rw [e] at q
      refine ⟨_, rfl, b, dx, _, rfl, hb, rfl, _, rfl, b, ds, de, pl, ks, ke, st, v, d, rfl, W.toW, hd, hsh, fun c => ?_, fun _ _ => q v hd, fun _ c => ?_⟩
      · rw [c1] at c; cases c
      · rw [c2] at c; cases c
    · rw [e] at q
      refine ⟨_, rfl, b, dx, _, rfl, hb, rfl, _, rfl, b, ds, de, pl, ks, ke, st, v, d, rfl, W.toW, hd, hsh, fun c => ?_, fun _ c => ?_, fun _ _ H1 s1 => ?_⟩
      · rw [c1] at c; cases c
      · rw [c2] at c; cases c
      · refine ⟨_, rfl, _, rfl, b, dx, _, rfl, s1 _ _ hb, rfl, _, rfl, b, ds, de, pl, ks, ke, st, wv, wd, rfl, (W.same s1).toW, (Le.of s1).dp hw, fun s hs => ?_, fun _ => (q wv hw).same s1⟩
        rw [c3] at hs; cases hs
    · rw [e] at q
      refine ⟨_, rfl, b, dx, _, rfl, hb, rfl, _, rfl, b, ds, de, pl, ks, ke, st, v, .str x, rfl, W.toW, hd, hsh, fun c => ?_, fun _ c => ?_, fun _ _ H1 s1 => ?_⟩
      · rw [c1] at c; cases c
      · rw [c2] at c; cases c
      · have W1 := W.same s1
        have hb1 := s1 _ _ hb
        have g : GoodS sc := gs _ (look_mem hsc)
        refine ⟨_, rfl, _, rfl, b, dx, _, rfl, hb1, rfl, _, rfl, b, ds, de, pl, ks, ke, st, wv, .str y, rfl, W1.toW, (Le.of s1).dp hw, fun s hs a ha _ => ?_, fun hno => ?_⟩
        · rw [show lookD st.sch (.str y) = some sc from hsc] at hs
          cases hs
          have q : Post XA K CS CB u M b st past (match look st.sch y with
            | some sc => if rowD sc ld = true then .done { st with ent := put st.ent x (y, rowOf ld) } else .no .iRow ld
            | none => .no .unk (.str y)) H Q E := q
          rw [hsc] at q
          obtain ⟨dxa, t1, t2, t3, hins, _⟩ := id ha
          refine ⟨a, dxa, _, rfl, hins, a, lv, sc, ld, rfl, ha, g, (Le.of s1).dp ((fr_le _ _).dp hl), hlz, fun H2 s2 => ⟨_, rfl, _, rfl, ?_⟩⟩
          have s3 := s1.trans s2
          have W2 := W.same s3
          have hb2 := s3 _ _ hb
          by_cases c9 : rowD sc ld = true
          · rw [c9]
            have q : Post XA K CS CB u M b st past (if rowD sc ld = true then .done { st with ent := put st.ent x (y, rowOf ld) } else .no .iRow ld) H Q E := q
            rw [if_pos c9] at q
            obtain ⟨row, rfl⟩ := rowD_row c9
            rw [rowOf_ints] at q
            have q : Kept K CS CB u M b H { st with ent := put st.ent x (y, row) } (past ++ [st]) Q := q
            cases hd
            cases hw
            cases hl with
            | @tup r xs _ hr hxs =>
              have e9 := of_dp_ints hxs
              subst e9
              exact ⟨_, rfl, b, dx, _, rfl, hb2, rfl, _, rfl, _, rfl, _, rfl, u, M, b, ds, de, pl, ks, ke, ws, st, past, x, y, r, row, rfl, W2, (same_le s3).sqT hr, hz, hz2, q.same s3⟩
          · rw [Bool.eq_false_iff.mpr c9]
            have q : Post XA K CS CB u M b st past (if rowD sc ld = true then .done { st with ent := put st.ent x (y, rowOf ld) } else .no .iRow ld) H Q E := q
            rw [if_neg c9] at q
            exact ⟨_, rfl, mk1_ans ((q lv ((fr_le _ _).dp hl)).same s3).at⟩
        · rw [show lookD st.sch (.str y) = some sc from hsc] at hno
          cases hno
def sp_move (K : PySem.W.Frag) (CS CB : Addr) (XA : EA) : Sp := fun vs H Q E => ∃ n u M b ds de pl ks ke ws st past v d wv wd, vs = [.ref b, v, wv] ∧ BookAt K CS CB u M H b ds de pl ks ke ws st past ∧ GoodT n st ∧ n ≤ 100 ∧ Dp K H v d ∧ Dp K H wv wd ∧ st.ent.length < 64 ∧ past.length < 1000 ∧
  Post XA K CS CB u M b st past (moveDue st d wd) H Q E
theorem ok_move (D : MeD K CB "move" "Book.move" s_Book_move []) (F_number_of : Me P w K mg base CB "number_of" 6 (sp_number_of K CS CB XA)) (F_scheme_of : Me P w K mg base CB "scheme_of" 3 (sp_scheme_of K CS CB XA)) (F_written : Me P w K mg base CB "written" 8 (sp_written K CS CB XA)) (F_enter : Me P w K mg base CB "enter" 2 (sp_enter K CS CB)) : Me P w K mg base CB "move" 9 (sp_move K CS CB XA) := by
  refine D.me sc_Book_move (fun _ _ _ _ _ _ us hl => match us, hl with | [_, _, _], _ => rfl) (fun vs H Q E h => ?_) (fun f cdv A outer s H vs Q E hr h => ?_)
  · obtain ⟨_, _, _, _, _, _, _, _, _, _, _, _, _, _, _, _, rfl, _⟩ := h
    rfl
  · obtain ⟨n, u, M, b, ds, de, pl, ks, ke, ws, st, past, v, d, wv, wd, rfl, W, gt, hn, hd, hw, hz, hz2, q⟩ := h
    refine ⟨_, (pss_cons (ps_set (i := 3) sc_Book_move.nd rfl (.inl rfl) (mE F_number_of hr CBk.cl (passes_call (takes_of rfl rfl rfl rfl) (fun _ _ _ _ h => h)) (pv 0) (pa_cons (pv 1) pa_nil))) (pss_cons (ps_expr (mE F_scheme_of hr CBk.cl (passes_call (takes_of rfl rfl rfl rfl) (fun _ _ _ _ h => h)) (pv 0) (pa_cons (pv 2) pa_nil))) (pss_one (ps_expr (mE F_enter hr CBk.cl passL (pv 0) (pa_cons (pv 1) (pa_cons (pv 2) (pa_cons (mE F_written hr CBk.cl (passes_call (takes_of rfl rfl rfl rfl) (fun _ _ _ _ h => h)) (pv 0) (pa_cons (pv 2) (pa_cons (pv 3) pa_nil))) pa_nil)))))))), ?_⟩
    obtain ⟨dx, hb⟩ := W.ins
    unfold moveDue at q
    refine ⟨_, rfl, b, dx, _, rfl, hb, rfl, _, rfl, n, b, ds, de, pl, ks, ke, st, v, d, rfl, W.toW, gt, hd, fun e he H1 s1 => ?_, fun hno => ?_⟩
    · rw [he] at q
      have W1 := W.same s1
      have hb1 := s1 _ _ hb
      refine ⟨_, rfl, b, dx, _, rfl, hb1, rfl, _, rfl, b, ds, de, pl, ks, ke, st, wv, wd, rfl, W1.toW, (Le.of s1).dp hw, fun sc hs a ha _ => ?_, fun hno => ?_⟩
      · rw [hs] at q
        cases hd with
        | str x =>
          cases hw with
          | str y =>
            have q : Post XA K CS CB u M b st past (writtenDue st (.str x) (.str y) (numOf st e)) H Q E := q
            have hsc : look st.sch y = some sc := hs
            rw [written_eq hsc] at q
            have g : GoodS sc := gt.gs _ (look_mem hsc)
            have hnb : (numOf st e).natAbs < 2 ^ 1000 := by
              obtain ⟨s9, h1, h2, h3, h4⟩ := gt.es _ (look_mem (show look st.ent x = some e from he))
              have : numOf st e = val s9.base e.2 := by
                show (match look st.sch e.1 with | some s => val s.base e.2 | none => 0) = _
                rw [h1]
              rw [this]
              exact num_small (by omega) h3
            refine ⟨_, rfl, b, dx, _, rfl, hb1, rfl, _, rfl, _, rfl, _, rfl, b, dx, _, rfl, hb1, rfl, _, rfl, _, rfl, M, b, ds, de, pl, ks, ke, st, y, sc, _, rfl, W1.toW, W1.mok, hsc, g, hnb, fun e0 => ?_, fun row e1 t H2 s2 ht => ?_⟩
            · rw [e0] at q
              exact (q _ (.int _)).same s1
            · rw [e1] at q
              have q : Kept K CS CB u M b H { st with ent := put st.ent x (y, row) } (past ++ [st]) Q := q
              exact ⟨u, M, b, ds, de, pl, ks, ke, ws, st, past, x, y, t, row, rfl, W1.same s2, ht, hz, hz2, (q.same s1).same s2⟩
          | _ => cases hs
        | _ => cases he
      · rw [hno] at q
        exact (q wv hw).same s1
    · rw [hno] at q
      exact q v hd
def sp_deeds (K : PySem.W.Frag) (CS CB : Addr) : Sp := fun vs H Q _ => ∃ u M b ds de pl ks ke ws st past, vs = [.ref b] ∧ BookAt K CS CB u M H b ds de pl ks ke ws st past ∧ Q (.int (past.length : Int)) H
theorem ok_deeds (D : MeD K CB "deeds" "Book.deeds" s_Book_deeds []) : Me P w K mg base CB "deeds" 1 (sp_deeds K CS CB) := by
  refine D.me sc_Book_deeds (fun _ _ _ _ _ _ us hl => match us, hl with | [_], _ => rfl) (fun vs H Q E h => ?_) (fun f cdv A outer s H vs Q E hr h => ?_)
  · obtain ⟨_, _, _, _, _, _, _, _, _, _, _, rfl, _⟩ := h
    rfl
  · obtain ⟨u, M, b, ds, de, pl, ks, ke, ws, st, past, rfl, W, q⟩ := h
    refine ⟨_, (pss_one (ps_ret (pe_callB call_len (by rfl) B.len (by decide +kernel) (pa_cons (pe_fld (pv 0) rfl) pa_nil)))), ?_⟩
    obtain ⟨dx, hb⟩ := W.ins
    rw [← W.old.len] at q
    exact ⟨_, rfl, b, CB, dx, _, _, rfl, hb, CBk.cl, CBk.nP, rfl, _, _, rfl, .inl ⟨_, (fr_le M H).sqL W.lst, rfl⟩, q⟩
def sp_undo (K : PySem.W.Frag) (CS CB : Addr) (XA : EA) : Sp := fun vs H Q E => ∃ u M b ds de pl ks ke ws st past, vs = [.ref b] ∧ BookAt K CS CB u M H b ds de pl ks ke ws st past ∧ past.length < 1000 ∧ (past = [] → E (.ref XA.noth) none H) ∧ (∀ p0 st', past = p0 ++ [st'] → Kept K CS CB u M b H st' p0 Q)
theorem ok_undo (D : MeD K CB "undo" "Book.undo" s_Book_undo []) : Me P w K mg base CB "undo" 3 (sp_undo K CS CB XA) := by
  refine D.me sc_Book_undo (fun _ _ _ _ _ _ us hl => match us, hl with | [_], _ => rfl) (fun vs H Q E h => ?_) (fun f cdv A outer s H vs Q E hr h => ?_)
  · obtain ⟨_, _, _, _, _, _, _, _, _, _, _, rfl, _⟩ := h
    rfl
  · obtain ⟨u, M, b, ds, de, pl, ks, ke, ws, st, past, rfl, W, hz, q0, q1⟩ := h
    refine ⟨_, (pss_cons (ps_if (pt_cmpR op_eq (pe_callB call_len (by rfl) B.len (by decide +kernel) (pa_cons (pe_fld (pv 0) rfl) pa_nil)) pe_int (nomark _)) (pss_one (ps_raise0 XS.x_NothingToUndo hr (takes_of rfl rfl rfl rfl))) pss_nil) (pss_cons (ps_asg (pe_ix ix_list (pe_fld (pv 0) rfl) (pe_un un_neg pe_int) (fun _ _ => rfl)) (pg_tup rfl (pgs_cons (pg_fld (pv 0)) (pgs_cons (pg_fld (pv 0)) pgs_nil)))) (pss_one (ps_fld (pv 0) (pe_slice sl_list (pe_fld (pv 0) rfl) po_none (po_some (pe_un un_neg pe_int))) rfl)))), ?_⟩
    obtain ⟨dx, hb⟩ := W.ins
    have hlen := W.old.len
    have hl := (fr_le M H).sqL W.lst
    refine ⟨_, rfl, b, CB, dx, _, _, rfl, hb, CBk.cl, CBk.nP, rfl, _, ws.length, rfl, .inl ⟨_, hl, rfl⟩, rfl, _, rfl, ?_⟩
    refine ite2 (fun c => ?_) fun c => ?_
    · have h0 : past = [] := by
        have : V.int (ws.length : Int) = V.int 0 := of_decide_eq_true c
        injection this with this
        exact List.eq_nil_of_length_eq_zero (by omega)
      exact q0 h0
    · have h0 : past ≠ [] := fun e => c (by rw [hlen, e]; rfl)
      have ep := List.dropLast_concat_getLast h0
      have Wo := W.old
      rw [← ep] at Wo
      obtain ⟨vs0, vl, e0, hA, t, ds', de', ks', ke', rfl, ht, S'⟩ := Wo.unsnoc
      have q := q1 _ _ ep.symm
      subst e0
      have hne : vs0 ++ [V.ref t] ≠ [] := by simp
      have hat : atI (vs0 ++ [V.ref t]) (-1) = some (.ref t) := by rw [atI_last hne]; simp
      refine ⟨_, rfl, b, CB, dx, _, _, rfl, hb, CBk.cl, CBk.nP, rfl, 1, rfl, pl, _, -1, _, rfl, rfl, hl, hat, t, _, rfl, (fr_le M H).sqT ht, rfl, ?_⟩
      refine ⟨_, _, rfl, _, rfl, b, CB, dx, _, rfl, hb, CBk.cl, CBk.nS, by show 3 < 1000; decide, _, _, rfl, _, rfl, b, CB, dx, _, rfl, upd_same, CBk.cl, CBk.nR, by show 3 < 1000; decide, rfl, ?_⟩
      have e3 : fr M (upd (upd H b (.ins CB dx (putF "own_schemes" (.ref ds') (bfs ds de pl)))) b (.ins CB dx (putF "own_rows" (.ref de') (putF "own_schemes" (.ref ds') (bfs ds de pl))))) = fr M H := by
        rw [fr_updM W.mem, fr_updM W.mem]
      have sb3 : SB [b] H (upd (upd H b (.ins CB dx (putF "own_schemes" (.ref ds') (bfs ds de pl)))) b (.ins CB dx (putF "own_rows" (.ref de') (putF "own_schemes" (.ref ds') (bfs ds de pl))))) := sb_upd.trans sb_upd
      have b3 : (upd (upd H b (.ins CB dx (putF "own_schemes" (.ref ds') (bfs ds de pl)))) b (.ins CB dx (putF "own_rows" (.ref de') (putF "own_schemes" (.ref ds') (bfs ds de pl))))) b = some (.ins CB dx (bfs ds' de' pl)) := upd_same
      have b3' : (upd (upd H b (.ins CB dx (putF "own_schemes" (.ref ds') (bfs ds de pl)))) b (.ins CB dx (putF "own_rows" (.ref de') (putF "own_schemes" (.ref ds') (bfs ds de pl))))) b = some (.ins CB dx (putF "own_rows" (.ref de') (putF "own_schemes" (.ref ds') (bfs ds de pl)))) := upd_same
      refine ⟨_, rfl, b, CB, dx, _, _, rfl, b3', CBk.cl, CBk.nP, rfl, 1, rfl, -1, rfl, pl, _, rfl, (fr_le M _).sqL (e3 ▸ W.lst), fun p np => ?_⟩
      refine ⟨_, rfl, b, CB, dx, _, rfl, by rw [upd_ne (ne_of_none b3' np)]; exact b3', CBk.cl, CBk.nP, by show 3 < 1000; decide, ?_⟩
      rw [cut_last]
      have hm3 : Mok M (upd (upd H b (.ins CB dx (putF "own_schemes" (.ref ds') (bfs ds de pl)))) b (.ins CB dx (putF "own_rows" (.ref de') (putF "own_schemes" (.ref ds') (bfs ds de pl))))) := W.mok.sb sb3 (by
        intro x hx
        rw [List.mem_singleton] at hx
        rw [hx, b3]; simp)
      generalize upd (upd H b (.ins CB dx (putF "own_schemes" (.ref ds') (bfs ds de pl)))) b (.ins CB dx (putF "own_rows" (.ref de') (putF "own_schemes" (.ref ds') (bfs ds de pl)))) = H3 at *
      have l4 : LeS (fr M H) (fr M (upd H3 p (.lst vs0))) := by rw [← e3]; exact same_leS (same_new np)
      refine q _ ds' de' p ks' ke' vs0 ((sb3.trans (sb_same (same_new np) [b])).trans sb_upd) ⟨⟨dx, upd_same⟩, W.mem, ?_, ?_, ?_, ?_⟩
      · intro x hx
        by_cases c : x = b
        · rw [c, upd_same]; simp
        · rw [upd_ne c]; exact (hm3.same (same_new np)) x hx
      · rw [fr_updM W.mem]; exact S'.leS l4
      · rw [fr_updM W.mem]; exact .inl (.inl (upd_fr np hm3))
      · rw [fr_updM W.mem]; exact hA.mono fun _ _ => PastR.leS l4
/-- the book is empty, and so is the other -/
def sp_Book_eq (K : PySem.W.Frag) (CS CB : Addr) : Sp := fun vs H Q _ => ∃ b ds de pl ks ke st b2 dy ds2 de2 pl2, vs = [.ref b, .ref b2] ∧ BkW K CS CB H b ds de pl ks ke st ∧ st.sch = [] ∧ st.ent = [] ∧ H b2 = some (.ins CB dy (bfs ds2 de2 pl2)) ∧ H ds2 = some (.dK []) ∧ H de2 = some (.dK []) ∧ Q (.bl true) H
theorem ok_Book_eq (D : SpD K CB "__eq__" "Book.__eq__" s_Book___eq__) : Spc P w K mg base CB "__eq__" 1 (sp_Book_eq K CS CB) := by
  refine D.spc sc_Book___eq__ (fun _ _ _ _ _ _ us hl => match us, hl with | [_, _], _ => rfl) (fun vs H Q E h => ?_) (fun f cdv A outer s H vs Q E hr h => ?_)
  · obtain ⟨_, _, _, _, _, _, _, _, _, _, _, _, rfl, _⟩ := h
    rfl
  · obtain ⟨b, ds, de, pl, ks, ke, st, b2, dy, ds2, de2, pl2, rfl, W, e1, e2, h2, h3, h4, q⟩ := h
    refine ⟨_, (pss_one (ps_ret (pe_and (pe_callB call_isi (by rfl) B.isinstance (by decide +kernel) (pa_cons (pv 1) (pa_cons (pe_glob (v := .ref CB) rfl CBk.mg rfl) pa_nil))) (pe_and (pe_cmpR (op_eq0 hr) (pe_fld (pv 0) rfl) (pe_fld (pv 1) rfl) (nomark _)) (pe_one (pe_cmpR (op_eq0 hr) (pe_fld (pv 0) rfl) (pe_fld (pv 1) rfl) (nomark _))))))), ?_⟩
    obtain ⟨dx, hb⟩ := W.ins
    have k1 : ks = [] := List.eq_nil_of_length_eq_zero (by rw [W.cur.as.len, e1]; rfl)
    have k2 : ke = [] := List.eq_nil_of_length_eq_zero (by rw [W.cur.ae.len, e2]; rfl)
    subst k1 k2
    refine ⟨_, rfl, _, .ref CB, _, _, _, rfl, .own CB, CBk.ic.ty CBk.cl h2, kit_self, _, rfl, ?_⟩
    refine ⟨_, rfl, b, CB, dx, _, _, rfl, hb, CBk.cl, CBk.nS, rfl, _, rfl, b2, CB, dy, _, _, rfl, h2, CBk.cl, CBk.nS, rfl, ds, ds2, [], rfl, rfl, W.cur.rs.rd, h3, _, rfl, ?_⟩
    exact ⟨_, rfl, b, CB, dx, _, _, rfl, hb, CBk.cl, CBk.nR, rfl, _, rfl, b2, CB, dy, _, _, rfl, h2, CBk.cl, CBk.nR, rfl, de, de2, [], rfl, rfl, W.cur.re.rd, h4, q⟩
end
end K75
set_option maxHeartbeats 1000000
namespace K75
open PySem PySem.Spec PyProof.Rows L2
/-! ### name = {k: v for ..} -/
theorem ps_setDc {X : Cx} {i : Nat} {y : Str} {py : Pos} {kx vx tg iter : Expr} {ifs : List Expr} {scope : Scope} {own : List (Str × Nat)} {pos spos : Pos} {wi : TI} {g : TG} {tt : TT} {tk tv : TE} (hc : X.calm = true) (hN : X.N.Nodup) (hy : X.N[i]? = some y) (hyl : X.env.scope.names.lookup y = some .local)
    (hsw : swapsWith (.DictComp kx vx [⟨tg, iter, ifs, 0⟩] scope pos) (some (.Name y py)) spos.line X.env = pure true) (hi : PI X tg iter wi) (ok : BlkOk X.N X.env.scope scope own)
    (hg : ∀ (s : Shared) (H : Hp) (C : Addr) (cl : List (Str × Addr)) (fp : List Addr), PG (X.blk s H scope (compEnvC scope cl C X.env) fp) tg g) (ht : ∀ (s : Shared) (H : Hp) (C : Addr) (cl : List (Str × Addr)) (fp : List Addr), PTs (X.blk s H scope (compEnvC scope cl C X.env) fp) ifs tt)
    (hk : ∀ (s : Shared) (H : Hp) (C : Addr) (cl : List (Str × Addr)) (fp : List Addr), PE (X.blk s H scope (compEnvC scope cl C X.env) fp) kx tk)
    (he : ∀ (s : Shared) (H : Hp) (C : Addr) (cl : List (Str × Addr)) (fp : List Addr), PE (X.blk s H scope (compEnvC scope cl C X.env) fp) vx tv) (hs : ∀ x, foldedSetIterable iter X.env x = pure x := by intro _; rfl) :
    PS X (.Assign [.Name y py] (.DictComp kx vx [⟨tg, iter, ifs, 0⟩] scope pos) spos) (tAsg (tDc wi g tt tk tv (own.map (·.2))) (gName i)) := by
  refine ⟨fun pins s σ H D I h => ?_⟩
  rw [exec_Assign_Name_used _ _ _ _ hsw]
  refine wpAny_bind (wpAny_standAt (wpAny_bind ?_))
  show wpAny _ X.A (do let _ ← comprehension (.DictComp kx vx [⟨tg, iter, ifs, 0⟩] scope pos) scope X.env (firstIterPos [⟨tg, iter, ifs, 0⟩] pos) newDict false (eval iter X.env) (some (assign (.Name y py) X.env))) _ _ s
  have h : tDc wi g tt tk tv (own.map (·.2)) σ H (fun x H1 => gName i x σ H1 D.nx) := h
  refine wpAny_bind (thn (dc_core (Qf := fun _ s' => SP X pins D .next s') hc hN I hi ok hg ht hk he hs h fun L C s' m H' I' q hn f => ?_) fun _ s' hq => wpAny_pure (wpAny_pure hq))
  show wpAny _ _ (assign (.Name y py) X.env (.ref L)) _ _ _
  refine wpAny_assign_Name (store_ok2 (v := V.ref L) I' hN hy (.inl hyl) rfl (fun s2 I2 ⟨a, sb, ha⟩ => ?_) (.inr hyl))
  obtain ⟨f0, f1, f2, f3, f4, f5⟩ := f
  have haC : C ≠ a := by
    rcases ha with z | z
    · rw [z]; exact f1
    · exact fun e => f4 y a z e.symm
  refine ⟨m, hn.sameBut sb haC, fun h3 sb3 => ?_⟩
  exact ⟨_, H', I2.turned (t' := s2.toks) (fun b o hb e => (sb3.2 b hb).trans e) f0 f1 f3 f4 f5, q⟩
theorem sw_trueD {kx vx : Expr} {gs : List Comprehension} {scope : Scope} {pos py : Pos} {y : Str} {l : Nat} {env : Env} (hk : env.scope.kind = .function) (hy : env.scope.names.lookup y = some .local) (hl : (py.line == pos.line) = true)
    (ha : (scope.names.any fun (n, k) => n == y && (k == .local || k == .cell)) = false) : swapsWith (.DictComp kx vx gs scope pos) (some (.Name y py)) l env = pure true := by
  have ky : env.kindOf y = some .local := hy
  have hb : env.blockKind = .function := by unfold Env.blockKind; rw [hk]; rfl
  unfold swapsWith
  simp only [hb, ky, ha, Expr.pos, hl]
  rfl
end K75
set_option maxHeartbeats 400000
namespace K75
open PySem PySem.Spec PyProof.Rows L2
theorem upd_upd {H : Hp} {a : Addr} {o p : HO} : upd (upd H a o) a p = upd H a p := by
  funext b
  by_cases c : b = a
  · rw [c, upd_same, upd_same]
  · rw [upd_ne c, upd_ne c, upd_ne c]
theorem nodup_inr {l : List Str} (h : l.Nodup) : (l.map (Sum.inr : Str → Key)).Nodup := List.pairwise_map.mpr (h.imp fun hne e => hne (Sum.inr.inj e))
theorem ne_str {a b : Str} : (!decide (V.str a = V.str b)) = decide ((Sum.inr a : Key) ≠ .inr b) := by
  by_cases h : a = b
  · subst h; simp
  · simp [h]
theorem filt_step {kvs : List (Key × V)} {i : Nat} {k : Key} {v : V} {p : Key × V → Bool} (e : kvs[i]? = some (k, v)) : (kvs.take (i + 1)).filter p = (kvs.take i).filter p ++ (if p (k, v) = true then [(k, v)] else []) := by
  rw [take_succ_of e, List.filter_append]
  congr 1
  by_cases c : p (k, v) = true
  · rw [if_pos c, List.filter_cons_of_pos c]; rfl
  · rw [if_neg c, List.filter_cons_of_neg c]; rfl
theorem val_of_get : ∀ {kvs : List (Key × V)} {i : Nat} {k : Key} {v : V}, (kvs.map (·.1)).Nodup → kvs[i]? = some (k, v) → valV kvs k = some v
  | [], _, _, _, _, e => by simp at e
  | p :: r, 0, k, v, _, e => by cases e; exact valV_pos rfl
  | p :: r, i + 1, k, v, n, e => by
    rw [List.map_cons, List.nodup_cons] at n
    rw [List.getElem?_cons_succ] at e
    rw [valV_neg fun h => n.1 (h ▸ List.mem_map.mpr ⟨(k, v), List.mem_of_getElem? e, rfl⟩)]
    exact val_of_get n.2 e
theorem look_of_get {α : Type} : ∀ {l : List (Str × α)} {i : Nat} {x : Str} {y : α}, (l.map (·.1)).Nodup → l[i]? = some (x, y) → look l x = some y
  | [], _, _, _, _, e => by simp at e
  | p :: r, 0, k, v, _, e => by cases e; simp [look]
  | p :: r, i + 1, k, v, n, e => by
    rw [List.map_cons, List.nodup_cons] at n
    rw [List.getElem?_cons_succ] at e
    have h : ¬ p.1 = k := fun h => n.1 (h ▸ List.mem_map.mpr ⟨(k, v), List.mem_of_getElem? e, rfl⟩)
    have := look_of_get n.2 e
    unfold look at this ⊢
    rw [List.find?_cons_of_neg (by simpa using h)]
    exact this
theorem putK_new {kvs : List (Key × V)} {k : Key} {v : V} (h : k ∉ kvs.map (·.1)) : putK kvs k v = kvs ++ [(k, v)] := by
  unfold putK
  rw [if_neg]
  intro c
  obtain ⟨p, hp, e⟩ := List.any_eq_true.mp c
  exact h (List.mem_map.mpr ⟨p, hp, of_decide_eq_true e⟩)
theorem take_get_notin {kvs : List (Key × V)} {i : Nat} {k : Key} {v : V} (n : (kvs.map (·.1)).Nodup) (e : kvs[i]? = some (k, v)) (p : Key × V → Bool) : k ∉ ((kvs.take i).filter p).map (·.1) := by
  intro m
  obtain ⟨q, hq, eq⟩ := List.mem_map.mp m
  have hq2 := (List.mem_filter.mp hq).1
  obtain ⟨j, hj, ej⟩ := List.mem_take_iff_getElem.mp hq2
  have h1 : (kvs.map (·.1))[j]? = some k := by rw [List.getElem?_map, List.getElem?_eq_getElem (by omega), ej]; simp [eq]
  have h2 : (kvs.map (·.1))[i]? = some k := by rw [List.getElem?_map, e]; rfl
  have hi := (List.getElem?_eq_some_iff.mp e).1
  have := (List.getElem?_inj (by rw [List.length_map]; omega) n).mp (h1.trans h2.symm)
  omega
theorem find_first {α : Type} {p : α → Bool} : ∀ {l : List α} {i : Nat} {t : α}, l[i]? = some t → (∀ z ∈ l.take i, p z = false) → p t = true → l.find? p = some t
  | [], _, _, e, _, _ => by simp at e
  | a :: r, 0, t, e, _, h => by cases e; rw [List.find?_cons_of_pos h]
  | a :: r, i + 1, t, e, hz, h => by
    rw [List.take_succ_cons] at hz
    rw [List.find?_cons_of_neg (by rw [hz a List.mem_cons_self]; simp)]
    exact find_first (by simpa using e) (fun z hm => hz z (List.mem_cons_of_mem _ hm)) h
theorem find_no {α : Type} {p : α → Bool} {l : List α} (h : ∀ z ∈ l, p z = false) : l.find? p = none := by
  rw [List.find?_eq_none]
  intro z hz
  rw [h z hz]
  simp
theorem isTerm_is {t : PyData} (h : isTerm t = true) : ∃ (i : Int) (x : Str), t = .tuple [.int i, .str x] ∧ -2 ≤ i ∧ i ≤ 2 ∧ i ≠ 0 := by
  match t, h with
  | .tuple [a, b], h =>
    have h : (isName b && (isIntD a (-2) 2 && nz a)) = true := h
    rw [Bool.and_eq_true, Bool.and_eq_true] at h
    obtain ⟨h1, h2, h3⟩ := h
    cases b with
    | str x =>
      cases a with
      | int i =>
        have h2 : (decide (-2 ≤ i) && decide (i ≤ 2)) = true := h2
        simp only [Bool.and_eq_true, decide_eq_true_eq] at h2
        exact ⟨i, x, rfl, h2.1, h2.2, of_decide_eq_true h3⟩
      | _ => cases h2
    | _ => cases h1
theorem dpAll_mem {K : PySem.W.Frag} {F : Hp} {vs : List V} {ds : List PyData} {i : Nat} {v : V} (h : DpAll K F vs ds) (e : vs[i]? = some v) : ∃ d, ds[i]? = some d ∧ Dp K F v d := by
  have hl := sqL_len h
  have hi := (List.getElem?_eq_some_iff.mp e).1
  have := (dpAll_get h e).2 (by omega)
  exact ⟨_, List.getElem?_eq_getElem (by omega), this⟩
theorem te_none {st : Stt} {td : PyData} (h : termsErr st td = none) : ∃ l, td = .list l ∧ 1 ≤ l.length ∧ l.length ≤ 2 ∧ (∀ t ∈ l, isTerm t = true) ∧ ∀ t ∈ l, (lookD st.ent (termN t)).isNone = false := by
  cases td with
  | list l =>
    have h : (if 1 ≤ l.length ∧ l.length ≤ 2 then te1 st l else some (.iTerms, .list l)) = none := h
    split at h
    · rename_i c
      unfold te1 at h
      cases e1 : l.find? fun t => !isTerm t with
      | some t => rw [e1] at h; cases h
      | none =>
        rw [e1] at h
        have h : te2 st l = none := h
        unfold te2 at h
        cases e2 : l.find? fun t => (lookD st.ent (termN t)).isNone with
        | some t => rw [e2] at h; cases h
        | none =>
          rw [List.find?_eq_none] at e1 e2
          exact ⟨l, rfl, c.1, c.2, fun t ht => by simpa using e1 t ht, fun t ht => Bool.eq_false_iff.mpr (e2 t ht)⟩
    · cases h
  | _ => cases h
theorem termV_bd {st : Stt} {n : Nat} (gt : GoodT n st) {i : Int} {x : Str} {e : Str × List Int} (he : look st.ent x = some e) (h1 : -2 ≤ i) (h2 : i ≤ 2) : termV st (.tuple [.int i, .str x]) = i * numOf st e ∧ (numOf st e).natAbs ≤ 10 ^ 20 * 4 ^ n ∧ (i * numOf st e).natAbs ≤ 2 * (10 ^ 20 * 4 ^ n) := by
  have ev : termV st (.tuple [.int i, .str x]) = i * numOf st e := by
    show (match lookD st.ent (.str x) with | some e => i * numOf st e | none => 0) = _
    rw [show lookD st.ent (.str x) = some e from he]
  have hb : (numOf st e).natAbs ≤ 10 ^ 20 * 4 ^ n := by
    obtain ⟨s9, g1, g2, g3, g4⟩ := gt.es _ (look_mem he)
    have : numOf st e = val s9.base e.2 := by
      show (match look st.sch e.1 with | some s => val s.base e.2 | none => 0) = _
      rw [g1]
    rw [this]
    exact g3
  refine ⟨ev, hb, ?_⟩
  rw [Int.natAbs_mul]
  exact Nat.mul_le_mul (by omega) hb
theorem sum_bd {α : Type} {f : α → Int} {B : Nat} : ∀ (l : List α), (∀ t ∈ l, (f t).natAbs ≤ B) → ((l.map f).sum).natAbs ≤ l.length * B
  | [], _ => by simp
  | a :: l, h => by
    have h1 := h a List.mem_cons_self
    have h2 := sum_bd l fun t ht => h t (List.mem_cons_of_mem _ ht)
    rw [List.map_cons, List.sum_cons, List.length_cons, Nat.add_mul, Nat.one_mul]
    omega
theorem terms_bd {st : Stt} {n : Nat} (gt : GoodT n st) {l : List PyData} (h2 : l.length ≤ 2) (ht : ∀ t ∈ l, isTerm t = true) (hs : ∀ t ∈ l, (lookD st.ent (termN t)).isNone = false) : (termsSum st (.list l)).natAbs ≤ 10 ^ 20 * 4 ^ (n + 1) := by
  have h := sum_bd (f := termV st) (B := 2 * (10 ^ 20 * 4 ^ n)) l fun t hm => by
    obtain ⟨i, x, rfl, b1, b2, _⟩ := isTerm_is (ht t hm)
    have hk : (look st.ent x).isNone = false := hs _ hm
    cases he : look st.ent x with
    | none => rw [he] at hk; cases hk
    | some en =>
      obtain ⟨ev, _, hb⟩ := termV_bd gt he b1 b2
      rw [ev]
      exact hb
  have h3 : l.length * (2 * (10 ^ 20 * 4 ^ n)) ≤ 2 * (2 * (10 ^ 20 * 4 ^ n)) := Nat.mul_le_mul_right _ h2
  have h4 : 10 ^ 20 * 4 ^ (n + 1) = 2 * (2 * (10 ^ 20 * 4 ^ n)) := by rw [Nat.pow_succ]; omega
  rw [h4]
  exact Nat.le_trans h h3
section
variable {P : Program} {w : World} {K : PySem.W.Frag} {mg : Str → Option Value} {base : Heap} (B : Blt mg) (T : Con5 mg) {CS CB : Addr} {XA : EA} (C : SchC K mg CS) (CBk : BkC K mg CB) (XS : Exs P w K mg base XA)
include B T C CBk XS
def sp_drop (K : PySem.W.Frag) (CS CB : Addr) (XA : EA) : Sp := fun vs H Q E => ∃ M b ds de pl ks ke ws st past v d, vs = [.ref b, v] ∧ BookAt K CS CB true M H b ds de pl ks ke ws st past ∧ Dp K H v d ∧ (st.sch.map (·.1)).Nodup ∧ (st.ent.map (·.1)).Nodup ∧ st.sch.length < 64 ∧ st.ent.length < 64 ∧ past.length < 1000 ∧
  Post XA K CS CB true M b st past (dropDue st d) H Q E
theorem ok_drop (D : MeD K CB "drop" "Book.drop" s_Book_drop []) (F_Book_contains : Spc P w K mg base CB "__contains__" 1 (sp_Book_contains K CS CB)) (F_home : Me P w K mg base CB "home" 4 (sp_home K CS CB)) (F_change : Me P w K mg base CB "change" 1 (sp_change K CS CB)) : Me P w K mg base CB "drop" 5 (sp_drop K CS CB XA) := by
  refine D.me sc_Book_drop (fun _ _ _ _ _ _ us hl => match us, hl with | [_, _], _ => rfl) (fun vs H Q E h => ?_) (fun f cdv A outer s H vs Q E hr h => ?_)
  · obtain ⟨_, _, _, _, _, _, _, _, _, _, _, _, rfl, _⟩ := h
    rfl
  · obtain ⟨M, b, ds, de, pl, ks, ke, ws, st, past, v, d, rfl, W, hd, nds, nde, hz1, hz2, hz3, q⟩ := h
    refine ⟨_, (pss_cons (ps_if (pt_cmpR (op_ownNotInM F_Book_contains hr) (pv 1) (pv 0) (by rfl)) (pss_one (ps_raise1 XS.x_UnknownName hr (takes_of rfl rfl rfl rfl) (pa_cons (pv 1) pa_nil))) pss_nil) (pss_cons (ps_if (pt_val (pe_callB (cr_any rfl) (by rfl) B.any (by decide +kernel) (pa_cons (pe_lock (pe_lc rfl sc_Book_drop.nd (own := [("entry", 2)]) (g := gName 2) (tt := tYes) (pi_keys (pe_fld (pv 0) rfl)) (blkOk_by (N := ["self", "name", "entry", "schemes", "other", "entries"]) (sc := defScope s_Book_drop) (by decide +kernel)) (fun _ _ _ _ _ => (pg_name (i := 2) sc_Book_drop.nd rfl (.inl rfl))) (fun _ _ _ _ _ => pts_nil) (fun _ _ _ _ _ => (pe_cmpR op_eq (mE F_home hr CBk.cl passL (pv 0) (pa_cons (pv 2) pa_nil)) (pv 1) (nomark _))))) pa_nil))) (pss_one (ps_raise1 XS.x_InUse hr (takes_of rfl rfl rfl rfl) (pa_cons (pv 1) pa_nil))) pss_nil) (pss_cons (ps_lock (ps_setDc (i := 3) rfl sc_Book_drop.nd rfl rfl (sw_trueD rfl rfl rfl (by decide +kernel)) (own := [("other", 4)]) (g := gName 4) (tt := _) (pi_keys (pe_fld (pv 0) rfl)) (blkOk_by (N := ["self", "name", "entry", "schemes", "other", "entries"]) (sc := defScope s_Book_drop) (by decide +kernel)) (fun _ _ _ _ _ => (pg_name (i := 4) sc_Book_drop.nd rfl (.inl rfl))) (fun _ _ _ _ _ => (pts_one (pt_cmpR op_ne (pv 4) (pv 1) (nomark _)))) (fun _ _ _ _ _ => (pv 4)) (fun _ _ _ _ _ => (pe_dget (hu_of hr) (pe_fldK (K := K) (pv 0) rfl rfl) (pv 4) (fun _ _ => rfl))))) (pss_cons (ps_lock (ps_setDc (i := 5) rfl sc_Book_drop.nd rfl rfl (sw_trueD rfl rfl rfl (by decide +kernel)) (own := [("other", 4)]) (g := gName 4) (tt := _) (pi_keys (pe_fld (pv 0) rfl)) (blkOk_by (N := ["self", "name", "entry", "schemes", "other", "entries"]) (sc := defScope s_Book_drop) (by decide +kernel)) (fun _ _ _ _ _ => (pg_name (i := 4) sc_Book_drop.nd rfl (.inl rfl))) (fun _ _ _ _ _ => (pts_one (pt_cmpR op_ne (pv 4) (pv 1) (nomark _)))) (fun _ _ _ _ _ => (pv 4)) (fun _ _ _ _ _ => (pe_dget (hu_of hr) (pe_fldK (K := K) (pv 0) rfl rfl) (pv 4) (fun _ _ => rfl))))) (pss_one (ps_expr (mE F_change hr CBk.cl passL (pv 0) (pa_cons (pv 3) (pa_cons (pv 5) pa_nil))))))))), ?_⟩
    obtain ⟨dx, hb⟩ := W.ins
    refine ⟨_, rfl, _, rfl, b, dx, _, rfl, hb, b, ds, de, pl, ks, ke, st, v, d, rfl, W.toW, hd, _, rfl, _, rfl, ?_⟩
    show if (!((lookD st.sch d).isSome || (lookD st.ent d).isSome)) = true then _ else _
    refine ite2 (fun c => ?_) fun c => ?_
    · have e : dropDue st d = .no .unk d := by
        cases d with
        | str x =>
          have c : (!((look st.sch x).isSome || (look st.ent x).isSome)) = true := c
          have c2 : ((look st.sch x).isNone && (look st.ent x).isNone) = true := by
            cases h1 : look st.sch x <;> cases h2 : look st.ent x <;> simp [h1, h2] at c ⊢
          show (if _ then _ else _) = _
          rw [if_pos c2]
        | _ => rfl
      rw [e] at q
      exact ⟨_, rfl, mk1_ans (q v hd).at⟩
    · cases hd with
      | str x =>
        have c : ¬ (!((look st.sch x).isSome || (look st.ent x).isSome)) = true := c
        have c2 : ¬ ((look st.sch x).isNone && (look st.ent x).isNone) = true := by
          cases h1 : look st.sch x <;> cases h2 : look st.ent x <;> simp [h1, h2] at c ⊢
        have q : Post XA K CS CB true M b st past (if ((look st.sch x).isNone && (look st.ent x).isNone) = true then .no .unk (.str x) else if st.ent.any (fun p => decide (p.2.1 = x)) = true then .no .inUse (.str x) else .done ⟨dropN st.sch x, dropN st.ent x⟩) H Q E := q
        rw [if_neg c2] at q
        have hde : H de = some (.dK ke) := by
          rcases W.cur.re with h | ⟨h, _⟩
          · exact (fr_some h).1
          · cases h
        have hds : H ds = some (.dK ks) := by
          rcases W.cur.rs with h | ⟨h, _⟩
          · exact (fr_some h).1
          · cases h
        have mde : de ∉ M := by
          rcases W.cur.re with h | ⟨h, _⟩
          · exact (fr_some h).2
          · cases h
        have hke := W.cur.ae.len
        have hks := W.cur.as.len
        have nke : (ke.map (·.1)).Nodup := by rw [W.cur.ae.keys]; exact nodup_inr nde
        have nks : (ks.map (·.1)).Nodup := by rw [W.cur.as.keys]; exact nodup_inr nds
        refine ⟨de, .dK ke, hde, trivial, fun od => ?_⟩
        have WL : BkW K CS CB (upd H de (.frz od (.dK ke))) b ds de pl ks ke st := (W.lock hde).toW
        obtain ⟨dxL, hbL⟩ := WL.ins
        refine ⟨_, rfl, b, CB, dxL, _, _, rfl, hbL, CBk.cl, CBk.nR, rfl, de, od, rfl, .inl ⟨ke, upd_same, fun Dl nD => lc_keys (LcI [] [] Dl (upd H de (.frz od (.dK ke))) (Mapd st.ent fun p => .bl (decide (p.2.1 = x)))) (LcI.start (by intro a h; cases h) (by simp) nD Mapd.zero)
          (fun i H' _ p => p.stp.same _ _ upd_same) (fun i k v H' hkv p => ?_) (fun H' p => ?_)⟩⟩
        · obtain ⟨x9, e9, rfl, hl9, hr9⟩ := (W.cur.ae).get hkv
          have hi : i < ke.length := (List.getElem?_eq_some_iff.mp hkv).1
          have hb9 := p.stp.same _ _ hbL
          refine ⟨rfl, _, rfl, b, dxL, _, rfl, hb9, rfl, _, rfl, b, ds, de, pl, ks, ke, st, x9, e9, rfl, WL.same p.stp.same, look_of_get nde hl9, _, rfl, rfl, ?_⟩
          have eb : decide (V.str e9.1 = V.str x) = decide (e9.1 = x) := by
            by_cases h : e9.1 = x
            · rw [h]; simp
            · simp [h]
          rw [eb]
          exact p.step (by simp) nD (by intro a h; cases h) (.refl (M := []) (by intro a h; cases h) (by simp)) (by rw [sizeLine_eq]; omega) (fun acc _ r => r.yes hl9)
        · obtain ⟨acc, hA, _, r⟩ := p.ex
          rw [hke] at r
          have e := r.all
          subst e
          have sL := p.stp.same
          refine ⟨sL _ _ upd_same, ?_⟩
          have s1 : Same H (upd H' de (.dK ke)) := same_unlock hde sL
          have dne : Dl ≠ de := fun e => by rw [e, upd_same] at nD; cases nD
          refine ⟨Dl, st.ent.map fun p => decide (p.2.1 = x), rfl, .inl (.inl (by rw [upd_ne dne, hA, List.map_map]; rfl)), _, rfl, ?_⟩
          have e0 : (st.ent.map fun p => decide (p.2.1 = x)).any id = st.ent.any fun p => decide (p.2.1 = x) := by rw [List.any_map]; rfl
          rw [e0]
          have W1 := W.same s1
          have hb1 := s1 _ _ hb
          have hde1 := s1 _ _ hde
          have hds1 := s1 _ _ hds
          generalize upd H' de (.dK ke) = H1 at *
          refine ite2 (fun c3 => ?_) fun c3 => ?_
          · rw [if_pos c3] at q
            exact ⟨_, rfl, mk1_ans ((q _ (.str x)).same s1).at⟩
          · rw [if_neg c3] at q
            have q : Kept K CS CB true M b H ⟨dropN st.sch x, dropN st.ent x⟩ (past ++ [st]) Q := q
            refine ⟨ds, .dK ks, hds1, trivial, fun od2 => ?_⟩
            have hbx : (upd H1 ds (.frz od2 (.dK ks))) b = some (.ins CB dx (bfs ds de pl)) := by rw [upd_ne (fun e => by rw [e] at hb1; rw [hds1] at hb1; cases hb1)]; exact hb1
            refine ⟨_, rfl, b, CB, dx, _, _, rfl, hbx, CBk.cl, CBk.nS, rfl, ds, od2, rfl, .inl ⟨ks, upd_same, fun D2 n2 => dc_keys (fun i H' => H' = upd (upd H1 ds (.frz od2 (.dK ks))) D2 (.dK ((ks.take i).filter fun kv => decide (kv.1 ≠ .inr x)))) rfl
              (fun i H' _ p => by rw [p, upd_ne (fun e => by rw [← e, upd_same] at n2; cases n2)]; exact upd_same) (fun i k v H' hkv p => ?_) (fun H' p => ?_)⟩⟩
            · subst p
              obtain ⟨x9, e9, rfl, hl9, hr9⟩ := (W.cur.as).get hkv
              have hi : i < ks.length := (List.getElem?_eq_some_iff.mp hkv).1
              have dn : ds ≠ D2 := fun e => by rw [← e, upd_same] at n2; cases n2
              refine ⟨rfl, _, rfl, _, rfl, rfl, _, rfl, ?_⟩
              rw [show (!decide (kV (Sum.inr x9) = V.str x)) = decide ((Sum.inr x9 : Key) ≠ .inr x) from ne_str]
              have fs := filt_step (p := fun kv => decide (kv.1 ≠ .inr x)) hkv
              have hlen : ((ks.take i).filter fun kv => decide (kv.1 ≠ .inr x)).length ≤ i := Nat.le_trans (List.length_filter_le _ _) (by rw [List.length_take]; omega)
              refine ite2 (fun c4 => ?_) fun c4 => ?_
              · refine ⟨_, rfl, _, rfl, b, CB, dx, _, _, rfl, by rw [upd_ne (ne_of_none hbx n2)]; exact hbx, CBk.cl, CBk.nS, rfl, _, rfl, ds, v, rfl, .inl ⟨ks, .inr x9, .inr ⟨od2, by rw [upd_ne dn]; exact upd_same⟩, rfl, (val_of_get nks hkv).symm⟩, _, .inr x9, rfl, upd_same, by rw [sizeLine_eq]; omega, ?_⟩
                rw [upd_upd, putK_new (take_get_notin nks hkv _), fs]
                have c4 : decide (((Sum.inr x9 : Key), v).1 ≠ .inr x) = true := c4
                rw [if_pos c4]
              · rw [fs]
                have c4 : ¬ decide (((Sum.inr x9 : Key), v).1 ≠ .inr x) = true := c4
                rw [if_neg c4, List.append_nil]
            · subst p
              rw [List.take_length]
              have dn : ds ≠ D2 := fun e => by rw [← e, upd_same] at n2; cases n2
              refine ⟨by rw [upd_ne dn]; exact upd_same, ?_⟩
              have s2 : Same H1 (upd (upd (upd H1 ds (.frz od2 (.dK ks))) D2 (.dK (ks.filter fun kv => decide (kv.1 ≠ .inr x)))) ds (.dK ks)) := same_unlock hds1 (same_new n2)
              have hb2 := s2 _ _ hb1
              have hde2 := s2 _ _ hde1
              have hD2 : (upd (upd (upd H1 ds (.frz od2 (.dK ks))) D2 (.dK (ks.filter fun kv => decide (kv.1 ≠ .inr x)))) ds (.dK ks)) D2 = some (.dK (dropK ks (.inr x))) := by rw [upd_ne dn.symm]; exact upd_same
              have n2' : H1 D2 = none := by rw [upd_ne dn.symm] at n2; exact n2
              generalize upd (upd (upd H1 ds (.frz od2 (.dK ks))) D2 (.dK (ks.filter fun kv => decide (kv.1 ≠ .inr x)))) ds (.dK ks) = H2 at *
              refine ⟨de, .dK ke, hde2, trivial, fun od3 => ?_⟩
              have hbx : (upd H2 de (.frz od3 (.dK ke))) b = some (.ins CB dx (bfs ds de pl)) := by rw [upd_ne (fun e => by rw [e] at hb2; rw [hde2] at hb2; cases hb2)]; exact hb2
              refine ⟨_, rfl, b, CB, dx, _, _, rfl, hbx, CBk.cl, CBk.nR, rfl, de, od3, rfl, .inl ⟨ke, upd_same, fun D3 n3 => dc_keys (fun i H' => H' = upd (upd H2 de (.frz od3 (.dK ke))) D3 (.dK ((ke.take i).filter fun kv => decide (kv.1 ≠ .inr x)))) rfl
                (fun i H' _ p => by rw [p, upd_ne (fun e => by rw [← e, upd_same] at n3; cases n3)]; exact upd_same) (fun i k v H' hkv p => ?_) (fun H' p => ?_)⟩⟩
              · subst p
                obtain ⟨x9, e9, rfl, hl9, hr9⟩ := (W.cur.ae).get hkv
                have hi : i < ke.length := (List.getElem?_eq_some_iff.mp hkv).1
                have dn : de ≠ D3 := fun e => by rw [← e, upd_same] at n3; cases n3
                refine ⟨rfl, _, rfl, _, rfl, rfl, _, rfl, ?_⟩
                rw [show (!decide (kV (Sum.inr x9) = V.str x)) = decide ((Sum.inr x9 : Key) ≠ .inr x) from ne_str]
                have fs := filt_step (p := fun kv => decide (kv.1 ≠ .inr x)) hkv
                have hlen : ((ke.take i).filter fun kv => decide (kv.1 ≠ .inr x)).length ≤ i := Nat.le_trans (List.length_filter_le _ _) (by rw [List.length_take]; omega)
                refine ite2 (fun c4 => ?_) fun c4 => ?_
                · refine ⟨_, rfl, _, rfl, b, CB, dx, _, _, rfl, by rw [upd_ne (ne_of_none hbx n3)]; exact hbx, CBk.cl, CBk.nR, rfl, _, rfl, de, v, rfl, .inl ⟨ke, .inr x9, .inr ⟨od3, by rw [upd_ne dn]; exact upd_same⟩, rfl, (val_of_get nke hkv).symm⟩, _, .inr x9, rfl, upd_same, by rw [sizeLine_eq]; omega, ?_⟩
                  rw [upd_upd, putK_new (take_get_notin nke hkv _), fs]
                  have c4 : decide (((Sum.inr x9 : Key), v).1 ≠ .inr x) = true := c4
                  rw [if_pos c4]
                · rw [fs]
                  have c4 : ¬ decide (((Sum.inr x9 : Key), v).1 ≠ .inr x) = true := c4
                  rw [if_neg c4, List.append_nil]
              · subst p
                rw [List.take_length]
                have dn : de ≠ D3 := fun e => by rw [← e, upd_same] at n3; cases n3
                refine ⟨by rw [upd_ne dn]; exact upd_same, ?_⟩
                have s3 : Same H2 (upd (upd (upd H2 de (.frz od3 (.dK ke))) D3 (.dK (ke.filter fun kv => decide (kv.1 ≠ .inr x)))) de (.dK ke)) := same_unlock hde2 (same_new n3)
                have hD3 : (upd (upd (upd H2 de (.frz od3 (.dK ke))) D3 (.dK (ke.filter fun kv => decide (kv.1 ≠ .inr x)))) de (.dK ke)) D3 = some (.dK (dropK ke (.inr x))) := by rw [upd_ne dn.symm]; exact upd_same
                have n3' : H2 D3 = none := by rw [upd_ne dn.symm] at n3; exact n3
                generalize upd (upd (upd H2 de (.frz od3 (.dK ke))) D3 (.dK (ke.filter fun kv => decide (kv.1 ≠ .inr x)))) de (.dK ke) = H3 at *
                have W3 := (W1.same s2).same s3
                refine ⟨_, rfl, b, dx, _, rfl, s3 _ _ hb2, rfl, _, rfl, _, rfl, true, M, b, ds, de, pl, ks, ke, ws, st, past, D2, D3, _, _, ⟨dropN st.sch x, dropN st.ent x⟩, rfl, W3, ⟨.inl (fr_of (s3 _ _ hD2) (W1.mok.new n2')), .inl (fr_of hD3 ((W1.mok.same s2).new n3')), W3.cur.as.drop x, W3.cur.ae.drop x⟩, hz3, ((q.same s1).same s2).same s3⟩
      | _ => exact absurd rfl c
def sp_checked_terms (K : PySem.W.Frag) (CS CB : Addr) (XA : EA) : Sp := fun vs H Q E => ∃ H0 b ds de pl ks ke st tv td, vs = [.ref b, tv] ∧ Same H0 H ∧ BkW K CS CB H b ds de pl ks ke st ∧ Dp K H0 tv td ∧ (∀ l, td ≠ .tuple l) ∧ (∀ l, td = .list l → ∀ t ∈ l, ∀ ds, t = .tuple ds → ∀ x ∈ ds, ShS x) ∧
  (∀ e, termsErr st td = some e → ∀ v, Dp K H0 v e.2 → Rse (XA.at e.1) (fldE e.1) v H E) ∧ (termsErr st td = none → ∀ H', Same H H' → Q tv H')
theorem ok_checked_terms (D : MeD K CB "checked_terms" "Book.checked_terms" s_Book_checked_terms []) (F_is_list : Fn P w K mg base "is_list" 1 (sp_is_list K)) (F_is_named_term : Fn P w K mg base "is_named_term" 2 (sp_is_named_term K)) (F_entry_of : Me P w K mg base CB "entry_of" 3 (sp_entry_of K CS CB XA)) : Me P w K mg base CB "checked_terms" 4 (sp_checked_terms K CS CB XA) := by
  refine D.me sc_Book_checked_terms (fun _ _ _ _ _ _ us hl => match us, hl with | [_, _], _ => rfl) (fun vs H Q E h => ?_) (fun f cdv A outer s H vs Q E hr h => ?_)
  · obtain ⟨_, _, _, _, _, _, _, _, _, _, rfl, _⟩ := h
    rfl
  · obtain ⟨H0, b, ds, de, pl, ks, ke, st, tv, td, rfl, s0, W, hd, hnt, hsh, qe, q⟩ := h
    refine ⟨_, (pss_cons (ps_if (PW.pt (pw_or (pt_not (pt_val (c0 F_is_list hr (pa_cons (pv 1) pa_nil)))) (pw_or1 (pt_not (pt_chain op_le op_le pe_int (pe_callB call_len (by rfl) B.len (by decide +kernel) (pa_cons (pv 1) pa_nil)) pe_int))))) (pss_one (ps_raise1 XS.x_InvalidTerms hr (takes_of rfl rfl rfl rfl) (pa_cons (pv 1) pa_nil))) pss_nil) (pss_cons (ps_for (passes_of rfl) rfl (pi_list (pv 1)) (pg_name (i := 2) sc_Book_checked_terms.nd rfl (.inl rfl)) (pss_one (ps_if (pt_not (pt_val (c0 F_is_named_term hr (pa_cons (pv 2) pa_nil)))) (pss_one (ps_raise1 XS.x_InvalidTerm hr (takes_of rfl rfl rfl rfl) (pa_cons (pv 2) pa_nil))) pss_nil))) (pss_cons (ps_for (passes_of rfl) rfl (pi_list (pv 1)) (pg_tup rfl (pgs_cons (pg_name (i := 3) sc_Book_checked_terms.nd rfl (.inl rfl)) (pgs_cons (pg_name (i := 4) sc_Book_checked_terms.nd rfl (.inl rfl)) pgs_nil))) (pss_one (ps_expr (mE F_entry_of hr CBk.cl (passes_call (takes_of rfl rfl rfl rfl) (fun _ _ _ _ h => h)) (pv 0) (pa_cons (pv 4) pa_nil))))) (pss_one (ps_ret (pv 1)))))), ?_⟩
    obtain ⟨dx, hb⟩ := W.ins
    refine ⟨_, rfl, tv, td, rfl, (Le.of s0).dp hd, fun H1 s1 => ⟨_, rfl, ?_⟩⟩
    cases hd with
    | @lst a xs l hl hxs =>
      have hlen := sqL_len hxs
      have hl1 := (Le.of (s0.trans s1)).sqL hl
      refine ⟨_, rfl, _, xs.length, rfl, .inl ⟨_, hl1, rfl⟩, _, _, rfl, rfl, _, rfl, ?_⟩
      have bad : ¬ (1 ≤ l.length ∧ l.length ≤ 2) → Rse XA.iTerms "value" (.ref a) H E := fun c => qe (.iTerms, .list l) (by
        show (if 1 ≤ l.length ∧ l.length ≤ 2 then _ else _) = _
        rw [if_neg c]) (.ref a) (.lst hl hxs)
      refine ite2 (fun c1 => ?_) fun c1 => ?_
      · have c1 : (1 : Int) ≤ (xs.length : Int) := of_decide_eq_true c1
        refine ⟨_, _, rfl, rfl, _, rfl, ?_⟩
        by_cases c2 : (xs.length : Int) ≤ 2
        · rw [decide_eq_true c2]
          have hl2 : 1 ≤ l.length ∧ l.length ≤ 2 := by omega
          have te : termsErr st (.list l) = te1 st l := by
            show (if 1 ≤ l.length ∧ l.length ≤ 2 then _ else _) = _
            rw [if_pos hl2]
          refine ⟨_, rfl, a, rfl, ⟨_, hl1⟩, for_list (xs := xs) (fun i σ H' => (∃ y, σ = [some (.ref b), some (.ref a), y, none, none]) ∧ Same H H' ∧ ∀ t ∈ l.take i, (!isTerm t) = false) ⟨⟨_, rfl⟩, s1, by simp⟩ (fun i σ H' _ p => (Le.of (s0.trans p.2.1)).sqL hl) (fun i x σ H' hx p => ?_) (fun σ H' p => ?_)⟩
          · obtain ⟨⟨y, rfl⟩, s2, hall⟩ := p
            obtain ⟨t, e1, ht⟩ := dpAll_mem hxs hx
            refine ⟨_, rfl, x, t, rfl, (Le.of (s0.trans s2)).dp ht, hsh l rfl t (List.mem_of_getElem? e1), fun H3 s3 => ⟨_, rfl, ?_⟩⟩
            refine ite2 (fun c3 => ?_) fun c3 => ?_
            · have := qe (.iTerm, t) (by rw [te]; unfold te1; rw [find_first e1 hall c3]; rfl) x ht
              exact ⟨_, rfl, mk1_ans ((this.same s2).same s3).at⟩
            · refine ⟨⟨_, rfl⟩, s2.trans s3, fun z hz => ?_⟩
              rw [take_succ_of e1] at hz
              rcases List.mem_append.mp hz with hz | hz
              · exact hall z hz
              · rw [List.mem_singleton] at hz
                rw [hz]
                simpa using c3
          · obtain ⟨⟨y, rfl⟩, s2, hall⟩ := p
            rw [hlen, List.take_length] at hall
            have te : termsErr st (.list l) = te2 st l := by
              rw [te]
              unfold te1
              rw [find_no hall]
              rfl
            refine ⟨_, rfl, a, rfl, ⟨_, (Le.of (s0.trans s2)).sqL hl⟩, for_list (xs := xs) (fun i σ H' => (∃ y z1 z2, σ = [some (.ref b), some (.ref a), y, z1, z2]) ∧ Same H H' ∧ ∀ t ∈ l.take i, (lookD st.ent (termN t)).isNone = false) ⟨⟨_, _, _, rfl⟩, s2, by simp⟩ (fun i σ H' _ p => (Le.of (s0.trans p.2.1)).sqL hl) (fun i x σ H' hx p => ?_) (fun σ H' p => ?_)⟩
            · obtain ⟨⟨y, z1, z2, rfl⟩, s2, hall2⟩ := p
              obtain ⟨t, e1, ht⟩ := dpAll_mem hxs hx
              obtain ⟨i9, x9, rfl, _⟩ := isTerm_is (by simpa using hall t (List.mem_of_getElem? e1))
              cases ht with
              | @tup ta ts _ hta hts =>
                cases hts with
                | cons h0 hr2 => cases hr2 with
                  | cons h1 hr3 =>
                    cases hr3
                    cases h0
                    cases h1
                    have hb2 := s2 _ _ hb
                    refine ⟨ta, _, rfl, (Le.of (s0.trans s2)).sqT hta, rfl, _, _, rfl, _, _, rfl, rfl, _, rfl, b, dx, _, rfl, hb2, rfl, _, rfl, b, ds, de, pl, ks, ke, st, .str x9, .str x9, rfl, W.same s2, .str x9, fun s9 hs9 y9 hy9 => ?_, fun hno => ?_⟩
                    · refine ⟨⟨_, _, _, rfl⟩, s2, fun z hz => ?_⟩
                      rw [take_succ_of e1] at hz
                      rcases List.mem_append.mp hz with hz | hz
                      · exact hall2 z hz
                      · rw [List.mem_singleton] at hz
                        rw [hz]
                        show (lookD st.ent (.str x9)).isNone = false
                        rw [hs9]
                        rfl
                    · have := qe (.unk, .str x9) (by
                        rw [te]
                        unfold te2
                        rw [find_first e1 hall2 (by show (lookD st.ent (.str x9)).isNone = true; rw [hno]; rfl)]
                        rfl) (.str x9) (.str x9)
                      exact this.same s2
            · obtain ⟨⟨y, z1, z2, rfl⟩, s2, hall2⟩ := p
              rw [hlen, List.take_length] at hall2
              exact ⟨_, rfl, q (by rw [te]; unfold te2; rw [find_no hall2]; rfl) H' s2⟩
        · rw [decide_eq_false c2]
          exact ⟨_, rfl, mk1_ans ((bad (by omega)).same s1).at⟩
      · have c1 : ¬ (1 : Int) ≤ (xs.length : Int) := fun h => c1 (decide_eq_true h)
        exact ⟨_, rfl, _, rfl, mk1_ans ((bad (by omega)).same s1).at⟩
    | tup h1 h2 => exact absurd rfl (hnt _)
    | non => exact ⟨_, rfl, mk1_ans ((qe _ rfl _ .non).same s1).at⟩
    | bl c => exact ⟨_, rfl, mk1_ans ((qe _ rfl _ (.bl c)).same s1).at⟩
    | int c => exact ⟨_, rfl, mk1_ans ((qe _ rfl _ (.int c)).same s1).at⟩
    | str c => exact ⟨_, rfl, mk1_ans ((qe _ rfl _ (.str c)).same s1).at⟩
def sp_reckon (K : PySem.W.Frag) (CS CB : Addr) (XA : EA) : Sp := fun vs H Q E => ∃ n u M b ds de pl ks ke ws st past v d wv wd tv td, vs = [.ref b, v, wv, tv] ∧ BookAt K CS CB u M H b ds de pl ks ke ws st past ∧ GoodT n st ∧ n ≤ 100 ∧ Dp K H v d ∧ ShS d ∧ Dp K H wv wd ∧ Dp K H tv td ∧ (∀ l, td ≠ .tuple l) ∧ (∀ l, td = .list l → ∀ t ∈ l, ∀ ds, t = .tuple ds → ∀ x ∈ ds, ShS x) ∧ st.ent.length < 64 ∧ past.length < 1000 ∧
  Post XA K CS CB u M b st past (reckonDue st d wd td) H Q E
theorem ok_reckon (D : MeD K CB "reckon" "Book.reckon" s_Book_reckon []) (F_check_name : Me P w K mg base CB "check_name" 3 (sp_check_name K CS CB XA)) (F_scheme_of : Me P w K mg base CB "scheme_of" 3 (sp_scheme_of K CS CB XA)) (F_checked_terms : Me P w K mg base CB "checked_terms" 4 (sp_checked_terms K CS CB XA)) (F_number_of : Me P w K mg base CB "number_of" 6 (sp_number_of K CS CB XA)) (F_written : Me P w K mg base CB "written" 8 (sp_written K CS CB XA)) (F_enter : Me P w K mg base CB "enter" 2 (sp_enter K CS CB)) : Me P w K mg base CB "reckon" 9 (sp_reckon K CS CB XA) := by
  refine D.me sc_Book_reckon (fun _ _ _ _ _ _ us hl => match us, hl with | [_, _, _, _], _ => rfl) (fun vs H Q E h => ?_) (fun f cdv A outer s H vs Q E hr h => ?_)
  · obtain ⟨_, _, _, _, _, _, _, _, _, _, _, _, _, _, _, _, _, _, rfl, _⟩ := h
    rfl
  · obtain ⟨n, u, M, b, ds, de, pl, ks, ke, ws, st, past, v, d, wv, wd, tv, td, rfl, W, gt, hn, hd, hsh, hw, ht, hnt, hst, hz, hz2, q⟩ := h
    refine ⟨_, (pss_cons (ps_expr (mE F_check_name hr CBk.cl (passes_call (takes_of rfl rfl rfl rfl) (fun _ _ _ _ h => h)) (pv 0) (pa_cons (pv 1) pa_nil))) (pss_cons (ps_expr (mE F_scheme_of hr CBk.cl (passes_call (takes_of rfl rfl rfl rfl) (fun _ _ _ _ h => h)) (pv 0) (pa_cons (pv 2) pa_nil))) (pss_cons (ps_set (i := 4) sc_Book_reckon.nd rfl (.inl rfl) (pe_callB (cr_sum rfl) (by rfl) B.sum (by decide +kernel) (pa_cons (pe_lc rfl sc_Book_reckon.nd (own := [("factor", 5), ("entry", 6)]) (g := gTup K 2 (gCons (gName 5) (gCons (gName 6) (gNil)))) (tt := tYes) (pi_list (mE F_checked_terms hr CBk.cl (passes_call (takes_of rfl rfl rfl rfl) (fun _ _ _ _ h => h)) (pv 0) (pa_cons (pv 3) pa_nil))) (blkOk_by (N := ["self", "name", "where", "terms", "total", "factor", "entry"]) (sc := defScope s_Book_reckon) (by decide +kernel)) (fun _ _ _ _ _ => (pg_tup rfl (pgs_cons (pg_name (i := 5) sc_Book_reckon.nd rfl (.inl rfl)) (pgs_cons (pg_name (i := 6) sc_Book_reckon.nd rfl (.inl rfl)) pgs_nil)))) (fun _ _ _ _ _ => pts_nil) (fun _ _ _ _ _ => (pe_op op_mulW (pv 5) (mE F_number_of hr CBk.cl passL (pv 0) (pa_cons (pv 6) pa_nil))))) pa_nil))) (pss_one (ps_expr (mE F_enter hr CBk.cl passL (pv 0) (pa_cons (pv 1) (pa_cons (pv 2) (pa_cons (mE F_written hr CBk.cl (passes_call (takes_of rfl rfl rfl rfl) (fun _ _ _ _ h => h)) (pv 0) (pa_cons (pv 2) (pa_cons (pv 4) pa_nil))) pa_nil))))))))), ?_⟩
    obtain ⟨dx, hb⟩ := W.ins
    unfold reckonDue at q
    rcases entry_cases st d wd with ⟨c1, e⟩ | ⟨c1, c2, e⟩ | ⟨c1, c2, c3, e⟩ | ⟨c1, c2, e, x, y, sc, rfl, rfl, hsc⟩
    · rw [e] at q
      refine ⟨_, rfl, b, dx, _, rfl, hb, rfl, _, rfl, b, ds, de, pl, ks, ke, st, v, d, rfl, W.toW, hd, hsh, fun _ => q v hd, fun c => ?_, fun c => ?_⟩ <;> (rw [c1] at c; cases c)
    · rw [e] at q
      refine ⟨_, rfl, b, dx, _, rfl, hb, rfl, _, rfl, b, ds, de, pl, ks, ke, st, v, d, rfl, W.toW, hd, hsh, fun c => ?_, fun _ _ => q v hd, fun _ c => ?_⟩
      · rw [c1] at c; cases c
      · rw [c2] at c; cases c
    · rw [e] at q
      refine ⟨_, rfl, b, dx, _, rfl, hb, rfl, _, rfl, b, ds, de, pl, ks, ke, st, v, d, rfl, W.toW, hd, hsh, fun c => ?_, fun _ c => ?_, fun _ _ H1 s1 => ?_⟩
      · rw [c1] at c; cases c
      · rw [c2] at c; cases c
      · refine ⟨_, rfl, b, dx, _, rfl, s1 _ _ hb, rfl, _, rfl, b, ds, de, pl, ks, ke, st, wv, wd, rfl, (W.same s1).toW, (Le.of s1).dp hw, fun s hs => ?_, fun _ => (q wv hw).same s1⟩
        rw [c3] at hs; cases hs
    · rw [e] at q
      refine ⟨_, rfl, b, dx, _, rfl, hb, rfl, _, rfl, b, ds, de, pl, ks, ke, st, v, .str x, rfl, W.toW, hd, hsh, fun c => ?_, fun _ c => ?_, fun _ _ H1 s1 => ?_⟩
      · rw [c1] at c; cases c
      · rw [c2] at c; cases c
      · have W1 := W.same s1
        have hb1 := s1 _ _ hb
        have g : GoodS sc := gt.gs _ (look_mem hsc)
        cases hd
        cases hw
        refine ⟨_, rfl, b, dx, _, rfl, hb1, rfl, _, rfl, b, ds, de, pl, ks, ke, st, .str y, .str y, rfl, W1.toW, .str y, fun s hs a ha _ => ?_, fun hno => ?_⟩
        · refine ⟨_, rfl, b, dx, _, rfl, hb1, rfl, _, rfl, H, b, ds, de, pl, ks, ke, st, tv, td, rfl, s1, W1.toW, ht, hnt, hst, fun e9 he9 v9 hv9 => ?_, fun hte H2 s2 => ?_⟩
          · rw [he9] at q
            exact Rse.same (q v9 hv9) s1
          · rw [hte] at q
            have q : Post XA K CS CB u M b st past (writtenDue st (.str x) (.str y) (termsSum st td)) H Q E := q
            rw [written_eq hsc] at q
            obtain ⟨l, rfl, hl1, hl2, hterm, hent⟩ := te_none hte
            have s12 := s1.trans s2
            have W2 := W.same s12
            cases ht with
            | @lst ta xs _ hta hxs =>
              have hlen := sqL_len hxs
              refine ⟨ta, rfl, ⟨_, (Le.of s12).sqL hta⟩, fun Dl nD => lc_list (xs := xs) (LcI [] [] Dl H2 (Mapd l fun t => .int (termV st t))) (LcI.start (by intro a h; cases h) (by simp) nD Mapd.zero) (fun i H' _ p => (Le.of (s12.trans p.stp.same)).sqL hta) (fun i z H3 hz3 p => ?_) (fun H3 p => ?_)⟩
              · obtain ⟨t, e1, ht1⟩ := dpAll_mem hxs hz3
                have hi := (List.getElem?_eq_some_iff.mp hz3).1
                obtain ⟨i9, x9, rfl, b1, b2, _⟩ := isTerm_is (hterm t (List.mem_of_getElem? e1))
                have hk := hent _ (List.mem_of_getElem? e1)
                have hk : (look st.ent x9).isNone = false := hk
                obtain ⟨en, hen⟩ : ∃ en, look st.ent x9 = some en := by
                  cases h : look st.ent x9 with
                  | none => rw [h] at hk; cases hk
                  | some en => exact ⟨en, rfl⟩
                obtain ⟨ev, hb1', hb2'⟩ := termV_bd gt hen b1 b2
                have s13 := s12.trans p.stp.same
                cases ht1 with
                | @tup tt ts _ htt hts =>
                  cases hts with
                  | cons h0 hr2 => cases hr2 with
                    | cons h1 hr3 =>
                      cases hr3
                      cases h0
                      cases h1
                      refine ⟨tt, _, rfl, (Le.of s13).sqT htt, rfl, _, _, rfl, _, _, rfl, rfl, rfl, _, rfl, _, rfl, b, dx, _, rfl, s13 _ _ hb, rfl, _, rfl, n, b, ds, de, pl, ks, ke, st, .str x9, .str x9, rfl, W.toW.same s13, gt, .str x9, fun e' he' H4 s4 => ?_, fun hno => ?_⟩
                      · rw [show lookD st.ent (.str x9) = some en from hen] at he'
                        cases he'
                        refine ⟨_, _, rfl, rfl, ?_, ?_⟩
                        · exact wide_mul (a := 3) (b := 1000) (by omega) (num_small (by omega) hb1') (by omega) (by omega) (by omega)
                        · exact p.step (by simp) nD (by intro a h; cases h) (.nil s4) (by rw [sizeLine_eq]; omega) (fun acc _ r => by
                            have := r.yes (x := .tuple [.int i9, .str x9]) e1 (G := fr [Dl] H4)
                            rw [ev] at this
                            exact this)
                      · rw [show lookD st.ent (.str x9) = some en from hen] at hno
                        cases hno
              · obtain ⟨acc, hA, _, r⟩ := p.ex
                rw [hlen] at r
                have e2 := r.all
                subst e2
                have s13 := s12.trans p.stp.same
                have W3 := W.same s13
                have hb3 := s13 _ _ hb
                have hnb : (termsSum st (.list l)).natAbs < 2 ^ 1000 := by
                  exact num_small (by omega) (terms_bd gt hl2 hterm hent)
                refine ⟨Dl, l.map (termV st), rfl, .inl (.inl (by rw [hA, List.map_map]; rfl)), ?_⟩
                refine ⟨_, rfl, b, dx, _, rfl, hb3, rfl, _, rfl, _, rfl, _, rfl, b, dx, _, rfl, hb3, rfl, _, rfl, _, rfl, M, b, ds, de, pl, ks, ke, st, y, sc, _, rfl, W3.toW, W3.mok, hsc, g, hnb, fun e0 => ?_, fun row e1 t H4 s4 ht => ?_⟩
                · rw [show wr sc (termsSum st (.list l)) = none from e0] at q
                  exact (q _ (.int _)).same s13
                · rw [show wr sc (termsSum st (.list l)) = some row from e1] at q
                  have q : Kept K CS CB u M b H { st with ent := put st.ent x (y, row) } (past ++ [st]) Q := q
                  exact ⟨u, M, b, ds, de, pl, ks, ke, ws, st, past, x, y, t, row, rfl, W3.same s4, ht, hz, hz2, (q.same s13).same s4⟩
        · rw [show lookD st.sch (.str y) = some sc from hsc] at hno
          cases hno
end
end K75
set_option maxHeartbeats 400000
namespace K75
open PySem PySem.Spec PyProof.Rows L2
/-- the law's box: n draws or fewer behind the script's -/
def BoxI (n : Nat) (bx : Addr) (H : Hp) : Prop := ∃ a b c : Int, H bx = some (.lst [.int a, .int b, .int c]) ∧ 0 ≤ a ∧ 0 ≤ b ∧ b < 2147483648 ∧ 0 ≤ c ∧ c ≤ (n : Int)
theorem BoxI.le {n m : Nat} {bx : Addr} {H : Hp} (h : BoxI n bx H) (l : n ≤ m) : BoxI m bx H := by
  obtain ⟨a, b, c, h1, h2, h3, h4, h5, h6⟩ := h
  exact ⟨a, b, c, h1, h2, h3, h4, h5, by omega⟩
theorem BoxI.same {n : Nat} {bx : Addr} {H H' : Hp} (h : BoxI n bx H) (s : Same H H') : BoxI n bx H' := by
  obtain ⟨a, b, c, h1, h⟩ := h
  exact ⟨a, b, c, s _ _ h1, h⟩
abbrev s__law_cell : Stmt := top 54
theorem sc__law_cell : FnScope ["_law_script", "_law_k"] ["_law_script", "_law_k"] (defScope s__law_cell) := ⟨rfl, rfl, rfl, by decide +kernel, rfl, by decide +kernel, by decide +kernel⟩
abbrev s__law_box : Stmt := top 55
theorem sc__law_box : FnScope ["_law_cell_here"] ["_law_cell_here"] (defScope s__law_box) := ⟨rfl, rfl, rfl, by decide +kernel, rfl, by decide +kernel, by decide +kernel⟩
abbrev s__law_take : Stmt := top 56
theorem sc__law_take : FnScope ["_law_box_here", "_law_many", "_law_digit", "_law_number_here"] ["_law_box_here", "_law_many"] (defScope s__law_take) := ⟨rfl, rfl, rfl, by decide +kernel, rfl, by decide +kernel, by decide +kernel⟩
section
variable {P : Program} {w : World} {K : PySem.W.Frag} {mg : Str → Option Value} {base : Heap} (B : Blt mg)
include B
def sp_l_cell (K : PySem.W.Frag) : Sp := fun vs H Q _ => ∃ (l : Addr) (ns : List Int) (k : Nat), vs = [.ref l, .int (k : Int)] ∧ SqL K H l (ns.map V.int) ∧ k < 1000 ∧ ∀ v : Int, Q (.int v) H
theorem ok_l_cell (D : FnD K mg "_law_cell" s__law_cell [] []) : Fn P w K mg base "_law_cell" 1 (sp_l_cell K) := by
  refine D.fn sc__law_cell (fun _ _ _ _ _ _ us hl => match us, hl with | [_, _], _ => rfl) (fun vs H Q E h => ?_) (fun f cdv A outer s H vs Q E hr h => ?_)
  · obtain ⟨_, _, _, rfl, _⟩ := h
    rfl
  · obtain ⟨l, ns, k, rfl, hl, hk, q⟩ := h
    refine ⟨_, (pss_cons (ps_if (pt_cmpR op_lt (pv 1) (pe_callB call_len (by rfl) B.len (by decide +kernel) (pa_cons (pv 0) pa_nil)) (nomark _)) (pss_one (ps_ret (pe_ix ix_list (pv 0) (pv 1) (fun _ _ => rfl)))) pss_nil) (pss_one (ps_ret (pe_op op_add (pe_op op_mulW pe_int (pv 1)) pe_int)))), ?_⟩
    refine ⟨_, rfl, _, rfl, _, (ns.map V.int).length, rfl, .inl ⟨_, hl, rfl⟩, _, _, rfl, rfl, _, rfl, ?_⟩
    refine ite2 (fun c => ?_) fun c => ?_
    · have c : (k : Int) < ((ns.map V.int).length : Int) := of_decide_eq_true c
      have c2 : k < ns.length := by rw [List.length_map] at c; omega
      have ha : atI (ns.map V.int) (k : Int) = some (.int ns[k]) := by
        unfold atI ixN
        rw [if_pos (by omega), if_pos c]
        show (ns.map V.int)[(k : Int).toNat]? = _
        rw [Int.toNat_natCast, List.getElem?_map, List.getElem?_eq_getElem c2]
        rfl
      exact ⟨_, rfl, _, rfl, l, _, _, _, rfl, rfl, hl, ha, q _⟩
    · refine ⟨_, rfl, _, _, rfl, rfl, ?_, _, _, rfl, rfl, q _⟩
      exact wide_mul (a := 40) (b := 40) (by decide) (by omega) (by omega) (by omega) (by omega)
def sp_l_box : Sp := fun vs H Q _ => ∃ v : Int, vs = [.int v] ∧ ∀ bx H', H bx = none → Same H H' → BoxI 0 bx H' → Q (.ref bx) H'
theorem ok_l_box (D : FnD K mg "_law_box" s__law_box [] []) : Fn P w K mg base "_law_box" 1 sp_l_box := by
  refine D.fn sc__law_box (fun _ _ _ _ _ _ us hl => match us, hl with | [_], _ => rfl) (fun vs H Q E h => ?_) (fun f cdv A outer s H vs Q E hr h => ?_)
  · obtain ⟨_, rfl, _⟩ := h
    rfl
  · obtain ⟨v, rfl, q⟩ := h
    refine ⟨_, (pss_one (ps_ret (pe_lst (pa_cons (pe_callB (call_max2 rfl) (by rfl) B.max (by decide +kernel) (pa_cons pe_int (pa_cons (pe_op op_sub (pv 0) (pe_op op_pow pe_int pe_int)) pa_nil))) (pa_cons (pe_op op_modN (pe_callTy call_int1 (by rfl) B.int (by decide +kernel) (pa_cons (pv 0) pa_nil)) pe_int) (pa_cons pe_int pa_nil)))))), ?_⟩
    refine ⟨_, rfl, _, _, rfl, rfl, ?_, _, _, rfl, rfl, ?_⟩
    · exact ⟨by decide, by decide, by decide⟩
    refine ⟨_, _, rfl, _, rfl, .inl ⟨v, rfl, _, _, rfl, rfl, by show (2147483629 : Int) ≠ 0; decide, by show 3 ≤ sizeLine; decide, fun bx nb => ?_⟩⟩
    refine q bx _ nb (same_new nb) ⟨_, _, _, upd_same, ?_, Int.fmod_nonneg_of_pos _ (by decide), ?_, Int.le_refl _, Int.le_refl _⟩
    · show (0 : Int) ≤ if v - 10 ^ (18 : Int).toNat > 0 then v - 10 ^ (18 : Int).toNat else 0
      split <;> omega
    · have := Int.fmod_lt_of_pos v (show (0 : Int) < 2147483629 by decide)
      omega
def sp_l_take : Sp := fun vs H Q _ => ∃ n bx m, vs = [.ref bx, .int m] ∧ BoxI n bx H ∧ n < 1000000 ∧ 0 < m ∧ m.natAbs < 2 ^ 100 ∧ ∀ v H', 0 ≤ v → v < m → SB [bx] H H' → BoxI (n + 1) bx H' → Q (.int v) H'
theorem ok_l_take (D : FnD K mg "_law_take" s__law_take [] []) : Fn P w K mg base "_law_take" 1 sp_l_take := by
  refine D.fn sc__law_take (fun _ _ _ _ _ _ us hl => match us, hl with | [_, _], _ => rfl) (fun vs H Q E h => ?_) (fun f cdv A outer s H vs Q E hr h => ?_)
  · obtain ⟨_, _, _, rfl, _⟩ := h
    rfl
  · obtain ⟨n, bx, m, rfl, ⟨a, b, c, h1, h2, h3, h4, h5, h6⟩, hn, hm, hm2, q⟩ := h
    refine ⟨_, (pss_cons (ps_if (pt_cmpR op_gt (pe_ix ix_list (pv 0) pe_int (fun _ _ => rfl)) pe_int (nomark _)) (pss_cons (ps_set (i := 2) sc__law_take.nd rfl (.inl rfl) (pe_op op_modN (pe_callTy call_int1 (by rfl) B.int (by decide +kernel) (pa_cons (pe_ix ix_list (pv 0) pe_int (fun _ _ => rfl)) pa_nil)) (pv 1))) (pss_cons (ps_asg (pe_op op_fdivW (pe_ix ix_list (pv 0) pe_int (fun _ _ => rfl)) (pv 1)) (pg_sub (pv 0) pe_int set_list)) (pss_one (ps_ret (pv 2))))) pss_nil) (pss_cons (ps_asg (pe_op op_add (pe_ix ix_list (pv 0) pe_int (fun _ _ => rfl)) pe_int) (pg_sub (pv 0) pe_int set_list)) (pss_cons (ps_set (i := 3) sc__law_take.nd rfl (.inl rfl) (pe_op op_modN (pe_op op_pow (pe_callTy call_int1 (by rfl) B.int (by decide +kernel) (pa_cons (pe_op op_add (pe_op op_add (pe_ix ix_list (pv 0) pe_int (fun _ _ => rfl)) (pe_op op_mulW pe_int (pe_ix ix_list (pv 0) pe_int (fun _ _ => rfl)))) pe_int) pa_nil)) pe_int) pe_int)) (pss_cons (ps_set (i := 3) sc__law_take.nd rfl (.inl rfl) (pe_op op_modN (pe_op op_pow (pe_callTy call_int1 (by rfl) B.int (by decide +kernel) (pa_cons (pe_op op_add (pv 3) (pe_op op_mulW pe_int (pe_ix ix_list (pv 0) pe_int (fun _ _ => rfl)))) pa_nil)) pe_int) pe_int)) (pss_one (ps_ret (pe_op op_modN (pe_callTy call_int1 (by rfl) B.int (by decide +kernel) (pa_cons (pe_op op_fdivW (pv 3) pe_int) pa_nil)) (pv 1)))))))), ?_⟩
    have hl : SqL K H bx [.int a, .int b, .int c] := .inl (.inl h1)
    refine ⟨_, rfl, bx, _, 0, _, rfl, rfl, hl, rfl, _, _, rfl, rfl, _, rfl, ?_⟩
    refine ite2 (fun c1 => ?_) fun c1 => ?_
    · have c1 : 0 < a := of_decide_eq_true c1
      refine ⟨_, rfl, bx, _, 0, _, rfl, rfl, hl, rfl, .inl ⟨a, rfl, _, rfl, _, _, rfl, rfl, by show m ≠ 0; omega, ?_⟩⟩
      refine ⟨_, rfl, bx, _, 0, _, rfl, rfl, hl, rfl, _, rfl, _, _, rfl, rfl, wide_div hm hm2 (by decide) (by decide), _, rfl, bx, _, 0, 0, rfl, rfl, h1, rfl, ?_⟩
      refine ⟨_, rfl, q _ _ (Int.fmod_nonneg_of_pos _ hm) (Int.fmod_lt_of_pos _ hm) sb_upd ⟨_, _, _, upd_same, Int.ediv_nonneg h2 (by omega), h3, h4, h5, by omega⟩⟩
    · refine ⟨_, rfl, bx, _, 2, _, rfl, rfl, hl, rfl, _, _, rfl, rfl, _, rfl, bx, _, 2, 2, rfl, rfl, h1, rfl, ?_⟩
      have e2 : (upd H bx (.lst [.int a, .int b, .int (c + 1)])) bx = some (.lst [.int a, .int b, .int (c + 1)]) := upd_same
      have sb : SB [bx] H (upd H bx (.lst [.int a, .int b, .int (c + 1)])) := sb_upd
      have hl2 : SqL K (upd H bx (.lst [.int a, .int b, .int (c + 1)])) bx [.int a, .int b, .int (c + 1)] := .inl (.inl e2)
      refine ⟨_, rfl, bx, _, 1, _, rfl, rfl, hl2, rfl, _, rfl, bx, _, 2, _, rfl, rfl, hl2, rfl, _, _, rfl, rfl, ?_, _, _, rfl, rfl, _, _, rfl, rfl, .inl ⟨_, rfl, _, _, rfl, rfl, ?_, _, _, rfl, rfl, by show (2147483647 : Int) ≠ 0; decide, ?_⟩⟩
      · exact wide_mul (a := 20) (b := 30) (by decide) (by omega) (by decide) (by decide) (by decide)
      · refine ⟨by decide, by decide, ?_⟩
        show (b + 7241 * (c + 1) + 292).natAbs < 2 ^ 64
        omega
      · generalize hg : ((b + 7241 * (c + 1) + 292) ^ (5 : Int).toNat).fmod 2147483647 = g
        have g1 : 0 ≤ g := by rw [← hg]; exact Int.fmod_nonneg_of_pos _ (by decide)
        have g2 : g < 2147483647 := by rw [← hg]; exact Int.fmod_lt_of_pos _ (by decide)
        show gName 3 (V.int (((b + 7241 * (c + 1) + 292) ^ (5 : Int).toNat).fmod 2147483647)) _ _ _
        rw [hg]
        refine ⟨_, rfl, _, rfl, bx, _, 2, _, rfl, rfl, hl2, rfl, _, _, rfl, rfl, ?_, _, _, rfl, rfl, .inl ⟨_, rfl, _, _, rfl, rfl, ?_, _, _, rfl, rfl, by show (2147483587 : Int) ≠ 0; decide, ?_⟩⟩
        · exact wide_mul (a := 20) (b := 30) (by decide) (by omega) (by decide) (by decide) (by decide)
        · refine ⟨by decide, by decide, ?_⟩
          show (g + 81267 * (c + 1)).natAbs < 2 ^ 64
          omega
        · refine ⟨_, rfl, _, _, rfl, rfl, ⟨by decide, by decide⟩, .inl ⟨_, rfl, _, rfl, _, _, rfl, rfl, by show m ≠ 0; omega, ?_⟩⟩
          exact q _ _ (Int.fmod_nonneg_of_pos _ hm) (Int.fmod_lt_of_pos _ hm) sb ⟨_, _, _, e2, h2, h3, h4, by omega, by omega⟩
end
end K75
set_option maxHeartbeats 400000
namespace K75
open PySem PySem.Spec PyProof.Rows L2
def rLen (K : PySem.W.Frag) : List V → Hp → VK → Prop := fun xs H Q => ∃ x n, xs = [x] ∧ LenV K x H n ∧ Q (.int (n : Nat)) H
theorem pe_bmK {X : Cx} {K : PySem.W.Frag} {o e : Expr} {es : List Expr} {to : TE} {t : TA} {name : Str} {apos cpos : Pos} {T id : String} {r : V → List V → Hp → VK → Prop} (pa : PlainAttrs T) (slot : Slot T name id) (hty : typeOf (.builtin id) = pure (.type "method_descriptor")) (hm : MtM X id r) (ho : PE X o to) (ha : PA X (e :: es) t) (hK : X.K = K)
    (hbase : attributeBase o name X.env (eval o X.env) = eval o X.env := by rfl)
    (hfew : ((backTo cpos (starEach (e :: es) X.env)).all (fun x => !x.1) && (backToKw cpos (keywordEach [] X.env)).all (fun x => x.1.isSome)
      && decide ((e :: es).length + ([] : List Keyword).length + (if ([] : List Keyword).isEmpty then 0 else 1) < 30)) = true := by rfl)
    (hline : (apos.endLine == cpos.line) = true := by rfl) (hs : starEach (e :: es) X.env = (false, eval e X.env) :: starEach es X.env := by rfl) (hplain : (backTo cpos (starEach es X.env)).any (·.1) = false := by rfl) :
    PE X (.Call (.Attribute o name apos) (e :: es) [] cpos) (tBM K T r to t) := by
  subst hK
  exact pe_bm pa slot hty hm ho ha hbase hfew hline hs hplain
abbrev s__law_digits : Stmt := top 57
theorem sc__law_digits : FnScope ["_law_box_here", "_law_base", "_law_way", "_law_many", "_law_first", "_law_some", "_law_k", "_law_digit", "_law_pool"] ["_law_box_here", "_law_base"] (defScope s__law_digits) := ⟨rfl, rfl, rfl, by decide +kernel, rfl, by decide +kernel, by decide +kernel⟩
/-- digits, in any order -/
structure GoodN (ns : List Int) : Prop where
  nd : ns.Nodup
  sm : ∀ n ∈ ns, -9 ≤ n ∧ n ≤ 9
  lo : 1 ≤ ns.length
  hi : ns.length ≤ 6
theorem rg_nodup (a b : Int) : ((List.range (b - a).toNat).map fun i : Nat => a + (i : Int)).Nodup := by
  refine List.pairwise_map.mpr (List.nodup_range.imp fun h e => h ?_)
  omega
theorem BoxI.old {n : Nat} {bx : Addr} {H H' : Hp} {A : List Addr} (h : BoxI n bx H) (s : SB A H H') (m : bx ∉ A) : BoxI n bx H' := by
  obtain ⟨a, b, c, h1, h⟩ := h
  exact ⟨a, b, c, s _ _ m h1, h⟩
theorem BoxI.ok {n : Nat} {bx : Addr} {H : Hp} (h : BoxI n bx H) : H bx ≠ none := by
  obtain ⟨a, b, c, h1, h⟩ := h
  rw [h1]; simp
def pool0 : List Int := (List.range 19).map fun i : Nat => (-9 : Int) + (i : Int)
theorem erase_map {α β : Type} {f : α → β} : ∀ {l : List α} {k : Nat}, (l.map f).eraseIdx k = (l.eraseIdx k).map f
  | [], _ => rfl
  | _ :: _, 0 => rfl
  | a :: l, k + 1 => by rw [List.map_cons, List.eraseIdx_cons_succ, List.eraseIdx_cons_succ, List.map_cons, erase_map]
theorem erase_perm {α : Type} : ∀ {l : List α} {k : Nat} (h : k < l.length), (l[k] :: l.eraseIdx k).Perm l
  | a :: l, 0, _ => List.Perm.refl _
  | a :: l, k + 1, h => by
    rw [List.eraseIdx_cons_succ, List.getElem_cons_succ]
    exact (List.Perm.swap _ _ _).trans ((erase_perm (by simpa using h)).cons a)
def fold9 (m z : Int) : Int := z - m * (if decide (9 < z) = true then 1 else 0)
theorem fold9_is {m z t : Int} {j : Nat} (h1 : 2 ≤ m) (h2 : m ≤ 6) (hj : (j : Int) < m) (ht : -1 ≤ t ∧ t ≤ 1) (e : z = j + m * t) : ∃ u, -1 ≤ u ∧ u ≤ 1 ∧ fold9 m z = j + m * u ∧ -9 ≤ fold9 m z ∧ fold9 m z ≤ 9 := by
  have ht : t = -1 ∨ t = 0 ∨ t = 1 := by omega
  unfold fold9
  by_cases c : 9 < z
  · rw [if_pos (decide_eq_true c), Int.mul_one]
    rcases ht with rfl | rfl | rfl
    · omega
    · omega
    · exact ⟨0, by omega, by omega, by omega, by omega, by omega⟩
  · rw [if_neg (by simpa using c), Int.mul_zero, Int.sub_zero]
    refine ⟨t, by omega, by omega, e, ?_, by omega⟩
    rcases ht with rfl | rfl | rfl <;> omega
def IsR (m : Int) (ns : List Int) : Prop := ∀ (j : Nat) (z : Int), ns[j]? = some z → ∃ t : Int, -1 ≤ t ∧ t ≤ 1 ∧ z = (j : Int) + m * t
theorem IsR.snoc {m : Int} {ns : List Int} {i : Nat} {t : Int} (h : IsR m ns) (hl : ns.length = i) (h1 : -1 ≤ t) (h2 : t ≤ 1) : IsR m (ns ++ [0 + (i : Int) + m * t]) := fun j z e => by
  rcases Nat.lt_trichotomy j ns.length with c | c | c
  · rw [List.getElem?_append_left c] at e
    exact h j z e
  · rw [c, List.getElem?_append_right (Nat.le_refl _), Nat.sub_self] at e
    cases e
    exact ⟨t, h1, h2, by rw [c, hl]; omega⟩
  · rw [List.getElem?_eq_none (by rw [List.length_append, List.length_singleton]; omega)] at e
    cases e
theorem sb_newU {A : List Addr} {H0 H : Hp} {p : Addr} {o : HO} (s : SB A H0 H) (n : H0 p = none) : SB A H0 (upd H p o) := fun a u m h => by
  rw [upd_ne (ne_of_none h n)]
  exact s a u m h
theorem dig1 {m : Int} {ns : List Int} (h1 : 2 ≤ m) (h2 : m ≤ 6) (hl : ns.length = m.toNat) (h : IsR m ns) : GoodN (ns.map (fold9 m)) := by
  have key : ∀ (j : Nat) (hj : j < ns.length), ∃ u, -1 ≤ u ∧ u ≤ 1 ∧ fold9 m ns[j] = j + m * u ∧ -9 ≤ fold9 m ns[j] ∧ fold9 m ns[j] ≤ 9 := fun j hj => by
    obtain ⟨t, t1, t2, e⟩ := h j _ (List.getElem?_eq_getElem hj)
    exact fold9_is h1 h2 (by omega) ⟨t1, t2⟩ e
  refine ⟨?_, fun z hz => ?_, by rw [List.length_map]; omega, by rw [List.length_map]; omega⟩
  · unfold List.Nodup
    rw [List.pairwise_iff_getElem]
    intro i j hi hj hij e
    rw [List.length_map] at hi hj
    rw [List.getElem_map, List.getElem_map] at e
    obtain ⟨u, u1, u2, e1, _⟩ := key i hi
    obtain ⟨v, v1, v2, e2, _⟩ := key j hj
    rw [e1, e2] at e
    have hu : u = -1 ∨ u = 0 ∨ u = 1 := by omega
    have hv : v = -1 ∨ v = 0 ∨ v = 1 := by omega
    rcases hu with rfl | rfl | rfl <;> rcases hv with rfl | rfl | rfl <;> omega
  · obtain ⟨y, hy, rfl⟩ := List.mem_map.mp hz
    obtain ⟨j, hj, rfl⟩ := List.mem_iff_getElem.mp hy
    obtain ⟨u, _, _, _, a, b⟩ := key j hj
    exact ⟨a, b⟩
section
variable {P : Program} {w : World} {K : PySem.W.Frag} {mg : Str → Option Value} {base : Heap} (B : Blt mg)
include B
def sp_l_digits (K : PySem.W.Frag) : Sp := fun vs H Q _ => ∃ n bx bs, vs = [.ref bx, .int bs] ∧ BoxI n bx H ∧ n < 900000 ∧ isBase bs = true ∧ ∀ l ns H', SB [bx] H H' → BoxI (n + 20) bx H' → H' l = some (.lst (ns.map V.int)) → GoodN ns → Q (.ref l) H'
theorem ok_l_digits (D : FnD K mg "_law_digits" s__law_digits [] []) (F__law_take : Fn P w K mg base "_law_take" 1 sp_l_take) : Fn P w K mg base "_law_digits" 2 (sp_l_digits K) := by
  refine D.fn sc__law_digits (fun _ _ _ _ _ _ us hl => match us, hl with | [_, _], _ => rfl) (fun vs H Q E h => ?_) (fun f cdv A outer s H vs Q E hr h => ?_)
  · obtain ⟨_, _, _, rfl, _⟩ := h
    rfl
  · obtain ⟨n, bx, bs, rfl, hbx, hn, hbs, q⟩ := h
    refine ⟨_, (pss_cons (ps_par (i := 2) (j := 3) (by rfl) sc__law_digits.nd rfl rfl (by decide) rfl rfl (pa_cons (c0 F__law_take hr (pa_cons (pv 0) (pa_cons pe_int pa_nil))) (pa_cons (pe_op op_add pe_int (c0 F__law_take hr (pa_cons (pv 0) (pa_cons pe_int pa_nil)))) pa_nil)) (by rfl)) (pss_cons (ps_if (pt_cmpR op_eq (pv 2) pe_int (nomark _)) (pss_cons (ps_set (i := 4) sc__law_digits.nd rfl (.inl rfl) (pe_op op_sub (c0 F__law_take hr (pa_cons (pv 0) (pa_cons pe_int pa_nil))) pe_int)) (pss_one (ps_ret (pe_listRg rfl (by rfl) B.list (prg_2 (by rfl) B.range (pv 4) (pe_op op_add (pv 4) (pv 3))))))) pss_nil) (pss_cons (ps_if (pt_cmpR op_eq (pv 2) pe_int (nomark _)) (pss_cons (ps_setLc (i := 5) rfl sc__law_digits.nd rfl rfl (sw_true rfl rfl rfl (by decide +kernel)) (own := [("_law_k", 6)]) (g := gName 6) (tt := tYes) (pi_range1 (by rfl) B.range (pa_cons (pe_callB call_abs (by rfl) B.abs (by decide +kernel) (pa_cons (pv 1) pa_nil)) pa_nil)) (blkOk_by (N := ["_law_box_here", "_law_base", "_law_way", "_law_many", "_law_first", "_law_some", "_law_k", "_law_digit", "_law_pool"]) (sc := defScope s__law_digits) (by decide +kernel)) (fun _ _ _ _ _ => (pg_name (i := 6) sc__law_digits.nd rfl (.inl rfl))) (fun _ _ _ _ _ => pts_nil) (fun _ _ _ _ _ => (pe_op op_add (pv 6) (pe_op op_mulW (pe_callB call_abs (by rfl) B.abs (by decide +kernel) (pa_cons (pv 1) pa_nil)) (pe_op op_sub (c0 F__law_take hr (pa_cons (pv 0) (pa_cons pe_int pa_nil))) pe_int))))) (pss_one (ps_ret (pe_lc rfl sc__law_digits.nd (own := [("_law_digit", 7)]) (g := gName 7) (tt := tYes) (pi_list (pv 5)) (blkOk_by (N := ["_law_box_here", "_law_base", "_law_way", "_law_many", "_law_first", "_law_some", "_law_k", "_law_digit", "_law_pool"]) (sc := defScope s__law_digits) (by decide +kernel)) (fun _ _ _ _ _ => (pg_name (i := 7) sc__law_digits.nd rfl (.inl rfl))) (fun _ _ _ _ _ => pts_nil) (fun _ _ _ _ _ => (pe_op op_sub (pv 7) (pe_op op_mulW (pe_callB call_abs (by rfl) B.abs (by decide +kernel) (pa_cons (pv 1) pa_nil)) (pe_callTy call_int1 (by rfl) B.int (by decide +kernel) (pa_cons (pe_cmpR op_gt (pv 7) pe_int (nomark _)) pa_nil))))))))) pss_nil) (pss_cons (ps_set (i := 8) sc__law_digits.nd rfl (.inr rfl) (pe_listRg rfl (by rfl) B.list (prg_2 (by rfl) B.range (pe_un un_neg pe_int) pe_int))) (pss_one (ps_ret (pe_lc rfl sc__law_digits.nd (own := [("_law_k", 6)]) (g := gName 6) (tt := tYes) (pi_range1 (by rfl) B.range (pa_cons (pv 3) pa_nil)) (blkOk_by (N := ["_law_box_here", "_law_base", "_law_way", "_law_many", "_law_first", "_law_some", "_law_k", "_law_digit", "_law_pool"]) (sc := defScope s__law_digits) (by decide +kernel)) (fun _ _ _ _ _ => (pg_name (i := 6) sc__law_digits.nd rfl (.inl rfl))) (fun _ _ _ _ _ => pts_nil) (fun _ _ _ _ _ => (pe_bmK (K := K) PySem.F.plainAttrs_list PySem.F.slot_list_pop PySem.F.type_list_pop mt_popAt (pv 8) (pa_cons (c0 F__law_take hr (pa_cons (pv 0) (pa_cons (pe_callB (r := rLen K) call_len (by rfl) B.len (by decide +kernel) (pa_cons (pv 8) pa_nil)) pa_nil))) pa_nil) rfl))))))))), ?_⟩
    have hb := isBase_bd hbs
    refine ⟨_, rfl, n, bx, 4, rfl, hbx, by omega, by decide, by decide, fun w1 H1 a1 a2 s1 b1 => ?_⟩
    refine ⟨_, rfl, n + 1, bx, 6, rfl, b1, by omega, by decide, by decide, fun w2 H2 c1 c2 s2 b2 => ?_⟩
    have s12 := s1.trans s2
    refine ⟨_, _, rfl, rfl, _, _, rfl, _, rfl, rfl, _, rfl, ?_⟩
    refine ite2 (fun d1 => ?_) fun d1 => ?_
    · refine ⟨_, rfl, n + 2, bx, 4, rfl, b2, by omega, by decide, by decide, fun w3 H3 e1 e2 s3 b3 => ⟨_, _, rfl, rfl, ?_⟩⟩
      refine ⟨_, rfl, _, rfl, _, rfl, _, _, rfl, rfl, _, _, rfl, rfl, ⟨by omega, by omega, by omega, by omega, by omega⟩, fun l nl => ?_⟩
      have nbx : bx ≠ l := ne_of_none (show H3 bx = some _ from (b3.choose_spec.choose_spec.choose_spec.1)) nl
      refine q l ((List.range ((w3 - 3 + (1 + w2)) - (w3 - 3)).toNat).map fun i : Nat => (w3 - 3) + (i : Int)) _ ((s12.trans s3).trans (sb_same (same_new nl) [bx])) ((b3.same (same_new nl)).le (by omega)) ?_ ?_
      · rw [upd_same]
        show some (HO.lst (rgV _ _)) = _
        unfold rgV
        rw [List.map_map]
        rfl
      · refine ⟨rg_nodup _ _, fun z hz => ?_, ?_, ?_⟩
        · obtain ⟨i, hi, rfl⟩ := List.mem_map.mp hz
          rw [List.mem_range] at hi
          omega
        · rw [List.length_map, List.length_range]; omega
        · rw [List.length_map, List.length_range]; omega
    · refine ⟨_, rfl, rfl, _, rfl, ?_⟩
      obtain ⟨m, hm, m1, m2⟩ : ∃ m, (if bs < 0 then -bs else bs) = m ∧ 2 ≤ m ∧ m ≤ 6 := ⟨_, rfl, by split <;> omega, by split <;> omega⟩
      refine ite2 (fun d2 => ?_) fun d2 => ?_
      · refine ⟨_, rfl, bs, rfl, _, rfl, ?_⟩
        rw [hm]
        refine ⟨by omega, by omega, fun Dl nD => lc_range (fun i H' => SB [bx] H2 H' ∧ BoxI (n + 2 + i) bx H' ∧ ∃ ns : List Int, H' Dl = some (.lst (ns.map V.int)) ∧ ns.length = i ∧ IsR m ns)
          ⟨sb_same (same_new nD) [bx], b2.same (same_new nD), [], upd_same, rfl, fun j z e => by simp at e⟩ (fun i H' hi p => ?_) (fun H' p => ?_)⟩
        · obtain ⟨sb, bi, ns, hD, hln, hns⟩ := p
          have nDb : Dl ≠ bx := fun e => by rw [e] at nD; exact b2.ok nD
          refine ⟨rfl, _, rfl, _, rfl, bs, rfl, ?_⟩
          rw [hm]
          refine ⟨_, rfl, n + 2 + i, bx, 3, rfl, bi, by omega, by decide, by decide, fun t H4 t1 t2 s4 b4 => ⟨_, _, rfl, rfl, _, _, rfl, rfl, ?_, _, _, rfl, rfl, ?_⟩⟩
          · exact wide_mul (a := 4) (b := 4) (by omega) (by omega) (by decide) (by decide) (by decide)
          · have hD4 : H4 Dl = some (.lst (ns.map V.int)) := s4 _ _ (by simpa using nDb) hD
            exact ⟨_, hD4, by rw [List.length_map, sizeLine_eq]; omega, sb_newU (sb.trans s4) nD, (b4.le (by omega)).old (A := [Dl]) sb_upd (by simpa using nDb.symm), ns ++ [0 + (i : Int) + m * (t - 1)], by rw [upd_same, List.map_append]; rfl, by rw [List.length_append, List.length_singleton]; omega, hns.snoc hln (by omega) (by omega)⟩
        · obtain ⟨sb, bi, ns, hD, hln, hns⟩ := p
          have nDb : Dl ≠ bx := fun e => by rw [e] at nD; exact b2.ok nD
          refine ⟨_, rfl, Dl, rfl, ⟨_, .inl (.inl hD)⟩, fun D2 n2 => lc_list (xs := ns.map V.int) (LcI [] [] D2 H' (Mapd ns fun z => .int (fold9 m z))) (LcI.start (by intro a h; cases h) (by simp) n2 Mapd.zero)
            (fun i H5 _ p => .inl (.inl (p.stp.same _ _ hD))) (fun i x H5 hx p => ?_) (fun H5 p => ?_)⟩
          · rw [List.getElem?_map] at hx
            cases e1 : ns[i]? with
            | none => rw [e1] at hx; cases hx
            | some z =>
              rw [e1] at hx
              cases hx
              have hi : i < ns.length := (List.getElem?_eq_some_iff.mp e1).1
              have hz : z.natAbs < 2 ^ 20 := by
                obtain ⟨t, t1, t2, e⟩ := hns i z e1
                have ht : t = -1 ∨ t = 0 ∨ t = 1 := by omega
                rcases ht with rfl | rfl | rfl <;> omega
              refine ⟨rfl, _, rfl, _, rfl, bs, rfl, ?_⟩
              rw [hm]
              refine ⟨_, rfl, _, _, rfl, rfl, .inr ⟨_, rfl, _, _, rfl, rfl, ?_, _, _, rfl, rfl, ?_⟩⟩
              · exact wide_mul (a := 4) (b := 4) (by omega) (by split <;> decide) (by decide) (by decide) (by decide)
              · exact p.step (by simp) n2 (by intro a h; cases h) (.refl (M := []) (by intro a h; cases h) (by simp)) (by rw [sizeLine_eq]; omega) (fun acc _ r => r.yes e1)
          · obtain ⟨acc, hA, _, r⟩ := p.ex
            rw [List.length_map] at r
            have e9 := r.all
            subst e9
            have s5 := p.stp.same
            exact q D2 (ns.map (fold9 m)) H5 (s12.trans (sb.trans (sb_same s5 [bx]))) ((bi.same s5).le (by omega)) (by rw [hA, List.map_map]; rfl) (dig1 m1 m2 hln hns)
      · refine ⟨9, rfl, _, _, rfl, rfl, ⟨by decide, by decide, by decide, by decide, by decide⟩, fun pl npl => ?_⟩
        have hp3 : (upd H2 pl (.lst (rgV (-9) 10))) pl = some (.lst (pool0.map V.int)) := by
          rw [upd_same]
          show some (HO.lst (rgV _ _)) = _
          unfold rgV pool0
          rw [List.map_map]
          rfl
        have nplb : pl ≠ bx := fun e => by rw [e] at npl; exact b2.ok npl
        have b3 : BoxI (n + 2) bx (upd H2 pl (.lst (rgV (-9) 10))) := b2.same (same_new npl)
        refine ⟨_, rfl, _, rfl, by omega, by omega, fun Dl nD => lc_range (fun i H' => SB [bx] H2 H' ∧ BoxI (n + 2 + i) bx H' ∧ ∃ ns ps : List Int, H' Dl = some (.lst (ns.map V.int)) ∧ H' pl = some (.lst (ps.map V.int)) ∧ (ns ++ ps).Perm pool0 ∧ ns.length = i) ?_ (fun i H' hi p => ?_) (fun H' p => ?_)⟩
        · have dpl : pl ≠ Dl := fun e => by rw [← e, upd_same] at nD; cases nD
          exact ⟨(sb_same (same_new npl) [bx]).trans (sb_same (same_new nD) [bx]), b3.same (same_new nD), [], pool0, upd_same, by rw [upd_ne dpl]; exact hp3, List.Perm.refl _, rfl⟩
        · obtain ⟨sb, bi, ns, ps, hD, hp, hpm, hln⟩ := p
          have dpl : pl ≠ Dl := fun e => by rw [← e, upd_same] at nD; cases nD
          have nDb : Dl ≠ bx := fun e => by rw [e] at nD; exact b3.ok nD
          have nD2 : H2 Dl = none := none_same (same_new npl) nD
          have hpl : ps.length = 19 - i := by
            have := hpm.length_eq
            rw [List.length_append, hln] at this
            have e : pool0.length = 19 := by decide
            omega
          have hi6 : i < 6 := by omega
          refine ⟨rfl, _, rfl, (.inl ⟨rfl, _, .inl (.inl hp)⟩), _, rfl, _, rfl, _, _, rfl, .inl ⟨_, .inl (.inl hp), rfl⟩, n + 2 + i, bx, _, rfl, bi, by omega, by rw [List.length_map]; omega, by rw [List.length_map, hpl]; omega, fun t H4 t1 t2 s4 b4 => ?_⟩
          rw [List.length_map] at t2
          have hk : t.toNat < ps.length := by omega
          have hp4 : H4 pl = some (.lst (ps.map V.int)) := s4 _ _ (by simpa using nplb) hp
          have hD4 : H4 Dl = some (.lst (ns.map V.int)) := s4 _ _ (by simpa using nDb) hD
          refine ⟨pl, _, t, t.toNat, .int ps[t.toNat], rfl, rfl, hp4, by omega, by omega, ?_, by rw [List.getElem?_map, List.getElem?_eq_getElem hk]; rfl, ?_⟩
          · unfold seqIndex?
            rw [List.length_map]
            have h1 : (if t < 0 then t + (ps.length : Int) else t) = t := if_neg (by omega)
            simp only [h1]
            rw [if_pos (by rw [decide_eq_true t1, decide_eq_true t2]; rfl)]
          · refine ⟨ns.map V.int, by rw [upd_ne dpl.symm]; exact hD4, by rw [List.length_map, sizeLine_eq]; omega, sb_newU (sb_newU (sb.trans s4) npl) nD2, ?_, ns ++ [ps[t.toNat]], ps.eraseIdx t.toNat, by rw [upd_same, List.map_append]; rfl, by rw [upd_ne dpl, upd_same, erase_map], ?_, by rw [List.length_append, List.length_singleton]; omega⟩
            · exact ((b4.le (by omega)).old (A := [pl]) sb_upd (by simpa using nplb.symm)).old (A := [Dl]) sb_upd (by simpa using nDb.symm)
            · rw [List.append_assoc]
              exact (List.Perm.append_left ns (erase_perm hk)).trans hpm
        · obtain ⟨sb, bi, ns, ps, hD, hp, hpm, hln⟩ := p
          refine q Dl ns H' (s12.trans sb) (bi.le (by omega)) hD ⟨?_, fun z hz => ?_, by omega, by omega⟩
          · have : (ns ++ ps).Nodup := hpm.nodup_iff.mpr (by decide)
            exact (List.nodup_append.mp this).1
          · have : z ∈ pool0 := hpm.mem_iff.mp (List.mem_append_left _ hz)
            obtain ⟨j, hj, rfl⟩ := List.mem_map.mp this
            rw [List.mem_range] at hj
            omega
end
end K75
set_option maxHeartbeats 400000
namespace K75
open PySem PySem.Spec PyProof.Rows L2
def prod (ns : List Int) : List (Int × Int) := ns.flatMap fun a => ns.map fun b => (a, b)
def prodF (ns : List Int) (as : List Int) : List (Int × Int) := as.flatMap fun a => ns.map fun b => (a, b)
theorem prodF_len (ns : List Int) : ∀ as : List Int, (prodF ns as).length = as.length * ns.length
  | [] => by simp [prodF]
  | a :: as => by
    have ih := prodF_len ns as
    unfold prodF at ih ⊢
    rw [List.flatMap_cons, List.length_append, ih, List.length_map, List.length_cons, Nat.add_mul, Nat.one_mul]
    omega
theorem dpAll_app {K : PySem.W.Frag} {F : Hp} : ∀ {vs : List V} {ds : List PyData} {us : List V} {es : List PyData}, DpAll K F vs ds → DpAll K F us es → DpAll K F (vs ++ us) (ds ++ es)
  | _, _, _, _, .nil, b => b
  | _, _, _, _, .cons h r, b => .cons h (dpAll_app r b)
theorem prodF_pw {ns : List Int} (h : ns.Pairwise (· < ·)) : ∀ {as : List Int}, as.Pairwise (· < ·) → (prodF ns as).Pairwise plt
  | [], _ => .nil
  | a :: as, ha => by
    rw [List.pairwise_cons] at ha
    unfold prodF
    rw [List.flatMap_cons, List.pairwise_append]
    refine ⟨List.pairwise_map.mpr (h.imp fun {x y} l => .inr ⟨rfl, l⟩), prodF_pw h ha.2, fun p hp q hq => ?_⟩
    obtain ⟨b, hb, rfl⟩ := List.mem_map.mp hp
    obtain ⟨c, hc, hq⟩ := List.mem_flatMap.mp hq
    obtain ⟨d, hd, rfl⟩ := List.mem_map.mp hq
    exact .inl (ha.1 c hc)
theorem prod_mem {ns : List Int} {p : Int × Int} (h : p ∈ prod ns) : p.1 ∈ ns ∧ p.2 ∈ ns := by
  obtain ⟨a, ha, h⟩ := List.mem_flatMap.mp h
  obtain ⟨b, hb, rfl⟩ := List.mem_map.mp h
  exact ⟨ha, hb⟩
theorem goodD_of {ns ms : List Int} (h : GoodN ns) (pm : ms.Perm ns) (pw : ms.Pairwise (· ≤ ·)) : GoodD ms := by
  have nd : ms.Nodup := pm.nodup_iff.mpr h.nd
  have up : ms.Pairwise (· < ·) := by
    have : ms.Pairwise (fun a b => a ≤ b ∧ a ≠ b) := List.pairwise_and_iff.mpr ⟨pw, nd⟩
    exact this.imp fun {a b} h => by omega
  exact ⟨up, fun n hn => h.sm n (pm.mem_iff.mp hn), by rw [pm.length_eq]; exact h.lo, by rw [pm.length_eq]; exact h.hi⟩
theorem goodS_of {bs : Int} {ds : List Int} {bars : List (Int × Int)} (h1 : isBase bs = true) (h2 : GoodD ds) (h3 : bars.Sublist (prod ds)) : GoodS ⟨bs, ds, bars⟩ :=
  ⟨h1, h2, (prodF_pw h2.up h2.up).sublist h3, fun p hp => prod_mem (h3.subset hp), by
    have a := h3.length_le
    have b := prodF_len ds ds
    have c : ds.length * ds.length ≤ 6 * 6 := Nat.mul_le_mul h2.hi h2.hi
    show bars.length ≤ 36
    have d : (prod ds).length = ds.length * ds.length := b
    omega⟩
/-- the law's model of a scheme stands at m -/
def ModelAt (K : PySem.W.Frag) (F : Hp) (m : Addr) (s : Sch) : Prop := ∃ ld lb, SqL K F m [.int s.base, .ref ld, .ref lb] ∧ SqL K F ld (s.digits.map V.int) ∧ Dp K F (.ref lb) (.list (s.bars.map pairD))
theorem ModelAt.le {K : PySem.W.Frag} {F G : Hp} (e : Le F G) {m : Addr} {s : Sch} (h : ModelAt K F m s) : ModelAt K G m s := let ⟨a, b, x, y, z⟩ := h; ⟨a, b, e.sqL x, e.sqL y, e.dp z⟩
def bases : List Int := [2, -2, 3, -3, 2, -4, 4, 5, -5, 6, -6]
theorem bases_at {i : Int} (h0 : 0 ≤ i) (h1 : i < 11) : ∃ b, atI (bases.map V.int) i = some (.int b) ∧ isBase b = true := by
  have hall : ∀ k : Fin 11, isBase (bases[k.val]'(by have := k.isLt; exact this)) = true := by decide
  have hk : i.toNat < 11 := by omega
  refine ⟨bases[i.toNat]'hk, ?_, hall ⟨i.toNat, hk⟩⟩
  unfold atI ixN
  rw [if_pos h0, if_pos (by show i < 11; exact h1)]
  show (bases.map V.int)[i.toNat]? = _
  rw [List.getElem?_map, List.getElem?_eq_getElem hk]
  rfl
theorem Mok.box {M : List Addr} {H H' : Hp} {bx : Addr} {n : Nat} (m : Mok M H) (s : SB [bx] H H') (b : BoxI n bx H') : Mok M H' := m.sb s fun a ha => by
  rw [List.mem_singleton] at ha
  rw [ha]
  exact b.ok
abbrev s__law_pairs : Stmt := top 58
theorem sc__law_pairs : FnScope ["_law_digits_here", "_law_found", "_law_left", "_law_right"] ["_law_digits_here"] (defScope s__law_pairs) := ⟨rfl, rfl, rfl, by decide +kernel, rfl, by decide +kernel, by decide +kernel⟩
abbrev s__law_scheme : Stmt := top 59
theorem sc__law_scheme : FnScope ["_law_box_here", "_law_base", "_law_digits_here", "_law_way", "_law_pairs_here", "_law_pair"] ["_law_box_here"] (defScope s__law_scheme) := ⟨rfl, rfl, rfl, by decide +kernel, rfl, by decide +kernel, by decide +kernel⟩
section
variable {P : Program} {w : World} {K : PySem.W.Frag} {mg : Str → Option Value} {base : Heap} (B : Blt mg)
include B
def sp_l_pairs (K : PySem.W.Frag) : Sp := fun vs H Q _ => ∃ M l ns, vs = [.ref l] ∧ Mok M H ∧ SqL K H l (ns.map V.int) ∧ ns.length ≤ 6 ∧ ∀ r H', Same H H' → Dp K (fr M H') (.ref r) (.list ((prod ns).map pairD)) → Q (.ref r) H'
theorem ok_l_pairs (D : FnD K mg "_law_pairs" s__law_pairs [] []) : Fn P w K mg base "_law_pairs" 1 (sp_l_pairs K) := by
  refine D.fn sc__law_pairs (fun _ _ _ _ _ _ us hl => match us, hl with | [_], _ => rfl) (fun vs H Q E h => ?_) (fun f cdv A outer s H vs Q E hr h => ?_)
  · obtain ⟨_, _, _, rfl, _⟩ := h
    rfl
  · obtain ⟨M, l, ns, rfl, mok, hl, hz, q⟩ := h
    refine ⟨_, (pss_cons (ps_set (i := 1) sc__law_pairs.nd rfl (.inl rfl) (pe_lst pa_nil)) (pss_cons (ps_for (passes_of rfl) rfl (pi_list (pv 0)) (pg_name (i := 2) sc__law_pairs.nd rfl (.inr rfl)) (pss_one (ps_set (i := 1) sc__law_pairs.nd rfl (.inl rfl) (pe_op op_cat (pv 1) (pe_lc rfl sc__law_pairs.nd (own := [("_law_right", 3)]) (g := gName 3) (tt := tYes) (pi_list (pv 0)) (blkOk_by (N := ["_law_digits_here", "_law_found", "_law_left", "_law_right"]) (sc := defScope s__law_pairs) (by decide +kernel)) (fun _ _ _ _ _ => (pg_name (i := 3) sc__law_pairs.nd rfl (.inl rfl))) (fun _ _ _ _ _ => pts_nil) (fun _ _ _ _ _ => (pe_tup (pa_cons (pv 2) (pa_cons (pv 3) pa_nil))))))))) (pss_one (ps_ret (pv 1))))), ?_⟩
    refine ⟨by show 0 ≤ sizeLine; decide, fun f0 nf0 => ?_⟩
    have s0 := same_new (o := .lst []) nf0
    refine ⟨_, rfl, l, rfl, ⟨_, (Le.of s0).sqL hl⟩, for_list (xs := ns.map V.int) (fun i σ H' => (∃ f y, σ = [some (.ref l), some (.ref f), y, none] ∧ ∃ xs, fr M H' f = some (.lst xs) ∧ DpAll K (fr M H') xs ((prodF ns (ns.take i)).map pairD)) ∧ Same H H')
      ⟨⟨f0, _, rfl, [], upd_fr nf0 mok, .nil⟩, s0⟩ (fun i σ H' _ p => (Le.of p.2).sqL hl) (fun i x σ H' hx p => ?_) (fun σ H' p => ?_)⟩
    · obtain ⟨⟨f1, y, rfl, xs, hl1, hxs⟩, s1⟩ := p
      rw [List.getElem?_map] at hx
      cases e1 : ns[i]? with
      | none => rw [e1] at hx; cases hx
      | some a =>
        rw [e1] at hx
        cases hx
        have hi : i < ns.length := (List.getElem?_eq_some_iff.mp e1).1
        have m1 := mok.same s1
        · refine ⟨_, rfl, _, rfl, l, rfl, ⟨_, (Le.of s1).sqL hl⟩, fun Dl nD => lc_list (xs := ns.map V.int) (LcI [] M Dl H' (fun j acc F => DpAll K F acc (((ns.take j).map fun b => (a, b)).map pairD))) (LcI.start m1 (by simp) nD .nil)
            (fun j H5 _ p => (Le.of (s1.trans p.stp.same)).sqL hl) (fun j z H5 hz5 p => ?_) (fun H5 p => ?_)⟩
          · rw [List.getElem?_map] at hz5
            cases e2 : ns[j]? with
            | none => rw [e2] at hz5; cases hz5
            | some b =>
              rw [e2] at hz5
              cases hz5
              have hj : j < ns.length := (List.getElem?_eq_some_iff.mp e2).1
              refine ⟨rfl, _, rfl, _, rfl, by show 2 ≤ sizeLine; decide, fun t nt => ?_⟩
              refine p.step (by simp) nD m1 (.nil (same_new nt)) (by rw [sizeLine_eq]; omega) (fun acc _ r => ?_)
              rw [take_succ_of e2, List.map_append, List.map_append]
              exact dpAll_app ((upd_le nt).dpAll r) (.cons (.tup (.inl (.inl (upd_fr nt p.mok))) (.cons (.int _) (.cons (.int _) .nil))) .nil)
          · obtain ⟨acc, hA, hal, r⟩ := p.ex
            rw [List.length_map, List.take_length] at r
            have s5 := p.stp.same
            have hlx := sqL_len hxs
            refine ⟨f1, Dl, xs, acc, rfl, rfl, s5 _ _ (fr_some hl1).1, hA, ?_, fun p9 n9 => ?_⟩
            · rw [sizeLine_eq, hlx, List.length_map]
              have h1 := prodF_len ns (ns.take i)
              have h2 : (ns.take i).length * ns.length ≤ 6 * 6 := Nat.mul_le_mul (by rw [List.length_take]; omega) hz
              rw [List.length_map] at hal
              omega
            · refine ⟨⟨p9, _, rfl, _, upd_fr n9 (m1.same s5), ?_⟩, (s1.trans s5).trans (same_new n9)⟩
              rw [take_succ_of e1]
              unfold prodF
              rw [List.flatMap_append, List.map_append]
              refine dpAll_app ((upd_le n9).dpAll ((same_le s5).dpAll hxs)) ?_
              rw [List.flatMap_singleton]
              exact (upd_le n9).dpAll ((fr_sub Dl M H5).dpAll r)
    · obtain ⟨⟨f1, y, rfl, xs, hl1, hxs⟩, s1⟩ := p
      rw [List.length_map, List.take_length] at hxs
      exact ⟨_, rfl, q f1 H' s1 (.lst (.inl (.inl hl1)) hxs)⟩
def sp_l_scheme (K : PySem.W.Frag) : Sp := fun vs H Q _ => ∃ n M bx, vs = [.ref bx] ∧ BoxI n bx H ∧ Mok M H ∧ bx ∈ M ∧ n < 800000 ∧ ∀ m s H', SB [bx] H H' → BoxI (n + 100) bx H' → ModelAt K (fr M H') m s → GoodS s → Q (.ref m) H'
theorem ok_l_scheme (D : FnD K mg "_law_scheme" s__law_scheme [] []) (F__law_take : Fn P w K mg base "_law_take" 1 sp_l_take) (F__law_digits : Fn P w K mg base "_law_digits" 2 (sp_l_digits K)) (F__law_pairs : Fn P w K mg base "_law_pairs" 1 (sp_l_pairs K)) : Fn P w K mg base "_law_scheme" 3 (sp_l_scheme K) := by
  refine D.fn sc__law_scheme (fun _ _ _ _ _ _ us hl => match us, hl with | [_], _ => rfl) (fun vs H Q E h => ?_) (fun f cdv A outer s H vs Q E hr h => ?_)
  · obtain ⟨_, _, _, rfl, _⟩ := h
    rfl
  · obtain ⟨n, M, bx, rfl, hbx, mok, mem, hn, q⟩ := h
    refine ⟨_, (pss_cons (ps_set (i := 1) sc__law_scheme.nd rfl (.inl rfl) (pe_ix ix_list (pe_lst (pa_cons pe_int (pa_cons (pe_un un_neg pe_int) (pa_cons pe_int (pa_cons (pe_un un_neg pe_int) (pa_cons pe_int (pa_cons (pe_un un_neg pe_int) (pa_cons pe_int (pa_cons pe_int (pa_cons (pe_un un_neg pe_int) (pa_cons pe_int (pa_cons (pe_un un_neg pe_int) pa_nil)))))))))))) (c0 F__law_take hr (pa_cons (pv 0) (pa_cons pe_int pa_nil))) (fun _ _ => rfl))) (pss_cons (ps_par (i := 2) (j := 3) (by rfl) sc__law_scheme.nd rfl rfl (by decide) rfl rfl (pa_cons (pe_callB cr_sorted (by rfl) B.sorted (by decide +kernel) (pa_cons (c0 F__law_digits hr (pa_cons (pv 0) (pa_cons (pv 1) pa_nil))) pa_nil)) (pa_cons (c0 F__law_take hr (pa_cons (pv 0) (pa_cons pe_int pa_nil))) pa_nil)) (by rfl)) (pss_cons (ps_set (i := 4) sc__law_scheme.nd rfl (.inl rfl) (c0 F__law_pairs hr (pa_cons (pv 2) pa_nil))) (pss_cons (ps_if (pt_cmpR op_eq (pv 3) pe_int (nomark _)) (pss_one (ps_ret (pe_lst (pa_cons (pv 1) (pa_cons (pv 2) (pa_cons (pe_lst pa_nil) pa_nil)))))) pss_nil) (pss_cons (ps_if (pt_cmpR op_eq (pv 3) pe_int (nomark _)) (pss_one (ps_ret (pe_lst (pa_cons (pv 1) (pa_cons (pv 2) (pa_cons (pe_lc rfl sc__law_scheme.nd (own := [("_law_pair", 5)]) (g := gName 5) (tt := _) (pi_list (pv 4)) (blkOk_by (N := ["_law_box_here", "_law_base", "_law_digits_here", "_law_way", "_law_pairs_here", "_law_pair"]) (sc := defScope s__law_scheme) (by decide +kernel)) (fun _ _ _ _ _ => (pg_name (i := 5) sc__law_scheme.nd rfl (.inl rfl))) (fun _ _ _ _ _ => (pts_one (PW.pt (pw_and (pt_cmpR op_ne (pe_ix (r := rIxT K) ix_tup (pv 5) pe_int (fun _ _ => rfl)) pe_int (nomark _)) (pw_and1 (pt_cmpR op_ne (pe_ix (r := rIxT K) ix_tup (pv 5) pe_int (fun _ _ => rfl)) pe_int (nomark _))))))) (fun _ _ _ _ _ => (pv 5))) pa_nil)))))) pss_nil) (pss_cons (ps_if (pt_cmpR op_eq (pv 3) pe_int (nomark _)) (pss_one (ps_ret (pe_lst (pa_cons (pv 1) (pa_cons (pv 2) (pa_cons (pe_lc rfl sc__law_scheme.nd (own := [("_law_pair", 5)]) (g := gName 5) (tt := _) (pi_list (pv 4)) (blkOk_by (N := ["_law_box_here", "_law_base", "_law_digits_here", "_law_way", "_law_pairs_here", "_law_pair"]) (sc := defScope s__law_scheme) (by decide +kernel)) (fun _ _ _ _ _ => (pg_name (i := 5) sc__law_scheme.nd rfl (.inl rfl))) (fun _ _ _ _ _ => (pts_one (pt_cmpR op_eq (pe_ix (r := rIxT K) ix_tup (pv 5) pe_int (fun _ _ => rfl)) (pe_ix (r := rIxT K) ix_tup (pv 5) pe_int (fun _ _ => rfl)) (nomark _)))) (fun _ _ _ _ _ => (pv 5))) pa_nil)))))) pss_nil) (pss_one (ps_ret (pe_lst (pa_cons (pv 1) (pa_cons (pv 2) (pa_cons (pe_lc rfl sc__law_scheme.nd (own := [("_law_pair", 5)]) (g := gName 5) (tt := _) (pi_list (pv 4)) (blkOk_by (N := ["_law_box_here", "_law_base", "_law_digits_here", "_law_way", "_law_pairs_here", "_law_pair"]) (sc := defScope s__law_scheme) (by decide +kernel)) (fun _ _ _ _ _ => (pg_name (i := 5) sc__law_scheme.nd rfl (.inl rfl))) (fun _ _ _ _ _ => (pts_one (pt_cmpR op_eq (c0 F__law_take hr (pa_cons (pv 0) (pa_cons pe_int pa_nil))) pe_int (nomark _)))) (fun _ _ _ _ _ => (pv 5))) pa_nil)))))))))))), ?_⟩
    refine ⟨2, rfl, 3, rfl, 4, rfl, 5, rfl, 6, rfl, by show 11 ≤ sizeLine; decide, fun l0 nl0 => ?_⟩
    have s0 := same_new (o := .lst (bases.map V.int)) nl0
    have b0 := hbx.same s0
    refine ⟨_, rfl, n, bx, 11, rfl, b0, by omega, by decide, by decide, fun i H1 i1 i2 sb1 b1 => ?_⟩
    obtain ⟨bs, hat, hbs⟩ := bases_at i1 i2
    have d0 : l0 ≠ bx := fun e => by rw [e] at nl0; exact hbx.ok nl0
    refine ⟨l0, bases.map V.int, i, _, rfl, rfl, .inl (.inl (sb1 _ _ (by simpa using d0) upd_same)), hat, ?_⟩
    refine ⟨_, rfl, _, rfl, n + 1, bx, bs, rfl, b1, by omega, hbs, fun l ns H2 sb2 b2 hl gn => ⟨l, ns, rfl, .inl (.inl hl), by have := gn.hi; omega, fun ns' p pm pw np => ?_⟩⟩
    have gd := goodD_of gn pm pw
    have b3 := b2.same (same_new (o := .lst (ns'.map V.int)) np)
    refine ⟨_, rfl, n + 1 + 20, bx, 4, rfl, b3, by omega, by decide, by decide, fun w1 H4 w2 w3 sb4 b4 => ⟨_, _, rfl, ?_⟩⟩
    have sbH2 : SB [bx] H H2 := ((sb_same s0 [bx]).trans sb1).trans sb2
    have mok2 : Mok M H2 := mok.box sbH2 b2
    have mok3 := mok2.same (same_new (o := .lst (ns'.map V.int)) np)
    have mok4 := mok3.box sb4 b4
    have hd4 : SqL K (fr M H4) p (ns'.map V.int) := (sb_le sb4 (by simpa using mem)).sqL (.inl (.inl (upd_fr np mok2)))
    refine ⟨_, rfl, M, p, ns', rfl, mok4, (fr_le _ _).sqL hd4, gd.hi, fun r H5 s5 hr => ?_⟩
    have hd5 := (same_le s5).sqL hd4
    have mok5 := mok4.same s5
    have b5 := b4.same s5
    have sb5 : SB [bx] H H5 := ((sbH2.trans (sb_same (same_new np) [bx])).trans sb4).trans (sb_same s5 [bx])
    have fin : ∀ (lb : Addr) (bars : List (Int × Int)) (H6 : Hp), SB [bx] H5 H6 → BoxI (n + 100) bx H6 → Dp K (fr M H6) (.ref lb) (.list (bars.map pairD)) → bars.Sublist (prod ns') → ∀ m, H6 m = none → Q (.ref m) (upd H6 m (.lst [.int bs, .ref p, .ref lb])) := fun lb bars H6 s6 b6 h6 sub m nm => by
      have mok6 := mok5.box s6 b6
      refine q m ⟨bs, ns', bars⟩ _ ((sb5.trans s6).trans (sb_same (same_new nm) [bx])) (b6.same (same_new nm)) ⟨p, lb, .inl (.inl (upd_fr nm mok6)), ?_, (upd_le nm).dp h6⟩ (goodS_of hbs gd sub)
      exact (upd_le nm).sqL ((sb_le s6 (by simpa using mem)).sqL hd5)
    cases hr with
    | @lst _ xs _ hr1 hxs =>
      have hlx := sqL_len hxs
      have hr0 := (fr_le M H5).sqL hr1
      have hx36 : xs.length ≤ 36 := by
        have h1 := prodF_len ns' ns'
        have h2 : ns'.length * ns'.length ≤ 6 * 6 := Nat.mul_le_mul gd.hi gd.hi
        have h3 : (prod ns').length = ns'.length * ns'.length := h1
        rw [hlx, List.length_map]
        omega
      refine ⟨_, rfl, rfl, _, rfl, ?_⟩
      refine ite2 (fun c1 => ?_) fun c1 => ?_
      · refine ⟨_, rfl, _, rfl, by show 0 ≤ sizeLine; decide, fun lb nlb => ⟨by show 3 ≤ sizeLine; decide, fun m nm => ?_⟩⟩
        exact fin lb [] _ (sb_same (same_new nlb) [bx]) ((b5.same (same_new nlb)).le (by omega)) (.lst (.inl (.inl (upd_fr nlb mok5))) .nil) (List.nil_sublist _) m nm
      · refine ⟨_, rfl, rfl, _, rfl, ?_⟩
        -- an item of the pairs
        have item : ∀ {i : Nat} {z : V}, xs[i]? = some z → ∃ (pr : Int × Int) (t : Addr), (prod ns')[i]? = some pr ∧ z = .ref t ∧ SqT K (fr M H5) t [.int pr.1, .int pr.2] := fun {i z} hz => by
          obtain ⟨d, e1, hd⟩ := dpAll_mem hxs hz
          rw [List.getElem?_map] at e1
          cases e2 : (prod ns')[i]? with
          | none => rw [e2] at e1; cases e1
          | some pr =>
            rw [e2] at e1
            cases e1
            cases hd with
            | @tup t ts _ ht hts =>
              cases hts with
              | cons h0 h1 => cases h1 with
                | cons h2 h3 =>
                  cases h3
                  cases h0
                  cases h2
                  exact ⟨pr, t, rfl, rfl, ht⟩
        have yes : ∀ {F G : Hp} {i : Nat} {t : Addr} {pr : Int × Int} {acc : List V}, (prod ns')[i]? = some pr → SqT K G t [.int pr.1, .int pr.2] → Le F G → (∃ bars : List (Int × Int), DpAll K F acc (bars.map pairD) ∧ bars.Sublist ((prod ns').take i)) → ∃ bars : List (Int × Int), DpAll K G (acc ++ [.ref t]) (bars.map pairD) ∧ bars.Sublist ((prod ns').take (i + 1)) := fun {F G i t pr acc} e ht le ⟨bars, h1, h2⟩ => by
          rw [take_succ_of e]
          refine ⟨bars ++ [pr], ?_, h2.append (List.Sublist.refl _)⟩
          rw [List.map_append]
          exact dpAll_app (le.dpAll h1) (.cons (.tup ht (.cons (.int _) (.cons (.int _) .nil))) .nil)
        have no : ∀ {F G : Hp} {i : Nat} {pr : Int × Int} {acc : List V}, (prod ns')[i]? = some pr → Le F G → (∃ bars : List (Int × Int), DpAll K F acc (bars.map pairD) ∧ bars.Sublist ((prod ns').take i)) → ∃ bars : List (Int × Int), DpAll K G acc (bars.map pairD) ∧ bars.Sublist ((prod ns').take (i + 1)) := fun {F G i pr acc} e le ⟨bars, h1, h2⟩ => by
          rw [take_succ_of e]
          exact ⟨bars, le.dpAll h1, h2.trans (List.sublist_append_left _ _)⟩
        have done : ∀ {A : List Addr} {D2 : Addr} {H6 : Hp}, (∀ a ∈ A, a = bx) → H5 D2 = none → LcI A M D2 H5 (fun i acc F => ∃ bars : List (Int × Int), DpAll K F acc (bars.map pairD) ∧ bars.Sublist ((prod ns').take i)) xs.length H6 → BoxI (n + 100) bx H6 → ∀ m, H6 m = none → Q (.ref m) (upd H6 m (.lst [.int bs, .ref p, .ref D2])) := fun {A D2 H6} hA n2 P b6 m nm => by
          obtain ⟨acc, hAcc, _, bars, h1, h2⟩ := P.ex
          rw [hlx, List.length_map, List.take_length] at h2
          exact fin D2 bars H6 (P.stp.sb.sub fun a ha => by rw [hA a ha]; simp) b6 (.lst (.inl (.inl (fr_of hAcc (mok5.new n2)))) ((fr_sub _ _ _).dpAll h1)) h2 m nm
        refine ite2 (fun c2 => ?_) fun c2 => ?_
        · refine ⟨_, rfl, _, rfl, _, rfl, r, rfl, ⟨_, hr0⟩, fun D2 n2 => lc_list (xs := xs) (LcI [] M D2 H5 (fun i acc F => ∃ bars : List (Int × Int), DpAll K F acc (bars.map pairD) ∧ bars.Sublist ((prod ns').take i))) (LcI.start mok5 (by simp) n2 ⟨[], .nil, List.nil_sublist _⟩)
            (fun i H6 _ p => (Le.of p.stp.same).sqL hr0) (fun i z H6 hz p => ?_) (fun H6 p => ⟨by show 3 ≤ sizeLine; decide, done (by simp) n2 p ((b5.same p.stp.same).le (by omega))⟩)⟩
          obtain ⟨pr, t, e1, rfl, ht⟩ := item hz
          have hi := (List.getElem?_eq_some_iff.mp hz).1
          have ht6 := (Le.of p.stp.same).sqT ((fr_le _ _).sqT ht)
          have ht7 : SqT K (fr (D2 :: M) H6) t [.int pr.1, .int pr.2] := (p.le (by simp) n2).sqT ht
          have rf := Stp.refl p.mok (A := []) (by simp)
          refine ⟨rfl, _, rfl, t, _, 0, _, rfl, rfl, ht6, rfl, rfl, _, rfl, ?_⟩
          refine ite2 (fun c3 => ?_) fun c3 => ?_
          · refine ⟨_, rfl, t, _, 1, _, rfl, rfl, ht6, rfl, rfl, _, rfl, ?_⟩
            refine ite2 (fun c4 => ?_) fun c4 => ?_
            · exact ⟨_, rfl, p.step (by simp) n2 mok5 rf (by rw [sizeLine_eq]; omega) (fun acc _ q => yes e1 ht7 (Le.refl _) q)⟩
            · exact p.skip (by simp) n2 mok5 rf (fun acc _ q => no e1 (Le.refl _) q)
          · exact p.skip (by simp) n2 mok5 rf (fun acc _ q => no e1 (Le.refl _) q)
        · refine ⟨_, rfl, rfl, _, rfl, ?_⟩
          refine ite2 (fun c3 => ?_) fun c3 => ?_
          · refine ⟨_, rfl, _, rfl, _, rfl, r, rfl, ⟨_, hr0⟩, fun D2 n2 => lc_list (xs := xs) (LcI [] M D2 H5 (fun i acc F => ∃ bars : List (Int × Int), DpAll K F acc (bars.map pairD) ∧ bars.Sublist ((prod ns').take i))) (LcI.start mok5 (by simp) n2 ⟨[], .nil, List.nil_sublist _⟩)
              (fun i H6 _ p => (Le.of p.stp.same).sqL hr0) (fun i z H6 hz p => ?_) (fun H6 p => ⟨by show 3 ≤ sizeLine; decide, done (by simp) n2 p ((b5.same p.stp.same).le (by omega))⟩)⟩
            obtain ⟨pr, t, e1, rfl, ht⟩ := item hz
            have hi := (List.getElem?_eq_some_iff.mp hz).1
            have ht6 := (Le.of p.stp.same).sqT ((fr_le _ _).sqT ht)
            have ht7 : SqT K (fr (D2 :: M) H6) t [.int pr.1, .int pr.2] := (p.le (by simp) n2).sqT ht
            have rf := Stp.refl p.mok (A := []) (by simp)
            refine ⟨rfl, _, rfl, t, _, 0, _, rfl, rfl, ht6, rfl, _, rfl, t, _, 1, _, rfl, rfl, ht6, rfl, rfl, _, rfl, ?_⟩
            refine ite2 (fun c4 => ?_) fun c4 => ?_
            · exact ⟨_, rfl, p.step (by simp) n2 mok5 rf (by rw [sizeLine_eq]; omega) (fun acc _ q => yes e1 ht7 (Le.refl _) q)⟩
            · exact p.skip (by simp) n2 mok5 rf (fun acc _ q => no e1 (Le.refl _) q)
          · refine ⟨_, rfl, _, rfl, _, rfl, r, rfl, ⟨_, hr0⟩, fun D2 n2 => lc_list (xs := xs) (fun i H6 => LcI [bx] M D2 H5 (fun i acc F => ∃ bars : List (Int × Int), DpAll K F acc (bars.map pairD) ∧ bars.Sublist ((prod ns').take i)) i H6 ∧ BoxI (n + 22 + i) bx H6) ⟨LcI.start mok5 (by simpa using mem) n2 ⟨[], .nil, List.nil_sublist _⟩, (b5.same (same_new n2)).le (by omega)⟩
              (fun i H6 _ p => (fr_le _ _).sqL ((p.1.le (by simpa using mem) n2).sqL hr1)) (fun i z H6 hz p => ?_) (fun H6 p => ⟨by show 3 ≤ sizeLine; decide, done (by simp) n2 p.1 (p.2.le (by omega))⟩)⟩
            obtain ⟨p, bi⟩ := p
            obtain ⟨pr, t, e1, rfl, ht⟩ := item hz
            have hi := (List.getElem?_eq_some_iff.mp hz).1
            refine ⟨rfl, _, rfl, n + 22 + i, bx, 4, rfl, bi, by omega, by decide, by decide, fun v H7 v0 v1 sb7 b7 => ⟨rfl, _, rfl, ?_⟩⟩
            have st : Stp [bx] H6 H7 := ⟨sb7, fun a ha => by rw [List.mem_singleton] at ha; rw [ha]; exact b7.ok⟩
            have le7 : Le (fr (D2 :: M) H6) (fr (D2 :: M) H7) := sb_le sb7 (by intro a ha; rw [List.mem_singleton] at ha; rw [ha]; exact List.mem_cons_of_mem _ mem)
            have ht7 : SqT K (fr (D2 :: M) H7) t [.int pr.1, .int pr.2] := le7.sqT ((p.le (by simpa using mem) n2).sqT ht)
            have nDb : bx ≠ D2 := fun e => by rw [← e] at n2; exact b5.ok n2
            refine ite2 (fun c4 => ?_) fun c4 => ?_
            · obtain ⟨acc, h1, h2, h3⟩ := p.step (by simpa using mem) n2 mok5 st (by rw [sizeLine_eq]; omega) (fun acc _ q => yes e1 ht7 le7 q)
              exact ⟨_, rfl, acc, h1, h2, h3, (b7.le (by omega)).old (A := [D2]) sb_upd (by simpa using nDb)⟩
            · exact ⟨p.skip (by simpa using mem) n2 mok5 st (fun acc _ q => no e1 le7 q), b7.le (by omega)⟩
end
end K75
set_option maxHeartbeats 400000
namespace K75
open PySem PySem.Spec PyProof.Rows L2
theorem dp_strs {K : PySem.W.Frag} {F : Hp} : ∀ (cs : List Nat), DpAll K F (cs.map fun c => V.str ⟨#[c]⟩) (cs.map fun c => PyData.str ⟨#[c]⟩)
  | [] => .nil
  | c :: cs => .cons (.str _) (dp_strs cs)
theorem strs_lay (xs : List Str) (h : ∀ x ∈ xs, PyData.strOk x = true) : PyData.canLayAll0 (xs.map PyData.str) = true := by
  induction xs with
  | nil => simp [PyData.canLayAll0]
  | cons a l ih => simp [PyData.canLayAll0, PyData.canLay0, ih fun x hx => h x (List.mem_cons_of_mem _ hx), h a List.mem_cons_self]
theorem strs_depth (xs : List Str) : PyData.depthAll (xs.map PyData.str) = 0 := by
  induction xs with
  | nil => simp [PyData.depthAll]
  | cons a l ih => simp [PyData.depthAll, PyData.depth, ih]
theorem strsL_shaped (xs : List Str) (h : ∀ x ∈ xs, PyData.strOk x = true) : SeqAt.shaped (.list (xs.map PyData.str)) = true := by
  have h2 : PyData.depth (.list (xs.map PyData.str)) ≤ 64 := by
    simp only [PyData.depth]
    rw [strs_depth]
    decide
  show (PyData.canLay0 (.list (xs.map PyData.str)) && decide (PyData.depth (.list (xs.map PyData.str)) ≤ 64)) = true
  rw [Bool.and_eq_true]
  exact ⟨by simp only [PyData.canLay0]; exact strs_lay xs h, decide_eq_true h2⟩
theorem strs_shaped (cs : List Nat) (h : ∀ c ∈ cs, PyData.strOk ⟨#[c]⟩ = true) : SeqAt.shaped (.list (cs.map fun c => PyData.str ⟨#[c]⟩)) = true := by
  have := strsL_shaped (cs.map fun c => ⟨#[c]⟩) (fun x hx => by
    obtain ⟨c, hc, rfl⟩ := List.mem_map.mp hx
    exact h c hc)
  rw [List.map_map] at this
  exact this
theorem eqv_nil (ds : List PyData) : PyData.eqv (.list ds) (.list []) = ds.isEmpty := by
  cases ds with
  | nil => simp [PyData.eqv, PyData.eqvAll]
  | cons a l => simp [PyData.eqv, PyData.eqvAll]
def inD (ns : List Str) : PyData → Bool
  | .str x => decide (x ∈ ns)
  | _ => false
abbrev s__law_made : Stmt := top 60
theorem sc__law_made : FnScope ["_law_model"] ["_law_model"] (defScope s__law_made) := ⟨rfl, rfl, rfl, by decide +kernel, rfl, by decide +kernel, by decide +kernel⟩
abbrev s__law_value : Stmt := top 61
theorem sc__law_value : FnScope ["_law_base", "_law_row_here", "_law_total", "_law_digit"] ["_law_base", "_law_row_here"] (defScope s__law_value) := ⟨rfl, rfl, rfl, by decide +kernel, rfl, by decide +kernel, by decide +kernel⟩
abbrev s__law_is_name : Stmt := top 66
theorem sc__law_is_name : FnScope ["_law_thing", "_law_letter"] ["_law_thing"] (defScope s__law_is_name) := ⟨rfl, rfl, rfl, by decide +kernel, rfl, by decide +kernel, by decide +kernel⟩
abbrev s__law_known : Stmt := top 67
theorem sc__law_known : FnScope ["_law_thing", "_law_tally"] ["_law_thing", "_law_tally"] (defScope s__law_known) := ⟨rfl, rfl, rfl, by decide +kernel, rfl, by decide +kernel, by decide +kernel⟩
section
variable {P : Program} {w : World} {K : PySem.W.Frag} {mg : Str → Option Value} {base : Heap} (B : Blt mg) {CS : Addr} (C : SchC K mg CS)
include B C
def sp_l_made (K : PySem.W.Frag) (CS : Addr) : Sp := fun vs H Q _ => ∃ M m s, vs = [.ref m] ∧ Mok M H ∧ ModelAt K (fr M H) m s ∧ GoodS s ∧ ∀ H' x, Same H H' → H x = none → SchAt K CS (fr M H') x s → Q (.ref x) H'
theorem ok_l_made (D : FnD K mg "_law_made" s__law_made [] []) (F_Scheme : SchM P w K mg base CS) : Fn P w K mg base "_law_made" 6 (sp_l_made K CS) := by
  refine D.fn sc__law_made (fun _ _ _ _ _ _ us hl => match us, hl with | [_], _ => rfl) (fun vs H Q E h => ?_) (fun f cdv A outer s H vs Q E hr h => ?_)
  · obtain ⟨_, _, _, rfl, _⟩ := h
    rfl
  · obtain ⟨M, m, sc, rfl, mok, ⟨ld, lb, h1, h2, h3⟩, g, q⟩ := h
    refine ⟨_, (pss_one (ps_ret (pe_mkS F_Scheme C hr (pe_ix ix_list (pv 0) pe_int (fun _ _ => rfl)) (pe_ix ix_list (pv 0) pe_int (fun _ _ => rfl)) (pe_ix ix_list (pv 0) pe_int (fun _ _ => rfl))))), ?_⟩
    have hm := (fr_le M H).sqL h1
    exact ⟨_, rfl, m, _, 0, _, rfl, rfl, hm, rfl, _, rfl, m, _, 1, _, rfl, rfl, hm, rfl, _, rfl, m, _, 2, _, rfl, rfl, hm, rfl, mkS_ans mok h2 h3 g q⟩
def sp_l_value (K : PySem.W.Frag) : Sp := fun vs H Q _ => ∃ t s row, vs = [.int s.base, .ref t] ∧ GoodS s ∧ SqT K H t (row.map V.int) ∧ rowD s (.tuple (row.map PyData.int)) = true ∧ row.length ≤ 10000 ∧ Q (.int (val s.base row)) H
theorem ok_l_value (D : FnD K mg "_law_value" s__law_value [] []) : Fn P w K mg base "_law_value" 1 (sp_l_value K) := by
  refine D.fn sc__law_value (fun _ _ _ _ _ _ us hl => match us, hl with | [_, _], _ => rfl) (fun vs H Q E h => ?_) (fun f cdv A outer s H vs Q E hr h => ?_)
  · obtain ⟨_, _, _, rfl, _⟩ := h
    rfl
  · obtain ⟨t, sc, row, rfl, g, ht, hrow, hz, q⟩ := h
    refine ⟨_, (pss_cons (ps_set (i := 2) sc__law_value.nd rfl (.inl rfl) pe_int) (pss_cons (ps_for (passes_of rfl) rfl (pi_tup (pv 1)) (pg_name (i := 3) sc__law_value.nd rfl (.inl rfl)) (pss_one (ps_set (i := 2) sc__law_value.nd rfl (.inl rfl) (pe_op op_add (pe_op op_mulW (pv 2) (pv 0)) (pv 3))))) (pss_one (ps_ret (pv 2))))), ?_⟩
    refine ⟨_, rfl, t, rfl, ⟨_, ht⟩, for_tup (xs := row.map V.int) (fun i σ H' => (∃ y, σ = [some (.int sc.base), some (.ref t), some (.int (val sc.base (row.take i))), y]) ∧ H' = H) ⟨⟨_, rfl⟩, rfl⟩
      (fun i σ H' _ p => by rw [p.2]; exact ht) (fun i x σ H' hx p => ?_) (fun σ H' p => ?_)⟩
    · obtain ⟨⟨y, rfl⟩, rfl⟩ := p
      rw [List.getElem?_map] at hx
      cases e : row[i]? with
      | none => rw [e] at hx; cases hx
      | some n =>
        rw [e] at hx
        cases hx
        refine ⟨_, rfl, _, rfl, _, _, rfl, rfl, val_wide g e hrow hz, _, rfl, _, _, rfl, rfl, ⟨some (.int n), ?_⟩, rfl⟩
        rw [take_succ_of e, val_snoc]
        rfl
    · obtain ⟨⟨y, rfl⟩, rfl⟩ := p
      rw [List.length_map, List.take_length]
      exact ⟨_, rfl, q⟩
def sp_l_known (K : PySem.W.Frag) : Sp := fun vs H Q _ => ∃ (v : V) (d : PyData) (a : Addr) (kvs : List (Key × V)) (ns : List Str), vs = [v, .ref a] ∧ Dp K H v d ∧ Rd H a (.dK kvs) ∧ kvs.map (·.1) = ns.map Sum.inr ∧ Q (.bl (inD ns d)) H
theorem ok_l_known (D : FnD K mg "_law_known" s__law_known [] []) : Fn P w K mg base "_law_known" 1 (sp_l_known K) := by
  refine D.fn sc__law_known (fun _ _ _ _ _ _ us hl => match us, hl with | [_, _], _ => rfl) (fun vs H Q E h => ?_) (fun f cdv A outer s H vs Q E hr h => ?_)
  · obtain ⟨_, _, _, _, _, rfl, _⟩ := h
    rfl
  · obtain ⟨v, d, a, kvs, ns, rfl, hd, ha, hk, q⟩ := h
    refine ⟨_, (pss_one (ps_ret (pe_and (pe_callB call_isi (by rfl) B.isinstance (by decide +kernel) (pa_cons (pv 0) (pa_cons (pe_bltn (v := .ty "str") (by rfl) B.str (by decide +kernel) rfl) pa_nil))) (pe_one (pe_cmp (pc_din (hu_of hr) (pv 0) (pv 1)) rfl))))), ?_⟩
    refine ⟨v, rfl, v, .ty "str", _, _, _, rfl, .ty _, tyX_of hd, kit_str d, _, rfl, ?_⟩
    cases hd with
    | str x =>
      refine ⟨_, rfl, _, rfl, a, _, rfl, .inl ⟨kvs, .inr x, ha, rfl, rfl⟩, ?_⟩
      have e : (valV kvs (.inr x)).isSome = decide (x ∈ ns) := by
        rw [← valV_any, Bool.eq_iff_iff, List.any_eq_true, decide_eq_true_eq]
        have h1 : (.inr x : Key) ∈ kvs.map (·.1) ↔ x ∈ ns := by
          rw [hk]
          constructor
          · intro h
            obtain ⟨z, hz, e⟩ := List.mem_map.mp h
            cases e
            exact hz
          · intro h
            exact List.mem_map.mpr ⟨x, h, rfl⟩
        rw [← h1, List.mem_map]
        constructor
        · rintro ⟨p, hp, e⟩; exact ⟨p, hp, of_decide_eq_true e⟩
        · rintro ⟨p, hp, e⟩; exact ⟨p, hp, decide_eq_true e⟩
      rw [e]
      exact q
    | _ => exact q
def sp_l_is_name (K : PySem.W.Frag) : Sp := fun vs H Q _ => ∃ v d, vs = [v] ∧ Dp K H v d ∧ (∀ x, d = .str x → x.length ≤ 1000 ∧ ∀ c ∈ x.cps.toList, PyData.strOk ⟨#[c]⟩ = true) ∧ ∀ H', Same H H' → Q (.bl (isName d)) H'
theorem ok_l_is_name (D : FnD K mg "_law_is_name" s__law_is_name [] []) : Fn P w K mg base "_law_is_name" 1 (sp_l_is_name K) := by
  refine D.fn sc__law_is_name (fun _ _ _ _ _ _ us hl => match us, hl with | [_], _ => rfl) (fun vs H Q E h => ?_) (fun f cdv A outer s H vs Q E hr h => ?_)
  · obtain ⟨_, _, rfl, _⟩ := h
    rfl
  · obtain ⟨v, d, rfl, hd, hsh, q⟩ := h
    refine ⟨_, (pss_cons (ps_if (PW.pt (pw_or (pt_not (pt_val (pe_callB call_isi (by rfl) B.isinstance (by decide +kernel) (pa_cons (pv 0) (pa_cons (pe_bltn (v := .ty "str") (by rfl) B.str (by decide +kernel) rfl) pa_nil))))) (pw_or (pt_cmpR op_lt (pe_callB call_len (by rfl) B.len (by decide +kernel) (pa_cons (pv 0) pa_nil)) pe_int (nomark _)) (pw_or1 (pt_cmpR op_gt (pe_callB call_len (by rfl) B.len (by decide +kernel) (pa_cons (pv 0) pa_nil)) pe_int (nomark _)))))) (pss_one (ps_ret pe_bl)) pss_nil) (pss_one (ps_ret (pe_cmpR (op_eqD hr.units) (pe_lc rfl sc__law_is_name.nd (own := [("_law_letter", 1)]) (g := gName 1) (tt := _) (pi_str (pv 0)) (blkOk_by (N := ["_law_thing", "_law_letter"]) (sc := defScope s__law_is_name) (by decide +kernel)) (fun _ _ _ _ _ => (pg_name (i := 1) sc__law_is_name.nd rfl (.inl rfl))) (fun _ _ _ _ _ => (pts_one (pt_cmpR op_notIn_str (pv 1) pe_str (by rfl)))) (fun _ _ _ _ _ => (pv 1))) (pe_lst pa_nil) (nomark _))))), ?_⟩
    refine ⟨v, rfl, v, .ty "str", _, _, _, rfl, .ty _, tyX_of hd, kit_str d, _, rfl, ?_⟩
    cases hd with
    | str x =>
      have hx := (hsh x rfl).1
      have hs : x.length ≤ sizeLine := by rw [sizeLine_eq]; omega
      refine ⟨_, rfl, _, x.length, rfl, ⟨hs, rfl⟩, _, _, rfl, rfl, _, rfl, ?_⟩
      have eN : isName (.str x) = (decide (1 ≤ x.length) && decide (x.length ≤ 8) && x.cps.toList.all isLetter) := rfl
      refine ite2 (fun c1 => ?_) fun c1 => ?_
      · have c1 : (x.length : Int) < 1 := of_decide_eq_true c1
        have := q H (Same.refl H)
        rw [eN, decide_eq_false (by omega : ¬ 1 ≤ x.length), Bool.false_and, Bool.false_and] at this
        exact this
      · have c1 : ¬ (x.length : Int) < 1 := fun h => c1 (decide_eq_true h)
        refine ⟨_, rfl, _, x.length, rfl, ⟨hs, rfl⟩, _, _, rfl, rfl, _, rfl, ?_⟩
        refine ite2 (fun c2 => ?_) fun c2 => ?_
        · have c2 : (8 : Int) < (x.length : Int) := of_decide_eq_true c2
          have := q H (Same.refl H)
          rw [eN, decide_eq_false (by omega : ¬ x.length ≤ 8), Bool.and_false, Bool.false_and] at this
          exact this
        · have c2 : ¬ (8 : Int) < (x.length : Int) := fun h => c2 (decide_eq_true h)
          have hcx : x.length = x.cps.size := rfl
          refine ⟨_, rfl, _, rfl, fun Dl nD => lc_str (z := x) (LcI [] [] Dl H (Filt x.cps.toList (fun c => !isLetter c) fun c => .str ⟨#[c]⟩)) (LcI.start (by intro a h; cases h) (by simp) nD Filt.zero) (fun i c H' hc p => ?_) (fun H' p => ?_)⟩
          · have hc2 : x.cps.toList[i]? = some c := by rw [Array.getElem?_toList]; exact hc
            have hi : i < x.cps.size := (Array.getElem?_eq_some_iff.mp hc).1
            have rf := Stp.refl p.mok (A := []) (by simp)
            refine ⟨rfl, _, rfl, _, _, rfl, rfl, _, rfl, ?_⟩
            refine ite2 (fun c3 => ?_) fun c3 => ?_
            · exact ⟨_, rfl, p.step (by simp) nD (by intro a h; cases h) rf (by rw [sizeLine_eq]; omega) (fun acc _ r => r.yes hc2 c3)⟩
            · exact p.skip (by simp) nD (by intro a h; cases h) rf (fun acc _ r => r.no hc2 (Bool.eq_false_iff.mpr c3))
          · obtain ⟨acc, hA, _, r⟩ := p.ex
            have r2 : Filt x.cps.toList (fun c => !isLetter c) (fun c => V.str ⟨#[c]⟩) x.cps.toList.length acc (fr [Dl] H') := by
              rw [Array.length_toList]; exact r
            have e := r2.all
            subst e
            refine ⟨by show 0 ≤ sizeLine; decide, fun l0 n0 => ⟨.list ((x.cps.toList.filter fun c => !isLetter c).map fun c => .str ⟨#[c]⟩), .list [], .lst (.inl (.inl ?_)) (dp_strs _), .lst (.inl (.inl upd_same)) .nil, strs_shaped _ (fun c hc => (hsh x rfl).2 c (List.mem_filter.mp hc).1), by decide, ?_⟩⟩
            · have := same_new (o := .lst []) n0 _ _ hA
              exact this
            · have := q _ (p.stp.same.trans (same_new (o := .lst []) n0))
              rw [eN, decide_eq_true (by omega : 1 ≤ x.length), decide_eq_true (by omega : x.length ≤ 8), Bool.true_and, Bool.true_and] at this
              have e2 : PyData.eqv (.list ((x.cps.toList.filter fun c => !isLetter c).map fun c => .str ⟨#[c]⟩)) (.list []) = x.cps.toList.all isLetter := by
                rw [eqv_nil, List.isEmpty_map]
                induction x.cps.toList with
                | nil => rfl
                | cons a l ih =>
                  rw [List.all_cons, ← ih]
                  by_cases h : isLetter a = true
                  · rw [List.filter_cons_of_neg (by simp [h]), h, Bool.true_and]
                  · rw [List.filter_cons_of_pos (by simp [h]), Bool.eq_false_iff.mpr h, Bool.false_and]
                    rfl
              rw [e2]
              exact this
    | _ => exact q H (Same.refl H)
end
end K75
set_option maxHeartbeats 400000
namespace K75
open PySem PySem.Spec PyProof.Rows L2
theorem ints_shaped (ns : List Int) : SeqAt.shaped (.list (ns.map PyData.int)) = true := by
  have h2 : PyData.depth (.list (ns.map PyData.int)) ≤ 64 := by
    simp only [PyData.depth]
    rw [ints_depth]
    decide
  show (PyData.canLay0 (.list (ns.map PyData.int)) && decide (PyData.depth (.list (ns.map PyData.int)) ≤ 64)) = true
  rw [Bool.and_eq_true]
  exact ⟨by simp only [PyData.canLay0]; exact ints_lay ns, decide_eq_true h2⟩
theorem row_has (sc : Sch) : ∀ row : List Int, (row.filter fun d => !decide (d ∈ sc.digits)).isEmpty = (row.map PyData.int).all (hasD sc)
  | [] => rfl
  | a :: l => by
    rw [List.map_cons, List.all_cons, ← row_has sc l]
    show _ = (decide (a ∈ sc.digits) && _)
    by_cases h : a ∈ sc.digits
    · rw [List.filter_cons_of_neg (by simp [h]), decide_eq_true h, Bool.true_and]
    · rw [List.filter_cons_of_pos (by simp [h]), decide_eq_false h, Bool.false_and]
      rfl
theorem atI_int {row : List Int} {k : Int} {j : Nat} (e : k = (j : Int)) (h : j < row.length) : atI (row.map V.int) k = some (.int row[j]) := by
  subst e
  unfold atI ixN
  rw [if_pos (by omega), if_pos (by rw [List.length_map]; omega)]
  show (row.map V.int)[(j : Int).toNat]? = _
  rw [Int.toNat_natCast, List.getElem?_map, List.getElem?_eq_getElem h]
  rfl
theorem pairs_shapedL (ps : List (Int × Int)) : SeqAt.shaped (.list (ps.map pairD)) = true := by
  have h1 := pairs_depth ps
  have h2 : PyData.depth (.list (ps.map pairD)) ≤ 64 := by
    simp only [PyData.depth]
    omega
  show (PyData.canLay0 (.list (ps.map pairD)) && decide (PyData.depth (.list (ps.map pairD)) ≤ 64)) = true
  rw [Bool.and_eq_true]
  exact ⟨by simp only [PyData.canLay0]; exact pairs_lay ps, decide_eq_true h2⟩
def prAt (row : List Int) (bars : List (Int × Int)) (j : Nat) : Bool := match (nbrs row)[j]? with
  | some p => decide (p ∈ bars)
  | none => false
theorem pr_all (row : List Int) (bars : List (Int × Int)) : ((List.range (nbrs row).length).filter (prAt row bars)).isEmpty = (nbrs row).all fun p => !decide (p ∈ bars) := by
  rw [Bool.eq_iff_iff, List.isEmpty_iff, List.filter_eq_nil_iff, List.all_eq_true]
  constructor
  · intro h p hp
    obtain ⟨j, hj, e⟩ := List.mem_iff_getElem.mp hp
    have := h j (List.mem_range.mpr hj)
    unfold prAt at this
    rw [List.getElem?_eq_getElem hj, e] at this
    simpa using this
  · intro h j hj
    rw [List.mem_range] at hj
    unfold prAt
    rw [List.getElem?_eq_getElem hj]
    have := h _ (List.getElem_mem hj)
    simpa using this
abbrev s__law_is_row : Stmt := top 62
theorem sc__law_is_row : FnScope ["_law_model", "_law_row_here", "_law_digit", "_law_k"] ["_law_model", "_law_row_here"] (defScope s__law_is_row) := ⟨rfl, rfl, rfl, by decide +kernel, rfl, by decide +kernel, by decide +kernel⟩
section
variable {P : Program} {w : World} {K : PySem.W.Frag} {mg : Str → Option Value} {base : Heap} (B : Blt mg)
include B
def sp_l_is_row (K : PySem.W.Frag) : Sp := fun vs H Q _ => ∃ (m t : Addr) (s : Sch) (row : List Int), vs = [.ref m, .ref t] ∧ ModelAt K H m s ∧ GoodS s ∧ SqT K H t (row.map V.int) ∧ row.length ≤ 1000 ∧ ∀ H', Same H H' → Q (.bl (rowD s (.tuple (row.map PyData.int)))) H'
theorem ok_l_is_row (D : FnD K mg "_law_is_row" s__law_is_row [] []) : Fn P w K mg base "_law_is_row" 1 (sp_l_is_row K) := by
  refine D.fn sc__law_is_row (fun _ _ _ _ _ _ us hl => match us, hl with | [_, _], _ => rfl) (fun vs H Q E h => ?_) (fun f cdv A outer s H vs Q E hr h => ?_)
  · obtain ⟨_, _, _, _, rfl, _⟩ := h
    rfl
  · obtain ⟨m, t, sc, row, rfl, ⟨ld, lb, h1, h2, h3⟩, g, ht, hz, q⟩ := h
    refine ⟨_, (pss_cons (ps_if (pt_cmpR (op_neD hr.units) (pe_lc rfl sc__law_is_row.nd (own := [("_law_digit", 2)]) (g := gName 2) (tt := _) (pi_tup (pv 1)) (blkOk_by (N := ["_law_model", "_law_row_here", "_law_digit", "_law_k"]) (sc := defScope s__law_is_row) (by decide +kernel)) (fun _ _ _ _ _ => (pg_name (i := 2) sc__law_is_row.nd rfl (.inl rfl))) (fun _ _ _ _ _ => (pts_one (pt_cmpR (r := rIn K true) op_notIn_seq (pv 2) (pe_ix (r := rIxL K) ix_list (pv 0) pe_int (fun _ _ => rfl)) (by rfl)))) (fun _ _ _ _ _ => (pv 2))) (pe_lst pa_nil) (nomark _)) (pss_one (ps_ret pe_bl)) pss_nil) (pss_one (ps_ret (pe_cmpR (op_eqD hr.units) (pe_lc rfl sc__law_is_row.nd (own := [("_law_k", 3)]) (g := gName 3) (tt := _) (pi_range2 (by rfl) B.range (pa_cons pe_int (pa_cons (pe_callB call_len (by rfl) B.len (by decide +kernel) (pa_cons (pv 1) pa_nil)) pa_nil))) (blkOk_by (N := ["_law_model", "_law_row_here", "_law_digit", "_law_k"]) (sc := defScope s__law_is_row) (by decide +kernel)) (fun _ _ _ _ _ => (pg_name (i := 3) sc__law_is_row.nd rfl (.inl rfl))) (fun _ _ _ _ _ => (pts_one (pt_cmpR (r := rInD K) (op_inD (hu65 hr)) (pe_tup (pa_cons (pe_ix (r := rIxT K) ix_tup (pv 1) (pe_op op_sub (pv 3) pe_int) (fun _ _ => rfl)) (pa_cons (pe_ix (r := rIxT K) ix_tup (pv 1) (pv 3) (fun _ _ => rfl)) pa_nil))) (pe_ix (r := rIxL K) ix_list (pv 0) pe_int (fun _ _ => rfl)) (by rfl)))) (fun _ _ _ _ _ => (pv 3))) (pe_lst pa_nil) (nomark _))))), ?_⟩
    refine ⟨_, rfl, t, rfl, ⟨_, ht⟩, fun Dl nD => lc_tup (xs := row.map V.int) (LcI [] [] Dl H (Filt row (fun d => !decide (d ∈ sc.digits)) V.int)) (LcI.start (by intro a h; cases h) (by simp) nD Filt.zero)
      (fun i H' _ p => (Le.of p.stp.same).sqT ht) (fun i x H' hx p => ?_) (fun H' p => ?_)⟩
    · rw [List.getElem?_map] at hx
      cases e : row[i]? with
      | none => rw [e] at hx; cases hx
      | some d =>
        rw [e] at hx
        cases hx
        have hi := (List.getElem?_eq_some_iff.mp e).1
        have s1 := p.stp.same
        have rf := Stp.refl p.mok (A := []) (by simp)
        refine ⟨rfl, _, rfl, _, rfl, m, _, 1, _, rfl, rfl, (Le.of s1).sqL h1, rfl, ld, _, rfl, .inl ((Le.of s1).sqL h2), rfl, flat_ints _, _, rfl, ?_⟩
        show if (!inV (.int d) (sc.digits.map V.int)) = true then _ else _
        rw [inV_ints]
        refine ite2 (fun c => ?_) fun c => ?_
        · exact ⟨_, rfl, p.step (by simp) nD (by intro a h; cases h) rf (by rw [sizeLine_eq]; omega) (fun acc _ r => r.yes e c)⟩
        · exact p.skip (by simp) nD (by intro a h; cases h) rf (fun acc _ r => r.no e (Bool.eq_false_iff.mpr c))
    · obtain ⟨acc, hA, _, r⟩ := p.ex
      rw [List.length_map] at r
      have e := r.all
      subst e
      have s1 := p.stp.same
      refine ⟨by show 0 ≤ sizeLine; decide, fun l0 n0 => ⟨.list ((row.filter fun d => !decide (d ∈ sc.digits)).map PyData.int), .list [], .lst (.inl (.inl (same_new (o := .lst []) n0 _ _ hA))) (dp_ints _), .lst (.inl (.inl upd_same)) .nil, ints_shaped _, by decide, _, rfl, ?_⟩⟩
      have s2 := s1.trans (same_new (o := .lst []) n0)
      rw [eqv_nil, List.isEmpty_map]
      have e0 := row_has sc row
      rw [e0]
      refine ite2 (fun c => ?_) fun c => ?_
      · have e : rowD sc (.tuple (row.map PyData.int)) = false := by
          show ((row.map PyData.int).all (hasD sc) && _) = false
          rw [show (row.map PyData.int).all (hasD sc) = false by simpa using c, Bool.false_and]
        have := q _ s2
        rw [e] at this
        exact this
      · have c : (row.map PyData.int).all (hasD sc) = true := by simpa using c
        have hnl : (nbrs row).length = row.length - 1 := by unfold nbrs; rw [List.length_zip, List.length_drop]; omega
        refine ⟨_, rfl, _, (row.map V.int).length, rfl, .inr ⟨_, (Le.of s2).sqT ht, rfl⟩, 1, _, rfl, ⟨by decide, by decide, by rw [List.length_map]; omega, by rw [List.length_map]; omega⟩, fun D2 n2 => lc_range (LcI [] [] D2 _ (fun i acc _ => acc = ((List.range i).filter (prAt row sc.bars)).map fun (j : Nat) => V.int (1 + (j : Int)))) (LcI.start (by intro a h; cases h) (by simp) n2 rfl)
          (fun i H5 hi p => ?_) (fun H5 p => ?_)⟩
        · rw [List.length_map] at hi
          have i1 : i + 1 < row.length := by omega
          have s5 := s2.trans p.stp.same
          have ht5 := (Le.of s5).sqT ht
          have hnb : (nbrs row)[i]? = some (row[i]'(by omega), row[i + 1]'i1) := by
            unfold nbrs
            rw [List.getElem?_zip_eq_some]
            refine ⟨List.getElem?_eq_getElem (by omega), ?_⟩
            rw [List.getElem?_drop, Nat.add_comm]
            exact List.getElem?_eq_getElem i1
          have hpr : prAt row sc.bars i = decide ((row[i]'(by omega), row[i + 1]'i1) ∈ sc.bars) := by unfold prAt; rw [hnb]
          refine ⟨rfl, _, rfl, _, rfl, _, _, rfl, rfl, t, _, _, _, rfl, rfl, ht5, atI_int (j := i) (by omega) (by omega), _, rfl, _, rfl, t, _, _, _, rfl, rfl, ht5, atI_int (j := i + 1) (by omega) i1, by show 2 ≤ sizeLine; decide, fun tt nt => ?_⟩
          have s6 := s5.trans (same_new (o := .tup [.int (row[i]'(by omega)), .int (row[i + 1]'i1)]) nt)
          refine ⟨_, rfl, m, _, 2, _, rfl, rfl, (Le.of s6).sqL h1, rfl, pairD (row[i]'(by omega), row[i + 1]'i1), _, .tup (.inl (.inl upd_same)) (.cons (.int _) (.cons (.int _) .nil)), (Le.of s6).dp h3, pair_shaped _, pairs_shapedL _, _, rfl, ?_⟩
          rw [any_pairs, ← hpr]
          refine ite2 (fun c5 => ?_) fun c5 => ?_
          · exact ⟨_, rfl, p.step (by simp) n2 (by intro a h; cases h) (.nil (same_new nt)) (by rw [sizeLine_eq]; omega) (fun acc _ r => by
              rw [r, List.range_succ, List.filter_append, List.map_append, List.filter_cons_of_pos c5]; rfl)⟩
          · exact p.skip (by simp) n2 (by intro a h; cases h) (.nil (same_new nt)) (fun acc _ r => by
              rw [r, List.range_succ, List.filter_append, List.filter_cons_of_neg c5]; simp)
        · obtain ⟨acc, hA, _, r⟩ := p.ex
          subst r
          have s5 := s2.trans p.stp.same
          have hn : ((((row.map V.int).length : Nat) : Int) - 1).toNat = (nbrs row).length := by rw [List.length_map]; omega
          rw [hn] at hA
          refine ⟨by show 0 ≤ sizeLine; decide, fun l1 n1 => ⟨.list ((((List.range (nbrs row).length).filter (prAt row sc.bars)).map fun (j : Nat) => 1 + (j : Int)).map PyData.int), .list [], .lst (.inl (.inl (by
            have := same_new (o := .lst []) n1 _ _ hA
            rw [this, List.map_map]
            rfl))) (dp_ints _), .lst (.inl (.inl upd_same)) .nil, ints_shaped _, by decide, ?_⟩⟩
          rw [eqv_nil, List.isEmpty_map, List.isEmpty_map, pr_all]
          have := q _ (s5.trans (same_new (o := .lst []) n1))
          rw [rowD_ints c] at this
          exact this
end
end K75
set_option maxHeartbeats 400000
namespace K75
open PySem PySem.Spec PyProof.Rows L2
def names : List Str := (["a", "b", "nag", "naf", "plain", "abcdefgh", "abcdefgx"] : List Str) ++ alpha.cps.toList.map fun c => (⟨#[c]⟩ : Str)
/-- odd names -/
def odds : List PyData := [.str "", .str "A", .str "a1", .str "abcdefghi", .none, .int 3, .list [.str "a"], .bool true, .str "a b"]
def AnyN (d : PyData) : Prop := d ∈ odds ∨ ∃ x, d = .str x ∧ x ∈ names
abbrev s__law_name : Stmt := top 64
theorem sc__law_name : FnScope ["_law_box_here", "_law_letter"] ["_law_box_here"] (defScope s__law_name) := ⟨rfl, rfl, rfl, by decide +kernel, rfl, by decide +kernel, by decide +kernel⟩
abbrev s__law_any_name : Stmt := top 65
theorem sc__law_any_name : FnScope ["_law_box_here", "_law_odd"] ["_law_box_here"] (defScope s__law_any_name) := ⟨rfl, rfl, rfl, by decide +kernel, rfl, by decide +kernel, by decide +kernel⟩
section
variable {P : Program} {w : World} {K : PySem.W.Frag} {mg : Str → Option Value} {base : Heap} (B : Blt mg)
include B
def sp_l_name : Sp := fun vs H Q _ => ∃ n bx, vs = [.ref bx] ∧ BoxI n bx H ∧ n < 700000 ∧ ∀ x H', SB [bx] H H' → BoxI (n + 2) bx H' → x ∈ names → Q (.str x) H'
theorem ok_l_name (D : FnD K mg "_law_name" s__law_name [] []) (F__law_take : Fn P w K mg base "_law_take" 1 sp_l_take) : Fn P w K mg base "_law_name" 2 sp_l_name := by
  refine D.fn sc__law_name (fun _ _ _ _ _ _ us hl => match us, hl with | [_], _ => rfl) (fun vs H Q E h => ?_) (fun f cdv A outer s H vs Q E hr h => ?_)
  · obtain ⟨_, _, rfl, _⟩ := h
    rfl
  · obtain ⟨n, bx, rfl, hbx, hn, q⟩ := h
    refine ⟨_, (pss_cons (ps_set (i := 1) sc__law_name.nd rfl (.inl rfl) (pe_ix ix_str pe_str (c0 F__law_take hr (pa_cons (pv 0) (pa_cons pe_int pa_nil))) (fun _ _ => rfl))) (pss_one (ps_ret (pe_ix ix_list (pe_lst (pa_cons pe_str (pa_cons pe_str (pa_cons pe_str (pa_cons pe_str (pa_cons pe_str (pa_cons pe_str (pa_cons pe_str (pa_cons pe_str (pa_cons pe_str (pa_cons (pv 1) pa_nil))))))))))) (c0 F__law_take hr (pa_cons (pv 0) (pa_cons pe_int pa_nil))) (fun _ _ => rfl))))), ?_⟩
    refine ⟨_, rfl, n, bx, 26, rfl, hbx, by omega, by decide, by decide, fun i H1 i1 i2 sb1 b1 => ?_⟩
    obtain ⟨c, hc, hcm⟩ : ∃ c, atI alpha.cps.toList i = some c ∧ c ∈ alpha.cps.toList := by
      have hl : alpha.cps.toList.length = 26 := by decide +kernel
      have hi : i.toNat < alpha.cps.toList.length := by omega
      refine ⟨alpha.cps.toList[i.toNat], ?_, List.getElem_mem hi⟩
      unfold atI ixN
      rw [if_pos i1, if_pos (by omega)]
      exact List.getElem?_eq_getElem hi
    refine ⟨alpha, i, c, rfl, rfl, by decide +kernel, hc, ?_⟩
    refine ⟨_, rfl, by show 10 ≤ sizeLine; decide, fun l0 n0 => ?_⟩
    have b2 := b1.same (same_new (o := .lst ((["a", "b", "nag", "naf", "plain", "abcdefgh", "abcdefgx", "a", "naf", ⟨#[c]⟩] : List Str).map V.str)) n0)
    refine ⟨_, rfl, n + 1, bx, 10, rfl, b2, by omega, by decide, by decide, fun j H2 j1 j2 sb2 b3 => ?_⟩
    have d0 : l0 ≠ bx := fun e => by rw [e] at n0; exact b1.ok n0
    have hj : j.toNat < (["a", "b", "nag", "naf", "plain", "abcdefgh", "abcdefgx", "a", "naf", ⟨#[c]⟩] : List Str).length := by show j.toNat < 10; omega
    refine ⟨l0, (["a", "b", "nag", "naf", "plain", "abcdefgh", "abcdefgx", "a", "naf", ⟨#[c]⟩] : List Str).map V.str, j, .str ((["a", "b", "nag", "naf", "plain", "abcdefgh", "abcdefgx", "a", "naf", ⟨#[c]⟩] : List Str)[j.toNat]), rfl, rfl, .inl (.inl (sb2 _ _ (by simpa using d0) upd_same)), ?_, ?_⟩
    · unfold atI ixN
      rw [if_pos j1, if_pos (by rw [List.length_map]; omega)]
      show (_ : List V)[j.toNat]? = _
      rw [List.getElem?_map, List.getElem?_eq_getElem hj]
      rfl
    · refine q _ H2 ((sb1.trans (sb_same (same_new n0) [bx])).trans sb2) b3 ?_
      have hm := List.getElem_mem hj
      generalize (["a", "b", "nag", "naf", "plain", "abcdefgh", "abcdefgx", "a", "naf", ⟨#[c]⟩] : List Str)[j.toNat] = z at *
      simp only [List.mem_cons, List.not_mem_nil, or_false] at hm
      unfold names
      rw [List.mem_append]
      rcases hm with rfl | rfl | rfl | rfl | rfl | rfl | rfl | rfl | rfl | rfl
      all_goals first
        | exact .inr (List.mem_map.mpr ⟨c, hcm, rfl⟩)
        | (left; simp; done)
def sp_l_any_name (K : PySem.W.Frag) : Sp := fun vs H Q _ => ∃ n M bx, vs = [.ref bx] ∧ BoxI n bx H ∧ Mok M H ∧ bx ∈ M ∧ n < 600000 ∧ ∀ v d H', SB [bx] H H' → BoxI (n + 4) bx H' → Dp K (fr M H') v d → AnyN d → Q v H'
theorem ok_l_any_name (D : FnD K mg "_law_any_name" s__law_any_name [] []) (F__law_take : Fn P w K mg base "_law_take" 1 sp_l_take) (F__law_name : Fn P w K mg base "_law_name" 2 sp_l_name) : Fn P w K mg base "_law_any_name" 3 (sp_l_any_name K) := by
  refine D.fn sc__law_any_name (fun _ _ _ _ _ _ us hl => match us, hl with | [_], _ => rfl) (fun vs H Q E h => ?_) (fun f cdv A outer s H vs Q E hr h => ?_)
  · obtain ⟨_, _, _, rfl, _⟩ := h
    rfl
  · obtain ⟨n, M, bx, rfl, hbx, mok, mem, hn, q⟩ := h
    refine ⟨_, (pss_cons (ps_set (i := 1) sc__law_any_name.nd rfl (.inl rfl) (pe_lst (pa_cons pe_str (pa_cons pe_str (pa_cons pe_str (pa_cons pe_str (pa_cons pe_non (pa_cons pe_int (pa_cons (pe_lst (pa_cons pe_str pa_nil)) (pa_cons pe_bl (pa_cons pe_str pa_nil))))))))))) (pss_one (ps_ret (pe_ifExp (pt_cmpR op_eq (c0 F__law_take hr (pa_cons (pv 0) (pa_cons pe_int pa_nil))) pe_int (nomark _)) (pe_ix ix_list (pv 1) (c0 F__law_take hr (pa_cons (pv 0) (pa_cons pe_int pa_nil))) (fun _ _ => rfl)) (c0 F__law_name hr (pa_cons (pv 0) pa_nil)))))), ?_⟩
    refine ⟨by show 1 ≤ sizeLine; decide, fun la na => ⟨by show 9 ≤ sizeLine; decide, fun lo no => ?_⟩⟩
    have s1 := same_new (o := .lst [.str "a"]) na
    have s2 := s1.trans (same_new (o := .lst [.str "", .str "A", .str "a1", .str "abcdefghi", .non, .int 3, .ref la, .bl true, .str "a b"]) no)
    have b2 := hbx.same s2
    have m2 := mok.same s2
    have hla : SqL K (fr M (upd (upd H la (.lst [.str "a"])) lo (.lst [.str "", .str "A", .str "a1", .str "abcdefghi", .non, .int 3, .ref la, .bl true, .str "a b"]))) la [.str "a"] := (upd_le no).sqL (.inl (.inl (upd_fr na mok)))
    have hlo : SqL K (fr M (upd (upd H la (.lst [.str "a"])) lo (.lst [.str "", .str "A", .str "a1", .str "abcdefghi", .non, .int 3, .ref la, .bl true, .str "a b"]))) lo [.str "", .str "A", .str "a1", .str "abcdefghi", .non, .int 3, .ref la, .bl true, .str "a b"] := .inl (.inl (upd_fr no (mok.same s1)))
    refine ⟨_, rfl, n, bx, 9, rfl, b2, by omega, by decide, by decide, fun i H1 i1 i2 sb1 b1 => ⟨rfl, _, rfl, ?_⟩⟩
    refine ite2 (fun c => ?_) fun c => ?_
    · refine ⟨_, rfl, _, rfl, n + 1, bx, 9, rfl, b1, by omega, by decide, by decide, fun j H2 j1 j2 sb2 b3 => ?_⟩
      have le2 := (sb_le sb1 (by simpa using mem)).trans (sb_le sb2 (M := M) (by simpa using mem))
      have hlo2 := le2.sqL hlo
      have hla2 := le2.sqL hla
      have hall : DpAll K (fr M H2) [.str "", .str "A", .str "a1", .str "abcdefghi", .non, .int 3, .ref la, .bl true, .str "a b"] odds := .cons (.str _) (.cons (.str _) (.cons (.str _) (.cons (.str _) (.cons .non (.cons (.int _) (.cons (.lst hla2 (.cons (.str _) .nil)) (.cons (.bl _) (.cons (.str _) .nil))))))))
      have hj : j.toNat < 9 := by omega
      obtain ⟨v, hv⟩ : ∃ v, ([.str "", .str "A", .str "a1", .str "abcdefghi", .non, .int 3, .ref la, .bl true, .str "a b"] : List V)[j.toNat]? = some v := ⟨_, List.getElem?_eq_getElem hj⟩
      obtain ⟨d, e1, hd⟩ := dpAll_mem hall hv
      refine ⟨lo, _, j, v, rfl, rfl, (fr_le _ _).sqL hlo2, ?_, ?_⟩
      · unfold atI ixN
        rw [if_pos j1, if_pos (by show j < 9; exact j2)]
        exact hv
      · exact q v d H2 (((sb_same s2 [bx]).trans sb1).trans sb2) (b3.le (by omega)) hd (.inl (List.mem_of_getElem? e1))
    · refine ⟨_, rfl, n + 1, bx, rfl, b1, by omega, fun x H2 sb2 b3 hx => ?_⟩
      exact q _ _ H2 (((sb_same s2 [bx]).trans sb1).trans sb2) (b3.le (by omega)) (.str x) (.inr ⟨x, rfl, hx⟩)
end
end K75
set_option maxHeartbeats 1000000
namespace K75
open PySem PySem.Spec PyProof.Rows L2 KM1
/-- {k1: v1, k2: v2}, the keys two texts -/
def tDd2 (k1 k2 : Str) (t1 t2 : TE) : TE := fun σ H Q => ∀ p, H p = none → t1 σ (upd H p (.dK [])) fun y H1 => t2 σ H1 fun z H2 => H2 p = some (.dK []) ∧ ∀ H3, H3 = upd H2 p (.dK [(.inr k1, y), (.inr k2, z)]) → Q (.ref p) H3
theorem pe_dd2 {X : Cx} {e1 e2 v1 v2 : Expr} {k1 k2 : Str} {t1 t2 : TE} {pos : Pos} (hk1 : PE X e1 (tC (.str k1))) (hk2 : PE X e2 (tC (.str k2))) (h1 : PE X v1 t1) (h2 : PE X v2 t2) (hne : k1 ≠ k2) : PE X (.Dict [some e1, some e2] [v1, v2] pos) (tDd2 k1 k2 t1 t2) := by
  refine ⟨fun pins s σ H Q I h => ?_⟩
  have hn0 : H s.heap.objs.size = none := I.hok.fresh (Nat.le_refl _)
  refine wpAny_Dict_pairs (knd := mixKind X.prog X.w) (pairs := [(eval e1 X.env, do let x ← eval v1 X.env; standAt pos; pure x), (eval e2 X.env, do let x ← eval v2 X.env; standAt pos; pure x)]) rfl (by simp) (by simp) ?_
  have I0 := I.laid (a := s.heap.objs.size) (o := .dK []) (h' := s.heap.push { cls := .type "dict", data := .dict #[] }) (t' := s.toks) (fun _ _ q => Heap.get?_push_of_some _ q) (Nat.le_refl _) (dk_empty s.heap I.big)
  refine evalPairs_cons (thn (hk1.run pins _ σ _ (fun y H1 => y = .str k1 ∧ t1 σ H1 fun y H1 => t2 σ H1 fun z H2 => H2 s.heap.objs.size = some (.dK []) ∧ ∀ H3, H3 = upd H2 s.heap.objs.size (.dK [(.inr k1, y), (.inr k2, z)]) → Q (.ref s.heap.objs.size) H3) I0 ⟨rfl, h _ hn0⟩) fun kv1 s1 ⟨y0, H1, I1, r1, e0, q1⟩ => wpAny_bind (thn (h1.run pins _ σ _ _ I1 q1) fun vv1 s2 ⟨y, H2, I2, r2, q2⟩ => wpAny_bind (wpAny_standAt (wpAny_pure ?_))))
  subst e0
  refine evalPairs_cons (thn (hk2.run pins _ σ _ (fun y' H2 => y' = .str k2 ∧ t2 σ H2 fun z H2 => H2 s.heap.objs.size = some (.dK []) ∧ ∀ H3, H3 = upd H2 s.heap.objs.size (.dK [(.inr k1, y), (.inr k2, z)]) → Q (.ref s.heap.objs.size) H3) I2 ⟨rfl, q2⟩) fun kv2 s3 ⟨y1, H3, I3, r3, e1', q3⟩ => wpAny_bind (thn (h2.run pins _ σ _ _ I3 q3) fun vv2 s4 ⟨z, H4, I4, r4, hD, q4⟩ => wpAny_bind (wpAny_standAt (wpAny_pure (evalPairs_nil ?_)))))
  subst e1'
  obtain ⟨ta, rfl⟩ := (show ∃ t, kv1 = Value.str k1 t from r1)
  obtain ⟨tb, rfl⟩ := (show ∃ t, kv2 = Value.str k2 t from r3)
  obtain ⟨_, hsys, vs0, rv0, dd⟩ := dk_of I4.hok hD
  cases rv0
  have rS : KV [((Sum.inr k1 : Key), y), ((Sum.inr k2 : Key), z)] [((Sum.inr k1 : Key), vv1), ((Sum.inr k2 : Key), vv2)] := .cons ⟨rfl, r2⟩ (.cons ⟨rfl, r4⟩ .nil)
  refine ⟨[((Sum.inr k1 : Key), vv1), ((Sum.inr k2 : Key), vv2)], ⟨mixKind_str _ _ _ _, rfl, mixKind_str _ _ _ _, rfl, trivial⟩, dd, fun h' dd' hs => ?_⟩
  rw [merged_nil_of_nodup _ (by simpa using hne)] at dd'
  have he : ∃ q, h'.get? s.heap.objs.size = some q := let ⟨q, _, _, hq, _⟩ := dd'; ⟨q, hq⟩
  have J := d_write I4 (ob := .dK [((Sum.inr k1 : Key), y), ((Sum.inr k2 : Key), z)]) (t' := s4.toks + [(Value.str k1 ta, vv1), (Value.str k2 tb, vv2)].length) (by rw [hD]; exact True.intro) hs he (dk_new (by show 2 ≤ sizeLine; rw [sizeLine_eq]; omega) hsys rS dd')
  exact ⟨.ref s.heap.objs.size, _, J, rfl, q4 _ rfl⟩
end K75
set_option maxHeartbeats 400000
namespace K75
open PySem PySem.Spec PyProof.Rows L2
def tagE : Err → Str
  | .iName => "name"
  | .taken => "taken"
  | .notS => "scheme"
  | .unk => "unknown"
  | .iNum => "number"
  | .notW => "not written"
  | .iRow => "row"
  | .iTerms => "terms"
  | .iTerm => "term"
  | .inUse => "use"
  | .noth => "nothing"
section
variable {K : PySem.W.Frag} {F G : Hp} {u : Bool}
def ModelR (K : PySem.W.Frag) (F : Hp) (v : V) (s : Sch) : Prop := ∃ m, v = .ref m ∧ ModelAt K F m s
theorem ModelR.le (e : Le F G) {v : V} {s : Sch} (h : ModelR K F v s) : ModelR K G v s := let ⟨a, b, c⟩ := h; ⟨a, b, c.le e⟩
def lkv (ds de : Addr) : List (Key × V) := [(.inr "schemes", .ref ds), (.inr "entries", .ref de)]
/-- the law's state -/
structure LStR (K : PySem.W.Frag) (u : Bool) (F : Hp) (a ds de : Addr) (ks ke : List (Key × V)) (st : Stt) : Prop where
  top : Dk u F a (lkv ds de)
  rs : Dk u F ds ks
  re : Dk u F de ke
  as : AssA (ModelR K F) ks st.sch
  ae : AssA (EntR K F) ke st.ent
variable {a ds de : Addr} {ks ke : List (Key × V)} {st : Stt}
theorem LStR.leS (e : LeS F G) (h : LStR K u F a ds de ks ke st) : LStR K u G a ds de ks ke st := ⟨h.top.leS e, h.rs.leS e, h.re.leS e, h.as.mono fun _ _ => ModelR.le e.le, h.ae.mono fun _ _ => EntR.le e.le⟩
theorem LStR.le (e : Le F G) (h : LStR K false F a ds de ks ke st) : LStR K false G a ds de ks ke st := ⟨h.top.le e, h.rs.le e, h.re.le e, h.as.mono fun _ _ => ModelR.le e, h.ae.mono fun _ _ => EntR.le e⟩
theorem LStR.weak (h : LStR K u F a ds de ks ke st) : LStR K false F a ds de ks ke st := ⟨h.top.weak, h.rs.weak, h.re.weak, h.as, h.ae⟩
theorem LStR.gS (h : LStR K u F a ds de ks ke st) : DGet F a (.str "schemes") (some (.ref ds)) := .inl ⟨_, .inr "schemes", h.top.rd, rfl, rfl⟩
theorem LStR.gE (h : LStR K u F a ds de ks ke st) : DGet F a (.str "entries") (some (.ref de)) := .inl ⟨_, .inr "entries", h.top.rd, rfl, by unfold lkv; rw [valV_neg (show ¬ (Sum.inr "schemes" : Key) = .inr "entries" by decide +kernel), valV_pos rfl]⟩
end
abbrev s__law_entry_due : Stmt := top 68
theorem sc__law_entry_due : FnScope ["_law_state", "_law_label", "_law_spot"] ["_law_state", "_law_label", "_law_spot"] (defScope s__law_entry_due) := ⟨rfl, rfl, rfl, by decide +kernel, rfl, by decide +kernel, by decide +kernel⟩
/-- what is said of a label: short, of good code points -/
def LabOk (d : PyData) : Prop := ∀ x, d = .str x → x.length ≤ 1000 ∧ ∀ c ∈ x.cps.toList, PyData.strOk ⟨#[c]⟩ = true
section
variable {P : Program} {w : World} {K : PySem.W.Frag} {mg : Str → Option Value} {base : Heap} (B : Blt mg)
include B
def sp_l_entry_due (K : PySem.W.Frag) : Sp := fun vs H Q _ => ∃ M a ds de ks ke st v d w wd, vs = [.ref a, v, w] ∧ Mok M H ∧ LStR K false H a ds de ks ke st ∧ Dp K (fr M H) v d ∧ LabOk d ∧ Dp K (fr M H) w wd ∧
  (entryDue st d wd = none → ∀ H', Same H H' → Q .non H') ∧ ∀ e x, entryDue st d wd = some (.no e x) → ∀ l H', Same H H' → Dp K (fr M H') (.ref l) (.list [.str (tagE e), x]) → Q (.ref l) H'
theorem ok_l_entry_due (D : FnD K mg "_law_entry_due" s__law_entry_due [] []) (F__law_is_name : Fn P w K mg base "_law_is_name" 1 (sp_l_is_name K)) (F__law_known : Fn P w K mg base "_law_known" 1 (sp_l_known K)) : Fn P w K mg base "_law_entry_due" 2 (sp_l_entry_due K) := by
  refine D.fn sc__law_entry_due (fun _ _ _ _ _ _ us hl => match us, hl with | [_, _, _], _ => rfl) (fun vs H Q E h => ?_) (fun f cdv A outer s H vs Q E hr h => ?_)
  · obtain ⟨_, _, _, _, _, _, _, _, _, _, _, rfl, _⟩ := h
    rfl
  · obtain ⟨M, a, ds, de, ks, ke, st, v, d, w, wd, rfl, mok, L, hd, hlab, hw, q0, q1⟩ := h
    refine ⟨_, (pss_cons (ps_if (pt_not (pt_val (c0 F__law_is_name hr (pa_cons (pv 1) pa_nil)))) (pss_one (ps_ret (pe_lst (pa_cons pe_str (pa_cons (pv 1) pa_nil))))) pss_nil) (pss_cons (ps_if (pt_cmp (pc_din (hu_of hr) (pv 1) (pe_dget (hu_of hr) (pv 0) pe_str (fun _ _ => rfl)))) (pss_one (ps_ret (pe_lst (pa_cons pe_str (pa_cons (pv 1) pa_nil))))) pss_nil) (pss_one (ps_ret (pe_ifExp (pt_val (c0 F__law_known hr (pa_cons (pv 2) (pa_cons (pe_dget (hu_of hr) (pv 0) pe_str (fun _ _ => rfl)) pa_nil)))) pe_non (pe_lst (pa_cons pe_str (pa_cons (pv 2) pa_nil)))))))), ?_⟩
    refine ⟨_, rfl, v, d, rfl, (fr_le _ _).dp hd, hlab, fun H1 s1 => ⟨_, rfl, ?_⟩⟩
    have L1 := L.le (Le.of s1)
    have hd1 := (same_le (M := M) s1).dp hd
    have hw1 := (same_le (M := M) s1).dp hw
    have mok1 := mok.same s1
    refine ite2 (fun c1 => ?_) fun c1 => ?_
    · have c1 : isName d = false := by simpa using c1
      refine ⟨_, rfl, by show 2 ≤ sizeLine; decide, fun l nl => ?_⟩
      exact q1 .iName d (by unfold entryDue; rw [if_pos c1]) l _ (s1.trans (same_new nl)) (.lst (.inl (.inl (upd_fr nl mok1))) (.cons (.str _) (.cons ((upd_le nl).dp hd1) .nil)))
    · have c1 : isName d = true := by simpa using c1
      cases hd with
      | str x =>
        refine ⟨_, rfl, _, rfl, a, _, rfl, L1.gS, ds, _, rfl, .inl ⟨ks, .inr x, L1.rs.rd, rfl, rfl⟩, _, rfl, ?_⟩
        rw [L1.as.isSome x]
        refine ite2 (fun c2 => ?_) fun c2 => ?_
        · refine ⟨_, rfl, by show 2 ≤ sizeLine; decide, fun l nl => ?_⟩
          exact q1 .taken _ (by unfold entryDue; rw [if_neg (by simp [c1]), if_pos (show (lookD st.sch (.str x)).isSome = true from c2)]) l _ (s1.trans (same_new nl)) (.lst (.inl (.inl (upd_fr nl mok1))) (.cons (.str _) (.cons (.str _) .nil)))
        · have ed : entryDue st (.str x) wd = if lookD st.sch wd = none then some (.no .unk wd) else none := by
            unfold entryDue
            rw [if_neg (by simp [c1]), if_neg (show ¬ (lookD st.sch (.str x)).isSome = true from c2)]
          have ek : inD (st.sch.map (·.1)) wd = (lookD st.sch wd).isSome := by
            cases wd with
            | str y =>
              show decide (y ∈ st.sch.map (·.1)) = (look st.sch y).isSome
              rw [look_isSome, Bool.eq_iff_iff, List.any_eq_true, decide_eq_true_eq, List.mem_map]
              constructor
              · rintro ⟨p, hp, e⟩; exact ⟨p, hp, decide_eq_true e⟩
              · rintro ⟨p, hp, e⟩; exact ⟨p, hp, of_decide_eq_true e⟩
            | _ => rfl
          refine ⟨_, rfl, _, rfl, a, _, rfl, L1.gS, w, wd, ds, ks, st.sch.map (·.1), rfl, (fr_le _ _).dp hw1, L1.rs.rd, L1.as.keys, _, rfl, ?_⟩
          rw [ek]
          refine ite2 (fun c3 => ?_) fun c3 => ?_
          · exact q0 (by rw [ed, if_neg (fun e => by rw [e] at c3; cases c3)]) H1 s1
          · have c3 : lookD st.sch wd = none := by simpa using c3
            refine ⟨_, rfl, by show 2 ≤ sizeLine; decide, fun l nl => ?_⟩
            exact q1 .unk wd (by rw [ed, if_pos c3]) l _ (s1.trans (same_new nl)) (.lst (.inl (.inl (upd_fr nl mok1))) (.cons (.str _) (.cons ((upd_le nl).dp hw1) .nil)))
      | _ => cases c1
end
end K75
set_option maxHeartbeats 400000
namespace K75
open PySem PySem.Spec PyProof.Rows L2
abbrev s__law_written : Stmt := top 69
theorem sc__law_written : FnScope ["_law_state", "_law_spot", "_law_number_here", "_law_house"] ["_law_state", "_law_spot", "_law_number_here"] (defScope s__law_written) := ⟨rfl, rfl, rfl, by decide +kernel, rfl, by decide +kernel, by decide +kernel⟩
abbrev s__law_number_of : Stmt := top 71
theorem sc__law_number_of : FnScope ["_law_state", "_law_label", "_law_spot", "_law_line"] ["_law_state", "_law_label"] (defScope s__law_number_of) := ⟨rfl, rfl, rfl, by decide +kernel, rfl, by decide +kernel, by decide +kernel⟩
section
variable {P : Program} {w : World} {K : PySem.W.Frag} {mg : Str → Option Value} {base : Heap} (B : Blt mg) {CS : Addr} (C : SchC K mg CS)
include B C
/-- the models lie behind M, the dicts are read -/
def sp_l_written (K : PySem.W.Frag) (CS : Addr) : Sp := fun vs H Q _ => ∃ M a ds de ks ke st y sc n, vs = [.ref a, .str y, .int n] ∧ Mok M H ∧ LStR K false (fr M H) a ds de ks ke st ∧ look st.sch y = some sc ∧ GoodS sc ∧ n.natAbs < 2 ^ 1000 ∧
  (wr sc n = none → ∀ H', Same H H' → Q .non H') ∧ ∀ row, wr sc n = some row → ∀ t H', Same H H' → SqT K (fr M H') t (row.map V.int) → Q (.ref t) H'
theorem ok_l_written (D : FnD K mg "_law_written" s__law_written [] []) (F__law_made : Fn P w K mg base "_law_made" 6 (sp_l_made K CS)) (F_writing : Fn P w K mg base "writing" 7 (sp_writing K CS)) : Fn P w K mg base "_law_written" 8 (sp_l_written K CS) := by
  refine D.fn sc__law_written (fun _ _ _ _ _ _ us hl => match us, hl with | [_, _, _], _ => rfl) (fun vs H Q E h => ?_) (fun f cdv A outer s H vs Q E hr h => ?_)
  · obtain ⟨_, _, _, _, _, _, _, _, _, _, rfl, _⟩ := h
    rfl
  · obtain ⟨M, a, ds, de, ks, ke, st, y, sc, n, rfl, mok, L, hs, g, hn, q0, q1⟩ := h
    refine ⟨_, (pss_cons (ps_set (i := 3) sc__law_written.nd rfl (.inl rfl) (pe_dget (hu_of hr) (pe_dget (hu_of hr) (pv 0) pe_str (fun _ _ => rfl)) (pv 1) (fun _ _ => rfl))) (pss_one (ps_ret (c0 F_writing hr (pa_cons (c0 F__law_made hr (pa_cons (pv 3) pa_nil)) (pa_cons (pv 2) pa_nil)))))), ?_⟩
    have LH := L.le (fr_le M H)
    obtain ⟨v2, e2, m, rfl, hm⟩ := L.as.some y hs
    have gs : DGet H ds (.str y) (some (.ref m)) := .inl ⟨ks, .inr y, LH.rs.rd, rfl, e2.symm⟩
    refine ⟨_, rfl, a, _, rfl, LH.gS, _, rfl, ds, _, rfl, gs, _, rfl, M, m, sc, rfl, mok, hm, g, fun H1 x s1 nx hx => ?_⟩
    refine ⟨_, rfl, M, x, sc, n, rfl, mok.same s1, (fr_le _ _).sch hx, g, hn, fun e H2 s2 => q0 e H2 (s1.trans s2), fun row e t H2 s2 ht => q1 row e t H2 (s1.trans s2) ht⟩
def sp_l_number_of (K : PySem.W.Frag) : Sp := fun vs H Q _ => ∃ n a ds de ks ke st x e, vs = [.ref a, .str x] ∧ LStR K false H a ds de ks ke st ∧ GoodT n st ∧ look st.ent x = some e ∧ Q (.int (numOf st e)) H
theorem ok_l_number_of (D : FnD K mg "_law_number_of" s__law_number_of [] []) (F__law_value : Fn P w K mg base "_law_value" 1 (sp_l_value K)) : Fn P w K mg base "_law_number_of" 2 (sp_l_number_of K) := by
  refine D.fn sc__law_number_of (fun _ _ _ _ _ _ us hl => match us, hl with | [_, _], _ => rfl) (fun vs H Q E h => ?_) (fun f cdv A outer s H vs Q E hr h => ?_)
  · obtain ⟨_, _, _, _, _, _, _, _, _, rfl, _⟩ := h
    rfl
  · obtain ⟨n, a, ds, de, ks, ke, st, x, e, rfl, L, gt, he, q⟩ := h
    refine ⟨_, (pss_cons (ps_asg (pe_dget (hu_of hr) (pe_dget (hu_of hr) (pv 0) pe_str (fun _ _ => rfl)) (pv 1) (fun _ _ => rfl)) (pg_tup rfl (pgs_cons (pg_name (i := 2) sc__law_number_of.nd rfl (.inl rfl)) (pgs_cons (pg_name (i := 3) sc__law_number_of.nd rfl (.inl rfl)) pgs_nil)))) (pss_one (ps_ret (c0 F__law_value hr (pa_cons (pe_ix ix_list (pe_dget (hu_of hr) (pe_dget (hu_of hr) (pv 0) pe_str (fun _ _ => rfl)) (pv 2) (fun _ _ => rfl)) pe_int (fun _ _ => rfl)) (pa_cons (pv 3) pa_nil)))))), ?_⟩
    obtain ⟨v3, e3, t, r, rfl, h1, h2⟩ := L.ae.some x he
    have ge : DGet H de (.str x) (some (.ref t)) := .inl ⟨ke, .inr x, L.re.rd, rfl, e3.symm⟩
    obtain ⟨sc, hs1, hs2, hs3, hs4⟩ := gt.es _ (look_mem he)
    obtain ⟨v2, e2, m, rfl, ld, lb, m1, m2, m3⟩ := L.as.some e.1 hs1
    have gs : DGet H ds (.str e.1) (some (.ref m)) := .inl ⟨ks, .inr e.1, L.rs.rd, rfl, e2.symm⟩
    have g : GoodS sc := gt.gs _ (look_mem hs1)
    have en : numOf st e = val sc.base e.2 := by
      show (match look st.sch e.1 with | some s => val s.base e.2 | none => 0) = _
      rw [hs1]
    rw [en] at q
    refine ⟨_, rfl, a, _, rfl, L.gE, _, rfl, de, _, rfl, ge, t, _, rfl, h1, rfl, _, _, rfl, _, _, rfl, rfl, ?_⟩
    exact ⟨_, rfl, a, _, rfl, L.gS, _, rfl, ds, _, rfl, gs, m, _, 0, _, rfl, rfl, m1, rfl, _, rfl, r, sc, e.2, rfl, g, h2, hs2, by have : e.2.length ≤ 500 := hs4; omega, q⟩
end
end K75
set_option maxHeartbeats 400000
namespace K75
open PySem PySem.Spec PyProof.Rows L2
abbrev s__law_entered : Stmt := top 70
theorem sc__law_entered : FnScope ["_law_state", "_law_label", "_law_spot", "_law_line", "_law_new"] ["_law_state", "_law_label", "_law_spot", "_law_line"] (defScope s__law_entered) := ⟨rfl, rfl, rfl, by decide +kernel, rfl, by decide +kernel, by decide +kernel⟩
abbrev s__law_keep_due : Stmt := top 72
theorem sc__law_keep_due : FnScope ["_law_state", "_law_label", "_law_model", "_law_new"] ["_law_state", "_law_label", "_law_model"] (defScope s__law_keep_due) := ⟨rfl, rfl, rfl, by decide +kernel, rfl, by decide +kernel, by decide +kernel⟩
abbrev s__law_put_due : Stmt := top 73
theorem sc__law_put_due : FnScope ["_law_state", "_law_label", "_law_spot", "_law_number_here", "_law_line"] ["_law_state", "_law_label", "_law_spot", "_law_number_here"] (defScope s__law_put_due) := ⟨rfl, rfl, rfl, by decide +kernel, rfl, by decide +kernel, by decide +kernel⟩
abbrev s__law_lay_due : Stmt := top 74
theorem sc__law_lay_due : FnScope ["_law_state", "_law_label", "_law_spot", "_law_line", "_law_good", "_law_digit"] ["_law_state", "_law_label", "_law_spot", "_law_line"] (defScope s__law_lay_due) := ⟨rfl, rfl, rfl, by decide +kernel, rfl, by decide +kernel, by decide +kernel⟩
abbrev s__law_move_due : Stmt := top 75
theorem sc__law_move_due : FnScope ["_law_state", "_law_label", "_law_spot", "_law_number_here", "_law_line"] ["_law_state", "_law_label", "_law_spot"] (defScope s__law_move_due) := ⟨rfl, rfl, rfl, by decide +kernel, rfl, by decide +kernel, by decide +kernel⟩
/-- ['done', state] -/
def DoneAt (K : PySem.W.Frag) (u : Bool) (F : Hp) (l : Addr) (st : Stt) : Prop := ∃ a ds de ks ke, SqL K F l [.str "done", .ref a] ∧ LStR K u F a ds de ks ke st
/-- what is due -/
def DueP (K : PySem.W.Frag) (u : Bool) (M : List Addr) (H : Hp) (Q : VK) : Out → Prop
  | .done st => ∀ l H', Same H H' → DoneAt K u (fr M H') l st → Q (.ref l) H'
  | .no e d => ∀ l H', Same H H' → Dp K (fr M H') (.ref l) (.list [.str (tagE e), d]) → Q (.ref l) H'
theorem DueP.same {K : PySem.W.Frag} {u : Bool} {M : List Addr} {H H1 : Hp} {Q : VK} (s : Same H H1) : ∀ {o : Out}, DueP K u M H Q o → DueP K u M H1 Q o
  | .done _, h => fun l H' s' a => h l H' (s.trans s') a
  | .no _ _, h => fun l H' s' a => h l H' (s.trans s') a
theorem no_ans {K : PySem.W.Frag} {u : Bool} {M : List Addr} {H : Hp} {Q : VK} {e : Err} {v : V} {d : PyData} (q : DueP K u M H Q (.no e d)) (mok : Mok M H) (h : Dp K (fr M H) v d) : ∀ l, H l = none → Q (.ref l) (upd H l (.lst [.str (tagE e), v])) := fun l nl =>
  q l _ (same_new nl) (.lst (.inl (.inl (upd_fr nl mok))) (.cons (.str _) (.cons ((upd_le nl).dp h) .nil)))
theorem inD_look {α : Type} {l : List (Str × α)} {d : PyData} : inD (l.map (·.1)) d = (lookD l d).isSome := by
  cases d with
  | str y =>
    show decide (y ∈ l.map (·.1)) = (look l y).isSome
    rw [look_isSome, Bool.eq_iff_iff, List.any_eq_true, decide_eq_true_eq, List.mem_map]
    constructor
    · rintro ⟨p, hp, e⟩; exact ⟨p, hp, decide_eq_true e⟩
    · rintro ⟨p, hp, e⟩; exact ⟨p, hp, of_decide_eq_true e⟩
  | _ => rfl
/-- a model, or something odd -/
def MoL (K : PySem.W.Frag) (F : Hp) (v : V) (mo : Option Sch) (d2 : PyData) : Prop :=
  (∃ m sc, v = .ref m ∧ ModelAt K F m sc ∧ GoodS sc ∧ mo = some sc) ∨ (Dp K F v d2 ∧ mo = none ∧ ∃ ty ∈ ["NoneType", "bool", "int", "str"], tyD d2 = ty)
theorem MoL.le {K : PySem.W.Frag} {F G : Hp} (e : Le F G) {v : V} {mo : Option Sch} {d2 : PyData} (h : MoL K F v mo d2) : MoL K G v mo d2 := by
  rcases h with ⟨m, sc, a, b, c, d⟩ | ⟨a, b, c⟩
  · exact .inl ⟨m, sc, a, b.le e, c, d⟩
  · exact .inr ⟨e.dp a, b, c⟩
theorem tyX_list {K : PySem.W.Frag} {H : Hp} {a : Addr} {xs : List V} (h : SqL K H a xs) : TyX K H (.ref a) (.type "list") := by
  rcases h with (h | ⟨o, h⟩) | ⟨o, its, n, h, c, _⟩
  · exact .base (.lst h)
  · exact .base (.frz h)
  · exact .kList h c
theorem odd_list {d : PyData} (h : ∃ ty ∈ ["NoneType", "bool", "int", "str"], tyD d = ty) : isD "list" d = false := by
  obtain ⟨ty, hty, e⟩ := h
  cases d with
  | list l => simp only [tyD, List.mem_cons, List.not_mem_nil, or_false] at *; rcases hty with rfl | rfl | rfl | rfl <;> exact absurd e (by decide)
  | _ => rfl
theorem entry_no {st : Stt} {d w : PyData} {o : Out} (h : entryDue st d w = some o) : ∃ er x, o = .no er x := by
  rcases entry_some h with ⟨_, rfl⟩ | ⟨_, _, rfl⟩ | ⟨_, _, _, rfl⟩
  · exact ⟨_, _, rfl⟩
  · exact ⟨_, _, rfl⟩
  · exact ⟨_, _, rfl⟩
theorem bools_shaped {l : List PyData} (h : ∀ t ∈ l, isD "bool" t = true) : SeqAt.shaped (.list l) = true := by
  have key : PyData.canLayAll0 l = true ∧ PyData.depthAll l = 0 := by
    induction l with
    | nil => exact ⟨by simp [PyData.canLayAll0], by simp [PyData.depthAll]⟩
    | cons a l ih =>
      obtain ⟨h1, h2⟩ := ih fun t ht => h t (List.mem_cons_of_mem _ ht)
      have ha := h a List.mem_cons_self
      cases a with
      | bool b => exact ⟨by simp [PyData.canLayAll0, PyData.canLay0, h1], by simp [PyData.depthAll, PyData.depth, h2]⟩
      | _ => cases ha
  have h2 : PyData.depth (.list l) ≤ 64 := by
    simp only [PyData.depth]
    rw [key.2]
    decide
  show (PyData.canLay0 (.list l) && decide (PyData.depth (.list l) ≤ 64)) = true
  rw [Bool.and_eq_true]
  exact ⟨by simp only [PyData.canLay0]; exact key.1, decide_eq_true h2⟩
/-- a line that may be laid: no tuple, or of ints and bools -/
def LineOk (ld : PyData) : Prop := ∀ l, ld = .tuple l → l.length ≤ 1000 ∧ ∀ t ∈ l, (∃ i, t = .int i) ∨ ∃ b, t = .bool b
theorem ints_of_nobool : ∀ {l : List PyData}, (∀ t ∈ l, (∃ i, t = .int i) ∨ ∃ b, t = .bool b) → (l.filter (isD "bool")).isEmpty = true → ∃ row : List Int, l = row.map PyData.int
  | [], _, _ => ⟨[], rfl⟩
  | t :: l, h, e => by
    rcases h t List.mem_cons_self with ⟨i, rfl⟩ | ⟨b, rfl⟩
    · rw [List.filter_cons_of_neg (show ¬ isD "bool" (.int i) = true from Bool.false_ne_true)] at e
      obtain ⟨row, rfl⟩ := ints_of_nobool (fun x hx => h x (List.mem_cons_of_mem _ hx)) e
      exact ⟨i :: row, rfl⟩
    · rw [List.filter_cons_of_pos rfl] at e
      cases e
theorem nobool_ints : ∀ row : List Int, ((row.map PyData.int).filter (isD "bool")).isEmpty = true
  | [] => rfl
  | a :: l => by
    rw [List.map_cons, List.filter_cons_of_neg (show ¬ isD "bool" (.int a) = true from Bool.false_ne_true)]
    exact nobool_ints l
theorem lay_eq {st : Stt} {x y : Str} {sc : Sch} {l : PyData} (e : entryDue st (.str x) (.str y) = none) (h : look st.sch y = some sc) : layDue st (.str x) (.str y) l = if rowD sc l = true then .done { st with ent := put st.ent x (y, rowOf l) } else .no .iRow l := by
  unfold layDue
  rw [e]
  show (match look st.sch y with
    | some sc => if rowD sc l = true then Out.done { st with ent := put st.ent x (y, rowOf l) } else .no .iRow l
    | none => .no .unk (.str y)) = _
  rw [h]
section
variable {P : Program} {w : World} {K : PySem.W.Frag} {mg : Str → Option Value} {base : Heap} (B : Blt mg)
include B
def sp_l_entered (K : PySem.W.Frag) : Sp := fun vs H Q _ => ∃ u M a ds de ks ke st x y r row, vs = [.ref a, .str x, .str y, .ref r] ∧ Mok M H ∧ LStR K u (fr M H) a ds de ks ke st ∧ SqT K (fr M H) r (row.map V.int) ∧ st.ent.length < 1000 ∧
  ∀ l H', Same H H' → DoneAt K u (fr M H') l { st with ent := put st.ent x (y, row) } → Q (.ref l) H'
theorem ok_l_entered (D : FnD K mg "_law_entered" s__law_entered [] []) : Fn P w K mg base "_law_entered" 1 (sp_l_entered K) := by
  refine D.fn sc__law_entered (fun _ _ _ _ _ _ us hl => match us, hl with | [_, _, _, _], _ => rfl) (fun vs H Q E h => ?_) (fun f cdv A outer s H vs Q E hr h => ?_)
  · obtain ⟨_, _, _, _, _, _, _, _, _, _, _, _, rfl, _⟩ := h
    rfl
  · obtain ⟨u, M, a, ds, de, ks, ke, st, x, y, r, row, rfl, mok, L, hr0, hz, q⟩ := h
    refine ⟨_, (pss_cons (ps_set (i := 4) sc__law_entered.nd rfl (.inl rfl) (pe_dd2 pe_str pe_str (pe_dget (hu_of hr) (pv 0) pe_str (fun _ _ => rfl)) (pe_callTy call_dictD (by rfl) B.dict (by decide +kernel) (pa_cons (pe_dget (hu_of hr) (pv 0) pe_str (fun _ _ => rfl)) pa_nil)) (by decide +kernel))) (pss_cons (ps_dput (hu_of hr) (pe_dget (hu_of hr) (pv 4) pe_str (fun _ _ => rfl)) (pv 1) (pe_tup (pa_cons (pv 2) (pa_cons (pv 3) pa_nil))) rfl) (pss_one (ps_ret (pe_lst (pa_cons pe_str (pa_cons (pv 4) pa_nil))))))), ?_⟩
    have LH := (L.leS (fr_leS M H)).weak
    refine fun p np => ?_
    have s1 := same_new (o := .dK []) np
    have L1 := LH.le (Le.of s1)
    refine ⟨_, rfl, a, _, rfl, L1.gS, _, rfl, a, _, rfl, L1.gE, de, ke, rfl, L1.re.rd, fun p2 np2 => ?_⟩
    have d12 : p ≠ p2 := fun e => by rw [← e, upd_same] at np2; cases np2
    have n2 : H p2 = none := none_same s1 np2
    refine ⟨by rw [upd_ne d12]; exact upd_same, fun H3 e3 => ?_⟩
    have s3 : Same H H3 := by rw [e3]; exact newU (newU s1 n2) np
    have hp3 : H3 p = some (.dK (lkv ds p2)) := by rw [e3]; exact upd_same
    have hp23 : H3 p2 = some (.dK ke) := by rw [e3, upd_ne d12.symm]; exact upd_same
    clear e3
    refine ⟨_, rfl, _, rfl, by show 2 ≤ sizeLine; decide, fun t nt => ?_⟩
    have s4 := same_new (o := .tup [.str y, .ref r]) nt
    have gE : DGet (upd H3 t (.tup [.str y, .ref r])) p (.str "entries") (some (.ref p2)) := .inl ⟨_, .inr "entries", .inl (s4 _ _ hp3), rfl, by unfold lkv; rw [valV_neg (show ¬ (Sum.inr "schemes" : Key) = .inr "entries" by decide +kernel), valV_pos rfl]⟩
    have hl := L.ae.len
    obtain ⟨H5, e5⟩ : ∃ H5, H5 = upd (upd H3 t (.tup [.str y, .ref r])) p2 (.dK (putK ke (.inr x) (.ref t))) := ⟨_, rfl⟩
    refine ⟨_, rfl, p, _, rfl, gE, _, rfl, p2, _, rfl, .inl ⟨ke, .inr x, s4 _ _ hp23, rfl, by rw [sizeLine_eq]; omega, e5⟩, ?_⟩
    have nt0 : H t = none := none_same s3 nt
    have s5 : Same H H5 := by rw [e5]; exact newU (s3.trans s4) n2
    have hpp : H5 p = some (.dK (lkv ds p2)) := by rw [e5, upd_ne d12]; exact s4 _ _ hp3
    have hp2 : H5 p2 = some (.dK (putK ke (.inr x) (.ref t))) := by rw [e5]; exact upd_same
    have dt2 : t ≠ p2 := fun e => by rw [e, hp23] at nt; cases nt
    have htt : H5 t = some (.tup [.str y, .ref r]) := by rw [e5, upd_ne dt2]; exact upd_same
    clear e5
    refine ⟨_, rfl, by show 2 ≤ sizeLine; decide, fun l nl => ?_⟩
    have s6 := s5.trans (same_new (o := .lst [.str "done", .ref p]) nl)
    have s56 := same_new (o := .lst [.str "done", .ref p]) nl
    have L6 := L.leS (same_leS s6)
    refine q l _ s6 ⟨p, ds, p2, ks, putK ke (.inr x) (.ref t), .inl (.inl (upd_fr nl (mok.same s5))), ⟨.inl (fr_of (s56 _ _ hpp) (mok.new np)), L6.rs, .inl (fr_of (s56 _ _ hp2) (mok.new n2)), L6.as, L6.ae.put x ?_⟩⟩
    exact ⟨t, r, rfl, .inl (.inl (fr_of (s56 _ _ htt) (mok.new nt0))), (same_le s6).sqT hr0⟩
def sp_l_keep_due (K : PySem.W.Frag) : Sp := fun vs H Q _ => ∃ u M a ds de ks ke st v d v2 mo d2, vs = [.ref a, v, v2] ∧ Mok M H ∧ LStR K u (fr M H) a ds de ks ke st ∧ Dp K (fr M H) v d ∧ LabOk d ∧ MoL K (fr M H) v2 mo d2 ∧ st.sch.length < 1000 ∧ DueP K u M H Q (keepDue st d mo d2)
theorem ok_l_keep_due (D : FnD K mg "_law_keep_due" s__law_keep_due [] []) (F__law_is_name : Fn P w K mg base "_law_is_name" 1 (sp_l_is_name K)) : Fn P w K mg base "_law_keep_due" 2 (sp_l_keep_due K) := by
  refine D.fn sc__law_keep_due (fun _ _ _ _ _ _ us hl => match us, hl with | [_, _, _], _ => rfl) (fun vs H Q E h => ?_) (fun f cdv A outer s H vs Q E hr h => ?_)
  · obtain ⟨_, _, _, _, _, _, _, _, _, _, _, _, _, rfl, _⟩ := h
    rfl
  · obtain ⟨u, M, a, ds, de, ks, ke, st, v, d, v2, mo, d2, rfl, mok, L, hd, hlab, hmo, hz, q⟩ := h
    refine ⟨_, (pss_cons (ps_if (pt_not (pt_val (c0 F__law_is_name hr (pa_cons (pv 1) pa_nil)))) (pss_one (ps_ret (pe_lst (pa_cons pe_str (pa_cons (pv 1) pa_nil))))) pss_nil) (pss_cons (ps_if (PW.pt (pw_or (pt_cmp (pc_din (hu_of hr) (pv 1) (pe_dget (hu_of hr) (pv 0) pe_str (fun _ _ => rfl)))) (pw_or1 (pt_cmp (pc_din (hu_of hr) (pv 1) (pe_dget (hu_of hr) (pv 0) pe_str (fun _ _ => rfl))))))) (pss_one (ps_ret (pe_lst (pa_cons pe_str (pa_cons (pv 1) pa_nil))))) pss_nil) (pss_cons (ps_if (pt_not (pt_val (pe_callB call_isi (by rfl) B.isinstance (by decide +kernel) (pa_cons (pv 2) (pa_cons (pe_bltn (v := .ty "list") (by rfl) B.list (by decide +kernel) rfl) pa_nil))))) (pss_one (ps_ret (pe_lst (pa_cons pe_str (pa_cons (pv 2) pa_nil))))) pss_nil) (pss_cons (ps_set (i := 3) sc__law_keep_due.nd rfl (.inl rfl) (pe_dd2 pe_str pe_str (pe_callTy call_dictD (by rfl) B.dict (by decide +kernel) (pa_cons (pe_dget (hu_of hr) (pv 0) pe_str (fun _ _ => rfl)) pa_nil)) (pe_dget (hu_of hr) (pv 0) pe_str (fun _ _ => rfl)) (by decide +kernel))) (pss_cons (ps_dput (hu_of hr) (pe_dget (hu_of hr) (pv 3) pe_str (fun _ _ => rfl)) (pv 1) (pv 2) rfl) (pss_one (ps_ret (pe_lst (pa_cons pe_str (pa_cons (pv 3) pa_nil)))))))))), ?_⟩
    have LH := (L.leS (fr_leS M H)).weak
    refine ⟨_, rfl, v, d, rfl, (fr_le _ _).dp hd, hlab, fun H1 s1 => ⟨_, rfl, ?_⟩⟩
    have L1 := LH.le (Le.of s1)
    have hd1 := (same_le (M := M) s1).dp hd
    have mok1 := mok.same s1
    unfold keepDue at q
    refine ite2 (fun c1 => ?_) fun c1 => ?_
    · have c1 : isName d = false := by simpa using c1
      rw [if_pos c1] at q
      exact ⟨_, rfl, by show 2 ≤ sizeLine; decide, no_ans (e := .iName) (q.same s1) mok1 hd1⟩
    · have c1 : isName d = true := by simpa using c1
      rw [if_neg (by simp [c1])] at q
      cases hd with
      | str x =>
        refine ⟨_, rfl, _, rfl, a, _, rfl, L1.gS, ds, _, rfl, .inl ⟨ks, .inr x, L1.rs.rd, rfl, rfl⟩, _, rfl, ?_⟩
        rw [L1.as.isSome x]
        have tk : (lookD st.sch (.str x)).isSome = true ∨ (lookD st.ent (.str x)).isSome = true → DueP K u M H Q (.no .taken (.str x)) := fun h => by
          rcases h with h | h
          · rw [if_pos h] at q; exact q
          · by_cases c : (lookD st.sch (.str x)).isSome = true
            · rw [if_pos c] at q; exact q
            · rw [if_neg c, if_pos h] at q; exact q
        refine ite2 (fun c2 => ?_) fun c2 => ?_
        · exact ⟨_, rfl, by show 2 ≤ sizeLine; decide, no_ans (e := .taken) ((tk (.inl c2)).same s1) mok1 (.str x)⟩
        · refine ⟨_, rfl, _, rfl, a, _, rfl, L1.gE, de, _, rfl, .inl ⟨ke, .inr x, L1.re.rd, rfl, rfl⟩, _, rfl, ?_⟩
          rw [L1.ae.isSome x]
          refine ite2 (fun c3 => ?_) fun c3 => ?_
          · exact ⟨_, rfl, by show 2 ≤ sizeLine; decide, no_ans (e := .taken) ((tk (.inr c3)).same s1) mok1 (.str x)⟩
          · rw [if_neg (show ¬ (lookD st.sch (.str x)).isSome = true from c2), if_neg (show ¬ (lookD st.ent (.str x)).isSome = true from c3)] at q
            rcases hmo with ⟨m, sc, rfl, hm, g, rfl⟩ | ⟨h2, rfl, hty⟩
            · have q : DueP K u M H Q (.done { st with sch := put st.sch x sc }) := q
              have hm1 := hm.le (same_le s1)
              obtain ⟨ld, lb, m1, m2, m3⟩ := id hm1
              refine ⟨_, rfl, _, .ty "list", _, _, _, rfl, .ty _, tyX_list ((fr_le _ _).sqL m1), kit_list (.list []), _, rfl, ?_⟩
              refine fun p np => ?_
              have s2 := same_new (o := .dK []) np
              have L2 := L1.le (Le.of s2)
              refine ⟨_, rfl, a, _, rfl, L2.gS, ds, ks, rfl, L2.rs.rd, fun p2 np2 => ?_⟩
              have d12 : p ≠ p2 := fun e => by rw [← e, upd_same] at np2; cases np2
              have n2 : H1 p2 = none := none_same s2 np2
              have s3 := s2.trans (same_new (o := .dK ks) np2)
              have L3 := L1.le (Le.of s3)
              refine ⟨_, rfl, a, _, rfl, L3.gE, by rw [upd_ne d12]; exact upd_same, fun H3 e3 => ?_⟩
              have s4 : Same H1 H3 := by rw [e3]; exact newU s3 np
              have hp3 : H3 p = some (.dK (lkv p2 de)) := by rw [e3]; exact upd_same
              have hp23 : H3 p2 = some (.dK ks) := by rw [e3, upd_ne d12.symm]; exact upd_same
              clear e3
              have gS : DGet H3 p (.str "schemes") (some (.ref p2)) := .inl ⟨_, .inr "schemes", .inl hp3, rfl, rfl⟩
              have hl := L1.as.len
              obtain ⟨H5, e5⟩ : ∃ H5, H5 = upd H3 p2 (.dK (putK ks (.inr x) (.ref m))) := ⟨_, rfl⟩
              refine ⟨_, rfl, _, rfl, p, _, rfl, gS, _, rfl, p2, _, rfl, .inl ⟨ks, .inr x, hp23, rfl, by rw [sizeLine_eq]; omega, e5⟩, ?_⟩
              have s5 : Same H1 H5 := by rw [e5]; exact newU s4 n2
              have hpp : H5 p = some (.dK (lkv p2 de)) := by rw [e5, upd_ne d12]; exact hp3
              have hp2 : H5 p2 = some (.dK (putK ks (.inr x) (.ref m))) := by rw [e5]; exact upd_same
              clear e5
              refine ⟨_, rfl, by show 2 ≤ sizeLine; decide, fun l nl => ?_⟩
              have s56 := same_new (o := .lst [.str "done", .ref p]) nl
              have s6 := s5.trans s56
              have L6 := (L.leS (same_leS s1)).leS (same_leS s6)
              exact q l _ (s1.trans s6) ⟨p, p2, de, putK ks (.inr x) (.ref m), ke, .inl (.inl (upd_fr nl (mok1.same s5))), ⟨.inl (fr_of (s56 _ _ hpp) (mok1.new np)), .inl (fr_of (s56 _ _ hp2) (mok1.new n2)), L6.re, L6.as.put x ⟨m, rfl, hm1.le (same_le s6)⟩, L6.ae⟩⟩
            · have q : DueP K u M H Q (.no .notS d2) := q
              have h21 := (same_le (M := M) s1).dp h2
              refine ⟨_, rfl, _, .ty "list", _, _, _, rfl, .ty _, tyX_of ((fr_le _ _).dp h21), kit_list d2, _, rfl, ?_⟩
              rw [odd_list hty]
              exact ⟨_, rfl, by show 2 ≤ sizeLine; decide, no_ans (e := .notS) (q.same s1) mok1 h21⟩
      | _ => cases c1
def sp_l_put_due (K : PySem.W.Frag) : Sp := fun vs H Q _ => ∃ u M a ds de ks ke st v d w wd nv nd, vs = [.ref a, v, w, nv] ∧ Mok M H ∧ LStR K u (fr M H) a ds de ks ke st ∧ (∀ p ∈ st.sch, GoodS p.2) ∧ Dp K (fr M H) v d ∧ LabOk d ∧ Dp K (fr M H) w wd ∧ Dp K (fr M H) nv nd ∧ (∀ i, nd = .int i → i.natAbs < 2 ^ 1000) ∧ st.ent.length < 1000 ∧ DueP K u M H Q (putDue st d wd nd)
theorem ok_l_put_due {CS : Addr} (D : FnD K mg "_law_put_due" s__law_put_due [] []) (F__law_entry_due : Fn P w K mg base "_law_entry_due" 2 (sp_l_entry_due K)) (F__law_written : Fn P w K mg base "_law_written" 8 (sp_l_written K CS)) (F__law_entered : Fn P w K mg base "_law_entered" 1 (sp_l_entered K)) : Fn P w K mg base "_law_put_due" 9 (sp_l_put_due K) := by
  refine D.fn sc__law_put_due (fun _ _ _ _ _ _ us hl => match us, hl with | [_, _, _, _], _ => rfl) (fun vs H Q E h => ?_) (fun f cdv A outer s H vs Q E hr h => ?_)
  · obtain ⟨_, _, _, _, _, _, _, _, _, _, _, _, _, _, rfl, _⟩ := h
    rfl
  · obtain ⟨u, M, a, ds, de, ks, ke, st, v, d, w, wd, nv, nd, rfl, mok, L, gs, hd, hlab, hw, hn, hb, hz, q⟩ := h
    refine ⟨_, (pss_cons (ps_if (pt_cmpR op_notN (c0 F__law_entry_due hr (pa_cons (pv 0) (pa_cons (pv 1) (pa_cons (pv 2) pa_nil)))) pe_non (nomark _)) (pss_one (ps_ret (c0 F__law_entry_due hr (pa_cons (pv 0) (pa_cons (pv 1) (pa_cons (pv 2) pa_nil)))))) pss_nil) (pss_cons (ps_if (PW.pt (pw_or (pt_not (pt_val (pe_callB call_isi (by rfl) B.isinstance (by decide +kernel) (pa_cons (pv 3) (pa_cons (pe_bltn (v := .ty "int") (by rfl) B.int (by decide +kernel) rfl) pa_nil))))) (pw_or1 (pt_val (pe_callB call_isi (by rfl) B.isinstance (by decide +kernel) (pa_cons (pv 3) (pa_cons (pe_bltn (v := .ty "bool") (by rfl) B.bool (by decide +kernel) rfl) pa_nil))))))) (pss_one (ps_ret (pe_lst (pa_cons pe_str (pa_cons (pv 3) pa_nil))))) pss_nil) (pss_cons (ps_set (i := 4) sc__law_put_due.nd rfl (.inl rfl) (c0 F__law_written hr (pa_cons (pv 0) (pa_cons (pv 2) (pa_cons (pv 3) pa_nil))))) (pss_one (ps_ret (pe_ifExp (pt_cmpR op_isN (pv 4) pe_non (nomark _)) (pe_lst (pa_cons pe_str (pa_cons (pv 3) pa_nil))) (c0 F__law_entered hr (pa_cons (pv 0) (pa_cons (pv 1) (pa_cons (pv 2) (pa_cons (pv 4) pa_nil))))))))))), ?_⟩
    have LH := (L.leS (fr_leS M H)).weak
    unfold putDue at q
    cases e : entryDue st d wd with
    | some o =>
      obtain ⟨er, x, rfl⟩ := entry_no e
      rw [e] at q
      have q : DueP K u M H Q (.no er x) := q
      refine ⟨_, rfl, _, rfl, _, rfl, M, a, ds, de, ks, ke, st, v, d, w, wd, rfl, mok, LH, hd, hlab, hw, (fun h => by rw [e] at h; cases h), fun e9 x9 h l H1 s1 h1 => ?_⟩
      rw [e] at h
      cases h
      refine ⟨rfl, _, rfl, ?_⟩
      refine ⟨_, rfl, _, rfl, _, rfl, M, a, ds, de, ks, ke, st, v, d, w, wd, rfl, mok.same s1, LH.le (Le.of s1), (same_le s1).dp hd, hlab, (same_le s1).dp hw, (fun h => by rw [e] at h; cases h), fun e9 x9 h l2 H2 s2 h2 => ?_⟩
      rw [e] at h
      cases h
      exact q l2 H2 (s1.trans s2) h2
    | none =>
      rw [e] at q
      obtain ⟨c1, c2, x, y, sc, rfl, rfl, hsc⟩ := entry_none e
      cases hd
      cases hw
      refine ⟨_, rfl, _, rfl, _, rfl, M, a, ds, de, ks, ke, st, .str x, .str x, .str y, .str y, rfl, mok, LH, .str x, hlab, .str y, (fun _ H1 s1 => ⟨rfl, _, rfl, ?_⟩), fun e9 x9 h => by rw [e] at h; cases h⟩
      have mok1 := mok.same s1
      have L1 := L.leS (same_leS s1)
      have hn1 := (same_le (M := M) s1).dp hn
      have odd : (∀ i, nd ≠ .int i) → ∀ l, H1 l = none → Q (.ref l) (upd H1 l (.lst [.str (tagE .iNum), nv])) := fun h => no_ans (e := .iNum) (d := nd) (DueP.same s1 (by
        cases nd with
        | int i => exact absurd rfl (h i)
        | _ => exact q)) mok1 hn1
      refine ⟨_, rfl, nv, .ty "int", _, _, _, rfl, .ty _, tyX_of ((fr_le _ _).dp hn1), kit_int nd, _, rfl, ?_⟩
      cases hn1 with
      | int i =>
        refine ⟨_, rfl, .int i, .ty "bool", _, _, _, rfl, .ty _, tyX_of (.int i), kit_bool (.int i), _, rfl, ?_⟩
        have q : DueP K u M H Q (writtenDue st (.str x) (.str y) i) := q
        rw [written_eq hsc] at q
        have g : GoodS sc := gs _ (look_mem hsc)
        refine ⟨_, rfl, _, rfl, _, rfl, M, a, ds, de, ks, ke, st, y, sc, i, rfl, mok1, L1.weak, hsc, g, hb i rfl, fun e0 H2 s2 => ?_, fun row e1 t H2 s2 ht => ?_⟩
        · rw [e0] at q
          exact ⟨_, rfl, rfl, _, rfl, _, rfl, by show 2 ≤ sizeLine; decide, no_ans (e := .notW) (DueP.same (s1.trans s2) q) (mok1.same s2) (.int i)⟩
        · rw [e1] at q
          exact ⟨_, rfl, rfl, _, rfl, _, rfl, _, rfl, _, rfl, _, rfl, u, M, a, ds, de, ks, ke, st, x, y, t, row, rfl, mok1.same s2, L1.leS (same_leS s2), ht, hz, fun l H3 s3 h => q l H3 ((s1.trans s2).trans s3) h⟩
      | bl b =>
        refine ⟨_, rfl, .bl b, .ty "bool", _, _, _, rfl, .ty _, tyX_of (.bl b), kit_bool (.bool b), _, rfl, ?_⟩
        exact ⟨_, rfl, by show 2 ≤ sizeLine; decide, odd (by intro i h; cases h)⟩
      | non => exact ⟨_, rfl, by show 2 ≤ sizeLine; decide, odd (by intro i h; cases h)⟩
      | str z => exact ⟨_, rfl, by show 2 ≤ sizeLine; decide, odd (by intro i h; cases h)⟩
      | lst h1 h2 => exact ⟨_, rfl, by show 2 ≤ sizeLine; decide, odd (by intro i h; cases h)⟩
      | tup h1 h2 => exact ⟨_, rfl, by show 2 ≤ sizeLine; decide, odd (by intro i h; cases h)⟩
def sp_l_lay_due (K : PySem.W.Frag) : Sp := fun vs H Q _ => ∃ u M a ds de ks ke st v d w wd lv ld, vs = [.ref a, v, w, lv] ∧ Mok M H ∧ LStR K u (fr M H) a ds de ks ke st ∧ (∀ p ∈ st.sch, GoodS p.2) ∧ Dp K (fr M H) v d ∧ LabOk d ∧ Dp K (fr M H) w wd ∧ Dp K (fr M H) lv ld ∧ LineOk ld ∧ st.ent.length < 1000 ∧ DueP K u M H Q (layDue st d wd ld)
theorem ok_l_lay_due (D : FnD K mg "_law_lay_due" s__law_lay_due [] []) (F__law_entry_due : Fn P w K mg base "_law_entry_due" 2 (sp_l_entry_due K)) (F__law_is_row : Fn P w K mg base "_law_is_row" 1 (sp_l_is_row K)) (F__law_entered : Fn P w K mg base "_law_entered" 1 (sp_l_entered K)) : Fn P w K mg base "_law_lay_due" 3 (sp_l_lay_due K) := by
  refine D.fn sc__law_lay_due (fun _ _ _ _ _ _ us hl => match us, hl with | [_, _, _, _], _ => rfl) (fun vs H Q E h => ?_) (fun f cdv A outer s H vs Q E hr h => ?_)
  · obtain ⟨_, _, _, _, _, _, _, _, _, _, _, _, _, _, rfl, _⟩ := h
    rfl
  · obtain ⟨u, M, a, ds, de, ks, ke, st, v, d, w, wd, lv, ld, rfl, mok, L, gs, hd, hlab, hw, hn, hb, hz, q⟩ := h
    refine ⟨_, (pss_cons (ps_if (pt_cmpR op_notN (c0 F__law_entry_due hr (pa_cons (pv 0) (pa_cons (pv 1) (pa_cons (pv 2) pa_nil)))) pe_non (nomark _)) (pss_one (ps_ret (c0 F__law_entry_due hr (pa_cons (pv 0) (pa_cons (pv 1) (pa_cons (pv 2) pa_nil)))))) pss_nil) (pss_cons (ps_set (i := 4) sc__law_lay_due.nd rfl (.inl rfl) (pe_and (pe_callB call_isi (by rfl) B.isinstance (by decide +kernel) (pa_cons (pv 3) (pa_cons (pe_bltn (v := .ty "tuple") (by rfl) B.tuple (by decide +kernel) rfl) pa_nil))) (pe_one (pe_cmpR (op_eqD hr.units) (pe_lc rfl sc__law_lay_due.nd (own := [("_law_digit", 5)]) (g := gName 5) (tt := _) (pi_tup (pv 3)) (blkOk_by (N := ["_law_state", "_law_label", "_law_spot", "_law_line", "_law_good", "_law_digit"]) (sc := defScope s__law_lay_due) (by decide +kernel)) (fun _ _ _ _ _ => (pg_name (i := 5) sc__law_lay_due.nd rfl (.inl rfl))) (fun _ _ _ _ _ => (pts_one (pt_val (pe_callB (r := rIsi K) call_isi (by rfl) B.isinstance (by decide +kernel) (pa_cons (pv 5) (pa_cons (pe_bltn (v := .ty "bool") (by rfl) B.bool (by decide +kernel) rfl) pa_nil)))))) (fun _ _ _ _ _ => (pv 5))) (pe_lst pa_nil) (nomark _))))) (pss_cons (ps_if (PW.pt (pw_or (pt_not (pt_val (pv 4))) (pw_or1 (pt_not (pt_val (c0 F__law_is_row hr (pa_cons (pe_dget (hu_of hr) (pe_dget (hu_of hr) (pv 0) pe_str (fun _ _ => rfl)) (pv 2) (fun _ _ => rfl)) (pa_cons (pv 3) pa_nil)))))))) (pss_one (ps_ret (pe_lst (pa_cons pe_str (pa_cons (pv 3) pa_nil))))) pss_nil) (pss_one (ps_ret (c0 F__law_entered hr (pa_cons (pv 0) (pa_cons (pv 1) (pa_cons (pv 2) (pa_cons (pv 3) pa_nil)))))))))), ?_⟩
    have LH := (L.leS (fr_leS M H)).weak
    cases e : entryDue st d wd with
    | some o =>
      obtain ⟨er, x, rfl⟩ := entry_no e
      unfold layDue at q
      rw [e] at q
      have q : DueP K u M H Q (.no er x) := q
      refine ⟨_, rfl, _, rfl, _, rfl, M, a, ds, de, ks, ke, st, v, d, w, wd, rfl, mok, LH, hd, hlab, hw, (fun h => by rw [e] at h; cases h), fun e9 x9 h l H1 s1 h1 => ?_⟩
      rw [e] at h
      cases h
      refine ⟨rfl, _, rfl, ?_⟩
      refine ⟨_, rfl, _, rfl, _, rfl, M, a, ds, de, ks, ke, st, v, d, w, wd, rfl, mok.same s1, LH.le (Le.of s1), (same_le s1).dp hd, hlab, (same_le s1).dp hw, (fun h => by rw [e] at h; cases h), fun e9 x9 h l2 H2 s2 h2 => ?_⟩
      rw [e] at h
      cases h
      exact q l2 H2 (s1.trans s2) h2
    | none =>
      obtain ⟨c1, c2, x, y, sc, rfl, rfl, hsc⟩ := entry_none e
      rw [lay_eq e hsc] at q
      cases hd
      cases hw
      refine ⟨_, rfl, _, rfl, _, rfl, M, a, ds, de, ks, ke, st, .str x, .str x, .str y, .str y, rfl, mok, LH, (.str x), hlab, (.str y), (fun _ H1 s1 => ⟨rfl, _, rfl, ?_⟩), fun e9 x9 h => by rw [e] at h; cases h⟩
      have mok1 := mok.same s1
      have L1 := L.leS (same_leS s1)
      have LH1 := (L1.leS (fr_leS M H1)).weak
      have hn1 := (same_le (M := M) s1).dp hn
      have g : GoodS sc := gs _ (look_mem hsc)
      refine ⟨_, rfl, lv, .ty "tuple", _, _, _, rfl, .ty _, tyX_of ((fr_le _ _).dp hn1), kit_tuple ld, _, rfl, ?_⟩
      have odd : rowD sc ld = false → ∀ H2, Same H1 H2 → ∀ l, H2 l = none → Q (.ref l) (upd H2 l (.lst [.str (tagE .iRow), lv])) := fun h H2 s2 => no_ans (e := .iRow) (d := ld) (DueP.same (s1.trans s2) (by
        rw [if_neg (by rw [h]; simp)] at q
        exact q)) (mok1.same s2) ((same_le s2).dp hn1)
      cases hn1 with
      | @tup t xs l ht hxs =>
        obtain ⟨hl1, hl2⟩ := hb l rfl
        have hlx := sqL_len hxs
        refine ⟨_, rfl, t, rfl, ⟨_, (fr_le _ _).sqT ht⟩, fun Dl nD => lc_tup (xs := xs) (LcI [] M Dl H1 (fun i acc F => DpAll K F acc ((l.take i).filter (isD "bool")))) (LcI.start mok1 (by simp) nD .nil)
          (fun i H' _ p => (Le.of p.stp.same).sqT ((fr_le _ _).sqT ht)) (fun i z H' hz p => ?_) (fun H' p => ?_)⟩
        · obtain ⟨dt, e1, hdt⟩ := dpAll_mem hxs hz
          have hi := (List.getElem?_eq_some_iff.mp hz).1
          have rf := Stp.refl p.mok (A := []) (by simp)
          have le := p.le (by simp) nD
          have hdt1 := le.dp hdt
          refine ⟨rfl, _, rfl, z, .ty "bool", _, _, _, rfl, .ty _, tyX_of ((fr_le _ _).dp hdt1), kit_bool dt, _, rfl, ?_⟩
          refine ite2 (fun c => ?_) fun c => ?_
          · refine ⟨_, rfl, p.step (by simp) nD mok1 rf (by rw [sizeLine_eq]; omega) (fun acc _ r => ?_)⟩
            rw [take_succ_of e1, List.filter_append, List.filter_cons_of_pos c]
            exact dpAll_app r (.cons hdt1 .nil)
          · refine p.skip (by simp) nD mok1 rf (fun acc _ r => ?_)
            rw [take_succ_of e1, List.filter_append, List.filter_cons_of_neg c, List.filter_nil, List.append_nil]
            exact r
        · obtain ⟨acc, hA, _, r⟩ := p.ex
          rw [hlx, List.take_length] at r
          have s2 := p.stp.same
          refine ⟨by show 0 ≤ sizeLine; decide, fun l0 n0 => ⟨.list (l.filter (isD "bool")), .list [], .lst (.inl (.inl (same_new (o := .lst []) n0 _ _ hA))) ((Le.of (same_new n0)).dpAll ((fr_le _ _).dpAll r)), .lst (.inl (.inl upd_same)) .nil, bools_shaped (fun t ht => (List.mem_filter.mp ht).2), by decide, ?_⟩⟩
          have s3 := s2.trans (same_new (o := .lst []) n0)
          rw [eqv_nil]
          generalize upd H' l0 (.lst []) = H2 at *
          refine ⟨_, rfl, _, rfl, ite2 (fun c => ?_) fun c => ?_⟩
          · refine ⟨_, rfl, by show 2 ≤ sizeLine; decide, odd ?_ H2 s3⟩
            cases hro : rowD sc (.tuple l) with
            | false => rfl
            | true =>
              obtain ⟨row, e9⟩ := rowD_row hro
              cases e9
              rw [nobool_ints] at c
              cases c
          · have c : (l.filter (isD "bool")).isEmpty = true := by simpa using c
            obtain ⟨row, rfl⟩ := ints_of_nobool hl2 c
            have ex := of_dp_ints hxs
            subst ex
            have L2 := L1.leS (same_leS s3)
            have LH2 := (L2.leS (fr_leS M H2)).weak
            obtain ⟨v2, e2, m, rfl, hm⟩ := L2.as.some y hsc
            have gsd : DGet H2 ds (.str y) (some (.ref m)) := .inl ⟨ks, .inr y, LH2.rs.rd, rfl, e2.symm⟩
            have ht2 := (same_le s3).sqT ht
            rw [List.length_map] at hl1
            refine ⟨_, rfl, a, _, rfl, LH2.gS, _, rfl, ds, _, rfl, gsd, _, rfl, m, t, sc, row, rfl, hm.le (fr_le _ _), g, (fr_le _ _).sqT ht2, hl1, fun H4 s4 => ⟨_, rfl, ?_⟩⟩
            refine ite2 (fun c4 => ?_) fun c4 => ?_
            · exact ⟨_, rfl, by show 2 ≤ sizeLine; decide, odd (by simpa using c4) H4 (s3.trans s4)⟩
            · rw [if_pos (by simpa using c4), rowOf_ints] at q
              exact ⟨_, rfl, _, rfl, _, rfl, _, rfl, u, M, a, ds, de, ks, ke, st, x, y, t, row, rfl, (mok1.same s3).same s4, L2.leS (same_leS s4), (same_le s4).sqT ht2, hz, fun l9 H5 s5 h => q l9 H5 (((s1.trans s3).trans s4).trans s5) h⟩
      | _ => exact ⟨_, rfl, _, rfl, _, rfl, by show 2 ≤ sizeLine; decide, odd rfl H1 (Same.refl H1)⟩
def sp_l_move_due (K : PySem.W.Frag) : Sp := fun vs H Q _ => ∃ n u M a ds de ks ke st v d w wd, vs = [.ref a, v, w] ∧ Mok M H ∧ LStR K u (fr M H) a ds de ks ke st ∧ GoodT n st ∧ n ≤ 100 ∧ Dp K (fr M H) v d ∧ Dp K (fr M H) w wd ∧ st.ent.length < 1000 ∧ DueP K u M H Q (moveDue st d wd)
theorem ok_l_move_due {CS : Addr} (D : FnD K mg "_law_move_due" s__law_move_due [] []) (F__law_known : Fn P w K mg base "_law_known" 1 (sp_l_known K)) (F__law_number_of : Fn P w K mg base "_law_number_of" 2 (sp_l_number_of K)) (F__law_written : Fn P w K mg base "_law_written" 8 (sp_l_written K CS)) (F__law_entered : Fn P w K mg base "_law_entered" 1 (sp_l_entered K)) : Fn P w K mg base "_law_move_due" 9 (sp_l_move_due K) := by
  refine D.fn sc__law_move_due (fun _ _ _ _ _ _ us hl => match us, hl with | [_, _, _], _ => rfl) (fun vs H Q E h => ?_) (fun f cdv A outer s H vs Q E hr h => ?_)
  · obtain ⟨_, _, _, _, _, _, _, _, _, _, _, _, _, rfl, _⟩ := h
    rfl
  · obtain ⟨n, u, M, a, ds, de, ks, ke, st, v, d, w, wd, rfl, mok, L, gt, hn, hd, hw, hz, q⟩ := h
    refine ⟨_, (pss_cons (ps_if (pt_not (pt_val (c0 F__law_known hr (pa_cons (pv 1) (pa_cons (pe_dget (hu_of hr) (pv 0) pe_str (fun _ _ => rfl)) pa_nil))))) (pss_one (ps_ret (pe_lst (pa_cons pe_str (pa_cons (pv 1) pa_nil))))) pss_nil) (pss_cons (ps_if (pt_not (pt_val (c0 F__law_known hr (pa_cons (pv 2) (pa_cons (pe_dget (hu_of hr) (pv 0) pe_str (fun _ _ => rfl)) pa_nil))))) (pss_one (ps_ret (pe_lst (pa_cons pe_str (pa_cons (pv 2) pa_nil))))) pss_nil) (pss_cons (ps_set (i := 3) sc__law_move_due.nd rfl (.inl rfl) (c0 F__law_number_of hr (pa_cons (pv 0) (pa_cons (pv 1) pa_nil)))) (pss_cons (ps_set (i := 4) sc__law_move_due.nd rfl (.inl rfl) (c0 F__law_written hr (pa_cons (pv 0) (pa_cons (pv 2) (pa_cons (pv 3) pa_nil))))) (pss_one (ps_ret (pe_ifExp (pt_cmpR op_isN (pv 4) pe_non (nomark _)) (pe_lst (pa_cons pe_str (pa_cons (pv 3) pa_nil))) (c0 F__law_entered hr (pa_cons (pv 0) (pa_cons (pv 1) (pa_cons (pv 2) (pa_cons (pv 4) pa_nil)))))))))))), ?_⟩
    have LH := (L.leS (fr_leS M H)).weak
    unfold moveDue at q
    refine ⟨_, rfl, _, rfl, a, _, rfl, LH.gE, v, d, de, ke, st.ent.map (·.1), rfl, (fr_le _ _).dp hd, LH.re.rd, LH.ae.keys, _, rfl, ?_⟩
    rw [inD_look]
    cases e1 : lookD st.ent d with
    | none =>
      rw [e1] at q
      exact ⟨_, rfl, by show 2 ≤ sizeLine; decide, no_ans (e := .unk) q mok hd⟩
    | some en =>
      rw [e1] at q
      refine ⟨_, rfl, _, rfl, a, _, rfl, LH.gS, w, wd, ds, ks, st.sch.map (·.1), rfl, (fr_le _ _).dp hw, LH.rs.rd, LH.as.keys, _, rfl, ?_⟩
      rw [inD_look]
      cases e2 : lookD st.sch wd with
      | none =>
        have q : DueP K u M H Q (match lookD st.sch wd with | none => .no .unk wd | some _ => writtenDue st d wd (numOf st en)) := q
        rw [e2] at q
        exact ⟨_, rfl, by show 2 ≤ sizeLine; decide, no_ans (e := .unk) q mok hw⟩
      | some sc =>
        have q : DueP K u M H Q (match lookD st.sch wd with | none => .no .unk wd | some _ => writtenDue st d wd (numOf st en)) := q
        rw [e2] at q
        have q : DueP K u M H Q (writtenDue st d wd (numOf st en)) := q
        cases hd with
        | str x =>
          cases hw with
          | str y =>
            have hsc : look st.sch y = some sc := e2
            have hen : look st.ent x = some en := e1
            rw [written_eq hsc] at q
            have g : GoodS sc := gt.gs _ (look_mem hsc)
            have hbd : (numOf st en).natAbs < 2 ^ 1000 := by
              obtain ⟨s9, h1, h2, h3, h4⟩ := gt.es _ (look_mem hen)
              have e9 : numOf st en = val s9.base en.2 := by
                show (match look st.sch en.1 with | some s => val s.base en.2 | none => 0) = _
                rw [h1]
              rw [e9]
              exact num_small (by omega) h3
            refine ⟨_, rfl, _, rfl, n, a, ds, de, ks, ke, st, x, en, rfl, LH, gt, hen, ?_⟩
            refine ⟨_, rfl, _, rfl, _, rfl, M, a, ds, de, ks, ke, st, y, sc, _, rfl, mok, L.weak, hsc, g, hbd, fun e0 H2 s2 => ?_, fun row e1 t H2 s2 ht => ?_⟩
            · rw [e0] at q
              exact ⟨_, rfl, rfl, _, rfl, _, rfl, by show 2 ≤ sizeLine; decide, no_ans (e := .notW) (q.same s2) (mok.same s2) (.int _)⟩
            · rw [e1] at q
              exact ⟨_, rfl, rfl, _, rfl, _, rfl, _, rfl, _, rfl, _, rfl, u, M, a, ds, de, ks, ke, st, x, y, t, row, rfl, mok.same s2, L.leS (same_leS s2), ht, hz, fun l H3 s3 h => q l H3 (s2.trans s3) h⟩
          | _ => cases e2
        | _ => cases e1
end
end K75
set_option maxHeartbeats 400000
namespace K75
open PySem PySem.Spec PyProof.Rows L2
abbrev s__law_good_term : Stmt := top 76
theorem sc__law_good_term : FnScope ["_law_item"] ["_law_item"] (defScope s__law_good_term) := ⟨rfl, rfl, rfl, by decide +kernel, rfl, by decide +kernel, by decide +kernel⟩
abbrev s__law_reckon_due : Stmt := top 77
theorem sc__law_reckon_due : FnScope ["_law_state", "_law_label", "_law_spot", "_law_parts", "_law_item", "_law_factor", "_law_entry", "_law_number_here", "_law_line"] ["_law_state", "_law_label", "_law_spot", "_law_parts"] (defScope s__law_reckon_due) := ⟨rfl, rfl, rfl, by decide +kernel, rfl, by decide +kernel, by decide +kernel⟩
theorem term_int (i : Int) : (isIntD (.int i) (-2) 2 && nz (.int i)) = decide (i ∈ ([-2, -1, 1, 2] : List Int)) := by
  rw [Bool.eq_iff_iff]
  simp only [isIntD, nz, Bool.and_eq_true, decide_eq_true_eq, List.mem_cons, List.not_mem_nil, or_false]
  omega
/-- what may be given as terms -/
def PartsOk (td : PyData) : Prop := (∀ l, td ≠ .tuple l) ∧ ∀ l, td = .list l → l.length ≤ 1000 ∧ ∀ t ∈ l, ∀ ds, t = .tuple ds → ∀ x ∈ ds, LabOk x
section
variable {P : Program} {w : World} {K : PySem.W.Frag} {mg : Str → Option Value} {base : Heap} (B : Blt mg)
include B
def sp_l_good_term (K : PySem.W.Frag) : Sp := fun vs H Q _ => ∃ v d, vs = [v] ∧ Dp K H v d ∧ (∀ ds, d = .tuple ds → ∀ x ∈ ds, LabOk x) ∧ ∀ H', Same H H' → Q (.bl (isTerm d)) H'
theorem ok_l_good_term (D : FnD K mg "_law_good_term" s__law_good_term [] []) (F__law_is_name : Fn P w K mg base "_law_is_name" 1 (sp_l_is_name K)) : Fn P w K mg base "_law_good_term" 2 (sp_l_good_term K) := by
  refine D.fn sc__law_good_term (fun _ _ _ _ _ _ us hl => match us, hl with | [_], _ => rfl) (fun vs H Q E h => ?_) (fun f cdv A outer s H vs Q E hr h => ?_)
  · obtain ⟨_, _, rfl, _⟩ := h
    rfl
  · obtain ⟨v, d, rfl, hd, hsh, q⟩ := h
    refine ⟨_, (pss_cons (ps_if (PW.pt (pw_or (pt_not (pt_val (pe_callB call_isi (by rfl) B.isinstance (by decide +kernel) (pa_cons (pv 0) (pa_cons (pe_bltn (v := .ty "tuple") (by rfl) B.tuple (by decide +kernel) rfl) pa_nil))))) (pw_or (pt_cmpR op_ne (pe_callB call_len (by rfl) B.len (by decide +kernel) (pa_cons (pv 0) pa_nil)) pe_int (nomark _)) (pw_or1 (pt_not (pt_val (c0 F__law_is_name hr (pa_cons (pe_ix ix_tup (pv 0) pe_int (fun _ _ => rfl)) pa_nil)))))))) (pss_one (ps_ret pe_bl)) pss_nil) (pss_one (ps_ret (pe_and (pe_callB call_isi (by rfl) B.isinstance (by decide +kernel) (pa_cons (pe_ix ix_tup (pv 0) pe_int (fun _ _ => rfl)) (pa_cons (pe_bltn (v := .ty "int") (by rfl) B.int (by decide +kernel) rfl) pa_nil))) (pe_and (pe_not (pe_callB call_isi (by rfl) B.isinstance (by decide +kernel) (pa_cons (pe_ix ix_tup (pv 0) pe_int (fun _ _ => rfl)) (pa_cons (pe_bltn (v := .ty "bool") (by rfl) B.bool (by decide +kernel) rfl) pa_nil)))) (pe_one (pe_cmpR op_in_seq (pe_ix ix_tup (pv 0) pe_int (fun _ _ => rfl)) (pe_lst (pa_cons (pe_un un_neg pe_int) (pa_cons (pe_un un_neg pe_int) (pa_cons pe_int (pa_cons pe_int pa_nil))))) (by rfl)))))))), ?_⟩
    refine ⟨v, rfl, v, .ty "tuple", _, _, _, rfl, .ty _, tyX_of hd, kit_tuple d, _, rfl, ?_⟩
    cases hd with
    | @tup t xs ds ht hxs =>
      have hlen := sqL_len hxs
      refine ⟨_, rfl, _, xs.length, rfl, .inr ⟨_, ht, rfl⟩, rfl, _, rfl, ?_⟩
      refine ite2 (fun c => ?_) fun c => ?_
      · have c2 : ds.length ≠ 2 := fun h => by
          rw [hlen, h] at c
          exact absurd c (by decide)
        have e : isTerm (.tuple ds) = false := by
          match ds, c2 with
          | [], _ => rfl
          | [_], _ => rfl
          | _ :: _ :: _ :: _, _ => rfl
        have := q H (Same.refl H)
        rw [e] at this
        exact this
      · have c2 : xs.length = 2 := by
          have : ¬ V.int (xs.length : Int) ≠ V.int 2 := by simpa using c
          have := Classical.not_not.mp this
          injection this with this
          omega
        have hd2 : ds.length = 2 := by omega
        obtain ⟨d0, d1, rfl⟩ : ∃ d0 d1, ds = [d0, d1] := by
          match ds, hd2 with
          | [a, b], _ => exact ⟨a, b, rfl⟩
        obtain ⟨v0, v1, rfl⟩ : ∃ v0 v1, xs = [v0, v1] := by
          match xs, c2 with
          | [a, b], _ => exact ⟨a, b, rfl⟩
        have h0 : Dp K H v0 d0 := by cases hxs with | cons h r => exact h
        have h1 : Dp K H v1 d1 := by cases hxs with | cons h r => cases r with | cons h2 r2 => exact h2
        refine ⟨_, rfl, t, [v0, v1], 1, v1, rfl, rfl, ht, rfl, v1, d1, rfl, h1, hsh _ rfl d1 (by simp), fun H' s1 => ⟨_, rfl, ?_⟩⟩
        have ht' := (Le.of s1).sqT ht
        have h0' := (Le.of s1).dp h0
        refine ite2 (fun c3 => ?_) fun c3 => ?_
        · have e : isTerm (.tuple [d0, d1]) = false := by
            show (isName d1 && _) = false
            rw [show isName d1 = false by simpa using c3, Bool.false_and]
          have := q H' s1
          rw [e] at this
          exact this
        · have e : isTerm (.tuple [d0, d1]) = (isIntD d0 (-2) 2 && nz d0) := by
            show (isName d1 && _) = _
            rw [show isName d1 = true by simpa using c3, Bool.true_and]
          refine ⟨_, rfl, t, [v0, v1], 0, v0, rfl, rfl, ht', rfl, v0, .ty "int", _, _, _, rfl, .ty _, tyX_of h0', kit_int d0, _, rfl, ?_⟩
          cases h0' with
          | int i =>
            refine ⟨_, rfl, t, [.int i, v1], 0, .int i, rfl, rfl, ht', rfl, .int i, .ty "bool", _, _, _, rfl, .ty _, tyX_of (.int i), kit_bool (.int i), _, rfl, _, rfl, ?_⟩
            refine ⟨_, rfl, t, [.int i, v1], 0, .int i, rfl, rfl, ht', rfl, 2, rfl, 1, rfl, by show 4 ≤ sizeLine; decide, fun l nl => ⟨l, ([-2, -1, 1, 2] : List Int).map V.int, rfl, .inl (.inl (.inl upd_same)), rfl, flat_ints _, ?_⟩⟩
            show Q (.bl (inV (.int i) (([-2, -1, 1, 2] : List Int).map V.int))) _
            rw [inV_ints, ← term_int, ← e]
            exact q _ (s1.trans (same_new nl))
          | bl b =>
            refine ⟨_, rfl, t, [.bl b, v1], 0, .bl b, rfl, rfl, ht', rfl, .bl b, .ty "bool", _, _, _, rfl, .ty _, tyX_of (.bl b), kit_bool (.bool b), _, rfl, _, rfl, ?_⟩
            have := q H' s1
            rw [e] at this
            exact this
          | _ =>
            have := q H' s1
            rw [e] at this
            exact this
    | _ => exact q H (Same.refl H)
def sp_l_reckon_due (K : PySem.W.Frag) : Sp := fun vs H Q _ => ∃ n u M a ds de ks ke st v d w wd tv td, vs = [.ref a, v, w, tv] ∧ Mok M H ∧ LStR K u (fr M H) a ds de ks ke st ∧ GoodT n st ∧ n ≤ 100 ∧ Dp K (fr M H) v d ∧ LabOk d ∧ Dp K (fr M H) w wd ∧ Dp K (fr M H) tv td ∧ PartsOk td ∧ st.ent.length < 1000 ∧ DueP K u M H Q (reckonDue st d wd td)
theorem ok_l_reckon_due {CS : Addr} (D : FnD K mg "_law_reckon_due" s__law_reckon_due [] []) (F__law_entry_due : Fn P w K mg base "_law_entry_due" 2 (sp_l_entry_due K)) (F__law_good_term : Fn P w K mg base "_law_good_term" 2 (sp_l_good_term K)) (F__law_number_of : Fn P w K mg base "_law_number_of" 2 (sp_l_number_of K)) (F__law_written : Fn P w K mg base "_law_written" 8 (sp_l_written K CS)) (F__law_entered : Fn P w K mg base "_law_entered" 1 (sp_l_entered K)) : Fn P w K mg base "_law_reckon_due" 9 (sp_l_reckon_due K) := by
  refine D.fn sc__law_reckon_due (fun _ _ _ _ _ _ us hl => match us, hl with | [_, _, _, _], _ => rfl) (fun vs H Q E h => ?_) (fun f cdv A outer s H vs Q E hr h => ?_)
  · obtain ⟨_, _, _, _, _, _, _, _, _, _, _, _, _, _, _, rfl, _⟩ := h
    rfl
  · obtain ⟨n, u, M, a, ds, de, ks, ke, st, v, d, w, wd, tv, td, rfl, mok, L, gt, hn, hd, hlab, hw, ht, ⟨hnt, hpo⟩, hz, q⟩ := h
    refine ⟨_, (pss_cons (ps_if (pt_cmpR op_notN (c0 F__law_entry_due hr (pa_cons (pv 0) (pa_cons (pv 1) (pa_cons (pv 2) pa_nil)))) pe_non (nomark _)) (pss_one (ps_ret (c0 F__law_entry_due hr (pa_cons (pv 0) (pa_cons (pv 1) (pa_cons (pv 2) pa_nil)))))) pss_nil) (pss_cons (ps_if (PW.pt (pw_or (pt_not (pt_val (pe_callB call_isi (by rfl) B.isinstance (by decide +kernel) (pa_cons (pv 3) (pa_cons (pe_bltn (v := .ty "list") (by rfl) B.list (by decide +kernel) rfl) pa_nil))))) (pw_or (pt_cmpR op_lt (pe_callB call_len (by rfl) B.len (by decide +kernel) (pa_cons (pv 3) pa_nil)) pe_int (nomark _)) (pw_or1 (pt_cmpR op_gt (pe_callB call_len (by rfl) B.len (by decide +kernel) (pa_cons (pv 3) pa_nil)) pe_int (nomark _)))))) (pss_one (ps_ret (pe_lst (pa_cons pe_str (pa_cons (pv 3) pa_nil))))) pss_nil) (pss_cons (ps_for (passes_of rfl) rfl (pi_list (pv 3)) (pg_name (i := 4) sc__law_reckon_due.nd rfl (.inl rfl)) (pss_one (ps_if (pt_not (pt_val (c0 F__law_good_term hr (pa_cons (pv 4) pa_nil)))) (pss_one (ps_ret (pe_lst (pa_cons pe_str (pa_cons (pv 4) pa_nil))))) pss_nil))) (pss_cons (ps_for (passes_of rfl) rfl (pi_list (pv 3)) (pg_tup rfl (pgs_cons (pg_name (i := 5) sc__law_reckon_due.nd rfl (.inl rfl)) (pgs_cons (pg_name (i := 6) sc__law_reckon_due.nd rfl (.inl rfl)) pgs_nil))) (pss_one (ps_if (pt_cmp (pc_dnotin (hu_of hr) (pv 6) (pe_dget (hu_of hr) (pv 0) pe_str (fun _ _ => rfl)))) (pss_one (ps_ret (pe_lst (pa_cons pe_str (pa_cons (pv 6) pa_nil))))) pss_nil))) (pss_cons (ps_set (i := 7) sc__law_reckon_due.nd rfl (.inl rfl) (pe_callB (cr_sum rfl) (by rfl) B.sum (by decide +kernel) (pa_cons (pe_lc rfl sc__law_reckon_due.nd (own := [("_law_factor", 5), ("_law_entry", 6)]) (g := gTup K 2 (gCons (gName 5) (gCons (gName 6) (gNil)))) (tt := tYes) (pi_list (pv 3)) (blkOk_by (N := ["_law_state", "_law_label", "_law_spot", "_law_parts", "_law_item", "_law_factor", "_law_entry", "_law_number_here", "_law_line"]) (sc := defScope s__law_reckon_due) (by decide +kernel)) (fun _ _ _ _ _ => (pg_tup rfl (pgs_cons (pg_name (i := 5) sc__law_reckon_due.nd rfl (.inl rfl)) (pgs_cons (pg_name (i := 6) sc__law_reckon_due.nd rfl (.inl rfl)) pgs_nil)))) (fun _ _ _ _ _ => pts_nil) (fun _ _ _ _ _ => (pe_op op_mulW (pv 5) (c0 F__law_number_of hr (pa_cons (pv 0) (pa_cons (pv 6) pa_nil)))))) pa_nil))) (pss_cons (ps_set (i := 8) sc__law_reckon_due.nd rfl (.inl rfl) (c0 F__law_written hr (pa_cons (pv 0) (pa_cons (pv 2) (pa_cons (pv 7) pa_nil))))) (pss_one (ps_ret (pe_ifExp (pt_cmpR op_isN (pv 8) pe_non (nomark _)) (pe_lst (pa_cons pe_str (pa_cons (pv 7) pa_nil))) (c0 F__law_entered hr (pa_cons (pv 0) (pa_cons (pv 1) (pa_cons (pv 2) (pa_cons (pv 8) pa_nil)))))))))))))), ?_⟩
    have LH := (L.leS (fr_leS M H)).weak
    unfold reckonDue at q
    cases e : entryDue st d wd with
    | some o =>
      obtain ⟨er, x, rfl⟩ := entry_no e
      rw [e] at q
      have q : DueP K u M H Q (.no er x) := q
      refine ⟨_, rfl, _, rfl, _, rfl, M, a, ds, de, ks, ke, st, v, d, w, wd, rfl, mok, LH, hd, hlab, hw, (fun h => by rw [e] at h; cases h), fun e9 x9 h l H1 s1 h1 => ?_⟩
      rw [e] at h
      cases h
      refine ⟨rfl, _, rfl, ?_⟩
      refine ⟨_, rfl, _, rfl, _, rfl, M, a, ds, de, ks, ke, st, v, d, w, wd, rfl, mok.same s1, LH.le (Le.of s1), (same_le s1).dp hd, hlab, (same_le s1).dp hw, (fun h => by rw [e] at h; cases h), fun e9 x9 h l2 H2 s2 h2 => ?_⟩
      rw [e] at h
      cases h
      exact q l2 H2 (s1.trans s2) h2
    | none =>
      rw [e] at q
      obtain ⟨c1, c2, x, y, sc, rfl, rfl, hsc⟩ := entry_none e
      cases hd
      cases hw
      have qe : ∀ e, termsErr st td = some e → DueP K u M H Q (.no e.1 e.2) := fun e h => by
        have q : DueP K u M H Q (match termsErr st td with | some e => .no e.1 e.2 | none => writtenDue st (.str x) (.str y) (termsSum st td)) := q
        rw [h] at q
        exact q
      have qn : termsErr st td = none → DueP K u M H Q (writtenDue st (.str x) (.str y) (termsSum st td)) := fun h => by
        have q : DueP K u M H Q (match termsErr st td with | some e => .no e.1 e.2 | none => writtenDue st (.str x) (.str y) (termsSum st td)) := q
        rw [h] at q
        exact q
      clear q
      refine ⟨_, rfl, _, rfl, _, rfl, M, a, ds, de, ks, ke, st, .str x, .str x, .str y, .str y, rfl, mok, LH, (.str x), hlab, (.str y), (fun _ H1 s1 => ⟨rfl, _, rfl, ?_⟩), fun e9 x9 h => by rw [e] at h; cases h⟩
      have mok1 := mok.same s1
      have L1 := L.leS (same_leS s1)
      have ht1 := (same_le (M := M) s1).dp ht
      have g : GoodS sc := gt.gs _ (look_mem hsc)
      refine ⟨_, rfl, tv, .ty "list", _, _, _, rfl, .ty _, tyX_of ((fr_le _ _).dp ht1), kit_list td, _, rfl, ?_⟩
      have bad : termsErr st td = some (.iTerms, td) → ∀ l, H1 l = none → Q (.ref l) (upd H1 l (.lst [.str (tagE .iTerms), tv])) := fun h => no_ans (e := .iTerms) (d := td) ((qe _ h).same s1) mok1 ht1
      cases ht1 with
      | @lst tl xs l hl hxs =>
        obtain ⟨hl1, hl2⟩ := hpo l rfl
        have hlen := sqL_len hxs
        have hlH := (fr_le _ _).sqL hl
        have bad2 : ¬ (1 ≤ l.length ∧ l.length ≤ 2) → ∀ p, H1 p = none → Q (.ref p) (upd H1 p (.lst [.str (tagE .iTerms), .ref tl])) := fun c => bad (by
          show (if 1 ≤ l.length ∧ l.length ≤ 2 then _ else _) = _
          rw [if_neg c])
        refine ⟨_, rfl, _, xs.length, rfl, .inl ⟨_, hlH, rfl⟩, _, _, rfl, rfl, _, rfl, ?_⟩
        refine ite2 (fun c1 => ?_) fun c1 => ?_
        · have c1 : (xs.length : Int) < 1 := of_decide_eq_true c1
          exact ⟨_, rfl, by show 2 ≤ sizeLine; decide, bad2 (by omega)⟩
        · have c1 : ¬ (xs.length : Int) < 1 := fun h => c1 (decide_eq_true h)
          refine ⟨_, rfl, _, xs.length, rfl, .inl ⟨_, hlH, rfl⟩, _, _, rfl, rfl, _, rfl, ?_⟩
          refine ite2 (fun c2 => ?_) fun c2 => ?_
          · have c2 : (2 : Int) < (xs.length : Int) := by simpa using c2
            exact ⟨_, rfl, by show 2 ≤ sizeLine; decide, bad2 (by omega)⟩
          · have c2 : ¬ (2 : Int) < (xs.length : Int) := by simpa using c2
            have hl3 : 1 ≤ l.length ∧ l.length ≤ 2 := by omega
            have te : termsErr st (.list l) = te1 st l := by
              show (if 1 ≤ l.length ∧ l.length ≤ 2 then _ else _) = _
              rw [if_pos hl3]
            refine ⟨_, rfl, tl, rfl, ⟨_, hlH⟩, for_list (xs := xs) (fun i σ H' => (∃ z, σ = [some (.ref a), some (.str x), some (.str y), some (.ref tl), z, none, none, none, none]) ∧ Same H1 H' ∧ ∀ t ∈ l.take i, (!isTerm t) = false) ⟨⟨_, rfl⟩, Same.refl _, by simp⟩ (fun i σ H' _ p => (Le.of p.2.1).sqL hlH) (fun i z σ H' hx p => ?_) (fun σ H' p => ?_)⟩
            · obtain ⟨⟨z0, rfl⟩, s2, hall⟩ := p
              obtain ⟨t, e1, htm⟩ := dpAll_mem hxs hx
              refine ⟨_, rfl, z, t, rfl, (Le.of s2).dp ((fr_le _ _).dp htm), fun ds9 e9 x9 hx9 => hl2 t (List.mem_of_getElem? e1) ds9 e9 x9 hx9, fun H3 s3 => ⟨_, rfl, ?_⟩⟩
              refine ite2 (fun c3 => ?_) fun c3 => ?_
              · have := qe (.iTerm, t) (by rw [te]; unfold te1; rw [find_first e1 hall c3]; rfl)
                exact ⟨_, rfl, by show 2 ≤ sizeLine; decide, no_ans (e := .iTerm) (DueP.same ((s1.trans s2).trans s3) this) ((mok1.same s2).same s3) ((same_le (s2.trans s3)).dp htm)⟩
              · refine ⟨⟨_, rfl⟩, s2.trans s3, fun z hz => ?_⟩
                rw [take_succ_of e1] at hz
                rcases List.mem_append.mp hz with hz | hz
                · exact hall z hz
                · rw [List.mem_singleton] at hz
                  rw [hz]
                  simpa using c3
            · obtain ⟨⟨z0, rfl⟩, s2, hall⟩ := p
              rw [hlen, List.take_length] at hall
              have te : termsErr st (.list l) = te2 st l := by
                rw [te]
                unfold te1
                rw [find_no hall]
                rfl
              refine ⟨_, rfl, tl, rfl, ⟨_, (Le.of s2).sqL hlH⟩, for_list (xs := xs) (fun i σ H' => (∃ z0 z1 z2, σ = [some (.ref a), some (.str x), some (.str y), some (.ref tl), z0, z1, z2, none, none]) ∧ Same H1 H' ∧ ∀ t ∈ l.take i, (lookD st.ent (termN t)).isNone = false) ⟨⟨_, _, _, rfl⟩, s2, by simp⟩ (fun i σ H' _ p => (Le.of p.2.1).sqL hlH) (fun i z σ H' hx p => ?_) (fun σ H' p => ?_)⟩
              · obtain ⟨⟨z0, z1, z2, rfl⟩, s2, hall2⟩ := p
                obtain ⟨t, e1, htm⟩ := dpAll_mem hxs hx
                obtain ⟨i9, x9, rfl, _⟩ := isTerm_is (by simpa using hall t (List.mem_of_getElem? e1))
                have L2 := L1.leS (same_leS s2)
                have LH2 := (L2.leS (fr_leS M H')).weak
                cases htm with
                | @tup ta ts _ hta hts =>
                  cases hts with
                  | cons h0 hr2 => cases hr2 with
                    | cons h1 hr3 =>
                      cases hr3
                      cases h0
                      cases h1
                      refine ⟨ta, _, rfl, (Le.of s2).sqT ((fr_le _ _).sqT hta), rfl, _, _, rfl, _, _, rfl, rfl, _, rfl, _, rfl, a, _, rfl, LH2.gE, de, _, rfl, .inl ⟨ke, .inr x9, LH2.re.rd, rfl, rfl⟩, _, rfl, ?_⟩
                      rw [LH2.ae.isSome x9]
                      refine ite2 (fun c3 => ?_) fun c3 => ?_
                      · have hno : (look st.ent x9).isSome = false := by simpa using c3
                        have := qe (.unk, .str x9) (by
                          rw [te]
                          unfold te2
                          rw [find_first e1 hall2 (by show (look st.ent x9).isNone = true; cases h : look st.ent x9 with | none => rfl | some _ => rw [h] at hno; cases hno)]
                          rfl)
                        exact ⟨_, rfl, by show 2 ≤ sizeLine; decide, no_ans (e := .unk) (DueP.same (s1.trans s2) this) (mok1.same s2) (.str x9)⟩
                      · have hso : (look st.ent x9).isSome = true := by
                          cases h : (look st.ent x9).isSome with
                          | true => rfl
                          | false => exact absurd (show (!(look st.ent x9).isSome) = true by rw [h]; rfl) c3
                        refine ⟨⟨_, _, _, rfl⟩, s2, fun z hz => ?_⟩
                        rw [take_succ_of e1] at hz
                        rcases List.mem_append.mp hz with hz | hz
                        · exact hall2 z hz
                        · rw [List.mem_singleton] at hz
                          rw [hz]
                          show (look st.ent x9).isNone = false
                          cases h : look st.ent x9 with
                          | none => rw [h] at hso; cases hso
                          | some _ => rfl
              · obtain ⟨⟨z0, z1, z2, rfl⟩, s2, hall2⟩ := p
                rw [hlen, List.take_length] at hall2
                have hte : termsErr st (.list l) = none := by rw [te]; unfold te2; rw [find_no hall2]; rfl
                have q := qn hte
                rw [written_eq hsc] at q
                obtain ⟨l', e9, _, hl2', hterm, hent⟩ := te_none hte
                cases e9
                refine ⟨_, rfl, tl, rfl, ⟨_, (Le.of s2).sqL hlH⟩, fun Dl nD => lc_list (xs := xs) (LcI [] M Dl H' (Mapd l fun t => .int (termV st t))) (LcI.start (mok1.same s2) (by simp) nD Mapd.zero) (fun i H' _ p => (Le.of (s2.trans p.stp.same)).sqL hlH) (fun i z H3 hz3 p => ?_) (fun H3 p => ?_)⟩
                · obtain ⟨t, e1, htm⟩ := dpAll_mem hxs hz3
                  have hi := (List.getElem?_eq_some_iff.mp hz3).1
                  obtain ⟨i9, x9, rfl, b1, b2, _⟩ := isTerm_is (hterm t (List.mem_of_getElem? e1))
                  have hk := hent _ (List.mem_of_getElem? e1)
                  have hk : (look st.ent x9).isNone = false := hk
                  obtain ⟨en, hen⟩ : ∃ en, look st.ent x9 = some en := by
                    cases h : look st.ent x9 with
                    | none => rw [h] at hk; cases hk
                    | some en => exact ⟨en, rfl⟩
                  obtain ⟨ev, hb1', hb2'⟩ := termV_bd gt hen b1 b2
                  have s13 := s2.trans p.stp.same
                  have L3 := ((L1.leS (same_leS s13)).leS (fr_leS M H3)).weak
                  cases htm with
                  | @tup tt ts _ htt hts =>
                    cases hts with
                    | cons h0 hr2 => cases hr2 with
                      | cons h1 hr3 =>
                        cases hr3
                        cases h0
                        cases h1
                        refine ⟨tt, _, rfl, (Le.of s13).sqT ((fr_le _ _).sqT htt), rfl, _, _, rfl, _, _, rfl, rfl, rfl, _, rfl, _, rfl, _, rfl, n, a, ds, de, ks, ke, st, x9, en, rfl, L3, gt, hen, _, _, rfl, rfl, ?_, ?_⟩
                        · exact wide_mul (a := 3) (b := 1000) (by omega) (num_small (by omega) hb1') (by omega) (by omega) (by omega)
                        · exact p.step (by simp) nD (mok1.same s2) (Stp.refl p.mok (A := []) (by simp)) (by rw [sizeLine_eq]; omega) (fun acc _ r => by
                            have := r.yes (x := .tuple [.int i9, .str x9]) e1 (G := fr (Dl :: M) H3)
                            rw [ev] at this
                            exact this)
                · obtain ⟨acc, hA, _, r⟩ := p.ex
                  rw [hlen] at r
                  have e2 := r.all
                  subst e2
                  have s13 := s2.trans p.stp.same
                  have L3 := L1.leS (same_leS s13)
                  have mok3 := mok1.same s13
                  have hnb : (termsSum st (.list l)).natAbs < 2 ^ 1000 := num_small (by omega) (terms_bd gt hl2' hterm hent)
                  refine ⟨Dl, l.map (termV st), rfl, .inl (.inl (by rw [hA, List.map_map]; rfl)), ?_⟩
                  refine ⟨_, rfl, _, rfl, _, rfl, M, a, ds, de, ks, ke, st, y, sc, termsSum st (.list l), rfl, mok3, L3.weak, hsc, g, hnb, fun e0 H4 s4 => ?_, fun row e1 t H4 s4 ht => ?_⟩
                  · rw [e0] at q
                    exact ⟨_, rfl, rfl, _, rfl, _, rfl, by show 2 ≤ sizeLine; decide, no_ans (e := .notW) (DueP.same ((s1.trans s13).trans s4) q) (mok3.same s4) (.int _)⟩
                  · rw [e1] at q
                    exact ⟨_, rfl, rfl, _, rfl, _, rfl, _, rfl, _, rfl, _, rfl, u, M, a, ds, de, ks, ke, st, x, y, t, row, rfl, mok3.same s4, L3.leS (same_leS s4), ht, hz, fun l9 H5 s5 h => q l9 H5 (((s1.trans s13).trans s4).trans s5) h⟩
      | tup h1 h2 => exact absurd rfl (hnt _)
      | non => exact ⟨_, rfl, by show 2 ≤ sizeLine; decide, bad rfl⟩
      | bl c => exact ⟨_, rfl, by show 2 ≤ sizeLine; decide, bad rfl⟩
      | int c => exact ⟨_, rfl, by show 2 ≤ sizeLine; decide, bad rfl⟩
      | str c => exact ⟨_, rfl, by show 2 ≤ sizeLine; decide, bad rfl⟩
end
end K75
set_option maxHeartbeats 400000
namespace K75
open PySem PySem.Spec PyProof.Rows L2
abbrev s__law_drop_due : Stmt := top 78
theorem sc__law_drop_due : FnScope ["_law_state", "_law_label", "_law_entry", "_law_new"] ["_law_state", "_law_label"] (defScope s__law_drop_due) := ⟨rfl, rfl, rfl, by decide +kernel, rfl, by decide +kernel, by decide +kernel⟩
theorem dropN_none {α : Type} {x : Str} : ∀ {l : List (Str × α)}, look l x = none → dropN l x = l
  | [], _ => rfl
  | p :: l, h => by
    by_cases c : p.1 = x
    · simp [look, c] at h
    · unfold dropN
      rw [List.filter_cons_of_pos (by simpa using c)]
      have := dropN_none (l := l) (by simpa [look, c] using h)
      unfold dropN at this
      rw [this]
theorem ite_same {c A B : Prop} [Decidable c] (h : B) (f : B → c → A) : if c then A else B := by
  by_cases q : c
  · rw [if_pos q]; exact f h q
  · rw [if_neg q]; exact h
theorem dp_strL {K : PySem.W.Frag} {F : Hp} {α : Type} {f : α → Str} : ∀ (l : List α), DpAll K F (l.map fun p => V.str (f p)) (l.map (PyData.str ∘ f))
  | [] => .nil
  | _ :: l => .cons (.str _) (dp_strL l)
/-- the strings of entries may be laid -/
def EntStr (st : Stt) : Prop := ∀ p ∈ st.ent, PyData.strOk p.1 = true
section
variable {P : Program} {w : World} {K : PySem.W.Frag} {mg : Str → Option Value} {base : Heap} (B : Blt mg)
include B
def sp_l_drop_due (K : PySem.W.Frag) : Sp := fun vs H Q _ => ∃ M a ds de ks ke st v d, vs = [.ref a, v] ∧ Mok M H ∧ LStR K true (fr M H) a ds de ks ke st ∧ Dp K (fr M H) v d ∧ (st.ent.map (·.1)).Nodup ∧ EntStr st ∧ (∀ x, (look st.sch x).isSome = true → look st.ent x = none) ∧ st.sch.length < 1000 ∧ st.ent.length < 1000 ∧ DueP K true M H Q (dropDue st d)
theorem ok_l_drop_due (D : FnD K mg "_law_drop_due" s__law_drop_due [] []) (F__law_known : Fn P w K mg base "_law_known" 1 (sp_l_known K)) : Fn P w K mg base "_law_drop_due" 2 (sp_l_drop_due K) := by
  refine D.fn sc__law_drop_due (fun _ _ _ _ _ _ us hl => match us, hl with | [_, _], _ => rfl) (fun vs H Q E h => ?_) (fun f cdv A outer s H vs Q E hr h => ?_)
  · obtain ⟨_, _, _, _, _, _, _, _, _, rfl, _⟩ := h
    rfl
  · obtain ⟨M, a, ds, de, ks, ke, st, v, d, rfl, mok, L, hd, nde, hstr, hdis, hz1, hz2, q⟩ := h
    refine ⟨_, (pss_cons (ps_if (PW.pt (pw_and (pt_not (pt_val (c0 F__law_known hr (pa_cons (pv 1) (pa_cons (pe_dget (hu_of hr) (pv 0) pe_str (fun _ _ => rfl)) pa_nil))))) (pw_and1 (pt_not (pt_val (c0 F__law_known hr (pa_cons (pv 1) (pa_cons (pe_dget (hu_of hr) (pv 0) pe_str (fun _ _ => rfl)) pa_nil)))))))) (pss_one (ps_ret (pe_lst (pa_cons pe_str (pa_cons (pv 1) pa_nil))))) pss_nil) (pss_cons (ps_if (pt_cmpR (op_neD hr.units) (pe_lock (pe_lc rfl sc__law_drop_due.nd (own := [("_law_entry", 2)]) (g := gName 2) (tt := _) (pi_keys (pe_dget (hu_of hr) (pv 0) pe_str (fun _ _ => rfl))) (blkOk_by (N := ["_law_state", "_law_label", "_law_entry", "_law_new"]) (sc := defScope s__law_drop_due) (by decide +kernel)) (fun _ _ _ _ _ => (pg_name (i := 2) sc__law_drop_due.nd rfl (.inl rfl))) (fun _ _ _ _ _ => (pts_one (pt_cmpR op_eq (pe_ix (r := rIxT K) ix_tup (pe_dget (hu_of hr) (pe_dget (hu_of hr) (pv 0) pe_str (fun _ _ => rfl)) (pv 2) (fun _ _ => rfl)) pe_int (fun _ _ => rfl)) (pv 1) (nomark _)))) (fun _ _ _ _ _ => (pv 2)))) (pe_lst pa_nil) (nomark _)) (pss_one (ps_ret (pe_lst (pa_cons pe_str (pa_cons (pv 1) pa_nil))))) pss_nil) (pss_cons (ps_set (i := 3) sc__law_drop_due.nd rfl (.inl rfl) (pe_dd2 pe_str pe_str (pe_callTy call_dictD (by rfl) B.dict (by decide +kernel) (pa_cons (pe_dget (hu_of hr) (pv 0) pe_str (fun _ _ => rfl)) pa_nil)) (pe_callTy call_dictD (by rfl) B.dict (by decide +kernel) (pa_cons (pe_dget (hu_of hr) (pv 0) pe_str (fun _ _ => rfl)) pa_nil)) (by decide +kernel))) (pss_cons (ps_if (pt_cmp (pc_din (hu_of hr) (pv 1) (pe_dget (hu_of hr) (pv 3) pe_str (fun _ _ => rfl)))) (pss_one (ps_expr (pe_dpop1 (pe_dget (hu_of hr) (pv 3) pe_str (fun _ _ => rfl)) (pv 1) ⟨by rfl, by rfl, by rfl, by rfl⟩))) (pss_one (ps_expr (pe_dpop1 (pe_dget (hu_of hr) (pv 3) pe_str (fun _ _ => rfl)) (pv 1) ⟨by rfl, by rfl, by rfl, by rfl⟩)))) (pss_one (ps_ret (pe_lst (pa_cons pe_str (pa_cons (pv 3) pa_nil))))))))), ?_⟩
    have LH := (L.leS (fr_leS M H)).weak
    refine ⟨_, rfl, _, rfl, a, _, rfl, LH.gS, v, d, ds, ks, st.sch.map (·.1), rfl, (fr_le _ _).dp hd, LH.rs.rd, LH.as.keys, _, rfl, ?_⟩
    rw [inD_look]
    have unk : lookD st.sch d = none → lookD st.ent d = none → DueP K true M H Q (.no .unk d) := fun h1 h2 => by
      cases d with
      | str x =>
        have q : DueP K true M H Q (if ((look st.sch x).isNone && (look st.ent x).isNone) = true then .no .unk (.str x) else if st.ent.any (fun p => decide (p.2.1 = x)) = true then .no .inUse (.str x) else .done ⟨dropN st.sch x, dropN st.ent x⟩) := q
        rw [if_pos (by rw [show look st.sch x = none from h1, show look st.ent x = none from h2]; rfl)] at q
        exact q
      | _ => exact q
    have main : ((lookD st.sch d).isSome = true ∨ (lookD st.ent d).isSome = true) → ∃ x, d = .str x ∧ ((look st.sch x).isSome = true ∨ (look st.ent x).isSome = true) ∧ DueP K true M H Q (if st.ent.any (fun p => decide (p.2.1 = x)) = true then .no .inUse (.str x) else .done ⟨dropN st.sch x, dropN st.ent x⟩) := fun h => by
      cases d with
      | str x =>
        refine ⟨x, rfl, h, ?_⟩
        have q : DueP K true M H Q (if ((look st.sch x).isNone && (look st.ent x).isNone) = true then .no .unk (.str x) else if st.ent.any (fun p => decide (p.2.1 = x)) = true then .no .inUse (.str x) else .done ⟨dropN st.sch x, dropN st.ent x⟩) := q
        rw [if_neg (by
          have h : (look st.sch x).isSome = true ∨ (look st.ent x).isSome = true := h
          cases h1 : look st.sch x <;> cases h2 : look st.ent x <;> simp [h1, h2] at h ⊢)] at q
        exact q
      | _ => rcases h with h | h <;> cases h
    have hde : H de = some (.dK ke) := by
      rcases L.re with h | ⟨h, _⟩
      · exact (fr_some h).1
      · cases h
    have hke := L.ae.len
    have hks := L.as.len
    by_cases cc : (lookD st.sch d).isSome = true ∨ (lookD st.ent d).isSome = true
    · obtain ⟨x, rfl, hx, q⟩ := main cc
      cases hd
      refine ite_same ?_ (fun r c => ?_)
      · -- the law looks for entries of the scheme
        refine ⟨de, .dK ke, hde, trivial, fun od => ?_⟩
        have LL : LStR K false (upd H de (.frz od (.dK ke))) a ds de ks ke st := LH.le (le_lock0 hde)
        have mokL : Mok M (upd H de (.frz od (.dK ke))) := mok_lock mok
        refine ⟨_, rfl, a, _, rfl, LL.gE, de, od, rfl, .inl ⟨ke, upd_same, fun Dl nD => lc_keys (LcI [] M Dl (upd H de (.frz od (.dK ke))) (Filt st.ent (fun p => decide (p.2.1 = x)) fun p => .str p.1)) (LcI.start mokL (by simp) nD Filt.zero)
          (fun i H' _ p => p.stp.same _ _ upd_same) (fun i k v H' hkv p => ?_) (fun H' p => ?_)⟩⟩
        · obtain ⟨x9, e9, rfl, hl9, t, r9, rfl, ht1, ht2⟩ := (L.ae).get hkv
          have hi : i < ke.length := (List.getElem?_eq_some_iff.mp hkv).1
          have L9 := LL.le (Le.of p.stp.same)
          obtain ⟨v3, e3, t3, r3, rfl, h31, h32⟩ := L9.ae.some x9 (look_of_get nde hl9)
          have gEn : DGet H' de (.str x9) (some (.ref t3)) := .inl ⟨ke, .inr x9, L9.re.rd, rfl, e3.symm⟩
          refine ⟨rfl, _, rfl, a, _, rfl, L9.gE, _, rfl, de, _, rfl, gEn, t3, _, 0, _, rfl, rfl, h31, rfl, _, rfl, rfl, _, rfl, ?_⟩
          have eb : decide (V.str e9.1 = V.str x) = decide (e9.1 = x) := by
            by_cases h : e9.1 = x
            · rw [h]; simp
            · simp [h]
          rw [eb]
          have rf := Stp.refl p.mok (A := []) (by simp)
          refine ite2 (fun c => ?_) fun c => ?_
          · exact ⟨_, rfl, p.step (by simp) nD mokL rf (by rw [sizeLine_eq]; omega) (fun acc _ r => r.yes (x := (x9, e9)) hl9 c)⟩
          · exact p.skip (by simp) nD mokL rf (fun acc _ r => r.no (x := (x9, e9)) hl9 (Bool.eq_false_iff.mpr c))
        · obtain ⟨acc, hA, _, r⟩ := p.ex
          rw [hke] at r
          have e := r.all
          subst e
          have sL := p.stp.same
          have dn : de ≠ Dl := fun e => by rw [← e, upd_same] at nD; cases nD
          refine ⟨sL _ _ upd_same, ?_⟩
          have s1 : Same H (upd H' de (.dK ke)) := same_unlock hde sL
          have hA1 : (upd H' de (.dK ke)) Dl = some (.lst ((st.ent.filter fun p => decide (p.2.1 = x)).map fun p => .str p.1)) := by rw [upd_ne dn.symm]; exact hA
          generalize upd H' de (.dK ke) = H1 at *
          refine ⟨by show 0 ≤ sizeLine; decide, fun l0 n0 => ⟨.list (((st.ent.filter fun p => decide (p.2.1 = x)).map (·.1)).map PyData.str), .list [], .lst (.inl (.inl (same_new (o := .lst []) n0 _ _ hA1))) (by rw [List.map_map]; exact dp_strL _), .lst (.inl (.inl upd_same)) .nil, strsL_shaped _ (fun z hz => ?_), by decide, _, rfl, ?_⟩⟩
          · obtain ⟨p9, hp9, rfl⟩ := List.mem_map.mp hz
            exact hstr p9 (List.mem_filter.mp hp9).1
          have s2 := s1.trans (same_new (o := .lst []) n0)
          generalize upd H1 l0 (.lst []) = H2 at *
          rw [eqv_nil, List.isEmpty_map, List.isEmpty_map]
          have eE : (st.ent.filter fun p => decide (p.2.1 = x)).isEmpty = !(st.ent.any fun p => decide (p.2.1 = x)) := by
            rw [Bool.eq_iff_iff, List.isEmpty_iff, List.filter_eq_nil_iff, Bool.not_eq_true', List.any_eq_false]
          rw [eE, Bool.not_not]
          have mok2 := mok.same s2
          have L2 := L.leS (same_leS s2)
          have LH2 := (L2.leS (fr_leS M H2)).weak
          refine ite2 (fun c => ?_) fun c => ?_
          · rw [if_pos c] at q
            exact ⟨_, rfl, by show 2 ≤ sizeLine; decide, no_ans (e := .inUse) (q.same s2) mok2 (.str x)⟩
          · rw [if_neg c] at q
            have q : ∀ l H', Same H H' → DoneAt K true (fr M H') l ⟨dropN st.sch x, dropN st.ent x⟩ → Q (.ref l) H' := q
            refine fun p np => ?_
            have s3 := same_new (o := .dK []) np
            have L3 := LH2.le (Le.of s3)
            refine ⟨_, rfl, a, _, rfl, L3.gS, ds, ks, rfl, L3.rs.rd, fun p2 np2 => ?_⟩
            have s4 := s3.trans (same_new (o := .dK ks) np2)
            have L4 := LH2.le (Le.of s4)
            refine ⟨_, rfl, a, _, rfl, L4.gE, de, ke, rfl, L4.re.rd, fun p3 np3 => ?_⟩
            have n2 : H2 p2 = none := none_same s3 np2
            have n3 : H2 p3 = none := none_same s4 np3
            have d12 : p ≠ p2 := fun e => by rw [← e, upd_same] at np2; cases np2
            have d23 : p2 ≠ p3 := fun e => by rw [← e, upd_same] at np3; cases np3
            have d13 : p ≠ p3 := fun e => by rw [upd_ne (fun h => d23 h.symm), ← e, upd_same] at np3; cases np3
            refine ⟨by rw [upd_ne d13, upd_ne d12]; exact upd_same, fun H5 e5 => ?_⟩
            have s5 : Same H2 H5 := by rw [e5]; exact newU (newU s4 n3) np
            have h51 : H5 p = some (.dK (lkv p2 p3)) := by rw [e5]; exact upd_same
            have h52 : H5 p2 = some (.dK ks) := by rw [e5, upd_ne d12.symm, upd_ne d23]; exact upd_same
            have h53 : H5 p3 = some (.dK ke) := by rw [e5, upd_ne d13.symm]; exact upd_same
            clear e5
            have gS5 : DGet H5 p (.str "schemes") (some (.ref p2)) := .inl ⟨_, .inr "schemes", .inl h51, rfl, rfl⟩
            have gE5 : DGet H5 p (.str "entries") (some (.ref p3)) := .inl ⟨_, .inr "entries", .inl h51, rfl, by unfold lkv; rw [valV_neg (show ¬ (Sum.inr "schemes" : Key) = .inr "entries" by decide +kernel), valV_pos rfl]⟩
            have L5 := L2.leS (same_leS s5)
            have fin : ∀ H6 ks' ke', Same H2 H6 → H6 p = some (.dK (lkv p2 p3)) → H6 p2 = some (.dK ks') → H6 p3 = some (.dK ke') → AssA (ModelR K (fr M H6)) ks' (dropN st.sch x) → AssA (EntR K (fr M H6)) ke' (dropN st.ent x) → ∀ l, H6 l = none → Q (.ref l) (upd H6 l (.lst [.str "done", .ref p])) := fun H6 ks' ke' s6 h61 h62 h63 a1 a2 l nl => by
              have s7 := same_new (o := .lst [.str "done", .ref p]) nl
              have e7 : LeS (fr M H6) (fr M (upd H6 l (.lst [.str "done", .ref p]))) := same_leS s7
              exact q l _ ((s2.trans s6).trans s7) ⟨p, p2, p3, ks', ke', .inl (.inl (upd_fr nl (mok2.same s6))), ⟨.inl (fr_of (s7 _ _ h61) (mok2.new np)), .inl (fr_of (s7 _ _ h62) (mok2.new n2)), .inl (fr_of (s7 _ _ h63) (mok2.new n3)), a1.mono fun _ _ => ModelR.le e7.le, a2.mono fun _ _ => EntR.le e7.le⟩⟩
            refine ⟨_, rfl, _, rfl, p, _, rfl, gS5, p2, _, rfl, .inl ⟨ks, .inr x, .inl h52, rfl, rfl⟩, _, rfl, ?_⟩
            rw [L5.as.isSome x]
            refine ite2 (fun c9 => ?_) fun c9 => ?_
            · obtain ⟨sc, hsc⟩ := Option.isSome_iff_exists.mp c9
              obtain ⟨v8, e8, _⟩ := L5.as.some x hsc
              refine ⟨_, rfl, p, _, rfl, gS5, p2, rfl, .inl ⟨ks, .inl h52⟩, _, rfl, ks, .inr x, v8, h52, rfl, e8, ?_⟩
              have s6 : Same H2 (upd H5 p2 (.dK (dropK ks (.inr x)))) := newU s5 n2
              have h61 : (upd H5 p2 (.dK (dropK ks (.inr x)))) p = some (.dK (lkv p2 p3)) := by rw [upd_ne d12]; exact h51
              have h62 : (upd H5 p2 (.dK (dropK ks (.inr x)))) p2 = some (.dK (dropK ks (.inr x))) := upd_same
              have h63 : (upd H5 p2 (.dK (dropK ks (.inr x)))) p3 = some (.dK ke) := by rw [upd_ne (fun h => d23 h.symm)]; exact h53
              generalize upd H5 p2 (.dK (dropK ks (.inr x))) = H6 at *
              have L6 := L2.leS (same_leS s6)
              exact ⟨_, rfl, by show 2 ≤ sizeLine; decide, fin H6 _ _ s6 h61 h62 h63 (L6.as.drop x) (by rw [dropN_none (hdis x c9)]; exact L6.ae)⟩
            · have hno : look st.sch x = none := by
                cases h : look st.sch x with
                | none => rfl
                | some _ => rw [h] at c9; exact absurd rfl c9
              have hso : (look st.ent x).isSome = true := by
                rcases hx with h | h
                · rw [hno] at h; cases h
                · exact h
              obtain ⟨sc, hsc⟩ := Option.isSome_iff_exists.mp hso
              obtain ⟨v8, e8, _⟩ := L5.ae.some x hsc
              refine ⟨_, rfl, p, _, rfl, gE5, p3, rfl, .inl ⟨ke, .inl h53⟩, _, rfl, ke, .inr x, v8, h53, rfl, e8, ?_⟩
              have s6 : Same H2 (upd H5 p3 (.dK (dropK ke (.inr x)))) := newU s5 n3
              have h61 : (upd H5 p3 (.dK (dropK ke (.inr x)))) p = some (.dK (lkv p2 p3)) := by rw [upd_ne d13]; exact h51
              have h62 : (upd H5 p3 (.dK (dropK ke (.inr x)))) p2 = some (.dK ks) := by rw [upd_ne d23]; exact h52
              have h63 : (upd H5 p3 (.dK (dropK ke (.inr x)))) p3 = some (.dK (dropK ke (.inr x))) := upd_same
              generalize upd H5 p3 (.dK (dropK ke (.inr x))) = H6 at *
              have L6 := L2.leS (same_leS s6)
              exact ⟨_, rfl, by show 2 ≤ sizeLine; decide, fin H6 _ _ s6 h61 h62 h63 (by rw [dropN_none hno]; exact L6.as) (L6.ae.drop x)⟩
      · have hs : (lookD st.ent (.str x)).isSome = true := by
          rcases hx with h | h
          · have c : (!(look st.sch x).isSome) = true := c
            rw [h] at c; cases c
          · exact h
        refine ⟨_, rfl, _, rfl, a, _, rfl, LH.gE, .str x, .str x, de, ke, st.ent.map (·.1), rfl, .str x, LH.re.rd, LH.ae.keys, _, rfl, ?_⟩
        rw [inD_look, hs]
        exact r
    · have h1 : lookD st.sch d = none := by
        cases h : lookD st.sch d with
        | none => rfl
        | some _ => exact absurd (.inl (by rw [h]; rfl)) cc
      have h2 : lookD st.ent d = none := by
        cases h : lookD st.ent d with
        | none => rfl
        | some _ => exact absurd (.inr (by rw [h]; rfl)) cc
      rw [h1]
      refine ⟨_, rfl, _, rfl, a, _, rfl, LH.gE, v, d, de, ke, st.ent.map (·.1), rfl, (fr_le _ _).dp hd, LH.re.rd, LH.ae.keys, _, rfl, ?_⟩
      rw [inD_look, h2]
      exact ⟨_, rfl, by show 2 ≤ sizeLine; decide, no_ans (e := .unk) (unk h1 h2) mok hd⟩
end
end K75
set_option maxHeartbeats 400000
namespace K75
open PySem PySem.Spec PyProof.Rows L2
abbrev s__law_done : Stmt := top 79
theorem sc__law_done : FnScope ["_law_book", "_law_deed_here"] ["_law_book", "_law_deed_here"] (defScope s__law_done) := ⟨rfl, rfl, rfl, by decide +kernel, rfl, by decide +kernel, by decide +kernel⟩
abbrev s__law_due : Stmt := top 81
theorem sc__law_due : FnScope ["_law_past", "_law_deed_here", "_law_state"] ["_law_past", "_law_deed_here"] (defScope s__law_due) := ⟨rfl, rfl, rfl, by decide +kernel, rfl, by decide +kernel, by decide +kernel⟩
theorem ite_t {c A B : Prop} [Decidable c] (hc : c) (h : A) : if c then A else B := by rw [if_pos hc]; exact h
theorem ite_f {c A B : Prop} [Decidable c] (hc : ¬ c) (h : B) : if c then A else B := by rw [if_neg hc]; exact h
/-- a deed of the law -/
inductive Deed
  | keep (d : PyData) (mo : Option Sch) (d2 : PyData)
  | put (d w n : PyData)
  | lay (d w l : PyData)
  | move (d w : PyData)
  | reckon (d w t : PyData)
  | drop (d : PyData)
  | undo
def dueOut (st : Stt) : Deed → Out
  | .keep d mo d2 => keepDue st d mo d2
  | .put d w n => putDue st d w n
  | .lay d w l => layDue st d w l
  | .move d w => moveDue st d w
  | .reckon d w t => reckonDue st d w t
  | .drop d => dropDue st d
  | .undo => .no .noth .none
def DeedR (K : PySem.W.Frag) (F : Hp) (a : Addr) : Deed → Prop
  | .keep d mo d2 => ∃ v v2, SqL K F a [.str "keep", v, v2] ∧ Dp K F v d ∧ MoL K F v2 mo d2
  | .put d w n => ∃ v1 v2 v3, SqL K F a [.str "put", v1, v2, v3] ∧ Dp K F v1 d ∧ Dp K F v2 w ∧ Dp K F v3 n
  | .lay d w l => ∃ v1 v2 v3, SqL K F a [.str "lay", v1, v2, v3] ∧ Dp K F v1 d ∧ Dp K F v2 w ∧ Dp K F v3 l
  | .move d w => ∃ v1 v2, SqL K F a [.str "move", v1, v2] ∧ Dp K F v1 d ∧ Dp K F v2 w
  | .reckon d w t => ∃ v1 v2 v3, SqL K F a [.str "reckon", v1, v2, v3] ∧ Dp K F v1 d ∧ Dp K F v2 w ∧ Dp K F v3 t
  | .drop d => ∃ v, SqL K F a [.str "drop", v] ∧ Dp K F v d
  | .undo => SqL K F a [.str "undo"]
theorem DeedR.le {K : PySem.W.Frag} {F G : Hp} (e : Le F G) {a : Addr} : ∀ {dd : Deed}, DeedR K F a dd → DeedR K G a dd
  | .keep _ _ _, ⟨v, v2, h1, h2, h3⟩ => ⟨v, v2, e.sqL h1, e.dp h2, h3.le e⟩
  | .put _ _ _, ⟨v, v2, v3, h1, h2, h3, h4⟩ => ⟨v, v2, v3, e.sqL h1, e.dp h2, e.dp h3, e.dp h4⟩
  | .lay _ _ _, ⟨v, v2, v3, h1, h2, h3, h4⟩ => ⟨v, v2, v3, e.sqL h1, e.dp h2, e.dp h3, e.dp h4⟩
  | .move _ _, ⟨v, v2, h1, h2, h3⟩ => ⟨v, v2, e.sqL h1, e.dp h2, e.dp h3⟩
  | .reckon _ _ _, ⟨v, v2, v3, h1, h2, h3, h4⟩ => ⟨v, v2, v3, e.sqL h1, e.dp h2, e.dp h3, e.dp h4⟩
  | .drop _, ⟨v, h1, h2⟩ => ⟨v, e.sqL h1, e.dp h2⟩
  | .undo, h => e.sqL h
def DeedOk : Deed → Prop
  | .keep d _ _ => AnyN d
  | .put d _ n => AnyN d ∧ ∀ i, n = .int i → i.natAbs ≤ 10 ^ 20
  | .lay d _ l => AnyN d ∧ LineOk l ∧ ∀ ds, l = .tuple ds → ds.length ≤ 14
  | .move d _ => AnyN d
  | .reckon d _ t => AnyN d ∧ PartsOk t
  | .drop _ => True
  | .undo => True
theorem names_short : ∀ x ∈ names, x.length ≤ 8 ∧ ∀ c ∈ x.cps.toList, PyData.strOk ⟨#[c]⟩ = true := by decide +kernel
theorem names_ok : ∀ x ∈ names, PyData.strOk x = true := by decide +kernel
theorem names_len : names.length = 33 := by decide +kernel
theorem AnyN.lab {d : PyData} (h : AnyN d) : LabOk d := by
  intro x e
  subst e
  rcases h with h | ⟨y, e, hy⟩
  · simp only [odds, List.mem_cons, List.not_mem_nil, or_false, PyData.str.injEq, reduceCtorEq, false_or] at h
    have key : ∀ z ∈ (["", "A", "a1", "abcdefghi", "a b"] : List Str), z.length ≤ 1000 ∧ ∀ c ∈ z.cps.toList, PyData.strOk ⟨#[c]⟩ = true := by decide +kernel
    refine key x ?_
    simp only [List.mem_cons, List.not_mem_nil, or_false]
    exact h
  · cases e
    have := names_short x hy
    exact ⟨by omega, this.2⟩
theorem LabOk.sh {d : PyData} (h : LabOk d) : ShS d := fun x e => by rw [sizeLine_eq]; have := (h x e).1; omega
/-- a good state -/
structure GoodI (n : Nat) (st : Stt) : Prop where
  gt : GoodT n st
  nds : (st.sch.map (·.1)).Nodup
  nde : (st.ent.map (·.1)).Nodup
  ms : ∀ p ∈ st.sch, p.1 ∈ names
  me : ∀ p ∈ st.ent, p.1 ∈ names
  dis : ∀ x, (look st.sch x).isSome = true → look st.ent x = none
theorem GoodI.ls {n : Nat} {st : Stt} (g : GoodI n st) : st.sch.length ≤ 33 := by
  have := nodup_le (st.sch.map (·.1)) names g.nds (fun x hx => by
    obtain ⟨p, hp, rfl⟩ := List.mem_map.mp hx
    exact g.ms p hp)
  rw [names_len, List.length_map] at this
  exact this
theorem GoodI.le {n : Nat} {st : Stt} (g : GoodI n st) : st.ent.length ≤ 33 := by
  have := nodup_le (st.ent.map (·.1)) names g.nde (fun x hx => by
    obtain ⟨p, hp, rfl⟩ := List.mem_map.mp hx
    exact g.me p hp)
  rw [names_len, List.length_map] at this
  exact this
theorem GoodI.str {n : Nat} {st : Stt} (g : GoodI n st) : EntStr st := fun p hp => names_ok _ (g.me p hp)
theorem big1 {i : Int} (h : i.natAbs ≤ 10 ^ 20) : i.natAbs < 2 ^ 1000 := by
  have : 10 ^ 20 < 2 ^ 1000 := by decide +kernel
  omega
/-- what a deed does -/
def DonP (A : EA) (K : PySem.W.Frag) (CS CB : Addr) (M : List Addr) (b : Addr) (st : Stt) (past : List Stt) (H : Hp) (Q : VK) (E : XK) : Deed → Prop
  | .undo => (past = [] → E (.ref A.noth) none H) ∧ ∀ p0 st', past = p0 ++ [st'] → Kept K CS CB true M b H st' p0 Q
  | .keep d mo d2 => ∀ H1, Same H H1 → Post A K CS CB true M b st past (keepDue st d mo d2) H1 Q E
  | .put d w n => Post A K CS CB true M b st past (putDue st d w n) H Q E
  | .lay d w l => Post A K CS CB true M b st past (layDue st d w l) H Q E
  | .move d w => Post A K CS CB true M b st past (moveDue st d w) H Q E
  | .reckon d w t => Post A K CS CB true M b st past (reckonDue st d w t) H Q E
  | .drop d => Post A K CS CB true M b st past (dropDue st d) H Q E
/-- what is due of a deed -/
def DuedP (K : PySem.W.Frag) (M : List Addr) (st : Stt) (m : Nat) (H : Hp) (Q : VK) : Deed → Prop
  | .undo => (m = 1 → ∀ l H', Same H H' → Dp K (fr M H') (.ref l) (.list [.str "nothing"]) → Q (.ref l) H') ∧ (m ≠ 1 → ∀ l H', Same H H' → Dp K (fr M H') (.ref l) (.list [.str "done", .none]) → Q (.ref l) H')
  | .keep d mo d2 => DueP K true M H Q (keepDue st d mo d2)
  | .put d w n => DueP K true M H Q (putDue st d w n)
  | .lay d w l => DueP K true M H Q (layDue st d w l)
  | .move d w => DueP K true M H Q (moveDue st d w)
  | .reckon d w t => DueP K true M H Q (reckonDue st d w t)
  | .drop d => DueP K true M H Q (dropDue st d)
section
variable {P : Program} {w : World} {K : PySem.W.Frag} {mg : Str → Option Value} {base : Heap} (B : Blt mg) {CS CB : Addr} {XA : EA} (C : SchC K mg CS) (CBk : BkC K mg CB)
include B C CBk
def sp_l_done (K : PySem.W.Frag) (CS CB : Addr) (XA : EA) : Sp := fun vs H Q E => ∃ n M b ds de pl ks ke ws st past dl dd, vs = [.ref b, .ref dl] ∧ BookAt K CS CB true M H b ds de pl ks ke ws st past ∧ DeedR K (fr M H) dl dd ∧ DeedOk dd ∧ GoodI n st ∧ n ≤ 100 ∧ past.length < 1000 ∧ DonP XA K CS CB M b st past H Q E dd
theorem ok_l_done (D : FnD K mg "_law_done" s__law_done [] []) (F__law_made : Fn P w K mg base "_law_made" 6 (sp_l_made K CS)) (F_keep : Me P w K mg base CB "keep" 4 (sp_keep K CS CB XA)) (F_put : Me P w K mg base CB "put" 9 (sp_put K CS CB XA)) (F_lay : Me P w K mg base CB "lay" 5 (sp_lay K CS CB XA))
    (F_move : Me P w K mg base CB "move" 9 (sp_move K CS CB XA)) (F_reckon : Me P w K mg base CB "reckon" 9 (sp_reckon K CS CB XA)) (F_drop : Me P w K mg base CB "drop" 5 (sp_drop K CS CB XA)) (F_undo : Me P w K mg base CB "undo" 3 (sp_undo K CS CB XA)) : Fn P w K mg base "_law_done" 10 (sp_l_done K CS CB XA) := by
  refine D.fn sc__law_done (fun _ _ _ _ _ _ us hl => match us, hl with | [_, _], _ => rfl) (fun vs H Q E h => ?_) (fun f cdv A outer s H vs Q E hr h => ?_)
  · obtain ⟨_, _, _, _, _, _, _, _, _, _, _, _, _, rfl, _⟩ := h
    rfl
  · obtain ⟨n, M, b, ds, de, pl, ks, ke, ws, st, past, dl, dd, rfl, W, hdd, hok, gi, hn, hpl, q⟩ := h
    refine ⟨_, (pss_cons (ps_if (pt_cmpR op_eq (pe_ix ix_list (pv 1) pe_int (fun _ _ => rfl)) pe_str (nomark _)) (pss_one (ps_ret (mE F_keep hr CBk.cl (passes_call (takes_of rfl rfl rfl rfl) (fun _ _ _ _ h => h)) (pv 0) (pa_cons (pe_ix ix_list (pv 1) pe_int (fun _ _ => rfl)) (pa_cons (pe_ifExp (pt_val (pe_callB call_isi (by rfl) B.isinstance (by decide +kernel) (pa_cons (pe_ix ix_list (pv 1) pe_int (fun _ _ => rfl)) (pa_cons (pe_bltn (v := .ty "list") (by rfl) B.list (by decide +kernel) rfl) pa_nil)))) (c0 F__law_made hr (pa_cons (pe_ix ix_list (pv 1) pe_int (fun _ _ => rfl)) pa_nil)) (pe_ix ix_list (pv 1) pe_int (fun _ _ => rfl))) pa_nil))))) pss_nil) (pss_cons (ps_if (pt_cmpR op_eq (pe_ix ix_list (pv 1) pe_int (fun _ _ => rfl)) pe_str (nomark _)) (pss_one (ps_ret (mE F_put hr CBk.cl (passes_call (takes_of rfl rfl rfl rfl) (fun _ _ _ _ h => h)) (pv 0) (pa_cons (pe_ix ix_list (pv 1) pe_int (fun _ _ => rfl)) (pa_cons (pe_ix ix_list (pv 1) pe_int (fun _ _ => rfl)) (pa_cons (pe_ix ix_list (pv 1) pe_int (fun _ _ => rfl)) pa_nil)))))) pss_nil) (pss_cons (ps_if (pt_cmpR op_eq (pe_ix ix_list (pv 1) pe_int (fun _ _ => rfl)) pe_str (nomark _)) (pss_one (ps_ret (mE F_lay hr CBk.cl (passes_call (takes_of rfl rfl rfl rfl) (fun _ _ _ _ h => h)) (pv 0) (pa_cons (pe_ix ix_list (pv 1) pe_int (fun _ _ => rfl)) (pa_cons (pe_ix ix_list (pv 1) pe_int (fun _ _ => rfl)) (pa_cons (pe_ix ix_list (pv 1) pe_int (fun _ _ => rfl)) pa_nil)))))) pss_nil) (pss_cons (ps_if (pt_cmpR op_eq (pe_ix ix_list (pv 1) pe_int (fun _ _ => rfl)) pe_str (nomark _)) (pss_one (ps_ret (mE F_move hr CBk.cl (passes_call (takes_of rfl rfl rfl rfl) (fun _ _ _ _ h => h)) (pv 0) (pa_cons (pe_ix ix_list (pv 1) pe_int (fun _ _ => rfl)) (pa_cons (pe_ix ix_list (pv 1) pe_int (fun _ _ => rfl)) pa_nil))))) pss_nil) (pss_cons (ps_if (pt_cmpR op_eq (pe_ix ix_list (pv 1) pe_int (fun _ _ => rfl)) pe_str (nomark _)) (pss_one (ps_ret (mE F_reckon hr CBk.cl (passes_call (takes_of rfl rfl rfl rfl) (fun _ _ _ _ h => h)) (pv 0) (pa_cons (pe_ix ix_list (pv 1) pe_int (fun _ _ => rfl)) (pa_cons (pe_ix ix_list (pv 1) pe_int (fun _ _ => rfl)) (pa_cons (pe_ix ix_list (pv 1) pe_int (fun _ _ => rfl)) pa_nil)))))) pss_nil) (pss_cons (ps_if (pt_cmpR op_eq (pe_ix ix_list (pv 1) pe_int (fun _ _ => rfl)) pe_str (nomark _)) (pss_one (ps_ret (mE F_drop hr CBk.cl (passes_call (takes_of rfl rfl rfl rfl) (fun _ _ _ _ h => h)) (pv 0) (pa_cons (pe_ix ix_list (pv 1) pe_int (fun _ _ => rfl)) pa_nil)))) pss_nil) (pss_one (ps_ret (mE0 F_undo hr CBk.cl (passes_call (takes_of rfl rfl rfl rfl) (fun _ _ _ _ h => h)) (pv 0)))))))))), ?_⟩
    obtain ⟨dx, hb⟩ := W.ins
    have hz1 := gi.ls
    have hz2 := gi.le
    cases dd with
    | keep d mo d2 =>
      obtain ⟨v, v2, hl, hd, hm⟩ := hdd
      replace hl := (fr_le M H).sqL hl
      have hlab := AnyN.lab hok
      refine ⟨_, rfl, dl, _, 0, _, rfl, rfl, hl, rfl, rfl, _, rfl, ite_t (by decide +kernel) ?_⟩
      rcases hm with ⟨m, sc, rfl, hm, g, rfl⟩ | ⟨h2, rfl, hty⟩
      · obtain ⟨ld, lb, m1, m2, m3⟩ := id hm
        refine ⟨_, rfl, b, dx, _, rfl, hb, rfl, _, rfl, dl, _, 1, _, rfl, rfl, hl, rfl, _, rfl, dl, _, 2, _, rfl, rfl, hl, rfl, .ref m, .ty "list", _, _, _, rfl, .ty _, tyX_list ((fr_le _ _).sqL m1), kit_list (.list []), _, rfl, ?_⟩
        refine ⟨_, rfl, dl, _, 2, _, rfl, rfl, hl, rfl, M, m, sc, rfl, W.mok, hm, g, fun H1 x s1 nx hx => ?_⟩
        refine ⟨true, M, b, ds, de, pl, ks, ke, ws, st, past, v, d, .ref x, some sc, d2, rfl, W.same s1, (Le.of s1).dp ((fr_le _ _).dp hd), hlab.sh, .inl ⟨x, sc, rfl, hx, g, rfl⟩, by omega, hpl, q H1 s1⟩
      · refine ⟨_, rfl, b, dx, _, rfl, hb, rfl, _, rfl, dl, _, 1, _, rfl, rfl, hl, rfl, _, rfl, dl, _, 2, _, rfl, rfl, hl, rfl, v2, .ty "list", _, _, _, rfl, .ty _, tyX_of ((fr_le _ _).dp h2), kit_list d2, _, rfl, ?_⟩
        rw [odd_list hty]
        exact ⟨_, rfl, dl, _, 2, _, rfl, rfl, hl, rfl, true, M, b, ds, de, pl, ks, ke, ws, st, past, v, d, v2, none, d2, rfl, W, (fr_le _ _).dp hd, hlab.sh, .inr ⟨h2, rfl, hty⟩, by omega, hpl, q H (Same.refl H)⟩
    | put d w n9 =>
      obtain ⟨v1, v2, v3, hl, h1, h2, h3⟩ := hdd
      replace hl := (fr_le M H).sqL hl
      obtain ⟨hany, hbd⟩ := hok
      refine ⟨_, rfl, dl, _, 0, _, rfl, rfl, hl, rfl, rfl, _, rfl, ite_f (by decide +kernel) ?_⟩
      refine ⟨_, rfl, dl, _, 0, _, rfl, rfl, hl, rfl, rfl, _, rfl, ite_t (by decide +kernel) ?_⟩
      exact ⟨_, rfl, b, dx, _, rfl, hb, rfl, _, rfl, dl, _, 1, _, rfl, rfl, hl, rfl, _, rfl, dl, _, 2, _, rfl, rfl, hl, rfl, _, rfl, dl, _, 3, _, rfl, rfl, hl, rfl, true, M, b, ds, de, pl, ks, ke, ws, st, past, v1, d, v2, w, v3, n9, rfl, W, gi.gt.gs, (fr_le _ _).dp h1, hany.lab.sh, (fr_le _ _).dp h2, (fr_le _ _).dp h3, fun i e => big1 (hbd i e), by omega, hpl, q⟩
    | lay d w l =>
      obtain ⟨v1, v2, v3, hl, h1, h2, h3⟩ := hdd
      replace hl := (fr_le M H).sqL hl
      obtain ⟨hany, hln, hlen⟩ := hok
      refine ⟨_, rfl, dl, _, 0, _, rfl, rfl, hl, rfl, rfl, _, rfl, ite_f (by decide +kernel) ?_⟩
      refine ⟨_, rfl, dl, _, 0, _, rfl, rfl, hl, rfl, rfl, _, rfl, ite_f (by decide +kernel) ?_⟩
      refine ⟨_, rfl, dl, _, 0, _, rfl, rfl, hl, rfl, rfl, _, rfl, ite_t (by decide +kernel) ?_⟩
      exact ⟨_, rfl, b, dx, _, rfl, hb, rfl, _, rfl, dl, _, 1, _, rfl, rfl, hl, rfl, _, rfl, dl, _, 2, _, rfl, rfl, hl, rfl, _, rfl, dl, _, 3, _, rfl, rfl, hl, rfl, true, M, b, ds, de, pl, ks, ke, ws, st, past, v1, d, v2, w, v3, l, rfl, W, gi.gt.gs, (fr_le _ _).dp h1, hany.lab.sh, (fr_le _ _).dp h2, h3, fun ds9 e => by rw [sizeLine_eq]; have := hlen ds9 e; omega, by omega, hpl, q⟩
    | move d w =>
      obtain ⟨v1, v2, hl, h1, h2⟩ := hdd
      replace hl := (fr_le M H).sqL hl
      refine ⟨_, rfl, dl, _, 0, _, rfl, rfl, hl, rfl, rfl, _, rfl, ite_f (by decide +kernel) ?_⟩
      refine ⟨_, rfl, dl, _, 0, _, rfl, rfl, hl, rfl, rfl, _, rfl, ite_f (by decide +kernel) ?_⟩
      refine ⟨_, rfl, dl, _, 0, _, rfl, rfl, hl, rfl, rfl, _, rfl, ite_f (by decide +kernel) ?_⟩
      refine ⟨_, rfl, dl, _, 0, _, rfl, rfl, hl, rfl, rfl, _, rfl, ite_t (by decide +kernel) ?_⟩
      exact ⟨_, rfl, b, dx, _, rfl, hb, rfl, _, rfl, dl, _, 1, _, rfl, rfl, hl, rfl, _, rfl, dl, _, 2, _, rfl, rfl, hl, rfl, n, true, M, b, ds, de, pl, ks, ke, ws, st, past, v1, d, v2, w, rfl, W, gi.gt, hn, (fr_le _ _).dp h1, (fr_le _ _).dp h2, by omega, hpl, q⟩
    | reckon d w t =>
      obtain ⟨v1, v2, v3, hl, h1, h2, h3⟩ := hdd
      replace hl := (fr_le M H).sqL hl
      obtain ⟨hany, hnt, hpo⟩ := hok
      refine ⟨_, rfl, dl, _, 0, _, rfl, rfl, hl, rfl, rfl, _, rfl, ite_f (by decide +kernel) ?_⟩
      refine ⟨_, rfl, dl, _, 0, _, rfl, rfl, hl, rfl, rfl, _, rfl, ite_f (by decide +kernel) ?_⟩
      refine ⟨_, rfl, dl, _, 0, _, rfl, rfl, hl, rfl, rfl, _, rfl, ite_f (by decide +kernel) ?_⟩
      refine ⟨_, rfl, dl, _, 0, _, rfl, rfl, hl, rfl, rfl, _, rfl, ite_f (by decide +kernel) ?_⟩
      refine ⟨_, rfl, dl, _, 0, _, rfl, rfl, hl, rfl, rfl, _, rfl, ite_t (by decide +kernel) ?_⟩
      exact ⟨_, rfl, b, dx, _, rfl, hb, rfl, _, rfl, dl, _, 1, _, rfl, rfl, hl, rfl, _, rfl, dl, _, 2, _, rfl, rfl, hl, rfl, _, rfl, dl, _, 3, _, rfl, rfl, hl, rfl, n, true, M, b, ds, de, pl, ks, ke, ws, st, past, v1, d, v2, w, v3, t, rfl, W, gi.gt, hn, (fr_le _ _).dp h1, hany.lab.sh, (fr_le _ _).dp h2, (fr_le _ _).dp h3, hnt, fun l9 e9 t9 ht9 ds9 f9 x9 hx9 => ((hpo l9 e9).2 t9 ht9 ds9 f9 x9 hx9).sh, by omega, hpl, q⟩
    | drop d =>
      obtain ⟨v1, hl, h1⟩ := hdd
      replace hl := (fr_le M H).sqL hl
      refine ⟨_, rfl, dl, _, 0, _, rfl, rfl, hl, rfl, rfl, _, rfl, ite_f (by decide +kernel) ?_⟩
      refine ⟨_, rfl, dl, _, 0, _, rfl, rfl, hl, rfl, rfl, _, rfl, ite_f (by decide +kernel) ?_⟩
      refine ⟨_, rfl, dl, _, 0, _, rfl, rfl, hl, rfl, rfl, _, rfl, ite_f (by decide +kernel) ?_⟩
      refine ⟨_, rfl, dl, _, 0, _, rfl, rfl, hl, rfl, rfl, _, rfl, ite_f (by decide +kernel) ?_⟩
      refine ⟨_, rfl, dl, _, 0, _, rfl, rfl, hl, rfl, rfl, _, rfl, ite_f (by decide +kernel) ?_⟩
      refine ⟨_, rfl, dl, _, 0, _, rfl, rfl, hl, rfl, rfl, _, rfl, ite_t (by decide +kernel) ?_⟩
      exact ⟨_, rfl, b, dx, _, rfl, hb, rfl, _, rfl, dl, _, 1, _, rfl, rfl, hl, rfl, M, b, ds, de, pl, ks, ke, ws, st, past, v1, d, rfl, W, (fr_le _ _).dp h1, gi.nds, gi.nde, by omega, by omega, hpl, q⟩
    | undo =>
      have hl : SqL K H dl [.str "undo"] := (fr_le M H).sqL hdd
      refine ⟨_, rfl, dl, _, 0, _, rfl, rfl, hl, rfl, rfl, _, rfl, ite_f (by decide +kernel) ?_⟩
      refine ⟨_, rfl, dl, _, 0, _, rfl, rfl, hl, rfl, rfl, _, rfl, ite_f (by decide +kernel) ?_⟩
      refine ⟨_, rfl, dl, _, 0, _, rfl, rfl, hl, rfl, rfl, _, rfl, ite_f (by decide +kernel) ?_⟩
      refine ⟨_, rfl, dl, _, 0, _, rfl, rfl, hl, rfl, rfl, _, rfl, ite_f (by decide +kernel) ?_⟩
      refine ⟨_, rfl, dl, _, 0, _, rfl, rfl, hl, rfl, rfl, _, rfl, ite_f (by decide +kernel) ?_⟩
      refine ⟨_, rfl, dl, _, 0, _, rfl, rfl, hl, rfl, rfl, _, rfl, ite_f (by decide +kernel) ?_⟩
      exact ⟨_, rfl, b, dx, _, rfl, hb, rfl, true, M, b, ds, de, pl, ks, ke, ws, st, past, rfl, W, hpl, q.1, q.2⟩
def sp_l_due (K : PySem.W.Frag) : Sp := fun vs H Q _ => ∃ n M pa vs0 a ds de ks ke st dl dd, vs = [.ref pa, .ref dl] ∧ Mok M H ∧ H pa = some (.lst (vs0 ++ [.ref a])) ∧ LStR K true (fr M H) a ds de ks ke st ∧ DeedR K (fr M H) dl dd ∧ DeedOk dd ∧ GoodI n st ∧ n ≤ 100 ∧ DuedP K M st (vs0.length + 1) H Q dd
theorem ok_l_due (D : FnD K mg "_law_due" s__law_due [] []) (F__law_keep_due : Fn P w K mg base "_law_keep_due" 2 (sp_l_keep_due K)) (F__law_put_due : Fn P w K mg base "_law_put_due" 9 (sp_l_put_due K)) (F__law_lay_due : Fn P w K mg base "_law_lay_due" 3 (sp_l_lay_due K)) (F__law_move_due : Fn P w K mg base "_law_move_due" 9 (sp_l_move_due K)) (F__law_reckon_due : Fn P w K mg base "_law_reckon_due" 9 (sp_l_reckon_due K)) (F__law_drop_due : Fn P w K mg base "_law_drop_due" 2 (sp_l_drop_due K)) : Fn P w K mg base "_law_due" 10 (sp_l_due K) := by
  refine D.fn sc__law_due (fun _ _ _ _ _ _ us hl => match us, hl with | [_, _], _ => rfl) (fun vs H Q E h => ?_) (fun f cdv A outer s H vs Q E hr h => ?_)
  · obtain ⟨_, _, _, _, _, _, _, _, _, _, _, _, rfl, _⟩ := h
    rfl
  · obtain ⟨n, M, pa, vs0, a, ds, de, ks, ke, st, dl, dd, rfl, mok, hpa, L, hdd, hok, gi, hn, q⟩ := h
    refine ⟨_, (pss_cons (ps_set (i := 2) sc__law_due.nd rfl (.inl rfl) (pe_ix ix_list (pv 0) (pe_un un_neg pe_int) (fun _ _ => rfl))) (pss_cons (ps_if (pt_cmpR op_eq (pe_ix ix_list (pv 1) pe_int (fun _ _ => rfl)) pe_str (nomark _)) (pss_one (ps_ret (c0 F__law_keep_due hr (pa_cons (pv 2) (pa_cons (pe_ix ix_list (pv 1) pe_int (fun _ _ => rfl)) (pa_cons (pe_ix ix_list (pv 1) pe_int (fun _ _ => rfl)) pa_nil)))))) pss_nil) (pss_cons (ps_if (pt_cmpR op_eq (pe_ix ix_list (pv 1) pe_int (fun _ _ => rfl)) pe_str (nomark _)) (pss_one (ps_ret (c0 F__law_put_due hr (pa_cons (pv 2) (pa_cons (pe_ix ix_list (pv 1) pe_int (fun _ _ => rfl)) (pa_cons (pe_ix ix_list (pv 1) pe_int (fun _ _ => rfl)) (pa_cons (pe_ix ix_list (pv 1) pe_int (fun _ _ => rfl)) pa_nil))))))) pss_nil) (pss_cons (ps_if (pt_cmpR op_eq (pe_ix ix_list (pv 1) pe_int (fun _ _ => rfl)) pe_str (nomark _)) (pss_one (ps_ret (c0 F__law_lay_due hr (pa_cons (pv 2) (pa_cons (pe_ix ix_list (pv 1) pe_int (fun _ _ => rfl)) (pa_cons (pe_ix ix_list (pv 1) pe_int (fun _ _ => rfl)) (pa_cons (pe_ix ix_list (pv 1) pe_int (fun _ _ => rfl)) pa_nil))))))) pss_nil) (pss_cons (ps_if (pt_cmpR op_eq (pe_ix ix_list (pv 1) pe_int (fun _ _ => rfl)) pe_str (nomark _)) (pss_one (ps_ret (c0 F__law_move_due hr (pa_cons (pv 2) (pa_cons (pe_ix ix_list (pv 1) pe_int (fun _ _ => rfl)) (pa_cons (pe_ix ix_list (pv 1) pe_int (fun _ _ => rfl)) pa_nil)))))) pss_nil) (pss_cons (ps_if (pt_cmpR op_eq (pe_ix ix_list (pv 1) pe_int (fun _ _ => rfl)) pe_str (nomark _)) (pss_one (ps_ret (c0 F__law_reckon_due hr (pa_cons (pv 2) (pa_cons (pe_ix ix_list (pv 1) pe_int (fun _ _ => rfl)) (pa_cons (pe_ix ix_list (pv 1) pe_int (fun _ _ => rfl)) (pa_cons (pe_ix ix_list (pv 1) pe_int (fun _ _ => rfl)) pa_nil))))))) pss_nil) (pss_cons (ps_if (pt_cmpR op_eq (pe_ix ix_list (pv 1) pe_int (fun _ _ => rfl)) pe_str (nomark _)) (pss_one (ps_ret (c0 F__law_drop_due hr (pa_cons (pv 2) (pa_cons (pe_ix ix_list (pv 1) pe_int (fun _ _ => rfl)) pa_nil))))) pss_nil) (pss_one (ps_ret (pe_ifExp (pt_cmpR op_eq (pe_callB call_len (by rfl) B.len (by decide +kernel) (pa_cons (pv 0) pa_nil)) pe_int (nomark _)) (pe_lst (pa_cons pe_str pa_nil)) (pe_lst (pa_cons pe_str (pa_cons pe_non pa_nil))))))))))))), ?_⟩
    have hz1 := gi.ls
    have hz2 := gi.le
    refine ⟨_, rfl, 1, rfl, pa, _, _, _, rfl, rfl, .inl (.inl hpa), L2.atI_last _ _, ?_⟩
    cases dd with
    | keep d mo d2 =>
      obtain ⟨v, v2, hl, hd, hm⟩ := hdd
      replace hl := (fr_le M H).sqL hl
      refine ⟨_, rfl, dl, _, 0, _, rfl, rfl, hl, rfl, rfl, _, rfl, ite_t (by decide +kernel) ?_⟩
      exact ⟨_, rfl, _, rfl, dl, _, 1, _, rfl, rfl, hl, rfl, _, rfl, dl, _, 2, _, rfl, rfl, hl, rfl, true, M, a, ds, de, ks, ke, st, v, d, v2, mo, d2, rfl, mok, L, hd, AnyN.lab hok, hm, by omega, q⟩
    | put d w n9 =>
      obtain ⟨v1, v2, v3, hl, h1, h2, h3⟩ := hdd
      replace hl := (fr_le M H).sqL hl
      obtain ⟨hany, hbd⟩ := hok
      refine ⟨_, rfl, dl, _, 0, _, rfl, rfl, hl, rfl, rfl, _, rfl, ite_f (by decide +kernel) ?_⟩
      refine ⟨_, rfl, dl, _, 0, _, rfl, rfl, hl, rfl, rfl, _, rfl, ite_t (by decide +kernel) ?_⟩
      exact ⟨_, rfl, _, rfl, dl, _, 1, _, rfl, rfl, hl, rfl, _, rfl, dl, _, 2, _, rfl, rfl, hl, rfl, _, rfl, dl, _, 3, _, rfl, rfl, hl, rfl, true, M, a, ds, de, ks, ke, st, v1, d, v2, w, v3, n9, rfl, mok, L, gi.gt.gs, h1, hany.lab, h2, h3, fun i e => big1 (hbd i e), by omega, q⟩
    | lay d w l =>
      obtain ⟨v1, v2, v3, hl, h1, h2, h3⟩ := hdd
      replace hl := (fr_le M H).sqL hl
      obtain ⟨hany, hln, hlen⟩ := hok
      refine ⟨_, rfl, dl, _, 0, _, rfl, rfl, hl, rfl, rfl, _, rfl, ite_f (by decide +kernel) ?_⟩
      refine ⟨_, rfl, dl, _, 0, _, rfl, rfl, hl, rfl, rfl, _, rfl, ite_f (by decide +kernel) ?_⟩
      refine ⟨_, rfl, dl, _, 0, _, rfl, rfl, hl, rfl, rfl, _, rfl, ite_t (by decide +kernel) ?_⟩
      exact ⟨_, rfl, _, rfl, dl, _, 1, _, rfl, rfl, hl, rfl, _, rfl, dl, _, 2, _, rfl, rfl, hl, rfl, _, rfl, dl, _, 3, _, rfl, rfl, hl, rfl, true, M, a, ds, de, ks, ke, st, v1, d, v2, w, v3, l, rfl, mok, L, gi.gt.gs, h1, hany.lab, h2, h3, hln, by omega, q⟩
    | move d w =>
      obtain ⟨v1, v2, hl, h1, h2⟩ := hdd
      replace hl := (fr_le M H).sqL hl
      refine ⟨_, rfl, dl, _, 0, _, rfl, rfl, hl, rfl, rfl, _, rfl, ite_f (by decide +kernel) ?_⟩
      refine ⟨_, rfl, dl, _, 0, _, rfl, rfl, hl, rfl, rfl, _, rfl, ite_f (by decide +kernel) ?_⟩
      refine ⟨_, rfl, dl, _, 0, _, rfl, rfl, hl, rfl, rfl, _, rfl, ite_f (by decide +kernel) ?_⟩
      refine ⟨_, rfl, dl, _, 0, _, rfl, rfl, hl, rfl, rfl, _, rfl, ite_t (by decide +kernel) ?_⟩
      exact ⟨_, rfl, _, rfl, dl, _, 1, _, rfl, rfl, hl, rfl, _, rfl, dl, _, 2, _, rfl, rfl, hl, rfl, n, true, M, a, ds, de, ks, ke, st, v1, d, v2, w, rfl, mok, L, gi.gt, hn, h1, h2, by omega, q⟩
    | reckon d w t =>
      obtain ⟨v1, v2, v3, hl, h1, h2, h3⟩ := hdd
      replace hl := (fr_le M H).sqL hl
      obtain ⟨hany, hpo⟩ := hok
      refine ⟨_, rfl, dl, _, 0, _, rfl, rfl, hl, rfl, rfl, _, rfl, ite_f (by decide +kernel) ?_⟩
      refine ⟨_, rfl, dl, _, 0, _, rfl, rfl, hl, rfl, rfl, _, rfl, ite_f (by decide +kernel) ?_⟩
      refine ⟨_, rfl, dl, _, 0, _, rfl, rfl, hl, rfl, rfl, _, rfl, ite_f (by decide +kernel) ?_⟩
      refine ⟨_, rfl, dl, _, 0, _, rfl, rfl, hl, rfl, rfl, _, rfl, ite_f (by decide +kernel) ?_⟩
      refine ⟨_, rfl, dl, _, 0, _, rfl, rfl, hl, rfl, rfl, _, rfl, ite_t (by decide +kernel) ?_⟩
      exact ⟨_, rfl, _, rfl, dl, _, 1, _, rfl, rfl, hl, rfl, _, rfl, dl, _, 2, _, rfl, rfl, hl, rfl, _, rfl, dl, _, 3, _, rfl, rfl, hl, rfl, n, true, M, a, ds, de, ks, ke, st, v1, d, v2, w, v3, t, rfl, mok, L, gi.gt, hn, h1, hany.lab, h2, h3, hpo, by omega, q⟩
    | drop d =>
      obtain ⟨v1, hl, h1⟩ := hdd
      replace hl := (fr_le M H).sqL hl
      refine ⟨_, rfl, dl, _, 0, _, rfl, rfl, hl, rfl, rfl, _, rfl, ite_f (by decide +kernel) ?_⟩
      refine ⟨_, rfl, dl, _, 0, _, rfl, rfl, hl, rfl, rfl, _, rfl, ite_f (by decide +kernel) ?_⟩
      refine ⟨_, rfl, dl, _, 0, _, rfl, rfl, hl, rfl, rfl, _, rfl, ite_f (by decide +kernel) ?_⟩
      refine ⟨_, rfl, dl, _, 0, _, rfl, rfl, hl, rfl, rfl, _, rfl, ite_f (by decide +kernel) ?_⟩
      refine ⟨_, rfl, dl, _, 0, _, rfl, rfl, hl, rfl, rfl, _, rfl, ite_f (by decide +kernel) ?_⟩
      refine ⟨_, rfl, dl, _, 0, _, rfl, rfl, hl, rfl, rfl, _, rfl, ite_t (by decide +kernel) ?_⟩
      exact ⟨_, rfl, _, rfl, dl, _, 1, _, rfl, rfl, hl, rfl, M, a, ds, de, ks, ke, st, v1, d, rfl, mok, L, h1, gi.nde, gi.str, gi.dis, by omega, by omega, q⟩
    | undo =>
      have hl : SqL K H dl [.str "undo"] := (fr_le M H).sqL hdd
      refine ⟨_, rfl, dl, _, 0, _, rfl, rfl, hl, rfl, rfl, _, rfl, ite_f (by decide +kernel) ?_⟩
      refine ⟨_, rfl, dl, _, 0, _, rfl, rfl, hl, rfl, rfl, _, rfl, ite_f (by decide +kernel) ?_⟩
      refine ⟨_, rfl, dl, _, 0, _, rfl, rfl, hl, rfl, rfl, _, rfl, ite_f (by decide +kernel) ?_⟩
      refine ⟨_, rfl, dl, _, 0, _, rfl, rfl, hl, rfl, rfl, _, rfl, ite_f (by decide +kernel) ?_⟩
      refine ⟨_, rfl, dl, _, 0, _, rfl, rfl, hl, rfl, rfl, _, rfl, ite_f (by decide +kernel) ?_⟩
      refine ⟨_, rfl, dl, _, 0, _, rfl, rfl, hl, rfl, rfl, _, rfl, ite_f (by decide +kernel) ?_⟩
      obtain ⟨q1, q2⟩ := q
      refine ⟨_, rfl, _, _, rfl, .inl ⟨_, .inl (.inl hpa), rfl⟩, rfl, _, rfl, ?_⟩
      have el : (vs0 ++ [V.ref a]).length = vs0.length + 1 := by simp
      refine ite2 (fun c => ?_) fun c => ?_
      · refine ⟨by show 1 ≤ sizeLine; decide, fun l nl => ?_⟩
        have c : V.int ((vs0 ++ [V.ref a]).length : Int) = V.int 1 := of_decide_eq_true c
        injection c with c
        exact q1 (by omega) l _ (same_new nl) (.lst (.inl (.inl (upd_fr nl mok))) (.cons (.str _) .nil))
      · refine ⟨by show 2 ≤ sizeLine; decide, fun l nl => ?_⟩
        exact q2 (fun h => c (decide_eq_true (by rw [el, h]; rfl))) l _ (same_new nl) (.lst (.inl (.inl (upd_fr nl mok))) (.cons (.str _) (.cons .non .nil)))
end
end K75
set_option maxHeartbeats 400000
namespace K75
open PySem PySem.Spec PyProof.Rows L2
section
variable {X : Cx} {CX : CXT} {k j : Nat} {f : Addr} {sp : Sp} {W : WX} {E : XK} {x : Str} {p pos : Pos} {e : Expr} {es : List Expr} {t : TA} {pins : List (Addr × Obj)} {σ : L2.St} {H : Hp} {s : Shared}
theorem run_fnRS {Q : VK} {us : List Value} {vs : List V} (F : FnR X.prog X.w X.K X.mg X.base CX k f sp) (hr : Room k X.A) (hx : PassesAt CX X σ E) (I : Inv X pins σ H s) (r : Vals vs us) (h : sp vs H Q E) :
    codeAny (model X.prog X.w) X.A (.call (.ref f) ⟨us, []⟩) (fun r s' => match r with | .ok (.ret v) => EP X pins σ Q v s' | .ok _ => False | .error e => X.xe e s') s := by
  refine codeAny_mono (F X.A X.stack s H us vs Q E hr I.env0 r h) fun r s' hq => ?_
  cases r with
  | error e => exact hx pins H s e s' I hq
  | ok fl =>
    cases fl with
    | ret u => exact I.after hq
    | next => exact False.elim hq
    | brk => exact False.elim hq
    | cont => exact False.elim hq
/-- a call in a body of a try -/
theorem cS (F : Fn X.prog X.w X.K X.mg X.base x k sp) (hr : Room j X.A) (tk : Takes X W) (ha : PA X (e :: es) t) (hk : k ≤ j := by decide) (hg : Gl X x := by rfl)
    (hdb : (x == ("__debug__" : Str)) = false := by decide) (he : starEach (e :: es) X.env = (false, eval e X.env) :: starEach es X.env := by rfl) (hpl : (backTo pos (starEach es X.env)).any (·.1) = false := by rfl) :
    PE X (.Call (.Name x p) (e :: es) [] pos) (tCallS sp (WE W) t) := by
  obtain ⟨f, g, R⟩ := F.ex
  refine ⟨fun pins s σ H Q I h => ?_⟩
  refine wpAny_Call_Name_kw (ld_glob I hg g.mg ?_ hdb)
  refine PySem.W.callWith_K (h₀ := X.base) I.ok.mod.kin g.kp (thn (ha.run pos pins s σ H _ I h) fun us s1 ⟨vs, H1, I1, r, q⟩ => ⟨I1.kIn, ?_⟩) he hpl
  exact wpAny_call (run_fnRS R (hr.mono hk) (passAt tk σ) I1 r q)
end
abbrev s__law_told : Stmt := top 80
theorem sc__law_told : FnScope ["_law_book", "_law_deed_here", "e"] ["_law_book", "_law_deed_here"] (defScope s__law_told) := ⟨rfl, rfl, rfl, by decide +kernel, rfl, by decide +kernel, by decide +kernel⟩
def noE : Err → Nat
  | .iName => 0
  | .taken => 1
  | .notS => 2
  | .unk => 3
  | .iNum => 4
  | .notW => 5
  | .iRow => 6
  | .iTerms => 7
  | .iTerm => 8
  | .inUse => 9
  | .noth => 10
/-- the classes of the exceptions: none is another's, none has its field -/
structure ExT (K : PySem.W.Frag) (A : EA) : Prop where
  te : ∀ e e' : Err, PySem.W.exmOne K (.ref (A.at e)) (.ref (A.at e')) = some (decide (noE e = noE e'))
  no : ∀ e : Err, e ≠ .noth → PySem.W.findIn K (.ref (A.at e)) (fldE e) = some none
/-- what is told of a deed -/
def TolP (K : PySem.W.Frag) (CS CB : Addr) (M : List Addr) (b : Addr) (st : Stt) (past : List Stt) (H : Hp) (Q : VK) : Out → Prop
  | .done st' => ∀ l H' ds de pl ks ke vs, SB [b] H H' → BookAt K CS CB true M H' b ds de pl ks ke vs st' (past ++ [st]) → Dp K (fr M H') (.ref l) (.list [.str "done", .none]) → Q (.ref l) H'
  | .no e d => ∀ l H', Same H H' → Dp K H' (.ref l) (.list [.str (tagE e), d]) → Q (.ref l) H'
theorem TolP.same {K : PySem.W.Frag} {CS CB : Addr} {M : List Addr} {b : Addr} {st : Stt} {past : List Stt} {H H1 : Hp} {Q : VK} (s : Same H H1) : ∀ {o : Out}, TolP K CS CB M b st past H Q o → TolP K CS CB M b st past H1 Q o
  | .done _, h => fun l H' ds de pl ks ke vs sb w dp => h l H' ds de pl ks ke vs ((sb_same s [b]).trans sb) w dp
  | .no _ _, h => fun l H' s' dp => h l H' (s.trans s') dp
def ToldP (K : PySem.W.Frag) (CS CB : Addr) (M : List Addr) (b : Addr) (st : Stt) (past : List Stt) (H : Hp) (Q : VK) : Deed → Prop
  | .undo => (past = [] → ∀ l H', Same H H' → Dp K (fr M H') (.ref l) (.list [.str "nothing"]) → Q (.ref l) H') ∧
      ∀ p0 st', past = p0 ++ [st'] → ∀ l H' ds de pl ks ke vs, SB [b] H H' → BookAt K CS CB true M H' b ds de pl ks ke vs st' p0 → Dp K (fr M H') (.ref l) (.list [.str "done", .none]) → Q (.ref l) H'
  | .keep d mo d2 => TolP K CS CB M b st past H Q (keepDue st d mo d2)
  | .put d w n => TolP K CS CB M b st past H Q (putDue st d w n)
  | .lay d w l => TolP K CS CB M b st past H Q (layDue st d w l)
  | .move d w => TolP K CS CB M b st past H Q (moveDue st d w)
  | .reckon d w t => TolP K CS CB M b st past H Q (reckonDue st d w t)
  | .drop d => TolP K CS CB M b st past H Q (dropDue st d)
theorem entry_nn {st : Stt} {d w : PyData} {o : Out} (h : entryDue st d w = some o) : ∀ x, o ≠ .no .noth x := fun x e => by
  rcases entry_some h with ⟨_, rfl⟩ | ⟨_, _, rfl⟩ | ⟨_, _, _, rfl⟩ <;> cases e
theorem written_nn {st : Stt} {d w : PyData} {i : Int} : ∀ x, writtenDue st d w i ≠ .no .noth x := fun x h => by
  unfold writtenDue at h
  repeat' split at h
  all_goals cases h
theorem keep_nn {st : Stt} {d d2 : PyData} {mo : Option Sch} : ∀ x, keepDue st d mo d2 ≠ .no .noth x := fun x h => by
  unfold keepDue at h
  repeat' split at h
  all_goals cases h
theorem put_nn {st : Stt} {d w n : PyData} : ∀ x, putDue st d w n ≠ .no .noth x := fun x h => by
  unfold putDue at h
  split at h
  · rename_i o e; exact entry_nn e x h
  · split at h
    · exact written_nn x h
    · cases h
theorem lay_nn {st : Stt} {d w n : PyData} : ∀ x, layDue st d w n ≠ .no .noth x := fun x h => by
  unfold layDue at h
  split at h
  · rename_i o e; exact entry_nn e x h
  · repeat' split at h
    all_goals cases h
theorem move_nn {st : Stt} {d w : PyData} : ∀ x, moveDue st d w ≠ .no .noth x := fun x h => by
  unfold moveDue at h
  split at h
  · cases h
  · split at h
    · cases h
    · exact written_nn x h
theorem terms_nn {st : Stt} {t : PyData} {e : Err × PyData} (h : termsErr st t = some e) : e.1 ≠ .noth := fun c => by
  have t2 : ∀ l, te2 st l = some e → False := fun l h => by
    unfold te2 at h
    cases q : l.find? (fun t => (lookD st.ent (termN t)).isNone) with
    | none => rw [q] at h; cases h
    | some z => rw [q] at h; cases h; cases c
  have t1 : ∀ l, te1 st l = some e → False := fun l h => by
    unfold te1 at h
    cases q : l.find? (fun t => !isTerm t) with
    | none => rw [q] at h; exact t2 l h
    | some z => rw [q] at h; cases h; cases c
  cases t with
  | list l =>
    have h : (if 1 ≤ l.length ∧ l.length ≤ 2 then te1 st l else some (.iTerms, .list l)) = some e := h
    split at h
    · exact t1 l h
    · cases h; cases c
  | _ => cases h; cases c
theorem reckon_nn {st : Stt} {d w t : PyData} : ∀ x, reckonDue st d w t ≠ .no .noth x := fun x h => by
  unfold reckonDue at h
  split at h
  · rename_i o e; exact entry_nn e x h
  · split at h
    · rename_i e he
      have := terms_nn he
      injection h with h1 h2
      exact this h1
    · exact written_nn x h
theorem drop_nn {st : Stt} {d : PyData} : ∀ x, dropDue st d ≠ .no .noth x := fun x h => by
  unfold dropDue at h
  repeat' split at h
  all_goals cases h
/-- from what a deed does to what is told of it -/
theorem done_told {XA : EA} {K : PySem.W.Frag} {CS CB : Addr} {M : List Addr} {H : Hp} {b ds de pl : Addr} {ks ke : List (Key × V)} {ws : List V} {st : Stt} {past : List Stt} {Q : VK} (W0 : BookAt K CS CB true M H b ds de pl ks ke ws st past) {dd : Deed} (q : ToldP K CS CB M b st past H Q dd) (Q' : VK) (E' : XK)
    (hQ : ∀ H', (∀ l, H' l = none → Q (.ref l) (upd H' l (.lst [.str "done", .non]))) → Q' .non H')
    (hE : ∀ e v dd H', e ≠ Err.noth → H' dd = some (.xd [(fldE e, v)]) → (∀ l, H' l = none → Q (.ref l) (upd H' l (.lst [.str (tagE e), v]))) → E' (.ref (XA.at e)) (some dd) H')
    (hN : ∀ H', (∀ l, H' l = none → Q (.ref l) (upd H' l (.lst [.str "nothing"]))) → E' (.ref XA.noth) none H') : DonP XA K CS CB M b st past H Q' E' dd := by
  have kept : ∀ (H1 : Hp) (st' : Stt) (p0 : List Stt), Same H H1 → (∀ l H' ds de pl ks ke vs, SB [b] H H' → BookAt K CS CB true M H' b ds de pl ks ke vs st' p0 → Dp K (fr M H') (.ref l) (.list [.str "done", .none]) → Q (.ref l) H') → Kept K CS CB true M b H1 st' p0 Q' := fun H1 st' p0 s1 q H' ds de pl ks ke vs sb w => by
    refine hQ H' fun l nl => ?_
    have s2 := same_new (o := .lst [.str "done", .non]) nl
    exact q l _ ds de pl ks ke vs (((sb_same s1 [b]).trans sb).trans (sb_same s2 [b])) (w.same s2) (.lst (.inl (.inl (upd_fr nl w.mok))) (.cons (.str _) (.cons .non .nil)))
  have post : ∀ (o : Out) (H1 : Hp), Same H H1 → (∀ d, o ≠ .no .noth d) → TolP K CS CB M b st past H Q o → Post XA K CS CB true M b st past o H1 Q' E' := fun o H1 s1 hno q => by
    cases o with
    | done st' => exact kept H1 st' (past ++ [st]) s1 q
    | no e d =>
      intro v hv dd H2 s2 hdd
      refine hE e v dd H2 (fun h => hno d (by rw [h])) hdd fun l nl => ?_
      exact q l _ ((s1.trans s2).trans (same_new nl)) (.lst (.inl (.inl upd_same)) (.cons (.str _) (.cons ((Le.of (s2.trans (same_new nl))).dp hv) .nil)))
  cases dd with
  | keep d mo d2 => exact fun H1 s1 => post _ H1 s1 keep_nn q
  | put d w n => exact post _ H (Same.refl H) put_nn q
  | lay d w l => exact post _ H (Same.refl H) lay_nn q
  | move d w => exact post _ H (Same.refl H) move_nn q
  | reckon d w t => exact post _ H (Same.refl H) reckon_nn q
  | drop d => exact post _ H (Same.refl H) drop_nn q
  | undo =>
    refine ⟨fun h => hN H fun l nl => ?_, fun p0 st' h => kept H st' p0 (Same.refl H) (q.2 p0 st' h)⟩
    exact q.1 h l _ (same_new nl) (.lst (.inl (.inl (upd_fr nl W0.mok))) (.cons (.str _) .nil))
section
variable {P : Program} {w : World} {K : PySem.W.Frag} {mg : Str → Option Value} {base : Heap} (B : Blt mg) {CS CB : Addr} {XA : EA} (XS : Exs P w K mg base XA) (XT : ExT K XA)
include B XS XT
def sp_l_told (K : PySem.W.Frag) (CS CB : Addr) : Sp := fun vs H Q _ => ∃ n M b ds de pl ks ke ws st past dl dd, vs = [.ref b, .ref dl] ∧ BookAt K CS CB true M H b ds de pl ks ke ws st past ∧ DeedR K (fr M H) dl dd ∧ DeedOk dd ∧ GoodI n st ∧ n ≤ 100 ∧ past.length < 1000 ∧ ToldP K CS CB M b st past H Q dd
theorem ok_l_told (D : FnD K mg "_law_told" s__law_told [] []) (F__law_done : Fn P w K mg base "_law_done" 10 (sp_l_done K CS CB XA)) : Fn P w K mg base "_law_told" 11 (sp_l_told K CS CB) := by
  refine D.fn sc__law_told (fun _ _ _ _ _ _ us hl => match us, hl with | [_, _], _ => rfl) (fun vs H Q E h => ?_) (fun f cdv A outer s H vs Q E hr h => ?_)
  · obtain ⟨_, _, _, _, _, _, _, _, _, _, _, _, _, rfl, _⟩ := h
    rfl
  · obtain ⟨n, M, b, ds, de, pl, ks, ke, ws, st, past, dl, dd, rfl, W0, hdd, hok, gi, hn, hpl, q⟩ := h
    refine ⟨_, (pss_one (ps_try_manyA rfl rfl sc__law_told.nd (takes_of rfl rfl rfl rfl) (fun W pn xe tk _ => (pss_one (ps_ret (pe_lst (pa_cons pe_str (pa_cons (cS F__law_done hr tk (pa_cons (pv 0) (pa_cons (pv 1) pa_nil))) pa_nil)))))) (.consA (c := .ref XA.iName) (i := 2) ⟨rfl, rfl, .inl XS.x_InvalidName.gC⟩ rfl rfl (fun a oe cls d pn hz hf => pss_one (ps_ret (pe_lst (pa_cons pe_str (pa_cons (pe_xf (C := XA.iName) XS.x_InvalidName.xf (XT.no .iName (by intro h; cases h)) hz hf (pv 2)) pa_nil))))) (.consA (c := .ref XA.taken) (i := 2) ⟨rfl, rfl, .inl XS.x_NameTaken.gC⟩ rfl rfl (fun a oe cls d pn hz hf => pss_one (ps_ret (pe_lst (pa_cons pe_str (pa_cons (pe_xf (C := XA.taken) XS.x_NameTaken.xf (XT.no .taken (by intro h; cases h)) hz hf (pv 2)) pa_nil))))) (.consA (c := .ref XA.notS) (i := 2) ⟨rfl, rfl, .inl XS.x_NotScheme.gC⟩ rfl rfl (fun a oe cls d pn hz hf => pss_one (ps_ret (pe_lst (pa_cons pe_str (pa_cons (pe_xf (C := XA.notS) XS.x_NotScheme.xf (XT.no .notS (by intro h; cases h)) hz hf (pv 2)) pa_nil))))) (.consA (c := .ref XA.unk) (i := 2) ⟨rfl, rfl, .inl XS.x_UnknownName.gC⟩ rfl rfl (fun a oe cls d pn hz hf => pss_one (ps_ret (pe_lst (pa_cons pe_str (pa_cons (pe_xf (C := XA.unk) XS.x_UnknownName.xf (XT.no .unk (by intro h; cases h)) hz hf (pv 2)) pa_nil))))) (.consA (c := .ref XA.iNum) (i := 2) ⟨rfl, rfl, .inl XS.x_InvalidNumber.gC⟩ rfl rfl (fun a oe cls d pn hz hf => pss_one (ps_ret (pe_lst (pa_cons pe_str (pa_cons (pe_xf (C := XA.iNum) XS.x_InvalidNumber.xf (XT.no .iNum (by intro h; cases h)) hz hf (pv 2)) pa_nil))))) (.consA (c := .ref XA.notW) (i := 2) ⟨rfl, rfl, .inl XS.x_NotWritten.gC⟩ rfl rfl (fun a oe cls d pn hz hf => pss_one (ps_ret (pe_lst (pa_cons pe_str (pa_cons (pe_xf (C := XA.notW) XS.x_NotWritten.xf (XT.no .notW (by intro h; cases h)) hz hf (pv 2)) pa_nil))))) (.consA (c := .ref XA.iRow) (i := 2) ⟨rfl, rfl, .inl XS.x_InvalidRow.gC⟩ rfl rfl (fun a oe cls d pn hz hf => pss_one (ps_ret (pe_lst (pa_cons pe_str (pa_cons (pe_xf (C := XA.iRow) XS.x_InvalidRow.xf (XT.no .iRow (by intro h; cases h)) hz hf (pv 2)) pa_nil))))) (.consA (c := .ref XA.iTerms) (i := 2) ⟨rfl, rfl, .inl XS.x_InvalidTerms.gC⟩ rfl rfl (fun a oe cls d pn hz hf => pss_one (ps_ret (pe_lst (pa_cons pe_str (pa_cons (pe_xf (C := XA.iTerms) XS.x_InvalidTerms.xf (XT.no .iTerms (by intro h; cases h)) hz hf (pv 2)) pa_nil))))) (.consA (c := .ref XA.iTerm) (i := 2) ⟨rfl, rfl, .inl XS.x_InvalidTerm.gC⟩ rfl rfl (fun a oe cls d pn hz hf => pss_one (ps_ret (pe_lst (pa_cons pe_str (pa_cons (pe_xf (C := XA.iTerm) XS.x_InvalidTerm.xf (XT.no .iTerm (by intro h; cases h)) hz hf (pv 2)) pa_nil))))) (.consA (c := .ref XA.inUse) (i := 2) ⟨rfl, rfl, .inl XS.x_InUse.gC⟩ rfl rfl (fun a oe cls d pn hz hf => pss_one (ps_ret (pe_lst (pa_cons pe_str (pa_cons (pe_xf (C := XA.inUse) XS.x_InUse.xf (XT.no .inUse (by intro h; cases h)) hz hf (pv 2)) pa_nil))))) (.cons (c := .ref XA.noth) ⟨rfl, rfl, .inl XS.x_NothingToUndo.gC⟩ (fun a oe cls d pn hz hf => pss_one (ps_ret (pe_lst (pa_cons pe_str pa_nil)))) .nil))))))))))))), ?_⟩
    refine ⟨_, rfl, _, rfl, n, M, b, ds, de, pl, ks, ke, ws, st, past, dl, dd, rfl, W0, hdd, hok, gi, hn, hpl, ?_⟩
    refine done_told W0 q _ _ (fun H' k => ⟨by show 2 ≤ sizeLine; decide, k⟩) (fun e v dd H' hne hdd k => ?_) (fun H' k => ⟨false, XT.te .noth .iName, (fun h => nomatch h), fun _ => ⟨false, XT.te .noth .taken, (fun h => nomatch h), fun _ => ⟨false, XT.te .noth .notS, (fun h => nomatch h), fun _ => ⟨false, XT.te .noth .unk, (fun h => nomatch h), fun _ => ⟨false, XT.te .noth .iNum, (fun h => nomatch h), fun _ => ⟨false, XT.te .noth .notW, (fun h => nomatch h), fun _ => ⟨false, XT.te .noth .iRow, (fun h => nomatch h), fun _ => ⟨false, XT.te .noth .iTerms, (fun h => nomatch h), fun _ => ⟨false, XT.te .noth .iTerm, (fun h => nomatch h), fun _ => ⟨false, XT.te .noth .inUse, (fun h => nomatch h), fun _ => ⟨true, XT.te .noth .noth, (fun _ a ha => ⟨by show 1 ≤ sizeLine; decide, k⟩), fun h => nomatch h⟩⟩⟩⟩⟩⟩⟩⟩⟩⟩⟩)
    cases e with
    | iName => exact ⟨true, XT.te .iName .iName, (fun _ a ha => ⟨_, rfl, rfl, rfl, dd, _, v, rfl, hdd, rfl, by show 2 ≤ sizeLine; decide, k⟩), fun h => nomatch h⟩
    | taken => exact ⟨false, XT.te .taken .iName, (fun h => nomatch h), fun _ => ⟨true, XT.te .taken .taken, (fun _ a ha => ⟨_, rfl, rfl, rfl, dd, _, v, rfl, hdd, rfl, by show 2 ≤ sizeLine; decide, k⟩), fun h => nomatch h⟩⟩
    | notS => exact ⟨false, XT.te .notS .iName, (fun h => nomatch h), fun _ => ⟨false, XT.te .notS .taken, (fun h => nomatch h), fun _ => ⟨true, XT.te .notS .notS, (fun _ a ha => ⟨_, rfl, rfl, rfl, dd, _, v, rfl, hdd, rfl, by show 2 ≤ sizeLine; decide, k⟩), fun h => nomatch h⟩⟩⟩
    | unk => exact ⟨false, XT.te .unk .iName, (fun h => nomatch h), fun _ => ⟨false, XT.te .unk .taken, (fun h => nomatch h), fun _ => ⟨false, XT.te .unk .notS, (fun h => nomatch h), fun _ => ⟨true, XT.te .unk .unk, (fun _ a ha => ⟨_, rfl, rfl, rfl, dd, _, v, rfl, hdd, rfl, by show 2 ≤ sizeLine; decide, k⟩), fun h => nomatch h⟩⟩⟩⟩
    | iNum => exact ⟨false, XT.te .iNum .iName, (fun h => nomatch h), fun _ => ⟨false, XT.te .iNum .taken, (fun h => nomatch h), fun _ => ⟨false, XT.te .iNum .notS, (fun h => nomatch h), fun _ => ⟨false, XT.te .iNum .unk, (fun h => nomatch h), fun _ => ⟨true, XT.te .iNum .iNum, (fun _ a ha => ⟨_, rfl, rfl, rfl, dd, _, v, rfl, hdd, rfl, by show 2 ≤ sizeLine; decide, k⟩), fun h => nomatch h⟩⟩⟩⟩⟩
    | notW => exact ⟨false, XT.te .notW .iName, (fun h => nomatch h), fun _ => ⟨false, XT.te .notW .taken, (fun h => nomatch h), fun _ => ⟨false, XT.te .notW .notS, (fun h => nomatch h), fun _ => ⟨false, XT.te .notW .unk, (fun h => nomatch h), fun _ => ⟨false, XT.te .notW .iNum, (fun h => nomatch h), fun _ => ⟨true, XT.te .notW .notW, (fun _ a ha => ⟨_, rfl, rfl, rfl, dd, _, v, rfl, hdd, rfl, by show 2 ≤ sizeLine; decide, k⟩), fun h => nomatch h⟩⟩⟩⟩⟩⟩
    | iRow => exact ⟨false, XT.te .iRow .iName, (fun h => nomatch h), fun _ => ⟨false, XT.te .iRow .taken, (fun h => nomatch h), fun _ => ⟨false, XT.te .iRow .notS, (fun h => nomatch h), fun _ => ⟨false, XT.te .iRow .unk, (fun h => nomatch h), fun _ => ⟨false, XT.te .iRow .iNum, (fun h => nomatch h), fun _ => ⟨false, XT.te .iRow .notW, (fun h => nomatch h), fun _ => ⟨true, XT.te .iRow .iRow, (fun _ a ha => ⟨_, rfl, rfl, rfl, dd, _, v, rfl, hdd, rfl, by show 2 ≤ sizeLine; decide, k⟩), fun h => nomatch h⟩⟩⟩⟩⟩⟩⟩
    | iTerms => exact ⟨false, XT.te .iTerms .iName, (fun h => nomatch h), fun _ => ⟨false, XT.te .iTerms .taken, (fun h => nomatch h), fun _ => ⟨false, XT.te .iTerms .notS, (fun h => nomatch h), fun _ => ⟨false, XT.te .iTerms .unk, (fun h => nomatch h), fun _ => ⟨false, XT.te .iTerms .iNum, (fun h => nomatch h), fun _ => ⟨false, XT.te .iTerms .notW, (fun h => nomatch h), fun _ => ⟨false, XT.te .iTerms .iRow, (fun h => nomatch h), fun _ => ⟨true, XT.te .iTerms .iTerms, (fun _ a ha => ⟨_, rfl, rfl, rfl, dd, _, v, rfl, hdd, rfl, by show 2 ≤ sizeLine; decide, k⟩), fun h => nomatch h⟩⟩⟩⟩⟩⟩⟩⟩
    | iTerm => exact ⟨false, XT.te .iTerm .iName, (fun h => nomatch h), fun _ => ⟨false, XT.te .iTerm .taken, (fun h => nomatch h), fun _ => ⟨false, XT.te .iTerm .notS, (fun h => nomatch h), fun _ => ⟨false, XT.te .iTerm .unk, (fun h => nomatch h), fun _ => ⟨false, XT.te .iTerm .iNum, (fun h => nomatch h), fun _ => ⟨false, XT.te .iTerm .notW, (fun h => nomatch h), fun _ => ⟨false, XT.te .iTerm .iRow, (fun h => nomatch h), fun _ => ⟨false, XT.te .iTerm .iTerms, (fun h => nomatch h), fun _ => ⟨true, XT.te .iTerm .iTerm, (fun _ a ha => ⟨_, rfl, rfl, rfl, dd, _, v, rfl, hdd, rfl, by show 2 ≤ sizeLine; decide, k⟩), fun h => nomatch h⟩⟩⟩⟩⟩⟩⟩⟩⟩
    | inUse => exact ⟨false, XT.te .inUse .iName, (fun h => nomatch h), fun _ => ⟨false, XT.te .inUse .taken, (fun h => nomatch h), fun _ => ⟨false, XT.te .inUse .notS, (fun h => nomatch h), fun _ => ⟨false, XT.te .inUse .unk, (fun h => nomatch h), fun _ => ⟨false, XT.te .inUse .iNum, (fun h => nomatch h), fun _ => ⟨false, XT.te .inUse .notW, (fun h => nomatch h), fun _ => ⟨false, XT.te .inUse .iRow, (fun h => nomatch h), fun _ => ⟨false, XT.te .inUse .iTerms, (fun h => nomatch h), fun _ => ⟨false, XT.te .inUse .iTerm, (fun h => nomatch h), fun _ => ⟨true, XT.te .inUse .inUse, (fun _ a ha => ⟨_, rfl, rfl, rfl, dd, _, v, rfl, hdd, rfl, by show 2 ≤ sizeLine; decide, k⟩), fun h => nomatch h⟩⟩⟩⟩⟩⟩⟩⟩⟩⟩
    | noth => exact absurd rfl hne
end
end K75
set_option maxHeartbeats 400000
namespace K75
open PySem PySem.Spec PyProof.Rows L2
abbrev s__law_row : Stmt := top 63
theorem sc__law_row : FnScope ["_law_box_here", "_law_model", "_law_many", "_law_row_here", "_law_k", "_law_some", "_law_digit"] ["_law_box_here", "_law_model", "_law_many"] (defScope s__law_row) := ⟨rfl, rfl, rfl, by decide +kernel, rfl, by decide +kernel, by decide +kernel⟩
abbrev s__law_number : Stmt := top 82
theorem sc__law_number : FnScope ["_law_box_here", "_law_number_here"] ["_law_box_here"] (defScope s__law_number) := ⟨rfl, rfl, rfl, by decide +kernel, rfl, by decide +kernel, by decide +kernel⟩
section
variable {P : Program} {w : World} {K : PySem.W.Frag} {mg : Str → Option Value} {base : Heap} (B : Blt mg)
include B
def sp_l_row (K : PySem.W.Frag) : Sp := fun vs H Q _ => ∃ n M bx m sc k, vs = [.ref bx, .ref m, .int k] ∧ BoxI n bx H ∧ Mok M H ∧ bx ∈ M ∧ n < 600000 ∧ ModelAt K (fr M H) m sc ∧ GoodS sc ∧ 0 ≤ k ∧ k ≤ 6 ∧ ∀ (t : Addr) (row : List Int) (H' : Hp), SB [bx] H H' → BoxI (n + 6) bx H' → SqT K (fr M H') t (row.map V.int) → row.length ≤ 6 → (∀ d ∈ row, d ∈ sc.digits) → Q (.ref t) H'
theorem ok_l_row (D : FnD K mg "_law_row" s__law_row [] []) (F__law_take : Fn P w K mg base "_law_take" 1 sp_l_take) : Fn P w K mg base "_law_row" 2 (sp_l_row K) := by
  refine D.fn sc__law_row (fun _ _ _ _ _ _ us hl => match us, hl with | [_, _, _], _ => rfl) (fun vs H Q E h => ?_) (fun f cdv A outer s H vs Q E hr h => ?_)
  · obtain ⟨_, _, _, _, _, _, rfl, _⟩ := h
    rfl
  · obtain ⟨n, M, bx, m, sc, k, rfl, hbx, mok, mem, hn, hm, g, hk0, hk, q⟩ := h
    refine ⟨_, (pss_cons (ps_set (i := 3) sc__law_row.nd rfl (.inr rfl) (pe_lst pa_nil)) (pss_cons (ps_for (passes_of rfl) rfl (pi_range1 (by rfl) B.range (pa_cons (pv 2) pa_nil)) (pg_name (i := 4) sc__law_row.nd rfl (.inl rfl)) (pss_cons (ps_setLc (i := 5) rfl sc__law_row.nd rfl rfl (sw_true rfl rfl rfl (by decide +kernel)) (own := [("_law_digit", 6)]) (g := gName 6) (tt := _) (pi_list (pe_ix ix_list (pv 1) pe_int (fun _ _ => rfl))) (blkOk_by (N := ["_law_box_here", "_law_model", "_law_many", "_law_row_here", "_law_k", "_law_some", "_law_digit"]) (sc := defScope s__law_row) (by decide +kernel)) (fun _ _ _ _ _ => (pg_name (i := 6) sc__law_row.nd rfl (.inl rfl))) (fun _ _ _ _ _ => (pts_one (PW.pt (pw_or (pt_cmpR (r := rEqD K) (op_eqD hr.units) (pv 3) (pe_lst pa_nil) (nomark _)) (pw_or1 (pt_cmpR (r := rNotInD K) (op_notInD (hu65 hr)) (pe_tup (pa_cons (pe_ix (r := rIxL K) ix_list (pv 3) (pe_un un_neg pe_int) (fun _ _ => rfl)) (pa_cons (pv 6) pa_nil))) (pe_ix (r := rIxL K) ix_list (pv 1) pe_int (fun _ _ => rfl)) (by rfl))))))) (fun _ _ _ _ _ => (pv 6))) (pss_one (ps_if (pt_cmpR (op_neD hr.units) (pv 5) (pe_lst pa_nil) (nomark _)) (pss_one (ps_expr (pe_bm PySem.F.plainAttrs_list PySem.F.slot_list_append PySem.F.type_list_append mt_append (pv 3) (pa_cons (pe_ix ix_list (pv 5) (c0 F__law_take hr (pa_cons (pv 0) (pa_cons (pe_callB call_len (by rfl) B.len (by decide +kernel) (pa_cons (pv 5) pa_nil)) pa_nil))) (fun _ _ => rfl)) pa_nil)))) pss_nil)))) (pss_one (ps_ret (pe_callTy call_tuple_of (by rfl) B.tuple (by decide +kernel) (pa_cons (pv 3) pa_nil)))))), ?_⟩
    refine ⟨by show 0 ≤ sizeLine; decide, fun rl nrl => ?_⟩
    have s0 := same_new (o := .lst []) nrl
    have nrb : rl ≠ bx := fun e => by rw [e] at nrl; exact hbx.ok nrl
    refine ⟨_, rfl, _, rfl, by omega, by omega, for_range (n := k.toNat) (fun i σ H' => (∃ y z, σ = [some (.ref bx), some (.ref m), some (.int k), some (.ref rl), y, z, none]) ∧ SB [bx] H H' ∧ BoxI (n + i) bx H' ∧ ∃ row : List Int, H' rl = some (.lst (row.map V.int)) ∧ row.length ≤ i ∧ ∀ d ∈ row, d ∈ sc.digits)
      ⟨⟨_, _, rfl⟩, sb_same s0 [bx], hbx.same s0, [], upd_same, Nat.le_refl _, by simp⟩ (fun i σ H1 hi p => ?_) (fun σ H1 p => ?_)⟩
    · obtain ⟨⟨y, z, rfl⟩, sb, bi, row, hrl, hrow, hdig⟩ := p
      have mokH1 : Mok M H1 := mok.box sb bi
      have mok1 : Mok (rl :: M) H1 := fun a ha => by
        rcases List.mem_cons.mp ha with rfl | ha
        · rw [hrl]; simp
        · exact mokH1 a ha
      have hm1 : ModelAt K H1 m sc := (hm.le (sb_le sb (by simpa using mem))).le (fr_le _ _)
      obtain ⟨ld, lb, m1, m2, m3⟩ := id hm1
      refine ⟨_, rfl, m, _, 1, _, rfl, rfl, m1, rfl, ld, rfl, ⟨_, m2⟩, fun Dl nD => lc_list (xs := sc.digits.map V.int) (LcI [] (rl :: M) Dl H1 (fun i acc _ => ∃ ns : List Int, acc = ns.map V.int ∧ ∀ d ∈ ns, d ∈ sc.digits)) (LcI.start mok1 (by simp) nD ⟨[], rfl, by simp⟩)
        (fun j H5 _ p => (Le.of p.stp.same).sqL m2) (fun j x H5 hx p => ?_) (fun H5 p => ?_)⟩
      · rw [List.getElem?_map] at hx
        cases e1 : sc.digits[j]? with
        | none => rw [e1] at hx; cases hx
        | some d =>
          rw [e1] at hx
          cases hx
          have hj := (List.getElem?_eq_some_iff.mp e1).1
          have hz6 : sc.digits.length ≤ 6 := g.dig.hi
          have s5 := p.stp.same
          have yes : ∀ H6, Same H5 H6 → ∃ acc, H6 Dl = some (.lst acc) ∧ acc.length < sizeLine ∧ LcI [] (rl :: M) Dl H1 (fun i acc _ => ∃ ns : List Int, acc = ns.map V.int ∧ ∀ d ∈ ns, d ∈ sc.digits) (j + 1) (upd H6 Dl (.lst (acc ++ [.int d]))) := fun H6 s6 =>
            p.step (by simp) nD mok1 (.nil s6) (by rw [sizeLine_eq]; omega) (fun acc _ ⟨ns, e, h⟩ => ⟨ns ++ [d], by rw [e, List.map_append]; rfl, fun x hx => by
              rcases List.mem_append.mp hx with hx | hx
              · exact h x hx
              · rw [List.mem_singleton] at hx; rw [hx]; exact List.mem_of_getElem? e1⟩)
          have no : ∀ H6, Same H5 H6 → LcI [] (rl :: M) Dl H1 (fun i acc _ => ∃ ns : List Int, acc = ns.map V.int ∧ ∀ d ∈ ns, d ∈ sc.digits) (j + 1) H6 := fun H6 s6 => p.skip (by simp) nD mok1 (.nil s6) (fun acc _ r => r)
          refine ⟨rfl, _, rfl, by show 0 ≤ sizeLine; decide, fun l0 n0 => ⟨.list (row.map PyData.int), .list [], .lst (.inl (.inl (same_new (o := .lst []) n0 _ _ (s5 _ _ hrl)))) (dp_ints _), .lst (.inl (.inl upd_same)) .nil, ints_shaped _, by decide, _, rfl, ?_⟩⟩
          have s6 := same_new (o := .lst []) n0
          generalize upd H5 l0 (.lst []) = H6 at *
          rw [eqv_nil, List.isEmpty_map]
          refine ite2 (fun c => ?_) fun c => ?_
          · exact ⟨_, rfl, yes H6 s6⟩
          · have hne : row ≠ [] := fun e => c (by rw [e]; rfl)
            have s56 := s5.trans s6
            have ha : atI (row.map V.int) (-1) = some (.int (row.getLast hne)) := by
              have e9 := List.dropLast_concat_getLast hne
              have : row.map V.int = (row.dropLast).map V.int ++ [.int (row.getLast hne)] := by
                rw [show [V.int (row.getLast hne)] = [row.getLast hne].map V.int from rfl, ← List.map_append, e9]
              rw [this]
              exact L2.atI_last _ _
            refine ⟨_, rfl, 1, rfl, rl, _, _, _, rfl, rfl, .inl (.inl (s56 _ _ hrl)), ha, _, rfl, by show 2 ≤ sizeLine; decide, fun tt nt => ?_⟩
            have s7 := s6.trans (same_new (o := .tup [.int (row.getLast hne), .int d]) nt)
            have m17 := (Le.of (s5.trans s7)).sqL m1
            refine ⟨_, rfl, m, _, 2, _, rfl, rfl, m17, rfl, pairD (row.getLast hne, d), _, .tup (.inl (.inl upd_same)) (.cons (.int _) (.cons (.int _) .nil)), (Le.of (s5.trans s7)).dp m3, pair_shaped _, pairs_shapedL _, _, rfl, ?_⟩
            refine ite2 (fun c5 => ?_) fun c5 => ?_
            · exact ⟨_, rfl, yes _ s7⟩
            · exact no _ s7
      · obtain ⟨acc, hA, _, ns, rfl, hns⟩ := p.ex
        have s5 := p.stp.same
        have sb5 := sb.trans (sb_same s5 [bx])
        have b5 := bi.same s5
        have hrl5 := s5 _ _ hrl
        have hz6 : ns.length ≤ 6 := by
          obtain ⟨acc', hA', hl', _⟩ := p.ex
          rw [hA] at hA'
          cases hA'
          rw [List.length_map, List.length_map] at hl'
          exact Nat.le_trans hl' g.dig.hi
        refine ⟨_, rfl, by show 0 ≤ sizeLine; decide, fun l1 n1 => ⟨.list (ns.map PyData.int), .list [], .lst (.inl (.inl (same_new (o := .lst []) n1 _ _ hA))) (dp_ints _), .lst (.inl (.inl upd_same)) .nil, ints_shaped _, by decide, _, rfl, ?_⟩⟩
        have s6 := same_new (o := .lst []) n1
        have hA6 := s6 _ _ hA
        have hrl6 := s6 _ _ hrl5
        have b6 := b5.same s6
        have sb6 := sb5.trans (sb_same s6 [bx])
        generalize upd H5 l1 (.lst []) = H6 at *
        rw [eqv_nil, List.isEmpty_map]
        refine ite2 (fun c => ?_) fun c => ?_
        · have c : ns.isEmpty = false := by simpa using c
          have hpos : 0 < ns.length := by
            cases ns with
            | nil => cases c
            | cons _ _ => simp
          refine ⟨_, rfl, .inl ⟨rfl, _, .inl (.inl hrl6)⟩, _, rfl, _, rfl, _, rfl, _, _, rfl, .inl ⟨_, .inl (.inl hA6), rfl⟩, n + i, bx, _, rfl, b6, by omega, by rw [List.length_map]; omega, by rw [List.length_map]; omega, fun t H7 t1 t2 s7 b7 => ?_⟩
          rw [List.length_map] at t2
          have nDb : Dl ≠ bx := fun e => by rw [e] at nD; exact bi.ok nD
          have ht : t.toNat < ns.length := by omega
          have hA7 := s7 _ _ (by simpa using nDb) hA6
          have hrl7 := s7 _ _ (by simpa using nrb) hrl6
          refine ⟨Dl, _, t, _, rfl, rfl, .inl (.inl hA7), atI_int (j := t.toNat) (by omega) ht, rl, _, _, rfl, rfl, hrl7, by rw [List.length_map, sizeLine_eq]; omega, ⟨_, _, rfl⟩, sb_newU (sb6.trans s7) nrl, (b7.le (by omega)).old (A := [rl]) sb_upd (by simpa using nrb.symm), row ++ [ns[t.toNat]], ?_, by rw [List.length_append, List.length_singleton]; omega, fun x hx => ?_⟩
          · rw [upd_same, List.map_append]; rfl
          · rcases List.mem_append.mp hx with hx | hx
            · exact hdig x hx
            · rw [List.mem_singleton] at hx
              rw [hx]
              exact hns _ (List.getElem_mem ht)
        · exact ⟨⟨_, _, rfl⟩, sb6, b6.le (by omega), row, hrl6, by omega, hdig⟩
    · obtain ⟨⟨y, z, rfl⟩, sb, bi, row, hrl, hrow, hdig⟩ := p
      refine ⟨_, rfl, rl, _, rfl, .inl ⟨.inl (.inl hrl), fun t nt => ?_⟩⟩
      have st := same_new (o := .tup (row.map V.int)) nt
      exact q t row _ (sb.trans (sb_same st [bx])) ((bi.same st).le (by omega)) (.inl (.inl (upd_fr nt (mok.box sb bi)))) (by omega) hdig
/-- a number, or something odd -/
def NumD (d : PyData) : Prop := (∃ i : Int, d = .int i ∧ i.natAbs ≤ 10 ^ 20) ∨ d = .none ∨ d = .bool true ∨ d = .str "1" ∨ ∃ i : Int, d = .list [.int i] ∧ i.natAbs ≤ 10 ^ 20
def sp_l_number (K : PySem.W.Frag) : Sp := fun vs H Q _ => ∃ n M bx, vs = [.ref bx] ∧ BoxI n bx H ∧ Mok M H ∧ bx ∈ M ∧ n < 600000 ∧ ∀ v d H', SB [bx] H H' → BoxI (n + 10) bx H' → Dp K (fr M H') v d → NumD d → Q v H'
theorem ok_l_number (D : FnD K mg "_law_number" s__law_number [] []) (F__law_take : Fn P w K mg base "_law_take" 1 sp_l_take) : Fn P w K mg base "_law_number" 2 (sp_l_number K) := by
  refine D.fn sc__law_number (fun _ _ _ _ _ _ us hl => match us, hl with | [_], _ => rfl) (fun vs H Q E h => ?_) (fun f cdv A outer s H vs Q E hr h => ?_)
  · obtain ⟨_, _, _, rfl, _⟩ := h
    rfl
  · obtain ⟨n, M, bx, rfl, hbx, mok, mem, hn, q⟩ := h
    refine ⟨_, (pss_cons (ps_set (i := 1) sc__law_number.nd rfl (.inl rfl) (pe_ix ix_list (pe_lst (pa_cons (c0 F__law_take hr (pa_cons (pv 0) (pa_cons pe_int pa_nil))) (pa_cons (c0 F__law_take hr (pa_cons (pv 0) (pa_cons pe_int pa_nil))) (pa_cons (c0 F__law_take hr (pa_cons (pv 0) (pa_cons (pe_op op_pow pe_int pe_int) pa_nil))) pa_nil)))) (c0 F__law_take hr (pa_cons (pv 0) (pa_cons pe_int pa_nil))) (fun _ _ => rfl))) (pss_cons (ps_if (pt_cmpR op_eq (c0 F__law_take hr (pa_cons (pv 0) (pa_cons pe_int pa_nil))) pe_int (nomark _)) (pss_one (ps_ret (pe_ix ix_list (pe_lst (pa_cons pe_non (pa_cons pe_bl (pa_cons pe_str (pa_cons (pe_lst (pa_cons (pv 1) pa_nil)) pa_nil))))) (c0 F__law_take hr (pa_cons (pv 0) (pa_cons pe_int pa_nil))) (fun _ _ => rfl)))) pss_nil) (pss_one (ps_ret (pe_ix ix_list (pe_lst (pa_cons (pv 1) (pa_cons (pe_un un_neg (pv 1)) pa_nil))) (c0 F__law_take hr (pa_cons (pv 0) (pa_cons pe_int pa_nil))) (fun _ _ => rfl)))))), ?_⟩
    refine ⟨_, rfl, n, bx, 12, rfl, hbx, by omega, by decide, by decide, fun a H1 a1 a2 sb1 b1 => ?_⟩
    refine ⟨_, rfl, n + 1, bx, 400, rfl, b1, by omega, by decide, by decide, fun b H2 c1 c2 sb2 b2 => ?_⟩
    refine ⟨_, rfl, _, _, rfl, rfl, ⟨by decide, by decide, by decide⟩, n + 2, bx, _, rfl, b2, by omega, by decide +kernel, by decide +kernel, fun c H3 e1 e2 sb3 b3 => ?_⟩
    have e2 : c < 10 ^ 20 := e2
    have sbA := (sb1.trans sb2).trans sb3
    refine ⟨by show 3 ≤ sizeLine; decide, fun l nl => ?_⟩
    have b4 := b3.same (same_new (o := .lst (([a, b, c] : List Int).map V.int)) nl)
    have nlb : l ≠ bx := fun e => by rw [e] at nl; exact b3.ok nl
    refine ⟨_, rfl, n + 3, bx, 3, rfl, b4, by omega, by decide, by decide, fun t H5 t1 t2 sb5 b5 => ?_⟩
    have h5 := sb5 _ _ (by simpa using nlb) (upd_same (H := H3) (a := l) (o := .lst (([a, b, c] : List Int).map V.int)))
    have ht : t.toNat < ([a, b, c] : List Int).length := by show t.toNat < 3; omega
    have sbB := (sbA.trans (sb_same (same_new (o := .lst (([a, b, c] : List Int).map V.int)) nl) [bx])).trans sb5
    refine ⟨l, ([a, b, c] : List Int).map V.int, t, _, rfl, rfl, .inl (.inl h5), atI_int (j := t.toNat) (by omega) ht, ?_⟩
    obtain ⟨x, hx, hx2⟩ : ∃ x, ([a, b, c] : List Int)[t.toNat] = x ∧ x.natAbs ≤ 10 ^ 20 := by
      refine ⟨_, rfl, ?_⟩
      have hm := List.getElem_mem ht
      generalize ([a, b, c] : List Int)[t.toNat] = z at *
      simp only [List.mem_cons, List.not_mem_nil, or_false] at hm
      rcases hm with rfl | rfl | rfl <;> omega
    rw [hx]
    refine ⟨_, rfl, n + 4, bx, 12, rfl, b5, by omega, by decide, by decide, fun u H6 u1 u2 sb6 b6 => ⟨rfl, _, rfl, ?_⟩⟩
    have sbC := sbB.trans sb6
    refine ite2 (fun cc => ?_) fun cc => ?_
    · have mok6 := mok.box sbC b6
      refine ⟨_, rfl, by show 1 ≤ sizeLine; decide, fun p np => ⟨by show 4 ≤ sizeLine; decide, fun p2 np2 => ?_⟩⟩
      have s7 := (same_new (o := .lst [.int x]) np).trans (same_new (o := .lst [.non, .bl true, .str "1", .ref p]) np2)
      have b7 := b6.same s7
      have mok7 := mok6.same s7
      have hp : SqL K (fr M (upd (upd H6 p (.lst [.int x])) p2 (.lst [.non, .bl true, .str "1", .ref p]))) p [.int x] := (upd_le np2).sqL (.inl (.inl (upd_fr np mok6)))
      have hp2 : SqL K (fr M (upd (upd H6 p (.lst [.int x])) p2 (.lst [.non, .bl true, .str "1", .ref p]))) p2 [.non, .bl true, .str "1", .ref p] := .inl (.inl (upd_fr np2 (mok6.same (same_new np))))
      refine ⟨_, rfl, n + 5, bx, 4, rfl, b7, by omega, by decide, by decide, fun j H8 j1 j2 sb8 b8 => ?_⟩
      have le8 := sb_le (M := M) sb8 (by simpa using mem)
      have hall : DpAll K (fr M H8) [.non, .bl true, .str "1", .ref p] [.none, .bool true, .str "1", .list [.int x]] := .cons .non (.cons (.bl _) (.cons (.str _) (.cons (.lst (le8.sqL hp) (.cons (.int _) .nil)) .nil)))
      have hj : j.toNat < 4 := by omega
      obtain ⟨v, hv⟩ : ∃ v, ([.non, .bl true, .str "1", .ref p] : List V)[j.toNat]? = some v := ⟨_, List.getElem?_eq_getElem hj⟩
      obtain ⟨d, e1, hd⟩ := dpAll_mem hall hv
      refine ⟨p2, _, j, v, rfl, rfl, (fr_le _ _).sqL (le8.sqL hp2), ?_, q v d H8 ((sbC.trans (sb_same s7 [bx])).trans sb8) (b8.le (by omega)) hd ?_⟩
      · unfold atI ixN
        rw [if_pos j1, if_pos (by show j < 4; exact j2)]
        exact hv
      · have hm := List.mem_of_getElem? e1
        simp only [List.mem_cons, List.not_mem_nil, or_false] at hm
        rcases hm with rfl | rfl | rfl | rfl
        · exact .inr (.inl rfl)
        · exact .inr (.inr (.inl rfl))
        · exact .inr (.inr (.inr (.inl rfl)))
        · exact .inr (.inr (.inr (.inr ⟨x, rfl, hx2⟩)))
    · refine ⟨_, rfl, _, rfl, x, rfl, by show 2 ≤ sizeLine; decide, fun p np => ?_⟩
      have s7 := same_new (o := .lst (([x, -x] : List Int).map V.int)) np
      have b7 := b6.same s7
      have npb : p ≠ bx := fun e => by rw [e] at np; exact b6.ok np
      refine ⟨_, rfl, n + 5, bx, 2, rfl, b7, by omega, by decide, by decide, fun j H8 j1 j2 sb8 b8 => ?_⟩
      have h8 := sb8 _ _ (by simpa using npb) (upd_same (H := H6) (a := p) (o := .lst (([x, -x] : List Int).map V.int)))
      have hj : j.toNat < ([x, -x] : List Int).length := by show j.toNat < 2; omega
      refine ⟨p, ([x, -x] : List Int).map V.int, j, _, rfl, rfl, .inl (.inl h8), atI_int (j := j.toNat) (by omega) hj, q _ _ H8 ((sbC.trans (sb_same s7 [bx])).trans sb8) (b8.le (by omega)) (.int _) (.inl ⟨_, rfl, ?_⟩)⟩
      have hm := List.getElem_mem hj
      generalize ([x, -x] : List Int)[j.toNat] = z at *
      simp only [List.mem_cons, List.not_mem_nil, or_false] at hm
      rcases hm with rfl | rfl <;> omega
end
end K75
set_option maxHeartbeats 400000
namespace K75
open PySem PySem.Spec PyProof.Rows L2
/-- a weaker reading -/
theorem pe_imp {X : Cx} {e : Expr} {t t' : TE} (he : PE X e t) (f : ∀ σ H Q, t' σ H Q → t σ H Q) : PE X e t' := ⟨fun pins s σ H Q I h => he.run pins s σ H Q I (f σ H Q h)⟩
theorem ps_imp {X : Cx} {st : Stmt} {t t' : TS} (hs : PS X st t) (f : ∀ D σ H, t' D σ H → t D σ H) : PS X st t' := ⟨fun pins s σ H D I h => hs.run pins s σ H D I (f D σ H h)⟩
/-- t + u of tuples: a tuple of both, somewhere -/
def rCatF (K : PySem.W.Frag) : R2 := fun x y H Q => ∃ M a b xs ys, x = .ref a ∧ y = .ref b ∧ Mok M H ∧ SqT K (fr M H) a xs ∧ SqT K (fr M H) b ys ∧ xs.length + ys.length ≤ sizeLine ∧ ∀ p H', Same H H' → SqT K (fr M H') p (xs ++ ys) → Q (.ref p) H'
theorem op_catF {X : Cx} : OpR X (binaryOp .Add) (rCatF X.K) := by
  intro pins s σ H x y v u Q I rx ry h
  obtain ⟨M, a, b, xs, ys, rfl, rfl, mok, ha, hb, hz, q⟩ := h
  refine op_catA pins s σ H _ _ v u Q I rx ry ⟨a, b, xs, ys, rfl, rfl, (fr_le _ _).sqT ha, (fr_le _ _).sqT hb, hz, fun e => ?_, fun _ e => ?_, fun _ _ p np => ?_⟩
  · subst e; exact q b H (Same.refl H) hb
  · subst e; exact q a H (Same.refl H) (by rw [List.append_nil]; exact ha)
  · exact q p _ (same_new np) (.inl (.inl (upd_fr np mok)))
abbrev s__law_some_row : Stmt := top 83
theorem sc__law_some_row : FnScope ["_law_box_here", "_law_state", "_law_spot", "_law_model", "_law_line", "_law_lacking", "_law_digit", "_law_odd"] ["_law_box_here", "_law_state", "_law_spot"] (defScope s__law_some_row) := ⟨rfl, rfl, rfl, by decide +kernel, rfl, by decide +kernel, by decide +kernel⟩
def dflt : Sch := ⟨2, [0, 1], []⟩
theorem dflt_good : GoodS dflt := goodS_of (by decide) ⟨by simp, by simp, by simp, by simp⟩ (List.nil_sublist _)
/-- a line of the law -/
def LineD (ld : PyData) : Prop := (∃ l, (ld = .tuple l ∨ ld = .list l) ∧ l.length ≤ 14 ∧ ∀ t ∈ l, (∃ i : Int, t = .int i ∧ i.natAbs ≤ 10) ∨ t = .bool true) ∨ ld = .none ∨ ld = .str "1"
/-- the model of a scheme's name, else 2; 0, 1 -/
def tMod (K : PySem.W.Frag) : TE := fun σ H Q => ∃ M a ds de ks ke st v d, σ[1]? = some (some (.ref a)) ∧ σ[2]? = some (some v) ∧ Mok M H ∧ LStR K false (fr M H) a ds de ks ke st ∧ (∀ p ∈ st.sch, GoodS p.2) ∧ Dp K (fr M H) v d ∧ ∀ m sc H1, Same H H1 → ModelAt K (fr M H1) m sc → GoodS sc → Q (.ref m) H1
theorem dflt_at {K : PySem.W.Frag} {M : List Addr} {H : Hp} {Q : VK} (mok : Mok M H) (q : ∀ m sc H1, Same H H1 → ModelAt K (fr M H1) m sc → GoodS sc → Q (.ref m) H1) : ∀ l1, H l1 = none → ∀ l2, (upd H l1 (.lst [.int 0, .int 1])) l2 = none → ∀ l3, (upd (upd H l1 (.lst [.int 0, .int 1])) l2 (.lst [])) l3 = none → Q (.ref l3) (upd (upd (upd H l1 (.lst [.int 0, .int 1])) l2 (.lst [])) l3 (.lst [.int 2, .ref l1, .ref l2])) := fun l1 n1 l2 n2 l3 n3 => by
  have s1 := same_new (o := .lst [.int 0, .int 1]) n1
  have s2 := s1.trans (same_new (o := .lst []) n2)
  refine q l3 dflt _ (s2.trans (same_new n3)) ⟨l1, l2, .inl (.inl (upd_fr n3 (mok.same s2))), ?_, ?_⟩ dflt_good
  · exact (upd_le n3).sqL ((upd_le n2).sqL (.inl (.inl (upd_fr n1 mok))))
  · exact (upd_le n3).dp (.lst (.inl (.inl (upd_fr n2 (mok.same s1)))) .nil)
theorem lack_ne {sc : Sch} (g : GoodS sc) : (pool0.filter fun d => !decide (d ∈ sc.digits)) ≠ [] := fun h => by
  have hall : ∀ x ∈ pool0, x ∈ sc.digits := fun x hx => by
    by_cases c : x ∈ sc.digits
    · exact c
    · have : x ∈ pool0.filter fun d => !decide (d ∈ sc.digits) := List.mem_filter.mpr ⟨hx, by simp [c]⟩
      rw [h] at this
      cases this
  have h1 := nodup_le pool0 sc.digits (by decide) hall
  have h2 : pool0.length = 19 := by decide
  have h3 : sc.digits.length ≤ 6 := g.dig.hi
  omega
theorem pool0_small : ∀ x ∈ pool0, x.natAbs ≤ 9 := by decide
section
variable {P : Program} {w : World} {K : PySem.W.Frag} {mg : Str → Option Value} {base : Heap} (B : Blt mg)
include B
def sp_l_some_row (K : PySem.W.Frag) : Sp := fun vs H Q _ => ∃ n M bx a ds de ks ke st v d, vs = [.ref bx, .ref a, v] ∧ BoxI n bx H ∧ Mok M H ∧ bx ∈ M ∧ n < 500000 ∧ LStR K false (fr M H) a ds de ks ke st ∧ (∀ p ∈ st.sch, GoodS p.2) ∧ Dp K (fr M H) v d ∧ ∀ v' ld H', SB [bx] H H' → BoxI (n + 10) bx H' → Dp K (fr M H') v' ld → LineD ld → Q v' H'
theorem ok_l_some_row (D : FnD K mg "_law_some_row" s__law_some_row [] []) (F__law_take : Fn P w K mg base "_law_take" 1 sp_l_take) (F__law_row : Fn P w K mg base "_law_row" 2 (sp_l_row K)) : Fn P w K mg base "_law_some_row" 3 (sp_l_some_row K) := by
  refine D.fn sc__law_some_row (fun _ _ _ _ _ _ us hl => match us, hl with | [_, _, _], _ => rfl) (fun vs H Q E h => ?_) (fun f cdv A outer s H vs Q E hr h => ?_)
  · obtain ⟨_, _, _, _, _, _, _, _, _, _, _, rfl, _⟩ := h
    rfl
  · obtain ⟨n, M, bx, a, ds, de, ks, ke, st, v, d, rfl, hbx, mok, mem, hn, L, gs, hd, q⟩ := h
    refine ⟨_, (pss_cons (ps_set (i := 3) sc__law_some_row.nd rfl (.inr rfl) (pe_imp (t' := tMod K) (pe_ifExp (pt_val (pe_callB call_isi (by rfl) B.isinstance (by decide +kernel) (pa_cons (pv 2) (pa_cons (pe_bltn (v := .ty "str") (by rfl) B.str (by decide +kernel) rfl) pa_nil)))) (pe_dget2 (hu_of hr) (pe_dget (hu_of hr) (pv 1) pe_str (fun _ _ => rfl)) (pv 2) (pe_lst (pa_cons pe_int (pa_cons (pe_lst (pa_cons pe_int (pa_cons pe_int pa_nil))) (pa_cons (pe_lst pa_nil) pa_nil)))) ⟨by rfl, by rfl, by rfl, by rfl⟩) (pe_lst (pa_cons pe_int (pa_cons (pe_lst (pa_cons pe_int (pa_cons pe_int pa_nil))) (pa_cons (pe_lst pa_nil) pa_nil))))) ?law_model)) (pss_cons (ps_set (i := 4) sc__law_some_row.nd rfl (.inl rfl) (c0 F__law_row hr (pa_cons (pv 0) (pa_cons (pv 3) (pa_cons (c0 F__law_take hr (pa_cons (pv 0) (pa_cons pe_int pa_nil))) pa_nil))))) (pss_cons (ps_setLc (i := 5) rfl sc__law_some_row.nd rfl rfl (sw_true rfl rfl rfl (by decide +kernel)) (own := [("_law_digit", 6)]) (g := gName 6) (tt := _) (pi_range2 (by rfl) B.range (pa_cons (pe_un un_neg pe_int) (pa_cons pe_int pa_nil))) (blkOk_by (N := ["_law_box_here", "_law_state", "_law_spot", "_law_model", "_law_line", "_law_lacking", "_law_digit", "_law_odd"]) (sc := defScope s__law_some_row) (by decide +kernel)) (fun _ _ _ _ _ => (pg_name (i := 6) sc__law_some_row.nd rfl (.inl rfl))) (fun _ _ _ _ _ => (pts_one (pt_cmpR (r := rIn K true) op_notIn_seq (pv 6) (pe_ix (r := rIxL K) ix_list (pv 3) pe_int (fun _ _ => rfl)) (by rfl)))) (fun _ _ _ _ _ => (pv 6))) (pss_cons (ps_set (i := 7) sc__law_some_row.nd rfl (.inl rfl) (pe_lst (pa_cons (pe_callTy call_list_of (by rfl) B.list (by decide +kernel) (pa_cons (pv 4) pa_nil)) (pa_cons (pe_op op_catF (pv 4) (pe_tup (pa_cons pe_int pa_nil))) (pa_cons (pe_op op_catF (pv 4) (pe_tup (pa_cons pe_bl pa_nil))) (pa_cons pe_non (pa_cons pe_str (pa_cons (pe_op op_catF (pv 4) (pv 4)) (pa_cons (pe_revT (pv 4)) (pa_cons (pe_op op_catF (pv 4) (pe_tup (pa_cons (pe_ix ix_list (pv 5) pe_int (fun _ _ => rfl)) pa_nil))) pa_nil)))))))))) (pss_one (ps_ret (pe_ifExp (pt_cmpR op_eq (c0 F__law_take hr (pa_cons (pv 0) (pa_cons pe_int pa_nil))) pe_int (nomark _)) (pe_ix ix_list (pv 7) (c0 F__law_take hr (pa_cons (pv 0) (pa_cons pe_int pa_nil))) (fun _ _ => rfl)) (pv 4)))))))), ?_⟩
    case law_model =>
      rintro σ0 H0 Q0 ⟨M, a, ds, de, ks, ke, st, v, d, e1, e2, mok, L, gs, hd, q⟩
      have LH := L.le (fr_le M H0)
      refine ⟨v, e2, v, .ty "str", _, _, _, rfl, .ty _, tyX_of ((fr_le _ _).dp hd), kit_str d, _, rfl, ?_⟩
      cases hd with
      | str x =>
        refine ⟨_, e1, a, _, rfl, LH.gS, ds, rfl, .inl ⟨ks, LH.rs.rd⟩, _, e2, by show 2 ≤ sizeLine; decide, fun l1 n1 => ⟨by show 0 ≤ sizeLine; decide, fun l2 n2 => ⟨by show 3 ≤ sizeLine; decide, fun l3 n3 => ?_⟩⟩⟩
        have s3 := ((same_new (o := .lst [.int 0, .int 1]) n1).trans (same_new (o := .lst []) n2)).trans (same_new (o := .lst [.int 2, .ref l1, .ref l2]) n3)
        have L3 := LH.le (Le.of s3)
        refine ⟨valV ks (.inr x), .inl ⟨ks, .inr x, L3.rs.rd, rfl, rfl⟩, ?_⟩
        cases e : look st.sch x with
        | none =>
          rw [L.as.none x e]
          exact dflt_at mok q l1 n1 l2 n2 l3 n3
        | some sc =>
          obtain ⟨v2, ev, m, rfl, hm⟩ := L.as.some x e
          rw [ev]
          exact q m sc _ s3 (hm.le (same_le s3)) (gs _ (look_mem e))
      | _ => exact ⟨by show 2 ≤ sizeLine; decide, fun l1 n1 => ⟨by show 0 ≤ sizeLine; decide, fun l2 n2 => ⟨by show 3 ≤ sizeLine; decide, fun l3 n3 => dflt_at mok q l1 n1 l2 n2 l3 n3⟩⟩⟩
    refine ⟨M, a, ds, de, ks, ke, st, v, d, rfl, rfl, mok, L, gs, hd, fun m sc H1 s1 hm g => ?_⟩
    have b1 := hbx.same s1
    have mok1 := mok.same s1
    refine ⟨_, rfl, _, rfl, _, rfl, n, bx, 7, rfl, b1, by omega, by decide, by decide, fun k H2 k1 k2 sb2 b2 => ?_⟩
    have sbH2 := (sb_same s1 [bx]).trans sb2
    have mok2 := mok.box sbH2 b2
    have le12 := sb_le (M := M) sb2 (by simpa using mem)
    refine ⟨n + 1, M, bx, m, sc, k, rfl, b2, mok2, mem, by omega, hm.le le12, g, k1, by omega, fun t row H3 sb3 b3 ht hrl hdig => ?_⟩
    have sbH3 := sbH2.trans sb3
    have mok3 := mok.box sbH3 b3
    have hm3 := (hm.le le12).le (sb_le (M := M) sb3 (by simpa using mem))
    obtain ⟨ld, lb, m1, m2, m3⟩ := id (hm3.le (fr_le _ _))
    have hz6 : sc.digits.length ≤ 6 := g.dig.hi
    refine ⟨9, rfl, -9, 10, rfl, ⟨by decide, by decide, by decide, by decide⟩, fun Dl nD => lc_range (LcI [] M Dl H3 (fun i acc _ => acc = ((((List.range i).map fun j : Nat => (-9 : Int) + (j : Int)).filter fun d => !decide (d ∈ sc.digits)).map V.int))) (LcI.start mok3 (by simp) nD rfl)
      (fun i H5 hi p => ?_) (fun H5 p => ?_)⟩
    · have s5 := p.stp.same
      have rf := Stp.refl p.mok (A := []) (by simp)
      refine ⟨rfl, _, rfl, _, rfl, m, _, 1, _, rfl, rfl, (Le.of s5).sqL m1, rfl, ld, _, rfl, .inl ((Le.of s5).sqL m2), rfl, flat_ints _, _, rfl, ?_⟩
      show if (!inV (.int (-9 + (i : Int))) (sc.digits.map V.int)) = true then _ else _
      rw [inV_ints]
      have hi : i < 19 := hi
      refine ite2 (fun c => ?_) fun c => ?_
      · exact ⟨_, rfl, p.step (by simp) nD mok3 rf (by rw [sizeLine_eq]; omega) (fun acc _ r => by
          rw [r, List.range_succ, List.map_append, List.filter_append, List.map_append, List.map_singleton, List.filter_cons_of_pos (p := fun d => !decide (d ∈ sc.digits)) c]; rfl)⟩
      · exact p.skip (by simp) nD mok3 rf (fun acc _ r => by
          rw [r, List.range_succ, List.map_append, List.filter_append, List.map_append, List.map_singleton, List.filter_cons_of_neg (p := fun d => !decide (d ∈ sc.digits)) c]; simp)
    · obtain ⟨acc, hA, _, r⟩ := p.ex
      subst r
      have s5 := p.stp.same
      have hA : H5 Dl = some (.lst ((pool0.filter fun d => !decide (d ∈ sc.digits)).map V.int)) := hA
      obtain ⟨x0, xs0, hx0⟩ := List.exists_cons_of_ne_nil (lack_ne g)
      have hx9 : x0.natAbs ≤ 9 := pool0_small x0 (List.mem_filter.mp (by rw [hx0]; exact List.mem_cons_self : x0 ∈ pool0.filter fun d => !decide (d ∈ sc.digits))).1
      rw [hx0] at hA
      have mok5 := mok3.same s5
      have b5 := b3.same s5
      have ht5 := (same_le (M := M) s5).sqT ht
      -- list(line)
      refine ⟨_, rfl, t, _, rfl, .inr ((fr_le _ _).sqT ht5), fun l1 n1 => ?_⟩
      have s6 := same_new (o := .lst (row.map V.int)) n1
      have mok6 := mok5.same s6
      have h61 : SqL K (fr M (upd H5 l1 (.lst (row.map V.int)))) l1 (row.map V.int) := .inl (.inl (upd_fr n1 mok5))
      have ht6 := (same_le (M := M) s6).sqT ht5
      have hA6 := s6 _ _ hA
      have s56 := s5.trans s6
      generalize upd H5 l1 (.lst (row.map V.int)) = H6 at *
      -- line + (10,)
      refine ⟨_, rfl, by show 1 ≤ sizeLine; decide, fun t1 nt1 => ?_⟩
      have s7 := same_new (o := .tup [.int 10]) nt1
      refine ⟨M, t, t1, row.map V.int, ([10] : List Int).map V.int, rfl, rfl, mok6.same s7, (same_le s7).sqT ht6, .inl (.inl (upd_fr nt1 mok6)), by rw [List.length_map, sizeLine_eq]; show row.length + 1 ≤ _; omega, fun u1 H8 s8 hu1 => ?_⟩
      have s68 := s7.trans s8
      have mok8 := mok6.same s68
      -- line + (True,)
      refine ⟨_, rfl, by show 1 ≤ sizeLine; decide, fun t2 nt2 => ?_⟩
      have s9 := same_new (o := .tup [.bl true]) nt2
      refine ⟨M, t, t2, row.map V.int, [.bl true], rfl, rfl, mok8.same s9, (same_le (s68.trans s9)).sqT ht6, .inl (.inl (upd_fr nt2 mok8)), by rw [List.length_map, sizeLine_eq]; show row.length + 1 ≤ _; omega, fun u2 H10 s10 hu2 => ?_⟩
      have s810 := s9.trans s10
      have mok10 := mok8.same s810
      have ht10 := (same_le (M := M) (s68.trans s810)).sqT ht6
      -- line + line
      refine ⟨_, rfl, _, rfl, M, t, t, row.map V.int, row.map V.int, rfl, rfl, mok10, ht10, ht10, by rw [List.length_map, sizeLine_eq]; omega, fun u3 H11 s11 hu3 => ?_⟩
      have mok11 := mok10.same s11
      have ht11 := (same_le (M := M) s11).sqT ht10
      -- line[::-1]
      refine ⟨_, rfl, t, _, rfl, (fr_le _ _).sqT ht11, fun u4 nu4 => ?_⟩
      have s12 := same_new (o := .tup (row.map V.int).reverse) nu4
      have mok12 := mok11.same s12
      have hu4 : SqT K (fr M (upd H11 u4 (.tup (row.map V.int).reverse))) u4 (row.map V.int).reverse := .inl (.inl (upd_fr nu4 mok11))
      have s612 := ((s68.trans s810).trans s11).trans s12
      have hA12 := s612 _ _ hA6
      have ht12 := (same_le (M := M) s612).sqT ht6
      have hu3' := (same_le (M := M) s12).sqT hu3
      have hu2' := (same_le (M := M) (s11.trans s12)).sqT hu2
      have hu1' := (same_le (M := M) ((s810.trans s11).trans s12)).sqT hu1
      have h61' := (same_le (M := M) s612).sqL h61
      have b12 := (b5.same s6).same s612
      have sb12 : SB [bx] H (upd H11 u4 (.tup (row.map V.int).reverse)) := (sbH3.trans (sb_same s56 [bx])).trans (sb_same s612 [bx])
      generalize upd H11 u4 (.tup (row.map V.int).reverse) = H12 at *
      -- line + (lacking[0],)
      refine ⟨_, rfl, _, rfl, Dl, _, 0, .int x0, rfl, rfl, .inl (.inl hA12), L2.atI_nat (j := 0) rfl, by show 1 ≤ sizeLine; decide, fun t5 nt5 => ?_⟩
      have s13 := same_new (o := .tup [.int x0]) nt5
      refine ⟨M, t, t5, row.map V.int, ([x0] : List Int).map V.int, rfl, rfl, mok12.same s13, (same_le s13).sqT ht12, .inl (.inl (upd_fr nt5 mok12)), by rw [List.length_map, sizeLine_eq]; show row.length + 1 ≤ _; omega, fun u5 H14 s14 hu5 => ?_⟩
      have s1214 := s13.trans s14
      have le14 := same_le (M := M) s1214
      refine ⟨by show 8 ≤ sizeLine; decide, fun lo nlo => ?_⟩
      have s15 := same_new (o := .lst [.ref l1, .ref u1, .ref u2, .non, .str "1", .ref u3, .ref u4, .ref u5]) nlo
      have mok14 := mok12.same s1214
      have le15 := same_le (M := M) (s1214.trans s15)
      have e15 := same_le (M := M) s15
      have hlo : SqL K (fr M (upd H14 lo (.lst [.ref l1, .ref u1, .ref u2, .non, .str "1", .ref u3, .ref u4, .ref u5]))) lo [.ref l1, .ref u1, .ref u2, .non, .str "1", .ref u3, .ref u4, .ref u5] := .inl (.inl (upd_fr nlo mok14))
      have iD : ∀ F, DpAll K F (row.map V.int) (row.map PyData.int) := fun F => dp_ints row
      have iX : ∀ F (x : Int), DpAll K F ((row.map V.int) ++ ([x] : List Int).map V.int) ((row ++ [x]).map PyData.int) := fun F x => by
        rw [← List.map_append]; exact dp_ints _
      have hall : DpAll K (fr M (upd H14 lo (.lst [.ref l1, .ref u1, .ref u2, .non, .str "1", .ref u3, .ref u4, .ref u5]))) [.ref l1, .ref u1, .ref u2, .non, .str "1", .ref u3, .ref u4, .ref u5]
          [.list (row.map PyData.int), .tuple ((row ++ [10]).map PyData.int), .tuple (row.map PyData.int ++ [.bool true]), .none, .str "1", .tuple (row.map PyData.int ++ row.map PyData.int), .tuple (row.reverse.map PyData.int), .tuple ((row ++ [x0]).map PyData.int)] :=
        .cons (.lst (le15.sqL h61') (iD _)) (.cons (.tup (le15.sqT hu1') (iX _ 10)) (.cons (.tup (le15.sqT hu2') (dpAll_app (iD _) (.cons (.bl _) .nil))) (.cons .non (.cons (.str _) (.cons (.tup (le15.sqT hu3') (dpAll_app (iD _) (iD _))) (.cons (.tup (le15.sqT hu4) (by rw [← List.map_reverse]; exact dp_ints _)) (.cons (.tup (e15.sqT hu5) (iX _ x0)) .nil)))))))
      have smD : ∀ x ∈ row, x.natAbs ≤ 10 := fun x hx => by have := g.dig.sm x (hdig x hx); omega
      have smA : ∀ r : List Int, (∀ x ∈ r, x.natAbs ≤ 10) → ∀ t ∈ r.map PyData.int, (∃ i : Int, t = .int i ∧ i.natAbs ≤ 10) ∨ t = .bool true := fun r h t ht => by
        obtain ⟨x, hx, rfl⟩ := List.mem_map.mp ht
        exact .inl ⟨x, rfl, h x hx⟩
      have smX : ∀ y : Int, y.natAbs ≤ 10 → ∀ x ∈ row ++ [y], x.natAbs ≤ 10 := fun y hy x hx => by
        rcases List.mem_append.mp hx with hx | hx
        · exact smD x hx
        · rw [List.mem_singleton] at hx; rw [hx]; exact hy
      have lines : ∀ z ∈ ([.list (row.map PyData.int), .tuple ((row ++ [10]).map PyData.int), .tuple (row.map PyData.int ++ [.bool true]), .none, .str "1", .tuple (row.map PyData.int ++ row.map PyData.int), .tuple (row.reverse.map PyData.int), .tuple ((row ++ [x0]).map PyData.int)] : List PyData), LineD z := fun z hz => by
        simp only [List.mem_cons, List.not_mem_nil, or_false] at hz
        rcases hz with rfl | rfl | rfl | rfl | rfl | rfl | rfl | rfl
        · exact .inl ⟨_, .inr rfl, by rw [List.length_map]; omega, smA row smD⟩
        · exact .inl ⟨_, .inl rfl, by rw [List.length_map, List.length_append, List.length_singleton]; omega, smA _ (smX 10 (by decide))⟩
        · refine .inl ⟨_, .inl rfl, by rw [List.length_append, List.length_map, List.length_singleton]; omega, fun t ht => ?_⟩
          rcases List.mem_append.mp ht with ht | ht
          · exact smA row smD t ht
          · rw [List.mem_singleton] at ht; exact .inr ht
        · exact .inr (.inl rfl)
        · exact .inr (.inr rfl)
        · refine .inl ⟨_, .inl rfl, by rw [List.length_append, List.length_map]; omega, fun t ht => ?_⟩
          rcases List.mem_append.mp ht with ht | ht <;> exact smA row smD t ht
        · exact .inl ⟨_, .inl rfl, by rw [List.length_map, List.length_reverse]; omega, smA _ fun x hx => smD x (List.mem_reverse.mp hx)⟩
        · exact .inl ⟨_, .inl rfl, by rw [List.length_map, List.length_append, List.length_singleton]; omega, smA _ (smX x0 (by omega))⟩
      have ht15 := le15.sqT ht12
      have b15 := (b12.same s1214).same s15
      have sb15 := (sb12.trans (sb_same s1214 [bx])).trans (sb_same s15 [bx])
      generalize upd H14 lo (.lst [.ref l1, .ref u1, .ref u2, .non, .str "1", .ref u3, .ref u4, .ref u5]) = H15 at *
      refine ⟨_, rfl, n + 7, bx, 5, rfl, b15, by omega, by decide, by decide, fun j H16 j1 j2 sb16 b16 => ⟨rfl, _, rfl, ?_⟩⟩
      have le16 := sb_le (M := M) sb16 (by simpa using mem)
      refine ite2 (fun c => ?_) fun c => ?_
      · refine ⟨_, rfl, _, rfl, n + 8, bx, 8, rfl, b16, by omega, by decide, by decide, fun i H17 i1 i2 sb17 b17 => ?_⟩
        have le17 := le16.trans (sb_le (M := M) sb17 (by simpa using mem))
        have hi : i.toNat < 8 := by omega
        obtain ⟨v9, hv9⟩ : ∃ v9, ([.ref l1, .ref u1, .ref u2, .non, .str "1", .ref u3, .ref u4, .ref u5] : List V)[i.toNat]? = some v9 := ⟨_, List.getElem?_eq_getElem hi⟩
        obtain ⟨d9, e9, hd9⟩ := dpAll_mem (le17.dpAll hall) hv9
        refine ⟨lo, _, i, v9, rfl, rfl, (fr_le _ _).sqL (le17.sqL hlo), ?_, q v9 d9 H17 ((sb15.trans sb16).trans sb17) (b17.le (by omega)) hd9 (lines _ (List.mem_of_getElem? e9))⟩
        unfold atI ixN
        rw [if_pos i1, if_pos (by show i < 8; exact i2)]
        exact hv9
      · exact ⟨_, rfl, q (.ref t) (.tuple (row.map PyData.int)) H16 (sb15.trans sb16) (b16.le (by omega)) (.tup (le16.sqT ht15) (dp_ints _)) (.inl ⟨_, .inl rfl, by rw [List.length_map]; omega, smA row smD⟩)⟩
end
end K75
set_option maxHeartbeats 400000
namespace K75
open PySem PySem.Spec PyProof.Rows L2
abbrev s__law_deed : Stmt := top 84
theorem sc__law_deed : FnScope ["_law_box_here", "_law_state", "_law_way", "_law_label", "_law_spot", "_law_odd", "_law_parts", "_law_k"] ["_law_box_here", "_law_state"] (defScope s__law_deed) := ⟨rfl, rfl, rfl, by decide +kernel, rfl, by decide +kernel, by decide +kernel⟩
/-- an item of terms -/
def ItemD (x : PyData) : Prop := (∃ (i : Int) (d : PyData), (x = .tuple [.int i, d] ∨ x = .list [.int i, d]) ∧ i.natAbs ≤ 3 ∧ AnyN d) ∨ x = .tuple [.int 1]
def PartsD (t : PyData) : Prop := t = .none ∨ t = .int 3 ∨ ∃ l, t = .list l ∧ l.length ≤ 6 ∧ ∀ x ∈ l, ItemD x
def oddS : List PyData := [.none, .int 3, .str "base 2; digits 0 1", .bool true]
/-- what deeds there are -/
def DeedD : Deed → Prop
  | .keep d mo d2 => AnyN d ∧ (mo = none → d2 ∈ oddS)
  | .put d w n => AnyN d ∧ AnyN w ∧ NumD n
  | .lay d w l => AnyN d ∧ AnyN w ∧ LineD l
  | .move d w => AnyN d ∧ AnyN w
  | .reckon d w t => AnyN d ∧ AnyN w ∧ PartsD t
  | .drop d => AnyN d
  | .undo => True
theorem set_self {σ : L2.St} {i : Nat} {x : Option V} : σ[i]? = some x → σ.set i x = σ := fun h => by
  refine List.ext_getElem? fun j => ?_
  rw [List.getElem?_set]
  by_cases c : i = j
  · subst c
    rw [if_pos rfl, if_pos (List.getElem?_eq_some_iff.mp h).1, h]
  · rw [if_neg c]
/-- a name of the state's in place of one, or not -/
def tSpot (K : PySem.W.Frag) (i : Nat) : TS := fun De σ H => ∃ n k M bx a ds de ks ke st v d, σ[0]? = some (some (.ref bx)) ∧ σ[1]? = some (some (.ref a)) ∧ σ[i]? = some (some v) ∧ BoxI n bx H ∧ Mok M H ∧ bx ∈ M ∧ n < 500000 ∧ LStR K true (fr M H) a ds de ks ke st ∧ GoodI k st ∧ Dp K (fr M H) v d ∧ AnyN d ∧
  ∀ v' d' H', SB [bx] H H' → BoxI (n + 2) bx H' → Dp K (fr M H') v' d' → AnyN d' → De.nx (σ.set i (some v')) H'
theorem cut_one {x : V} {xs : List V} : cutV (x :: xs) none (some 1) = [x] := by
  unfold cutV
  have h1 : HT.sIx (x :: xs).length 0 none = 0 := rfl
  have h2 : HT.sIx (x :: xs).length (x :: xs).length (some 1) = 1 := by
    unfold HT.sIx
    simp only []
    rw [if_neg (by decide), List.length_cons]
    omega
  rw [h1, h2]
  simp
theorem none_sb {A : List Addr} {H H' : Hp} {a : Addr} (s : SB A H H') (n : H' a = none) (h : ¬ a ∈ A := by simpa) : H a = none := by
  cases e : H a with
  | none => rfl
  | some o => rw [s a o h e] at n; cases n
section
variable {P : Program} {w : World} {K : PySem.W.Frag} {mg : Str → Option Value} {base : Heap} (B : Blt mg) {CS : Addr}
include B
def sp_l_deed (K : PySem.W.Frag) : Sp := fun vs H Q _ => ∃ k n M bx a ds de ks ke st, vs = [.ref bx, .ref a] ∧ BoxI n bx H ∧ Mok M H ∧ bx ∈ M ∧ n < 300000 ∧ LStR K true (fr M H) a ds de ks ke st ∧ GoodI k st ∧ ∀ dl dd H', SB [bx] H H' → BoxI (n + 200) bx H' → DeedR K (fr M H') dl dd → DeedD dd → Q (.ref dl) H'
theorem ok_l_deed (D : FnD K mg "_law_deed" s__law_deed [] []) (F__law_take : Fn P w K mg base "_law_take" 1 sp_l_take) (F__law_any_name : Fn P w K mg base "_law_any_name" 3 (sp_l_any_name K)) (F__law_scheme : Fn P w K mg base "_law_scheme" 3 (sp_l_scheme K))
    (F__law_number : Fn P w K mg base "_law_number" 2 (sp_l_number K)) (F__law_some_row : Fn P w K mg base "_law_some_row" 3 (sp_l_some_row K)) : Fn P w K mg base "_law_deed" 4 (sp_l_deed K) := by
  refine D.fn sc__law_deed (fun _ _ _ _ _ _ us hl => match us, hl with | [_, _], _ => rfl) (fun vs H Q E h => ?_) (fun f cdv A outer s H vs Q E hr h => ?_)
  · obtain ⟨_, _, _, _, _, _, _, _, _, _, rfl, _⟩ := h
    rfl
  · obtain ⟨k, n, M, bx, a, ds, de, ks, ke, st, rfl, hbx, mok, mem, hn, L, gi, q⟩ := h
    refine ⟨_, (pss_cons (ps_asg (pe_tup (pa_cons (c0 F__law_take hr (pa_cons (pv 0) (pa_cons pe_int pa_nil))) (pa_cons (c0 F__law_any_name hr (pa_cons (pv 0) pa_nil)) (pa_cons (c0 F__law_any_name hr (pa_cons (pv 0) pa_nil)) pa_nil)))) (pg_tup rfl (pgs_cons (pg_name (i := 2) sc__law_deed.nd rfl (.inl rfl)) (pgs_cons (pg_name (i := 3) sc__law_deed.nd rfl (.inr rfl)) (pgs_cons (pg_name (i := 4) sc__law_deed.nd rfl (.inl rfl)) pgs_nil))))) (pss_cons (ps_imp (t' := tSpot K 4) (ps_if (PW.pt (pw_and (pt_cmpR (op_ne0 hr) (pe_dget (hu_of hr) (pv 1) pe_str (fun _ _ => rfl)) pe_dnewK (nomark _)) (pw_and1 (pt_cmpR op_gt (c0 F__law_take hr (pa_cons (pv 0) (pa_cons pe_int pa_nil))) pe_int (nomark _))))) (pss_one (ps_set (i := 4) sc__law_deed.nd rfl (.inl rfl) (pe_ix ix_list (pe_callB (call_sortedD rfl) (by rfl) B.sorted (by decide +kernel) (pa_cons (pe_dget (hu_of hr) (pv 1) pe_str (fun _ _ => rfl)) pa_nil)) (c0 F__law_take hr (pa_cons (pv 0) (pa_cons (pe_callB call_lenD (by rfl) B.len (by decide +kernel) (pa_cons (pe_dget (hu_of hr) (pv 1) pe_str (fun _ _ => rfl)) pa_nil)) pa_nil))) (fun _ _ => rfl)))) pss_nil) ?if0) (pss_cons (ps_if (pt_cmpR op_lt (pv 2) pe_int (nomark _)) (pss_cons (ps_set (i := 5) sc__law_deed.nd rfl (.inl rfl) (pe_ix ix_list (pe_lst (pa_cons pe_non (pa_cons pe_int (pa_cons pe_str (pa_cons pe_bl pa_nil))))) (c0 F__law_take hr (pa_cons (pv 0) (pa_cons pe_int pa_nil))) (fun _ _ => rfl))) (pss_one (ps_ret (pe_lst (pa_cons pe_str (pa_cons (pv 3) (pa_cons (pe_ifExp (pt_cmpR op_eq (c0 F__law_take hr (pa_cons (pv 0) (pa_cons pe_int pa_nil))) pe_int (nomark _)) (pv 5) (c0 F__law_scheme hr (pa_cons (pv 0) pa_nil))) pa_nil))))))) pss_nil) (pss_cons (ps_if (pt_cmpR op_lt (pv 2) pe_int (nomark _)) (pss_one (ps_ret (pe_lst (pa_cons pe_str (pa_cons (pv 3) (pa_cons (pv 4) (pa_cons (c0 F__law_number hr (pa_cons (pv 0) pa_nil)) pa_nil))))))) pss_nil) (pss_cons (ps_if (pt_cmpR op_lt (pv 2) pe_int (nomark _)) (pss_one (ps_ret (pe_lst (pa_cons pe_str (pa_cons (pv 3) (pa_cons (pv 4) (pa_cons (c0 F__law_some_row hr (pa_cons (pv 0) (pa_cons (pv 1) (pa_cons (pv 4) pa_nil)))) pa_nil))))))) pss_nil) (pss_cons (ps_imp (t' := tSpot K 3) (ps_if (PW.pt (pw_and (pt_cmpR (op_ne0 hr) (pe_dget (hu_of hr) (pv 1) pe_str (fun _ _ => rfl)) pe_dnewK (nomark _)) (pw_and1 (pt_cmpR op_gt (c0 F__law_take hr (pa_cons (pv 0) (pa_cons pe_int pa_nil))) pe_int (nomark _))))) (pss_one (ps_set (i := 3) sc__law_deed.nd rfl (.inr rfl) (pe_ix ix_list (pe_callB (call_sortedD rfl) (by rfl) B.sorted (by decide +kernel) (pa_cons (pe_dget (hu_of hr) (pv 1) pe_str (fun _ _ => rfl)) pa_nil)) (c0 F__law_take hr (pa_cons (pv 0) (pa_cons (pe_callB call_lenD (by rfl) B.len (by decide +kernel) (pa_cons (pe_dget (hu_of hr) (pv 1) pe_str (fun _ _ => rfl)) pa_nil)) pa_nil))) (fun _ _ => rfl)))) pss_nil) ?if4) (pss_cons (ps_if (pt_cmpR op_lt (pv 2) pe_int (nomark _)) (pss_one (ps_ret (pe_lst (pa_cons pe_str (pa_cons (pv 3) (pa_cons (pv 4) pa_nil)))))) pss_nil) (pss_cons (ps_if (pt_cmpR op_lt (pv 2) pe_int (nomark _)) (pss_cons (ps_setLc (i := 6) rfl sc__law_deed.nd rfl rfl (sw_true rfl rfl rfl (by decide +kernel)) (own := [("_law_k", 7)]) (g := gName 7) (tt := tYes) (pi_range1 (by rfl) B.range (pa_cons (pe_op op_add pe_int (c0 F__law_take hr (pa_cons (pv 0) (pa_cons pe_int pa_nil)))) pa_nil)) (blkOk_by (N := ["_law_box_here", "_law_state", "_law_way", "_law_label", "_law_spot", "_law_odd", "_law_parts", "_law_k"]) (sc := defScope s__law_deed) (by decide +kernel)) (fun _ _ _ _ _ => (pg_name (i := 7) sc__law_deed.nd rfl (.inl rfl))) (fun _ _ _ _ _ => pts_nil) (fun _ _ _ _ _ => (pe_tup (pa_cons (pe_ix (r := rIxL K) ix_list (pe_lst (pa_cons pe_int (pa_cons (pe_un un_neg pe_int) (pa_cons pe_int (pa_cons (pe_un un_neg pe_int) (pa_cons pe_int (pa_cons pe_int (pa_cons (pe_un un_neg pe_int) pa_nil)))))))) (pe_op op_fdivN (c0 F__law_take hr (pa_cons (pv 0) (pa_cons pe_int pa_nil))) pe_int) (fun _ _ => rfl)) (pa_cons (pv 3) pa_nil))))) (pss_cons (ps_set (i := 6) sc__law_deed.nd rfl (.inl rfl) (pe_op op_cat (pe_slice sl_list (pv 6) po_none (po_some pe_int)) (pe_op op_rep (pe_lst (pa_cons (pe_tup (pa_cons pe_int (pa_cons (c0 F__law_any_name hr (pa_cons (pv 0) pa_nil)) pa_nil))) pa_nil)) (pe_callTy call_int1 (by rfl) B.int (by decide +kernel) (pa_cons (pe_cmpR op_eq (c0 F__law_take hr (pa_cons (pv 0) (pa_cons pe_int pa_nil))) pe_int (nomark _)) pa_nil))))) (pss_cons (ps_set (i := 5) sc__law_deed.nd rfl (.inl rfl) (pe_ix ix_list (pe_lst (pa_cons (pe_lst pa_nil) (pa_cons pe_non (pa_cons (pe_op op_cat (pe_op op_cat (pv 6) (pv 6)) (pv 6)) (pa_cons (pe_lst (pa_cons (pe_callTy call_list_of (by rfl) B.list (by decide +kernel) (pa_cons (pe_ix ix_list (pv 6) pe_int (fun _ _ => rfl)) pa_nil)) pa_nil)) (pa_cons (pe_lst (pa_cons (pe_tup (pa_cons pe_int pa_nil)) pa_nil)) (pa_cons pe_int pa_nil))))))) (c0 F__law_take hr (pa_cons (pv 0) (pa_cons pe_int pa_nil))) (fun _ _ => rfl))) (pss_one (ps_ret (pe_lst (pa_cons pe_str (pa_cons (c0 F__law_any_name hr (pa_cons (pv 0) pa_nil)) (pa_cons (pv 4) (pa_cons (pe_ifExp (pt_cmpR op_eq (c0 F__law_take hr (pa_cons (pv 0) (pa_cons pe_int pa_nil))) pe_int (nomark _)) (pv 5) (pv 6)) pa_nil)))))))))) pss_nil) (pss_one (ps_ret (pe_ifExp (pt_cmpR op_eq (pv 2) pe_int (nomark _)) (pe_lst (pa_cons pe_str (pa_cons (pv 3) pa_nil))) (pe_lst (pa_cons pe_str pa_nil))))))))))))), ?_⟩
    case if0 =>
      rintro D0 σ0 H0 ⟨n, k, M, bx, a, ds, de, ks, ke, st, v, d, e0, e1, e4, hbx, mok, mem, hn, L, gi, hd, hany, q⟩
      have LH := (L.leS (fr_leS M H0)).weak
      have z := gi.ls
      have same : ∀ H', SB [bx] H0 H' → BoxI (n + 2) bx H' → D0.nx σ0 H' := fun H' sb b => by
        have := q v d H' sb b ((sb_le sb (by simpa using mem)).dp hd) hany
        rw [set_self e4] at this
        exact this
      refine ⟨_, e1, a, _, rfl, LH.gS, fun p np => ?_⟩
      have s1 := same_new (o := .dK []) np
      have L1 := LH.le (Le.of s1)
      refine ⟨ds, p, ks, rfl, rfl, L1.rs.rd, upd_same, _, rfl, ?_⟩
      have b1 := hbx.same s1
      refine ite2 (fun c => ?_) fun c => ?_
      · refine ⟨_, e0, n, bx, 3, rfl, b1, by omega, by decide, by decide, fun t H2 t1 t2 sb2 b2 => ⟨_, _, rfl, rfl, _, rfl, ?_⟩⟩
        have sbA := (sb_same s1 [bx]).trans sb2
        have L2 := L.leS (sb_leS sbA (by simpa using mem))
        have LH2 := L2.leS (fr_leS M H2)
        refine ite2 (fun c2 => ?_) fun c2 => ?_
        · refine ⟨_, e1, a, _, rfl, LH2.gS, ds, ks, st.sch.map (·.1), rfl, LH2.rs.rd, LH2.as.keys, by rw [List.length_map]; omega, fun ys p2 hp hs np2 => ?_⟩
          have s3 := same_new (o := .lst (ys.map V.str)) np2
          have LH3 := LH2.leS (fun a o h => s3 a o h)
          have hds : (upd H2 p2 (.lst (ys.map V.str))) ds = some (.dK ks) := by
            rcases LH3.rs with h | ⟨h, _⟩
            · exact h
            · cases h
          have hkl := L.as.len
          have hkn : 0 < ks.length := by
            cases ks with
            | nil => cases c
            | cons _ _ => simp
          have hyl : ys.length = st.sch.length := by rw [hp.length_eq, List.length_map]
          have b3 := b2.same s3
          have np2b : p2 ≠ bx := fun e => by rw [e] at np2; exact b2.ok np2
          refine ⟨_, e0, _, e1, a, _, rfl, LH3.gS, ds, ks, rfl, hds, n + 1, bx, _, rfl, b3, by omega, by omega, by omega, fun j H4 j1 j2 sb4 b4 => ?_⟩
          have hj : j.toNat < ys.length := by omega
          refine ⟨p2, ys.map V.str, j, .str ys[j.toNat], rfl, rfl, .inl (.inl (sb4 _ _ (by simpa using np2b) upd_same)), ?_, ?_⟩
          · unfold atI ixN
            rw [if_pos j1, if_pos (by rw [List.length_map]; omega)]
            show (ys.map V.str)[j.toNat]? = _
            rw [List.getElem?_map, List.getElem?_eq_getElem hj]
            rfl
          · refine q _ (.str ys[j.toNat]) H4 ((sbA.trans (sb_same s3 [bx])).trans sb4) (b4.le (by omega)) (.str _) (.inr ⟨_, rfl, ?_⟩)
            have hm := hp.mem_iff.mp (List.getElem_mem hj)
            obtain ⟨p9, hp9, e9⟩ := List.mem_map.mp hm
            rw [← e9]
            exact gi.ms p9 hp9
        · exact same H2 sbA (b2.le (by omega))
      · exact same _ (sb_same s1 [bx]) (b1.le (by omega))
    case if4 =>
      rintro D0 σ0 H0 ⟨n, k, M, bx, a, ds, de, ks, ke, st, v, d, e0, e1, e4, hbx, mok, mem, hn, L, gi, hd, hany, q⟩
      have LH := (L.leS (fr_leS M H0)).weak
      have z := gi.le
      have same : ∀ H', SB [bx] H0 H' → BoxI (n + 2) bx H' → D0.nx σ0 H' := fun H' sb b => by
        have := q v d H' sb b ((sb_le sb (by simpa using mem)).dp hd) hany
        rw [set_self e4] at this
        exact this
      refine ⟨_, e1, a, _, rfl, LH.gE, fun p np => ?_⟩
      have s1 := same_new (o := .dK []) np
      have L1 := LH.le (Le.of s1)
      refine ⟨de, p, ke, rfl, rfl, L1.re.rd, upd_same, _, rfl, ?_⟩
      have b1 := hbx.same s1
      refine ite2 (fun c => ?_) fun c => ?_
      · refine ⟨_, e0, n, bx, 3, rfl, b1, by omega, by decide, by decide, fun t H2 t1 t2 sb2 b2 => ⟨_, _, rfl, rfl, _, rfl, ?_⟩⟩
        have sbA := (sb_same s1 [bx]).trans sb2
        have L2 := L.leS (sb_leS sbA (by simpa using mem))
        have LH2 := L2.leS (fr_leS M H2)
        refine ite2 (fun c2 => ?_) fun c2 => ?_
        · refine ⟨_, e1, a, _, rfl, LH2.gE, de, ke, st.ent.map (·.1), rfl, LH2.re.rd, LH2.ae.keys, by rw [List.length_map]; omega, fun ys p2 hp hs np2 => ?_⟩
          have s3 := same_new (o := .lst (ys.map V.str)) np2
          have LH3 := LH2.leS (fun a o h => s3 a o h)
          have hds : (upd H2 p2 (.lst (ys.map V.str))) de = some (.dK ke) := by
            rcases LH3.re with h | ⟨h, _⟩
            · exact h
            · cases h
          have hkl := L.ae.len
          have hkn : 0 < ke.length := by
            cases ke with
            | nil => cases c
            | cons _ _ => simp
          have hyl : ys.length = st.ent.length := by rw [hp.length_eq, List.length_map]
          have b3 := b2.same s3
          have np2b : p2 ≠ bx := fun e => by rw [e] at np2; exact b2.ok np2
          refine ⟨_, e0, _, e1, a, _, rfl, LH3.gE, de, ke, rfl, hds, n + 1, bx, _, rfl, b3, by omega, by omega, by omega, fun j H4 j1 j2 sb4 b4 => ?_⟩
          have hj : j.toNat < ys.length := by omega
          refine ⟨p2, ys.map V.str, j, .str ys[j.toNat], rfl, rfl, .inl (.inl (sb4 _ _ (by simpa using np2b) upd_same)), ?_, ?_⟩
          · unfold atI ixN
            rw [if_pos j1, if_pos (by rw [List.length_map]; omega)]
            show (ys.map V.str)[j.toNat]? = _
            rw [List.getElem?_map, List.getElem?_eq_getElem hj]
            rfl
          · refine q _ (.str ys[j.toNat]) H4 ((sbA.trans (sb_same s3 [bx])).trans sb4) (b4.le (by omega)) (.str _) (.inr ⟨_, rfl, ?_⟩)
            have hm := hp.mem_iff.mp (List.getElem_mem hj)
            obtain ⟨p9, hp9, e9⟩ := List.mem_map.mp hm
            rw [← e9]
            exact gi.me p9 hp9
        · exact same H2 sbA (b2.le (by omega))
      · exact same _ (sb_same s1 [bx]) (b1.le (by omega))
    have memA : ∀ x ∈ [bx], x ∈ M := by simpa using mem
    refine ⟨_, rfl, n, bx, 14, rfl, hbx, by omega, by decide, by decide, fun way H1 w1 w2 sb1 b1 => ?_⟩
    have mok1 := mok.box sb1 b1
    refine ⟨_, rfl, n + 1, M, bx, rfl, b1, mok1, mem, by omega, fun v1 d1 H2 sb2 b2 hv1 ha1 => ?_⟩
    have sb02 := sb1.trans sb2
    have mok2 := mok.box sb02 b2
    refine ⟨_, rfl, n + 5, M, bx, rfl, b2, mok2, mem, by omega, fun v2 d2 H3 sb3 b3 hv2 ha2 => ?_⟩
    have sb03 := sb02.trans sb3
    have mok3 := mok.box sb03 b3
    refine ⟨by show 3 ≤ sizeLine; decide, fun t nt => ?_⟩
    have s4 := same_new (o := .tup [.int way, v1, v2]) nt
    refine ⟨t, _, rfl, .inl (.inl upd_same), rfl, _, _, rfl, _, _, rfl, _, _, rfl, rfl, ?_⟩
    have b4 := b3.same s4
    have sb04 := sb03.trans (sb_same s4 [bx])
    have mok4 := mok3.same s4
    have hv14 := (same_le (M := M) s4).dp ((sb_le (M := M) sb3 memA).dp hv1)
    have hv24 := (same_le (M := M) s4).dp hv2
    generalize upd H3 t (.tup [.int way, v1, v2]) = H4 at *
    refine ⟨n + 9, k, M, bx, a, ds, de, ks, ke, st, v2, d2, rfl, rfl, rfl, b4, mok4, mem, by omega, L.leS (sb_leS sb04 memA), gi, hv24, ha2, fun vs ds2 H5 sb5 b5 hvs has => ?_⟩
    have sb05 := sb04.trans sb5
    have mok5 := mok.box sb05 b5
    have le45 := sb_le (M := M) sb5 memA
    have hv15 := le45.dp hv14
    refine ⟨_, rfl, _, _, rfl, rfl, _, rfl, ?_⟩
    refine ite2 (fun c1 => ?_) fun c1 => ?_
    · -- keep
      refine ⟨by show 4 ≤ sizeLine; decide, fun lo nlo => ?_⟩
      have s6 := same_new (o := .lst [.non, .int 3, .str "base 2; digits 0 1", .bl true]) nlo
      have b6 := b5.same s6
      have nlb : lo ≠ bx := fun e => by rw [e] at nlo; exact b5.ok nlo
      refine ⟨_, rfl, n + 11, bx, 4, rfl, b6, by omega, by decide, by decide, fun j H7 j1 j2 sb7 b7 => ?_⟩
      have hlo := sb7 _ _ (by simpa using nlb) (upd_same (H := H5) (a := lo) (o := .lst [.non, .int 3, .str "base 2; digits 0 1", .bl true]))
      have hj : j.toNat < 4 := by omega
      have sb57 := (sb_same s6 [bx]).trans sb7
      obtain ⟨vo, hvo⟩ : ∃ vo, ([.non, .int 3, .str "base 2; digits 0 1", .bl true] : List V)[j.toNat]? = some vo := ⟨_, List.getElem?_eq_getElem hj⟩
      have hall : ∀ F, DpAll K F [.non, .int 3, .str "base 2; digits 0 1", .bl true] oddS := fun F => .cons .non (.cons (.int _) (.cons (.str _) (.cons (.bl _) .nil)))
      obtain ⟨d0, e0, _⟩ := dpAll_mem (hall (fun _ => none)) hvo
      have hd0 : ∀ F, Dp K F vo d0 := fun F => by
        obtain ⟨d0', e0', h⟩ := dpAll_mem (hall F) hvo
        rw [e0] at e0'
        cases e0'
        exact h
      have m0 : d0 ∈ oddS := List.mem_of_getElem? e0
      have hty : ∃ ty ∈ ["NoneType", "bool", "int", "str"], tyD d0 = ty := by
        unfold oddS at m0
        simp only [List.mem_cons, List.not_mem_nil, or_false] at m0
        rcases m0 with rfl | rfl | rfl | rfl
        · exact ⟨"NoneType", by simp, rfl⟩
        · exact ⟨"int", by simp, rfl⟩
        · exact ⟨"str", by simp, rfl⟩
        · exact ⟨"bool", by simp, rfl⟩
      refine ⟨lo, _, j, vo, rfl, rfl, .inl (.inl hlo), ?_, ?_⟩
      · unfold atI ixN
        rw [if_pos j1, if_pos (by show j < 4; exact j2)]
        exact hvo
      have hv17 := (sb_le (M := M) sb57 memA).dp hv15
      refine ⟨_, rfl, _, rfl, n + 12, bx, 8, rfl, b7, by omega, by decide, by decide, fun i H8 i1 i2 sb8 b8 => ⟨rfl, _, rfl, ?_⟩⟩
      have sb08 := (sb05.trans sb57).trans sb8
      have mok8 := mok.box sb08 b8
      have hv18 := (sb_le (M := M) sb8 memA).dp hv17
      refine ite2 (fun c => ?_) fun c => ?_
      · refine ⟨_, rfl, by show 3 ≤ sizeLine; decide, fun l nl => ?_⟩
        have s9 := same_new (o := .lst [.str "keep", v1, vo]) nl
        exact q l (.keep d1 none d0) _ (sb08.trans (sb_same s9 [bx])) ((b8.same s9).le (by omega)) ⟨v1, vo, .inl (.inl (upd_fr nl mok8)), (same_le s9).dp hv18, .inr ⟨hd0 _, rfl, hty⟩⟩ ⟨ha1, fun _ => m0⟩
      · refine ⟨_, rfl, n + 13, M, bx, rfl, b8, mok8, mem, by omega, fun m sc H9 sb9 b9 hm g => ⟨by show 3 ≤ sizeLine; decide, fun l nl => ?_⟩⟩
        have s9 := same_new (o := .lst [.str "keep", v1, .ref m]) nl
        have sb09 := sb08.trans sb9
        exact q l (.keep d1 (some sc) .none) _ (sb09.trans (sb_same s9 [bx])) ((b9.same s9).le (by omega)) ⟨v1, .ref m, .inl (.inl (upd_fr nl (mok.box sb09 b9))), (same_le s9).dp ((sb_le sb9 memA).dp hv18), .inl ⟨m, sc, rfl, hm.le (same_le s9), g, rfl⟩⟩ ⟨ha1, fun h => by cases h⟩
    · refine ⟨_, rfl, _, _, rfl, rfl, _, rfl, ?_⟩
      refine ite2 (fun c2 => ?_) fun c2 => ?_
      · -- put
        refine ⟨_, rfl, _, rfl, _, rfl, n + 11, M, bx, rfl, b5, mok5, mem, by omega, fun vn nd H6 sb6 b6 hvn hnd => ⟨by show 4 ≤ sizeLine; decide, fun l nl => ?_⟩⟩
        have s9 := same_new (o := .lst [.str "put", v1, vs, vn]) nl
        have sb06 := sb05.trans sb6
        have e6 := sb_le (M := M) sb6 memA
        exact q l (.put d1 ds2 nd) _ (sb06.trans (sb_same s9 [bx])) ((b6.same s9).le (by omega)) ⟨v1, vs, vn, .inl (.inl (upd_fr nl (mok.box sb06 b6))), (same_le s9).dp (e6.dp hv15), (same_le s9).dp (e6.dp hvs), (same_le s9).dp hvn⟩ ⟨ha1, has, hnd⟩
      · refine ⟨_, rfl, _, _, rfl, rfl, _, rfl, ?_⟩
        refine ite2 (fun c3 => ?_) fun c3 => ?_
        · -- lay
          refine ⟨_, rfl, _, rfl, _, rfl, _, rfl, _, rfl, n + 11, M, bx, a, ds, de, ks, ke, st, vs, ds2, rfl, b5, mok5, mem, by omega, (L.leS (sb_leS sb05 memA)).weak, gi.gt.gs, hvs, fun vl ld H6 sb6 b6 hvl hld => ⟨by show 4 ≤ sizeLine; decide, fun l nl => ?_⟩⟩
          have s9 := same_new (o := .lst [.str "lay", v1, vs, vl]) nl
          have sb06 := sb05.trans sb6
          have e6 := sb_le (M := M) sb6 memA
          exact q l (.lay d1 ds2 ld) _ (sb06.trans (sb_same s9 [bx])) ((b6.same s9).le (by omega)) ⟨v1, vs, vl, .inl (.inl (upd_fr nl (mok.box sb06 b6))), (same_le s9).dp (e6.dp hv15), (same_le s9).dp (e6.dp hvs), (same_le s9).dp hvl⟩ ⟨ha1, has, hld⟩
        · refine ⟨n + 11, k, M, bx, a, ds, de, ks, ke, st, v1, d1, rfl, rfl, rfl, b5, mok5, mem, by omega, L.leS (sb_leS sb05 memA), gi, hv15, ha1, fun vl dl1 H6 sb6 b6 hvl hal => ?_⟩
          have sb06 := sb05.trans sb6
          have mok6 := mok.box sb06 b6
          have hvs6 := (sb_le (M := M) sb6 memA).dp hvs
          refine ⟨_, rfl, _, _, rfl, rfl, _, rfl, ?_⟩
          refine ite2 (fun c4 => ?_) fun c4 => ?_
          · -- move
            refine ⟨_, rfl, _, rfl, by show 3 ≤ sizeLine; decide, fun l nl => ?_⟩
            have s9 := same_new (o := .lst [.str "move", vl, vs]) nl
            exact q l (.move dl1 ds2) _ (sb06.trans (sb_same s9 [bx])) ((b6.same s9).le (by omega)) ⟨vl, vs, .inl (.inl (upd_fr nl mok6)), (same_le s9).dp hvl, (same_le s9).dp hvs6⟩ ⟨hal, has⟩
          · refine ⟨_, rfl, _, _, rfl, rfl, _, rfl, ?_⟩
            refine ite2 (fun c5 => ?_) fun c5 => ?_
            · -- reckon
              refine ⟨_, rfl, n + 13, bx, 2, rfl, b6, by omega, by decide, by decide, fun c H7 r1 r2 sb7 b7 => ⟨_, _, rfl, rfl, _, rfl, by omega, by omega, fun Dl nD => ?_⟩⟩
              have sb07 := sb06.trans sb7
              have mok7 := mok.box sb07 b7
              have hvl7 := (sb_le (M := M) sb7 memA).dp hvl
              have hvs7 := (sb_le (M := M) sb7 memA).dp hvs6
              have nDb : Dl ≠ bx := fun e => by rw [e] at nD; exact b7.ok nD
              refine lc_range (fun i H' => LcI [bx] M Dl H7 (fun i acc F => ∃ l, DpAll K F acc l ∧ l.length = i ∧ ∀ x ∈ l, ∃ z : Int, x = .tuple [.int z, dl1] ∧ z.natAbs ≤ 3) i H' ∧ BoxI (n + 14 + i) bx H') ⟨LcI.start mok7 memA nD ⟨[], .nil, rfl, by simp⟩, b7.same (same_new nD)⟩ (fun i H8 hi p => ?_) (fun H8 p => ?_)
              · obtain ⟨p, bi⟩ := p
                refine ⟨rfl, 1, rfl, 2, rfl, 3, rfl, by show 7 ≤ sizeLine; decide, fun lo nlo => ?_⟩
                have s9 := same_new (o := .lst (([1, -1, 2, -2, 0, 3, -3] : List Int).map V.int)) nlo
                have b9 := bi.same s9
                have nlb : lo ≠ bx := fun e => by rw [e] at nlo; exact bi.ok nlo
                refine ⟨_, rfl, n + 14 + i, bx, 28, rfl, b9, by omega, by decide, by decide, fun t9 H10 x1 x2 sb10 b10 => ⟨_, _, rfl, rfl, ⟨by decide, by decide⟩, ?_⟩⟩
                have hlo := sb10 _ _ (by simpa using nlb) (upd_same (H := H8) (a := lo) (o := .lst (([1, -1, 2, -2, 0, 3, -3] : List Int).map V.int)))
                have hf1 : 0 ≤ t9.fdiv 4 := Int.fdiv_nonneg x1 (by decide)
                have hf2 : t9.fdiv 4 < 7 := by rw [Int.fdiv_eq_ediv_of_nonneg _ (by decide)]; omega
                have hj : (t9.fdiv 4).toNat < ([1, -1, 2, -2, 0, 3, -3] : List Int).length := by show (t9.fdiv 4).toNat < 7; omega
                refine ⟨lo, _, _, _, rfl, rfl, .inl (.inl hlo), atI_int (j := (t9.fdiv 4).toNat) (by omega) hj, _, rfl, by show 2 ≤ sizeLine; decide, fun tt ntt => ?_⟩
                have hz3 : (([1, -1, 2, -2, 0, 3, -3] : List Int)[(t9.fdiv 4).toNat]).natAbs ≤ 3 := by
                  have hm := List.getElem_mem hj
                  have key : ∀ z ∈ ([1, -1, 2, -2, 0, 3, -3] : List Int), z.natAbs ≤ 3 := by decide
                  exact key _ hm
                generalize ([1, -1, 2, -2, 0, 3, -3] : List Int)[(t9.fdiv 4).toNat] = z9 at *
                have s11 := same_new (o := .tup [.int z9, vl]) ntt
                have sbX := ((sb_same s9 [bx]).trans sb10).trans (sb_same s11 [bx])
                have b11 := b10.same s11
                have st : Stp [bx] H8 (upd H10 tt (.tup [.int z9, vl])) := ⟨sbX, fun a ha => by rw [List.mem_singleton] at ha; rw [ha]; exact b11.ok⟩
                have memD : ∀ x ∈ [bx], x ∈ Dl :: M := fun x hx => List.mem_cons_of_mem _ (memA x hx)
                have leX := sb_le (M := Dl :: M) sbX memD
                have mokX : Mok (Dl :: M) H10 := p.mok.sb ((sb_same s9 [bx]).trans sb10) (fun a ha => by rw [List.mem_singleton] at ha; rw [ha]; exact b10.ok)
                obtain ⟨acc, h1, h2, h3⟩ := p.step memA nD mok7 st (v := .ref tt) (by rw [sizeLine_eq]; omega) (fun acc _ ⟨l, a1, a2, a3⟩ => ⟨l ++ [.tuple [.int z9, dl1]], dpAll_app (leX.dpAll a1) (.cons (.tup (.inl (.inl (upd_fr ntt mokX))) (.cons (.int _) (.cons (leX.dp ((p.le memA nD).dp hvl7)) .nil))) .nil), by rw [List.length_append, List.length_singleton, a2], fun x hx => by
                  rcases List.mem_append.mp hx with hx | hx
                  · exact a3 x hx
                  · rw [List.mem_singleton] at hx; exact ⟨z9, hx, hz3⟩⟩)
                exact ⟨acc, h1, h2, h3, (b11.le (by omega)).old (A := [Dl]) sb_upd (by simpa using nDb.symm)⟩
              · obtain ⟨p, bi⟩ := p
                have hc : (1 + c).toNat ≤ 2 := by omega
                have hc0 : 1 ≤ (1 + c).toNat := by omega
                obtain ⟨acc, hA, _, l0, ha1', hl0, hit⟩ := p.ex
                have sb78 := p.stp.sb
                have sb08 := sb07.trans sb78
                have b8 : BoxI (n + 16) bx H8 := bi.le (by omega)
                have mok8 := mok.box sb08 b8
                have hvs8 := (sb_le (M := M) sb78 memA).dp hvs7
                have hal8 := (fr_sub Dl M H8).dpAll ha1'
                obtain ⟨y0, l0', rfl⟩ : ∃ y0 l0', l0 = y0 :: l0' := by
                  cases l0 with
                  | nil => simp at hl0; omega
                  | cons y l => exact ⟨y, l, rfl⟩
                obtain ⟨z0, rfl, hz0⟩ := hit _ List.mem_cons_self
                obtain ⟨x0, acc', rfl, hx0⟩ : ∃ x0 acc', acc = x0 :: acc' ∧ Dp K (fr M H8) x0 (.tuple [.int z0, dl1]) := by
                  cases hal8 with
                  | cons h r => exact ⟨_, _, rfl, h⟩
                refine ⟨_, rfl, 1, rfl, Dl, _, rfl, .inl (.inl hA), fun p1 np1 => ?_⟩
                rw [cut_one]
                have s9 := same_new (o := .lst [x0]) np1
                have b9 := b8.same s9
                have mok9 := mok8.same s9
                have hp1 : (upd H8 p1 (.lst [x0])) p1 = some (.lst [x0]) := upd_same
                have np1b : p1 ≠ bx := fun e => by rw [e] at np1; exact b8.ok np1
                have sb89 := sb_same s9 [bx]
                generalize upd H8 p1 (.lst [x0]) = H9 at *
                refine ⟨_, rfl, n + 16, M, bx, rfl, b9, mok9, mem, by omega, fun va da H10 sb10 b10 hva haa => ⟨by show 2 ≤ sizeLine; decide, fun t1 nt1 => ⟨by show 1 ≤ sizeLine; decide, fun l1 nl1 => ?_⟩⟩⟩
                have s11 := same_new (o := .tup [.int 1, va]) nt1
                have s12 := same_new (o := .lst [.ref t1]) nl1
                have s112 := s11.trans s12
                have sb9_10 := sb89.trans sb10
                have mok10 := mok8.box sb9_10 b10
                have ht1 : SqT K (fr M (upd (upd H10 t1 (.tup [.int 1, va])) l1 (.lst [.ref t1]))) t1 [.int 1, va] := (upd_le nl1).sqT (.inl (.inl (upd_fr nt1 mok10)))
                have hl1 : (upd (upd H10 t1 (.tup [.int 1, va])) l1 (.lst [.ref t1])) l1 = some (.lst [.ref t1]) := upd_same
                have hp1' := s112 _ _ (sb10 _ _ (by simpa using np1b) hp1)
                have b12 := b10.same s112
                have hva12 := (same_le (M := M) s112).dp hva
                have sb812 : SB [bx] H8 (upd (upd H10 t1 (.tup [.int 1, va])) l1 (.lst [.ref t1])) := sb9_10.trans (sb_same s112 [bx])
                have nl1b : l1 ≠ bx := fun e => by rw [e] at nl1; exact (b10.same s11).ok nl1
                generalize upd (upd H10 t1 (.tup [.int 1, va])) l1 (.lst [.ref t1]) = H12 at *
                refine ⟨_, rfl, n + 20, bx, 3, rfl, b12, by omega, by decide, by decide, fun e H13 e1 e2 sb13 b13 => ⟨rfl, .inr ⟨_, rfl, ?_⟩⟩⟩
                have e13 := sb_le (M := M) sb13 memA
                have hl13 := sb13 _ _ (by simpa using nl1b) hl1
                have hp13 := sb13 _ _ (by simpa using np1b) hp1'
                have ht13 := e13.sqT ht1
                have hva13 := e13.dp hva12
                have sb813 := sb812.trans sb13
                have mok13 := mok8.box sb813 b13
                have hx13 := (sb_le (M := M) sb813 memA).dp hx0
                obtain ⟨kk, hkk, hk01⟩ : ∃ kk : Int, (if decide (V.int e = V.int 0) = true then (1 : Int) else 0) = kk ∧ (kk = 0 ∨ kk = 1) := ⟨_, rfl, by split; exact .inr rfl; exact .inl rfl⟩
                refine ⟨l1, kk, _, rfl, by rw [← hkk], hl13, by omega, by omega, by rw [sizeLine_eq, List.length_singleton]; omega, fun p2 np2 => ?_⟩
                generalize hfl : (List.replicate kk.toNat [V.ref t1]).flatten = fl at *
                have hfll : fl.length ≤ 1 := by rw [← hfl]; rcases hk01 with rfl | rfl <;> simp
                have s14 := same_new (o := .lst fl) np2
                refine ⟨p1, p2, _, _, rfl, rfl, s14 _ _ hp13, upd_same, by rw [sizeLine_eq]; simp only [List.length_singleton]; omega, fun p3 np3 => ?_⟩
                have s15 := s14.trans (same_new (o := .lst ([x0] ++ fl)) np3)
                have e15 := same_le (M := M) s15
                obtain ⟨l2, hD2, hl2, hI2⟩ : ∃ (l2 : List PyData), DpAll K (fr M H13) (x0 :: fl) (.tuple [.int z0, dl1] :: l2) ∧ l2.length ≤ 1 ∧ ∀ x ∈ (PyData.tuple [.int z0, dl1] :: l2), ItemD x := by
                  have i0 : ItemD (.tuple [.int z0, dl1]) := .inl ⟨z0, dl1, .inl rfl, hz0, hal⟩
                  rcases hk01 with rfl | rfl
                  · have hfl : [] = fl := hfl
                    subst hfl
                    exact ⟨[], .cons hx13 .nil, by simp, fun x hx => by rw [List.mem_singleton] at hx; rw [hx]; exact i0⟩
                  · have hfl : [V.ref t1] = fl := hfl
                    subst hfl
                    refine ⟨[.tuple [.int 1, da]], .cons hx13 (.cons (.tup ht13 (.cons (.int _) (.cons hva13 .nil))) .nil), by simp, fun x hx => ?_⟩
                    rcases List.mem_cons.mp hx with rfl | hx
                    · exact i0
                    · rw [List.mem_singleton] at hx
                      rw [hx]
                      exact .inl ⟨1, da, .inl rfl, by decide, haa⟩
                have hp3 : (upd (upd H13 p2 (.lst fl)) p3 (.lst ([x0] ++ fl))) p3 = some (.lst (x0 :: fl)) := upd_same
                have b15 := b13.same s15
                have mok15 := mok13.same s15
                have hD15 := e15.dpAll hD2
                have sb815 := sb813.trans (sb_same s15 [bx])
                have np3b : p3 ≠ bx := fun e => by rw [e] at np3; exact (b13.same s14).ok np3
                generalize upd (upd H13 p2 (.lst fl)) p3 (.lst ([x0] ++ fl)) = H15 at *
                have hxl : fl.length = l2.length := by
                  have := sqL_len hD15
                  simpa using this
                have hx15 : Dp K (fr M H15) x0 (.tuple [.int z0, dl1]) := by cases hD15 with | cons h r => exact h
                -- the odd ones
                refine ⟨by show 0 ≤ sizeLine; decide, fun q0 nq0 => ?_⟩
                have s16 := same_new (o := .lst []) nq0
                have hp16 := s16 _ _ hp3
                have mok16 := mok15.same s16
                have f0 : SqL K (fr M (upd H15 q0 (.lst []))) q0 [] := .inl (.inl (upd_fr nq0 mok15))
                generalize upd H15 q0 (.lst []) = H16 at *
                refine ⟨_, rfl, _, rfl, p3, p3, _, _, rfl, rfl, hp16, hp16, by rw [sizeLine_eq]; simp only [List.length_cons]; omega, fun q1 nq1 => ?_⟩
                have s17 := same_new (o := .lst ((x0 :: fl) ++ (x0 :: fl))) nq1
                have hp17 := s17 _ _ hp16
                have hq17 : (upd H16 q1 (.lst ((x0 :: fl) ++ (x0 :: fl)))) q1 = some (.lst ((x0 :: fl) ++ (x0 :: fl))) := upd_same
                have mok17 := mok16.same s17
                generalize upd H16 q1 (.lst ((x0 :: fl) ++ (x0 :: fl))) = H17 at *
                refine ⟨_, rfl, q1, p3, _, _, rfl, rfl, hq17, hp17, by rw [sizeLine_eq]; simp only [List.length_append, List.length_cons]; omega, fun q2 nq2 => ?_⟩
                have s18 := same_new (o := .lst (((x0 :: fl) ++ (x0 :: fl)) ++ (x0 :: fl))) nq2
                have hp18 := s18 _ _ hp17
                have mok18 := mok17.same s18
                have f2 : SqL K (fr M (upd H17 q2 (.lst (((x0 :: fl) ++ (x0 :: fl)) ++ (x0 :: fl))))) q2 (((x0 :: fl) ++ (x0 :: fl)) ++ (x0 :: fl)) := .inl (.inl (upd_fr nq2 mok17))
                generalize upd H17 q2 (.lst (((x0 :: fl) ++ (x0 :: fl)) ++ (x0 :: fl))) = H18 at *
                have s1518 := (s16.trans s17).trans s18
                have hx18 := (same_le (M := M) s1518).dp hx15
                obtain ⟨t0, ys0, ht0, hys0, ex0⟩ : ∃ t0 ys0, SqT K (fr M H18) t0 ys0 ∧ DpAll K (fr M H18) ys0 [.int z0, dl1] ∧ x0 = .ref t0 := by
                  cases hx18 with
                  | tup h r => exact ⟨_, _, h, r, rfl⟩
                refine ⟨_, rfl, p3, _, 0, x0, rfl, rfl, .inl (.inl hp18), L2.atI_nat (j := 0) rfl, ?_⟩
                refine ⟨t0, ys0, by rw [ex0], .inr ((fr_le _ _).sqT ht0), fun q3 nq3 => ⟨by show 1 ≤ sizeLine; decide, fun q4 nq4 => ?_⟩⟩
                have s19 := same_new (o := .lst ys0) nq3
                have s20 := same_new (o := .lst [.ref q3]) nq4
                have f3 : SqL K (fr M (upd (upd H18 q3 (.lst ys0)) q4 (.lst [.ref q3]))) q3 ys0 := (upd_le nq4).sqL (.inl (.inl (upd_fr nq3 mok18)))
                have f4 : SqL K (fr M (upd (upd H18 q3 (.lst ys0)) q4 (.lst [.ref q3]))) q4 [.ref q3] := .inl (.inl (upd_fr nq4 (mok18.same s19)))
                have s1820 := s19.trans s20
                have mok20 := mok18.same s1820
                have hys20 := (same_le (M := M) s1820).dpAll hys0
                generalize upd (upd H18 q3 (.lst ys0)) q4 (.lst [.ref q3]) = H20 at *
                refine ⟨by show 1 ≤ sizeLine; decide, fun q5 nq5 => ⟨by show 1 ≤ sizeLine; decide, fun q6 nq6 => ?_⟩⟩
                have s21 := same_new (o := .tup [.int 1]) nq5
                have s22 := same_new (o := .lst [.ref q5]) nq6
                have f5 : SqT K (fr M (upd (upd H20 q5 (.tup [.int 1])) q6 (.lst [.ref q5]))) q5 [.int 1] := (upd_le nq6).sqT (.inl (.inl (upd_fr nq5 mok20)))
                have f6 : SqL K (fr M (upd (upd H20 q5 (.tup [.int 1])) q6 (.lst [.ref q5]))) q6 [.ref q5] := .inl (.inl (upd_fr nq6 (mok20.same s21)))
                have s2022 := s21.trans s22
                have mok22 := mok20.same s2022
                generalize upd (upd H20 q5 (.tup [.int 1])) q6 (.lst [.ref q5]) = H22 at *
                refine ⟨by show 6 ≤ sizeLine; decide, fun q7 nq7 => ?_⟩
                have s23 := same_new (o := .lst [.ref q0, .non, .ref q2, .ref q4, .ref q6, .int 3]) nq7
                have f7 : SqL K (fr M (upd H22 q7 (.lst [.ref q0, .non, .ref q2, .ref q4, .ref q6, .int 3]))) q7 [.ref q0, .non, .ref q2, .ref q4, .ref q6, .int 3] := .inl (.inl (upd_fr nq7 mok22))
                have s2023 := s2022.trans s23
                have s1823 := s1820.trans s2023
                have s1623 := (s17.trans s18).trans s1823
                have s1523 := s16.trans s1623
                have mok23 := mok22.same s23
                have e23 := same_le (M := M) s23
                have e2023 := same_le (M := M) s2023
                have e1823 := same_le (M := M) s1823
                have e1623 := same_le (M := M) s1623
                have e1523 := same_le (M := M) s1523
                have hD23 := e1523.dpAll hD15
                have all7 : DpAll K (fr M (upd H22 q7 (.lst [.ref q0, .non, .ref q2, .ref q4, .ref q6, .int 3]))) [.ref q0, .non, .ref q2, .ref q4, .ref q6, .int 3] [.list [], .none, .list (((.tuple [.int z0, dl1] :: l2) ++ (.tuple [.int z0, dl1] :: l2)) ++ (.tuple [.int z0, dl1] :: l2)), .list [.list [.int z0, dl1]], .list [.tuple [.int 1]], .int 3] :=
                  .cons (.lst (e1623.sqL f0) .nil) (.cons .non (.cons (.lst (e1823.sqL f2) (dpAll_app (dpAll_app hD23 hD23) hD23)) (.cons (.lst (e2023.sqL f4) (.cons (.lst (e2023.sqL f3) (e2023.dpAll hys20)) .nil)) (.cons (.lst (e23.sqL f6) (.cons (.tup (e23.sqT f5) (.cons (.int _) .nil)) .nil)) (.cons (.int _) .nil)))))
                have hp23 := s1523 _ _ hp3
                have b23 := b15.same s1523
                have sb823 := sb815.trans (sb_same s1523 [bx])
                have hvs23 := (sb_le (M := M) sb823 memA).dp hvs8
                have sb023 := sb08.trans sb823
                have hp23' : SqL K (fr M (upd H22 q7 (.lst [.ref q0, .non, .ref q2, .ref q4, .ref q6, .int 3]))) p3 (x0 :: fl) := .inl (.inl (fr_of hp23 (fun h => by
                  have := mok8.new (H := H8) (p := p3) (none_sb sb813 (none_same s14 np3) (by simpa using np3b))
                  exact this h)))
                generalize upd H22 q7 (.lst [.ref q0, .non, .ref q2, .ref q4, .ref q6, .int 3]) = H23 at *
                have pD : ∀ z ∈ ([.list [], .none, .list (((.tuple [.int z0, dl1] :: l2) ++ (.tuple [.int z0, dl1] :: l2)) ++ (.tuple [.int z0, dl1] :: l2)), .list [.list [.int z0, dl1]], .list [.tuple [.int 1]], .int 3] : List PyData), PartsD z := fun z hz => by
                  simp only [List.mem_cons, List.not_mem_nil, or_false] at hz
                  rcases hz with rfl | rfl | rfl | rfl | rfl | rfl
                  · exact .inr (.inr ⟨[], rfl, by simp, by simp⟩)
                  · exact .inl rfl
                  · refine .inr (.inr ⟨_, rfl, by simp only [List.length_append, List.length_cons]; omega, fun x hx => ?_⟩)
                    rcases List.mem_append.mp hx with hx | hx
                    · rcases List.mem_append.mp hx with hx | hx <;> exact hI2 x hx
                    · exact hI2 x hx
                  · exact .inr (.inr ⟨_, rfl, by simp, fun x hx => by rw [List.mem_singleton] at hx; rw [hx]; exact .inl ⟨z0, dl1, .inr rfl, hz0, hal⟩⟩)
                  · exact .inr (.inr ⟨_, rfl, by simp, fun x hx => by rw [List.mem_singleton] at hx; rw [hx]; exact .inr rfl⟩)
                  · exact .inr (.inl rfl)
                refine ⟨_, rfl, n + 21, bx, 6, rfl, b23, by omega, by decide, by decide, fun j H24 j1 j2 sb24 b24 => ?_⟩
                have e24 := sb_le (M := M) sb24 memA
                have hj : j.toNat < 6 := by omega
                obtain ⟨vo, hvo⟩ : ∃ vo, ([.ref q0, .non, .ref q2, .ref q4, .ref q6, .int 3] : List V)[j.toNat]? = some vo := ⟨_, List.getElem?_eq_getElem hj⟩
                obtain ⟨d9, e9, hd9⟩ := dpAll_mem (e24.dpAll all7) hvo
                refine ⟨q7, _, j, vo, rfl, rfl, (fr_le _ _).sqL (e24.sqL f7), ?_, ?_⟩
                · unfold atI ixN
                  rw [if_pos j1, if_pos (by show j < 6; exact j2)]
                  exact hvo
                have sb024 := sb023.trans sb24
                refine ⟨_, rfl, n + 22, M, bx, rfl, b24, mok.box sb024 b24, mem, by omega, fun v5 d5 H25 sb25 b25 hv5 ha5 => ⟨_, rfl, ?_⟩⟩
                refine ⟨_, rfl, n + 26, bx, 8, rfl, b25, by omega, by decide, by decide, fun i H26 i1 i2 sb26 b26 => ⟨rfl, _, rfl, ?_⟩⟩
                have sb2426 := sb25.trans sb26
                have e2426 := sb_le (M := M) sb2426 memA
                have e2326 := e24.trans e2426
                have sb026 := sb024.trans sb2426
                have mok26 := mok.box sb026 b26
                have hv526 := (sb_le (M := M) sb26 memA).dp hv5
                have fin : ∀ (vp : V) (tp : PyData), Dp K (fr M H26) vp tp → PartsD tp → ∀ l, H26 l = none → Q (.ref l) (upd H26 l (.lst [.str "reckon", v5, vs, vp])) := fun vp tp hvp htp l nl => by
                  have s27 := same_new (o := .lst [.str "reckon", v5, vs, vp]) nl
                  have e27 := same_le (M := M) s27
                  exact q l (.reckon d5 ds2 tp) _ (sb026.trans (sb_same s27 [bx])) ((b26.same s27).le (by omega)) ⟨v5, vs, vp, .inl (.inl (upd_fr nl mok26)), e27.dp hv526, e27.dp (e2326.dp hvs23), e27.dp hvp⟩ ⟨ha5, has, htp⟩
                refine ite2 (fun c9 => ?_) fun c9 => ?_
                · exact ⟨_, rfl, by show 4 ≤ sizeLine; decide, fin vo d9 (e2426.dp hd9) (pD _ (List.mem_of_getElem? e9))⟩
                · exact ⟨_, rfl, by show 4 ≤ sizeLine; decide, fin (.ref p3) (.list (.tuple [.int z0, dl1] :: l2)) (.lst (e2326.sqL hp23') (e2326.dpAll hD23)) (.inr (.inr ⟨_, rfl, by simp only [List.length_cons]; omega, hI2⟩))⟩
            · refine ⟨_, rfl, rfl, _, rfl, ?_⟩
              refine ite2 (fun c6 => ?_) fun c6 => ?_
              · refine ⟨_, rfl, by show 2 ≤ sizeLine; decide, fun l nl => ?_⟩
                have s9 := same_new (o := .lst [.str "drop", vl]) nl
                exact q l (.drop dl1) _ (sb06.trans (sb_same s9 [bx])) ((b6.same s9).le (by omega)) ⟨vl, .inl (.inl (upd_fr nl mok6)), (same_le s9).dp hvl⟩ hal
              · refine ⟨by show 1 ≤ sizeLine; decide, fun l nl => ?_⟩
                have s9 := same_new (o := .lst [.str "undo"]) nl
                exact q l .undo _ (sb06.trans (sb_same s9 [bx])) ((b6.same s9).le (by omega)) (.inl (.inl (upd_fr nl mok6))) trivial
end
end K75
set_option maxHeartbeats 400000
namespace K75
open PySem PySem.Spec PyProof.Rows L2
/-! #### names -/
theorem any_name {x : Str} (h : AnyN (.str x)) (hn : isNameS x = true) : x ∈ names := by
  rcases h with h | ⟨y, e, hy⟩
  · simp only [odds, List.mem_cons, List.not_mem_nil, or_false, PyData.str.injEq, reduceCtorEq, false_or] at h
    have key : ∀ z ∈ (["", "A", "a1", "abcdefghi", "a b"] : List Str), isNameS z = false := by decide +kernel
    have := key x (by simp only [List.mem_cons, List.not_mem_nil, or_false]; exact h)
    rw [this] at hn
    cases hn
  · cases e
    exact hy
/-! #### what is drawn may be done -/
theorem LineD.ok {l : PyData} (h : LineD l) : LineOk l ∧ ∀ ds, l = .tuple ds → ds.length ≤ 14 := by
  rcases h with ⟨ts, e, hl, ht⟩ | rfl | rfl
  · refine ⟨fun l' e' => ?_, fun l' e' => ?_⟩
    · rcases e with rfl | rfl
      · cases e'
        exact ⟨by omega, fun t h => by
          rcases ht t h with ⟨i, h1, _⟩ | h1
          · exact .inl ⟨i, h1⟩
          · exact .inr ⟨true, h1⟩⟩
      · cases e'
    · rcases e with rfl | rfl
      · cases e'; exact hl
      · cases e'
  · exact ⟨fun l' e' => (by cases e'), fun l' e' => (by cases e')⟩
  · exact ⟨fun l' e' => (by cases e'), fun l' e' => (by cases e')⟩
theorem lab_int (i : Int) : LabOk (.int i) := fun x e => by cases e
theorem PartsD.ok {t : PyData} (h : PartsD t) : PartsOk t := by
  rcases h with rfl | rfl | ⟨l, rfl, hl, hi⟩
  · exact ⟨fun l e => (by cases e), fun l e => (by cases e)⟩
  · exact ⟨fun l e => (by cases e), fun l e => (by cases e)⟩
  · refine ⟨fun l e => (by cases e), fun l' e => ?_⟩
    cases e
    refine ⟨by omega, fun t ht ds e x hx => ?_⟩
    subst e
    rcases hi _ ht with ⟨i, d, e, _, ha⟩ | e
    · rcases e with e | e
      · cases e
        simp only [List.mem_cons, List.not_mem_nil, or_false] at hx
        rcases hx with rfl | rfl
        · exact lab_int i
        · exact ha.lab
      · cases e
    · cases e
      rw [List.mem_singleton] at hx
      subst hx
      exact lab_int 1
theorem DeedD.ok : ∀ {dd : Deed}, DeedD dd → DeedOk dd
  | .keep _ _ _, h => h.1
  | .put _ _ n, h => ⟨h.1, fun i e => by
      subst e
      rcases h.2.2 with ⟨j, e, hj⟩ | e | e | e | ⟨j, e, _⟩
      · cases e; exact hj
      all_goals cases e⟩
  | .lay _ _ _, h => ⟨h.1, h.2.2.ok⟩
  | .move _ _, h => h.1
  | .reckon _ _ _, h => ⟨h.1, h.2.2.ok⟩
  | .drop _, _ => trivial
  | .undo, _ => trivial
/-- the scheme that is kept is good -/
def DeedG : Deed → Prop
  | .keep _ (some sc) _ => GoodS sc
  | _ => True
theorem DeedR.good {K : PySem.W.Frag} {F : Hp} {a : Addr} : ∀ {dd : Deed}, DeedR K F a dd → DeedG dd
  | .keep d mo d2, ⟨v, v2, h1, h2, h3⟩ => by
      rcases h3 with ⟨m, sc, _, _, g, rfl⟩ | ⟨_, rfl, _⟩
      · exact g
      · exact trivial
  | .put _ _ _, _ => trivial
  | .lay _ _ _, _ => trivial
  | .move _ _, _ => trivial
  | .reckon _ _ _, _ => trivial
  | .drop _, _ => trivial
  | .undo, _ => trivial
/-! #### lists by names -/
theorem look_put {α : Type} {l : List (Str × α)} {x z : Str} {y : α} (hx : look l x = none) : look (put l x y) z = if z = x then some y else look l z := by
  have e : put l x y = l ++ [(x, y)] := by
    unfold put
    have : (l.any fun p => decide (p.1 = x)) = false := by rw [← look_isSome, hx]; rfl
    rw [if_neg (by rw [this]; simp)]
  rw [e]
  unfold look
  rw [List.find?_append]
  by_cases c : z = x
  · subst c
    rw [if_pos rfl]
    have : (l.find? fun p => decide (p.1 = z)) = none := by
      unfold look at hx
      cases h : l.find? fun p => decide (p.1 = z) with
      | none => rfl
      | some p => rw [h] at hx; cases hx
    rw [this]
    simp
  · rw [if_neg c]
    have : List.find? (fun p => decide (p.1 = z)) [(x, y)] = none := by simp; exact fun h => c h.symm
    rw [this]
    cases (l.find? fun p => decide (p.1 = z)) <;> rfl
theorem put_nodup {α : Type} {l : List (Str × α)} {x : Str} {y : α} (h : (l.map (·.1)).Nodup) : ((put l x y).map (·.1)).Nodup := by
  rw [put_keys]
  by_cases c : x ∈ l.map (·.1)
  · rw [if_pos c]; exact h
  · rw [if_neg c, List.nodup_append]
    exact ⟨h, by simp, fun a ha b hb e => by
      rw [List.mem_singleton] at hb
      subst hb
      subst e
      exact c ha⟩
theorem look_put_ne {α : Type} {l : List (Str × α)} {x z : Str} {y : α} (c : z ≠ x) : look (put l x y) z = look l z := by
  cases hx : look l x with
  | none => rw [look_put hx, if_neg c]
  | some w =>
    unfold put
    have : (l.any fun p => decide (p.1 = x)) = true := by rw [← look_isSome, hx]; rfl
    rw [if_pos this]
    unfold look
    clear this hx
    induction l with
    | nil => rfl
    | cons p l ih =>
      rw [List.map_cons, List.find?_cons, List.find?_cons]
      by_cases q : p.1 = x
      · have hz : ¬ p.1 = z := fun h => c (by rw [← h, q])
        rw [if_pos q]
        simp only [decide_eq_false hz]
        exact ih
      · rw [if_neg q]
        by_cases r : p.1 = z
        · simp only [decide_eq_true r]
        · simp only [decide_eq_false r]
          exact ih
theorem look_drop {α : Type} {l : List (Str × α)} {x z : Str} : look (dropN l x) z = if z = x then none else look l z := by
  induction l with
  | nil => by_cases c : z = x <;> simp [look, dropN, c]
  | cons p l ih =>
    unfold dropN look at *
    by_cases q : p.1 = x
    · rw [List.filter_cons_of_neg (by simpa using q), ih]
      by_cases c : z = x
      · rw [if_pos c, if_pos c]
      · rw [if_neg c, if_neg c, List.find?_cons, decide_eq_false (show ¬ p.1 = z from fun h => c (by rw [← h, q]))]
    · rw [List.filter_cons_of_pos (by simpa using q), List.find?_cons]
      by_cases r : p.1 = z
      · rw [decide_eq_true r, if_neg (show ¬ z = x from fun h => q (by rw [r, h])), List.find?_cons, decide_eq_true r]
      · rw [decide_eq_false r, List.find?_cons, decide_eq_false r]
        exact ih
theorem drop_sub {α : Type} {l : List (Str × α)} {x : Str} {p : Str × α} (h : p ∈ dropN l x) : p ∈ l := (List.mem_filter.mp h).1
theorem drop_nodup {α : Type} {l : List (Str × α)} {x : Str} (h : (l.map (·.1)).Nodup) : ((dropN l x).map (·.1)).Nodup := h.sublist (List.filter_sublist.map _)
/-! #### a good state stays good -/
theorem pow4 {n : Nat} : 10 ^ 20 * 4 ^ n ≤ 10 ^ 20 * 4 ^ (n + 1) := Nat.mul_le_mul_left _ (Nat.pow_le_pow_right (by decide) (by omega))
theorem GoodT.up {n : Nat} {st : Stt} (g : GoodT n st) : GoodT (n + 1) st := ⟨g.gs, g.ns, g.ne, fun p hp => let ⟨s, h1, h2, h3, h4⟩ := g.es p hp; ⟨s, h1, h2, Nat.le_trans h3 pow4, h4⟩⟩
theorem good_entry {n : Nat} {st : Stt} (g : GoodI n st) {x y : Str} {sc : Sch} {row : List Int} (hx : isNameS x = true) (hm : x ∈ names) (hs : look st.sch x = none) (hy : look st.sch y = some sc) (hr : rowD sc (.tuple (row.map PyData.int)) = true) (hb : (val sc.base row).natAbs ≤ 10 ^ 20 * 4 ^ (n + 1)) (hl : row.length ≤ 500) : GoodI (n + 1) { st with ent := put st.ent x (y, row) } := by
  have gu := g.gt.up
  refine ⟨⟨gu.gs, gu.ns, fun p hp => ?_, fun p hp => ?_⟩, g.nds, put_nodup g.nde, g.ms, fun p hp => ?_, fun z hz => ?_⟩
  · rcases put_mem hp with h | rfl
    · exact gu.ne p h
    · exact hx
  · rcases put_mem hp with h | rfl
    · exact gu.es p h
    · exact ⟨sc, hy, hr, hb, hl⟩
  · rcases put_mem hp with h | rfl
    · exact g.me p h
    · exact hm
  · have c : z ≠ x := fun e => by
      have hz : (look st.sch z).isSome = true := hz
      rw [e, hs] at hz; cases hz
    show look (put st.ent x (y, row)) z = none
    rw [look_put_ne c]
    exact g.dis z hz
theorem good_written {n : Nat} {st st' : Stt} (g : GoodI n st) (hn : n ≤ 100) {x y : Str} {sc : Sch} {i : Int} (hx : isNameS x = true) (hm : x ∈ names) (hs : look st.sch x = none) (hy : look st.sch y = some sc) (hi : i.natAbs ≤ 10 ^ 20 * 4 ^ (n + 1)) (h : writtenDue st (.str x) (.str y) i = .done st') : GoodI (n + 1) st' := by
  rw [written_eq hy] at h
  cases e : wr sc i with
  | none => rw [e] at h; cases h
  | some row =>
    rw [e] at h
    cases h
    obtain ⟨h1, h2, h3⟩ := wr_ok (g.gt.gs _ (look_mem hy)) e
    refine good_entry g hx hm hs hy h1 (by rw [h2]; exact hi) ?_
    have h4 : i.natAbs < 2 ^ 300 := by
      have a1 : 4 ^ (n + 1) ≤ 4 ^ 101 := Nat.pow_le_pow_right (by omega) (by omega)
      have a2 : 10 ^ 20 * 4 ^ (n + 1) ≤ 10 ^ 20 * 4 ^ 101 := Nat.mul_le_mul_left _ a1
      have a3 : 10 ^ 20 * 4 ^ 101 < 2 ^ 300 := by decide +kernel
      omega
    have h5 : i.natAbs.log2 < 300 := by
      by_cases c : i.natAbs = 0
      · rw [c]; decide
      · exact (Nat.log2_lt c).mpr h4
    omega
theorem entry_ok {st : Stt} {d w : PyData} (h : entryDue st d w = none) (ha : AnyN d) : ∃ x y sc, d = .str x ∧ w = .str y ∧ look st.sch y = some sc ∧ isNameS x = true ∧ x ∈ names ∧ look st.sch x = none := by
  obtain ⟨h1, h2, x, y, sc, rfl, rfl, h3⟩ := entry_none h
  refine ⟨x, y, sc, rfl, rfl, h3, h1, any_name ha h1, ?_⟩
  have h2 : (look st.sch x).isSome = false := h2
  cases e : look st.sch x with
  | none => rfl
  | some _ => rw [e] at h2; cases h2
theorem ten_le {n : Nat} : 10 ^ 20 ≤ 10 ^ 20 * 4 ^ n := Nat.le_mul_of_pos_right _ (Nat.pow_pos (by decide))
theorem good_step {n : Nat} {st st' : Stt} (g : GoodI n st) (hn : n ≤ 100) {dd : Deed} (hd : DeedD dd) (hg : DeedG dd) (h : dueOut st dd = .done st') : GoodI (n + 1) st' := by
  have hok := hd.ok
  cases dd with
  | keep d mo d2 =>
    have h : keepDue st d mo d2 = .done st' := h
    unfold keepDue at h
    split at h
    · cases h
    · rename_i c1
      split at h
      · cases h
      · rename_i c2
        split at h
        · cases h
        · rename_i c3
          cases mo with
          | none => cases h
          | some sc =>
            cases d with
            | str x =>
              cases h
              have hx : isNameS x = true := by
                have c1 : ¬ isNameS x = false := c1
                simpa using c1
              have hm := any_name hd.1 hx
              have l1 : look st.sch x = none := by
                cases e : look st.sch x with
                | none => rfl
                | some _ => exact absurd (show (look st.sch x).isSome = true by rw [e]; rfl) c2
              have l2 : look st.ent x = none := by
                cases e : look st.ent x with
                | none => rfl
                | some _ => exact absurd (show (look st.ent x).isSome = true by rw [e]; rfl) c3
              have gu := g.gt.up
              refine ⟨⟨fun p hp => ?_, fun p hp => ?_, gu.ne, fun p hp => ?_⟩, put_nodup g.nds, g.nde, fun p hp => ?_, g.me, fun z hz => ?_⟩
              · rcases put_mem hp with h | rfl
                · exact gu.gs p h
                · exact hg
              · rcases put_mem hp with h | rfl
                · exact gu.ns p h
                · exact hx
              · obtain ⟨s, h1, h2, h3, h4⟩ := gu.es p hp
                refine ⟨s, ?_, h2, h3, h4⟩
                show look (put st.sch x sc) p.2.1 = some s
                rw [look_put l1, if_neg (fun e => by rw [e, l1] at h1; cases h1)]
                exact h1
              · rcases put_mem hp with h | rfl
                · exact g.ms p h
                · exact hm
              · show look st.ent z = none
                have hz : (look (put st.sch x sc) z).isSome = true := hz
                rw [look_put l1] at hz
                by_cases c : z = x
                · rw [c]; exact l2
                · rw [if_neg c] at hz
                  exact g.dis z hz
            | _ => cases h
  | put d w m =>
    have h : putDue st d w m = .done st' := h
    unfold putDue at h
    cases e : entryDue st d w with
    | some o =>
      obtain ⟨er, x, rfl⟩ := entry_no e
      rw [e] at h
      cases h
    | none =>
      rw [e] at h
      obtain ⟨x, y, sc, rfl, rfl, h3, h1, hm, h4⟩ := entry_ok e hd.1
      cases m with
      | int i => exact good_written g hn h1 hm h4 h3 (Nat.le_trans (hok.2 i rfl) ten_le) h
      | _ => cases h
  | lay d w l =>
    have h : layDue st d w l = .done st' := h
    cases e : entryDue st d w with
    | some o =>
      obtain ⟨er, x, rfl⟩ := entry_no e
      unfold layDue at h
      rw [e] at h
      cases h
    | none =>
      obtain ⟨x, y, sc, rfl, rfl, h3, h1, hm, h4⟩ := entry_ok e hd.1
      rw [lay_eq e h3] at h
      split at h
      · rename_i c
        cases h
        obtain ⟨row, rfl⟩ := rowD_row c
        rw [rowOf_ints]
        have gs := g.gt.gs _ (look_mem h3)
        have hl := hok.2.2 _ rfl
        rw [List.length_map] at hl
        have hb := isBase_bd gs.base
        have hv := val_bd (b := sc.base) ⟨hb.1, hb.2.1⟩ row.length row rfl (fun d hd => (row_small gs c d hd).2)
        refine good_entry g h1 hm h4 h3 c ?_ (by omega)
        have a1 : 2 ^ (3 * row.length + 4) ≤ 2 ^ 46 := Nat.pow_le_pow_right (by decide) (by omega)
        have a2 : 2 ^ 46 ≤ 10 ^ 20 := by decide
        have a3 : 10 ^ 20 ≤ 10 ^ 20 * 4 ^ (n + 1) := ten_le
        omega
      · cases h
  | move d w =>
    have h : moveDue st d w = .done st' := h
    unfold moveDue at h
    cases e1 : lookD st.ent d with
    | none => rw [e1] at h; cases h
    | some en =>
      rw [e1] at h
      cases e2 : lookD st.sch w with
      | none =>
        have h : (match lookD st.sch w with | none => Out.no .unk w | some _ => writtenDue st d w (numOf st en)) = .done st' := h
        rw [e2] at h; cases h
      | some sc =>
        have h : (match lookD st.sch w with | none => Out.no .unk w | some _ => writtenDue st d w (numOf st en)) = .done st' := h
        rw [e2] at h
        cases d with
        | str x =>
          cases w with
          | str y =>
            have hen : look st.ent x = some en := e1
            have hxm := look_mem hen
            obtain ⟨s9, h1, h2, h3, h4⟩ := g.gt.es _ hxm
            have e9 : numOf st en = val s9.base en.2 := by
              show (match look st.sch en.1 with | some s => val s.base en.2 | none => 0) = _
              rw [h1]
            have hs : look st.sch x = none := by
              cases q : look st.sch x with
              | none => rfl
              | some _ =>
                have := g.dis x (by rw [q]; rfl)
                rw [hen] at this
                cases this
            exact good_written g hn (g.gt.ne _ hxm) (g.me _ hxm) hs e2 (by rw [e9]; exact Nat.le_trans h3 pow4) h
          | _ => cases e2
        | _ => cases e1
  | reckon d w t =>
    have h : reckonDue st d w t = .done st' := h
    unfold reckonDue at h
    cases e : entryDue st d w with
    | some o =>
      obtain ⟨er, x, rfl⟩ := entry_no e
      rw [e] at h
      cases h
    | none =>
      rw [e] at h
      obtain ⟨x, y, sc, rfl, rfl, h3, h1, hm, h4⟩ := entry_ok e hd.1
      cases e2 : termsErr st t with
      | some er =>
        have h : (match termsErr st t with | some e => Out.no e.1 e.2 | none => writtenDue st (.str x) (.str y) (termsSum st t)) = .done st' := h
        rw [e2] at h; cases h
      | none =>
        have h : (match termsErr st t with | some e => Out.no e.1 e.2 | none => writtenDue st (.str x) (.str y) (termsSum st t)) = .done st' := h
        rw [e2] at h
        obtain ⟨l, rfl, _, hl2, ht, he⟩ := te_none e2
        exact good_written g hn h1 hm h4 h3 (terms_bd g.gt hl2 ht he) h
  | drop d =>
    have h : dropDue st d = .done st' := h
    cases d with
    | str x =>
      have h : (if ((look st.sch x).isNone && (look st.ent x).isNone) = true then Out.no .unk (.str x) else if st.ent.any (fun p => decide (p.2.1 = x)) = true then .no .inUse (.str x) else .done ⟨dropN st.sch x, dropN st.ent x⟩) = .done st' := h
      split at h
      · cases h
      · split at h
        · cases h
        · rename_i c1 c2
          cases h
          have gu := g.gt.up
          refine ⟨⟨fun p hp => gu.gs p (drop_sub hp), fun p hp => gu.ns p (drop_sub hp), fun p hp => gu.ne p (drop_sub hp), fun p hp => ?_⟩, drop_nodup g.nds, drop_nodup g.nde, fun p hp => g.ms p (drop_sub hp), fun p hp => g.me p (drop_sub hp), fun z hz => ?_⟩
          · obtain ⟨s, h1, h2, h3, h4⟩ := gu.es p (drop_sub hp)
            refine ⟨s, ?_, h2, h3, h4⟩
            show look (dropN st.sch x) p.2.1 = some s
            have hne : p.2.1 ≠ x := fun e => c2 (List.any_eq_true.mpr ⟨p, drop_sub hp, decide_eq_true e⟩)
            rw [look_drop, if_neg hne]
            exact h1
          · show look (dropN st.ent x) z = none
            have hz : (look (dropN st.sch x) z).isSome = true := hz
            rw [look_drop] at hz ⊢
            by_cases c : z = x
            · rw [if_pos c]
            · rw [if_neg c] at hz ⊢
              exact g.dis z hz
    | _ => cases h
  | undo => cases h
theorem good0 : GoodI 0 ⟨[], []⟩ := ⟨⟨by simp, by simp, by simp, by simp⟩, by simp, by simp, by simp, by simp, fun x h => by cases h⟩
end K75
set_option maxHeartbeats 400000
namespace K75
open PySem PySem.Spec PyProof.Rows L2
/-! ### what is told can be shown -/
structure ShB (dep blk : Nat) (d : PyData) : Prop where
  sh : d.showable = true
  nd : d.hasDict = false
  dp : d.depth ≤ dep
  ls : d.leavesShort 310 = true
  bk : d.bulk ≤ blk
def shB (dep blk : Nat) (d : PyData) : Bool := d.showable && !d.hasDict && decide (d.depth ≤ dep) && d.leavesShort 310 && decide (d.bulk ≤ blk)
theorem shB_ok {dep blk : Nat} {d : PyData} (h : shB dep blk d = true) : ShB dep blk d := by
  unfold shB at h
  simp only [Bool.and_eq_true, Bool.not_eq_true', decide_eq_true_eq] at h
  obtain ⟨⟨⟨⟨h1, h2⟩, h3⟩, h4⟩, h5⟩ := h
  exact ⟨h1, h2, h3, h4, h5⟩
theorem ShB.mono {a b a' b' : Nat} {d : PyData} (h : ShB a b d) (h1 : a ≤ a') (h2 : b ≤ b') : ShB a' b' d := ⟨h.sh, h.nd, Nat.le_trans h.dp h1, h.ls, Nat.le_trans h.bk h2⟩
theorem ShB.int {i : Int} (h : i.natAbs < 2 ^ 1000) : ShB 0 0 (.int i) := by
  refine ⟨?_, by simp [PyData.hasDict], by simp [PyData.depth], ?_, by simp [PyData.bulk]⟩
  · simp only [PyData.showable, decide_eq_true_eq]
    by_cases c : i.natAbs = 0
    · rw [c]; decide
    · have := (Nat.log2_lt c).mpr h
      omega
  · simp only [PyData.leavesShort, decide_eq_true_eq, PyData.shown]
    have h2 : i.natAbs < 10 ^ 302 := by
      have : 2 ^ 1000 < 10 ^ 302 := by decide +kernel
      omega
    have e := int_text_length_le10 (k := 302) (by decide) h2
    refine decide_eq_true ?_
    clear h h2
    rw [PySem.ofString_length]
    omega
theorem ShB.all {a b : Nat} : ∀ {l : List PyData}, (∀ x ∈ l, ShB a b x) → PyData.showableAll l = true ∧ PyData.hasDictAll l = false ∧ PyData.depthAll l ≤ a ∧ PyData.leavesShortAll 310 l = true ∧ PyData.bulkAll l ≤ l.length * (b + 1)
  | [], _ => ⟨by simp [PyData.showableAll], by simp [PyData.hasDictAll], by simp [PyData.depthAll], by simp [PyData.leavesShortAll], by simp [PyData.bulkAll]⟩
  | x :: l, h => by
    obtain ⟨h1, h2, h3, h4, h5⟩ := ShB.all fun y hy => h y (List.mem_cons_of_mem _ hy)
    have hx := h x List.mem_cons_self
    refine ⟨by simp [PyData.showableAll, hx.sh, h1], by simp [PyData.hasDictAll, hx.nd, h2], ?_, by simp [PyData.leavesShortAll, hx.ls, h4], ?_⟩
    · simp only [PyData.depthAll]
      have := hx.dp
      omega
    · simp only [PyData.bulkAll, List.length_cons, Nat.add_mul, Nat.one_mul]
      have := hx.bk
      simp only [Nat.mul_add, Nat.mul_one] at h5
      rw [Nat.mul_add, Nat.mul_one]
      omega
theorem ShB.list {a b n : Nat} {l : List PyData} (h : ∀ x ∈ l, ShB a b x) (hl : l.length ≤ n) : ShB (a + 1) (n * (b + 1)) (.list l) := by
  obtain ⟨h1, h2, h3, h4, h5⟩ := ShB.all h
  have h6 : l.length * (b + 1) ≤ n * (b + 1) := Nat.mul_le_mul_right _ hl
  exact ⟨by simp [PyData.showable, h1], by simp [PyData.hasDict, h2], by simp only [PyData.depth]; omega, by simp [PyData.leavesShort, h4], by simp only [PyData.bulk]; omega⟩
theorem ShB.tup {a b n : Nat} {l : List PyData} (h : ∀ x ∈ l, ShB a b x) (hl : l.length ≤ n) : ShB (a + 1) (n * (b + 1)) (.tuple l) := by
  obtain ⟨h1, h2, h3, h4, h5⟩ := ShB.all h
  have h6 : l.length * (b + 1) ≤ n * (b + 1) := Nat.mul_le_mul_right _ hl
  exact ⟨by simp [PyData.showable, h1], by simp [PyData.hasDict, h2], by simp only [PyData.depth]; omega, by simp [PyData.leavesShort, h4], by simp only [PyData.bulk]; omega⟩
theorem shB_fits {d : PyData} (h : ShB 5 2000 d) : d.shown.length ≤ sizeLine := by
  have h1 := PyData.shown_le_bulk 310 (by decide) d h.ls
  have h2 : (310 + 2) * d.bulk ≤ (310 + 2) * 2000 := Nat.mul_le_mul_left _ h.bk
  rw [sizeLine_eq]
  omega
/-- shallow, short -/
abbrev ShD (d : PyData) : Prop := ShB 3 400 d
theorem AnyN.shb {d : PyData} (h : AnyN d) : ShB 1 20 d := by
  rcases h with h | ⟨x, rfl, hx⟩
  · have key : ∀ z ∈ odds, shB 1 20 z = true := by decide +kernel
    exact shB_ok (key d h)
  · have key : ∀ z ∈ names, shB 1 20 (.str z) = true := by decide +kernel
    exact shB_ok (key x hx)
theorem AnyN.sh {d : PyData} (h : AnyN d) : ShD d := h.shb.mono (by decide) (by decide)
theorem small_int {i : Int} (h : i.natAbs ≤ 10 ^ 20) : ShB 0 0 (.int i) := .int (big1 h)
theorem NumD.sh {d : PyData} (h : NumD d) : ShD d := by
  rcases h with ⟨i, rfl, h⟩ | rfl | rfl | rfl | ⟨i, rfl, h⟩
  · exact (small_int h).mono (by decide) (by decide)
  · exact shB_ok (by decide +kernel)
  · exact shB_ok (by decide +kernel)
  · exact shB_ok (by decide +kernel)
  · exact (ShB.list (n := 1) (fun x hx => by rw [List.mem_singleton] at hx; rw [hx]; exact small_int h) (by simp)).mono (by decide) (by decide)
theorem tiny {i : Int} (h : i.natAbs ≤ 10) : ShB 1 20 (.int i) := (small_int (Nat.le_trans h (by decide))).mono (by decide) (by decide)
theorem LineD.sh {d : PyData} (h : LineD d) : ShD d := by
  rcases h with ⟨l, e, hl, ht⟩ | rfl | rfl
  · have key : ∀ x ∈ l, ShB 1 20 x := fun x hx => by
      rcases ht x hx with ⟨i, rfl, hi⟩ | rfl
      · exact tiny hi
      · exact shB_ok (by decide +kernel)
    rcases e with rfl | rfl
    · exact (ShB.tup key hl).mono (by decide) (by decide)
    · exact (ShB.list key hl).mono (by decide) (by decide)
  · exact shB_ok (by decide +kernel)
  · exact shB_ok (by decide +kernel)
theorem two_sh {i : Int} {d : PyData} (h : i.natAbs ≤ 3) (hd : AnyN d) : ∀ x ∈ ([.int i, d] : List PyData), ShB 1 20 x := fun x hx => by
  simp only [List.mem_cons, List.not_mem_nil, or_false] at hx
  rcases hx with rfl | rfl
  · exact tiny (by omega)
  · exact hd.shb
theorem ItemD.shb {x : PyData} (h : ItemD x) : ShB 2 42 x := by
  rcases h with ⟨i, d, e, hi, hd⟩ | rfl
  · rcases e with rfl | rfl
    · exact (ShB.tup (n := 2) (two_sh hi hd) (by simp)).mono (by decide) (by decide)
    · exact (ShB.list (n := 2) (two_sh hi hd) (by simp)).mono (by decide) (by decide)
  · exact shB_ok (by decide +kernel)
theorem ItemD.name {x : PyData} (h : ItemD x) : ShD (termN x) := by
  rcases h with ⟨i, d, e, hi, hd⟩ | rfl
  · rcases e with rfl | rfl
    · exact hd.sh
    · exact (shB_ok (by decide +kernel) : ShD .none)
  · exact shB_ok (by decide +kernel)
theorem PartsD.sh {t : PyData} (h : PartsD t) : ShD t := by
  rcases h with rfl | rfl | ⟨l, rfl, hl, hi⟩
  · exact shB_ok (by decide +kernel)
  · exact shB_ok (by decide +kernel)
  · exact (ShB.list (n := 6) (fun x hx => (hi x hx).shb) hl).mono (by decide) (by decide)
theorem entry_sh {st : Stt} {d w : PyData} {e : Err} {x : PyData} (h : entryDue st d w = some (.no e x)) (hd : ShD d) (hw : ShD w) : ShD x := by
  rcases entry_some h with ⟨_, h⟩ | ⟨_, _, h⟩ | ⟨_, _, _, h⟩ <;> cases h
  · exact hd
  · exact hd
  · exact hw
theorem written_sh {st : Stt} {d w : PyData} {i : Int} {e : Err} {x : PyData} (h : writtenDue st d w i = .no e x) (hw : ShD w) (hi : i.natAbs < 2 ^ 1000) : ShD x := by
  unfold writtenDue at h
  have h0 := (ShB.int hi).mono (a' := 3) (b' := 400) (by decide) (by decide)
  repeat' split at h
  all_goals first
    | (cases h; done)
    | (cases h; exact h0)
    | (cases h; exact hw)
theorem terms_sh {st : Stt} {t : PyData} {e : Err × PyData} (h : termsErr st t = some e) (ht : PartsD t) : ShD e.2 := by
  have hs := ht.sh
  cases t with
  | list l =>
    have hi : ∀ x ∈ l, ItemD x := by
      rcases ht with h | h | ⟨l', e', _, hi⟩
      · cases h
      · cases h
      · cases e'; exact hi
    have t2 : te2 st l = some e → ShD e.2 := fun h => by
      unfold te2 at h
      cases q : l.find? (fun t => (lookD st.ent (termN t)).isNone) with
      | none => rw [q] at h; cases h
      | some z => rw [q] at h; cases h; exact (hi z (List.mem_of_find?_eq_some q)).name
    have t1 : te1 st l = some e → ShD e.2 := fun h => by
      unfold te1 at h
      cases q : l.find? (fun t => !isTerm t) with
      | none => rw [q] at h; exact t2 h
      | some z => rw [q] at h; cases h; exact (hi z (List.mem_of_find?_eq_some q)).shb.mono (by decide) (by decide)
    have h : (if 1 ≤ l.length ∧ l.length ≤ 2 then te1 st l else some (.iTerms, .list l)) = some e := h
    split at h
    · exact t1 h
    · cases h; exact hs
  | _ => cases h; exact hs
theorem out_sh {n : Nat} {st : Stt} (g : GoodI n st) (hn : n ≤ 100) {dd : Deed} (hd : DeedD dd) {e : Err} {x : PyData} (h : dueOut st dd = .no e x) : ShD x := by
  cases dd with
  | keep d mo d2 =>
    have h : keepDue st d mo d2 = .no e x := h
    unfold keepDue at h
    split at h
    · cases h; exact hd.1.sh
    · split at h
      · cases h; exact hd.1.sh
      · split at h
        · cases h; exact hd.1.sh
        · cases mo with
          | none =>
            cases h
            have key : ∀ z ∈ oddS, shB 3 400 z = true := by decide +kernel
            exact shB_ok (key _ (hd.2 rfl))
          | some sc =>
            cases d with
            | str x => cases h
            | _ => cases h; exact hd.1.sh
  | put d w m =>
    have h : putDue st d w m = .no e x := h
    unfold putDue at h
    cases e1 : entryDue st d w with
    | some o =>
      rw [e1] at h
      have h : o = .no e x := h
      rw [h] at e1
      exact entry_sh e1 hd.1.sh hd.2.1.sh
    | none =>
      rw [e1] at h
      cases m with
      | int i => exact written_sh h hd.2.1.sh (big1 (hd.ok.2 i rfl))
      | _ => cases h; exact hd.2.2.sh
  | lay d w l =>
    have h : layDue st d w l = .no e x := h
    cases e1 : entryDue st d w with
    | some o =>
      unfold layDue at h
      rw [e1] at h
      have h : o = .no e x := h
      rw [h] at e1
      exact entry_sh e1 hd.1.sh hd.2.1.sh
    | none =>
      obtain ⟨_, _, y1, y2, sc, rfl, rfl, h3⟩ := entry_none e1
      rw [lay_eq e1 h3] at h
      split at h
      · cases h
      · cases h; exact hd.2.2.sh
  | move d w =>
    have h : moveDue st d w = .no e x := h
    unfold moveDue at h
    cases e1 : lookD st.ent d with
    | none => rw [e1] at h; cases h; exact hd.1.sh
    | some en =>
      rw [e1] at h
      have h : (match lookD st.sch w with | none => Out.no .unk w | some _ => writtenDue st d w (numOf st en)) = .no e x := h
      cases e2 : lookD st.sch w with
      | none => rw [e2] at h; cases h; exact hd.2.sh
      | some sc =>
        rw [e2] at h
        refine written_sh h hd.2.sh ?_
        cases d with
        | str y =>
          have hen : look st.ent y = some en := e1
          obtain ⟨s9, h1, h2, h3, h4⟩ := g.gt.es _ (look_mem hen)
          have e9 : numOf st en = val s9.base en.2 := by
            show (match look st.sch en.1 with | some s => val s.base en.2 | none => 0) = _
            rw [h1]
          rw [e9]
          exact num_small (by omega) h3
        | _ => cases e1
  | reckon d w t =>
    have h : reckonDue st d w t = .no e x := h
    unfold reckonDue at h
    cases e1 : entryDue st d w with
    | some o =>
      rw [e1] at h
      have h : o = .no e x := h
      rw [h] at e1
      exact entry_sh e1 hd.1.sh hd.2.1.sh
    | none =>
      rw [e1] at h
      have h : (match termsErr st t with | some e => Out.no e.1 e.2 | none => writtenDue st d w (termsSum st t)) = .no e x := h
      cases e2 : termsErr st t with
      | some er =>
        rw [e2] at h
        injection h with _ h
        rw [← h]
        exact terms_sh e2 hd.2.2
      | none =>
        rw [e2] at h
        obtain ⟨l, rfl, _, hl2, ht, he⟩ := te_none e2
        exact written_sh h hd.2.1.sh (num_small (by omega) (terms_bd g.gt hl2 ht he))
  | drop d =>
    have h : dropDue st d = .no e x := h
    cases d with
    | str z =>
      have h : (if ((look st.sch z).isNone && (look st.ent z).isNone) = true then Out.no .unk (.str z) else if st.ent.any (fun p => decide (p.2.1 = z)) = true then .no .inUse (.str z) else .done ⟨dropN st.sch z, dropN st.ent z⟩) = .no e x := h
      have hd : AnyN (.str z) := hd
      split at h
      · cases h; exact hd.sh
      · split at h <;> cases h
        exact hd.sh
    | _ => cases h; exact AnyN.sh hd
  | undo => cases h; exact shB_ok (by decide +kernel)
/-- [tag, value] can be shown -/
theorem told_sh (e : Err) {x : PyData} (h : ShD x) : ShB 4 802 (.list [.str (tagE e), x]) := by
  have ht : ShB 3 400 (.str (tagE e)) := by
    have key : ∀ z ∈ ([.iName, .taken, .notS, .unk, .iNum, .notW, .iRow, .iTerms, .iTerm, .inUse, .noth] : List Err), shB 3 400 (.str (tagE z)) = true := by decide +kernel
    exact shB_ok (key e (by cases e <;> simp))
  exact ShB.list (n := 2) (l := [.str (tagE e), x]) (fun y hy => by
    rcases List.mem_cons.mp hy with rfl | hy
    · exact ht
    · rw [List.mem_singleton] at hy
      rw [hy]
      exact h) (Nat.le_refl 2)
theorem done_sh : ShB 4 802 (.list [.str "done", .none]) := shB_ok (by decide +kernel)
theorem noth_sh : ShB 4 802 (.list [.str "nothing"]) := shB_ok (by decide +kernel)
end K75
set_option maxHeartbeats 400000
namespace K75
open PySem PySem.Spec PyProof.Rows L2
abbrev s__law_writers_right : Stmt := top 86
theorem sc__law_writers_right : FnScope ["_law_book", "_law_state", "_law_turn", "_law_labels", "_law_label", "_law_number_here", "_law_due_here", "_law_spot"] ["_law_book", "_law_state", "_law_turn"] (defScope s__law_writers_right) := ⟨rfl, rfl, rfl, by decide +kernel, rfl, by decide +kernel, by decide +kernel⟩
/-! #### sorted texts -/
theorem cps_anti : ∀ {a b : List Nat}, ltCps a b = false → ltCps b a = false → a = b
  | [], [], _, _ => rfl
  | [], _ :: _, h, _ => by cases h
  | _ :: _, [], _, h => by cases h
  | x :: a, y :: b, h1, h2 => by
    simp only [ltCps, Bool.or_eq_false_iff, Bool.and_eq_false_iff, decide_eq_false_iff_not, beq_eq_false_iff_ne] at h1 h2
    have e : x = y := by omega
    subst e
    rw [cps_anti (h1.2.resolve_left (fun h => h rfl)) (h2.2.resolve_left (fun h => h rfl))]
theorem cps_trans : ∀ {a b c : List Nat}, ltCps b a = false → ltCps c b = false → ltCps c a = false
  | _, _, [], h1, h2 => by
    rename_i a b
    cases b with
    | nil => exact h1
    | cons y b => cases h2
  | [], _, _ :: _, _, _ => rfl
  | x :: a, [], z :: c, h1, _ => by cases h1
  | x :: a, y :: b, z :: c, h1, h2 => by
    simp only [ltCps, Bool.or_eq_false_iff, Bool.and_eq_false_iff, decide_eq_false_iff_not, beq_eq_false_iff_ne] at h1 h2 ⊢
    refine ⟨by omega, ?_⟩
    by_cases e : z = x
    · right
      have e1 : y = x := by omega
      have e2 : z = y := by omega
      exact cps_trans (h1.2.resolve_left (fun h => h e1)) (h2.2.resolve_left (fun h => h e2))
    · exact .inl e
def leS (x y : Str) : Prop := ltCps y.cps.toList x.cps.toList = false
theorem leS_anti {x y : Str} (h1 : leS x y) (h2 : leS y x) : x = y := by
  have h := cps_anti h2 h1
  obtain ⟨a⟩ := x
  obtain ⟨b⟩ := y
  have h : a.toList = b.toList := h
  rw [Array.toList_inj.mp h]
theorem rising_pw : ∀ {l : List Str} {p : Str}, risingS p l = true → (p :: l).Pairwise leS
  | [], p, _ => List.pairwise_singleton _ _
  | x :: r, p, h => by
    have h : (!ltCps x.cps.toList p.cps.toList && risingS x r) = true := h
    rw [Bool.and_eq_true, Bool.not_eq_true'] at h
    have ih := rising_pw h.2
    refine List.pairwise_cons.mpr ⟨fun y hy => ?_, ih⟩
    rcases List.mem_cons.mp hy with rfl | hy
    · exact h.1
    · exact cps_trans h.1 ((List.pairwise_cons.mp ih).1 y hy)
theorem sorted_pw : ∀ {l : List Str}, sortedS l = true → l.Pairwise leS
  | [], _ => .nil
  | x :: r, h => rising_pw h
theorem pw_eq : ∀ {l m : List Str}, l.Pairwise leS → m.Pairwise leS → l.Perm m → l = m
  | [], m, _, _, p => (List.nil_perm.mp p).symm
  | x :: l, [], _, _, p => by have := p.length_eq; simp at this
  | x :: l, y :: m, h1, h2, p => by
    obtain ⟨a1, a2⟩ := List.pairwise_cons.mp h1
    obtain ⟨b1, b2⟩ := List.pairwise_cons.mp h2
    have e : x = y := by
      rcases List.mem_cons.mp (p.mem_iff.mp (List.mem_cons_self : x ∈ x :: l)) with h | h
      · exact h
      · rcases List.mem_cons.mp (p.mem_iff.mpr (List.mem_cons_self : y ∈ y :: m)) with h' | h'
        · exact h'.symm
        · exact leS_anti (a1 y h') (b1 x h)
    subst e
    rw [pw_eq a2 b2 (List.Perm.cons_inv p)]
theorem sorted_uniq {l m ks : List Str} (hl : l.Perm ks) (hm : m.Perm ks) (sl : sortedS l = true) (sm : sortedS m = true) : l = m := pw_eq (sorted_pw sl) (sorted_pw sm) (hl.trans hm.symm)
theorem strs_dp {K : PySem.W.Frag} {F : Hp} : ∀ ys : List Str, DpAll K F (ys.map V.str) (ys.map PyData.str)
  | [] => .nil
  | _ :: l => .cons (.str _) (strs_dp l)
theorem names_in {n : Nat} {st : Stt} (g : GoodI n st) {ys : List Str} (h : ys.Perm (st.sch.map (·.1))) : ∀ x ∈ ys, x ∈ names := fun x hx => by
  obtain ⟨p, hp, rfl⟩ := List.mem_map.mp (h.mem_iff.mp hx)
  exact g.ms p hp
theorem names_inE {n : Nat} {st : Stt} (g : GoodI n st) {ys : List Str} (h : ys.Perm (st.ent.map (·.1))) : ∀ x ∈ ys, x ∈ names := fun x hx => by
  obtain ⟨p, hp, rfl⟩ := List.mem_map.mp (h.mem_iff.mp hx)
  exact g.me p hp
theorem names_shaped {ys : List Str} (h : ∀ x ∈ ys, x ∈ names) : SeqAt.shaped (.list (ys.map PyData.str)) = true := strsL_shaped ys fun x hx => names_ok x (h x hx)
theorem eqv_same {d : PyData} (h : SeqAt.shaped d = true) : PyData.eqv d d = true := SeqAt.eqv_refl d (SeqAt.canLay_of_shaped h)
theorem lookD_of {α : Type} {l : List (Str × α)} {x : Str} (h : x ∈ l.map (·.1)) : ∃ s, look l x = some s := by
  have : (look l x).isSome = true := by
    rw [look_isSome, List.any_eq_true]
    obtain ⟨p, hp, e⟩ := List.mem_map.mp h
    exact ⟨p, hp, decide_eq_true e⟩
  exact Option.isSome_iff_exists.mp this
theorem num_bd {n : Nat} {st : Stt} (gt : GoodT n st) {x : Str} {en : Str × List Int} (h : look st.ent x = some en) : (numOf st en).natAbs ≤ 10 ^ 20 * 4 ^ n := by
  obtain ⟨s9, h1, h2, h3, h4⟩ := gt.es _ (look_mem h)
  have e9 : numOf st en = val s9.base en.2 := by
    show (match look st.sch en.1 with | some s => val s.base en.2 | none => 0) = _
    rw [h1]
  rw [e9]
  exact h3
section
variable {P : Program} {w : World} {K : PySem.W.Frag} {mg : Str → Option Value} {base : Heap} (B : Blt mg) {CS CB : Addr} {XA : EA} (C : SchC K mg CS) (CBk : BkC K mg CB)
include B C CBk
def sp_l_writers_right (K : PySem.W.Frag) (CS CB : Addr) : Sp := fun vs H Q _ => ∃ n, ∃ t : Nat, ∃ M b dsb deb pl ksb keb st a ds de ks ke, vs = [.ref b, .ref a, .int (t : Int)] ∧ BkW K CS CB H b dsb deb pl ksb keb st ∧ Mok M H ∧ LStR K false (fr M H) a ds de ks ke st ∧ GoodI n st ∧ n ≤ 100 ∧ ∀ H', Same H H' → Q (.bl true) H'
theorem ok_l_writers_right (D : FnD K mg "_law_writers_right" s__law_writers_right [] []) (F__law_number_of : Fn P w K mg base "_law_number_of" 2 (sp_l_number_of K)) (F__law_made : Fn P w K mg base "_law_made" 6 (sp_l_made K CS)) (F_is_written : Fn P w K mg base "is_written" 8 (sp_is_written K CS)) (F_writers : Me P w K mg base CB "writers" 9 (sp_writers K CS CB)) : Fn P w K mg base "_law_writers_right" 10 (sp_l_writers_right K CS CB) := by
  refine D.fn sc__law_writers_right (fun _ _ _ _ _ _ us hl => match us, hl with | [_, _, _], _ => rfl) (fun vs H Q E h => ?_) (fun f cdv A outer s H vs Q E hr h => ?_)
  · obtain ⟨_, _, _, _, _, _, _, _, _, _, _, _, _, _, _, rfl, _⟩ := h
    rfl
  · obtain ⟨n, t, M, b, dsb, deb, pl, ksb, keb, st, a, ds, de, ks, ke, rfl, W, mok, L, gi, hn, q⟩ := h
    refine ⟨_, (pss_cons (ps_set (i := 3) sc__law_writers_right.nd rfl (.inl rfl) (pe_callB (call_sortedD rfl) (by rfl) B.sorted (by decide +kernel) (pa_cons (pe_dget (hu_of hr) (pv 1) pe_str (fun _ _ => rfl)) pa_nil))) (pss_cons (ps_if (pt_cmpR (op_eqD hr.units) (pv 3) (pe_lst pa_nil) (nomark _)) (pss_one (ps_ret pe_bl)) pss_nil) (pss_cons (ps_set (i := 4) sc__law_writers_right.nd rfl (.inl rfl) (pe_ix ix_list (pv 3) (pe_op op_modN (pe_callTy call_int1 (by rfl) B.int (by decide +kernel) (pa_cons (pv 2) pa_nil)) (pe_callB call_len (by rfl) B.len (by decide +kernel) (pa_cons (pv 3) pa_nil))) (fun _ _ => rfl))) (pss_cons (ps_set (i := 5) sc__law_writers_right.nd rfl (.inr rfl) (c0 F__law_number_of hr (pa_cons (pv 1) (pa_cons (pv 4) pa_nil)))) (pss_cons (ps_if (pt_cmpR op_gt (pe_callB call_abs (by rfl) B.abs (by decide +kernel) (pa_cons (pv 5) pa_nil)) (pe_op op_pow pe_int pe_int) (nomark _)) (pss_one (ps_ret pe_bl)) pss_nil) (pss_cons (ps_setLc (i := 6) rfl sc__law_writers_right.nd rfl rfl (sw_true rfl rfl rfl (by decide +kernel)) (own := [("_law_spot", 7)]) (g := gName 7) (tt := _) (pi_list (pe_callB (call_sortedD rfl) (by rfl) B.sorted (by decide +kernel) (pa_cons (pe_dget (hu_of hr) (pv 1) pe_str (fun _ _ => rfl)) pa_nil))) (blkOk_by (N := ["_law_book", "_law_state", "_law_turn", "_law_labels", "_law_label", "_law_number_here", "_law_due_here", "_law_spot"]) (sc := defScope s__law_writers_right) (by decide +kernel)) (fun _ _ _ _ _ => (pg_name (i := 7) sc__law_writers_right.nd rfl (.inl rfl))) (fun _ _ _ _ _ => (pts_one (pt_val (c0 F_is_written hr (pa_cons (c0 F__law_made hr (pa_cons (pe_dget (hu_of hr) (pe_dget (hu_of hr) (pv 1) pe_str (fun _ _ => rfl)) (pv 7) (fun _ _ => rfl)) pa_nil)) (pa_cons (pv 5) pa_nil)))))) (fun _ _ _ _ _ => (pv 7))) (pss_one (ps_ret (pe_cmpR (op_eqD hr.units) (mE F_writers hr CBk.cl passL (pv 0) (pa_cons (pv 4) pa_nil)) (pv 6) (nomark _)))))))))), ?_⟩
    have hz1 := gi.ls
    have hz2 := gi.le
    obtain ⟨dx, hb⟩ := W.ins
    have LH := L.le (fr_le M H)
    refine ⟨_, rfl, a, _, rfl, LH.gE, de, ke, st.ent.map (·.1), rfl, LH.re.rd, LH.ae.keys, by rw [List.length_map]; omega, fun ys p hp hs np => ?_⟩
    have s1 := same_new (o := .lst (ys.map V.str)) np
    have hp1 : (upd H p (.lst (ys.map V.str))) p = some (.lst (ys.map V.str)) := upd_same
    generalize upd H p (.lst (ys.map V.str)) = H1 at *
    refine ⟨_, rfl, by show 0 ≤ sizeLine; decide, fun l0 n0 => ⟨.list (ys.map PyData.str), .list [], .lst (.inl (.inl (same_new (o := .lst []) n0 _ _ hp1))) (strs_dp ys), .lst (.inl (.inl upd_same)) .nil, names_shaped (names_inE gi hp), by decide, _, rfl, ?_⟩⟩
    have s2 := s1.trans (same_new (o := .lst []) n0)
    have hp2 := same_new (o := .lst []) n0 _ _ hp1
    generalize upd H1 l0 (.lst []) = H2 at *
    rw [eqv_nil, List.isEmpty_map]
    refine ite2 (fun c => ?_) fun c => ?_
    · exact q H2 s2
    · have hpos : 0 < ys.length := by
        cases ys with
        | nil => exact absurd rfl c
        | cons _ _ => simp
      have f1 : 0 ≤ (t : Int).fmod (ys.length : Int) := Int.fmod_nonneg_of_pos _ (by omega)
      have f2 : (t : Int).fmod (ys.length : Int) < (ys.length : Int) := Int.fmod_lt_of_pos _ (by omega)
      have hj : ((t : Int).fmod (ys.length : Int)).toNat < ys.length := by omega
      have ha : atI (ys.map V.str) ((t : Int).fmod ((ys.map V.str).length : Int)) = some (.str ys[((t : Int).fmod (ys.length : Int)).toNat]) := by
        rw [List.length_map]
        unfold atI ixN
        rw [if_pos f1, if_pos (by rw [List.length_map]; exact f2)]
        show (ys.map V.str)[((t : Int).fmod (ys.length : Int)).toNat]? = _
        rw [List.getElem?_map, List.getElem?_eq_getElem hj]
        rfl
      have hxm : ys[((t : Int).fmod (ys.length : Int)).toNat] ∈ ys := List.getElem_mem hj
      generalize ys[((t : Int).fmod (ys.length : Int)).toNat] = x at *
      refine ⟨_, rfl, _, rfl, .inl ⟨_, rfl, _, rfl, _, _, rfl, .inl ⟨_, .inl (.inl hp2), rfl⟩, _, _, rfl, rfl, by show ((ys.map V.str).length : Int) ≠ 0; rw [List.length_map]; omega, p, _, _, .str x, rfl, rfl, .inl (.inl hp2), ha, ?_⟩⟩
      obtain ⟨en, hen⟩ := lookD_of (hp.mem_iff.mp hxm)
      have L2 := LH.le (Le.of s2)
      refine ⟨_, rfl, _, rfl, n, a, ds, de, ks, ke, st, x, en, rfl, L2, gi.gt, hen, ?_⟩
      refine ⟨_, rfl, _, rfl, _, _, rfl, rfl, ⟨by decide, by decide, by decide⟩, _, _, rfl, rfl, _, rfl, ?_⟩
      refine ite2 (fun c2 => ?_) fun c2 => ?_
      · exact q H2 s2
      · have hnb : (numOf st en).natAbs < 2 ^ 1000 := num_small (by omega) (num_bd gi.gt hen)
        refine ⟨_, rfl, a, _, rfl, L2.gS, ds, ks, st.sch.map (·.1), rfl, L2.rs.rd, L2.as.keys, by rw [List.length_map]; omega, fun zs pz hpz hsz npz => ?_⟩
        have s3 := s2.trans (same_new (o := .lst (zs.map V.str)) npz)
        have hz3 : (upd H2 pz (.lst (zs.map V.str))) pz = some (.lst (zs.map V.str)) := upd_same
        generalize upd H2 pz (.lst (zs.map V.str)) = H3 at *
        have mok3 := mok.same s3
        have hzl : zs.length ≤ 33 := by rw [hpz.length_eq, List.length_map]; exact hz1
        refine ⟨pz, rfl, ⟨_, .inl (.inl hz3)⟩, fun Dl nD => lc_list (xs := zs.map V.str) (LcI [] M Dl H3 (Filt zs (isW st (numOf st en)) V.str)) (LcI.start mok3 (by simp) nD Filt.zero)
          (fun i H' _ p => (Le.of p.stp.same).sqL (.inl (.inl hz3))) (fun i y H4 hy p => ?_) (fun H4 p => ?_)⟩
        · rw [List.getElem?_map] at hy
          cases e1 : zs[i]? with
          | none => rw [e1] at hy; cases hy
          | some z =>
            rw [e1] at hy
            cases hy
            have hi : i < zs.length := (List.getElem?_eq_some_iff.mp e1).1
            have s4 := s3.trans p.stp.same
            have LF := L.le (same_le (M := M) s4)
            have L4 := LF.le (fr_le M H4)
            obtain ⟨sc, hsc⟩ := lookD_of (hpz.mem_iff.mp (List.mem_of_getElem? e1))
            obtain ⟨v2, e2, m, rfl, hm⟩ := LF.as.some z hsc
            have gsd : DGet H4 ds (.str z) (some (.ref m)) := .inl ⟨ks, .inr z, L4.rs.rd, rfl, e2.symm⟩
            have g : GoodS sc := gi.gt.gs _ (look_mem hsc)
            have eW : isW st (numOf st en) z = zero (lastL (lvls sc (numOf st en))) := by unfold isW; rw [hsc]
            have mok4 : Mok M H4 := mok.same s4
            refine ⟨rfl, _, rfl, a, _, rfl, L4.gS, _, rfl, ds, _, rfl, gsd, M, m, sc, rfl, mok4, hm, g, fun H5 xa s5 nx hx => ⟨_, rfl, xa, sc, numOf st en, rfl, (fr_le _ _).sch hx, g, hnb, fun H6 s6 => ⟨_, rfl, ?_⟩⟩⟩
            rw [← eW]
            have stp : Stp [] H4 H6 := .nil (s5.trans s6)
            refine ite2 (fun c => ?_) fun c => ?_
            · exact ⟨_, rfl, p.step (by simp) nD mok3 stp (by rw [sizeLine_eq]; omega) (fun acc _ r => r.yes e1 c)⟩
            · exact p.skip (by simp) nD mok3 stp (fun acc _ r => r.no e1 (Bool.eq_false_iff.mpr c))
        · obtain ⟨acc, hA, _, r⟩ := p.ex
          rw [List.length_map] at r
          have e9 := r.all
          subst e9
          have s4 := s3.trans p.stp.same
          have W4 := W.same s4
          refine ⟨_, rfl, b, dx, _, rfl, s4 _ _ hb, rfl, _, rfl, n, b, dsb, deb, pl, ksb, keb, st, x, en, rfl, W4, gi.gt, hen, hnb, by omega, fun us pu H5 hpu hsu s5 hu => ?_⟩
          have eu := sorted_uniq hpu hpz hsu hsz
          subst eu
          have hA5 := s5 _ _ hA
          have fm : ∀ x ∈ us.filter (isW st (numOf st en)), x ∈ names := fun x hx => names_in gi hpu x (List.mem_filter.mp hx).1
          refine ⟨_, rfl, .list ((us.filter (isW st (numOf st en))).map PyData.str), .list ((us.filter (isW st (numOf st en))).map PyData.str), .lst (.inl (.inl hu)) (strs_dp _), .lst (.inl (.inl hA5)) (strs_dp _), names_shaped fm, names_shaped fm, ?_⟩
          rw [eqv_same (names_shaped fm)]
          exact q H5 (s4.trans s5)
end
end K75
set_option maxHeartbeats 400000
namespace K75
open PySem PySem.Spec PyProof.Rows L2
abbrev s__law_look : Stmt := top 85
theorem sc__law_look : FnScope ["_law_book", "_law_past", "_law_state", "_law_label", "_law_spot", "_law_line", "_law_odd"] ["_law_book", "_law_past"] (defScope s__law_look) := ⟨rfl, rfl, rfl, by decide +kernel, rfl, by decide +kernel, by decide +kernel⟩
theorem odd_names : ∀ x ∈ (["nothere", "A"] : List Str), x ∉ names := by decide +kernel
theorem not_look {α : Type} {l : List (Str × α)} {x : Str} (h : ∀ p ∈ l, p.1 ∈ names) (hx : x ∉ names) : look l x = none := by
  cases e : look l x with
  | none => rfl
  | some y => exact absurd (h _ (look_mem e)) hx
def oddQ : List PyData := [.str "nothere", .str "A", .none, .int 3, .list [.str "a"]]
theorem oddQ_none {n : Nat} {st : Stt} (g : GoodI n st) {d : PyData} (h : d ∈ oddQ) : ((lookD st.sch d).isSome || (lookD st.ent d).isSome) = false := by
  unfold oddQ at h
  simp only [List.mem_cons, List.not_mem_nil, or_false] at h
  have k : ∀ x ∈ (["nothere", "A"] : List Str), ((lookD st.sch (.str x)).isSome || (lookD st.ent (.str x)).isSome) = false := fun x hx => by
    show ((look st.sch x).isSome || (look st.ent x).isSome) = false
    rw [not_look g.ms (odd_names x hx), not_look g.me (odd_names x hx)]
    rfl
  rcases h with rfl | rfl | rfl | rfl | rfl
  · exact k _ (by simp)
  · exact k _ (by simp)
  · rfl
  · rfl
  · rfl
theorem ints_shapedT (ns : List Int) : SeqAt.shaped (.tuple (ns.map PyData.int)) = true := by
  have h := ints_shaped ns
  have h1 := SeqAt.canLay_of_shaped h
  have h2 := SeqAt.depth_of_shaped h
  simp only [PyData.canLay0] at h1
  simp only [PyData.depth] at h2
  show (PyData.canLay0 (.tuple (ns.map PyData.int)) && decide (PyData.depth (.tuple (ns.map PyData.int)) ≤ 64)) = true
  rw [Bool.and_eq_true]
  exact ⟨by simp only [PyData.canLay0]; exact h1, decide_eq_true (by simp only [PyData.depth]; exact h2)⟩
section
variable {P : Program} {w : World} {K : PySem.W.Frag} {mg : Str → Option Value} {base : Heap} (B : Blt mg) {CS CB : Addr} {XA : EA} (C : SchC K mg CS) (CBk : BkC K mg CB)
include B C CBk
def sp_l_look (K : PySem.W.Frag) (CS CB : Addr) : Sp := fun vs H Q _ => ∃ n M b dsb deb pl ksb keb ws st past pa vs0 a ds de ks ke, vs = [.ref b, .ref pa] ∧ BookAt K CS CB true M H b dsb deb pl ksb keb ws st past ∧ H pa = some (.lst (vs0 ++ [.ref a])) ∧ vs0.length = past.length ∧ past.length < 1000 ∧ LStR K true (fr M H) a ds de ks ke st ∧ GoodI n st ∧ n ≤ 100 ∧ ∀ H', Same H H' → Q (.bl true) H'
theorem ok_l_look (D : FnD K mg "_law_look" s__law_look [] []) (F_deeds : Me P w K mg base CB "deeds" 1 (sp_deeds K CS CB)) (F_schemes : Me P w K mg base CB "schemes" 1 (sp_schemes K CS CB)) (F_entries : Me P w K mg base CB "entries" 1 (sp_entries K CS CB)) (F_scheme_of : Me P w K mg base CB "scheme_of" 3 (sp_scheme_of K CS CB XA)) (F__law_made : Fn P w K mg base "_law_made" 6 (sp_l_made K CS)) (F_eq : Spc P w K mg base CS "__eq__" 1 (sp_Scheme_eq K CS))
    (F_Book_contains : Spc P w K mg base CB "__contains__" 1 (sp_Book_contains K CS CB)) (F_home : Me P w K mg base CB "home" 4 (sp_home K CS CB)) (F_row_of : Me P w K mg base CB "row_of" 4 (sp_row_of K CS CB)) (F_number_of : Me P w K mg base CB "number_of" 6 (sp_number_of K CS CB XA)) (F__law_number_of : Fn P w K mg base "_law_number_of" 2 (sp_l_number_of K)) (F__law_writers_right : Fn P w K mg base "_law_writers_right" 10 (sp_l_writers_right K CS CB)) : Fn P w K mg base "_law_look" 11 (sp_l_look K CS CB) := by
  refine D.fn sc__law_look (fun _ _ _ _ _ _ us hl => match us, hl with | [_, _], _ => rfl) (fun vs H Q E h => ?_) (fun f cdv A outer s H vs Q E hr h => ?_)
  · obtain ⟨_, _, _, _, _, _, _, _, _, _, _, _, _, _, _, _, _, _, rfl, _⟩ := h
    rfl
  · obtain ⟨n, M, b, dsb, deb, pl, ksb, keb, ws, st, past, pa, vs0, a, ds, de, ks, ke, rfl, W, hpa, hvl, hpl, L, gi, hn, q⟩ := h
    refine ⟨_, (pss_cons (ps_set (i := 2) sc__law_look.nd rfl (.inl rfl) (pe_ix ix_list (pv 1) (pe_un un_neg pe_int) (fun _ _ => rfl))) (pss_cons (ps_if (PW.pt (pw_or (pt_cmpR op_ne (mE0 F_deeds hr CBk.cl passL (pv 0)) (pe_op op_sub (pe_callB call_len (by rfl) B.len (by decide +kernel) (pa_cons (pv 1) pa_nil)) pe_int) (nomark _)) (pw_or1 (pt_cmpR (op_neD hr.units) (mE0 F_schemes hr CBk.cl passL (pv 0)) (pe_callB (call_sortedD rfl) (by rfl) B.sorted (by decide +kernel) (pa_cons (pe_dget (hu_of hr) (pv 2) pe_str (fun _ _ => rfl)) pa_nil)) (nomark _))))) (pss_one (ps_ret pe_bl)) pss_nil) (pss_cons (ps_if (pt_cmpR (op_neD hr.units) (mE0 F_entries hr CBk.cl passL (pv 0)) (pe_callB (call_sortedD rfl) (by rfl) B.sorted (by decide +kernel) (pa_cons (pe_dget (hu_of hr) (pv 2) pe_str (fun _ _ => rfl)) pa_nil)) (nomark _)) (pss_one (ps_ret pe_bl)) pss_nil) (pss_cons (ps_lock (ps_for (passes_of rfl) rfl (pi_keys (pe_dget (hu_of hr) (pv 2) pe_str (fun _ _ => rfl))) (pg_name (i := 3) sc__law_look.nd rfl (.inl rfl)) (pss_one (ps_if (PW.pt (pw_or (pt_not (pt_cmpR (op_ownEqM F_eq hr) (mE F_scheme_of hr CBk.cl passL (pv 0) (pa_cons (pv 3) pa_nil)) (c0 F__law_made hr (pa_cons (pe_dget (hu_of hr) (pe_dget (hu_of hr) (pv 2) pe_str (fun _ _ => rfl)) (pv 3) (fun _ _ => rfl)) pa_nil)) (nomark _))) (pw_or1 (pt_cmpR (op_ownNotInM F_Book_contains hr) (pv 3) (pv 0) (by rfl))))) (pss_one (ps_ret pe_bl)) pss_nil)))) (pss_cons (ps_lock (ps_for (passes_of rfl) rfl (pi_keys (pe_dget (hu_of hr) (pv 2) pe_str (fun _ _ => rfl))) (pg_name (i := 3) sc__law_look.nd rfl (.inl rfl)) (pss_cons (ps_asg (pe_dget (hu_of hr) (pe_dget (hu_of hr) (pv 2) pe_str (fun _ _ => rfl)) (pv 3) (fun _ _ => rfl)) (pg_tup rfl (pgs_cons (pg_name (i := 4) sc__law_look.nd rfl (.inl rfl)) (pgs_cons (pg_name (i := 5) sc__law_look.nd rfl (.inl rfl)) pgs_nil)))) (pss_cons (ps_if (PW.pt (pw_or (pt_cmpR op_ne (mE F_home hr CBk.cl passL (pv 0) (pa_cons (pv 3) pa_nil)) (pv 4) (nomark _)) (pw_or (pt_cmpR (op_neD hr.units) (mE F_row_of hr CBk.cl passL (pv 0) (pa_cons (pv 3) pa_nil)) (pv 5) (nomark _)) (pw_or1 (pt_cmpR (op_ownNotInM F_Book_contains hr) (pv 3) (pv 0) (by rfl)))))) (pss_one (ps_ret pe_bl)) pss_nil) (pss_one (ps_if (pt_cmpR op_ne (mE F_number_of hr CBk.cl passL (pv 0) (pa_cons (pv 3) pa_nil)) (c0 F__law_number_of hr (pa_cons (pv 2) (pa_cons (pv 3) pa_nil))) (nomark _)) (pss_one (ps_ret pe_bl)) pss_nil)))))) (pss_cons (ps_expr (pe_bm0 PySem.F.plainAttrs_list PySem.F.slot_list_clear PySem.F.type_list_clear mt_clear (mE0 F_entries hr CBk.cl passL (pv 0)))) (pss_cons (ps_expr (pe_bm PySem.F.plainAttrs_list PySem.F.slot_list_append PySem.F.type_list_append mt_append (mE0 F_schemes hr CBk.cl passL (pv 0)) (pa_cons pe_str pa_nil))) (pss_cons (ps_for (passes_of rfl) rfl (pi_list (pe_lst (pa_cons pe_str (pa_cons pe_str (pa_cons pe_non (pa_cons pe_int (pa_cons (pe_lst (pa_cons pe_str pa_nil)) pa_nil))))))) (pg_name (i := 6) sc__law_look.nd rfl (.inl rfl)) (pss_one (ps_if (pt_cmpR (op_ownInM F_Book_contains hr) (pv 6) (pv 0) (by rfl)) (pss_one (ps_ret pe_bl)) pss_nil))) (pss_one (ps_ret (c0 F__law_writers_right hr (pa_cons (pv 0) (pa_cons (pv 2) (pa_cons (pe_callB call_len (by rfl) B.len (by decide +kernel) (pa_cons (pv 1) pa_nil)) pa_nil)))))))))))))), ?_⟩
    have hz1 := gi.ls
    have hz2 := gi.le
    obtain ⟨dx, hb⟩ := W.ins
    have LH := L.leS (fr_leS M H)
    have hlen : (vs0 ++ [V.ref a]).length = past.length + 1 := by rw [List.length_append, List.length_singleton, hvl]
    refine ⟨_, rfl, 1, rfl, pa, _, _, _, rfl, rfl, .inl (.inl hpa), L2.atI_last _ _, ?_⟩
    refine ⟨_, rfl, b, dx, _, rfl, hb, rfl, true, M, b, dsb, deb, pl, ksb, keb, ws, st, past, rfl, W, _, rfl, _, _, rfl, .inl ⟨_, .inl (.inl hpa), rfl⟩, _, _, rfl, rfl, rfl, _, rfl, ?_⟩
    refine ite_f (by rw [hlen]; simp) ?_
    refine ⟨_, rfl, b, dx, _, rfl, hb, rfl, b, dsb, deb, pl, ksb, keb, st, rfl, W.toW, by omega, fun ys p H1 hp hs s1 np hp1 => ?_⟩
    have L1 := LH.weak.le (Le.of s1)
    refine ⟨_, rfl, a, _, rfl, L1.gS, ds, ks, st.sch.map (·.1), rfl, L1.rs.rd, L1.as.keys, by rw [List.length_map]; omega, fun zs p2 hp2 hs2 np2 => ?_⟩
    have eyz := sorted_uniq hp hp2 hs hs2
    subst eyz
    have fm := names_shaped (names_in gi hp)
    refine ⟨.list (ys.map PyData.str), .list (ys.map PyData.str), .lst (.inl (.inl (same_new np2 _ _ hp1))) (strs_dp ys), .lst (.inl (.inl upd_same)) (strs_dp ys), fm, fm, _, rfl, ?_⟩
    rw [eqv_same fm]
    have s2 := s1.trans (same_new (o := .lst (ys.map V.str)) np2)
    generalize upd H1 p2 (.lst (ys.map V.str)) = H2 at *
    have W2 := W.same s2
    have L2 := LH.weak.le (Le.of s2)
    refine ⟨_, rfl, b, dx, _, rfl, s2 _ _ hb, rfl, b, dsb, deb, pl, ksb, keb, st, rfl, W2.toW, by omega, fun es p3 H3 hp3 hs3 s3 np3 hp33 => ?_⟩
    have L3 := L2.le (Le.of s3)
    refine ⟨_, rfl, a, _, rfl, L3.gE, de, ke, st.ent.map (·.1), rfl, L3.re.rd, L3.ae.keys, by rw [List.length_map]; omega, fun fs p4 hp4 hs4 np4 => ?_⟩
    have eef := sorted_uniq hp3 hp4 hs3 hs4
    subst eef
    have fme := names_shaped (names_inE gi hp3)
    refine ⟨.list (es.map PyData.str), .list (es.map PyData.str), .lst (.inl (.inl (same_new np4 _ _ hp33))) (strs_dp es), .lst (.inl (.inl upd_same)) (strs_dp es), fme, fme, _, rfl, ?_⟩
    rw [eqv_same fme]
    have s4 := (s2.trans s3).trans (same_new (o := .lst (es.map V.str)) np4)
    generalize upd H3 p4 (.lst (es.map V.str)) = H4 at *
    have W4 := W.same s4
    have L4 := L.leS (same_leS s4)
    have LH4 := L4.leS (fr_leS M H4)
    have hb4 := s4 _ _ hb
    -- the schemes
    have hds : H4 ds = some (.dK ks) := by
      rcases LH4.rs with h | ⟨h, _⟩
      · exact h
      · cases h
    have hde : H4 de = some (.dK ke) := by
      rcases LH4.re with h | ⟨h, _⟩
      · exact h
      · cases h
    have hks := L.as.len
    have hke := L.ae.len
    refine ⟨ds, .dK ks, hds, trivial, fun od => ?_⟩
    have WL := W4.lock (o := od) hds
    have LL : LStR K false (fr M (upd H4 ds (.frz od (.dK ks)))) a ds de ks ke st := L4.weak.le (le_lock hds)
    obtain ⟨dxL, hbL⟩ := WL.ins
    refine ⟨_, rfl, a, _, rfl, (LL.le (fr_le _ _)).gS, ds, od, rfl, .inl ⟨ks, upd_same, for_keys (fun i σ H' => (∃ y, σ = [some (.ref b), some (.ref pa), some (.ref a), y, none, none, none]) ∧ Same (upd H4 ds (.frz od (.dK ks))) H') ⟨⟨_, rfl⟩, Same.refl _⟩ (fun i σ H' _ p => p.2 _ _ upd_same) (fun i k v σ H' hkv p => ?_) (fun σ H' p => ?_)⟩⟩
    · obtain ⟨⟨y, rfl⟩, sL⟩ := p
      have W5 := WL.same sL
      have LF := LL.le (same_le (M := M) sL)
      have L5 := LF.le (fr_le M H')
      obtain ⟨x, sc, rfl, hl9, _⟩ := LL.as.get hkv
      have hsc := look_of_get gi.nds hl9
      obtain ⟨v2, e2, m, rfl, hm⟩ := LF.as.some x hsc
      have gsd : DGet H' ds (.str x) (some (.ref m)) := .inl ⟨ks, .inr x, L5.rs.rd, rfl, e2.symm⟩
      have g : GoodS sc := gi.gt.gs _ (look_mem hsc)
      have hb5 := sL _ _ hbL
      have no : ∀ H6, Same H' H6 → (if (!((lookD st.sch (.str x)).isSome || (lookD st.ent (.str x)).isSome)) = true then False else True) := fun _ _ => by
        rw [show (lookD st.sch (.str x)) = some sc from hsc]; simp
      refine ⟨_, rfl, b, dxL, _, rfl, hb5, rfl, _, rfl, b, dsb, deb, pl, ksb, keb, st, .str x, .str x, rfl, W5.toW, .str x, fun s9 hs9 a9 ha9 _ => ?_, fun hno => ?_⟩
      · rw [show lookD st.sch (.str x) = some sc from hsc] at hs9
        cases hs9
        refine ⟨_, rfl, a, _, rfl, L5.gS, _, rfl, ds, _, rfl, gsd, M, m, sc, rfl, W5.mok, hm, g, fun H6 xa s6 nx hx => ?_⟩
        have ha6 := (Le.of s6).sch ha9
        have hx6 := (fr_le _ _).sch hx
        obtain ⟨d1, t1, t2, t3, i1, _⟩ := id ha6
        obtain ⟨d2, u1, u2, u3, i2, _⟩ := id hx6
        refine ⟨a9, d1, _, xa, d2, _, rfl, rfl, i1, i2, a9, xa, sc, rfl, ha6, hx6, g, _, rfl, ?_⟩
        refine ⟨_, rfl, _, rfl, b, dxL, _, rfl, s6 _ _ hb5, b, dsb, deb, pl, ksb, keb, st, .str x, .str x, rfl, W5.toW.same s6, .str x, _, rfl, _, rfl, ?_⟩
        rw [show (lookD st.sch (.str x)) = some sc from hsc]
        exact ⟨⟨_, rfl⟩, sL.trans s6⟩
      · rw [show lookD st.sch (.str x) = some sc from hsc] at hno
        cases hno
    · obtain ⟨⟨y, rfl⟩, sL⟩ := p
      refine ⟨sL _ _ upd_same, ?_⟩
      have s5 : Same H4 (upd H' ds (.dK ks)) := same_unlock hds sL
      generalize upd H' ds (.dK ks) = H5 at *
      have W5 := W4.same s5
      have L5 := L4.leS (same_leS s5)
      have hde5 := s5 _ _ hde
      have hb5 := s5 _ _ hb4
      -- the entries
      refine ⟨de, .dK ke, hde5, trivial, fun oe => ?_⟩
      have WL := W5.lock (o := oe) hde5
      have LL : LStR K false (fr M (upd H5 de (.frz oe (.dK ke)))) a ds de ks ke st := L5.weak.le (le_lock hde5)
      obtain ⟨dxL, hbL⟩ := WL.ins
      refine ⟨_, rfl, a, _, rfl, (LL.le (fr_le _ _)).gE, de, oe, rfl, .inl ⟨ke, upd_same, for_keys (fun i σ H' => (∃ y z1 z2, σ = [some (.ref b), some (.ref pa), some (.ref a), y, z1, z2, none]) ∧ Same (upd H5 de (.frz oe (.dK ke))) H') ⟨⟨_, _, _, rfl⟩, Same.refl _⟩ (fun i σ H' _ p => p.2 _ _ upd_same) (fun i k v σ H' hkv p => ?_) (fun σ H' p => ?_)⟩⟩
      · obtain ⟨⟨y, z1, z2, rfl⟩, sL⟩ := p
        have W6 := WL.same sL
        have LF := LL.le (same_le (M := M) sL)
        have L6 := LF.le (fr_le M H')
        obtain ⟨x, en, rfl, hl9, _⟩ := LL.ae.get hkv
        have hen := look_of_get gi.nde hl9
        obtain ⟨v2, e2, t, r, rfl, h1, h2⟩ := L6.ae.some x hen
        have gsd : DGet H' de (.str x) (some (.ref t)) := .inl ⟨ke, .inr x, L6.re.rd, rfl, e2.symm⟩
        have hb6 := sL _ _ hbL
        refine ⟨_, rfl, a, _, rfl, L6.gE, _, rfl, de, _, rfl, gsd, t, _, rfl, h1, rfl, _, _, rfl, _, _, rfl, rfl, ?_⟩
        refine ⟨_, rfl, b, dxL, _, rfl, hb6, rfl, _, rfl, b, dsb, deb, pl, ksb, keb, st, x, en, rfl, W6.toW, hen, _, rfl, rfl, _, rfl, ?_⟩
        refine ite_f (by simp) ?_
        refine ⟨_, rfl, b, dxL, _, rfl, hb6, rfl, _, rfl, b, dsb, deb, pl, ksb, keb, st, x, en, rfl, W6.toW, hen, fun r2 hr2 => ?_⟩
        have fi := ints_shapedT en.2
        refine ⟨_, rfl, .tuple (en.2.map PyData.int), .tuple (en.2.map PyData.int), .tup hr2 (dp_ints _), .tup h2 (dp_ints _), fi, fi, _, rfl, ?_⟩
        rw [eqv_same fi]
        refine ⟨_, rfl, _, rfl, b, dxL, _, rfl, hb6, b, dsb, deb, pl, ksb, keb, st, .str x, .str x, rfl, W6.toW, .str x, _, rfl, _, rfl, ?_⟩
        rw [show (lookD st.ent (.str x)) = some en from hen]
        refine ite_f (by simp) ?_
        refine ⟨_, rfl, b, dxL, _, rfl, hb6, rfl, _, rfl, n, b, dsb, deb, pl, ksb, keb, st, .str x, .str x, rfl, W6.toW, gi.gt, .str x, fun e9 he9 H7 s7 => ?_, fun hno => ?_⟩
        · rw [show lookD st.ent (.str x) = some en from hen] at he9
          cases he9
          refine ⟨_, rfl, _, rfl, n, a, ds, de, ks, ke, st, x, en, rfl, L6.le (Le.of s7), gi.gt, hen, rfl, _, rfl, ?_⟩
          refine ite_f (by simp) ?_
          exact ⟨⟨_, _, _, rfl⟩, sL.trans s7⟩
        · rw [show lookD st.ent (.str x) = some en from hen] at hno
          cases hno
      · obtain ⟨⟨y, z1, z2, rfl⟩, sL⟩ := p
        refine ⟨sL _ _ upd_same, ?_⟩
        have s6 : Same H5 (upd H' de (.dK ke)) := same_unlock hde5 sL
        generalize upd H' de (.dK ke) = H6 at *
        have s06 := (s4.trans s5).trans s6
        have W6 := W5.same s6
        have hb6 := s6 _ _ hb5
        refine ⟨_, rfl, b, dx, _, rfl, hb6, rfl, b, dsb, deb, pl, ksb, keb, st, rfl, W6.toW, by omega, fun ys7 p7 H7 hp7 hs7 s7 np7 hp77 => ⟨.inl ⟨rfl, _, .inl (.inl hp77)⟩, p7, _, rfl, rfl, hp77, ?_⟩⟩
        have s67 : Same H6 (upd H7 p7 (.lst [])) := newU s7 np7
        generalize upd H7 p7 (.lst []) = H8 at *
        have W8 := W6.same s67
        have hb8 := s67 _ _ hb6
        refine ⟨_, rfl, b, dx, _, rfl, hb8, rfl, b, dsb, deb, pl, ksb, keb, st, rfl, W8.toW, by omega, fun ys9 p9 H9 hp9 hs9 s9 np9 hp99 => ⟨.inl ⟨rfl, _, .inl (.inl hp99)⟩, p9, _, _, rfl, rfl, hp99, by rw [List.length_map, hp9.length_eq, List.length_map, sizeLine_eq]; omega, ?_⟩⟩
        have s89 : Same H8 (upd H9 p9 (.lst (ys9.map V.str ++ [.str "a"]))) := newU s9 np9
        generalize upd H9 p9 (.lst (ys9.map V.str ++ [.str "a"])) = H10 at *
        have W10 := W8.same s89
        have hb10 := s89 _ _ hb8
        refine ⟨by show 1 ≤ sizeLine; decide, fun l1 n1 => ⟨by show 5 ≤ sizeLine; decide, fun l2 n2 => ?_⟩⟩
        have s11 := same_new (o := .lst [.str "a"]) n1
        have s12 := s11.trans (same_new (o := .lst [.str "nothere", .str "A", .non, .int 3, .ref l1]) n2)
        have hall : DpAll K (upd (upd H10 l1 (.lst [.str "a"])) l2 (.lst [.str "nothere", .str "A", .non, .int 3, .ref l1])) [.str "nothere", .str "A", .non, .int 3, .ref l1] oddQ := .cons (.str _) (.cons (.str _) (.cons .non (.cons (.int _) (.cons (.lst (.inl (.inl (same_new n2 _ _ upd_same))) (.cons (.str _) .nil)) .nil))))
        have hl2 : (upd (upd H10 l1 (.lst [.str "a"])) l2 (.lst [.str "nothere", .str "A", .non, .int 3, .ref l1])) l2 = some (.lst [.str "nothere", .str "A", .non, .int 3, .ref l1]) := upd_same
        generalize upd (upd H10 l1 (.lst [.str "a"])) l2 (.lst [.str "nothere", .str "A", .non, .int 3, .ref l1]) = H12 at *
        have W12 := W10.same s12
        have hb12 := s12 _ _ hb10
        refine ⟨l2, rfl, ⟨_, .inl (.inl hl2)⟩, for_list (xs := [.str "nothere", .str "A", .non, .int 3, .ref l1]) (fun i σ H' => (∃ y z1 z2 z3, σ = [some (.ref b), some (.ref pa), some (.ref a), y, z1, z2, z3]) ∧ H' = H12) ⟨⟨_, _, _, _, rfl⟩, rfl⟩ (fun i σ H' _ p => by rw [p.2]; exact .inl (.inl hl2)) (fun i z σ H' hz p => ?_) (fun σ H' p => ?_)⟩
        · obtain ⟨⟨y, z1, z2, z3, rfl⟩, rfl⟩ := p
          obtain ⟨d, e1, hd⟩ := dpAll_mem hall hz
          refine ⟨_, rfl, _, rfl, b, dx, _, rfl, hb12, b, dsb, deb, pl, ksb, keb, st, z, d, rfl, W12.toW, hd, _, rfl, _, rfl, ?_⟩
          refine ite_f (by rw [oddQ_none gi (List.mem_of_getElem? e1)]; simp) ?_
          exact ⟨⟨_, _, _, _, rfl⟩, rfl⟩
        · obtain ⟨⟨y, z1, z2, z3, rfl⟩, rfl⟩ := p
          have s012 := ((s06.trans s67).trans s89).trans s12
          have hpa12 := s012 _ _ hpa
          refine ⟨_, rfl, _, rfl, _, rfl, _, _, rfl, .inl ⟨_, .inl (.inl hpa12), rfl⟩, n, (vs0 ++ [V.ref a]).length, M, b, dsb, deb, pl, ksb, keb, st, a, ds, de, ks, ke, rfl, W12.toW, W12.mok, (L.leS (same_leS s012)).weak, gi, hn, fun H13 s13 => q H13 (s012.trans s13)⟩
end
end K75
set_option maxHeartbeats 400000
namespace K75
open PySem PySem.Spec PyProof.Rows L2
abbrev s_law : Stmt := top 87
theorem sc_law : FnScope ["_law_script", "_law_book", "_law_past", "_law_k", "_law_box_here", "_law_turn", "_law_deed_here", "_law_due_here", "_law_told_here"] ["_law_script"] (defScope s_law) := ⟨rfl, rfl, rfl, by decide +kernel, rfl, by decide +kernel, by decide +kernel⟩
def BkM (P : Program) (w : World) (K : PySem.W.Frag) (mg : Str → Option Value) (base : Heap) (CB : Addr) : Prop := ∃ f, Mk K CB f ∧ FnR P w K mg base (L2.CX P w) 1 f (sp_Book_init CB)
theorem mkB {X : Cx} {CB : Addr} {p pos : Pos} {j : Nat} (S : BkM X.prog X.w X.K X.mg X.base CB) (C : BkC X.K X.mg CB) (hr : Room j X.A) (hj : 2 ≤ j := by decide) (hg : Gl X "Book" := by rfl) : PE X (.Call (.Name "Book" p) [] [] pos) (StX.tMakeR CB (sp_Book_init CB) E0 tNil) := by
  obtain ⟨f, M, F⟩ := S
  exact mkR0 M F hr C.mg passL hj hg
def LsR (K : PySem.W.Frag) (F : Hp) (v : V) (st : Stt) : Prop := ∃ a ds de ks ke, v = .ref a ∧ LStR K true F a ds de ks ke st
theorem LsR.leS {K : PySem.W.Frag} {F G : Hp} (e : LeS F G) {v : V} {st : Stt} (h : LsR K F v st) : LsR K G v st := let ⟨a, ds, de, ks, ke, x, y⟩ := h; ⟨a, ds, de, ks, ke, x, y.leS e⟩
/-- the book and the law's states, side by side -/
structure Joint (K : PySem.W.Frag) (CS CB : Addr) (M : List Addr) (H : Hp) (l b pa : Addr) (ns : List Int) (st : Stt) (past : List Stt) : Prop where
  scr : SqL K (fr M H) l (ns.map V.int)
  bk : ∃ ds de pl ks ke ws, BookAt K CS CB true M H b ds de pl ks ke ws st past
  lw : ∃ vs0 a ds de ks ke, H pa = some (.lst (vs0 ++ [.ref a])) ∧ LStR K true (fr M H) a ds de ks ke st ∧ PastA (LsR K (fr M H)) vs0 past
  ga : ∀ i s, (past ++ [st])[i]? = some s → GoodI i s
  z : (past ++ [st])[0]? = some ⟨[], []⟩
  mp : pa ∈ M
  ne : b ≠ pa
section
variable {K : PySem.W.Frag} {CS CB : Addr} {M : List Addr} {H H' : Hp} {l b pa bx : Addr} {ns : List Int} {st : Stt} {past : List Stt}
theorem Joint.good (J : Joint K CS CB M H l b pa ns st past) : GoodI past.length st := J.ga past.length st (by rw [List.getElem?_append_right (Nat.le_refl _), Nat.sub_self]; rfl)
/-- what stands apart from A stands as before -/
theorem Joint.move {M' : List Addr} (J : Joint K CS CB M H l b pa ns st past) (e : LeS (fr M H) (fr M' H')) (hb : ∀ o, H b = some o → H' b = some o) (hp : ∀ o, H pa = some o → H' pa = some o) (m : Mok M' H') (h1 : b ∈ M') (h2 : pa ∈ M') : Joint K CS CB M' H' l b pa ns st past := by
  obtain ⟨s, ⟨ds, de, pl, ks, ke, ws, ⟨dx, hi⟩, _, _, hc, hl, ho⟩, ⟨vs0, a, ds', de', ks', ke', h3, h4, h5⟩, g, z, _, n⟩ := J
  exact ⟨e.le.sqL s, ⟨ds, de, pl, ks, ke, ws, ⟨dx, hb _ hi⟩, h1, m, hc.leS e, e.le.sqL hl, ho.mono fun _ _ => PastR.leS e⟩, ⟨vs0, a, ds', de', ks', ke', hp _ h3, h4.leS e, h5.mono fun _ _ => LsR.leS e⟩, g, z, h2, n⟩
theorem Joint.mok (J : Joint K CS CB M H l b pa ns st past) : Mok M H := let ⟨_, _, _, _, _, _, h⟩ := J.bk; h.mok
theorem Joint.bm (J : Joint K CS CB M H l b pa ns st past) : b ∈ M := let ⟨_, _, _, _, _, _, h⟩ := J.bk; h.mem
theorem Joint.same (J : Joint K CS CB M H l b pa ns st past) (s : Same H H') : Joint K CS CB M H' l b pa ns st past := J.move (same_leS s) (fun o h => s _ _ h) (fun o h => s _ _ h) (J.mok.same s) J.bm J.mp
theorem Joint.sbx {n : Nat} (J : Joint K CS CB M H l b pa ns st past) (s : SB [bx] H H') (hbx : BoxI n bx H') (hm : bx ∈ M) (h1 : bx ≠ b) (h2 : bx ≠ pa) : Joint K CS CB M H' l b pa ns st past :=
  J.move (sb_leS s (by simpa using hm)) (fun o h => s _ _ (by simpa using h1.symm) h) (fun o h => s _ _ (by simpa using h2.symm) h) (J.mok.box s hbx) J.bm J.mp
theorem fr_consS {D : Addr} {H1 : Hp} (n : H1 D = none) : LeS (fr M H1) (fr (D :: M) H1) := fun a o q => by
  obtain ⟨q, m⟩ := fr_some q
  refine fr_of q ?_
  rw [List.mem_cons]
  rintro (rfl | z)
  · rw [n] at q; cases q
  · exact m z
theorem fr_subS (D : Addr) (M : List Addr) (H : Hp) : LeS (fr (D :: M) H) (fr M H) := fun a o q => by
  obtain ⟨q, m⟩ := fr_some q
  exact fr_of q fun z => m (List.mem_cons_of_mem _ z)
/-- a new changing thing -/
theorem Joint.grow (J : Joint K CS CB M H l b pa ns st past) (s : Same H H') (n : H bx = none) (n' : H' bx ≠ none) : Joint K CS CB (bx :: M) H' l b pa ns st past := by
  refine J.move (M' := bx :: M) ?_ (fun o h => s _ _ h) (fun o h => s _ _ h) (fun a ha => ?_) (List.mem_cons_of_mem _ J.bm) (List.mem_cons_of_mem _ J.mp)
  · exact (fr_consS n).trans (same_leS s)
  · rcases List.mem_cons.mp ha with rfl | ha
    · exact n'
    · exact (J.mok.same s) a ha
theorem Joint.shrink (J : Joint K CS CB (bx :: M) H l b pa ns st past) (h1 : b ∈ M) (h2 : pa ∈ M) : Joint K CS CB M H l b pa ns st past :=
  J.move (fr_subS bx M H) (fun o h => h) (fun o h => h) (fun a ha => J.mok a (List.mem_cons_of_mem _ ha)) h1 h2
end
theorem BookAt.updP {K : PySem.W.Frag} {CS CB : Addr} {u : Bool} {M : List Addr} {H : Hp} {b ds de pl pa : Addr} {ks ke : List (Key × V)} {vs : List V} {st : Stt} {past : List Stt} {o : HO} (h : BookAt K CS CB u M H b ds de pl ks ke vs st past) (hp : pa ∈ M) (ne : b ≠ pa) : BookAt K CS CB u M (upd H pa o) b ds de pl ks ke vs st past := by
  obtain ⟨⟨dx, h1⟩, h2, hm, h3, h4, h5⟩ := h
  refine ⟨⟨dx, by rw [upd_ne ne]; exact h1⟩, h2, fun a ha => ?_, by rw [fr_updM hp]; exact h3, by rw [fr_updM hp]; exact h4, by rw [fr_updM hp]; exact h5⟩
  by_cases c : a = pa
  · rw [c, upd_same]; simp
  · rw [upd_ne c]; exact hm a ha
theorem nil_or_snoc {α : Type} (l : List α) : l = [] ∨ ∃ p x, l = p ++ [x] := by
  rcases List.eq_nil_or_concat l with h | ⟨p, x, h⟩
  · exact .inl h
  · exact .inr ⟨p, x, by rw [h, List.concat_eq_append]⟩
theorem dp_hd {K : PySem.W.Frag} {F : Hp} {u : Addr} {t : Str} {ds : List PyData} (h : Dp K F (.ref u) (.list (.str t :: ds))) : ∃ rest, SqL K F u (.str t :: rest) := by
  cases h with
  | lst h r => cases r with
    | cons h2 r2 =>
      cases h2
      exact ⟨_, h⟩
theorem LsR.of {K : PySem.W.Frag} {F : Hp} {a ds de : Addr} {ks ke : List (Key × V)} {st : Stt} (h : LStR K true F a ds de ks ke st) : LsR K F (.ref a) st := ⟨a, ds, de, ks, ke, rfl, h⟩
theorem past_snoc {R : V → Stt → Prop} {vs : List V} {v : V} {ps : List Stt} {st : Stt} (h : PastA R vs ps) (hv : R v st) : PastA R (vs ++ [v]) (ps ++ [st]) := PastA.snoc hv h
/-- the law's state is taken back, the book's too -/
theorem Joint.pop {K : PySem.W.Frag} {CS CB : Addr} {M : List Addr} {H0 H : Hp} {l b pa : Addr} {ns : List Int} {st st' : Stt} {p0 : List Stt} {ds de pl : Addr} {ks ke : List (Key × V)} {ws vs0 : List V} (J : Joint K CS CB M H0 l b pa ns st (p0 ++ [st'])) (e : LeS (fr M H0) (fr M H)) (W : BookAt K CS CB true M H b ds de pl ks ke ws st' p0) (hpa : H pa = some (.lst vs0)) (pA : PastA (LsR K (fr M H0)) vs0 (p0 ++ [st'])) : Joint K CS CB M H l b pa ns st' p0 := by
  obtain ⟨vs1, v1, rfl, p1, a, ds9, de9, ks9, ke9, rfl, L⟩ := PastA.unsnoc pA
  refine ⟨e.le.sqL J.scr, ⟨_, _, _, _, _, _, W⟩, ⟨vs1, a, ds9, de9, ks9, ke9, hpa, L.leS e, p1.mono fun _ _ => LsR.leS e⟩, fun i s h => J.ga i s ?_, ?_, J.mp, J.ne⟩
  · rw [List.getElem?_append_left (List.getElem?_eq_some_iff.mp h).1]; exact h
  · have := J.z
    rw [List.getElem?_append_left (by simp)] at this
    exact this
/-- a new state -/
theorem Joint.push {K : PySem.W.Frag} {CS CB : Addr} {M : List Addr} {H0 H : Hp} {l b pa a' : Addr} {ns : List Int} {st st' : Stt} {past : List Stt} {ds de pl : Addr} {ks ke : List (Key × V)} {ws vs0 : List V} {ds' de' : Addr} {ks' ke' : List (Key × V)} (J : Joint K CS CB M H0 l b pa ns st past) (e : LeS (fr M H0) (fr M H)) (W : BookAt K CS CB true M H b ds de pl ks ke ws st' (past ++ [st])) (hpa : H pa = some (.lst (vs0 ++ [.ref a']))) (pA : PastA (LsR K (fr M H0)) vs0 (past ++ [st])) (L : LStR K true (fr M H) a' ds' de' ks' ke' st') (g : GoodI (past.length + 1) st') : Joint K CS CB M H l b pa ns st' (past ++ [st]) := by
  refine ⟨e.le.sqL J.scr, ⟨_, _, _, _, _, _, W⟩, ⟨vs0, a', ds', de', ks', ke', hpa, L, pA.mono fun _ _ => LsR.leS e⟩, fun i s h => ?_, ?_, J.mp, J.ne⟩
  · by_cases c : i < (past ++ [st]).length
    · rw [List.getElem?_append_left c] at h
      exact J.ga i s h
    · have hl : i = (past ++ [st]).length := by
        have := (List.getElem?_eq_some_iff.mp h).1
        simp only [List.length_append, List.length_singleton] at *
        omega
      subst hl
      rw [List.getElem?_append_right (Nat.le_refl _), Nat.sub_self] at h
      cases h
      rw [List.length_append, List.length_singleton]
      exact g
  · rw [List.getElem?_append_left (by simp)]
    exact J.z
/-- how a deed's list begins -/
theorem deed_tag {K : PySem.W.Frag} {F : Hp} {a : Addr} : ∀ {dd : Deed}, DeedR K F a dd → ∃ t rest, SqL K F a (.str t :: rest) ∧ ((dd = .undo ∧ t = "undo") ∨ (dd ≠ .undo ∧ t ≠ "undo"))
  | .keep _ _ _, ⟨v, v2, h1, _⟩ => ⟨_, _, h1, .inr ⟨by simp, by decide +kernel⟩⟩
  | .put _ _ _, ⟨v, v2, v3, h1, _⟩ => ⟨_, _, h1, .inr ⟨by simp, by decide +kernel⟩⟩
  | .lay _ _ _, ⟨v, v2, v3, h1, _⟩ => ⟨_, _, h1, .inr ⟨by simp, by decide +kernel⟩⟩
  | .move _ _, ⟨v, v2, h1, _⟩ => ⟨_, _, h1, .inr ⟨by simp, by decide +kernel⟩⟩
  | .reckon _ _ _, ⟨v, v2, v3, h1, _⟩ => ⟨_, _, h1, .inr ⟨by simp, by decide +kernel⟩⟩
  | .drop _, ⟨v, h1, _⟩ => ⟨_, _, h1, .inr ⟨by simp, by decide +kernel⟩⟩
  | .undo, h => ⟨_, _, h, .inl ⟨rfl, rfl⟩⟩
theorem tag_done (e : Err) : tagE e ≠ "done" := by cases e <;> decide +kernel
theorem dued_of {K : PySem.W.Frag} {M : List Addr} {st : Stt} {m : Nat} {H : Hp} {Q : VK} {dd : Deed} (h : dd ≠ .undo) (q : DueP K true M H Q (dueOut st dd)) : DuedP K M st m H Q dd := by
  cases dd with
  | undo => exact absurd rfl h
  | _ => exact q
theorem told_of {K : PySem.W.Frag} {CS CB : Addr} {M : List Addr} {b : Addr} {st : Stt} {past : List Stt} {H : Hp} {Q : VK} {dd : Deed} (h : dd ≠ .undo) (q : TolP K CS CB M b st past H Q (dueOut st dd)) : ToldP K CS CB M b st past H Q dd := by
  cases dd with
  | undo => exact absurd rfl h
  | _ => exact q
section
variable {P : Program} {w : World} {K : PySem.W.Frag} {mg : Str → Option Value} {base : Heap} (B : Blt mg) {CS CB : Addr} {XA : EA} (C : SchC K mg CS) (CBk : BkC K mg CB)
include B C CBk
def sp_law (K : PySem.W.Frag) : Sp := fun vs H Q _ => ∃ (l : Addr) (ns : List Int), vs = [.ref l] ∧ SqL K H l (ns.map V.int) ∧ ns.length ≤ 63 ∧ ∀ H', Q (.bl true) H'
theorem ok_law {f : Addr} {fd : FuncData} (F : FunD K "law" "law" (defArgs s_law) (defBody s_law) (defScope s_law) [] [] f fd) (hroom : Room 14 callerA) (F_Book : BkM P w K mg base CB) (F__law_cell : Fn P w K mg base "_law_cell" 1 (sp_l_cell K)) (F__law_box : Fn P w K mg base "_law_box" 1 sp_l_box) (F__law_deed : Fn P w K mg base "_law_deed" 4 (sp_l_deed K)) (F__law_due : Fn P w K mg base "_law_due" 10 (sp_l_due K))
    (F__law_told : Fn P w K mg base "_law_told" 11 (sp_l_told K CS CB)) (F__law_look : Fn P w K mg base "_law_look" 11 (sp_l_look K CS CB)) (F_undo : Me P w K mg base CB "undo" 3 (sp_undo K CS CB XA)) (F_schemes : Me P w K mg base CB "schemes" 1 (sp_schemes K CS CB)) (F_entries : Me P w K mg base CB "entries" 1 (sp_entries K CS CB)) (F_Book_eq : Spc P w K mg base CB "__eq__" 1 (sp_Book_eq K CS CB)) : LawOk P w K mg base (L2.CX P w) f fd "_law_script" (sp_law K) := by
  refine law_of (k := 13) F sc_law hroom (fun vs H Q E h => ?_) (fun cdv s H vs Q E hr h => ?_)
  · obtain ⟨_, _, rfl, _⟩ := h
    rfl
  · obtain ⟨l, ns, rfl, hl, hz, q⟩ := h
    refine ⟨_, (pss_cons (ps_par (i := 1) (j := 2) (by rfl) sc_law.nd rfl rfl (by decide) rfl rfl (pa_cons (mkB F_Book CBk hr) (pa_cons (pe_lst (pa_cons (pe_dd2 pe_str pe_str pe_dnewK pe_dnewK (by decide +kernel)) pa_nil)) pa_nil)) (by rfl)) (pss_cons (ps_for (passes_of rfl) rfl (pi_range1 (by rfl) B.range (pa_cons (pe_callB (call_max2 rfl) (by rfl) B.max (by decide +kernel) (pa_cons pe_int (pa_cons (pe_callB (call_min2 rfl) (by rfl) B.min (by decide +kernel) (pa_cons pe_int (pa_cons (pe_callB call_len (by rfl) B.len (by decide +kernel) (pa_cons (pv 0) pa_nil)) pa_nil))) pa_nil))) pa_nil)) (pg_name (i := 3) sc_law.nd rfl (.inl rfl)) (pss_cons (ps_set (i := 4) sc_law.nd rfl (.inl rfl) (c0 F__law_box hr (pa_cons (c0 F__law_cell hr (pa_cons (pv 0) (pa_cons (pv 3) pa_nil))) pa_nil))) (pss_one (ps_for (passes_of rfl) rfl (pi_range1 (by rfl) B.range (pa_cons pe_int pa_nil)) (pg_name (i := 5) sc_law.nd rfl (.inl rfl)) (pss_cons (ps_set (i := 6) sc_law.nd rfl (.inl rfl) (c0 F__law_deed hr (pa_cons (pv 4) (pa_cons (pe_ix ix_list (pv 2) (pe_un un_neg pe_int) (fun _ _ => rfl)) pa_nil)))) (pss_cons (ps_par (i := 7) (j := 8) (by rfl) sc_law.nd rfl rfl (by decide) rfl rfl (pa_cons (c0 F__law_due hr (pa_cons (pv 2) (pa_cons (pv 6) pa_nil))) (pa_cons (c0 F__law_told hr (pa_cons (pv 1) (pa_cons (pv 6) pa_nil))) pa_nil)) (by rfl)) (pss_cons (ps_if (PW.pt (pw_and (pt_cmpR op_eq (pe_ix ix_list (pv 7) pe_int (fun _ _ => rfl)) pe_str (nomark _)) (pw_and1 (pt_cmpR op_eq (pe_ix ix_list (pv 6) pe_int (fun _ _ => rfl)) pe_str (nomark _))))) (pss_one (ps_expr (pe_bm0 PySem.F.plainAttrs_list PySem.F.slot_list_pop PySem.F.type_list_pop mt_pop (pv 2)))) (pss_one (ps_if (pt_cmpR op_eq (pe_ix ix_list (pv 7) pe_int (fun _ _ => rfl)) pe_str (nomark _)) (pss_one (ps_expr (pe_bm PySem.F.plainAttrs_list PySem.F.slot_list_append PySem.F.type_list_append mt_append (pv 2) (pa_cons (pe_ix ix_list (pv 7) pe_int (fun _ _ => rfl)) pa_nil)))) pss_nil))) (pss_cons (ps_if (pt_cmpR op_eq (pe_ix ix_list (pv 7) pe_int (fun _ _ => rfl)) pe_str (nomark _)) (pss_one (ps_set (i := 7) sc_law.nd rfl (.inl rfl) (pe_lst (pa_cons pe_str (pa_cons pe_non pa_nil))))) pss_nil) (pss_one (ps_if (PW.pt (pw_or (pt_cmpR op_ne (pe_callB (cr_repr hr rfl) (by rfl) B.repr (by decide +kernel) (pa_cons (pv 8) pa_nil)) (pe_callB (cr_repr hr rfl) (by rfl) B.repr (by decide +kernel) (pa_cons (pv 7) pa_nil)) (nomark _)) (pw_or1 (pt_not (pt_val (c0 F__law_look hr (pa_cons (pv 1) (pa_cons (pv 2) pa_nil)))))))) (pss_one (ps_ret pe_bl)) pss_nil)))))))))) (pss_cons (ps_while (passes_of rfl) (pt_cmpR op_gt (pe_callB call_len (by rfl) B.len (by decide +kernel) (pa_cons (pv 2) pa_nil)) pe_int (nomark _)) (pss_cons (ps_expr (pe_bm0 PySem.F.plainAttrs_list PySem.F.slot_list_pop PySem.F.type_list_pop mt_pop (pv 2))) (pss_one (ps_if (PW.pt (pw_or (pt_cmpR op_notN (mE0 F_undo hr CBk.cl (passes_call (takes_of rfl rfl rfl rfl) (fun _ _ _ _ h => h)) (pv 1)) pe_non (nomark _)) (pw_or1 (pt_not (pt_val (c0 F__law_look hr (pa_cons (pv 1) (pa_cons (pv 2) pa_nil)))))))) (pss_one (ps_ret pe_bl)) pss_nil)))) (pss_one (ps_ret (pe_and (pe_cmpR (op_eqD hr.units) (mE0 F_schemes hr CBk.cl passL (pv 1)) (pe_lst pa_nil) (nomark _)) (pe_and (pe_cmpR (op_eqD hr.units) (mE0 F_entries hr CBk.cl passL (pv 1)) (pe_lst pa_nil) (nomark _)) (pe_one (pe_cmpR (op_ownEqM F_Book_eq hr) (pv 1) (mkB F_Book CBk hr) (nomark _)))))))))), ?_⟩
    refine fun b dx nb ndx nex => ⟨b, dx, rfl, upd_same, fun H1 ds de pl sb hb hds hde hpl n1 n2 n3 => ⟨rfl, ?_⟩⟩
    have hsame : Same H H1 := fun a o h => by
      refine sb a o (by simpa using ne_of_none h nb) ?_
      rw [upd_ne (ne_of_none h nb), upd_ne (ne_of_none h ndx)]
      exact h
    have dsb : ds ≠ b := fun e => by rw [e, upd_same] at n1; cases n1
    have deb : de ≠ b := fun e => by rw [e, upd_same] at n2; cases n2
    have plb : pl ≠ b := fun e => by rw [e, upd_same] at n3; cases n3
    refine fun p np d1 nd1 d2 nd2 => ?_
    have x1 : p ≠ d1 := fun e => by rw [← e, upd_same] at nd1; cases nd1
    have x2 : p ≠ d2 := fun e => by rw [← e, upd_ne x1, upd_same] at nd2; cases nd2
    have x3 : d1 ≠ d2 := fun e => by rw [← e, upd_same] at nd2; cases nd2
    have sA := same_new (o := .dK []) np
    have sB := sA.trans (same_new (o := .dK []) nd1)
    have sC := sB.trans (same_new (o := .dK []) nd2)
    refine ⟨by rw [upd_ne x2, upd_ne x1]; exact upd_same, fun H3 e3 => ⟨by show 1 ≤ sizeLine; decide, fun pa npa => ?_⟩⟩
    have s3 : Same H1 H3 := by rw [e3]; exact newU sC np
    have hp3 : H3 p = some (.dK (lkv d1 d2)) := by rw [e3]; exact upd_same
    have hd1 : H3 d1 = some (.dK []) := by rw [e3, upd_ne x1.symm, upd_ne x3]; exact upd_same
    have hd2 : H3 d2 = some (.dK []) := by rw [e3, upd_ne x2.symm]; exact upd_same
    clear e3
    have s4 := same_new (o := .lst [.ref p]) npa
    have hpa : (upd H3 pa (.lst [.ref p])) pa = some (.lst ([] ++ [.ref p])) := upd_same
    have n1b : H1 b ≠ none := by rw [hb]; simp
    have nm : ∀ {q : Addr} {o : HO}, H3 q = some o → q ≠ b → q ∉ [b, pa] := fun {q o} h hq => by
      simp only [List.mem_cons, List.not_mem_nil, or_false, not_or]
      exact ⟨hq, ne_of_none h npa⟩
    have pnb : p ≠ b := fun e => by rw [e] at np; exact n1b np
    have d1b : d1 ≠ b := fun e => by
      rw [e] at nd1
      exact n1b (none_same sA nd1)
    have d2b : d2 ≠ b := fun e => by
      rw [e] at nd2
      exact n1b (none_same sB nd2)
    have s14 := s3.trans s4
    have hb4 := s14 _ _ hb
    have bpa : b ≠ pa := ne_of_none (s3 _ _ hb) npa
    have nH : H pa = none := none_same (hsame.trans s3) npa
    have J0 : Joint K CS CB [b, pa] (upd H3 pa (.lst [.ref p])) l b pa ns ⟨[], []⟩ [] := by
      refine ⟨?_, ⟨ds, de, pl, [], [], [], ⟨dx, hb4⟩, by simp, fun a ha => ?_, ⟨.inl (fr_of (s14 _ _ hds) (nm (s3 _ _ hds) dsb)), .inl (fr_of (s14 _ _ hde) (nm (s3 _ _ hde) deb)), .nil, .nil⟩, .inl (.inl (fr_of (s14 _ _ hpl) (nm (s3 _ _ hpl) plb))), .nil⟩, ⟨[], p, d1, d2, [], [], hpa, ⟨.inl (fr_of (s4 _ _ hp3) (nm hp3 pnb)), .inl (fr_of (s4 _ _ hd1) (nm hd1 d1b)), .inl (fr_of (s4 _ _ hd2) (nm hd2 d2b)), .nil, .nil⟩, .nil⟩, fun i s h => ?_, rfl, by simp, bpa⟩
      · refine (Le.of (F := H) (G := fr [b, pa] (upd H3 pa (.lst [.ref p]))) fun a o h => ?_).sqL hl
        refine fr_of ((hsame.trans s14) _ _ h) ?_
        simp only [List.mem_cons, List.not_mem_nil, or_false, not_or]
        exact ⟨ne_of_none h nb, ne_of_none h nH⟩
      · simp only [List.mem_cons, List.not_mem_nil, or_false] at ha
        rcases ha with rfl | rfl
        · rw [hb4]; simp
        · rw [hpa]; simp
      · cases i with
        | zero => cases h; exact good0
        | succ i => cases h
    have hl4 : SqL K (upd H3 pa (.lst [.ref p])) l (ns.map V.int) := (Le.of (hsame.trans s14)).sqL hl
    generalize upd H3 pa (.lst [.ref p]) = H4 at *
    refine ⟨_, _, rfl, _, rfl, _, (ns.map V.int).length, rfl, .inl ⟨_, hl4, rfl⟩, _, _, rfl, _, _, rfl, _, rfl, ?b1, ?b2, for_range (fun i σ H' => (∃ y3 y4 y5 y6 y7 y8, σ = [some (.ref l), some (.ref b), some (.ref pa), y3, y4, y5, y6, y7, y8]) ∧ ∃ st past, Joint K CS CB [b, pa] H' l b pa ns st past ∧ past.length ≤ 2 * i) ⟨⟨_, _, _, _, _, _, rfl⟩, _, _, J0, by simp⟩ (fun i σ H' hi p => ?_) (fun σ H' p => ?_)⟩
    case b1 => split <;> (try split) <;> omega
    case b2 => split <;> (try split) <;> omega
    · obtain ⟨⟨y3, y4, y5, y6, y7, y8, rfl⟩, st, past, J, hpl⟩ := p
      have hi : i < 40 := by
        have : ((if (if ((ns.map V.int).length : Int) < 40 then ((ns.map V.int).length : Int) else 40) > 1 then (if ((ns.map V.int).length : Int) < 40 then ((ns.map V.int).length : Int) else 40) else 1) : Int).toNat ≤ 40 := by
          split <;> split <;> omega
        exact Nat.lt_of_lt_of_le hi this
      refine ⟨_, rfl, _, rfl, l, ns, i, by rw [Int.zero_add], (fr_le _ _).sqL J.scr, by omega, fun v => ⟨v, rfl, fun bx H2 nbx s2 b2 => ?_⟩⟩
      have J2 := J.grow s2 nbx b2.ok
      have xb : bx ≠ b := fun e => by
        obtain ⟨_, _, _, _, _, _, W⟩ := J.bk
        obtain ⟨dx9, h9⟩ := W.ins
        rw [e, h9] at nbx; cases nbx
      have xp : bx ≠ pa := fun e => by
        obtain ⟨_, _, _, _, _, _, h9, _⟩ := J.lw
        rw [e, h9] at nbx; cases nbx
      refine ⟨2, rfl, by decide, by decide, for_range (n := 2) (fun j σ H' => (∃ y5 y6 y7 y8, σ = [some (.ref l), some (.ref b), some (.ref pa), some (.int (0 + (i : Int))), some (.ref bx), y5, y6, y7, y8]) ∧ BoxI (200 * j) bx H' ∧ ∃ st past, Joint K CS CB [bx, b, pa] H' l b pa ns st past ∧ past.length ≤ 2 * i + j) ⟨⟨_, _, _, _, rfl⟩, b2, st, past, J2, by omega⟩ (fun j σ H' hj p => ?_) (fun σ H' p => ?_)⟩
      · obtain ⟨⟨y5, y6, y7, y8, rfl⟩, bi, st, past, J, hpl⟩ := p
        obtain ⟨vs0, a, ds, de, ks, ke, hpa, L, pA⟩ := J.lw
        have mem : bx ∈ [bx, b, pa] := by simp
        refine ⟨_, rfl, _, rfl, 1, rfl, pa, _, _, _, rfl, rfl, .inl (.inl hpa), L2.atI_last _ _, past.length, 200 * j, [bx, b, pa], bx, a, ds, de, ks, ke, st, rfl, bi, J.mok, mem, by omega, L, J.good, fun dl dd H5 sb5 b5 hdd hD => ?_⟩
        have J5 := J.sbx sb5 b5 mem xb xp
        have gi := J5.good
        have hg := hdd.good
        obtain ⟨tg, rest, htg, hund⟩ := deed_tag hdd
        obtain ⟨vs0, a, ds, de, ks, ke, hpa, L, pA⟩ := J5.lw
        have hvl := pA.len
        have n100 : past.length ≤ 100 := by omega
        by_cases hu : dd = .undo
        · subst hu
          have htu : tg = "undo" := by
            rcases hund with ⟨_, h⟩ | ⟨h, _⟩
            · exact h
            · exact absurd rfl h
          subst htu
          rcases nil_or_snoc past with rfl | ⟨p0, st', rfl⟩
          · -- nothing to undo
            refine ⟨_, rfl, _, rfl, 0, [bx, b, pa], pa, vs0, a, ds, de, ks, ke, st, dl, .undo, rfl, J5.mok, hpa, L, hdd, trivial, gi, by omega, ⟨fun _ lu H6 s6 hu6 => ?_, fun h => absurd (by rw [hvl]; rfl) h⟩⟩
            have J6 := J5.same s6
            have hdd6 := hdd.le (same_le s6)
            obtain ⟨dsb, deb, pl, ksb, keb, ws, Wb⟩ := J6.bk
            refine ⟨_, rfl, _, rfl, 0, [bx, b, pa], b, dsb, deb, pl, ksb, keb, ws, st, [], dl, .undo, rfl, Wb, hdd6, trivial, gi, by omega, by simp, ⟨fun _ lt H7 s7 ht7 => ?_, fun p0 st' h => by simp at h⟩⟩
            have hu7 := (same_le s7).dp hu6
            have htt := (fr_le _ _).dp ht7
            have huu := (fr_le _ _).dp hu7
            obtain ⟨r7, hl7⟩ := dp_hd huu
            have bN : BoxI (200 * (j + 1)) bx H7 := ((b5.same s6).same s7).le (by omega)
            have JN := J6.same s7
            refine ⟨_, _, rfl, _, rfl, lu, _, 0, _, rfl, rfl, hl7, L2.atI_nat (j := 0) rfl, rfl, _, rfl, ?_⟩
            refine ite_f (by decide +kernel) ?_
            refine ⟨_, rfl, lu, _, 0, _, rfl, rfl, hl7, L2.atI_nat (j := 0) rfl, rfl, _, rfl, ?_⟩
            refine ite_f (by decide +kernel) ?_
            refine ⟨_, rfl, lu, _, 0, _, rfl, rfl, hl7, L2.atI_nat (j := 0) rfl, rfl, _, rfl, ?_⟩
            refine ite_f (by decide +kernel) ?_
            obtain ⟨stN, hstN⟩ : ∃ s, s = st := ⟨_, rfl⟩
            obtain ⟨pastN, hpN⟩ : ∃ s : List Stt, s = [] := ⟨_, rfl⟩
            rw [← hstN, ← hpN] at JN
            have hlN : pastN.length ≤ 2 * i + (j + 1) := by rw [hpN]; simp
            refine ⟨_, rfl, lt, .list [.str "nothing"], rfl, htt, noth_sh.sh, noth_sh.nd, Nat.le_trans noth_sh.dp (by decide), shB_fits (noth_sh.mono (by decide) (by decide)), _, rfl, lu, .list [.str "nothing"], rfl, huu, noth_sh.sh, noth_sh.nd, Nat.le_trans noth_sh.dp (by decide), shB_fits (noth_sh.mono (by decide) (by decide)), rfl, _, rfl, ?_⟩
            refine ite_f (by simp) ?_
            obtain ⟨dsb, deb, pl, ksb, keb, ws, Wb⟩ := JN.bk
            obtain ⟨vsN, aN, dsN, deN, ksN, keN, hpaN, LN, pN⟩ := JN.lw
            refine ⟨_, rfl, _, rfl, pastN.length, [bx, b, pa], b, dsb, deb, pl, ksb, keb, ws, stN, pastN, pa, vsN, aN, dsN, deN, ksN, keN, rfl, Wb, hpaN, pN.len, by omega, LN, JN.good, by omega, fun H9 s9 => ⟨_, rfl, ?_⟩⟩
            refine ite_f (by simp) ?_
            exact ⟨⟨_, _, _, _, rfl⟩, bN.same s9, stN, pastN, JN.same s9, by omega⟩
          · -- undo
            have hpl' : p0.length + 1 ≤ 2 * i + j := by simpa using hpl
            refine ⟨_, rfl, _, rfl, _, [bx, b, pa], pa, vs0, a, ds, de, ks, ke, st, dl, .undo, rfl, J5.mok, hpa, L, hdd, trivial, gi, n100, ⟨fun h => by simp at hvl; omega, fun _ lu H6 s6 hu6 => ?_⟩⟩
            have J6 := J5.same s6
            have hdd6 := hdd.le (same_le s6)
            obtain ⟨dsb, deb, pl, ksb, keb, ws, Wb⟩ := J6.bk
            refine ⟨_, rfl, _, rfl, _, [bx, b, pa], b, dsb, deb, pl, ksb, keb, ws, st, _, dl, .undo, rfl, Wb, hdd6, trivial, gi, n100, by omega, ⟨fun h => by simp at h, fun q0 q1 hq lt H7 ds7 de7 pl7 ks7 ke7 vs7 sb7 W7 ht7 => ?_⟩⟩
            obtain ⟨rfl, hq2⟩ := List.append_inj' hq rfl
            cases hq2
            have e67 : LeS (fr [bx, b, pa] H6) (fr [bx, b, pa] H7) := sb_leS sb7 (by simp)
            have hu7 := e67.le.dp hu6
            have hpa6 := s6 _ _ hpa
            have hpa7 := sb7 _ _ (by simpa using J.ne.symm) hpa6
            have hdl7 := (fr_le _ _).sqL (((same_le s6).trans e67.le).sqL htg)
            have huu7 := (fr_le _ _).dp hu7
            obtain ⟨r7, hl7⟩ := dp_hd huu7
            refine ⟨_, _, rfl, _, rfl, lu, _, 0, _, rfl, rfl, hl7, L2.atI_nat (j := 0) rfl, rfl, _, rfl, ?_⟩
            refine ite_t (by decide +kernel) ?_
            refine ⟨_, rfl, dl, _, 0, _, rfl, rfl, hdl7, L2.atI_nat (j := 0) rfl, rfl, _, rfl, ?_⟩
            refine ite_t (by decide +kernel) ?_
            refine ⟨_, rfl, .inl ⟨rfl, _, .inl (.inl hpa7)⟩, pa, _, _, rfl, rfl, hpa7, by rw [List.length_append, List.length_singleton, Nat.add_sub_cancel]; exact List.getElem?_concat_length, ?_⟩
            have hp8 : (upd H7 pa (.lst (vs0 ++ [V.ref a]).dropLast)) pa = some (.lst vs0) := by rw [upd_same, List.dropLast_concat]
            have W8 := W7.updP (o := .lst (vs0 ++ [V.ref a]).dropLast) J.mp J.ne
            have e8 : fr [bx, b, pa] (upd H7 pa (.lst (vs0 ++ [V.ref a]).dropLast)) = fr [bx, b, pa] H7 := fr_updM J.mp
            have b8 : BoxI (200 * j + 200) bx (upd H7 pa (.lst (vs0 ++ [V.ref a]).dropLast)) := ((b5.same s6).old (A := [b]) sb7 (by simpa using xb)).old (A := [pa]) sb_upd (by simpa using xp)
            have ht8 : Dp K (fr [bx, b, pa] (upd H7 pa (.lst (vs0 ++ [V.ref a]).dropLast))) (.ref lt) (.list [.str "done", .none]) := by rw [e8]; exact ht7
            have hu8 : Dp K (fr [bx, b, pa] (upd H7 pa (.lst (vs0 ++ [V.ref a]).dropLast))) (.ref lu) (.list [.str "done", .none]) := by rw [e8]; exact hu7
            have e68 : LeS (fr [bx, b, pa] H5) (fr [bx, b, pa] (upd H7 pa (.lst (vs0 ++ [V.ref a]).dropLast))) := by rw [e8]; exact (same_leS s6).trans e67
            have J8 := J5.pop e68 W8 hp8 pA
            generalize upd H7 pa (.lst (vs0 ++ [V.ref a]).dropLast) = H8 at *
            obtain ⟨r8, hl8⟩ := dp_hd ((fr_le _ _).dp hu8)
            refine ⟨_, rfl, lu, _, 0, _, rfl, rfl, hl8, L2.atI_nat (j := 0) rfl, rfl, _, rfl, ?_⟩
            refine ite_t (by decide +kernel) ?_
            refine ⟨by show 2 ≤ sizeLine; decide, fun lu nlu => ?_⟩
            have s9 := same_new (o := .lst [.str "done", .non]) nlu
            have htt := (Le.of s9).dp ((fr_le _ _).dp ht8)
            have huu : Dp K (upd H8 lu (.lst [.str "done", .non])) (.ref lu) (.list [.str "done", .none]) := .lst (.inl (.inl upd_same)) (.cons (.str _) (.cons .non .nil))
            have bN : BoxI (200 * (j + 1)) bx (upd H8 lu (.lst [.str "done", .non])) := (b8.same s9).le (by omega)
            have JN := J8.same s9
            generalize upd H8 lu (.lst [.str "done", .non]) = H9' at *
            obtain ⟨stN, hstN⟩ : ∃ s, s = st' := ⟨_, rfl⟩
            obtain ⟨pastN, hpN⟩ : ∃ s : List Stt, s = p0 := ⟨_, rfl⟩
            rw [← hstN, ← hpN] at JN
            have hlN : pastN.length ≤ 2 * i + (j + 1) := by rw [hpN]; omega
            refine ⟨_, rfl, lt, .list [.str "done", .none], rfl, htt, done_sh.sh, done_sh.nd, Nat.le_trans done_sh.dp (by decide), shB_fits (done_sh.mono (by decide) (by decide)), _, rfl, lu, .list [.str "done", .none], rfl, huu, done_sh.sh, done_sh.nd, Nat.le_trans done_sh.dp (by decide), shB_fits (done_sh.mono (by decide) (by decide)), rfl, _, rfl, ?_⟩
            refine ite_f (by simp) ?_
            obtain ⟨dsb, deb, pl, ksb, keb, ws, Wb⟩ := JN.bk
            obtain ⟨vsN, aN, dsN, deN, ksN, keN, hpaN, LN, pN⟩ := JN.lw
            refine ⟨_, rfl, _, rfl, pastN.length, [bx, b, pa], b, dsb, deb, pl, ksb, keb, ws, stN, pastN, pa, vsN, aN, dsN, deN, ksN, keN, rfl, Wb, hpaN, pN.len, by omega, LN, JN.good, by omega, fun H9 s9 => ⟨_, rfl, ?_⟩⟩
            refine ite_f (by simp) ?_
            exact ⟨⟨_, _, _, _, rfl⟩, bN.same s9, stN, pastN, JN.same s9, by omega⟩
        · have htu : tg ≠ "undo" := by
            rcases hund with ⟨h, _⟩ | ⟨_, h⟩
            · exact absurd h hu
            · exact h
          refine ⟨_, rfl, _, rfl, past.length, [bx, b, pa], pa, vs0, a, ds, de, ks, ke, st, dl, dd, rfl, J5.mok, hpa, L, hdd, hD.ok, gi, n100, dued_of hu ?_⟩
          cases ho : dueOut st dd with
          | no er x =>
            refine fun lu H6 s6 hu6 => ?_
            have J6 := J5.same s6
            have hdd6 := hdd.le (same_le s6)
            obtain ⟨dsb, deb, pl, ksb, keb, ws, Wb⟩ := J6.bk
            refine ⟨_, rfl, _, rfl, past.length, [bx, b, pa], b, dsb, deb, pl, ksb, keb, ws, st, past, dl, dd, rfl, Wb, hdd6, hD.ok, gi, n100, by omega, told_of hu ?_⟩
            rw [ho]
            refine fun lt H7 s7 htt => ?_
            have hu7 := (same_le s7).dp hu6
            have huu := (fr_le _ _).dp hu7
            obtain ⟨r7, hl7⟩ := dp_hd huu
            have bN : BoxI (200 * (j + 1)) bx H7 := ((b5.same s6).same s7).le (by omega)
            have JN := J6.same s7
            have nd : ¬ decide (V.str (tagE er) = V.str "done") = true := fun h => by
              have h := of_decide_eq_true h
              injection h with h
              exact tag_done er h
            refine ⟨_, _, rfl, _, rfl, lu, _, 0, _, rfl, rfl, hl7, L2.atI_nat (j := 0) rfl, rfl, _, rfl, ?_⟩
            refine ite_f nd ?_
            refine ⟨_, rfl, lu, _, 0, _, rfl, rfl, hl7, L2.atI_nat (j := 0) rfl, rfl, _, rfl, ?_⟩
            refine ite_f nd ?_
            refine ⟨_, rfl, lu, _, 0, _, rfl, rfl, hl7, L2.atI_nat (j := 0) rfl, rfl, _, rfl, ?_⟩
            refine ite_f nd ?_
            have shx := told_sh er (out_sh gi n100 hD ho)
            obtain ⟨stN, hstN⟩ : ∃ s, s = st := ⟨_, rfl⟩
            obtain ⟨pastN, hpN⟩ : ∃ s : List Stt, s = past := ⟨_, rfl⟩
            rw [← hstN, ← hpN] at JN
            have hlN : pastN.length ≤ 2 * i + (j + 1) := by rw [hpN]; omega
            refine ⟨_, rfl, lt, .list [.str (tagE er), x], rfl, htt, shx.sh, shx.nd, Nat.le_trans shx.dp (by decide), shB_fits (shx.mono (by decide) (by decide)), _, rfl, lu, .list [.str (tagE er), x], rfl, huu, shx.sh, shx.nd, Nat.le_trans shx.dp (by decide), shB_fits (shx.mono (by decide) (by decide)), rfl, _, rfl, ?_⟩
            refine ite_f (by simp) ?_
            obtain ⟨dsb, deb, pl, ksb, keb, ws, Wb⟩ := JN.bk
            obtain ⟨vsN, aN, dsN, deN, ksN, keN, hpaN, LN, pN⟩ := JN.lw
            refine ⟨_, rfl, _, rfl, pastN.length, [bx, b, pa], b, dsb, deb, pl, ksb, keb, ws, stN, pastN, pa, vsN, aN, dsN, deN, ksN, keN, rfl, Wb, hpaN, pN.len, by omega, LN, JN.good, by omega, fun H9 s9 => ⟨_, rfl, ?_⟩⟩
            refine ite_f (by simp) ?_
            exact ⟨⟨_, _, _, _, rfl⟩, bN.same s9, stN, pastN, JN.same s9, by omega⟩
          | done st' =>
            refine fun lu H6 s6 hu6 => ?_
            obtain ⟨a', ds', de', ks', ke', hl6, L6⟩ := hu6
            have J6 := J5.same s6
            have hdd6 := hdd.le (same_le s6)
            obtain ⟨dsb, deb, pl, ksb, keb, ws, Wb⟩ := J6.bk
            refine ⟨_, rfl, _, rfl, past.length, [bx, b, pa], b, dsb, deb, pl, ksb, keb, ws, st, past, dl, dd, rfl, Wb, hdd6, hD.ok, gi, n100, by omega, told_of hu ?_⟩
            rw [ho]
            refine fun lt H7 ds7 de7 pl7 ks7 ke7 vs7 sb7 W7 ht7 => ?_
            have e67 : LeS (fr [bx, b, pa] H6) (fr [bx, b, pa] H7) := sb_leS sb7 (by simp)
            have hpa6 := s6 _ _ hpa
            have hpa7 := sb7 _ _ (by simpa using J.ne.symm) hpa6
            have hdl7 := (fr_le _ _).sqL (((same_le s6).trans e67.le).sqL htg)
            have hlF := e67.le.sqL hl6
            have hl7 := (fr_le _ _).sqL hlF
            refine ⟨_, _, rfl, _, rfl, lu, _, 0, _, rfl, rfl, hl7, L2.atI_nat (j := 0) rfl, rfl, _, rfl, ?_⟩
            refine ite_t (by decide +kernel) ?_
            refine ⟨_, rfl, dl, _, 0, _, rfl, rfl, hdl7, L2.atI_nat (j := 0) rfl, rfl, _, rfl, ?_⟩
            refine ite_f (fun h => by
              have h := of_decide_eq_true h
              injection h with h
              exact htu h) ?_
            refine ⟨_, rfl, lu, _, 0, _, rfl, rfl, hl7, L2.atI_nat (j := 0) rfl, rfl, _, rfl, ?_⟩
            refine ite_t (by decide +kernel) ?_
            refine ⟨_, rfl, .inl ⟨rfl, _, .inl (.inl hpa7)⟩, _, rfl, lu, _, 1, _, rfl, rfl, hl7, rfl, pa, _, _, rfl, rfl, hpa7, by rw [List.length_append, List.length_singleton, hvl, sizeLine_eq]; omega, ?_⟩
            have hp8 : (upd H7 pa (.lst ((vs0 ++ [V.ref a]) ++ [V.ref a']))) pa = some (.lst ((vs0 ++ [V.ref a]) ++ [V.ref a'])) := upd_same
            have W8 := W7.updP (o := .lst ((vs0 ++ [V.ref a]) ++ [V.ref a'])) J.mp J.ne
            have e8 : fr [bx, b, pa] (upd H7 pa (.lst ((vs0 ++ [V.ref a]) ++ [V.ref a']))) = fr [bx, b, pa] H7 := fr_updM J.mp
            have b8 : BoxI (200 * j + 200) bx (upd H7 pa (.lst ((vs0 ++ [V.ref a]) ++ [V.ref a']))) := ((b5.same s6).old (A := [b]) sb7 (by simpa using xb)).old (A := [pa]) sb_upd (by simpa using xp)
            have ht8 : Dp K (fr [bx, b, pa] (upd H7 pa (.lst ((vs0 ++ [V.ref a]) ++ [V.ref a'])))) (.ref lt) (.list [.str "done", .none]) := by rw [e8]; exact ht7
            have hl8F : SqL K (fr [bx, b, pa] (upd H7 pa (.lst ((vs0 ++ [V.ref a]) ++ [V.ref a'])))) lu [.str "done", .ref a'] := by rw [e8]; exact hlF
            have L8 : LStR K true (fr [bx, b, pa] (upd H7 pa (.lst ((vs0 ++ [V.ref a]) ++ [V.ref a'])))) a' ds' de' ks' ke' st' := by rw [e8]; exact L6.leS e67
            have e68 : LeS (fr [bx, b, pa] H5) (fr [bx, b, pa] (upd H7 pa (.lst ((vs0 ++ [V.ref a]) ++ [V.ref a'])))) := by rw [e8]; exact (same_leS s6).trans e67
            have J8 := J5.push e68 W8 hp8 (past_snoc pA (LsR.of L)) L8 (good_step gi n100 hD hg ho)
            generalize upd H7 pa (.lst ((vs0 ++ [V.ref a]) ++ [V.ref a'])) = H8 at *
            have hl8 := (fr_le _ _).sqL hl8F
            refine ⟨_, rfl, lu, _, 0, _, rfl, rfl, hl8, L2.atI_nat (j := 0) rfl, rfl, _, rfl, ?_⟩
            refine ite_t (by decide +kernel) ?_
            refine ⟨by show 2 ≤ sizeLine; decide, fun lu nlu => ?_⟩
            have s9 := same_new (o := .lst [.str "done", .non]) nlu
            have htt := (Le.of s9).dp ((fr_le _ _).dp ht8)
            have huu : Dp K (upd H8 lu (.lst [.str "done", .non])) (.ref lu) (.list [.str "done", .none]) := .lst (.inl (.inl upd_same)) (.cons (.str _) (.cons .non .nil))
            have bN : BoxI (200 * (j + 1)) bx (upd H8 lu (.lst [.str "done", .non])) := (b8.same s9).le (by omega)
            have JN := J8.same s9
            generalize upd H8 lu (.lst [.str "done", .non]) = H9' at *
            obtain ⟨stN, hstN⟩ : ∃ s, s = st' := ⟨_, rfl⟩
            obtain ⟨pastN, hpN⟩ : ∃ s : List Stt, s = past ++ [st] := ⟨_, rfl⟩
            rw [← hstN, ← hpN] at JN
            have hlN : pastN.length ≤ 2 * i + (j + 1) := by rw [hpN, List.length_append, List.length_singleton]; omega
            refine ⟨_, rfl, lt, .list [.str "done", .none], rfl, htt, done_sh.sh, done_sh.nd, Nat.le_trans done_sh.dp (by decide), shB_fits (done_sh.mono (by decide) (by decide)), _, rfl, lu, .list [.str "done", .none], rfl, huu, done_sh.sh, done_sh.nd, Nat.le_trans done_sh.dp (by decide), shB_fits (done_sh.mono (by decide) (by decide)), rfl, _, rfl, ?_⟩
            refine ite_f (by simp) ?_
            obtain ⟨dsb, deb, pl, ksb, keb, ws, Wb⟩ := JN.bk
            obtain ⟨vsN, aN, dsN, deN, ksN, keN, hpaN, LN, pN⟩ := JN.lw
            refine ⟨_, rfl, _, rfl, pastN.length, [bx, b, pa], b, dsb, deb, pl, ksb, keb, ws, stN, pastN, pa, vsN, aN, dsN, deN, ksN, keN, rfl, Wb, hpaN, pN.len, by omega, LN, JN.good, by omega, fun H9 s9 => ⟨_, rfl, ?_⟩⟩
            refine ite_f (by simp) ?_
            exact ⟨⟨_, _, _, _, rfl⟩, bN.same s9, stN, pastN, JN.same s9, by omega⟩
      · obtain ⟨⟨y5, y6, y7, y8, rfl⟩, bi, st, past, J, hpl⟩ := p
        exact ⟨⟨_, _, _, _, _, _, rfl⟩, st, past, J.shrink (by simp) (by simp), by omega⟩
    · obtain ⟨⟨y3, y4, y5, y6, y7, y8, rfl⟩, st, past, J, hpl⟩ := p
      have hpl80 : past.length ≤ 80 := by
        have : ((if (if ((ns.map V.int).length : Int) < 40 then ((ns.map V.int).length : Int) else 40) > 1 then (if ((ns.map V.int).length : Int) < 40 then ((ns.map V.int).length : Int) else 40) else 1) : Int).toNat ≤ 40 := by
          split <;> split <;> omega
        exact Nat.le_trans hpl (Nat.mul_le_mul_left 2 this)
      refine ⟨fun m σ H' => (∃ y3 y4 y5 y6 y7 y8, σ = [some (.ref l), some (.ref b), some (.ref pa), y3, y4, y5, y6, y7, y8]) ∧ ∃ st past, Joint K CS CB [b, pa] H' l b pa ns st past ∧ past.length = m ∧ m ≤ 80, ⟨past.length, ⟨_, _, _, _, _, _, rfl⟩, st, past, J, rfl, hpl80⟩, ?_⟩
      rintro m σ H5 ⟨⟨y3, y4, y5, y6, y7, y8, rfl⟩, st, past, J, hm, h80⟩
      obtain ⟨vs0, a, ds, de, ks, ke, hpa, L, pA⟩ := J.lw
      have hvl := pA.len
      refine ⟨_, rfl, _, _, rfl, .inl ⟨_, .inl (.inl hpa), rfl⟩, _, _, rfl, rfl, _, rfl, ?_⟩
      have hlen : (vs0 ++ [V.ref a]).length = past.length + 1 := by rw [List.length_append, List.length_singleton, hvl]
      refine ite2 (fun c => ?_) fun c => ?_
      · have c : (1 : Int) < ((vs0 ++ [V.ref a]).length : Int) := by simpa using c
        rcases nil_or_snoc past with rfl | ⟨p0, st', rfl⟩
        · rw [hlen] at c; simp at c
        · have hm0 : p0.length + 1 = m := by simpa using hm
          refine ⟨fun σ' H' => (∃ y3 y4 y5 y6 y7 y8, σ' = [some (.ref l), some (.ref b), some (.ref pa), y3, y4, y5, y6, y7, y8]) ∧ ∃ st past, Joint K CS CB [b, pa] H' l b pa ns st past ∧ past.length = p0.length ∧ p0.length ≤ 80, fun σ' H' h => ⟨p0.length, by omega, h⟩, ?_⟩
          refine ⟨_, rfl, .inl ⟨rfl, _, .inl (.inl hpa)⟩, pa, _, _, rfl, rfl, hpa, by rw [List.length_append, List.length_singleton, Nat.add_sub_cancel]; exact List.getElem?_concat_length, ?_⟩
          obtain ⟨dsb, deb, pl, ksb, keb, ws, Wb⟩ := J.bk
          have hp8 : (upd H5 pa (.lst (vs0 ++ [V.ref a]).dropLast)) pa = some (.lst vs0) := by rw [upd_same, List.dropLast_concat]
          have W8 := Wb.updP (o := .lst (vs0 ++ [V.ref a]).dropLast) J.mp J.ne
          have e8 : fr [b, pa] (upd H5 pa (.lst (vs0 ++ [V.ref a]).dropLast)) = fr [b, pa] H5 := fr_updM J.mp
          generalize upd H5 pa (.lst (vs0 ++ [V.ref a]).dropLast) = H8 at *
          obtain ⟨dx8, hb8⟩ := W8.ins
          refine ⟨_, rfl, b, dx8, _, rfl, hb8, rfl, true, [b, pa], b, dsb, deb, pl, ksb, keb, ws, st, p0 ++ [st'], rfl, W8, by rw [List.length_append, List.length_singleton]; omega, fun h => by simp at h, fun q0 q1 hq H9 ds9 de9 pl9 ks9 ke9 vs9 sb9 W9 => ?_⟩
          obtain ⟨rfl, hq2⟩ := List.append_inj' hq rfl
          cases hq2
          refine ⟨rfl, _, rfl, ?_⟩
          have e89 : LeS (fr [b, pa] H5) (fr [b, pa] H9) := by rw [← e8]; exact sb_leS sb9 (by simp)
          have hp9 := sb9 _ _ (by simpa using J.ne.symm) hp8
          have JN := J.pop e89 W9 hp9 pA
          obtain ⟨dsb, deb, pl, ksb, keb, ws, Wb⟩ := JN.bk
          obtain ⟨vsN, aN, dsN, deN, ksN, keN, hpaN, LN, pN⟩ := JN.lw
          refine ⟨_, rfl, _, rfl, p0.length, [b, pa], b, dsb, deb, pl, ksb, keb, ws, st', p0, pa, vsN, aN, dsN, deN, ksN, keN, rfl, Wb, hpaN, pN.len, by omega, LN, JN.good, by omega, fun H10 s10 => ⟨_, rfl, ?_⟩⟩
          refine ite_f (by simp) ?_
          exact ⟨⟨_, _, _, _, _, _, rfl⟩, st', p0, JN.same s10, rfl, by omega⟩
      · have c : ¬ (1 : Int) < ((vs0 ++ [V.ref a]).length : Int) := by simpa using c
        have hp0 : past = [] := by
          cases past with
          | nil => rfl
          | cons x y => rw [hlen] at c; simp at c; omega
        subst hp0
        have hst : st = ⟨[], []⟩ := by
          have := J.z
          cases this
          rfl
        subst hst
        obtain ⟨dsb, deb, pl, ksb, keb, ws, Wb⟩ := J.bk
        obtain ⟨dxb, hbb⟩ := Wb.ins
        refine ⟨_, rfl, b, dxb, _, rfl, hbb, rfl, b, dsb, deb, pl, ksb, keb, ⟨[], []⟩, rfl, Wb.toW, by show 0 < 64; decide, fun ys p6 H6 hp6 hs6 s6 np6 hp66 => ⟨by show 0 ≤ sizeLine; decide, fun l0 n0 => ?_⟩⟩
        have hy : ys = [] := List.perm_nil.mp hp6
        subst hy
        refine ⟨.list [], .list [], .lst (.inl (.inl (same_new n0 _ _ hp66))) .nil, .lst (.inl (.inl upd_same)) .nil, by decide, by decide, _, rfl, ?_⟩
        rw [eqv_nil]
        have s7 := s6.trans (same_new (o := .lst []) n0)
        generalize upd H6 l0 (.lst []) = H7 at *
        have W7 := Wb.same s7
        refine ⟨_, rfl, b, dxb, _, rfl, s7 _ _ hbb, rfl, b, dsb, deb, pl, ksb, keb, ⟨[], []⟩, rfl, W7.toW, by show 0 < 64; decide, fun ys p8 H8 hp8 hs8 s8 np8 hp88 => ⟨by show 0 ≤ sizeLine; decide, fun l1 n1 => ?_⟩⟩
        have hy : ys = [] := List.perm_nil.mp hp8
        subst hy
        refine ⟨.list [], .list [], .lst (.inl (.inl (same_new n1 _ _ hp88))) .nil, .lst (.inl (.inl upd_same)) .nil, by decide, by decide, _, rfl, ?_⟩
        rw [eqv_nil]
        have s9 := (s7.trans s8).trans (same_new (o := .lst []) n1)
        generalize upd H8 l1 (.lst []) = H9 at *
        have W9 := Wb.same s9
        refine ⟨_, rfl, fun x9 dx9 nx9 ndx9 nex9 => ⟨x9, dx9, rfl, upd_same, fun H10 ds9 de9 pl9 sb9 hx9 hds9 hde9 hpl9 _ _ _ => ⟨rfl, ?_⟩⟩⟩
        have s10 : Same H9 H10 := fun a o h => by
          refine sb9 a o (by simpa using ne_of_none h nx9) ?_
          rw [upd_ne (ne_of_none h nx9), upd_ne (ne_of_none h ndx9)]
          exact h
        have W10 := W9.same s10
        exact ⟨b, dxb, _, x9, dx9, _, rfl, rfl, (s9.trans s10) _ _ hbb, hx9, b, dsb, deb, pl, ksb, keb, ⟨[], []⟩, x9, dx9, ds9, de9, pl9, rfl, W10.toW, rfl, rfl, hx9, hds9, hde9, q _⟩
end
end K75
set_option maxHeartbeats 2000000
namespace K75
open PySem PySem.Spec PyProof.Rows L2
theorem prB_ok {K : PySem.W.Frag} {p : Addr} (h : prB K p = true) : ∃ rest, PySem.W.recIn K p "property" = some (.ref (prAd K p) :: rest) := by
  unfold prB at h
  unfold prAd
  split at h
  · rename_i g r e
    rw [e]
    exact ⟨r, rfl⟩
  · cases h
theorem DX.get {K : PySem.W.Frag} {d : DX} (h : fwAt K (d.at_ K) = d.want) (b : d.okB K = true) : ∃ fd, FunD K d.nm d.qn (defArgs d.st) (defBody d.st) (defScope d.st) d.df [] (d.at_ K) fd := by
  obtain ⟨kp, b⟩ := He.ba b
  unfold fwAt at h
  cases q : K.lookup (d.at_ K) with
  | none => rw [q] at h; cases h
  | some o =>
    obtain ⟨oc, od, dt, sl⟩ := o
    rw [q] at h b
    cases dt with
    | func fd =>
      obtain ⟨b1, b2⟩ := He.ba (show (PySem.W.codeIn K fd.code d.qn && He.dflB K fd.defaults d.df) = true from b)
      obtain ⟨m1, m2, m3, m4, m5, m6, m7, m8, m9, m10, m11, m12, m13, m14, m15⟩ := fd
      have h : (some (m1, m2, m3, m4, m5, m6, m7, m15) : FW) = some (d.nm, d.qn, defArgs d.st, .stmts (defBody d.st), defScope d.st, mainGlobals, [], builtinsNs) := h
      simp only [Option.some.injEq, Prod.mk.injEq] at h
      obtain ⟨rfl, rfl, rfl, rfl, rfl, rfl, rfl, rfl⟩ := h
      exact ⟨_, ⟨oc, od, m8, m9, m10, m11, m12, m13, m14, sl, rfl, q, b1, He.dflB_ok b2, .inl rfl⟩, kp⟩
    | _ => cases h
theorem xw_get {K : PySem.W.Frag} {f : Addr} {qn : Str} {ar : Arguments} {bd : List Stmt} {sc : Scope} (h : xwAt K f = (some ("__init__", qn, ar, .stmts bd, sc, mainGlobals, ["__class__"], .none, .none, builtinsNs) : XW)) (r : codR K f = true) :
    ∃ oc od doc pm an ct sl, K.lookup f = some ⟨oc, od, .func (PySem.W.ksFn "__init__" qn ar bd sc .none .none doc pm an (.ref (codA K f)) ct (celA K f)), sl⟩ := by
  unfold xwAt at h
  unfold codR at r
  unfold codA celA
  cases q : K.lookup f with
  | none => rw [q] at h; cases h
  | some o =>
    obtain ⟨oc, od, dt, sl⟩ := o
    rw [q] at h r
    cases dt with
    | func fd =>
      obtain ⟨m1, m2, m3, m4, m5, m6, m7, m8, m9, m10, m11, m12, m13, m14, m15⟩ := fd
      have h : (some (m1, m2, m3, m4, m5, m6, m7.map (·.1), m8, m9, m15) : XW) = (some ("__init__", qn, ar, .stmts bd, sc, mainGlobals, ["__class__"], .none, .none, builtinsNs) : XW) := h
      simp only [Option.some.injEq, Prod.mk.injEq] at h
      obtain ⟨rfl, rfl, rfl, rfl, rfl, rfl, h7, rfl, rfl, rfl⟩ := h
      cases m7 with
      | nil => cases h7
      | cons p l =>
        cases l with
        | cons _ _ => exact absurd (congrArg List.length h7) (by simp)
        | nil =>
          obtain ⟨y, a⟩ := p
          have h7 : [y] = (["__class__"] : List Str) := h7
          injection h7 with h7 _
          subst h7
          cases m13 with
          | ref c => exact ⟨oc, od, m10, m11, m12, m14, sl, rfl⟩
          | _ => cases r
    | _ => cases h
theorem clsB_ok {K : PySem.W.Frag} {C : Addr} (h : clsB K C = true) : ∃ nm q N bs bm sn sub ab col dd k0 k1 k2 k3 k5, K.lookup C = some (excClassObj nm q C N bs bm true sn sub ab col dd k0 k1 k2 k3 k5 "ValueError.__new__") ∧ PySem.HandSPX.refsVE bm = true ∧ PySem.W.alongIn K "__init__" bm = some (some (.builtin "ValueError.__init__")) := by
  unfold clsB at h
  split at h
  · rename_i t dd cd sl ho
    split at h
    · rename_i D bm k0 k1 k2 k3 n k5 hm hs
      obtain ⟨h1, h⟩ := He.ba h
      obtain ⟨h2, h⟩ := He.ba h
      obtain ⟨h3, h⟩ := He.ba h
      obtain ⟨h4, h⟩ := He.ba h
      obtain ⟨h5, h⟩ := He.ba h
      obtain ⟨h6, h7⟩ := He.ba h
      have h1 := of_decide_eq_true h1
      have h2 := of_decide_eq_true h2
      have h3 := of_decide_eq_true h3
      subst h1 h2 h3
      obtain ⟨c1, c2, c3, c4, c5, c6, c7, c8, c9, c10, c11⟩ := cd
      dsimp only at hm h4 h5
      have h4 : c11 = false := by simpa using h4
      subst hm h4 h5
      obtain ⟨l⟩ := sl
      have hs : l = [k0, k1, k2, k3, some (.builtin "ValueError.__new__"), k5] := hs
      subst hs
      exact ⟨_, _, _, _, bm, _, _, _, _, _, k0, k1, k2, k3, k5, ho, h6, He.eqO_ok h7⟩
    · cases h
  · cases h
theorem celB_ok {K : PySem.W.Frag} {cc C : Addr} (h : celB K cc C = true) : ∃ cl cld csl, K.lookup cc = some ⟨cl, cld, .cell (some (.ref C)), csl⟩ := by
  unfold celB at h
  split at h
  · rename_i a b D c e
    have h := of_decide_eq_true h
    subst h
    exact ⟨_, _, _, e⟩
  · cases h
theorem codB_ok {K : PySem.W.Frag} {cda : Addr} (h : codB K cda = true) : ∃ ccl cdd vs ccs file tf, K.lookup cda = some ⟨ccl, cdd, .fields vs, ccs⟩ ∧ vs[2]? = some (.str file tf) ∧ ((Prg.main.file : Str) == file) = true := by
  unfold codB at h
  split at h
  · rename_i a b vs c e
    split at h
    · rename_i file tf e2
      exact ⟨_, _, vs, _, file, tf, e, e2, h⟩
    · cases h
  · cases h
theorem EX.cls {K : PySem.W.Frag} {mg : Str → Option Value} {e : EX} (h : e.okB K = true) (hs : mg "super" = none) (ho : PySem.W.nsIn K cStatics "thirdparty.any" = some none) : XCls Prg K mg (He.ga K e.cn) (e.fI K) (celA K (e.fI K)) (codA K (e.fI K)) e.qn ∧ codR K (e.fI K) = true := by
  unfold EX.okB at h
  obtain ⟨h1, h⟩ := He.ba h
  obtain ⟨h2, h⟩ := He.ba h
  obtain ⟨h3, h⟩ := He.ba h
  obtain ⟨h4, h⟩ := He.ba h
  obtain ⟨h5, h⟩ := He.ba h
  obtain ⟨h6, h⟩ := He.ba h
  obtain ⟨h7, h⟩ := He.ba h
  obtain ⟨h8, h⟩ := He.ba h
  obtain ⟨h9, h⟩ := He.ba h
  obtain ⟨h10, h⟩ := He.ba h
  obtain ⟨h11, h⟩ := He.ba h
  obtain ⟨h12, h⟩ := He.ba h
  obtain ⟨h13, h⟩ := He.ba h
  obtain ⟨h14, h⟩ := He.ba h
  obtain ⟨h15, h⟩ := He.ba h
  obtain ⟨h16, h17⟩ := He.ba h
  exact ⟨⟨clsB_ok h1, He.eqO_ok h2, He.eqO_ok h3, He.eqO_ok h4, He.eqO_ok h5, of_decide_eq_true h6, h7, of_decide_eq_true h8, of_decide_eq_true h9, of_decide_eq_true h10, h11, of_decide_eq_true h12, of_decide_eq_true h13, hs, ho, celB_ok h14, codB_ok h15, h16, by decide +kernel⟩, h17⟩
theorem isc_ok {K : PySem.W.Frag} {x : Str} (h : (Fx.isc x).okB K = true) : IsC K (He.ga K x) := by
  obtain ⟨h1, h⟩ := He.ba h
  obtain ⟨h2, h⟩ := He.ba h
  obtain ⟨h3, h4⟩ := He.ba h
  exact ⟨He.eqO_ok h1, He.eqO_ok h2, of_decide_eq_true h3, of_decide_eq_true h4⟩
theorem kitN_ok {K : PySem.W.Frag} {t : String} {x : Str} (h : (Fx.kit t x).okB K = true) : PySem.W.kitOne K (.type t) (.ref (He.ga K x)) = some false := of_decide_eq_true h
theorem prop_ok {K : PySem.W.Frag} {x f : Str} (h : (Fx.prop x f).okB K = true) : PropOf K (He.ga K x) f (He.ma K (He.ga K x) f) (prAd K (He.ma K (He.ga K x) f)) := by
  obtain ⟨h1, h⟩ := He.ba h
  obtain ⟨h2, h⟩ := He.ba h
  obtain ⟨h3, h4⟩ := He.ba h
  exact ⟨He.eqO_ok h1, He.eqO_ok h2, of_decide_eq_true h3, prB_ok h4⟩
theorem stat_ok {K : PySem.W.Frag} (h : Fx.stat.okB K = true) : PySem.W.nsIn K cStatics "thirdparty.any" = some none := He.eqO_ok h
section
variable {K : PySem.W.Frag}
theorem says1 (c : SaysX K) : (faL.all fun f => f.ok K) = true := congrArg (fun z : AlX => z.1) c
theorem says2 (c : SaysX K) : (fnL.all fun d => d.okB K) = true := congrArg (fun z : AlX => z.2.1.1) c
theorem says3 (c : SaysX K) : (fxL.all fun f => f.okB K) = true := congrArg (fun z : AlX => z.2.2.1) c
theorem says4 (c : SaysX K) : (exL.all fun e => e.okB K) = true := congrArg (fun z : AlX => z.2.2.2.1) c
theorem fa_ok (c : SaysX K) (i : Nat) {f : He.Fa} (h : faL[i]? = some f) : f.ok K = true := List.all_eq_true.mp (says1 c) f (List.mem_of_getElem? h)
theorem fx_ok (c : SaysX K) (i : Nat) {f : Fx} (h : fxL[i]? = some f) : f.okB K = true := List.all_eq_true.mp (says3 c) f (List.mem_of_getElem? h)
theorem fn_ok (c : SaysX K) (i : Nat) {d : DX} (h : fnL[i]? = some d) : ∃ fd, FunD K d.nm d.qn (defArgs d.st) (defBody d.st) (defScope d.st) d.df [] (d.at_ K) fd := by
  have e : fnL.map (fun d => fwAt K (d.at_ K)) = fnL.map DX.want := congrArg (fun z : AlX => z.2.1.2) c
  have e2 : (fnL.map fun d => fwAt K (d.at_ K))[i]? = (fnL.map DX.want)[i]? := by rw [e]
  rw [List.getElem?_map, List.getElem?_map, h] at e2
  exact DX.get (Option.some.inj e2) (List.all_eq_true.mp (says2 c) d (List.mem_of_getElem? h))
theorem ex_ok (c : SaysX K) (i : Nat) {e : EX} (h : exL[i]? = some e) : e.okB K = true ∧ xwAt K (e.fI K) = e.want := by
  have q : exL.map (fun e => xwAt K (e.fI K)) = exL.map EX.want := congrArg (fun z : AlX => z.2.2.2.2) c
  have q2 : (exL.map fun e => xwAt K (e.fI K))[i]? = (exL.map EX.want)[i]? := by rw [q]
  rw [List.getElem?_map, List.getElem?_map, h] at q2
  exact ⟨List.all_eq_true.mp (says4 c) e (List.mem_of_getElem? h), Option.some.inj q2⟩
end
section
variable {w : World} {K : PySem.W.Frag} {mg : Str → Option Value} {base : Heap}
theorem xr_InvalidName (c : SaysX K) (g : mg "InvalidName" = some (.ref (He.ga K "InvalidName"))) (hs : mg "super" = none) (n : PySem.W.findIn K (.ref (He.ga K "InvalidName")) "name" = some none) : XR1 Prg w K mg base "InvalidName" "name" (He.ga K "InvalidName") := by
  obtain ⟨h1, h2⟩ := ex_ok c 0 (e := ex0) rfl
  obtain ⟨T, r⟩ := EX.cls (mg := mg) h1 hs (stat_ok (fx_ok c 8 rfl))
  obtain ⟨oc, od, doc, pm, an, ct, sl, lk⟩ := xw_get h2 r
  refine xr1 T ⟨oc, od, doc, pm, an, ct, sl, _, _, _, _, _, _, _, _, _, _, _, _, _, _, ?_, rfl, lk⟩ n g rfl rfl rfl (fun _ _ => rfl) (by decide) (fun _ _ _ _ _ _ _ _ us hl => match us, hl with | [_, _], _ => rfl)
  rfl
theorem xr_NameTaken (c : SaysX K) (g : mg "NameTaken" = some (.ref (He.ga K "NameTaken"))) (hs : mg "super" = none) (n : PySem.W.findIn K (.ref (He.ga K "NameTaken")) "name" = some none) : XR1 Prg w K mg base "NameTaken" "name" (He.ga K "NameTaken") := by
  obtain ⟨h1, h2⟩ := ex_ok c 1 (e := ex1) rfl
  obtain ⟨T, r⟩ := EX.cls (mg := mg) h1 hs (stat_ok (fx_ok c 8 rfl))
  obtain ⟨oc, od, doc, pm, an, ct, sl, lk⟩ := xw_get h2 r
  refine xr1 T ⟨oc, od, doc, pm, an, ct, sl, _, _, _, _, _, _, _, _, _, _, _, _, _, _, ?_, rfl, lk⟩ n g rfl rfl rfl (fun _ _ => rfl) (by decide) (fun _ _ _ _ _ _ _ _ us hl => match us, hl with | [_, _], _ => rfl)
  rfl
theorem xr_NotScheme (c : SaysX K) (g : mg "NotScheme" = some (.ref (He.ga K "NotScheme"))) (hs : mg "super" = none) (n : PySem.W.findIn K (.ref (He.ga K "NotScheme")) "value" = some none) : XR1 Prg w K mg base "NotScheme" "value" (He.ga K "NotScheme") := by
  obtain ⟨h1, h2⟩ := ex_ok c 2 (e := ex2) rfl
  obtain ⟨T, r⟩ := EX.cls (mg := mg) h1 hs (stat_ok (fx_ok c 8 rfl))
  obtain ⟨oc, od, doc, pm, an, ct, sl, lk⟩ := xw_get h2 r
  refine xr1 T ⟨oc, od, doc, pm, an, ct, sl, _, _, _, _, _, _, _, _, _, _, _, _, _, _, ?_, rfl, lk⟩ n g rfl rfl rfl (fun _ _ => rfl) (by decide) (fun _ _ _ _ _ _ _ _ us hl => match us, hl with | [_, _], _ => rfl)
  rfl
theorem xr_UnknownName (c : SaysX K) (g : mg "UnknownName" = some (.ref (He.ga K "UnknownName"))) (hs : mg "super" = none) (n : PySem.W.findIn K (.ref (He.ga K "UnknownName")) "name" = some none) : XR1 Prg w K mg base "UnknownName" "name" (He.ga K "UnknownName") := by
  obtain ⟨h1, h2⟩ := ex_ok c 3 (e := ex3) rfl
  obtain ⟨T, r⟩ := EX.cls (mg := mg) h1 hs (stat_ok (fx_ok c 8 rfl))
  obtain ⟨oc, od, doc, pm, an, ct, sl, lk⟩ := xw_get h2 r
  refine xr1 T ⟨oc, od, doc, pm, an, ct, sl, _, _, _, _, _, _, _, _, _, _, _, _, _, _, ?_, rfl, lk⟩ n g rfl rfl rfl (fun _ _ => rfl) (by decide) (fun _ _ _ _ _ _ _ _ us hl => match us, hl with | [_, _], _ => rfl)
  rfl
theorem xr_InvalidNumber (c : SaysX K) (g : mg "InvalidNumber" = some (.ref (He.ga K "InvalidNumber"))) (hs : mg "super" = none) (n : PySem.W.findIn K (.ref (He.ga K "InvalidNumber")) "number" = some none) : XR1 Prg w K mg base "InvalidNumber" "number" (He.ga K "InvalidNumber") := by
  obtain ⟨h1, h2⟩ := ex_ok c 4 (e := ex4) rfl
  obtain ⟨T, r⟩ := EX.cls (mg := mg) h1 hs (stat_ok (fx_ok c 8 rfl))
  obtain ⟨oc, od, doc, pm, an, ct, sl, lk⟩ := xw_get h2 r
  refine xr1 T ⟨oc, od, doc, pm, an, ct, sl, _, _, _, _, _, _, _, _, _, _, _, _, _, _, ?_, rfl, lk⟩ n g rfl rfl rfl (fun _ _ => rfl) (by decide) (fun _ _ _ _ _ _ _ _ us hl => match us, hl with | [_, _], _ => rfl)
  rfl
theorem xr_NotWritten (c : SaysX K) (g : mg "NotWritten" = some (.ref (He.ga K "NotWritten"))) (hs : mg "super" = none) (n : PySem.W.findIn K (.ref (He.ga K "NotWritten")) "number" = some none) : XR1 Prg w K mg base "NotWritten" "number" (He.ga K "NotWritten") := by
  obtain ⟨h1, h2⟩ := ex_ok c 5 (e := ex5) rfl
  obtain ⟨T, r⟩ := EX.cls (mg := mg) h1 hs (stat_ok (fx_ok c 8 rfl))
  obtain ⟨oc, od, doc, pm, an, ct, sl, lk⟩ := xw_get h2 r
  refine xr1 T ⟨oc, od, doc, pm, an, ct, sl, _, _, _, _, _, _, _, _, _, _, _, _, _, _, ?_, rfl, lk⟩ n g rfl rfl rfl (fun _ _ => rfl) (by decide) (fun _ _ _ _ _ _ _ _ us hl => match us, hl with | [_, _], _ => rfl)
  rfl
theorem xr_InvalidRow (c : SaysX K) (g : mg "InvalidRow" = some (.ref (He.ga K "InvalidRow"))) (hs : mg "super" = none) (n : PySem.W.findIn K (.ref (He.ga K "InvalidRow")) "row" = some none) : XR1 Prg w K mg base "InvalidRow" "row" (He.ga K "InvalidRow") := by
  obtain ⟨h1, h2⟩ := ex_ok c 6 (e := ex6) rfl
  obtain ⟨T, r⟩ := EX.cls (mg := mg) h1 hs (stat_ok (fx_ok c 8 rfl))
  obtain ⟨oc, od, doc, pm, an, ct, sl, lk⟩ := xw_get h2 r
  refine xr1 T ⟨oc, od, doc, pm, an, ct, sl, _, _, _, _, _, _, _, _, _, _, _, _, _, _, ?_, rfl, lk⟩ n g rfl rfl rfl (fun _ _ => rfl) (by decide) (fun _ _ _ _ _ _ _ _ us hl => match us, hl with | [_, _], _ => rfl)
  rfl
theorem xr_InvalidTerms (c : SaysX K) (g : mg "InvalidTerms" = some (.ref (He.ga K "InvalidTerms"))) (hs : mg "super" = none) (n : PySem.W.findIn K (.ref (He.ga K "InvalidTerms")) "value" = some none) : XR1 Prg w K mg base "InvalidTerms" "value" (He.ga K "InvalidTerms") := by
  obtain ⟨h1, h2⟩ := ex_ok c 7 (e := ex7) rfl
  obtain ⟨T, r⟩ := EX.cls (mg := mg) h1 hs (stat_ok (fx_ok c 8 rfl))
  obtain ⟨oc, od, doc, pm, an, ct, sl, lk⟩ := xw_get h2 r
  refine xr1 T ⟨oc, od, doc, pm, an, ct, sl, _, _, _, _, _, _, _, _, _, _, _, _, _, _, ?_, rfl, lk⟩ n g rfl rfl rfl (fun _ _ => rfl) (by decide) (fun _ _ _ _ _ _ _ _ us hl => match us, hl with | [_, _], _ => rfl)
  rfl
theorem xr_InvalidTerm (c : SaysX K) (g : mg "InvalidTerm" = some (.ref (He.ga K "InvalidTerm"))) (hs : mg "super" = none) (n : PySem.W.findIn K (.ref (He.ga K "InvalidTerm")) "term" = some none) : XR1 Prg w K mg base "InvalidTerm" "term" (He.ga K "InvalidTerm") := by
  obtain ⟨h1, h2⟩ := ex_ok c 8 (e := ex8) rfl
  obtain ⟨T, r⟩ := EX.cls (mg := mg) h1 hs (stat_ok (fx_ok c 8 rfl))
  obtain ⟨oc, od, doc, pm, an, ct, sl, lk⟩ := xw_get h2 r
  refine xr1 T ⟨oc, od, doc, pm, an, ct, sl, _, _, _, _, _, _, _, _, _, _, _, _, _, _, ?_, rfl, lk⟩ n g rfl rfl rfl (fun _ _ => rfl) (by decide) (fun _ _ _ _ _ _ _ _ us hl => match us, hl with | [_, _], _ => rfl)
  rfl
theorem xr_InUse (c : SaysX K) (g : mg "InUse" = some (.ref (He.ga K "InUse"))) (hs : mg "super" = none) (n : PySem.W.findIn K (.ref (He.ga K "InUse")) "name" = some none) : XR1 Prg w K mg base "InUse" "name" (He.ga K "InUse") := by
  obtain ⟨h1, h2⟩ := ex_ok c 9 (e := ex9) rfl
  obtain ⟨T, r⟩ := EX.cls (mg := mg) h1 hs (stat_ok (fx_ok c 8 rfl))
  obtain ⟨oc, od, doc, pm, an, ct, sl, lk⟩ := xw_get h2 r
  refine xr1 T ⟨oc, od, doc, pm, an, ct, sl, _, _, _, _, _, _, _, _, _, _, _, _, _, _, ?_, rfl, lk⟩ n g rfl rfl rfl (fun _ _ => rfl) (by decide) (fun _ _ _ _ _ _ _ _ us hl => match us, hl with | [_, _], _ => rfl)
  rfl
theorem xr_NothingToUndo (c : SaysX K) (g : mg "NothingToUndo" = some (.ref (He.ga K "NothingToUndo"))) (hs : mg "super" = none) : XR0 Prg w K mg base "NothingToUndo" (He.ga K "NothingToUndo") := by
  obtain ⟨h1, h2⟩ := ex_ok c 10 (e := ex10) rfl
  obtain ⟨T, r⟩ := EX.cls (mg := mg) h1 hs (stat_ok (fx_ok c 8 rfl))
  obtain ⟨oc, od, doc, pm, an, ct, sl, lk⟩ := xw_get h2 r
  refine xr0 T ⟨oc, od, doc, pm, an, ct, sl, _, _, _, _, _, _, _, _, _, ?_, rfl, lk⟩ g (fun _ _ _ _ _ _ _ us hl => match us, hl with | [_], _ => rfl)
  rfl
end
end K75
set_option maxHeartbeats 2000000
namespace K75
open PySem PySem.Spec PyProof.Rows L2
section
variable {w : World} {K : PySem.W.Frag} {mg : Str → Option Value} {base h : Heap}
def xaK (K : PySem.W.Frag) : EA := ⟨He.ga K "InvalidName", He.ga K "NameTaken", He.ga K "NotScheme", He.ga K "UnknownName", He.ga K "InvalidNumber", He.ga K "NotWritten", He.ga K "InvalidRow", He.ga K "InvalidTerms", He.ga K "InvalidTerm", He.ga K "InUse", He.ga K "NothingToUndo"⟩
theorem blt_of (c : SaysX K) (X : K.In h) (G : h.Ns mainGlobals mg) : Blt mg := ⟨He.free_ok X G (fa_ok c 0 rfl), He.free_ok X G (fa_ok c 1 rfl), He.free_ok X G (fa_ok c 2 rfl), He.free_ok X G (fa_ok c 3 rfl), He.free_ok X G (fa_ok c 4 rfl), He.free_ok X G (fa_ok c 5 rfl), He.free_ok X G (fa_ok c 6 rfl), He.free_ok X G (fa_ok c 7 rfl), He.free_ok X G (fa_ok c 8 rfl), He.free_ok X G (fa_ok c 9 rfl), He.free_ok X G (fa_ok c 10 rfl), He.free_ok X G (fa_ok c 11 rfl), He.free_ok X G (fa_ok c 12 rfl), He.free_ok X G (fa_ok c 13 rfl), He.free_ok X G (fa_ok c 14 rfl), He.free_ok X G (fa_ok c 15 rfl), He.free_ok X G (fa_ok c 16 rfl), He.free_ok X G (fa_ok c 17 rfl), He.free_ok X G (fa_ok c 18 rfl)⟩
theorem con_of (c : SaysX K) (X : K.In h) (G : h.Ns mainGlobals mg) : Con5 mg := ⟨He.int_ok X G (fa_ok c 20 rfl), He.int_ok X G (fa_ok c 21 rfl), He.int_ok X G (fa_ok c 22 rfl), He.int_ok X G (fa_ok c 23 rfl), He.int_ok X G (fa_ok c 24 rfl)⟩
theorem schC_of (c : SaysX K) (X : K.In h) (G : h.Ns mainGlobals mg) : SchC K mg (He.ga K "Scheme") := ⟨He.cls_ok (fa_ok c 26 rfl), He.noat_ok (fa_ok c 31 rfl), He.noat_ok (fa_ok c 32 rfl), He.noat_ok (fa_ok c 33 rfl), He.noat_ok (fa_ok c 34 rfl), He.glo_ok X G (fa_ok c 25 rfl), isc_ok (fx_ok c 0 rfl), kitN_ok (fx_ok c 2 rfl), kitN_ok (fx_ok c 3 rfl), kitN_ok (fx_ok c 4 rfl), kitN_ok (fx_ok c 5 rfl)⟩
theorem bkC_of (c : SaysX K) (X : K.In h) (G : h.Ns mainGlobals mg) : BkC K mg (He.ga K "Book") := ⟨He.cls_ok (fa_ok c 29 rfl), He.noat_ok (fa_ok c 35 rfl), He.noat_ok (fa_ok c 36 rfl), He.noat_ok (fa_ok c 37 rfl), He.glo_ok X G (fa_ok c 28 rfl), isc_ok (fx_ok c 1 rfl)⟩
theorem exs_of (c : SaysX K) (X : K.In h) (G : h.Ns mainGlobals mg) : Exs Prg w K mg base (xaK K) := ⟨xr_InvalidName c (He.glo_ok X G (fa_ok c 117 rfl)) (He.free_ok X G (fa_ok c 19 rfl)) (He.noat_ok (fa_ok c 118 rfl)), xr_NameTaken c (He.glo_ok X G (fa_ok c 119 rfl)) (He.free_ok X G (fa_ok c 19 rfl)) (He.noat_ok (fa_ok c 120 rfl)), xr_NotScheme c (He.glo_ok X G (fa_ok c 121 rfl)) (He.free_ok X G (fa_ok c 19 rfl)) (He.noat_ok (fa_ok c 122 rfl)), xr_UnknownName c (He.glo_ok X G (fa_ok c 123 rfl)) (He.free_ok X G (fa_ok c 19 rfl)) (He.noat_ok (fa_ok c 124 rfl)), xr_InvalidNumber c (He.glo_ok X G (fa_ok c 125 rfl)) (He.free_ok X G (fa_ok c 19 rfl)) (He.noat_ok (fa_ok c 126 rfl)), xr_NotWritten c (He.glo_ok X G (fa_ok c 127 rfl)) (He.free_ok X G (fa_ok c 19 rfl)) (He.noat_ok (fa_ok c 128 rfl)), xr_InvalidRow c (He.glo_ok X G (fa_ok c 129 rfl)) (He.free_ok X G (fa_ok c 19 rfl)) (He.noat_ok (fa_ok c 130 rfl)), xr_InvalidTerms c (He.glo_ok X G (fa_ok c 131 rfl)) (He.free_ok X G (fa_ok c 19 rfl)) (He.noat_ok (fa_ok c 132 rfl)), xr_InvalidTerm c (He.glo_ok X G (fa_ok c 133 rfl)) (He.free_ok X G (fa_ok c 19 rfl)) (He.noat_ok (fa_ok c 134 rfl)), xr_InUse c (He.glo_ok X G (fa_ok c 135 rfl)) (He.free_ok X G (fa_ok c 19 rfl)) (He.noat_ok (fa_ok c 136 rfl)), xr_NothingToUndo c (He.glo_ok X G (fa_ok c 137 rfl)) (He.free_ok X G (fa_ok c 19 rfl))⟩
theorem ext_of (c : SaysX K) : ExT K (xaK K) := by
  refine ⟨fun e f => ?_, fun e h => ?_⟩
  · cases e with
    | iName => cases f with
      | iName => exact He.exm_ok (fa_ok c 138 rfl)
      | taken => exact He.exm_ok (fa_ok c 139 rfl)
      | notS => exact He.exm_ok (fa_ok c 140 rfl)
      | unk => exact He.exm_ok (fa_ok c 141 rfl)
      | iNum => exact He.exm_ok (fa_ok c 142 rfl)
      | notW => exact He.exm_ok (fa_ok c 143 rfl)
      | iRow => exact He.exm_ok (fa_ok c 144 rfl)
      | iTerms => exact He.exm_ok (fa_ok c 145 rfl)
      | iTerm => exact He.exm_ok (fa_ok c 146 rfl)
      | inUse => exact He.exm_ok (fa_ok c 147 rfl)
      | noth => exact He.exm_ok (fa_ok c 148 rfl)
    | taken => cases f with
      | iName => exact He.exm_ok (fa_ok c 149 rfl)
      | taken => exact He.exm_ok (fa_ok c 150 rfl)
      | notS => exact He.exm_ok (fa_ok c 151 rfl)
      | unk => exact He.exm_ok (fa_ok c 152 rfl)
      | iNum => exact He.exm_ok (fa_ok c 153 rfl)
      | notW => exact He.exm_ok (fa_ok c 154 rfl)
      | iRow => exact He.exm_ok (fa_ok c 155 rfl)
      | iTerms => exact He.exm_ok (fa_ok c 156 rfl)
      | iTerm => exact He.exm_ok (fa_ok c 157 rfl)
      | inUse => exact He.exm_ok (fa_ok c 158 rfl)
      | noth => exact He.exm_ok (fa_ok c 159 rfl)
    | notS => cases f with
      | iName => exact He.exm_ok (fa_ok c 160 rfl)
      | taken => exact He.exm_ok (fa_ok c 161 rfl)
      | notS => exact He.exm_ok (fa_ok c 162 rfl)
      | unk => exact He.exm_ok (fa_ok c 163 rfl)
      | iNum => exact He.exm_ok (fa_ok c 164 rfl)
      | notW => exact He.exm_ok (fa_ok c 165 rfl)
      | iRow => exact He.exm_ok (fa_ok c 166 rfl)
      | iTerms => exact He.exm_ok (fa_ok c 167 rfl)
      | iTerm => exact He.exm_ok (fa_ok c 168 rfl)
      | inUse => exact He.exm_ok (fa_ok c 169 rfl)
      | noth => exact He.exm_ok (fa_ok c 170 rfl)
    | unk => cases f with
      | iName => exact He.exm_ok (fa_ok c 171 rfl)
      | taken => exact He.exm_ok (fa_ok c 172 rfl)
      | notS => exact He.exm_ok (fa_ok c 173 rfl)
      | unk => exact He.exm_ok (fa_ok c 174 rfl)
      | iNum => exact He.exm_ok (fa_ok c 175 rfl)
      | notW => exact He.exm_ok (fa_ok c 176 rfl)
      | iRow => exact He.exm_ok (fa_ok c 177 rfl)
      | iTerms => exact He.exm_ok (fa_ok c 178 rfl)
      | iTerm => exact He.exm_ok (fa_ok c 179 rfl)
      | inUse => exact He.exm_ok (fa_ok c 180 rfl)
      | noth => exact He.exm_ok (fa_ok c 181 rfl)
    | iNum => cases f with
      | iName => exact He.exm_ok (fa_ok c 182 rfl)
      | taken => exact He.exm_ok (fa_ok c 183 rfl)
      | notS => exact He.exm_ok (fa_ok c 184 rfl)
      | unk => exact He.exm_ok (fa_ok c 185 rfl)
      | iNum => exact He.exm_ok (fa_ok c 186 rfl)
      | notW => exact He.exm_ok (fa_ok c 187 rfl)
      | iRow => exact He.exm_ok (fa_ok c 188 rfl)
      | iTerms => exact He.exm_ok (fa_ok c 189 rfl)
      | iTerm => exact He.exm_ok (fa_ok c 190 rfl)
      | inUse => exact He.exm_ok (fa_ok c 191 rfl)
      | noth => exact He.exm_ok (fa_ok c 192 rfl)
    | notW => cases f with
      | iName => exact He.exm_ok (fa_ok c 193 rfl)
      | taken => exact He.exm_ok (fa_ok c 194 rfl)
      | notS => exact He.exm_ok (fa_ok c 195 rfl)
      | unk => exact He.exm_ok (fa_ok c 196 rfl)
      | iNum => exact He.exm_ok (fa_ok c 197 rfl)
      | notW => exact He.exm_ok (fa_ok c 198 rfl)
      | iRow => exact He.exm_ok (fa_ok c 199 rfl)
      | iTerms => exact He.exm_ok (fa_ok c 200 rfl)
      | iTerm => exact He.exm_ok (fa_ok c 201 rfl)
      | inUse => exact He.exm_ok (fa_ok c 202 rfl)
      | noth => exact He.exm_ok (fa_ok c 203 rfl)
    | iRow => cases f with
      | iName => exact He.exm_ok (fa_ok c 204 rfl)
      | taken => exact He.exm_ok (fa_ok c 205 rfl)
      | notS => exact He.exm_ok (fa_ok c 206 rfl)
      | unk => exact He.exm_ok (fa_ok c 207 rfl)
      | iNum => exact He.exm_ok (fa_ok c 208 rfl)
      | notW => exact He.exm_ok (fa_ok c 209 rfl)
      | iRow => exact He.exm_ok (fa_ok c 210 rfl)
      | iTerms => exact He.exm_ok (fa_ok c 211 rfl)
      | iTerm => exact He.exm_ok (fa_ok c 212 rfl)
      | inUse => exact He.exm_ok (fa_ok c 213 rfl)
      | noth => exact He.exm_ok (fa_ok c 214 rfl)
    | iTerms => cases f with
      | iName => exact He.exm_ok (fa_ok c 215 rfl)
      | taken => exact He.exm_ok (fa_ok c 216 rfl)
      | notS => exact He.exm_ok (fa_ok c 217 rfl)
      | unk => exact He.exm_ok (fa_ok c 218 rfl)
      | iNum => exact He.exm_ok (fa_ok c 219 rfl)
      | notW => exact He.exm_ok (fa_ok c 220 rfl)
      | iRow => exact He.exm_ok (fa_ok c 221 rfl)
      | iTerms => exact He.exm_ok (fa_ok c 222 rfl)
      | iTerm => exact He.exm_ok (fa_ok c 223 rfl)
      | inUse => exact He.exm_ok (fa_ok c 224 rfl)
      | noth => exact He.exm_ok (fa_ok c 225 rfl)
    | iTerm => cases f with
      | iName => exact He.exm_ok (fa_ok c 226 rfl)
      | taken => exact He.exm_ok (fa_ok c 227 rfl)
      | notS => exact He.exm_ok (fa_ok c 228 rfl)
      | unk => exact He.exm_ok (fa_ok c 229 rfl)
      | iNum => exact He.exm_ok (fa_ok c 230 rfl)
      | notW => exact He.exm_ok (fa_ok c 231 rfl)
      | iRow => exact He.exm_ok (fa_ok c 232 rfl)
      | iTerms => exact He.exm_ok (fa_ok c 233 rfl)
      | iTerm => exact He.exm_ok (fa_ok c 234 rfl)
      | inUse => exact He.exm_ok (fa_ok c 235 rfl)
      | noth => exact He.exm_ok (fa_ok c 236 rfl)
    | inUse => cases f with
      | iName => exact He.exm_ok (fa_ok c 237 rfl)
      | taken => exact He.exm_ok (fa_ok c 238 rfl)
      | notS => exact He.exm_ok (fa_ok c 239 rfl)
      | unk => exact He.exm_ok (fa_ok c 240 rfl)
      | iNum => exact He.exm_ok (fa_ok c 241 rfl)
      | notW => exact He.exm_ok (fa_ok c 242 rfl)
      | iRow => exact He.exm_ok (fa_ok c 243 rfl)
      | iTerms => exact He.exm_ok (fa_ok c 244 rfl)
      | iTerm => exact He.exm_ok (fa_ok c 245 rfl)
      | inUse => exact He.exm_ok (fa_ok c 246 rfl)
      | noth => exact He.exm_ok (fa_ok c 247 rfl)
    | noth => cases f with
      | iName => exact He.exm_ok (fa_ok c 248 rfl)
      | taken => exact He.exm_ok (fa_ok c 249 rfl)
      | notS => exact He.exm_ok (fa_ok c 250 rfl)
      | unk => exact He.exm_ok (fa_ok c 251 rfl)
      | iNum => exact He.exm_ok (fa_ok c 252 rfl)
      | notW => exact He.exm_ok (fa_ok c 253 rfl)
      | iRow => exact He.exm_ok (fa_ok c 254 rfl)
      | iTerms => exact He.exm_ok (fa_ok c 255 rfl)
      | iTerm => exact He.exm_ok (fa_ok c 256 rfl)
      | inUse => exact He.exm_ok (fa_ok c 257 rfl)
      | noth => exact He.exm_ok (fa_ok c 258 rfl)
  · cases e with
    | iName => exact He.noat_ok (fa_ok c 118 rfl)
    | taken => exact He.noat_ok (fa_ok c 120 rfl)
    | notS => exact He.noat_ok (fa_ok c 122 rfl)
    | unk => exact He.noat_ok (fa_ok c 124 rfl)
    | iNum => exact He.noat_ok (fa_ok c 126 rfl)
    | notW => exact He.noat_ok (fa_ok c 128 rfl)
    | iRow => exact He.noat_ok (fa_ok c 130 rfl)
    | iTerms => exact He.noat_ok (fa_ok c 132 rfl)
    | iTerm => exact He.noat_ok (fa_ok c 134 rfl)
    | inUse => exact He.noat_ok (fa_ok c 136 rfl)
    | noth => exact absurd rfl h
theorem kbS {f : Addr} {fd : FuncData} (F : FunD K "__init__" "Scheme.__init__" (defArgs s_Scheme___init__) (defBody s_Scheme___init__) (defScope s_Scheme___init__) [] [] f fd) : KBn K fd ["self", "base", "digits", "bars"] 3 ["bars"] (fun us ws => us ++ ws) (fun vs zs => vs ++ zs) := by
  obtain ⟨oc, od, dV, kV, doc, pm, an, cdv, ct, osl, rfl, lk, hcd, hD, hK⟩ := F.ex
  rcases hD with ⟨_, rfl⟩ | ⟨e, _⟩
  · refine ⟨fun s us ws _ hu hw => ?_, fun r1 r2 => r1.append r2⟩
    match us, hu, ws, hw with
    | [_, _, _], _, [_], _ => exact .of_eq rfl
  · exact absurd rfl e
theorem fnD_of (c : SaysX K) (i : Nat) {d : DX} (e : fnL[i]? = some d) (g : mg d.nm = some (.ref (d.at_ K))) (q : d.qn = d.nm := by rfl) : FnD K mg d.nm d.st d.df [] := by
  obtain ⟨fd, F⟩ := fn_ok c i e
  rw [q] at F
  exact ⟨_, fd, F, g⟩
theorem meD_of {C : Addr} (c : SaysX K) (i : Nat) {d : DX} (e : fnL[i]? = some d) (g : Meth K C d.nm (d.at_ K)) (q : d.df = [] := by rfl) : MeD K C d.nm d.qn d.st [] := by
  obtain ⟨fd, F⟩ := fn_ok c i e
  rw [q] at F
  exact ⟨_, fd, F, g⟩
theorem spD_of {C : Addr} (c : SaysX K) (i : Nat) {d : DX} (e : fnL[i]? = some d) (g : Meth K C d.nm (d.at_ K)) (q : d.df = [] := by rfl) : SpD K C d.nm d.qn d.st := by
  obtain ⟨fd, F⟩ := fn_ok c i e
  rw [q] at F
  exact ⟨_, fd, F, g.at_, g.fn⟩
end
/-- all defs of the program and the law keep their promises: the law's def does -/
theorem law_keeps {w : World} {K : PySem.W.Frag} {mg : Str → Option Value} {base h : Heap} (c : SaysX K) (X : K.In h) (G : h.Ns mainGlobals mg) {fd : FuncData} (F : FunD K "law" "law" (defArgs s_law) (defBody s_law) (defScope s_law) [] [] (He.ga K "law") fd) : LawOk Prg w K mg base (L2.CX Prg w) (He.ga K "law") fd "_law_script" (sp_law K) := by
  have Flaw := F
  clear F
  have B : Blt mg := blt_of c X G
  have T : Con5 mg := con_of c X G
  have C : SchC K mg (He.ga K "Scheme") := schC_of c X G
  have CBk : BkC K mg (He.ga K "Book") := bkC_of c X G
  have XS : Exs Prg w K mg base (xaK K) := exs_of c X G
  have XT : ExT K (xaK K) := ext_of c
  have h0 : Fn Prg w K mg base "is_integer" 1 (sp_is_integer K) := ok_is_integer (B := B) (T := T) (D := (fnD_of c 0 rfl (He.glo_ok X G (fa_ok c 38 rfl))))
  have h1 : Fn Prg w K mg base "is_base" 2 sp_is_base := ok_is_base (B := B) (T := T) (D := (fnD_of c 1 rfl (He.glo_ok X G (fa_ok c 39 rfl)))) (F_is_integer := h0)
  have h2 : Fn Prg w K mg base "is_digit" 2 (sp_is_digit K) := ok_is_digit (B := B) (T := T) (D := (fnD_of c 2 rfl (He.glo_ok X G (fa_ok c 40 rfl)))) (F_is_integer := h0)
  have h3 : Fn Prg w K mg base "is_list" 1 (sp_is_list K) := ok_is_list (B := B) (T := T) (D := (fnD_of c 3 rfl (He.glo_ok X G (fa_ok c 41 rfl))))
  have h4 : Fn Prg w K mg base "different" 1 (sp_different K) := ok_different (B := B) (T := T) (D := (fnD_of c 4 rfl (He.glo_ok X G (fa_ok c 42 rfl))))
  have h5 : Fn Prg w K mg base "is_digit_list" 3 (sp_is_digit_list K) := ok_is_digit_list (B := B) (T := T) (D := (fnD_of c 5 rfl (He.glo_ok X G (fa_ok c 43 rfl)))) (F_is_list := h3) (F_is_digit := h2) (F_different := h4)
  have h6 : Fn Prg w K mg base "is_pair" 3 (sp_is_pair K) := ok_is_pair (B := B) (T := T) (D := (fnD_of c 6 rfl (He.glo_ok X G (fa_ok c 44 rfl)))) (F_is_digit := h2)
  have hSchM : SchM Prg w K mg base (He.ga K "Scheme") := by
    obtain ⟨fd, F⟩ := fn_ok c 7 (d := dx7) rfl
    exact ⟨_, fd, _, He.mkr_ok (fa_ok c 27 rfl), ok_Scheme_init (B := B) (T := T) (C := C) (F := F) (F_is_base := h1) (F_is_list := h3) (F_is_digit_list := h5) (F_is_pair := h6) (F_different := h4), kbS F⟩
  have h8 : Prp Prg w K mg base (He.ga K "Scheme") "base" "own_base" := by
    obtain ⟨fd, F⟩ := fn_ok c 8 (d := dx8) rfl
    exact ok_Scheme_base (B := B) (T := T) (C := C) (hp := prop_ok (fx_ok c 6 rfl)) (F := F)
  have h9 : Prp Prg w K mg base (He.ga K "Scheme") "digits" "own_digits" := by
    obtain ⟨fd, F⟩ := fn_ok c 9 (d := dx9) rfl
    exact ok_Scheme_digits (B := B) (T := T) (C := C) (hp := prop_ok (fx_ok c 7 rfl)) (F := F)
  have h10 : Me Prg w K mg base (He.ga K "Scheme") "has" 3 (sp_has K (He.ga K "Scheme")) := ok_has (B := B) (T := T) (C := C) (D := (meD_of c 10 rfl (He.meth_ok (fa_ok c 45 rfl)))) (F_is_digit := h2)
  have h11 : Me Prg w K mg base (He.ga K "Scheme") "allows" 4 (sp_allows K (He.ga K "Scheme")) := ok_allows (B := B) (T := T) (C := C) (D := (meD_of c 11 rfl (He.meth_ok (fa_ok c 46 rfl)))) (F_has := h10)
  have h12 : Spc Prg w K mg base (He.ga K "Scheme") "__contains__" 4 (sp_contains K (He.ga K "Scheme")) := ok_contains (B := B) (T := T) (C := C) (D := (spD_of c 12 rfl (He.meth_ok (fa_ok c 47 rfl)))) (F_has := h10)
  have h13 : Me Prg w K mg base (He.ga K "Scheme") "value_of" 5 (sp_value_of K (He.ga K "Scheme")) := ok_value_of (B := B) (T := T) (C := C) (D := (meD_of c 13 rfl (He.meth_ok (fa_ok c 48 rfl)))) (F_Scheme_contains := h12)
  have h14 : Spc Prg w K mg base (He.ga K "Scheme") "__eq__" 1 (sp_Scheme_eq K (He.ga K "Scheme")) := ok_Scheme_eq (B := B) (T := T) (C := C) (D := (spD_of c 14 rfl (He.meth_ok (fa_ok c 49 rfl))))
  have h15 : Fn Prg w K mg base "is_whole" 1 (sp_is_whole K) := ok_is_whole (B := B) (T := T) (C := C) (D := (fnD_of c 15 rfl (He.glo_ok X G (fa_ok c 50 rfl))))
  have h16 : Fn Prg w K mg base "check_place" 4 (sp_check_place K (He.ga K "Scheme")) := ok_check_place (B := B) (T := T) (C := C) (D := (fnD_of c 16 rfl (He.glo_ok X G (fa_ok c 51 rfl)))) (F_is_whole := h15) (F_has := h10)
  have h17 : Fn Prg w K mg base "steps_from" 5 (sp_steps_from K (He.ga K "Scheme")) := ok_steps_from (B := B) (T := T) (C := C) (D := (fnD_of c 17 rfl (He.glo_ok X G (fa_ok c 52 rfl)))) (PR_base := h8) (PR_digits := h9) (F_allows := h11)
  have h18 : Fn Prg w K mg base "levels_from" 6 (sp_levels_from K (He.ga K "Scheme")) := ok_levels_from (B := B) (T := T) (C := C) (D := (fnD_of c 18 rfl (He.glo_ok X G (fa_ok c 53 rfl)))) (F_steps_from := h17)
  have h19 : Fn Prg w K mg base "is_open" 7 (sp_is_open K (He.ga K "Scheme")) := ok_is_open (B := B) (T := T) (C := C) (D := (fnD_of c 19 rfl (He.glo_ok X G (fa_ok c 54 rfl)))) (F_levels_from := h18)
  have h20 : Fn Prg w K mg base "is_written" 8 (sp_is_written K (He.ga K "Scheme")) := ok_is_written (B := B) (T := T) (C := C) (D := (fnD_of c 20 rfl (He.glo_ok X G (fa_ok c 55 rfl)))) (F_check_place := h16) (F_is_open := h19)
  have h21 : Fn Prg w K mg base "traced" 5 (sp_traced K (He.ga K "Scheme")) := ok_traced (B := B) (T := T) (C := C) (D := (fnD_of c 21 rfl (He.glo_ok X G (fa_ok c 56 rfl)))) (PR_base := h8) (F_allows := h11)
  have h22 : Fn Prg w K mg base "writing" 7 (sp_writing K (He.ga K "Scheme")) := ok_writing (B := B) (T := T) (C := C) (D := (fnD_of c 22 rfl (He.glo_ok X G (fa_ok c 57 rfl)))) (F_check_place := h16) (F_levels_from := h18) (F_traced := h21)
  have h23 : Fn Prg w K mg base "is_name" 1 (sp_is_name K) := ok_is_name (B := B) (T := T) (C := C) (CBk := CBk) (XS := XS) (D := (fnD_of c 23 rfl (He.glo_ok X G (fa_ok c 58 rfl))))
  have h24 : Fn Prg w K mg base "is_named_term" 2 (sp_is_named_term K) := ok_is_named_term (B := B) (T := T) (C := C) (CBk := CBk) (XS := XS) (D := (fnD_of c 24 rfl (He.glo_ok X G (fa_ok c 59 rfl)))) (F_is_name := h23) (F_is_integer := h0)
  have hBkM : BkM Prg w K mg base (He.ga K "Book") := by
    obtain ⟨fd, F⟩ := fn_ok c 25 (d := dx25) rfl
    have ok := ok_Book_init (B := B) (T := T) (C := C) (CBk := CBk) (XS := XS) (F := F)
    have r := ok.raw (F.bindsN fun _ _ _ _ _ _ us hl => match us, hl with | [_], _ => rfl) .nil
    exact ⟨_, He.mkr_ok (fa_ok c 30 rfl), r.imp fun vs H Q E q => by rw [List.append_nil]; exact q⟩
  have h26 : Spc Prg w K mg base (He.ga K "Book") "__contains__" 1 (sp_Book_contains K (He.ga K "Scheme") (He.ga K "Book")) := ok_Book_contains (B := B) (T := T) (C := C) (CBk := CBk) (XS := XS) (D := (spD_of c 26 rfl (He.meth_ok (fa_ok c 60 rfl))))
  have h27 : Me Prg w K mg base (He.ga K "Book") "schemes" 1 (sp_schemes K (He.ga K "Scheme") (He.ga K "Book")) := ok_schemes (B := B) (T := T) (C := C) (CBk := CBk) (XS := XS) (D := (meD_of c 27 rfl (He.meth_ok (fa_ok c 61 rfl))))
  have h28 : Me Prg w K mg base (He.ga K "Book") "entries" 1 (sp_entries K (He.ga K "Scheme") (He.ga K "Book")) := ok_entries (B := B) (T := T) (C := C) (CBk := CBk) (XS := XS) (D := (meD_of c 28 rfl (He.meth_ok (fa_ok c 62 rfl))))
  have h29 : Me Prg w K mg base (He.ga K "Book") "scheme_of" 3 (sp_scheme_of K (He.ga K "Scheme") (He.ga K "Book") (xaK K)) := ok_scheme_of (B := B) (T := T) (C := C) (CBk := CBk) (XS := XS) (D := (meD_of c 29 rfl (He.meth_ok (fa_ok c 63 rfl))))
  have h30 : Me Prg w K mg base (He.ga K "Book") "entry_of" 3 (sp_entry_of K (He.ga K "Scheme") (He.ga K "Book") (xaK K)) := ok_entry_of (B := B) (T := T) (C := C) (CBk := CBk) (XS := XS) (D := (meD_of c 30 rfl (He.meth_ok (fa_ok c 64 rfl))))
  have h31 : Me Prg w K mg base (He.ga K "Book") "home" 4 (sp_home K (He.ga K "Scheme") (He.ga K "Book")) := ok_home (B := B) (T := T) (C := C) (CBk := CBk) (XS := XS) (D := (meD_of c 31 rfl (He.meth_ok (fa_ok c 65 rfl)))) (F_entry_of := h30)
  have h32 : Me Prg w K mg base (He.ga K "Book") "row_of" 4 (sp_row_of K (He.ga K "Scheme") (He.ga K "Book")) := ok_row_of (B := B) (T := T) (C := C) (CBk := CBk) (XS := XS) (D := (meD_of c 32 rfl (He.meth_ok (fa_ok c 66 rfl)))) (F_entry_of := h30)
  have h33 : Me Prg w K mg base (He.ga K "Book") "number_of" 6 (sp_number_of K (He.ga K "Scheme") (He.ga K "Book") (xaK K)) := ok_number_of (B := B) (T := T) (C := C) (CBk := CBk) (XS := XS) (D := (meD_of c 33 rfl (He.meth_ok (fa_ok c 67 rfl)))) (F_entry_of := h30) (F_value_of := h13)
  have h34 : Me Prg w K mg base (He.ga K "Book") "writers" 9 (sp_writers K (He.ga K "Scheme") (He.ga K "Book")) := ok_writers (B := B) (T := T) (C := C) (CBk := CBk) (XS := XS) (D := (meD_of c 34 rfl (He.meth_ok (fa_ok c 68 rfl)))) (F_number_of := h33) (F_schemes := h27) (F_is_written := h20)
  have h35 : Me Prg w K mg base (He.ga K "Book") "change" 1 (sp_change K (He.ga K "Scheme") (He.ga K "Book")) := ok_change (B := B) (T := T) (C := C) (CBk := CBk) (XS := XS) (D := (meD_of c 35 rfl (He.meth_ok (fa_ok c 69 rfl))))
  have h36 : Me Prg w K mg base (He.ga K "Book") "check_name" 3 (sp_check_name K (He.ga K "Scheme") (He.ga K "Book") (xaK K)) := ok_check_name (B := B) (T := T) (C := C) (CBk := CBk) (XS := XS) (D := (meD_of c 36 rfl (He.meth_ok (fa_ok c 70 rfl)))) (F_is_name := h23)
  have h37 : Me Prg w K mg base (He.ga K "Book") "enter" 2 (sp_enter K (He.ga K "Scheme") (He.ga K "Book")) := ok_enter (B := B) (T := T) (C := C) (CBk := CBk) (XS := XS) (D := (meD_of c 37 rfl (He.meth_ok (fa_ok c 71 rfl)))) (F_change := h35)
  have h38 : Me Prg w K mg base (He.ga K "Book") "written" 8 (sp_written K (He.ga K "Scheme") (He.ga K "Book") (xaK K)) := ok_written (B := B) (T := T) (C := C) (CBk := CBk) (XS := XS) (D := (meD_of c 38 rfl (He.meth_ok (fa_ok c 72 rfl)))) (F_writing := h22)
  have h39 : Me Prg w K mg base (He.ga K "Book") "keep" 4 (sp_keep K (He.ga K "Scheme") (He.ga K "Book") (xaK K)) := ok_keep (B := B) (T := T) (C := C) (CBk := CBk) (XS := XS) (D := (meD_of c 39 rfl (He.meth_ok (fa_ok c 73 rfl)))) (F_check_name := h36) (F_change := h35)
  have h40 : Me Prg w K mg base (He.ga K "Book") "put" 9 (sp_put K (He.ga K "Scheme") (He.ga K "Book") (xaK K)) := ok_put (B := B) (T := T) (C := C) (CBk := CBk) (XS := XS) (D := (meD_of c 40 rfl (He.meth_ok (fa_ok c 74 rfl)))) (F_check_name := h36) (F_scheme_of := h29) (F_is_whole := h15) (F_written := h38) (F_enter := h37)
  have h41 : Me Prg w K mg base (He.ga K "Book") "lay" 5 (sp_lay K (He.ga K "Scheme") (He.ga K "Book") (xaK K)) := ok_lay (B := B) (T := T) (C := C) (CBk := CBk) (XS := XS) (D := (meD_of c 41 rfl (He.meth_ok (fa_ok c 75 rfl)))) (F_check_name := h36) (F_scheme_of := h29) (F_Scheme_contains := h12) (F_enter := h37)
  have h42 : Me Prg w K mg base (He.ga K "Book") "move" 9 (sp_move K (He.ga K "Scheme") (He.ga K "Book") (xaK K)) := ok_move (B := B) (T := T) (C := C) (CBk := CBk) (XS := XS) (D := (meD_of c 42 rfl (He.meth_ok (fa_ok c 76 rfl)))) (F_number_of := h33) (F_scheme_of := h29) (F_written := h38) (F_enter := h37)
  have h43 : Me Prg w K mg base (He.ga K "Book") "deeds" 1 (sp_deeds K (He.ga K "Scheme") (He.ga K "Book")) := ok_deeds (B := B) (T := T) (C := C) (CBk := CBk) (XS := XS) (D := (meD_of c 43 rfl (He.meth_ok (fa_ok c 77 rfl))))
  have h44 : Me Prg w K mg base (He.ga K "Book") "undo" 3 (sp_undo K (He.ga K "Scheme") (He.ga K "Book") (xaK K)) := ok_undo (B := B) (T := T) (C := C) (CBk := CBk) (XS := XS) (D := (meD_of c 44 rfl (He.meth_ok (fa_ok c 78 rfl))))
  have h45 : Spc Prg w K mg base (He.ga K "Book") "__eq__" 1 (sp_Book_eq K (He.ga K "Scheme") (He.ga K "Book")) := ok_Book_eq (B := B) (T := T) (C := C) (CBk := CBk) (XS := XS) (D := (spD_of c 45 rfl (He.meth_ok (fa_ok c 79 rfl))))
  have h46 : Me Prg w K mg base (He.ga K "Book") "drop" 5 (sp_drop K (He.ga K "Scheme") (He.ga K "Book") (xaK K)) := ok_drop (B := B) (T := T) (C := C) (CBk := CBk) (XS := XS) (D := (meD_of c 46 rfl (He.meth_ok (fa_ok c 80 rfl)))) (F_Book_contains := h26) (F_home := h31) (F_change := h35)
  have h47 : Me Prg w K mg base (He.ga K "Book") "checked_terms" 4 (sp_checked_terms K (He.ga K "Scheme") (He.ga K "Book") (xaK K)) := ok_checked_terms (B := B) (T := T) (C := C) (CBk := CBk) (XS := XS) (D := (meD_of c 47 rfl (He.meth_ok (fa_ok c 81 rfl)))) (F_is_list := h3) (F_is_named_term := h24) (F_entry_of := h30)
  have h48 : Me Prg w K mg base (He.ga K "Book") "reckon" 9 (sp_reckon K (He.ga K "Scheme") (He.ga K "Book") (xaK K)) := ok_reckon (B := B) (T := T) (C := C) (CBk := CBk) (XS := XS) (D := (meD_of c 48 rfl (He.meth_ok (fa_ok c 82 rfl)))) (F_check_name := h36) (F_scheme_of := h29) (F_checked_terms := h47) (F_number_of := h33) (F_written := h38) (F_enter := h37)
  have h49 : Fn Prg w K mg base "_law_cell" 1 (sp_l_cell K) := ok_l_cell (B := B) (D := (fnD_of c 49 rfl (He.glo_ok X G (fa_ok c 83 rfl))))
  have h50 : Fn Prg w K mg base "_law_box" 1 sp_l_box := ok_l_box (B := B) (D := (fnD_of c 50 rfl (He.glo_ok X G (fa_ok c 84 rfl))))
  have h51 : Fn Prg w K mg base "_law_take" 1 sp_l_take := ok_l_take (B := B) (D := (fnD_of c 51 rfl (He.glo_ok X G (fa_ok c 85 rfl))))
  have h52 : Fn Prg w K mg base "_law_digits" 2 (sp_l_digits K) := ok_l_digits (B := B) (D := (fnD_of c 52 rfl (He.glo_ok X G (fa_ok c 86 rfl)))) (F__law_take := h51)
  have h53 : Fn Prg w K mg base "_law_pairs" 1 (sp_l_pairs K) := ok_l_pairs (B := B) (D := (fnD_of c 53 rfl (He.glo_ok X G (fa_ok c 87 rfl))))
  have h54 : Fn Prg w K mg base "_law_scheme" 3 (sp_l_scheme K) := ok_l_scheme (B := B) (D := (fnD_of c 54 rfl (He.glo_ok X G (fa_ok c 88 rfl)))) (F__law_take := h51) (F__law_digits := h52) (F__law_pairs := h53)
  have h55 : Fn Prg w K mg base "_law_made" 6 (sp_l_made K (He.ga K "Scheme")) := ok_l_made (B := B) (C := C) (D := (fnD_of c 55 rfl (He.glo_ok X G (fa_ok c 89 rfl)))) (F_Scheme := hSchM)
  have h56 : Fn Prg w K mg base "_law_value" 1 (sp_l_value K) := ok_l_value (B := B) (C := C) (D := (fnD_of c 56 rfl (He.glo_ok X G (fa_ok c 90 rfl))))
  have h57 : Fn Prg w K mg base "_law_known" 1 (sp_l_known K) := ok_l_known (B := B) (C := C) (D := (fnD_of c 57 rfl (He.glo_ok X G (fa_ok c 91 rfl))))
  have h58 : Fn Prg w K mg base "_law_is_name" 1 (sp_l_is_name K) := ok_l_is_name (B := B) (C := C) (D := (fnD_of c 58 rfl (He.glo_ok X G (fa_ok c 92 rfl))))
  have h59 : Fn Prg w K mg base "_law_is_row" 1 (sp_l_is_row K) := ok_l_is_row (B := B) (D := (fnD_of c 59 rfl (He.glo_ok X G (fa_ok c 93 rfl))))
  have h60 : Fn Prg w K mg base "_law_name" 2 sp_l_name := ok_l_name (B := B) (D := (fnD_of c 60 rfl (He.glo_ok X G (fa_ok c 94 rfl)))) (F__law_take := h51)
  have h61 : Fn Prg w K mg base "_law_any_name" 3 (sp_l_any_name K) := ok_l_any_name (B := B) (D := (fnD_of c 61 rfl (He.glo_ok X G (fa_ok c 95 rfl)))) (F__law_take := h51) (F__law_name := h60)
  have h62 : Fn Prg w K mg base "_law_entry_due" 2 (sp_l_entry_due K) := ok_l_entry_due (B := B) (D := (fnD_of c 62 rfl (He.glo_ok X G (fa_ok c 96 rfl)))) (F__law_is_name := h58) (F__law_known := h57)
  have h63 : Fn Prg w K mg base "_law_written" 8 (sp_l_written K (He.ga K "Scheme")) := ok_l_written (B := B) (C := C) (D := (fnD_of c 63 rfl (He.glo_ok X G (fa_ok c 97 rfl)))) (F__law_made := h55) (F_writing := h22)
  have h64 : Fn Prg w K mg base "_law_number_of" 2 (sp_l_number_of K) := ok_l_number_of (B := B) (C := C) (D := (fnD_of c 64 rfl (He.glo_ok X G (fa_ok c 98 rfl)))) (F__law_value := h56)
  have h65 : Fn Prg w K mg base "_law_entered" 1 (sp_l_entered K) := ok_l_entered (B := B) (D := (fnD_of c 65 rfl (He.glo_ok X G (fa_ok c 99 rfl))))
  have h66 : Fn Prg w K mg base "_law_keep_due" 2 (sp_l_keep_due K) := ok_l_keep_due (B := B) (D := (fnD_of c 66 rfl (He.glo_ok X G (fa_ok c 100 rfl)))) (F__law_is_name := h58)
  have h67 : Fn Prg w K mg base "_law_put_due" 9 (sp_l_put_due K) := ok_l_put_due (B := B) (D := (fnD_of c 67 rfl (He.glo_ok X G (fa_ok c 101 rfl)))) (F__law_entry_due := h62) (F__law_written := h63) (F__law_entered := h65)
  have h68 : Fn Prg w K mg base "_law_lay_due" 3 (sp_l_lay_due K) := ok_l_lay_due (B := B) (D := (fnD_of c 68 rfl (He.glo_ok X G (fa_ok c 102 rfl)))) (F__law_entry_due := h62) (F__law_is_row := h59) (F__law_entered := h65)
  have h69 : Fn Prg w K mg base "_law_move_due" 9 (sp_l_move_due K) := ok_l_move_due (B := B) (D := (fnD_of c 69 rfl (He.glo_ok X G (fa_ok c 103 rfl)))) (F__law_known := h57) (F__law_number_of := h64) (F__law_written := h63) (F__law_entered := h65)
  have h70 : Fn Prg w K mg base "_law_good_term" 2 (sp_l_good_term K) := ok_l_good_term (B := B) (D := (fnD_of c 70 rfl (He.glo_ok X G (fa_ok c 104 rfl)))) (F__law_is_name := h58)
  have h71 : Fn Prg w K mg base "_law_reckon_due" 9 (sp_l_reckon_due K) := ok_l_reckon_due (B := B) (D := (fnD_of c 71 rfl (He.glo_ok X G (fa_ok c 105 rfl)))) (F__law_entry_due := h62) (F__law_good_term := h70) (F__law_number_of := h64) (F__law_written := h63) (F__law_entered := h65)
  have h72 : Fn Prg w K mg base "_law_drop_due" 2 (sp_l_drop_due K) := ok_l_drop_due (B := B) (D := (fnD_of c 72 rfl (He.glo_ok X G (fa_ok c 106 rfl)))) (F__law_known := h57)
  have h73 : Fn Prg w K mg base "_law_done" 10 (sp_l_done K (He.ga K "Scheme") (He.ga K "Book") (xaK K)) := ok_l_done (B := B) (C := C) (CBk := CBk) (D := (fnD_of c 73 rfl (He.glo_ok X G (fa_ok c 107 rfl)))) (F__law_made := h55) (F_keep := h39) (F_put := h40) (F_lay := h41) (F_move := h42) (F_reckon := h48) (F_drop := h46) (F_undo := h44)
  have h74 : Fn Prg w K mg base "_law_due" 10 (sp_l_due K) := ok_l_due (B := B) (C := C) (CBk := CBk) (D := (fnD_of c 74 rfl (He.glo_ok X G (fa_ok c 108 rfl)))) (F__law_keep_due := h66) (F__law_put_due := h67) (F__law_lay_due := h68) (F__law_move_due := h69) (F__law_reckon_due := h71) (F__law_drop_due := h72)
  have h75 : Fn Prg w K mg base "_law_told" 11 (sp_l_told K (He.ga K "Scheme") (He.ga K "Book")) := ok_l_told (B := B) (XS := XS) (XT := XT) (D := (fnD_of c 75 rfl (He.glo_ok X G (fa_ok c 109 rfl)))) (F__law_done := h73)
  have h76 : Fn Prg w K mg base "_law_row" 2 (sp_l_row K) := ok_l_row (B := B) (D := (fnD_of c 76 rfl (He.glo_ok X G (fa_ok c 110 rfl)))) (F__law_take := h51)
  have h77 : Fn Prg w K mg base "_law_number" 2 (sp_l_number K) := ok_l_number (B := B) (D := (fnD_of c 77 rfl (He.glo_ok X G (fa_ok c 111 rfl)))) (F__law_take := h51)
  have h78 : Fn Prg w K mg base "_law_some_row" 3 (sp_l_some_row K) := ok_l_some_row (B := B) (D := (fnD_of c 78 rfl (He.glo_ok X G (fa_ok c 112 rfl)))) (F__law_take := h51) (F__law_row := h76)
  have h79 : Fn Prg w K mg base "_law_deed" 4 (sp_l_deed K) := ok_l_deed (B := B) (D := (fnD_of c 79 rfl (He.glo_ok X G (fa_ok c 113 rfl)))) (F__law_take := h51) (F__law_any_name := h61) (F__law_scheme := h54) (F__law_number := h77) (F__law_some_row := h78)
  have h80 : Fn Prg w K mg base "_law_writers_right" 10 (sp_l_writers_right K (He.ga K "Scheme") (He.ga K "Book")) := ok_l_writers_right (B := B) (C := C) (CBk := CBk) (D := (fnD_of c 80 rfl (He.glo_ok X G (fa_ok c 114 rfl)))) (F__law_number_of := h64) (F__law_made := h55) (F_is_written := h20) (F_writers := h34)
  have h81 : Fn Prg w K mg base "_law_look" 11 (sp_l_look K (He.ga K "Scheme") (He.ga K "Book")) := ok_l_look (B := B) (C := C) (CBk := CBk) (D := (fnD_of c 81 rfl (He.glo_ok X G (fa_ok c 115 rfl)))) (F_deeds := h43) (F_schemes := h27) (F_entries := h28) (F_scheme_of := h29) (F__law_made := h55) (F_eq := h14) (F_Book_contains := h26) (F_home := h31) (F_row_of := h32) (F_number_of := h33) (F__law_number_of := h64) (F__law_writers_right := h80)
  have hroom : Room 14 callerA := ⟨rfl, by decide, by decide⟩
  exact ok_law (B := B) (C := C) (CBk := CBk) (F := Flaw) (hroom := hroom) (F_Book := hBkM) (F__law_cell := h49) (F__law_box := h50) (F__law_deed := h79) (F__law_due := h74) (F__law_told := h75) (F__law_look := h81) (F_undo := h44) (F_schemes := h27) (F_entries := h28) (F_Book_eq := h45)
theorem law_fun {K : PySem.W.Frag} (c : SaysX K) : ∃ fd, FunD K "law" "law" (defArgs s_law) (defBody s_law) (defScope s_law) [] [] (He.ga K "law") fd := fn_ok c 82 (d := dx82) rfl
theorem law_glo {K : PySem.W.Frag} {h : Heap} {mg : Str → Option Value} (c : SaysX K) (X : K.In h) (G : h.Ns mainGlobals mg) : mg "law" = some (.ref (He.ga K "law")) := (He.glo_ok X G (fa_ok c 116 rfl))
end K75
set_option maxHeartbeats 0
namespace HeadK75
open PySem PySem.W PySem.Calls PyProof.Rows
def obT (s : PySem.W.SharedT) : K75.AlX := K75.obsK (K75.frX (HandSHeadRun.getT s))
theorem obT_eq (s : PySem.W.SharedT) : obT s = K75.hkX.obs s.abs := by
  have e : HandSHeadRun.getT s = s.abs.heap.get? := funext (HandSHeadRun.getT_eq s)
  show K75.obsK (K75.frX (HandSHeadRun.getT s)) = K75.obsK (K75.frX s.abs.heap.get?)
  rw [e]
theorem map_pair {α β γ δ ε ζ : Type} {x : Option α} {l : α → β} {m : α → γ} {f : α → δ} {g : α → ε} {h : α → ζ} {b : β} {c : γ} {u : δ} {v : ε} {z : ζ} (e1 : x.map (fun s => (l s, m s, f s)) = some (b, c, u)) (e2 : x.map (fun s => (l s, m s, g s)) = some (b, c, v)) (e3 : x.map (fun s => (l s, m s, h s)) = some (b, c, z)) :
    x.map (fun s => (l s, m s, (f s, g s, h s))) = some (b, c, (u, v, z)) := by
  obtain ⟨s, hs, a1⟩ := Option.map_eq_some_iff.mp e1
  obtain ⟨t, ht, a2⟩ := Option.map_eq_some_iff.mp e2
  obtain ⟨r, hr, a3⟩ := Option.map_eq_some_iff.mp e3
  have st : s = t := Option.some.inj (hs.symm.trans ht)
  have sr : s = r := Option.some.inj (hs.symm.trans hr)
  subst st
  subst sr
  obtain ⟨b1, b2⟩ := Prod.mk.inj a1
  obtain ⟨b2, b3⟩ := Prod.mk.inj b2
  obtain ⟨_, c2⟩ := Prod.mk.inj a2
  obtain ⟨_, c3⟩ := Prod.mk.inj c2
  obtain ⟨_, d2⟩ := Prod.mk.inj a3
  obtain ⟨_, d3⟩ := Prod.mk.inj d2
  exact Option.map_eq_some_iff.mpr ⟨s, hs, by rw [b1, b2, b3, c3, d3]⟩
theorem run (w : World) : HandSHeadRun.RunEq R qv K75.hkX obT 40000 names w := fun os => map_pair (run1 w os) (run2 w os) (run3 w os)
end HeadK75
namespace K75
open PySem PySem.Spec PyProof.Rows L2
def CXe : CXT := fun outer H s E e s' => ∃ P w, L2.CX P w outer H s E e s'
theorem LawOk.ex {P Q : Program} {w : World} {K : PySem.W.Frag} {mg : Str → Option Value} {base : Heap} {f : Addr} {fd : FuncData} {x : Str} {sp : Sp} (h : LawOk P w K mg base (L2.CX Q w) f fd x sp) : LawOk P w K mg base CXe f fd x sp := by
  refine ⟨fun s H us vs R E e0 b r hs => codeAny_mono (h.run s H us vs R E e0 b r hs) fun r s' q => ?_⟩
  cases r with
  | error e => exact ⟨Q, w, q⟩
  | ok fl => cases fl <;> exact q
end K75
open PySem PySem.W PySem.Calls PyProof.Rows
theorem PySem.Challenge.cw_oddfigures_k75_whole_books_as_a_model_holds : PySem.Challenge.rw_oddfigures_k75_whole_books_as_a_model.Holds := by
  w_on; o_law
  refine HandSHeadRun.head_any (r := OpenLaw.row PySem.Challenge.rw_oddfigures_k75_whole_books_as_a_model) (q := view (OpenLaw.row PySem.Challenge.rw_oddfigures_k75_whole_books_as_a_model).prog [87]) (H := K75.hkX) (ob := HeadK75.obT) (M := 40000) (loose := HeadK75.names) (d := HandSHeadRun.topDef (OpenLaw.row PySem.Challenge.rw_oddfigures_k75_whole_books_as_a_model).prog 87) (kwd := []) HeadK75.obT_eq
    (by kernel_rfl) (fun s => by kernel_rfl) HeadK75.run (by kernel_rfl) (by kernel_rfl) (by kernel_rfl) (by rfl) (by first | assumption | decide +kernel) (by decide +kernel) ⟨rfl, rfl, rfl, rfl, rfl, by decide +kernel⟩ ?hw ?hc
  case hw => w_witness2
  case hc =>
    refine K75.walk_ofL (l := PySem.Challenge.rw_oddfigures_k75_whole_books_as_a_model) (n := 63) (x := "_law_script") (CX := K75.CXe) rfl (by decide) (by kernel_rfl) ?F (fun _ _ _ _ z => by
      obtain ⟨_, _, _, _, _, _, _, _, _, _, _, _, _, _, h⟩ := z
      exact h)
    intro w mg fa h Y G hmg0
    obtain ⟨K, KX, c⟩ := Y
    have hmg : mg ("law" : PySem.Str) = some (.ref fa) := by
      have e : (HandSHeadRun.topDef (OpenLaw.row PySem.Challenge.rw_oddfigures_k75_whole_books_as_a_model).prog 87).name = ("law" : PySem.Str) := by kernel_rfl
      rw [← e]
      exact hmg0
    have e := hmg.symm.trans (K75.law_glo c KX G)
    cases e
    obtain ⟨fd, F⟩ := K75.law_fun c
    have b := L2.FunD.bindsA (ps := ["_law_script"]) F fun _ _ _ _ _ _ us hl => match us, hl with | [_], _ => rfl
    exact ⟨K, fd, K75.sp_law K, KX, fun s v => b s [v] rfl, fun H a ns hl _ hS => ⟨a, ns, rfl, hS, hl, fun _ => rfl⟩, fun base _ _ => (K75.law_keeps c KX G F).ex⟩
