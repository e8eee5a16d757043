import PyProof.Rows.All
import HandS.ExcField
import HandS.HeadNt
import HandS.Ends
import HandS.Head0
import HandS.Head1
import HandS.Head2
import HandS.HeadEnd
import HandS.HeadHook1
import HandS.HeadHook2
import Wide.All
import OpenK.AllK
import Wide.FinOn
import PyProof.EqAt
import PyProof.EqKinds
import PyProof.TupleCall
import HandS.ForExc
import HandS.Comp
import HandS.Dict
import HandS.Iter
import HandS.Walk
import HandS.Wide
import HandS.TupAny
import HandS.Text
import HandS.Star
import HandS.SortInts
import HandS.SortKw
import HandS.IsInst
import HandS.Property
import HandS.MakeKw
import HandS.MakeKwOnly
import HandS.Style
import HandS.Flow
import HandS.More
import HandS.Conv
import HandS.Zip
import HandS.Deep
import HandS.WordsDict
import HandS.Sort
import HandS.Exc
import HandS.Lambda
import HandS.ExcInit
import HandS.ExcSuper
import KE.KExcSuper
import HandS.List
import HandS.ExcIs
import PyProof.AutoSeq1
import KE.KDictPairs
import HandS.SetFor
import HandS.RaiseMore
import HandS.SetKeys
import HandS.Defaults
import KE.SortKeyHeap
import HandS.NoneIn
import KE.GoesMore
import KE.KDictZip
import PyProof.ListNew
import HandS.OwnEq
import HandS.Strs
import HandS.EndTab
import PyProof.ReprLen
import PySem.Challenge.RW_yesorrefuted_k18_papers_with_meanings_an
set_option Elab.async false
set_option linter.all false
set_option maxRecDepth 100000
set_option maxHeartbeats 4000000
/-! What the head's run looks at: definitions only (it stands ahead of all else, for the run takes much memory). -/
namespace TL
open PySem PySem.Spec PyProof.Rows L2 He

/-- a value: tuples and finished lists by what they hold -/
inductive D where
  | non | bl (b : Bool) | int (i : Int) | str (s : Str) | flt (b : UInt64)
  | tup (xs : List D) | lst (xs : List D) | klst (xs : List D)
  | ref (a : Addr)
  | glb (x : Str)
  | exc (C : Str) (d : D)
  deriving Inhabited

/-- what may change -/
inductive PO where
  | lst (xs : List D)
  | dct (kvs : List (Key × D))
  | ins (C : Str) (fs : List (Str × D))
  | tab (q : Str)
  deriving Inhabited
abbrev Mm := Addr → Option PO
abbrev KD := D → Mm → Prop
/-- what is wanted of an exception: its class's name, its value -/
abbrev XD := Str → D → Mm → Prop
/-- what a def asks: arguments, what is changeable, exceptions, the end -/
abbrev Contract := List D → Mm → XD → KD → Prop

/-- the code object of the def of that qualified name -/
def codeAt (K : PySem.W.Frag) (q : Str) : Option Value := K.findSome? fun (p : Addr × Obj) => match p.2.data with
  | .func fd => if fd.qualname = q then some fd.code else none
  | _ => none
/-- .. and the table of the code objects that it makes -/
def tabAt (K : PySem.W.Frag) (q : Str) : Option (Addr × Addr) := match codeAt K q with
  | some (.ref c) => (match K.lookup c with
    | some o => (match o.data with
      | .fields vs => (match vs.getD 11 .none with
        | .ref P => some (c, P)
        | _ => none)
      | _ => none)
    | none => none)
  | _ => none
inductive Need where
  | free (x : Str)
  | glob (x : Str) (d : D)
  | fn (x : Str) (c : Contract)
  | fnk (x : Str) (c : Contract) (n : Nat) (ks : List Str) (pm : List Nat)
  | mk (C : Str) (c : Contract)
  | mkk (C : Str) (c : Contract) (n : Nat) (ks : List Str) (pm : List Nat)
  | fld (C f : Str)
  | mth (C m : Str) (c : Contract)
  | prp (C f : Str) (c : Contract)
  | ueq (C : Str) (c : Contract)
  | isi (T : Str) (cs : List Str)
  | ise (T : Str) (cs : List Str)
  | xv (cs : List Str)
  | rse (C : Str)
  | hrd (f : Str) (cs : List Str)
  | low (n : Need)
def baseTy : List String := ["NoneType", "bool", "int", "str", "float", "tuple", "list", "dict"]
def isiB (T : Str) (t : String) : Bool := T == Str.ofString t || (t == "bool" && T == ("int" : Str))
abbrev AlC : Type := Bool × List FnW
def obsC (chk : PySem.W.Frag → Bool) (fn : List He5.DefA) (K : PySem.W.Frag) : AlC := (chk K && fn.all fun d => d.ok K, fn.map fun d => He5.fnA K (d.at_ K))
def valC (fn : List He5.DefA) : AlC := (true, fn.map He5.DefA.val)
def tupO (o : Obj) (k : Array Value → Bool) : Bool := match o.cls, o.data with
  | .type "tuple", .seq its _ => decide (its.size ≤ sizeLine) && k its
  | _, _ => false
def onLook (K : PySem.W.Frag) (u : Value) (k : Addr → Obj → Bool) : Bool := match u with
  | .ref a => match K.lookup a with
    | some o => k a o
    | none => false
  | _ => false
mutual
/-- the value of the written part is that -/
def repC (K : PySem.W.Frag) : D → Value → Bool
  | .non, u => match u with | .none => true | _ => false
  | .bl b, u => match u with | .bool c => decide (b = c) | _ => false
  | .int i, u => match u with | .int j _ => decide (i = j) | _ => false
  | .str s, u => match u with | .str z _ => decide (s = z) && decide (s.length ≤ sizeLine) | _ => false
  | .tup xs, u => onLook K u fun _ o => tupO o fun its => repCs K xs its.toList
  | _, _ => false
def repCs (K : PySem.W.Frag) : List D → List Value → Bool
  | [], us => us.isEmpty
  | d :: ds, us => match us with
    | u :: r => repC K d u && repCs K ds r
    | [] => false
end
section
def onGlob (K : PySem.W.Frag) (x : Str) (k : Value → Bool) : Bool := match PySem.W.nsIn K mainGlobals x with
  | some (some u) => k u
  | _ => false
def freeB (K : PySem.W.Frag) (x : Str) : Bool := eqO (PySem.W.nsIn K mainGlobals x) (some none)
def ownB (K : PySem.W.Frag) (T : Str) (u : Value) (C : Str) : Bool := (Fa.glo C).ok K && (Fa.cls C).ok K && eqO (PySem.W.findIn K (.ref (ga K C)) "__class__") (some (some (.builtin "object.__class__"))) && eqO (PySem.W.specialIn K (.builtin "object.__class__") "__get__") (some (some (.builtin "getset_descriptor.__get__"))) &&
  decide (PySem.W.takesIn K (.builtin "object.__class__") = some true) && decide (PySem.W.mroIn K (ga K C) (.type "object") = some true) && decide (PySem.W.kitOne K (.ref (ga K C)) u = some (decide (C = T)))
def isiC (K : PySem.W.Frag) (T : Str) (cs : List Str) (u : Value) : Bool := (baseTy.all fun n => decide (PySem.W.kitOne K (.type n) u = some (isiB T n))) && cs.all fun C => ownB K T u C
def needB (K : PySem.W.Frag) : Need → Bool
  | .free x => freeB K x
  | .glob x d => onGlob K x fun u => repC K d u
  | .fld C f => (Fa.glo C).ok K && (Fa.cls C).ok K && (Fa.noat C f).ok K
  | .isi T cs => (freeB K T && match bootBuiltins T with
      | some (.type n) => isiC K T cs (.type n)
      | _ => false) || ((Fa.glo T).ok K && isiC K T cs (.ref (ga K T)))
  | _ => true
/-- properties, classes, methods -/
def prpA (K : PySem.W.Frag) (C f : Str) : Addr := match PySem.W.findIn K (.ref (ga K C)) f with
  | some (some (.ref p)) => p
  | _ => 0
def prpG (K : PySem.W.Frag) (C f : Str) : Addr := match PySem.W.recIn K (prpA K C f) "property" with
  | some (.ref g :: _) => g
  | _ => 0
def prpB (K : PySem.W.Frag) (C f : Str) : Bool := (Fa.glo C).ok K && (Fa.cls C).ok K && (eqO (PySem.W.findIn K (.ref (ga K C)) f) (some (some (.ref (prpA K C f)))) && eqO (PySem.W.specialIn K (.ref (prpA K C f)) "__get__") (some (some (.builtin "property.__get__"))) && decide (PySem.W.takesIn K (.ref (prpA K C f)) = some true) && (match PySem.W.recIn K (prpA K C f) "property" with
    | some (.ref g :: _) => decide (g = prpG K C f)
    | _ => false))
def mkB (K : PySem.W.Frag) (C : Str) : Bool := (Fa.glo C).ok K && (Fa.mkr C).ok K
def mthB (K : PySem.W.Frag) (C m : Str) : Bool := (Fa.glo C).ok K && (Fa.cls C).ok K && (Fa.meth C m).ok K
end
/-- where a def stands -/
def atG (x : Str) (K : PySem.W.Frag) : Addr := ga K x
def atM (C m : Str) (K : PySem.W.Frag) : Addr := ma K (ga K C) m
def atP (C f : Str) (K : PySem.W.Frag) : Addr := prpG K C f
structure XDef where
  at_ : PySem.W.Frag → Addr
  qual : Str
  params : Arguments
  body : List Stmt
  scope : Scope
abbrev XFn : Type := Option (Str × Str × Arguments × FuncBody × Scope × Addr × Addr)
def xfn (K : PySem.W.Frag) (a : Addr) : XFn := match K.lookup a with
  | some o => (match o.data with
    | .func fd => some (fd.name, fd.qualname, fd.params, fd.body, fd.scope, fd.globals, fd.builtins)
    | _ => none)
  | none => none
def XDef.val (d : XDef) : XFn := some ("__init__", d.qual, d.params, .stmts d.body, d.scope, mainGlobals, builtinsNs)
def fileB (file : Str) (K : PySem.W.Frag) (c : Addr) : Bool := match K.lookup c with
  | some o => (match o.data with
    | .fields vs => (match (vs[2]? : Option Value) with
      | some (.str z _) => file == z
      | _ => false)
    | _ => false)
  | none => false
def cellB (K : PySem.W.Frag) (cc D : Addr) : Bool := match K.lookup cc with
  | some o => (match o.data with
    | .cell (some (.ref E)) => decide (E = D)
    | _ => false)
  | none => false
def XDef.ok (K : PySem.W.Frag) (file : Str) (D : Addr) (d : XDef) : Bool := match K.lookup (d.at_ K) with
  | some o => (match o.data with
    | .func fd => (match fd.code, fd.closure with
      | .ref c, [(x, cc)] => PySem.W.codeIn K (.ref c) d.qual && fileB file K c && decide (x = "__class__") && cellB K cc D && (match fd.defaults with | .none => true | _ => false)
      | _, _ => false)
    | _ => false)
  | none => false
def oexB (K : PySem.W.Frag) (C : Addr) : Bool := (match K.lookup C with
  | some ⟨.type t, _, .cls cd, sl⟩ => (match cd.mro, sl.toList with
    | .ref C' :: bm, [_, _, _, _, some (.builtin n), _] => decide (t = "type") && decide (C' = C) && decide (n = "ValueError.__new__") && cd.hasDict && !cd.hasDel && HandSPX.refsVE bm
    | _, _ => false)
  | _ => false) && eqO (PySem.W.findIn K (.ref C) "__setattr__") (some (some (.builtin "object.__setattr__"))) && decide (PySem.W.subIn K (.ref C) (.type "BaseException") = some true) && decide (PySem.W.typeIn K (.ref C) = some (.type "type")) && PySem.W.keepIn K (.ref C)
def ecB (K : PySem.W.Frag) (C : Addr) : Bool := eqO (PySem.W.findIn K (.ref C) "__getattribute__") (some (some (.builtin "BaseException.__getattribute__"))) && eqO (PySem.W.findIn K (.ref C) "__getattr__") (some none) && decide (PySem.W.subIn K (.ref C) (.type "BaseException") = some true) && PySem.W.hasDictIn K C &&
  eqO (PySem.W.findIn K (.ref C) "__class__") (some (some (.builtin "object.__class__"))) && eqO (PySem.W.specialIn K (.builtin "object.__class__") "__get__") (some (some (.builtin "getset_descriptor.__get__"))) && decide (PySem.W.takesIn K (.builtin "object.__class__") = some true) && decide (PySem.W.mroIn K C (.type "object") = some true)
def excB (K : PySem.W.Frag) (C : Str) : Bool := (Fa.glo C).ok K && ecB K (ga K C) && xfB K (ga K C) && eqO (PySem.W.findIn K (.ref (ga K C)) "value") (some none)
def iseB (K : PySem.W.Frag) (T : Str) (cs : List Str) : Bool := (Fa.glo T).ok K && decide (PySem.W.kitOne K (.type "NoneType") (.ref (ga K T)) = some false) && cs.all fun C => excB K C && decide (PySem.W.kitOne K (.ref (ga K C)) (.ref (ga K T)) = some (decide (C = T)))
/-- the class C takes its beginning from the class D -/
def rseB (K : PySem.W.Frag) (D C : Str) : Bool := (Fa.glo C).ok K && oexB K (ga K C) && eqO (PySem.W.findIn K (.ref (ga K C)) "__init__") (some (some (.ref (ma K (ga K D) "__init__")))) && decide (PySem.W.typeIn K (.ref (ma K (ga K D) "__init__")) = some (.type "function")) &&
  (PySem.W.clsIn K (ga K D)).isSome && decide (PySem.W.mroIn K (ga K C) (.ref (ga K D)) = some true) && eqO (PySem.W.ks_superIn K (ga K C) (ga K D) "__init__") (some (some (.builtin "ValueError.__init__"))) && decide (PySem.W.subIn K (.ref (ga K C)) (.type "ValueError") = some true) &&
  eqO (PySem.W.nsIn K cStatics "thirdparty.any") (some none) && eqO (PySem.W.findIn K (.ref (ga K C)) "value") (some none)
def hrdB (K : PySem.W.Frag) (f xc : Str) (cs : List Str) : Bool := (Fa.glo f).ok K && (Fa.keep f).ok K && (Fa.glo xc).ok K && cs.all fun C => (Fa.glo C).ok K && decide (PySem.W.exmOne K (.ref (ga K C)) (.ref (ga K xc)) = some true)
def cutK (q : Str) (K : PySem.W.Frag) : PySem.W.Frag := match tabAt K q with
  | some (_, T) => K.filter fun p => decide (p.1 ≠ T)
  | none => K
def tab0B (o : Option Obj) : Bool := match o with
  | some ⟨.none, none, .fields vs, sl⟩ => vs.isEmpty && sl.isEmpty
  | _ => false
def codeB (o : Option Obj) (T : Addr) : Bool := match o with
  | some o => (match o.cls, o.data with
    | .type t, .fields vs => decide (t = "code") && decide (vs[11]? = some (.ref T)) && (match vs.getD 18 .none with | .str _ _ => true | _ => false) && (match vs.getD 7 .none with | .int _ _ => true | _ => false) && (match vs.getD 9 .none with | .bool _ => true | _ => false) && (match vs.getD 10 .none with | .int _ _ => true | _ => false)
    | _, _ => false)
  | none => false
def tabOk (q : Str) (K0 K : PySem.W.Frag) : Bool := match tabAt K q with
  | some (c, T) => (K.lookup T).isNone && decide (c ≠ T) && tab0B (K0.lookup T) && codeB (K.lookup c) T
  | none => false
abbrev AlX : Type := AlC × XFn × Bool
def obsXG (as : List Addr) (chk : PySem.W.Frag → Bool) (fn : List He5.DefA) (ini : XDef) (q : Str) (g : Addr → Option Obj) : AlX :=
  let K0 := frG g as
  let K := cutK q K0
  (obsC chk fn K, xfn K (ini.at_ K), tabOk q K0 K)
def codeAtB (K : PySem.W.Frag) (q : Str) (a : Addr) : Bool := match K.lookup a with
  | some o => (match o.data with
    | .func fd => eqO (some (codeAt K q)) (some (some fd.code))
    | _ => false)
  | none => false
def valX (fn : List He5.DefA) (ini : XDef) : AlX := (valC fn, ini.val, true)
/-- a hook that says nothing: only what it looks at counts in the run -/
def hook0 (as : List Addr) (chk : PySem.W.Frag → Bool) (fn : List He5.DefA) (ini : XDef) (q : Str) : PySem.W.Hook where
  α := AlX
  obs := fun s => obsXG as chk fn ini q s.heap.get?
  val := fun _ => valX fn ini
  says := fun _ _ => True
  of := fun _ _ _ => trivial
  keeps := fun _ _ _ _ _ => trivial
end TL

namespace K18
open PySem PySem.Spec PyProof.Rows L2 TL
set_option maxHeartbeats 8000000
abbrev pwP : Program := PySem.Challenge.pw_yesorrefuted_k18_papers_with_meanings_an
def top (i : Nat) : Stmt := pwP.main.body.getD i (.Pass ⟨0, 0, 0, 0⟩)
def inC (i j : Nat) : Stmt := match top i with
  | .ClassDef _ _ _ body _ _ _ _ _ _ _ => body.getD j (.Pass ⟨0, 0, 0, 0⟩)
  | s => s
def dfs : List He5.DefA := [
  ⟨(atG "is_integer"), "is_integer", "is_integer", defArgs (top 8), defBody (top 8), defScope (top 8), [], []⟩,
  ⟨(atG "merged"), "merged", "merged", defArgs (top 17), defBody (top 17), defScope (top 17), [], []⟩,
  ⟨(atG "saturated_row"), "saturated_row", "saturated_row", defArgs (top 18), defBody (top 18), defScope (top 18), [], []⟩,
  ⟨(atG "up_by"), "up_by", "up_by", defArgs (top 19), defBody (top 19), defScope (top 19), [], []⟩,
  ⟨(atG "total_of"), "total_of", "total_of", defArgs (top 23), defBody (top 23), defScope (top 23), [], []⟩,
  ⟨(atP "Rows" "switches"), "switches", "Rows.switches", defArgs (inC 28 2), defBody (inC 28 2), defScope (inC 28 2), [], []⟩,
  ⟨(atP "Rows" "rows"), "rows", "Rows.rows", defArgs (inC 28 3), defBody (inC 28 3), defScope (inC 28 3), [], []⟩,
  ⟨(atG "check_rows"), "check_rows", "check_rows", defArgs (top 29), defBody (top 29), defScope (top 29), [], []⟩,
  ⟨(atM "Checker" "all_rows"), "all_rows", "Checker.all_rows", defArgs (inC 37 1), defBody (inC 37 1), defScope (inC 37 1), [], []⟩,
  ⟨(atM "Checker" "count"), "count", "Checker.count", defArgs (inC 37 2), defBody (inC 37 2), defScope (inC 37 2), [], []⟩,
  ⟨(atM "Checker" "is_live"), "is_live", "Checker.is_live", defArgs (inC 37 4), defBody (inC 37 4), defScope (inC 37 4), [], []⟩,
  ⟨(atM "Renumbering" "keep"), "keep", "Renumbering.keep", defArgs (inC 46 1), defBody (inC 46 1), defScope (inC 46 1), [], []⟩,
  ⟨(atM "Renumbering" "keep_switch"), "keep_switch", "Renumbering.keep_switch", defArgs (inC 46 2), defBody (inC 46 2), defScope (inC 46 2), [], []⟩,
  ⟨(atM "Renumbering" "literal"), "literal", "Renumbering.literal", defArgs (inC 46 3), defBody (inC 46 3), defScope (inC 46 3), [], []⟩,
  ⟨(atM "Renumbering" "has_row"), "has_row", "Renumbering.has_row", defArgs (inC 46 6), defBody (inC 46 6), defScope (inC 46 6), [], []⟩,
  ⟨(atG "_law_pot"), "_law_pot", "_law_pot", defArgs (top 52), defBody (top 52), defScope (top 52), [], []⟩,
  ⟨(atG "_law_take"), "_law_take", "_law_take", defArgs (top 53), defBody (top 53), defScope (top 53), [], []⟩,
  ⟨(atG "_law_cells"), "_law_cells", "_law_cells", defArgs (top 54), defBody (top 54), defScope (top 54), [], []⟩,
  ⟨(atG "_law_is_int"), "_law_is_int", "_law_is_int", defArgs (top 57), defBody (top 57), defScope (top 57), [], []⟩,
  ⟨(atG "_law_merged"), "_law_merged", "_law_merged", defArgs (top 58), defBody (top 58), defScope (top 58), [], []⟩,
  ⟨(atG "_law_up"), "_law_up", "_law_up", defArgs (top 59), defBody (top 59), defScope (top 59), [], []⟩,
  ⟨(atG "is_between"), "is_between", "is_between", defArgs (top 9), defBody (top 9), defScope (top 9), [], []⟩,
  ⟨(atG "is_literal"), "is_literal", "is_literal", defArgs (top 14), defBody (top 14), defScope (top 14), [], []⟩,
  ⟨(atG "divided_row"), "divided_row", "divided_row", defArgs (top 20), defBody (top 20), defScope (top 20), [], []⟩,
  ⟨(atG "added_rows"), "added_rows", "added_rows", defArgs (top 21), defBody (top 21), defScope (top 21), [], []⟩,
  ⟨(atG "is_false_row"), "is_false_row", "is_false_row", defArgs (top 24), defBody (top 24), defScope (top 24), [], []⟩,
  ⟨(atG "rows_of_meaning"), "rows_of_meaning", "rows_of_meaning", defArgs (top 35), defBody (top 35), defScope (top 35), [], []⟩,
  ⟨(atM "Renumbering" "terms"), "terms", "Renumbering.terms", defArgs (inC 46 4), defBody (inC 46 4), defScope (inC 46 4), [], []⟩,
  ⟨(atG "_law_some"), "_law_some", "_law_some", defArgs (top 55), defBody (top 55), defScope (top 55), [], []⟩,
  ⟨(atG "_law_cut"), "_law_cut", "_law_cut", defArgs (top 60), defBody (top 60), defScope (top 60), [], []⟩,
  ⟨(atG "_law_are_pairs"), "_law_are_pairs", "_law_are_pairs", defArgs (top 61), defBody (top 61), defScope (top 61), [], []⟩,
  ⟨(atG "_law_meaning"), "_law_meaning", "_law_meaning", defArgs (top 62), defBody (top 62), defScope (top 62), [], []⟩,
  ⟨(atG "are_terms"), "are_terms", "are_terms", defArgs (top 15), defBody (top 15), defScope (top 15), [], []⟩,
  ⟨(atG "cut_row"), "cut_row", "cut_row", defArgs (top 22), defBody (top 22), defScope (top 22), [], []⟩,
  ⟨(atG "are_pairs"), "are_pairs", "are_pairs", defArgs (top 25), defBody (top 25), defScope (top 25), [], []⟩,
  ⟨(atG "are_times"), "are_times", "are_times", defArgs (top 26), defBody (top 26), defScope (top 26), [], []⟩,
  ⟨(atM "Checker" "__init__"), "__init__", "Checker.__init__", defArgs (inC 37 0), defBody (inC 37 0), defScope (inC 37 0), [], []⟩,
  ⟨(atM "Checker" "over"), "over", "Checker.over", defArgs (inC 37 5), defBody (inC 37 5), defScope (inC 37 5), [], []⟩,
  ⟨(atM "Checker" "can_set"), "can_set", "Checker.can_set", defArgs (inC 37 8), defBody (inC 37 8), defScope (inC 37 8), [], []⟩,
  ⟨(atM "Checker" "can_drop"), "can_drop", "Checker.can_drop", defArgs (inC 37 9), defBody (inC 37 9), defScope (inC 37 9), [], []⟩,
  ⟨(atG "firsts_of"), "firsts_of", "firsts_of", defArgs (top 44), defBody (top 44), defScope (top 44), [], []⟩,
  ⟨(atM "Renumbering" "__init__"), "__init__", "Renumbering.__init__", defArgs (inC 46 0), defBody (inC 46 0), defScope (inC 46 0), [], []⟩,
  ⟨(atM "Renumbering" "step"), "step", "Renumbering.step", defArgs (inC 46 5), defBody (inC 46 5), defScope (inC 46 5), [], []⟩,
  ⟨(atG "_law_step"), "_law_step", "_law_step", defArgs (top 63), defBody (top 63), defScope (top 63), [], []⟩,
  ⟨(atG "is_row"), "is_row", "is_row", defArgs (top 16), defBody (top 16), defScope (top 16), [], []⟩,
  ⟨(atG "are_axioms"), "are_axioms", "are_axioms", defArgs (top 27), defBody (top 27), defScope (top 27), [], []⟩,
  ⟨(atM "Checker" "can_mean"), "can_mean", "Checker.can_mean", defArgs (inC 37 7), defBody (inC 37 7), defScope (inC 37 7), [], []⟩,
  ⟨(atG "needed_by"), "needed_by", "needed_by", defArgs (top 45), defBody (top 45), defScope (top 45), [], []⟩,
  ⟨(atG "_law_gone_through"), "_law_gone_through", "_law_gone_through", defArgs (top 64), defBody (top 64), defScope (top 64), [], []⟩,
  ⟨(atM "Rows" "__init__"), "__init__", "Rows.__init__", defArgs (inC 28 0), defBody (inC 28 0), defScope (inC 28 0), [], []⟩,
  ⟨(atM "Checker" "can_cut"), "can_cut", "Checker.can_cut", defArgs (inC 37 6), defBody (inC 37 6), defScope (inC 37 6), [], []⟩,
  ⟨(atG "trimmed_by"), "trimmed_by", "trimmed_by", defArgs (top 47), defBody (top 47), defScope (top 47), [], []⟩,
  ⟨(atG "_law_bars"), "_law_bars", "_law_bars", defArgs (top 65), defBody (top 65), defScope (top 65), [], []⟩,
  ⟨(atM "Checker" "takes"), "takes", "Checker.takes", defArgs (inC 37 10), defBody (inC 37 10), defScope (inC 37 10), [], []⟩,
  ⟨(atG "first_wrong"), "first_wrong", "first_wrong", defArgs (top 38), defBody (top 38), defScope (top 38), [], []⟩,
  ⟨(atG "does_bar"), "does_bar", "does_bar", defArgs (top 39), defBody (top 39), defScope (top 39), [], []⟩,
  ⟨(atG "check_steps"), "check_steps", "check_steps", defArgs (top 41), defBody (top 41), defScope (top 41), [], []⟩,
  ⟨(atG "bars"), "bars", "bars", defArgs (top 40), defBody (top 40), defScope (top 40), [], []⟩,
  ⟨(atG "rows_by"), "rows_by", "rows_by", defArgs (top 42), defBody (top 42), defScope (top 42), [], []⟩,
  ⟨(atG "live_by"), "live_by", "live_by", defArgs (top 43), defBody (top 43), defScope (top 43), [], []⟩,
  ⟨(atG "check_bar"), "check_bar", "check_bar", defArgs (top 48), defBody (top 48), defScope (top 48), [], []⟩,
  ⟨(atG "trimmed"), "trimmed", "trimmed", defArgs (top 49), defBody (top 49), defScope (top 49), [], []⟩,
  ⟨(atG "used_rows"), "used_rows", "used_rows", defArgs (top 50), defBody (top 50), defScope (top 50), [], []⟩,
  ⟨(atG "_law_wrong"), "_law_wrong", "_law_wrong", defArgs (top 66), defBody (top 66), defScope (top 66), [], []⟩,
  ⟨(atG "_law_right"), "_law_right", "_law_right", defArgs (top 67), defBody (top 67), defScope (top 67), [], []⟩,
  ⟨(atG "law"), "law", "law", defArgs (top 68), defBody (top 68), defScope (top 68), [], []⟩,
  ⟨(atG "_law_heard"), "_law_heard", "_law_heard", defArgs (top 56), defBody (top 56), defScope (top 56), [], []⟩]
abbrev ini : XDef := ⟨fun K => He.ma K (He.ga K "RefutedError") "__init__", "RefutedError.__init__", defArgs (inC 2 0), defBody (inC 2 0), defScope (inC 2 0)⟩
def chkl (K : PySem.W.Frag) : List Bool := [
  needB K (.free "isinstance"),
  needB K (.isi "int" []),
  needB K (.isi "bool" []),
  needB K (.free "abs"),
  needB K (.free "sorted"),
  needB K (.free "tuple"),
  needB K (.glob "EMPTY" (.tup [.tup [], .int 0])),
  needB K (.free "min"),
  needB K (.free "sum"),
  needB K (.fld "Rows" "own_switches"),
  needB K (.fld "Rows" "own_rows"),
  needB K (.isi "Rows" ["Rows"]),
  needB K (.free "list"),
  needB K (.fld "Checker" "own_rows"),
  needB K (.free "len"),
  needB K (.fld "Checker" "own_dropped"),
  needB K (.free "range"),
  needB K (.fld "Renumbering" "own_rows"),
  needB K (.fld "Renumbering" "own_next"),
  needB K (.fld "Renumbering" "own_count"),
  needB K (.fld "Renumbering" "own_switches"),
  needB K (.free "int"),
  needB K (.free "max"),
  ((He.Fa.glo "is_integer").ok K && (He.Fa.keep "is_integer").ok K),
  needB K (.glob "MOST_INNER" (.int 100000)),
  ((He.Fa.glo "up_by").ok K && (He.Fa.keep "up_by").ok K),
  ((He.Fa.glo "merged").ok K && (He.Fa.keep "merged").ok K),
  ((He.Fa.glo "total_of").ok K && (He.Fa.keep "total_of").ok K),
  mthB K "Renumbering" "literal",
  ((He.Fa.glo "_law_take").ok K && (He.Fa.keep "_law_take").ok K),
  ((He.Fa.glo "_law_merged").ok K && (He.Fa.keep "_law_merged").ok K),
  ((He.Fa.glo "_law_up").ok K && (He.Fa.keep "_law_up").ok K),
  needB K (.isi "tuple" []),
  needB K (.free "all"),
  ((He.Fa.glo "_law_is_int").ok K && (He.Fa.keep "_law_is_int").ok K),
  ((He.Fa.glo "is_literal").ok K && (He.Fa.keep "is_literal").ok K),
  ((He.Fa.glo "added_rows").ok K && (He.Fa.keep "added_rows").ok K),
  ((He.Fa.glo "saturated_row").ok K && (He.Fa.keep "saturated_row").ok K),
  ((He.Fa.glo "divided_row").ok K && (He.Fa.keep "divided_row").ok K),
  ((He.Fa.glo "is_between").ok K && (He.Fa.keep "is_between").ok K),
  prpB K "Rows" "rows",
  needB K (.fld "Checker" "own_switches"),
  prpB K "Rows" "switches",
  needB K (.free "enumerate"),
  mthB K "Checker" "is_live",
  ((He.Fa.glo "is_false_row").ok K && (He.Fa.keep "is_false_row").ok K),
  needB K (.free "any"),
  needB K (.glob "CUT" (.str "cut")),
  needB K (.glob "MEAN" (.str "mean")),
  needB K (.glob "SET" (.str "set")),
  needB K (.glob "DROP" (.str "drop")),
  needB K (.free "dict"),
  mthB K "Renumbering" "terms",
  needB K (.isi "str" []),
  ((He.Fa.glo "_law_are_pairs").ok K && (He.Fa.keep "_law_are_pairs").ok K),
  ((He.Fa.glo "_law_cut").ok K && (He.Fa.keep "_law_cut").ok K),
  needB K (.free "set"),
  ((He.Fa.glo "_law_meaning").ok K && (He.Fa.keep "_law_meaning").ok K),
  ((He.Fa.glo "are_terms").ok K && (He.Fa.keep "are_terms").ok K),
  ((He.Fa.glo "are_pairs").ok K && (He.Fa.keep "are_pairs").ok K),
  ((He.Fa.glo "firsts_of").ok K && (He.Fa.keep "firsts_of").ok K),
  ((He.Fa.glo "_law_step").ok K && (He.Fa.keep "_law_step").ok K),
  needB K (.glob "MOST_ROWS" (.int 100000)),
  ((He.Fa.glo "is_row").ok K && (He.Fa.keep "is_row").ok K),
  ((He.Fa.glo "are_times").ok K && (He.Fa.keep "are_times").ok K),
  ((He.Fa.glo "are_axioms").ok K && (He.Fa.keep "are_axioms").ok K),
  ((He.Fa.glo "needed_by").ok K && (He.Fa.keep "needed_by").ok K),
  mkB K "Renumbering",
  needB K (.free "zip"),
  mthB K "Renumbering" "step",
  mthB K "Renumbering" "keep_switch",
  mthB K "Renumbering" "keep",
  mthB K "Renumbering" "has_row",
  ((He.Fa.glo "_law_gone_through").ok K && (He.Fa.keep "_law_gone_through").ok K),
  mthB K "Checker" "can_cut",
  ((He.Fa.glo "cut_row").ok K && (He.Fa.keep "cut_row").ok K),
  mthB K "Checker" "can_mean",
  ((He.Fa.glo "rows_of_meaning").ok K && (He.Fa.keep "rows_of_meaning").ok K),
  mthB K "Checker" "can_set",
  mthB K "Checker" "can_drop",
  mthB K "Checker" "takes",
  mkB K "Checker",
  ((He.Fa.glo "first_wrong").ok K && (He.Fa.keep "first_wrong").ok K),
  mthB K "Checker" "over",
  ((He.Fa.glo "check_rows").ok K && (He.Fa.keep "check_rows").ok K),
  rseB K "RefutedError" "BadPaper",
  freeB K "super",
  ini.ok K pwP.main.file (He.ga K "RefutedError"),
  ((He.Fa.glo "does_bar").ok K && (He.Fa.keep "does_bar").ok K),
  mthB K "Checker" "all_rows",
  ((He.Fa.glo "check_steps").ok K && (He.Fa.keep "check_steps").ok K),
  mthB K "Checker" "count",
  ((He.Fa.glo "trimmed_by").ok K && (He.Fa.keep "trimmed_by").ok K),
  ((He.Fa.glo "check_bar").ok K && (He.Fa.keep "check_bar").ok K),
  hrdB K "_law_heard" "RefutedError" ["BadPaper"],
  ((He.Fa.glo "rows_by").ok K && (He.Fa.keep "rows_by").ok K),
  iseB K "BadPaper" ["BadPaper"],
  (["BadPaper"] : List Str).all fun C => excB K C,
  ((He.Fa.glo "_law_some").ok K && (He.Fa.keep "_law_some").ok K),
  mkB K "Rows",
  ((He.Fa.glo "_law_wrong").ok K && (He.Fa.keep "_law_wrong").ok K),
  ((He.Fa.glo "live_by").ok K && (He.Fa.keep "live_by").ok K),
  needB K (.free "repr"),
  ((He.Fa.glo "bars").ok K && (He.Fa.keep "bars").ok K),
  ((He.Fa.glo "_law_bars").ok K && (He.Fa.keep "_law_bars").ok K),
  ((He.Fa.glo "trimmed").ok K && (He.Fa.keep "trimmed").ok K),
  ((He.Fa.glo "used_rows").ok K && (He.Fa.keep "used_rows").ok K),
  ((He.Fa.glo "_law_cells").ok K && (He.Fa.keep "_law_cells").ok K),
  ((He.Fa.glo "_law_pot").ok K && (He.Fa.keep "_law_pot").ok K),
  ((He.Fa.glo "_law_right").ok K && (He.Fa.keep "_law_right").ok K),
  (He.Fa.glo "law").ok K,
  codeAtB K "_law_wrong" ((atG "_law_wrong") K)]
def chk (K : PySem.W.Frag) : Bool := (chkl K).all id
abbrev R : PySem.W.OpenRow := PySem.W.OpenLaw.row PySem.Challenge.rw_yesorrefuted_k18_papers_with_meanings_an
def asL : List Addr := [3,6,4,21,40,53,65,77,89,98,105,107,114,121,128,135,140,147,152,157,164,169,176,181,186,191,231,242,247,326,337,344,351,358,365,370,377,382,435,446,453,460,467,474,481,488,495,502,509,516,523,528,533,538,543,550,555,562,567,572,0,20,39,52,64,76,88,97,104,106,113,120,127,134,139,146,151,156,163,168,175,180,185,190,230,241,246,325,336,343,350,357,364,369,376,381,434,445,452,459,466,473,480,487,494,501,508,515,522,527,532,537,542,549,554,561,566,571,15,16,17,18,19,37,38,41,51,63,75,87,92,93,94,95,96,99,100,101,102,103,108,109,110,111,112,115,116,117,118,119,122,123,124,125,126,129,130,131,132,133,136,137,138,141,142,143,144,145,148,149,150,153,154,155,158,159,160,161,162,165,166,167,170,171,172,173,174,177,178,179,182,183,184,187,188,189,205,212,220,228,229,232,233,236,237,238,239,240,243,244,245,261,268,275,282,289,294,299,306,311,318,323,324,327,328,331,332,333,334,335,338,339,340,341,342,345,346,347,348,349,352,353,354,355,356,359,360,361,362,363,366,367,368,371,372,373,374,375,378,379,380,394,401,408,415,420,425,432,433,436,437,440,441,442,443,444,447,448,449,450,451,454,455,456,457,458,461,462,463,464,465,468,469,470,471,472,475,476,477,478,479,482,483,484,485,486,489,490,491,492,493,496,497,498,499,500,503,504,505,506,507,510,511,512,513,514,517,518,519,520,521,524,525,526,529,530,531,534,535,536,539,540,541,544,545,546,547,548,551,552,553,556,557,558,559,560,563,564,565,568,569,570,36,25,204,211,219,227,260,267,274,281,288,293,298,305,310,317,322,393,400,407,414,419,424,431,31,32,33,34,35,199,200,201,202,203,206,207,208,209,210,218,226,255,256,257,258,259,262,263,264,265,266,269,270,271,272,273,276,277,278,279,280,283,284,285,286,287,290,291,292,295,296,297,300,301,302,303,304,307,308,309,312,313,314,315,316,319,320,321,390,391,392,395,396,397,398,399,402,403,404,405,406,409,410,411,412,413,416,417,418,421,422,423,426,427,428,429,430,2]
abbrev hk0 : PySem.W.Hook := hook0 asL chk dfs ini "_law_wrong"
def ob (s : PySem.W.SharedT) : AlX := obsXG asL chk dfs ini "_law_wrong" (HandSHeadRun.getT s)
def loose : List Str := (["_wall", "RefutedError", "BadNumber", "BadRows", "NoRows", "BadPaper", "is_integer", "is_between", "is_literal", "are_terms", "is_row", "merged", "saturated_row", "up_by", "divided_row", "added_rows", "cut_row", "total_of", "is_false_row", "are_pairs", "are_times", "are_axioms", "Rows", "check_rows", "rows_of_meaning", "Checker", "first_wrong", "does_bar", "bars", "check_steps"] : List Str) ++ (["rows_by", "live_by", "firsts_of", "needed_by", "Renumbering", "trimmed_by", "check_bar", "trimmed", "used_rows", "_law_pot", "_law_take", "_law_cells", "_law_some", "_law_heard", "_law_is_int", "_law_merged", "_law_up", "_law_cut", "_law_are_pairs", "_law_meaning", "_law_step", "_law_gone_through", "_law_bars", "_law_wrong", "_law_right", "MOST_INNER", "MOST_ROWS", "EMPTY", "CUT", "MEAN"] : List Str) ++ (["SET", "DROP"] : List Str)
theorem run0 (w : World) : HandSHeadRun.RunEq R (PySem.W.view R.prog [68]) hk0 ob 100000 loose w := by
  intro os
  kernel_rfl
end K18
set_option Elab.async false
set_option linter.all false
set_option maxRecDepth 100000
set_option maxHeartbeats 4000000
/-! An own error's own beginning: super().__init__(value); self.value = value. -/
namespace XI
open PySem PySem.Spec PyProof.Rows L2 PySem.W PySem.Calls

/-- what the written part says of the class at C and of the beginning at fI that it takes from D -/
structure SupC (prog : Program) (K : PySem.W.Frag) (qual : Str) (params : Arguments) (body : List Stmt) (scope : Scope) (C D fI : Addr) : Prop where
  ex : ∃ (oc : Value) (od : Option Addr) (dV kV doc pm : Value) (an : Option Addr) (ct : Value) (cc cda : Addr) (osl : Array (Option Value)), K.lookup fI = some ⟨oc, od, .func (ksFn "__init__" qual params body scope dV kV doc pm an (.ref cda) ct cc), osl⟩ ∧
    codeIn K (.ref cda) qual = true ∧ (∃ ccl cdd vs ccs file tf, K.lookup cda = some ⟨ccl, cdd, .fields vs, ccs⟩ ∧ vs[2]? = some (.str file tf) ∧ ((prog.main.file : Str) == file) = true) ∧
    (∃ cl cld csl, K.lookup cc = some ⟨cl, cld, .cell (some (.ref D)), csl⟩) ∧
    ∀ (s : Shared) (x y : Value), BindsTo s (ksFn "__init__" qual params body scope dV kV doc pm an (.ref cda) ct cc) ⟨[x, y], []⟩ [("self", x), ("value", y)]
  hp : ∃ ar, (params.posonlyargs ++ params.args).head? = some ar ∧ ar.arg = ("self" : Str)
  hD : ∃ cdD, clsIn K D = some cdD
  sub : mroIn K C (.ref D) = some true
  up : ks_superIn K C D "__init__" = some (some (.builtin "ValueError.__init__"))
  subV : subIn K (.ref C) (.type "ValueError") = some true
  opq : nsIn K cStatics "thirdparty.any" = some none
  noV : findIn K (.ref C) "value" = some none
  kind : scope.kind = .function
  co : scope.isCoroutine = false
  gen : scope.isGenerator = false
  nocell : ∀ x ∈ scope.names, x.2 ≠ .cell
  sup : scope.names.lookup ("super" : Str) = some .globalImplicit
  cls : scope.names.lookup ("__class__" : Str) = some .free
  self : scope.names.lookup ("self" : Str) = some .local
  val : scope.names.lookup ("value" : Str) = some .local
  top : (prog.main.scope.names.lookup ("super" : Str)).isSome = false
def bodyE (p0 p1 p2 p3 p4 p5 p6 p7 p8 p9 : Pos) : List Stmt :=
  [.Expr (.Call (.Attribute (.Call (.Name "super" p0) [] [] p1) "__init__" p2) [.Name "value" p3] [] p4) p5, .Assign [.Attribute (.Name "self" p6) "value" p7] (.Name "value" p8) p9]

section
variable {prog : Program} {w : World} {A : Around} {K : PySem.W.Frag} {g : Array GenState} {d : Drawn} {t : Nat} {os : OsState}
/-- ValueError's own __init__, bound to the object -/
theorem wrap_call {hp : Heap} {C a u0 t0 : Addr} {u : Value} {E : Value → Shared → Prop} {Q : Value → Shared → Prop} (X : K.In hp) (T : OexC K C) (ha : hp.get? a = some (HandSPX.excO C t0)) (hu : hp.get? u0 = some (kxs_mw "ValueError.__init__" a))
    (hq : ∀ h' t1, (∀ b o, b ≠ a → hp.get? b = some o → h'.get? b = some o) → h'.get? a = some (HandSPX.excO C t1) → Q .none ⟨h', g, d, t, os⟩) : wpAny (model prog w) A (call (.ref u0) [u]) Q E ⟨hp, g, d, t, os⟩ := by
  obtain ⟨nm, q, N, bs, bm, sn, sub, ab, col, dd, k0, k1, k2, k3, k5, hC, hbm⟩ := T.cls
  have FB := PySem.F.excBase_ValueError
  refine wpAny_call (codeAny_of_tree ?_)
  show wpAny _ A.in1 (callAny (.ref u0) ⟨[u], []⟩) _ _ _
  simp only [callAny]
  refine wpAny_bind (wpAny_load hu ?_)
  have m1 : (Value.type "method-wrapper" == Value.type "method" || Value.type "method-wrapper" == Value.type "builtin_function_or_method" || Value.type "method-wrapper" == Value.type "method-wrapper") = true := by decide
  simp only [kxs_mw, m1, if_true]
  refine KFB.if_so (by decide) ?_
  refine wpAny_bind (check_bound_init FB.toExcCallFacts (X _ _ hC) ha rfl ?_)
  refine wpAny_pure ?_
  refine ⟨plainId_quiet FB.init.plain _, codeAny_builtin FB.initEntry ?_⟩
  exact exc_init_tree (cls := .ref C) (t0 := t0) (dv := none) (c2 := .none) (c3 := .none) (b4 := .bool false) ha (by show 1 ≤ sizeLine; decide) fun h' k e' t' => hq h' _ k e'
theorem init_run {hp : Heap} {params : Arguments} {qual : Str} {scope : Scope} {C D fI a t0 : Addr} {u : Value} {mg mb : Str → Option Value} {R : Result → Shared → Prop} {p0 p1 p2 p3 p4 p5 p6 p7 p8 p9 : Pos}
    (hline : (p2.endLine == p4.line) = true) (S : SupC prog K qual params (bodyE p0 p1 p2 p3 p4 p5 p6 p7 p8 p9) scope C D fI) (T : OexC K C) (X : K.In hp) (lim : hp.NoLimit) (hg : hp.Ns mainGlobals mg) (hb : hp.Ns builtinsNs mb) (ms : mg "super" = none) (bs : mb "super" = some (.type "super")) (room : A.depth < recursionLimit)
    (na : K.lookup a = none) (ha : hp.get? a = some (HandSPX.excO C t0))
    (hq : ∀ h' dx t1 tk', (∀ b o, b ≠ a → hp.get? b = some o → h'.get? b = some o) → hp.objs.size ≤ dx → dx ≠ a → h'.get? a = some ({ cls := .ref C, dict := some dx, data := .fields #[.ref t1, .none, .none, .none, .bool false, .none] } : Obj) →
      h'.Ns1 dx (fun y => if y = ("value" : Str) then some u else none) → R (.ok (.ret .none)) ⟨h', g, d, tk', os⟩) :
    codeAny (model prog w) A (.call (.ref fI) ⟨[.ref a, u], []⟩) R ⟨hp, g, d, t, os⟩ := by
  obtain ⟨oc, od, dV, kV, doc, pm, an, ct, cc, cda, osl, hf, hcode, ⟨ccl, cdd, vs, ccs, file, tf, hcd, hvs, hfile⟩, ⟨cl, cld, csl, hcell⟩, hbind⟩ := S.ex
  obtain ⟨cdD, hD⟩ := S.hD
  obtain ⟨ar, har, harn⟩ := S.hp
  refine ks_codeAny_call_defAt (fd := ksFn "__init__" qual params (bodyE p0 p1 p2 p3 p4 p5 p6 p7 p8 p9) scope dV kV doc pm an (.ref cda) ct cc) (body := bodyE p0 p1 p2 p3 p4 p5 p6 p7 p8 p9) room (X _ _ hf) rfl lim (codeRec_of X hcode) rfl (hbind _ _ _) S.nocell (fun x hx => ?_) (fun h₀ hns hk => ?_) S.co S.gen S.kind
  · rcases List.mem_cons.mp hx with e | hx
    · subst e; exact S.self
    · rcases List.mem_cons.mp hx with e | hx
      · subst e; exact S.val
      · cases hx
  have X0 : K.In h₀ := X.keeps hk
  have ha0 := hk _ _ ha
  have hD' : ∃ oD, h₀.get? D = some oD ∧ oD.data = .cls cdD := by
    unfold clsIn at hD
    split at hD
    · rename_i c d cd' sl ho
      cases hD
      exact ⟨_, X0 _ _ ho, rfl⟩
    · cases hD
  obtain ⟨oD, hD1, hD2⟩ := hD'
  have vself : (([("self", Value.ref a), ("value", u)] : List (Str × Value)).reverse.lookup ("self" : Str)) = some (.ref a) := by
    show List.lookup ("self" : Str) [("value", u), ("self", Value.ref a)] = _
    have e1 : (("self" : Str) == ("value" : Str)) = false := by decide
    have e2 : (("self" : Str) == ("self" : Str)) = true := by decide
    simp only [List.lookup, e1, e2]
  have vval : (([("self", Value.ref a), ("value", u)] : List (Str × Value)).reverse.lookup ("value" : Str)) = some u := by
    show List.lookup ("value" : Str) [("value", u), ("self", Value.ref a)] = _
    have e2 : (("value" : Str) == ("value" : Str)) = true := by decide
    simp only [List.lookup, e2]
  have few : ∀ env : Env, methodCallForm (([.Name "value" p3] : List Expr).length + ([] : List Keyword).length) (backTo p4 (starEach [.Name "value" p3] env)) (backToKw p4 (keywordEach [] env)) = true := fun env => by rfl
  refine ks_wpAt_execs_cons (ks_wpAt_Expr_any ?_ (by unfold interactive; simp [show (callEnv (ksFn "__init__" qual params (bodyE p0 p1 p2 p3 p4 p5 p6 p7 p8 p9) scope dV kV doc pm an (.ref cda) ct cc) hp.objs.size fI).scope = scope from rfl, S.kind]))
  rw [arm_eval_Call]
  refine PySem.wpAt_bind ?_
  refine ks_wpAt_super_base S.sup S.cls (by decide) rfl (X0 _ _ hf) rfl har rfl (X0 _ _ hcd) rfl hvs hfile S.top ?_
  refine ks_loadName_global S.kind S.sup (loadGlobal_builtin (hg.keeps hk) ms (hb.keeps hk) bs ⟨rfl, ?_⟩)
  refine wpAny_loadName_free S.kind S.cls rfl ⟨_, X0 _ _ hcell, rfl⟩ ?_
  rw [harn]
  refine wpAny_loadName_local S.kind S.self hns vself ?_
  refine ks_wpAny_isType_cls hD1 hD2 ⟨rfl, ?_⟩
  refine ks_wpAny_call_super hD1 hD2 ha0 rfl (fun c e => ?_) (looks_mroIn X0 S.sub) (fun h1 hso k1 => ?_)
  · cases e
  refine PySem.wpAt_of_wpAny (wpAny_bind (wpAny_standAt ?_))
  unfold methodCall
  rw [few]
  have X1 : K.In h1 := X0.keeps k1
  have ha1 := k1 _ _ ha0
  have I1 : InstAt h1 a (HandSPX.excO C t0) C none := ⟨ha1, rfl, rfl, trivial⟩
  have hsubV : Looks (model prog w) h1 (isInstance (.ref a) (.type "ValueError")) true := I1.type.andThen (looks_subIn X1 S.subV)
  have hup := S.up
  cases hcC : clsIn K C with
  | none => unfold ks_superIn at hup; rw [hcC] at hup; cases hup
  | some cdC =>
    unfold ks_superIn at hup
    rw [hcC] at hup
    refine wpAny_bind (wpAny_holding (kxs_getMethod kxs_ValueError hso (looks_opaque X1 S.opq) (l₀ := cdC.mro) (fun A Q E s k q => wpAny_bind ((looks_clsIn X1 hcC) A _ E s k (wpAny_pure q))) rfl X1 hup hsubV (ks_ne X1 I1 hcC) (by decide) ?_))
    have hpos : methodCallPos true (.Call (.Name "super" p0) [] [] p1) (callEnv (ksFn "__init__" qual params (bodyE p0 p1 p2 p3 p4 p5 p6 p7 p8 p9) scope dV kV doc pm an (.ref cda) ct cc) hp.objs.size fI) p2 p4 = pure p4 := by unfold methodCallPos; simp [hline]
    refine wpAny_bind (wpAny_of_eq hpos ?_)
    have hmw := Heap.get?_push_at (h := h1) (o := kxs_mw "ValueError.__init__" a) rfl rfl
    have k2 : ∀ b o, h1.get? b = some o → (h1.push (kxs_mw "ValueError.__init__" a)).get? b = some o := fun b o e => Heap.get?_push_of_some _ e
    have ns2 := (hns.keeps k1).keeps k2
    refine kxs_callWith (i := "ValueError.__init__") (x := a) rfl ?_
    refine evalArgs_plain (spliced_cons ?_)
    refine ESX.ldL ns2 vval (spliced_nil ⟨hmw, ?_⟩) S.kind S.val
    refine wrap_call (X1.keeps k2) T (k2 _ _ ha1) hmw fun h3 t1 k3 ha3 => ?_
    have X3 : K.In h3 := fun b o e => k3 b o (fun z => by rw [z, na] at e; cases e) (X1.keeps k2 b o e)
    have aL : hp.objs.size ≠ a := Nat.ne_of_gt (Heap.lt_size ha)
    have ns3 : h3.Ns hp.objs.size fun x => List.lookup x ([("self", Value.ref a), ("value", u)] : List (Str × Value)).reverse := by
      obtain ⟨o, es, ep, e, r⟩ := ns2
      exact ⟨o, es, ep, k3 _ _ aL e, r⟩
    refine ks_wpAt_execs_cons (ks_wpAt_Assign_Attr ?_)
    refine PySem.wpAt_of_wpAny ?_
    refine ESX.ldL (env := (callEnv (ksFn "__init__" qual params (bodyE p0 p1 p2 p3 p4 p5 p6 p7 p8 p9) scope dV kV doc pm an (.ref cda) ct cc) hp.objs.size fI)) (m := fun x => List.lookup x ([("self", Value.ref a), ("value", u)] : List (Str × Value)).reverse) (x := "value") ns3 vval ?_ S.kind S.val
    refine ESX.ldL (env := (callEnv (ksFn "__init__" qual params (bodyE p0 p1 p2 p3 p4 p5 p6 p7 p8 p9) scope dV kV doc pm an (.ref cda) ct cc) hp.objs.size fI)) (m := fun x => List.lookup x ([("self", Value.ref a), ("value", u)] : List (Str × Value)).reverse) (x := "self") ns3 vself ?_ S.kind S.self
    obtain ⟨nm, qn, N, bcs, bm, sn, sub, ab, col, dd, k10, k11, k12, k13, k15, hC, hbm⟩ := T.cls
    have hcl : clsIn K C = some { name := nm, bases := bcs, mro := .ref C :: bm, ns := N, qualname := qn, hasDict := true, slotNames := sn, subclasses := sub, abstract := ab, collection := col, hasDel := false } := by unfold clsIn; rw [hC] <;> rfl
    refine set_plain X3 (ox := HandSPX.excO C t1) (od := none) ⟨ha3, rfl, rfl, trivial⟩ T.sa ?_
    refine HandSPX.exc_osa X3 ha3 hcl (show HandSPX.refsVE (.ref C :: bm) = true from hbm) rfl S.noV (fun h' tk' dx k dn dne hx hn => ?_)
    refine PySem.wpAt_of_wpAny (wpAny_execs_nil ?_)
    have kAll : ∀ b o, b ≠ a → hp.get? b = some o → h'.get? b = some o := fun b o hb e => k b o hb (k3 b o hb (k2 b o (k1 b o (hk b o e))))
    refine hq h' dx t1 tk' kAll ?_ dne hx hn
    have hl : hp.objs.size < h3.objs.size := by
      obtain ⟨o, es, ep, e, r⟩ := ns3
      exact Heap.lt_size e
    have dn' : h3.objs.size ≤ dx := dn
    omega
end
end XI

set_option Elab.async false
set_option linter.all false
set_option maxRecDepth 100000
set_option maxHeartbeats 4000000
/-! C(e), an own error class that begins so: made, then raised. -/
namespace XI
open PySem PySem.Spec PyProof.Rows L2
def tMk (C : Addr) (ta : TA) : L2.St → Hp → XK → Prop := fun σ H Q => ta σ H fun vs H1 => ∃ y, vs = [y] ∧ ∀ d, H1 d = none → Q (.ref C) (some d) (upd H1 d (.xd [(("value" : Str), y)]))
theorem pmk_sup {X : Cx} {x qual : Str} {C D fI : Addr} {k : Nat} {e : Expr} {ta : TA} {params : Arguments} {scope : Scope} {p pos p0 p1 p2 p3 p4 p5 p6 p7 p8 p9 : Pos} (hline : (p2.endLine == p4.line) = true)
    (S : SupC X.prog X.K qual params (bodyE p0 p1 p2 p3 p4 p5 p6 p7 p8 p9) scope C D fI) (T : OexC X.K C) (iC : PySem.W.findIn X.K (.ref C) "__init__" = some (some (.ref fI))) (tI : PySem.W.typeIn X.K (.ref fI) = some (.type "function")) (hr : Room (k + 1) X.A)
    (hg : Gl X x) (hm : X.mg x = some (.ref C)) (ms : X.mg "super" = none) (ha : PA X [e] ta)
    (hdb : (x == ("__debug__" : Str)) = false) (he : starEach [e] X.env = (false, eval e X.env) :: starEach [] X.env) : PMk X (.Call (.Name x p) [e] [] pos) (tMk C ta) := by
  intro pins s σ H Q I h
  obtain ⟨nm, q, N, bs, bm, sn, sub, ab, col, dd, k0, k1, k2, k3, k5, hC, hbm⟩ := T.cls
  refine wpAny_Call_Name_kw (ld_glob I hg hm ?_ hdb)
  refine PySem.W.callWith_K (h₀ := X.base) I.ok.mod.kin T.kC (thn (ha.run pos pins s σ H _ I h) fun us s1 ⟨vs, H1, I1, r1, y, ev, q1⟩ => ⟨I1.kIn, ?_⟩) he rfl
  show wpAny _ _ (call (.ref C) us) _ _ _
  subst ev
  obtain ⟨hp, g, dr, tk, os⟩ := s1
  obtain ⟨u, rfl, ry⟩ := Vals.one r1
  have Kn : ∀ b o, X.K.lookup b = some o → b < hp.objs.size := fun b o e => Heap.lt_size (I1.kIn b o e)
  have kk : ∀ b o, hp.get? b = some o → ((hp.push (PySem.W.kdv_tup [u])).push (PySem.HandSPX.excO C hp.objs.size)).get? b = some o := fun b o e => Heap.get?_push_of_some _ (Heap.get?_push_of_some _ e)
  have hget : ((hp.push (PySem.W.kdv_tup [u])).push (PySem.HandSPX.excO C hp.objs.size)).get? (hp.objs.size + 1) = some (PySem.HandSPX.excO C hp.objs.size) := by heap_get
  obtain ⟨mb, hb1, hb2⟩ := I1.mod.blt
  refine wpAny_call (PySem.HandSPX.call_own F.excBase_ValueError (fun Y => PySem.HandSPX.refsVE_contains Y bm hbm) (I1.kIn _ _ hC) (PySem.W.looks_findIn I1.kIn iC) (fun self => PySem.W.bind_fn I1.kIn self tI) (by show 1 ≤ sizeLine; decide) ?_)
  refine init_run hline S T (I1.kIn.keeps kk) (I1.nolimit.keeps kk) ((I1.mod.glob.keeps I1.bk).keeps kk) ((hb1.keeps I1.bk).keeps kk) ms ((hb2 "super" (by decide)).trans (by kernel_rfl)) (hr.make C [u] []).depth ?_ hget fun h' dx t1 tk' kp ld dne hx hn => ?_
  · cases e : X.K.lookup (hp.objs.size + 1) with
    | none => rfl
    | some o => exact absurd (Kn _ _ e) (Nat.not_lt.mpr (Nat.le_succ _))
  · refine ⟨rfl, ?_⟩
    have k' : ∀ b o, hp.get? b = some o → h'.get? b = some o := fun b o e => kp b o (Nat.ne_of_lt (Nat.lt_succ_of_lt (Heap.lt_size e))) (kk b o e)
    have hsz : hp.objs.size ≤ dx := Nat.le_trans (by rw [Heap.size_push, Heap.size_push]; omega) ld
    obtain ⟨G, g1, g2⟩ := restrict h' fun b => decide (b ≠ hp.objs.size + 1)
    have gk : ∀ b, b ≠ hp.objs.size + 1 → G.get? b = h'.get? b := fun b hb => g1 b (decide_eq_true hb)
    have ge : G.get? (hp.objs.size + 1) = none := g2 _ (by simp)
    have kG : ∀ b o, hp.get? b = some o → G.get? b = some o := fun b o e => (gk b (Nat.ne_of_lt (Nat.lt_succ_of_lt (Heap.lt_size e)))).trans (k' b o e)
    have hnd : H1 dx = none := I1.hok.fresh hsz
    have new : ObjOk X.prog X.w (upd H1 dx (.xd [(("value" : Str), y)])) G dx (.xd [(("value" : Str), y)]) := by
      refine ⟨_, hn.at fun o z => (gk dx dne).trans z, fun f => ?_⟩
      exact relO_put (fs := []) (mA := fun _ => none) ry (fun g => True.intro) f
    have J := I1.laid (t' := tk') (h' := G) kG hsz new
    refine ⟨hp.objs.size + 1, _, _, ⟨G, g, dr, tk', os⟩, _, .ref C, some dx, rfl, J, fun b o z => ?_, ge, hx, ⟨rfl, rfl⟩, rfl, rfl, ?_, rfl, I1.bare, raises_own T.exC T.tyC, q1 dx hnd⟩
    · by_cases hba : b = hp.objs.size + 1
      · rw [hba, ge] at z; cases z
      · exact (gk b hba).symm.trans z
    · rw [upd_ne (Ne.symm dne)]
      exact I1.hok.fresh (by show hp.objs.size ≤ _; omega)
end XI

set_option Elab.async false
set_option linter.all false
set_option maxRecDepth 100000
set_option maxHeartbeats 4000000
/-! try: body, except x as n: m = n: the error stands as a value behind it. -/
namespace XI
open PySem PySem.Spec PyProof.Rows L2
/-- at a: an error of the class cls, its dict at d -/
def ExV (cls : Value) (d : Option Addr) (a : Addr) : HO := .ext fun h => ∃ (ob : Obj) (fv : Array Value), h.get? a = some ob ∧ Zc cls d ob ∧ ob.data = .fields fv
theorem exV_ok {P : Program} {w : World} {H : Hp} {h : Heap} {cls : Value} {d : Option Addr} {a : Addr} {ob : Obj} {fv : Array Value} (e : h.get? a = some ob) (z : Zc cls d ob) (dt : ob.data = .fields fv) : ObjOk P w H h a (ExV cls d a) :=
  ⟨⟨ob, fv, e, z, dt⟩, ⟨ob, e⟩, fun _ _ ⟨o, v, q, r⟩ k => ⟨o, v, k o q, r⟩⟩
theorem exV_at {P : Program} {w : World} {H : Hp} {h : Heap} {cls : Value} {d : Option Addr} {a : Addr} (hok : HOk P w H h) (e : H a = some (ExV cls d a)) : ∃ (ob : Obj) (fv : Array Value), h.get? a = some ob ∧ Zc cls d ob ∧ ob.data = .fields fv := by
  have x : ObjOk P w H h a (.ext fun h => ∃ (ob : Obj) (fv : Array Value), h.get? a = some ob ∧ Zc cls d ob ∧ ob.data = .fields fv) := hok a _ e
  exact x.1
section
variable {X : Cx} {pins : List (Addr × Obj)} {σ : L2.St} {H : Hp} {s : Shared}
/-- an object that is there and not tracked, new since the entry, is tracked from now on -/
theorem lay_old {a : Addr} {o : HO} {ob : Obj} {fv : Array Value} (I : L2.Inv X pins σ H s) (ha : s.heap.get? a = some ob) (hd : ob.data = .fields fv) (n : H a = none) (n0 : X.s_0.heap.get? a = none) (nL : a ≠ X.env.locals)
    (np : ∀ p ∈ X.pn ++ pins, p.1 ≠ a) (new : ObjOk X.prog X.w (upd H a o) s.heap a o) : L2.Inv X pins σ (upd H a o) s := by
  have ne0 : ∀ {b : Addr} {u : Obj}, X.s_0.heap.get? b = some u → b ≠ a := fun {b u} e z => by rw [z, n0] at e; cases e
  have neT : ∀ {b : Addr} {u : HO}, H b = some u → b ≠ a := fun {b u} e z => by rw [z, n] at e; cases e
  have neC : ∀ x c, X.env.cells.lookup x = some c → c ≠ a := fun x c e z => by
    obtain ⟨v, oc, hoc, hdc⟩ := I.cell x c e
    rw [z, ha] at hoc
    cases hoc
    rw [hd] at hdc; cases hdc
  have U := I.base
  refine ⟨I.ok, I.os, I.bare, ?_, I.loc, I.cell, ?_, fun x c e => ?_, fun p hp => ?_, fun b u e => ?_, I.len⟩
  · exact { keep := U.keep, slot := U.slot, there := U.there
            free := fun b u e m hx => (upd_ne (ne0 e)).trans (U.free b u e m hx)
            tups := fun b xs e => (upd_ne (neT (U.tups b xs e))).trans (U.tups b xs e)
            frzs := fun b u v e => (upd_ne (neT (U.frzs b u v e))).trans (U.frzs b u v e)
            tbls := fun b ps e => by
              obtain ⟨m, q⟩ := U.tbls b ps e
              exact ⟨m, (upd_ne (neT q)).trans q⟩ }
  · exact (upd_ne (Ne.symm nL)).trans I.free
  · exact (upd_ne (neC x c e)).trans (I.freeC x c e)
  · obtain ⟨h1, h2, h3⟩ := I.pin p hp
    exact ⟨h1, (upd_ne (np p hp)).trans h2, h3⟩
  · by_cases hb : b = a
    · subst hb
      rw [upd_same] at e; cases e
      exact new
    · rw [upd_ne hb] at e
      exact (I.hok b u e).stay (fun _ _ _ q => q) (fun c q => (upd_ne (neT q)).trans q) fun c xs q => (upd_ne (neT q)).trans q
end
/-- what the clause wishes of an error of the body -/
def wKeep (K : PySem.W.Frag) (c : Value) (i j : Nat) (Wout : WX) (D : Ends) : WX := fun cls d σ H => ∃ b, PySem.W.exmOne K cls c = some b ∧
  (b = true → ∀ a, H a = none → D.nx (((σ.set i (some (.ref a))).set j (some (.ref a))).set i none) (upd H a (ExV cls d a))) ∧ (b = false → Wout cls d σ H)
section
variable {X : Cx} {x n m : Str} {c : Value} {i j : Nat} {body : List Stmt} {np pos pos' mp np2 apos : Pos} {tb : WX → TS} {Wout : WX}
theorem ps_try_keep (hex : X.ex = []) (hst : X.stack = X.env :: X.outer) (hfm : X.env.frame = some X.env.locals) (nd : X.N.Nodup) (hi : X.N[i]? = some n) (hj : X.N[j]? = some m) (hln : X.env.kindOf n = some .local) (hlm : X.env.kindOf m = some .local) (hnn : (n == ("__debug__" : Str)) = false) (hnc : (n == ("__classdict__" : Str)) = false) (hc : Names X x c) (tk : Takes X Wout)
    (hb : ∀ (W : WX) (pn : List (Addr × Obj)) (xe : Value → Shared → Prop), Takes (X.tr pn xe) W → PassesOwn (model X.prog X.w) X.A X.env xe → PSs (X.tr pn xe) body (tb W)) :
    PS X (.Try body [.ExceptHandler (some (.Name x np)) (some n) [.Assign [.Name m mp] (.Name n np2) apos] pos'] [] [] pos) (fun D σ H => tb (wKeep X.K c i j Wout D) D σ H) := by
  refine ⟨fun pins s σ H D I h => ?_⟩
  have xok := I.ok
  have frames := I.ok.frames
  rw [hst] at frames
  refine wpAny_Try_except (wpAny_mono ((hb (wKeep X.K c i j Wout D) (X.pn ++ pins) _ (fun u s' air => ?_) PassesOwn.looking).run [] s σ H D (I.toTry _) h) (fun f s1 hsp => ?_) fun e s1 he => he)
  · obtain ⟨a, Gd, sI, pins', σ1, H1, cls, d, rfl, J', gnd, up, sky, na, hos, bare, b, hexm, yes, no⟩ := air
    have J : L2.Inv X pins σ1 H1 sI := J'.ofTry xok
    rw [show (X.tr (X.pn ++ pins) _).stack = X.env :: X.outer from hst] at sky
    show wpAny (model X.prog X.w) X.A (noteFrame (.ref a) X.env) _ _ _
    refine Sky.land Zc.steady frames hfm sky fun hA fly upA => ?_
    have JA : L2.Inv X pins σ1 H1 { s' with heap := hA } := J.landed gnd fly.1 (up.trans upA) hos bare
    obtain ⟨oA, vA, eA, zA, dA⟩ := fly.there
    have offS : a ∉ frs (X.env :: X.outer) := fun hm => by
      obtain ⟨_, o', e', nf⟩ := fly.2.2.1.mem hm
      rw [eA] at e'; cases e'
      exact nf _ dA
    have nL : a ≠ X.env.locals := fun z => offS (List.mem_filterMap.mpr ⟨X.env, List.mem_cons_self, by rw [hfm, z]⟩)
    have nF : a ∉ X.fs := fun hm => by
      obtain ⟨e, he, q⟩ := List.mem_filterMap.mp hm
      exact offS (List.mem_filterMap.mpr ⟨e, List.mem_cons_of_mem _ he, q⟩)
    have nI : sI.heap.get? a = none := by
      cases q : sI.heap.get? a with
      | none => rfl
      | some ob =>
        have z := gnd a ob q (by rw [hst]; exact offS)
        rw [fly.2.1] at z; cases z
    have n0 : X.s_0.heap.get? a = none := by
      cases q : X.s_0.heap.get? a with
      | none => rfl
      | some ob =>
        obtain ⟨o', z⟩ := J.base.there a ob q (by rw [hex]; exact fun z => nomatch z)
        rw [nI] at z; cases z
    have np' : ∀ p ∈ X.pn ++ pins, p.1 ≠ a := fun p hp z => by
      have q := (J.pin p hp).1
      rw [z, nI] at q; cases q
    have SA := JA.suite eA dA na nL nF
    refine wpAny_handleBy_cons (codeAny_handlers_test ?_) (by intro q; cases q)
    have clsOf : PySem.W.Looks (model X.prog X.w) hA (typeOf (.ref a)) cls := fun A Q E s k q => wpAny_typeOf_ref (k _ _ eA) (by rw [zA.1]; exact q)
    have matched := PySem.W.exm_one (M := model X.prog X.w) JA.kIn clsOf hexm
    have asks : ∀ {Q : Value → Shared → Prop} {E : Value → Shared → Prop}, Q c { s' with heap := hA } → wpAny (model X.prog X.w) (X.A.mark (some (.ref a))) (eval (.Name x np) X.env) Q E { s' with heap := hA } := fun {Q E} q => by
      obtain ⟨g1, g2, g3⟩ := hc
      rcases g3 with g3 | ⟨g3, g4, g5⟩
      · exact ld_glob (X := X.suite a ((a, oA) :: (X.pn ++ pins))) SA g1 g3 q g2
      · exact ld_blt (X := X.suite a ((a, oA) :: (X.pn ++ pins))) SA g1 g3 g4 q g5 g2
    refine asks (matched.here ?_)
    cases b with
    | false =>
      refine (wpAny_handleBy_nil ?_ : wpAny _ X.A (handleBy (.ref a) X.env []) _ _ _)
      obtain ⟨_, _, _, ob, fv, T, oT, ts', he, hz, hd, h1, hr⟩ := id fly
      unfold PySem.passOn
      refine wpAny_bind (wpAny_field he hd h1 ?_)
      rw [if_neg (show ¬ ((Value.ref T == Value.none) = true) from by simp)]
      have out : wpAny (model X.prog X.w) X.A (setFlight (.ref a) X.env.frame) (fun _ s4 => wpAny (model X.prog X.w) X.A (throw (.ref a) : Sem Flow) (SP X pins D) X.xe s4) X.xe { s' with heap := hA } := by
        rw [hfm]
        refine HandSPX.setFlight_upZ fly fun hB held upB => wpAny_throw (tk _ _ ?_)
        refine ⟨a, Gd, sI, pins, σ1, H1, cls, d, rfl, J, gnd, (up.trans upA).trans upB, .inr (.inr ?_), na, hos, bare, no rfl⟩
        rw [hst]; exact held
      first
        | exact wpAny_bind (wpAny_pure (wpAny_bind out))
        | exact wpAny_bind out
    | true =>
      refine codeAny_handlers_suite_as (HandSPX.lands_againZ fly fun hB fly2 upB => ?_)
      have JB : L2.Inv X pins σ1 H1 { s' with heap := hB } := J.landed gnd fly2.1 ((up.trans upA).trans upB) hos bare
      obtain ⟨oB, vB, eB, zB, dB⟩ := fly2.there
      have SB := JB.suite eB dB na nL nF
      refine store_ok (X := X.suite a ((a, oB) :: (X.pn ++ pins))) (v := .ref a) SB nd hi (.inl hln) rfl (fun s5 S5 => ?_) (.inr hln)
      have hlen : i < σ1.length := by
        have e1 := J.len
        have e2 := (List.getElem?_eq_some_iff.mp hi).1
        omega
      have pv : PE (X.suite a ((a, oB) :: (X.pn ++ pins))) (.Name n np2) _ := pe_var (X := X.suite a ((a, oB) :: (X.pn ++ pins))) (pos := np2) hi (.inl hln) hnn hnc
      have st : PS (X.suite a ((a, oB) :: (X.pn ++ pins))) (.Assign [.Name m mp] (.Name n np2) apos) _ := ps_set (X := X.suite a ((a, oB) :: (X.pn ++ pins))) nd hj (.inl hlm) pv rfl (.inr hlm)
      refine wpAny_mono ((pss_one st).run [] s5 _ H1 { nx := fun σ6 H6 => σ6 = (σ1.set i (some (.ref a))).set j (some (.ref a)) ∧ H6 = H1, rt := fun _ _ => False, bk := fun _ _ => False, ct := fun _ _ => False } S5 ?_) (fun f s6 hsp => ?_) (fun _ _ z => False.elim z)
      · exact ⟨.ref a, List.getElem?_set_self hlen, rfl, rfl⟩
      · cases f with
        | next =>
          obtain ⟨σ6, H6, S6, e1, e2⟩ := hsp
          subst e1 e2
          refine gone_ok (X := X.suite a ((a, oB) :: (X.pn ++ pins))) S6 nd hi hln fun s7 S7 => ?_
          have p7 := S7.pin (a, oB) (by simp)
          have J7 := S7.unsuite xok
          exact ⟨_, _, lay_old J7 p7.1 dB na n0 nL np' (exV_ok p7.1 zB dB), yes rfl a na⟩
        | brk =>
          obtain ⟨_, _, _, z⟩ := hsp
          exact z.elim
        | cont =>
          obtain ⟨_, _, _, z⟩ := hsp
          exact z.elim
        | ret u =>
          obtain ⟨_, _, _, _, _, z⟩ := hsp
          exact z.elim
  · cases f with
    | next =>
      obtain ⟨σ', H', J', q⟩ := hsp
      exact wpAny_execs_nil ⟨σ', H', J'.ofTry xok, q⟩
    | brk =>
      obtain ⟨σ', H', J', q⟩ := hsp
      exact ⟨σ', H', J'.ofTry xok, q⟩
    | cont =>
      obtain ⟨σ', H', J', q⟩ := hsp
      exact ⟨σ', H', J'.ofTry xok, q⟩
    | ret u =>
      obtain ⟨v, σ', H', J', r, q⟩ := hsp
      exact ⟨v, σ', H', J'.ofTry xok, r, q⟩
end
end XI

set_option Elab.async false
set_option linter.all false
set_option maxRecDepth 100000
set_option maxHeartbeats 4000000
/-! An error as a value: isinstance, its field. -/
namespace XI
open PySem PySem.Spec PyProof.Rows PySem.W PySem.Calls
section
variable {prog : Program} {w : World} {A : Around} {E : Value → Shared → Prop} {s : Shared} {K : Frag} {x D : Addr} {ox : Obj} {od : Option Obj}
theorem find_data {C : Addr} {name : Str} {a g : Value} (hc : (clsIn K C).isSome = true) (ha : findIn K (.ref C) name = some (some a)) (hg : specialIn K a "__get__" = some (some g)) (ht : takesIn K a = some true) : findObj K C od name = some (.bind g a) := by
  obtain ⟨cd, e⟩ := Option.isSome_iff_exists.mp hc
  unfold findObj
  rw [e, Option.bind_some, ha, Option.bind_some]
  simp [hg, ht]
theorem cls_get {Q : Option Value → Shared → Prop} (T : L2.ExcC K D) (X : K.In s.heap) (I : InstAt s.heap x ox D od) (hq : Q (some (.ref D)) { s with toks := s.toks + 1 }) : wpAny (model prog w) A (getAttr? (.ref x) "__class__") Q E s := by
  obtain ⟨tg, tk, ts, td, ta, tn, tt, tm⟩ := T
  have fo : findObj K D od "__class__" = some (.bind (.builtin "getset_descriptor.__get__") (.builtin "object.__class__")) := find_data (by obtain ⟨cd, e, _⟩ := any_some td; rw [e]; rfl) ta tn tt
  obtain ⟨hp, g, d, t, os⟩ := s
  have T0 := I.type (M := model prog w)
  have T1 := looks_findIn (M := model prog w) X tg
  have T2 := looks_findIn (M := model prog w) X tk
  have T3 := looks_find (M := model prog w) X I fo
  have isB : Looks (model prog w) hp (isInstance (.ref x) (.type "BaseException")) true := T0.andThen (looks_subIn X ts)
  have n0 : (false && onTheHeap (Value.builtin "BaseException.__getattribute__")) = false := rfl
  have n2 : (Value.builtin "BaseException.__getattribute__" == Value.builtin "object.__getattribute__") = false := by decide +kernel
  have n1 : (onTheHeap (Value.ref D) && Value.builtin "BaseException.__getattribute__" == Value.builtin "object.__getattribute__") = false := by rw [n2]; rfl
  unfold getAttr? getAttrBy? getAttrBy
  refine wpAny_bind (wpAny_mkText (wpAny_bind (wpAny_attempt (wpAny_holding (wpAny_bind (T0.at (wpAny_bind (T1.at ?_))))))))
  show wpAny (model prog w) A (if (onTheHeap (Value.ref D) && Value.builtin "BaseException.__getattribute__" == Value.builtin "object.__getattribute__") = true then _ else _) _ _ _
  rw [n1, if_neg Bool.false_ne_true]
  unfold getAttrByItsOwn hookBefore
  refine wpAny_bind ?_
  rw [if_pos (show onTheHeap (Value.ref D) = true from rfl)]
  refine T2.at (wpAny_bind (wpAny_attempt (wpAny_holding ?_)))
  unfold callGetattribute
  rw [n0, if_neg Bool.false_ne_true]
  unfold boundAndCalled
  rw [PySem.F.excAttr_ValueError.ga.bind (.ref x)]
  refine wpAny_bind (wpAny_pure ?_)
  show wpAny (model prog w) A (call (.builtin "BaseException.__getattribute__") [.ref x, .str "__class__" t]) _ _ _
  refine wpAny_call (codeAny_call_builtin PySem.F.excAttr_ValueError.ga.plain PySem.F.entry_bexc_ga ?_)
  refine @check_slot (model prog w) _ _ ⟨hp, g, d, t + 1, os⟩ "BaseException.__getattribute__" "BaseException" "__getattribute__" (.ref x) [.str "__class__" t] [] _ (by decide +kernel) (by decide +kernel) isB (PySem.F.args_bexc_ga (.ref x) (.str "__class__" t)) ?_
  unfold Builtin.«object.__getattribute__»
  refine wpAny_bind (wpAny_of_eq (a := ((Value.ref x : Value), [Value.str "__class__" t])) (by first | rfl | (simp only [slotArgs]; rfl)) (wpAny_bind (wpAny_pure (wpAny_bind (T0.at (wpAny_bind (T3.at ?_)))))))
  show wpAny (model prog w) _ (holding [Value.builtin "object.__class__"] (call (.builtin "getset_descriptor.__get__") [.builtin "object.__class__", .ref x, .ref D]) >>= ret) _ _ _
  refine wpAny_bind (wpAny_holding (wpAny_call (class_get (s := ⟨hp, g, d, t + 1, os⟩) (ox := ox) (od := od) X I tm ?_)))
  refine wpAny_pure ?_
  show wpAny (model prog w) _ (handedOut (.ref D)) _ _ _
  rw [handedOut_of (v := .ref D) rfl]
  first
    | exact wpAny_pure (wpAny_pure hq)
    | exact wpAny_pure hq
    | exact wpAny_pure (wpAny_bind (wpAny_pure (wpAny_pure hq)))
theorem kit_exc (T : L2.ExcC K D) : KitX K (.ref x) (.ref D) (fun h => ∃ ob oo, InstAt h x ob D oo) where
  ty := fun _ _ _ ⟨ob, oo, I⟩ => I.type
  it := fun _ _ X _ => by
    obtain ⟨cdD, hcD, _⟩ := any_some T.hd
    unfold clsIn at hcD
    split at hcD
    · rename_i c' d' cd' sl' ho
      intro A' Q' E' s' k q
      unfold isType loadHead
      exact wpAny_bind (wpAny_loadPart (k _ _ (X _ _ ho)) (wpAny_pure q))
    · cases hcD
  ne := fun h tp dd its n sl X htp => by
    obtain ⟨cdD, hcD, _⟩ := any_some T.hd
    refine Bool.eq_false_iff.mpr fun q => ?_
    obtain rfl : D = tp := Value.ref.inj (beq_iff_eq.mp q)
    unfold clsIn at hcD
    split at hcD
    · rename_i c' d' cd' sl' ho
      have z := (X _ _ ho).symm.trans htp
      cases z
    · cases hcD
  ca := fun X ⟨ob, oo, I⟩ k => cls_get T X I k
end
end XI

set_option Elab.async false
set_option linter.all false
set_option maxRecDepth 100000
set_option maxHeartbeats 4000000
/-! x(lambda: body), what is raised wished for at the slots of the def that calls the lambda. -/
namespace XI
open PySem PySem.Spec PyProof.Rows L2 LamX
section
variable {X : Cx} {pins : List (Addr × Obj)} {σ : L2.St} {H HZ : Hp} {s s1 : Shared}
/-- what the called def knows of the lambda that it got -/
def ActAt (X : Cx) (Ng : List Str) (x : Str) (sg : Scope) (g : Addr) (cdg : Value) (s : Shared) (H : Hp) (a q : Str) (f c' : Addr) (tl : XK → Hp → VK → Prop) : Prop :=
  ∀ (W : WX) (pn : List (Addr × Obj)) (xe : Value → Shared → Prop) (p1 p2 : Pos), Takes ((cxOf C8.CX0 X.prog X.w X.K X.mg X.base Ng x sg g cdg X.A X.stack s H C8.E0).tr pn xe) W →
    PE ((cxOf C8.CX0 X.prog X.w X.K X.mg X.base Ng x sg g cdg X.A X.stack s H C8.E0).tr pn xe) (.Call (.Name a p1) [] [] p2)
      (fun σZ HZ Q => σZ[0]? = some (some (.ref f)) ∧ HZ c' = some (CodeO c' q) ∧ ∃ E : XK, (∀ cls d H', E cls d H' → W cls d σZ H') ∧ tl E HZ Q)
theorem act_at {Ng : List Str} {xg a : Str} {sg : Scope} {g f c' : Addr} {cdg pm ctv : Value} {params : Arguments} {body : Expr} {scope : Scope} {k : Nat} {t : XK → TE}
    (I : L2.Inv X pins σ H s) (L : LamS X.env.scope scope) (of_ : s.heap.get? f = some (PySem.W.kla_obj "<lambda>" (X.env.qual ++ "<lambda>") params body scope (cloFrom X.env.cells scope.names []) pm c' ctv)) (nf : H f = none) (ff : f ∉ frs X.stack)
    (bnd : bindArgs (PySem.W.kla_fn "<lambda>" (X.env.qual ++ "<lambda>") params body scope (cloFrom X.env.cells scope.names []) pm (.ref c') ctv) ⟨[], []⟩ = pure []) (hr : Room (k + 1) (X.A.deeper (envOfC xg sg s.heap.objs.size g cdg)))
    (hbody : ∀ (A : Around) (outer : List Env) (s : Shared) (H : Hp) (E : XK), Room k (A.deeper (lamEnv X scope s.heap.objs.size f c')) → A.guards = X.A.guards → PE (lamCx X A outer s H E scope f c') body (t E))
    (hN : Ng[0]? = some a) (hv : Vis sg a) (hd : (a == ("__debug__" : Str)) = false) (hcd : (a == ("__classdict__" : Str)) = false) : ActAt X Ng xg sg g cdg s H a (X.env.qual ++ "<lambda>") f c' (fun E H' Q' => t E σ H' Q') := by
  intro W pn xe p1 p2 tk
  refine ⟨fun pZ sZ σZ HZ Q IZ h => ?_⟩
  obtain ⟨hs, hc, E, hW, ht⟩ := h
  refine wpAny_Call_Name_kw (thn ((pe_var (i := 0) hN hv hd hcd).run pZ sZ σZ HZ (fun v H1 => v = .ref f ∧ H1 = HZ) IZ ⟨.ref f, hs, rfl, rfl⟩) fun u s2 ⟨v, H1, I2, r2, ev, eH⟩ => ?_)
  subst ev; subst eH
  obtain rfl : u = Value.ref f := r2
  have fobj : s2.heap.get? f = some (PySem.W.kla_obj "<lambda>" (X.env.qual ++ "<lambda>") params body scope (cloFrom X.env.cells scope.names []) pm c' ctv) := I2.base.keep f _ of_ nf ff (fun z => nomatch (show f ∈ ([] : List Addr) from z))
  refine PySem.W.callWith_F0 ⟨_, _, _, _, fobj⟩ ?_
  obtain ⟨⟨oc, cv, tc, hoc, hdc, hvc⟩, _, _⟩ := I2.hok c' _ hc
  have called : codeAny (model X.prog X.w) (X.A.deeper (envOfC xg sg s.heap.objs.size g cdg)) (.call (.ref f) ⟨[], []⟩) (CR (L2.CX X.prog X.w) (envOfC xg sg s.heap.objs.size g cdg :: X.stack) X.prog X.w H1 s2 Q E) s2 := by
    refine PySem.W.kla_callFunE hr.depth fobj rfl L.co L.gen rfl ⟨c', oc, cv, tc, rfl, hoc, hdc, hvc⟩ ?_
    rw [bnd]
    refine wpAny_pure (wpAny_newFunctionEnv (fun y hy => (L.own y hy).2) (fun y hy => absurd hy (by simp)) (fun h₁ hns hsb => ⟨I2.nolimit.fresh _ hsb, ?_⟩) L.kind)
    have kept : ∀ b o, s2.heap.get? b = some o → h₁.get? b = some o := fun b o e => hsb.extBut b o (Nat.ne_of_lt (Heap.lt_size e)) (Heap.get?_push_of_some _ e)
    have J := lam_start2 (E := E) (f := f) (c' := c') (tk := s2.toks + ([] : List (Str × Value)).length) I L I2.env0 hr.hd I2.base hns kept
    refine PySem.W.kla_codeExpr (wpAny_mono ((hbody _ _ s2 H1 E (hr.deeper _) rfl).run [] _ _ H1 Q J ht) (fun v s3 hq => ?_) fun e s3 hq => hq)
    obtain ⟨w', H3, J3, rv, q⟩ := hq
    exact ⟨w', H3, J3.os, J3.bare, J3.base, J3.hok, rv, q⟩
  refine wpAny_call (codeAny_mono called fun r s3 hq => ?_)
  cases r with
  | error e => exact tk e s3 (XE.of_call I2 (fun cls d H' z => hW cls d H' z) hq)
  | ok fl =>
    cases fl with
    | ret u => exact I2.after hq
    | next => exact False.elim hq
    | brk => exact False.elim hq
    | cont => exact False.elim hq
/-- all but the table at P stays -/
def ExtP (P : Addr) (H H' : Hp) : Prop := ∀ b o, H b = some o → b ≠ P → H' b = some o
/-- the lambda is made; of the tables only its maker's grows -/
theorem lam_made {c P : Addr} {params : Arguments} {body : Expr} {scope : Scope} {pos : Pos} {E : Value → Shared → Prop} {Q : Value → Shared → Prop} (I : L2.Inv X pins σ H s) (TB : TabB X.base X.mg c P) (hcode : X.env.code = .ref c) (hT : TabS H P (X.env.qual ++ "<lambda>"))
    (hdef : defaultsOf params X.env = ([], [])) (hfree : ∀ y ∈ scope.names, y.2 = .free → ∃ c, X.env.cells.lookup y.1 = some c)
    (h : ∀ (f c' : Addr) (pm ctv : Value) (H1 : Hp) (s' : Shared), L2.Inv X pins σ H1 s' → ExtP P H H1 → TabS H1 P (X.env.qual ++ "<lambda>") →
      s'.heap.get? f = some (PySem.W.kla_obj "<lambda>" (X.env.qual ++ "<lambda>") params body scope (cloFrom X.env.cells scope.names []) pm c' ctv) → H1 f = none → f ∉ frs X.stack → H1 c' = some (CodeO c' (X.env.qual ++ "<lambda>")) → Q (.ref f) s') :
    wpAny (model X.prog X.w) X.A (eval (.Lambda params body scope pos) X.env) Q E s := by
  obtain ⟨ps, hP, trip, codes⟩ := hT
  refine PySem.W.kla_eval hdef ?_
  have blt : s.heap.BuiltinsAt X.mg P := TB.bm.keeps I.bk
  have tabl : s.heap.get? P = some { cls := .none, data := .fields ps } := I.hok P _ hP
  have offs : ∀ f, s.heap.objs.size ≤ f → f ∉ frs X.stack := fun f hf z => by
    rcases List.mem_cons.mp (I.stkSub _ z) with e | e
    · have h1 := I.lt
      rw [← e] at h1
      exact absurd h1 (Nat.not_lt.mpr hf)
    · exact I.nofs hf e
  cases hc : codeAmong pos ps.toList with
  | some cv =>
    obtain ⟨c', rfl, hco⟩ := codes pos cv hc
    refine PySem.W.kla_makeFunctionHit (mg := X.mg) (c := c) (P := P) (ps := ps) (closure_ok hfree) I.ok.glob (I.mod.glob.keeps I.bk) hcode (TB.code.keeps I.bk) tabl trip hc blt fun ctv h' tk hx hsz => ?_
    have J : L2.Inv X pins σ H { s with heap := h'.push (PySem.W.kla_obj "<lambda>" (X.env.qual ++ "<lambda>") params body scope (cloFrom X.env.cells scope.names []) ((X.mg "__name__").getD .none) c' ctv), toks := tk } := I.kept fun b o e => Heap.get?_push_of_some _ (hx b o e)
    exact h h'.objs.size c' ((X.mg "__name__").getD .none) ctv H _ J (fun _ _ e _ => e) ⟨ps, hP, trip, codes⟩ (Heap.get?_push_size _ rfl) (I.hok.fresh hsz) (offs _ hsz) hco
  | none =>
    refine PySem.W.kla_makeFunction (mg := X.mg) (c := c) (P := P) (ps := ps) (closure_ok hfree) I.ok.glob (I.mod.glob.keeps I.bk) hcode (TB.code.keeps I.bk) tabl trip hc TB.gP blt fun c' ctv h' tk hx hge hlt hrec htb => ?_
    obtain ⟨c2, oc, vs, t, e2, hoc, hd, hv⟩ := hrec
    cases e2
    have sz : s.heap.objs.size ≤ h'.objs.size := Nat.le_trans hge (Nat.le_of_lt hlt)
    have nC : H c' = none := I.hok.fresh hge
    have J := inv_table (t' := tk) (more := #[rawInt pos.line, rawInt pos.col, .ref c']) (h' := h'.push (PySem.W.kla_obj "<lambda>" (X.env.qual ++ "<lambda>") params body scope (cloFrom X.env.cells scope.names []) ((X.mg "__name__").getD .none) c' ctv)) I hP
      (fun b o hb e => Heap.get?_push_of_some _ (hx b o hb e)) (Heap.get?_push_of_some _ htb) hge ⟨oc, vs, t, Heap.get?_push_of_some _ hoc, hd, hv⟩
    have ext : ExtP P H (upd (upd H P (.tbl (ps ++ #[rawInt pos.line, rawInt pos.col, .ref c']))) c' (CodeO c' (X.env.qual ++ "<lambda>"))) := fun b o e n => by
      rw [upd_ne (ne_of_none e nC), upd_ne n]; exact e
    have appL : (ps ++ #[rawInt pos.line, rawInt pos.col, .ref c']).toList = ps.toList ++ [rawInt pos.line, rawInt pos.col, .ref c'] := by simp
    refine h h'.objs.size c' ((X.mg "__name__").getD .none) ctv _ _ J ext ⟨_, by rw [upd_ne (ne_of_none hP nC), upd_same], by rw [appL]; exact PySem.TriplesOk_snoc _ _ _ _ trip, fun p' cv hcv => ?_⟩ (Heap.get?_push_size _ rfl) ?_ (offs _ sz) upd_same
    · rw [appL] at hcv
      rcases among_app _ trip hcv with z | z
      · obtain ⟨c0, e1, e2⟩ := codes p' cv z
        refine ⟨c0, e1, ext _ _ e2 fun y => ?_⟩
        rw [y, hP] at e2
        exact codeO_ne _ (Option.some.inj e2).symm
      · exact ⟨c', z, upd_same⟩
    · rw [upd_ne (Nat.ne_of_gt hlt), upd_ne (Nat.ne_of_gt (Nat.lt_of_lt_of_le (Heap.lt_size tabl) sz))]
      exact I.hok.fresh sz
def tLamP (P : Addr) (q : Str) (TT : (XK → Hp → VK → Prop) → Hp → VK → Prop) (t : XK → TE) : TE := fun σ H Q => TabS H P q ∧ ∀ H1, ExtP P H H1 → TabS H1 P q → TT (fun E H' Q' => t E σ H' Q') H1 Q
/-- the def keeps its reading TT of the lambda's own tl -/
def Gives (X : Cx) (Ng : List Str) (x : Str) (sg : Scope) (g : Addr) (cdg : Value) (bg : List Stmt) (a q : Str) (TT : (XK → Hp → VK → Prop) → Hp → VK → Prop) : Prop :=
  ∀ (f c' : Addr) (s : Shared) (H : Hp) (Q : VK) (tl : XK → Hp → VK → Prop), ActAt X Ng x sg g cdg s H a q f c' tl → H c' = some (CodeO c' q) → TT tl H Q →
    ∃ t, PSs (cxOf C8.CX0 X.prog X.w X.K X.mg X.base Ng x sg g cdg X.A X.stack s H C8.E0).nox bg t ∧ t { nx := fun _ H' => Q .non H', rt := Q } (L2.start Ng [.ref f]) H
theorem lam_call {TT : (XK → Hp → VK → Prop) → Hp → VK → Prop} {x a : Str} {g c P : Addr} {k : Nat} {pg : Arguments} {bg : List Stmt} {sg : Scope} {dV kV doc pm cdv ct oc : Value} {an od : Option Addr} {osl : Array (Option Value)} {Ng : List Str}
    {params : Arguments} {body : Expr} {scope : Scope} {t : XK → TE} {p lpos pos : Pos} (hg : Gl X x) (hm : X.mg x = some (.ref g)) (hk : PySem.W.keepIn X.K (.ref g) = true)
    (lk : X.K.lookup g = some ⟨oc, od, .func (PySem.W.fnOf x x pg bg sg dV kV doc pm an cdv ct), osl⟩) (hcg : PySem.W.codeIn X.K cdv x = true) (hb : L2.Binds X.K (PySem.W.fnOf x x pg bg sg dV kV doc pm an cdv ct) [a] []) (Sg : FnScope Ng [a] sg) (hNg : Ng[0]? = some a) (hva : Vis sg a)
    (hG : Gives X Ng x sg g cdv bg a (X.env.qual ++ "<lambda>") TT) (TB : TabB X.base X.mg c P) (hcode : X.env.code = .ref c) (hr : Room (k + 2) X.A) (L : LamS X.env.scope scope) (hdef : defaultsOf params X.env = ([], []))
    (bnd : ∀ (q : Str) (cl : List (Str × Addr)) (pm cv ctv : Value), bindArgs (PySem.W.kla_fn "<lambda>" q params body scope cl pm cv ctv) ⟨[], []⟩ = pure [])
    (hbody : ∀ (A : Around) (outer : List Env) (s : Shared) (H : Hp) (E : XK) (f c' : Addr), Room k (A.deeper (lamEnv X scope s.heap.objs.size f c')) → A.guards = X.A.guards → PE (lamCx X A outer s H E scope f c') body (t E))
    (hdb : (x == ("__debug__" : Str)) = false) (hd : (a == ("__debug__" : Str)) = false) (hcd : (a == ("__classdict__" : Str)) = false) : PE X (.Call (.Name x p) [.Lambda params body scope lpos] [] pos) (tLamP P (X.env.qual ++ "<lambda>") TT t) := by
  refine ⟨fun pins s σ H Q I ⟨hT, h⟩ => ?_⟩
  refine wpAny_Call_Name_kw (ld_glob I hg hm (PySem.W.callWith_K (h₀ := X.base) I.ok.mod.kin hk ?_ (by rfl) (by rfl)) hdb)
  show wpAny (model X.prog X.w) X.A (spliced ((false, eval (.Lambda params body scope lpos) X.env) :: backTo pos (starEach [] X.env))) _ _ s
  refine Calls.spliced_cons (lam_made I TB hcode hT hdef (L.has I.ok) fun f c' pm' ctv H1 s1 I1 eN T1 of_ nf ff hco => Calls.spliced_nil ⟨I1.kIn, ?_⟩)
  have called : codeAny (model X.prog X.w) X.A (.call (.ref g) ⟨[.ref f], []⟩) (CR C8.CX0 X.stack X.prog X.w H1 s1 Q C8.E0) s1 := by
    refine run_ofS (N := Ng) (ps := [a]) (us := [.ref f]) (vs := [.ref f]) lk hcg Sg hr I1.env0 (hb s1 [.ref f] I1.kIn rfl) (.cons rfl .nil) rfl fun hr' => ?_
    obtain ⟨t', ht', hq'⟩ := hG f c' s1 H1 Q (fun E H' Q' => t E σ H' Q') (act_at I1 L of_ nf ff (bnd _ _ _ _ _) hr' (fun A outer s H E r2 gd => hbody A outer s H E f c' r2 gd) hNg hva hd hcd) hco (h H1 eN T1)
    exact ⟨t', ht'.nox, hq'⟩
  refine wpAny_call (codeAny_mono called fun r s2 hq => ?_)
  cases r with
  | error e => exact (show False from hq).elim
  | ok fl =>
    cases fl with
    | ret u => exact I1.after hq
    | next => exact False.elim hq
    | brk => exact False.elim hq
    | cont => exact False.elim hq
end
end XI

set_option Elab.async false
set_option linter.all false
set_option maxRecDepth 100000
set_option maxHeartbeats 4000000
/-! caught, back = None, None; try: back = look() except X as error: caught = error; return caught, back. -/
namespace XI
open PySem PySem.Spec PyProof.Rows L2 LamX
def nHeard : List Str := ["look", "caught", "back", "error"]
def bHeard (xc : Str) (k1 k2 k3 j1 j2 : Nat) (a1 a2 a3 a4 a5 a6 a7 b1 b2 b3 b4 b5 c1 c2 c3 c4 c5 d1 d2 d3 d4 : Pos) : List Stmt :=
  [.Assign [.Tuple [.Name "caught" a1, .Name "back" a2] k1 a3] (.Tuple [.Constant .none j1 a4, .Constant .none j2 a5] k2 a6) a7,
   .Try [.Assign [.Name "back" b1] (.Call (.Name "look" b2) [] [] b3) b4] [.ExceptHandler (some (.Name xc c1)) (some "error") [.Assign [.Name "caught" c2] (.Name "error" c3) c4] c5] [] [] b5,
   .Return (some (.Tuple [.Name "caught" d1, .Name "back" d2] k3 d3)) d4]
def THeard (K : PySem.W.Frag) (CS : Addr) : (XK → Hp → VK → Prop) → Hp → VK → Prop := fun tl H Q => ∀ T0, H T0 = none → ∀ (Eh : XK) (Qv : VK),
  (∀ cls d H', PySem.W.exmOne K cls (.ref CS) = some true → (∀ a, H' a = none → ∀ T, upd H' a (ExV cls d a) T = none → Q (.ref T) (upd (upd H' a (ExV cls d a)) T (.tup [.ref a, .non]))) → Eh cls d H') →
  (∀ v H', (∀ T, H' T = none → Q (.ref T) (upd H' T (.tup [.non, v]))) → Qv v H') → tl Eh (upd H T0 (.tup [.non, .non])) Qv
theorem heard_gives {X : Cx} {x xc q : Str} {sg : Scope} {g CS : Addr} {cdg : Value} {k1 k2 k3 j1 j2 : Nat} {a1 a2 a3 a4 a5 a6 a7 b1 b2 b3 b4 b5 c1 c2 c3 c4 c5 d1 d2 d3 d4 : Pos}
    (hk : sg.kind = .function) (l0 : sg.names.lookup ("look" : Str) = some .local) (l1 : sg.names.lookup ("caught" : Str) = some .local) (l2 : sg.names.lookup ("back" : Str) = some .local) (l3 : sg.names.lookup ("error" : Str) = some .local) (lx : sg.names.lookup xc = some .globalImplicit) (mx : X.mg xc = some (.ref CS)) (dx : (xc == ("__debug__" : Str)) = false)
    (ss : ∀ env : Env, env.scope = sg → swappedStores [.Tuple [.Name "caught" a1, .Name "back" a2] k1 a3] (.Tuple [.Constant .none j1 a4, .Constant .none j2 a5] k2 a6) env = pure none) :
    Gives X nHeard x sg g cdg (bHeard xc k1 k2 k3 j1 j2 a1 a2 a3 a4 a5 a6 a7 b1 b2 b3 b4 b5 c1 c2 c3 c4 c5 d1 d2 d3 d4) "look" q (THeard X.K CS) := by
  intro f c' s H Q tl act hc ht
  have nd : nHeard.Nodup := by decide +kernel
  let Z : Cx := (cxOf C8.CX0 X.prog X.w X.K X.mg X.base nHeard x sg g cdg X.A X.stack s H C8.E0).nox
  have s1 : PS Z (.Assign [.Tuple [.Name "caught" a1, .Name "back" a2] k1 a3] (.Tuple [.Constant .none j1 a4, .Constant .none j2 a5] k2 a6) a7) _ :=
    ps_asg (X := Z) (pe_tup (pa_cons pe_non (pa_cons pe_non pa_nil))) (pg_tup rfl (pgs_cons (pg_name (X := Z) (i := 1) nd rfl (.inl l1) (.inr l1)) (pgs_cons (pg_name (X := Z) (i := 2) nd rfl (.inl l2) (.inr l2)) pgs_nil))) rfl (ss _ rfl)
  have s2 : PS Z (.Try [.Assign [.Name "back" b1] (.Call (.Name "look" b2) [] [] b3) b4] [.ExceptHandler (some (.Name xc c1)) (some "error") [.Assign [.Name "caught" c2] (.Name "error" c3) c4] c5] [] [] b5) _ :=
    ps_try_keep (X := Z) (i := 3) (j := 1) (c := .ref CS) rfl rfl rfl nd rfl rfl l3 l1 (by decide) (by decide) ⟨lx, dx, .inl mx⟩ LamX.takes0
      (tb := fun W D σ H => σ[0]? = some (some (.ref f)) ∧ H c' = some (CodeO c' q) ∧ ∃ Ech : XK, (∀ cls d H', Ech cls d H' → W cls d σ H') ∧ tl Ech H fun v H' => D.nx (σ.set 2 (some v)) H') fun W pn xe tk _ => ?_
  · have s3 : PS Z (.Return (some (.Tuple [.Name "caught" d1, .Name "back" d2] k3 d3)) d4) _ := ps_ret (X := Z) (pe_tup (pa_cons (pe_var (X := Z) (i := 1) rfl (.inl l1)) (pa_cons (pe_var (X := Z) (i := 2) rfl (.inl l2)) pa_nil)))
    refine ⟨_, pss_cons s1 (pss_cons s2 (pss_one s3)), ?_⟩
    refine ⟨by show 2 ≤ sizeLine; decide, fun p hp => ?_⟩
    refine ⟨p, [.non, .non], rfl, .inl (.inl upd_same), rfl, .non, [.non], rfl, ?_⟩
    refine ⟨.non, [], rfl, ?_⟩
    refine ⟨rfl, ?_⟩
    let Dn : Ends := { nx := tRet (tTup (tCons (tVar 1) (tCons (tVar 2) tNil))) { nx := fun x H' => Q V.non H', rt := Q }, rt := Q }
    refine ⟨rfl, (upd_ne (ne_of_none hc hp)).trans hc, fun cls d H' => wKeep Z.K (.ref CS) 3 1 (fun _ _ _ _ => False) Dn cls d (((L2.start nHeard [V.ref f]).set 1 (some .non)).set 2 (some .non)) H', fun cls d H' hE => hE, ?_⟩
    refine ht p hp _ _ (fun cls d H' hx hw => ?_) fun v H' hw => ?_
    · refine ⟨true, hx, fun _ a ha => ?_, fun z => by cases z⟩
      exact ⟨.ref a, rfl, .non, rfl, by show 2 ≤ sizeLine; decide, fun T hT => hw a ha T hT⟩
    · exact ⟨.non, rfl, v, rfl, by show 2 ≤ sizeLine; decide, fun T hT => hw T hT⟩
  · have pv := act W pn xe b2 b3 tk
    exact pss_one (ps_set (X := Z.tr pn xe) (i := 2) nd rfl (.inl l2) pv rfl (.inr l2))
end XI

set_option Elab.async false
set_option linter.all false
set_option maxRecDepth 100000
set_option maxHeartbeats 4000000
/-! list.extend by a tuple -/
namespace XI
open PySem PySem.Spec PyProof.Rows L2
theorem list_extend_tup (l : Addr) (items : Array Value) (n : Nat) (b : Addr) (items2 : Array Value) (n2 : Nat) (o : Obj) (hc : o.cls = .type "tuple") (hd : o.data = .seq items2 n2) (hs0 : ¬(!items.isEmpty && Builtin.List.listTooLong (items.size + items2.size)) = true) (hs1 : items.size ≤ sizeLine) (hs2 : items.size + items2.size ≤ sizeLine + 1) :
    Meets (Builtin.«list.extend» ⟨[.ref l, .ref b], []⟩) (fun _ R s => s.heap.get? l = some { cls := .type "list", dict := none, data := .seq items n, slots := #[] } ∧ s.heap.get? b = some o ∧ R (.ok (.ret Value.none)) { s with heap := s.heap.update l (Obj.mapSeq fun x => x ++ items2), toks := s.toks }) := by
  obtain ⟨c1, d1, t1, s1⟩ := o
  cases hc
  cases hd
  exact .of_wp fun prog w A R s h => by
    obtain ⟨hp, g, d, tk, os⟩ := s; obtain ⟨hl, hb, h⟩ := h; have f1 := AutoSeq1.idx_int; have f2 := AutoSeq1.sub_tuple_tuple; have f3 := AutoSeq1.sub_list_list; have f4 := AutoSeq1.sub_tuple_list; have f5 := AutoSeq1.sub_list_tuple;
    have hz' : (items ++ items2).size ≤ sizeLine + 1 := by rw [Array.size_append]; exact hs2
    wp_walk using (wpAny_updateSeq hl rfl (hz := hs1) (_hz' := hz')), AutoSeq1.wpAny_loadPart' hl, AutoSeq1.wpAny_loadPart' hb; exact ⟨_, rfl, h⟩
variable {X : Cx}
def rExtendT (K : PySem.W.Frag) : V → List V → Hp → VK → Prop := fun x vs H Q => ∃ l b xs zs, x = .ref l ∧ vs = [.ref b] ∧ H l = some (.lst xs) ∧ SqT K H b zs ∧ xs.length + zs.length ≤ sizeLine ∧ Q .non (upd H l (.lst (xs ++ zs)))
theorem mt_extendT : MtM X "list.extend" (rExtendT X.K) := by
  intro pins s σ H x vs v us Q I rx rv h
  obtain ⟨l, b, xs, zs, rfl, rfl, hH, hB, hz, q⟩ := h
  cases rx
  obtain ⟨u, rfl, ru⟩ := rv.one
  cases ru
  obtain ⟨z, its, n, r, hl, e⟩ := I.lstM hH
  obtain ⟨its2, r2, ⟨o, e2, hc, n2, hd⟩, z2⟩ := I.tuple hB
  have hl2 := r2.length
  have hsz : its.toArray.size + its2.toArray.size ≤ sizeLine := by rw [List.size_toArray, List.size_toArray]; omega
  have hlong : ¬ (!its.toArray.isEmpty && Builtin.List.listTooLong (its.toArray.size + its2.toArray.size)) = true := by
    rw [notLongL hsz, Bool.and_false]
    exact Bool.false_ne_true
  refine call_meets F.slot_list_extend ⟨_, e, rfl⟩ F.entry_list_extend (F.args_list_extend_2 _ _)
    (list_extend_tup l its.toArray n b its2.toArray n2 o hc hd hlong (by rw [List.size_toArray]; omega) (by omega)) ⟨e, e2, ?_⟩
  refine ⟨.non, _, I.lset (its' := its ++ its2) hH e (by simp) (r.append r2) ?_, rfl, q⟩
  rw [List.length_append]
  omega
end XI

set_option Elab.async false
set_option linter.all false
set_option maxRecDepth 100000
set_option maxHeartbeats 4000000
/-! dict.update by a list of pairs -/
namespace XI
open PySem PySem.Spec PyProof.Rows L2
variable {X : Cx}
theorem pairs_two {pins : List (Addr × Obj)} {σ : L2.St} {H : Hp} {s : Shared} (I : L2.Inv X pins σ H s) : ∀ {ps : List Addr} {kvs : List (Key × V)}, Paired (fun p kv => SqT X.K H p [kV kv.1, kv.2]) ps kvs →
    ∃ (prs : List (Key × Value)) (pvs : List (Value × Value)), KV kvs prs ∧ prs.length = ps.length ∧ pvs.length = ps.length ∧ ∀ (j : Nat) (k v : Value), pvs[j]? = some (k, v) → ∃ (b : Addr) (q : Key), ps[j]? = some b ∧ IsTup s.heap b #[k, v] ∧ prs[j]? = some (q, v) ∧ (mixKind X.prog X.w).is q k = true
  | _, _, .nil => ⟨[], [], .nil, rfl, rfl, fun j k v e => by simp at e⟩
  | _, _, .cons (a := p) (b := kv) h t => by
    obtain ⟨prs, pvs, r, l1, l2, hp⟩ := pairs_two I t
    obtain ⟨its, rv, ht, _⟩ := I.tuple h
    obtain ⟨u, y, ei, ru, ry⟩ := vals2 rv
    subst ei
    refine ⟨(kv.1, y) :: prs, (u, y) :: pvs, .cons ⟨rfl, ry⟩ r, by simp [l1], by simp [l2], fun j k v e => ?_⟩
    cases j with
    | zero => cases e; exact ⟨p, kv.1, rfl, ht, rfl, kV_is (P := X.prog) (w := X.w) ru⟩
    | succ j => simpa using hp j k v (by simpa using e)
def rUpdP (K : PySem.W.Frag) : V → List V → Hp → VK → Prop := fun x vs H Q => ∃ (d a : Addr) (ps : List Addr) (kvs kws : List (Key × V)), x = .ref d ∧ vs = [.ref a] ∧ H d = some (.dK kvs) ∧ SqL K H a (ps.map V.ref) ∧
  Paired (fun p kv => SqT K H p [kV kv.1, kv.2]) ps kws ∧ kvs.length + kws.length ≤ 4000 ∧ Q .non (upd H d (.dK (mergeK kvs kws)))
theorem mt_updP (hcalm : X.calm = true) : MtR X "dict.update" (rUpdP X.K) := by
  intro pins s σ H x xs v us Q I rx rxs h
  obtain ⟨d, a, ps, kvs, kws, rfl, rfl, e, hq, hp, hz, q⟩ := h
  cases rx
  obtain ⟨u, rfl, ru⟩ := rxs.one
  cases ru
  obtain ⟨its, rv, pl, hl⟩ := I.list hq
  have ei := refs_at rv
  subst ei
  obtain ⟨prs, pvs, rel, l1, l2, hpr⟩ := pairs_two I hp
  obtain ⟨z, hdm, vs0, r0, dd⟩ := dk_of I.hok e
  obtain ⟨o, n, ho, hc, hd, hdat⟩ := pl
  obtain ⟨od, hod, hdc⟩ := dd.typeIs
  have lk : kws.length = ps.length := by rw [rel.length, l1]
  have l0 : kvs.length = vs0.length := r0.length
  have items : ∀ (j : Nat) (k v : Value), pvs[j]? = some (k, v) → (ps.map Value.ref).toArray[j]? = some (.ref (ps.getD j 0)) ∧ PairAt s.heap (ps.getD j 0) k v := fun j k v ej => by
    obtain ⟨b, q, e1, e2, _⟩ := hpr j k v ej
    have eb : ps.getD j 0 = b := by rw [List.getD_eq_getElem?_getD, e1]; rfl
    rw [eb]
    exact ⟨by simp [e1], .inl e2⟩
  refine call_update_pairs (knd := mixKind X.prog X.w) (kvs := prs) (PairArg.list (prog := X.prog) (w := X.w) a (ps.map Value.ref).toArray (fun j => ps.getD j 0) pvs) (I.ok.hd hcalm) ⟨⟨o, n, ho, hc, hd, hdat⟩, by simp [l2], items⟩ ?_ ⟨by rw [l1, l2], fun i key v er => ?_⟩ dd (by rw [l2, ← lk, ← l0, sizeLine_eq]; omega) fun h' tk hd' hk => ?_
  · intro hm
    rcases List.mem_cons.mp hm with w | w
    · rw [w] at hod
      rw [ho] at hod; cases hod
      rw [hc] at hdc; exact absurd hdc (by decide)
    · obtain ⟨j, hj, w⟩ := List.mem_map.mp w
      have hj := List.mem_range.mp hj
      obtain ⟨b, q, e1, ⟨ot, g1, g2, _⟩, _⟩ := hpr j _ _ (List.getElem?_eq_getElem hj)
      have eb : ps.getD j 0 = b := by rw [List.getD_eq_getElem?_getD, e1]; rfl
      rw [← w, eb, g1] at hod; cases hod
      rw [g2] at hdc; exact absurd hdc (by decide)
  · obtain ⟨b, q, e1, e2, e3, e4⟩ := hpr i key v er
    exact ⟨q, e3, e4⟩
  · obtain ⟨o2, h2, _⟩ := hd'.typeIs (s := { s with heap := h', toks := tk })
    have new : ObjOk X.prog X.w (upd H d (.dK (mergeK kvs kws))) h' d (.dK (mergeK kvs kws)) := dk_new (by
      have := length_mergeK kws kvs
      rw [sizeLine_eq]; omega) hdm (rel.merge r0) hd'
    exact ⟨.non, _, I.write (x := d) (e := d) (t' := tk) (by rw [e]; exact True.intro) (.inl rfl) (fun b u hb q => hk b u hb (by simp) q) ⟨_, h2⟩ new, rfl, q⟩
end XI

set_option Elab.async false
set_option linter.all false
set_option maxRecDepth 100000
set_option maxHeartbeats 6400000
/-! sorted(set(xs)), xs a list of ints -/
namespace XI
open PySem PySem.Spec PyProof.Rows L2
/-- an empty set, as set(..) lays it -/
abbrev eSet (w : World) : Obj := ⟨.type "set", none, .set #[] 0 (.fresh 0 0 (!w.params.followText "set-order")), #[]⟩
section
variable {P : Program} {w : World} {A : Around} {E : Value → Shared → Prop} {s : Shared}
theorem set_of_list {lx : Addr} {vs : Array Value} (ks : List Int) {Q : Value → Shared → Prop} (hh : A.handled = none) (hl : s.heap.IsList lx vs) (hv : IntsAre vs.toList ks) (hb : ks.length + 1 < scanBound)
    (fin : ∀ (h' : Heap) (tk c : Nat), SetR w h' s.heap.objs.size (fun j => decide (j ∈ ks)) c → c ≤ ks.length → (∀ b o, s.heap.get? b = some o → h'.get? b = some o) → Q (.ref s.heap.objs.size) { s with heap := h', toks := tk }) :
    wpAny (model P w) A (call (.type "set") [.ref lx]) Q E s := by
  have size_ks : vs.size = ks.length := by have q := hv.length; rwa [Array.length_toList] at q
  obtain ⟨cc, tt, hmro⟩ := F.called_set.mro
  have f1 := F.called_set.made; have f2 := F.called_set.sub; have f3 := F.called_set.notType; have f4 := F.called_set.canCreate; have f5 := F.typeCall_set_1 (.ref lx)
  refine wpAny_call (codeAny_of_tree (show wpAny _ _ (callAny (.type "set") _) _ _ _ from ?_))
  refine wpAny_pure ⟨Code.quiet_builtin _ (by decide +kernel), codeAny_builtin F.entry_type_call ?_⟩
  rw [Around.under_plain (weight_type_call_type "set" [.ref lx] []) rfl]
  repeat (any_goals (first | assumption | wp_step))
  refine codeAny_mono (code_set_led1 (.ref lx) (E := E) (Q₁ := fun ob z => ob = .ref s.heap.objs.size ∧ z = { s with heap := s.heap.push (eSet w) }) ⟨rfl, rfl⟩) fun res z hz => ?_
  match res, hz with
  | .error e, hz => exact hz
  | .ok (.ret ob), hz =>
    obtain ⟨rfl, rfl⟩ := hz
    have g0 : (s.heap.push (eSet w)).get? s.heap.objs.size = some (eSet w) := Heap.get?_push_size _ rfl
    have g1 : Shared.TypeIs { s with heap := s.heap.push (eSet w) } (.ref s.heap.objs.size) "set" := ⟨_, g0, rfl⟩
    have i1 := F.called_set.init.lookup; have i2 := F.called_set.init.bind (.ref s.heap.objs.size)
    repeat (any_goals (first | assumption | wp_step))
    refine codeAny_mono (codeAny_call_builtin (R := wants (fun r y => r = .none ∧ ∃ h' tk c, y = { s with heap := h', toks := tk } ∧ SetR w h' s.heap.objs.size (fun j => decide (j ∈ ks)) c ∧ c ≤ ks.length ∧
        (∀ b o, s.heap.get? b = some o → h'.get? b = some o)) E) F.called_set.init.plain F.entry_set_init (check_set_init_1 g1 ?_)) fun res2 y hy => ?_
    · obtain ⟨⟨lc, ld, ldt, ls⟩, ho, hc, nl, hd⟩ := hl
      simp only at hc hd
      subst hc; subst hd
      have ho2 : (s.heap.push (eSet w)).get? lx = some ⟨.type "list", ld, .seq vs nl, ls⟩ := Heap.get?_push_of_some _ ho
      have t1 := F.sub_list_set; have t2 := F.sub_list_frozenset; have t3 : (Value.type "list" == Value.type "dict") = false := by decide
      have pl : (s.heap.push (eSet w)).IsList lx vs := ⟨_, ho2, rfl, nl, rfl⟩
      unfold Builtin.«set.__init__» noKeywords Builtin.Frozenset.updateFrom
      generalize pe : pyIter = pz
      wp_walk
      subst pe
      refine wpAny_pyIter_list pl (wpAny_bind (wpAny_runValue ?_))
      have ll : lx < s.heap.objs.size := Heap.lt_size ho
      have sz1 : (s.heap.push (eSet w)).objs.size = s.heap.objs.size + 1 := Heap.size_push ..
      have n1 : lx ≠ (s.heap.push (eSet w)).objs.size := by rw [sz1]; exact Nat.ne_of_lt (Nat.lt_succ_of_lt ll)
      have n2 : s.heap.objs.size ∉ [(s.heap.push (eSet w)).objs.size, lx] := by
        rw [sz1]; intro z; rcases List.mem_cons.mp z with z | z
        · exact absurd z (Nat.ne_of_lt (Nat.lt_succ_self _))
        · exact absurd (List.mem_singleton.mp z) (Nat.ne_of_gt ll)
      have val : ∀ (i : Nat) (v : Value), vs[i]? = some v → ∃ k t, ks[i]? = some k ∧ v = .int k t := fun i v e => by
        have hi : i < ks.length := by have := (Array.getElem?_eq_some_iff.mp e).1; omega
        obtain ⟨t, z⟩ := PyProof.Rows.IntsAre.int_at hv i v (by rw [Array.getElem?_toList]; exact e)
        exact ⟨ks[i], t, List.getElem?_eq_getElem hi, by rw [z, List.getD_eq_getElem?_getD, List.getElem?_eq_getElem hi] <;> rfl⟩
      refine set_update_ints ((Walks.list (A := A.in1.in1.in1) (by simp [hh]) _ lx n1 vs).toS) s.heap.objs.size n2 ks size_ks hb val (vs.size - 0) 0 _ (by omega) (Nat.zero_le _) ⟨⟨_, Heap.get?_push_size _ rfl, rfl, rfl⟩, pl.push _⟩ ?start ?last
      case start => exact ⟨0, Nat.le_refl 0, setR_new_at (Heap.get?_push_of_some _ g0)⟩
      case last =>
        rintro ⟨h', gg, dd, tk', oo⟩ c' mv cl sr
        obtain rfl : gg = s.gens := mv.gens
        obtain rfl : dd = s.drawn := mv.drawn
        obtain rfl : oo = s.os := mv.os
        refine wpAny_pure (show wpAny _ _ (ret Value.none) _ _ _ from wpAny_pure ⟨rfl, h', tk', c', rfl, sr, by omega, fun b o e => ?_⟩)
        have hb0 := Heap.lt_size e
        refine mv.heap b o (fun z => ?_) (Heap.get?_push_of_some _ (Heap.get?_push_of_some _ e))
        rcases List.mem_cons.mp z with z | z
        · exact absurd z (Nat.ne_of_lt hb0)
        · rw [sz1] at z; exact absurd (List.mem_singleton.mp z) (Nat.ne_of_lt (Nat.lt_succ_of_lt hb0))
    · match res2, hy with
      | .error e, hy => exact hy
      | .ok (.ret r), hy =>
        obtain ⟨rfl, h', tk, c', rfl, sr, cl, kp⟩ := hy
        repeat (any_goals (first | assumption | wp_step))
        exact fin _ _ _ sr cl kp
end
end XI

set_option Elab.async false
set_option linter.all false
set_option maxRecDepth 100000
set_option maxHeartbeats 2000000
/-! The tree layer: values as trees (tuples and finished lists by content), changeable things by address. -/
namespace TL
open PySem PySem.Spec PyProof.Rows L2

def mput (M : Mm) (a : Addr) (o : PO) : Mm := fun b => if b = a then some o else M b
def mdel (M : Mm) (a : Addr) : Mm := fun b => if b = a then none else M b
@[simp] theorem mput_same {M : Mm} {a : Addr} {o : PO} : mput M a o a = some o := if_pos rfl
theorem mput_ne {M : Mm} {a b : Addr} {o : PO} (h : b ≠ a) : mput M a o b = M b := if_neg h
@[simp] theorem mput_mput {M : Mm} {a : Addr} {o u : PO} : mput (mput M a o) a u = mput M a u := by
  funext b; unfold mput; split <;> rfl

/-- the written part and what is known of it -/
structure Wd where
  P : Program
  w : World
  K : PySem.W.Frag
  mg : Str → Option Value
  base : Heap

/-- a state: what HandS tracks, what is told changeable, what is finished for good -/
structure Sta where
  H : Hp
  M : Mm
  F : Addr → Prop

/-- a sequence of the written part -/
def KSeq (K : PySem.W.Frag) (c : String) (a : Addr) (vs : List V) : Prop :=
  ∃ (o : Obj) (its : Array Value) (n : Nat), K.lookup a = some o ∧ o.cls = .type c ∧ (c = "list" → o.dict = none) ∧ o.data = .seq its n ∧ its.size ≤ sizeLine ∧ Vals vs its.toList

mutual
def Rep (W : Wd) (t : Sta) : D → V → Prop
  | .non, v => v = .non
  | .bl b, v => v = .bl b
  | .int i, v => v = .int i
  | .str s, v => v = .str s ∧ s.length ≤ sizeLine
  | .flt b, v => v = .flt b
  | .tup xs, v => ∃ a vs, v = .ref a ∧ ((t.F a ∧ Rd t.H a (.tup vs)) ∨ KSeq W.K "tuple" a vs) ∧ vs.length ≤ sizeLine ∧ Reps W t xs vs
  | .lst xs, v => ∃ a vs, v = .ref a ∧ (t.F a ∧ t.H a = some (.lst vs)) ∧ vs.length ≤ sizeLine ∧ Reps W t xs vs
  | .klst xs, v => ∃ a vs, v = .ref a ∧ ((t.F a ∧ Rd t.H a (.lst vs)) ∨ KSeq W.K "list" a vs) ∧ vs.length ≤ sizeLine ∧ Reps W t xs vs
  | .ref a, v => v = .ref a
  | .glb x, v => ∃ u, W.mg x = some u ∧ RelV v u
  | .exc C d, v => ∃ a Ca dd u, v = .ref a ∧ W.mg C = some (.ref Ca) ∧ (t.F a ∧ t.H a = some (XI.ExV (.ref Ca) (some dd) a)) ∧ (t.F dd ∧ t.H dd = some (.xd [(("value" : Str), u)])) ∧ Rep W t d u
def Reps (W : Wd) (t : Sta) : List D → List V → Prop
  | [], vs => vs = []
  | d :: ds, vs => ∃ v r, vs = v :: r ∧ Rep W t d v ∧ Reps W t ds r
end

/-- entries: the same keys, the values told -/
def RepKs {κ : Type} (W : Wd) (t : Sta) : List (κ × D) → List (κ × V) → Prop
  | [], vs => vs = []
  | (k, d) :: ds, vs => ∃ v r, vs = (k, v) :: r ∧ Rep W t d v ∧ RepKs W t ds r
def POk (W : Wd) (t : Sta) (a : Addr) : PO → Prop
  | .lst xs => ∃ vs, t.H a = some (.lst vs) ∧ vs.length ≤ sizeLine ∧ Reps W t xs vs
  | .dct kvs => ∃ vs, t.H a = some (.dK vs) ∧ vs.length ≤ sizeLine ∧ RepKs W t kvs vs
  | .ins c fs => ∃ C dx vs, t.H a = some (.ins C dx vs) ∧ W.mg c = some (.ref C) ∧ vs.length ≤ 1000 ∧ RepKs W t fs vs
  | .tab q => (∃ c, tabAt W.K q = some (c, a) ∧ LamX.TabB W.base W.mg c a) ∧ LamX.TabS t.H a ((q ++ ".<locals>.") ++ "<lambda>")
structure Good (W : Wd) (t : Sta) : Prop where
  at_ : ∀ a o, t.M a = some o → POk W t a o
  fr : ∀ a, t.F a → t.M a = none ∧ ∃ o, t.H a = some o
/-- what stood and is not told changeable stands; what is finished stays so -/
structure Ext (t t' : Sta) : Prop where
  keep : ∀ a o, t.H a = some o → t.M a = none → t'.H a = some o ∧ t'.M a = none
  grow : ∀ a, t.F a → t'.F a
  old : ∀ a o, t.H a = some o → t.M a = none → t'.F a → t.F a
/-- what is finished stands: as much as a reading leans on -/
def Fst (t t' : Sta) : Prop := ∀ a, t.F a → t'.F a ∧ ∀ o, t.H a = some o → t'.H a = some o

theorem Ext.refl {t : Sta} : Ext t t := ⟨fun _ _ h n => ⟨h, n⟩, fun _ h => h, fun _ _ _ _ h => h⟩
theorem Ext.trans {t t1 t2 : Sta} (a : Ext t t1) (b : Ext t1 t2) : Ext t t2 where
  keep := fun x o h n =>
    let ⟨h1, n1⟩ := a.keep x o h n
    b.keep x o h1 n1
  grow := fun x h => b.grow x (a.grow x h)
  old := fun x o h n f =>
    let ⟨h1, n1⟩ := a.keep x o h n
    a.old x o h n (b.old x o h1 n1 f)
theorem Fst.refl {t : Sta} : Fst t t := fun _ h => ⟨h, fun _ q => q⟩
theorem Fst.trans {t t1 t2 : Sta} (a : Fst t t1) (b : Fst t1 t2) : Fst t t2 := fun x h => ⟨(b x (a x h).1).1, fun o q => (b x (a x h).1).2 o ((a x h).2 o q)⟩

section
variable {W : Wd} {t t' : Sta}
theorem Ext.fst (g : Good W t) (e : Ext t t') : Fst t t' := fun a h => ⟨e.grow a h, fun o q => (e.keep a o q (g.fr a h).1).1⟩
theorem Rd.ext {a : Addr} {u : HO} (e : Fst t t') (n : t.F a) (h : Rd t.H a u) : t'.F a ∧ Rd t'.H a u := by
  refine ⟨(e a n).1, ?_⟩
  rcases h with h | ⟨o, h⟩
  · exact .inl ((e a n).2 _ h)
  · exact .inr ⟨o, (e a n).2 _ h⟩
mutual
theorem Rep.ext (e : Fst t t') : ∀ {d : D} {v : V}, Rep W t d v → Rep W t' d v
  | .non, _, h => h
  | .bl _, _, h => h
  | .int _, _, h => h
  | .str _, _, h => h
  | .flt _, _, h => h
  | .tup xs, v, h => by
    simp only [Rep] at h ⊢
    obtain ⟨a, vs, rfl, hs, hl, hr⟩ := h
    exact ⟨a, vs, rfl, hs.imp (fun q => Rd.ext e q.1 q.2) id, hl, Reps.ext e hr⟩
  | .lst xs, v, h => by
    simp only [Rep] at h ⊢
    obtain ⟨a, vs, rfl, hs, hl, hr⟩ := h
    exact ⟨a, vs, rfl, ⟨(e a hs.1).1, (e a hs.1).2 _ hs.2⟩, hl, Reps.ext e hr⟩
  | .klst xs, v, h => by
    simp only [Rep] at h ⊢
    obtain ⟨a, vs, rfl, hs, hl, hr⟩ := h
    exact ⟨a, vs, rfl, hs.imp (fun q => Rd.ext e q.1 q.2) id, hl, Reps.ext e hr⟩
  | .ref _, _, h => h
  | .glb _, _, h => h
  | .exc C d, v, h => by
    simp only [Rep] at h ⊢
    obtain ⟨a, Ca, dd, u, h1, h2, h3, h4, h5⟩ := h
    exact ⟨a, Ca, dd, u, h1, h2, ⟨(e a h3.1).1, (e a h3.1).2 _ h3.2⟩, ⟨(e dd h4.1).1, (e dd h4.1).2 _ h4.2⟩, Rep.ext e h5⟩
theorem Reps.ext (e : Fst t t') : ∀ {ds : List D} {vs : List V}, Reps W t ds vs → Reps W t' ds vs
  | [], _, h => h
  | d :: ds, vs, h => by
    simp only [Reps] at h ⊢
    obtain ⟨v, r, rfl, h1, h2⟩ := h
    exact ⟨v, r, rfl, Rep.ext e h1, Reps.ext e h2⟩
end
theorem RepKs.ext {κ : Type} (e : Fst t t') : ∀ {ds : List (κ × D)} {vs : List (κ × V)}, RepKs W t ds vs → RepKs W t' ds vs
  | [], _, h => h
  | (k, d) :: ds, vs, h => by
    obtain ⟨v, r, rfl, h1, h2⟩ := h
    exact ⟨v, r, rfl, h1.ext e, RepKs.ext e h2⟩
/-- code objects stay -/
def Cst (t t' : Sta) : Prop := ∀ c q, t.H c = some (LamX.CodeO c q) → t'.H c = some (LamX.CodeO c q)
theorem POk.ext {a : Addr} {o : PO} (e : Fst t t') (cs : Cst t t') (h : POk W t a o) (k : ∀ u, t.H a = some u → t'.H a = some u) : POk W t' a o := by
  cases o with
  | lst xs => obtain ⟨vs, h1, h2, h3⟩ := h; exact ⟨vs, k _ h1, h2, h3.ext e⟩
  | dct xs => obtain ⟨vs, h1, h2, h3⟩ := h; exact ⟨vs, k _ h1, h2, h3.ext e⟩
  | ins c fs => obtain ⟨C, dx, vs, h1, h2, h3, h4⟩ := h; exact ⟨C, dx, vs, k _ h1, h2, h3, h4.ext e⟩
  | tab q =>
    obtain ⟨h0, ps, h1, h2, h3⟩ := h
    refine ⟨h0, ps, k _ h1, h2, fun pos cv hc => ?_⟩
    obtain ⟨c, e1, e2⟩ := h3 pos cv hc
    exact ⟨c, e1, cs c _ e2⟩
theorem POk.there {a : Addr} {o : PO} (h : POk W t a o) : ∃ u, t.H a = some u := by
  cases o with
  | lst xs => obtain ⟨vs, h1, _⟩ := h; exact ⟨_, h1⟩
  | dct xs => obtain ⟨vs, h1, _⟩ := h; exact ⟨_, h1⟩
  | ins c fs => obtain ⟨C, dx, vs, h1, _⟩ := h; exact ⟨_, h1⟩
  | tab q => obtain ⟨_, ps, h1, _⟩ := h; exact ⟨_, h1⟩
theorem POk.noCode {a : Addr} {o : PO} (h : POk W t a o) : ∀ c q, t.H a ≠ some (LamX.CodeO c q) := fun c q z => by
  cases o with
  | lst xs => obtain ⟨vs, h1, _⟩ := h; rw [h1] at z; cases z
  | dct xs => obtain ⟨vs, h1, _⟩ := h; rw [h1] at z; cases z
  | ins c fs => obtain ⟨C, dx, vs, h1, _⟩ := h; rw [h1] at z; cases z
  | tab q => obtain ⟨_, ps, h1, _⟩ := h; rw [h1] at z; cases z
theorem Good.fresh {a : Addr} (g : Good W t) (n : t.H a = none) : t.M a = none := by
  cases e : t.M a with
  | none => rfl
  | some o =>
    obtain ⟨u, q⟩ := (g.at_ a o e).there
    rw [n] at q; cases q
theorem Good.notF {a : Addr} (g : Good W t) (n : t.H a = none) : ¬ t.F a := fun f => by
  obtain ⟨_, o, q⟩ := g.fr a f
  rw [n] at q; cases q

/-! changes of the state -/
/-- a new thing, finished -/
abbrev Sta.add (t : Sta) (a : Addr) (o : HO) : Sta := ⟨upd t.H a o, t.M, fun b => b = a ∨ t.F b⟩
/-- a new thing, of which nothing is told yet -/
abbrev Sta.hid (t : Sta) (a : Addr) (o : HO) : Sta := ⟨upd t.H a o, t.M, t.F⟩
/-- a new thing, changeable; or such a thing changed -/
abbrev Sta.put (t : Sta) (a : Addr) (o : HO) (p : PO) : Sta := ⟨upd t.H a o, mput t.M a p, t.F⟩
/-- forgotten -/
abbrev Sta.less (t : Sta) (M : Mm) : Sta := ⟨t.H, M, t.F⟩
theorem ne_new {H : Hp} {a b : Addr} {u : HO} (n : H a = none) (h : H b = some u) : b ≠ a := fun z => by rw [z, n] at h; cases h
theorem Fst.new {a : Addr} {o : HO} {M : Mm} {F : Addr → Prop} (n : t.H a = none) (hF : ∀ b, t.F b → F b) : Fst t ⟨upd t.H a o, M, F⟩ := fun b f => ⟨hF b f, fun u h => by
  show upd t.H a o b = some u
  rw [upd_ne (ne_new n h)]; exact h⟩
theorem Cst.new {a : Addr} {o : HO} {M : Mm} {F : Addr → Prop} (n : t.H a = none) : Cst t ⟨upd t.H a o, M, F⟩ := fun c q h => by
  show upd t.H a o c = _
  rw [upd_ne (ne_new n h)]; exact h
theorem Ext.add {a : Addr} {o : HO} (n : t.H a = none) : Ext t (t.add a o) where
  keep := fun b u h m => ⟨by show upd t.H a o b = some u; rw [upd_ne (ne_new n h)]; exact h, m⟩
  grow := fun b f => .inr f
  old := fun b u h m f => f.elim (fun e => absurd e (ne_new n h)) id
theorem Good.add {a : Addr} {o : HO} (g : Good W t) (n : t.H a = none) : Good W (t.add a o) where
  at_ := fun b p h => (g.at_ b p h).ext (Fst.new n fun _ f => .inr f) (Cst.new n) fun u q => by show upd t.H a o b = some u; rw [upd_ne (ne_new n q)]; exact q
  fr := fun b f => by
    rcases f with rfl | f
    · exact ⟨g.fresh n, o, upd_same⟩
    · obtain ⟨h1, u, h2⟩ := g.fr b f
      exact ⟨h1, u, by show upd t.H a o b = some u; rw [upd_ne (ne_new n h2)]; exact h2⟩
theorem Ext.hid {a : Addr} {o : HO} (n : t.H a = none) : Ext t (t.hid a o) where
  keep := fun b u h m => ⟨by show upd t.H a o b = some u; rw [upd_ne (ne_new n h)]; exact h, m⟩
  grow := fun b f => f
  old := fun b u h m f => f
theorem Good.hid {a : Addr} {o : HO} (g : Good W t) (n : t.H a = none) : Good W (t.hid a o) where
  at_ := fun b p h => (g.at_ b p h).ext (Fst.new n fun _ f => f) (Cst.new n) fun u q => by show upd t.H a o b = some u; rw [upd_ne (ne_new n q)]; exact q
  fr := fun b f => by
    obtain ⟨h1, u, h2⟩ := g.fr b f
    exact ⟨h1, u, by show upd t.H a o b = some u; rw [upd_ne (ne_new n h2)]; exact h2⟩
theorem Ext.newM {a : Addr} {o : HO} {p : PO} (n : t.H a = none) : Ext t (t.put a o p) where
  keep := fun b u h m => ⟨by show upd t.H a o b = some u; rw [upd_ne (ne_new n h)]; exact h, by show mput t.M a p b = none; rw [mput_ne (ne_new n h)]; exact m⟩
  grow := fun b f => f
  old := fun b u h m f => f
theorem Fst.put {a : Addr} {o : HO} {p : PO} (nf : ¬ t.F a) : Fst t (t.put a o p) := fun b f => ⟨f, fun u h => by
  show upd t.H a o b = some u
  rw [upd_ne (show b ≠ a from fun z => nf (by rw [← z]; exact f))]; exact h⟩
theorem Cst.put {a : Addr} {o : HO} {p : PO} (nc : ∀ c q, t.H a ≠ some (LamX.CodeO c q)) : Cst t (t.put a o p) := fun c q h => by
  show upd t.H a o c = _
  rw [upd_ne (fun z => nc c q (by rw [← z]; exact h))]; exact h
theorem Good.put_ {a : Addr} {o : HO} {p : PO} (g : Good W t) (nf : ¬ t.F a) (nc : ∀ c q, t.H a ≠ some (LamX.CodeO c q)) (ok : POk W (t.put a o p) a p) : Good W (t.put a o p) where
  at_ := fun b q h => by
    by_cases e : b = a
    · subst e
      have h' : mput t.M b p b = some q := h
      rw [mput_same] at h'; cases h'; exact ok
    · have h' : mput t.M a p b = some q := h
      rw [mput_ne e] at h'
      exact (g.at_ b q h').ext (Fst.put nf) (Cst.put nc) fun u r => by show upd t.H a o b = some u; rw [upd_ne e]; exact r
  fr := fun b f => by
    obtain ⟨h1, u, h2⟩ := g.fr b f
    have e : b ≠ a := fun z => nf (by rw [← z]; exact f)
    exact ⟨by show mput t.M a p b = none; rw [mput_ne e]; exact h1, u, by show upd t.H a o b = some u; rw [upd_ne e]; exact h2⟩
theorem Good.newM {a : Addr} {o : HO} {p : PO} (g : Good W t) (n : t.H a = none) (ok : POk W (t.put a o p) a p) : Good W (t.put a o p) := g.put_ (g.notF n) (fun c q z => by rw [n] at z; cases z) ok
theorem Good.nfM {a : Addr} {p : PO} (g : Good W t) (h : t.M a = some p) : ¬ t.F a := fun f => by
  rw [(g.fr a f).1] at h; cases h
theorem Ext.put {a : Addr} {o : HO} {p0 p : PO} (h0 : t.M a = some p0) : Ext t (t.put a o p) where
  keep := fun b u h m => by
    have ne : b ≠ a := fun z => by rw [z, h0] at m; cases m
    exact ⟨by show upd t.H a o b = some u; rw [upd_ne ne]; exact h, by show mput t.M a p b = none; rw [mput_ne ne]; exact m⟩
  grow := fun b f => f
  old := fun b u h m f => f
theorem Good.put {a : Addr} {o : HO} {p0 p : PO} (g : Good W t) (h0 : t.M a = some p0) (ok : POk W (t.put a o p) a p) : Good W (t.put a o p) := g.put_ (g.nfM h0) (g.at_ a p0 h0).noCode ok
/-- forgetting -/
theorem Ext.less {M1 : Mm} (s : ∀ a o, M1 a = some o → t.M a = some o) : Ext t (t.less M1) where
  keep := fun a o h n => by
    refine ⟨h, ?_⟩
    cases e : M1 a with
    | none => exact e
    | some q => rw [s a q e] at n; cases n
  grow := fun a f => f
  old := fun a o h m f => f
theorem Good.less {M1 : Mm} (g : Good W t) (s : ∀ a o, M1 a = some o → t.M a = some o) : Good W (t.less M1) where
  at_ := fun a o e => POk.ext (t := t) (t' := t.less M1) (fun _ f => ⟨f, fun _ h => h⟩) (fun _ _ h => h) (g.at_ a o (s a o e)) fun _ q => q
  fr := fun a f => by
    obtain ⟨h1, h2⟩ := g.fr a f
    refine ⟨?_, h2⟩
    cases e : M1 a with
    | none => exact e
    | some q => rw [s a q e] at h1; cases h1
/-- a changeable list is finished -/
abbrev Sta.fin (t : Sta) (a : Addr) : Sta := ⟨t.H, mdel t.M a, fun b => b = a ∨ t.F b⟩
theorem mdel_sub {M : Mm} {a : Addr} : ∀ b o, mdel M a b = some o → M b = some o := fun b o h => by
  unfold mdel at h
  split at h
  · cases h
  · exact h
theorem Ext.fin {a : Addr} {p : PO} (h0 : t.M a = some p) : Ext t (t.fin a) where
  keep := fun b o h n => ⟨h, by
    cases e : mdel t.M a b with
    | none => exact e
    | some q => rw [mdel_sub b q e] at n; cases n⟩
  grow := fun b f => .inr f
  old := fun b o h m f => f.elim (fun e => by subst e; rw [h0] at m; cases m) id
theorem Good.fin {a : Addr} {p : PO} (g : Good W t) (h0 : t.M a = some p) : Good W (t.fin a) where
  at_ := fun b o e => POk.ext (t := t) (t' := t.fin a) (fun _ f => ⟨.inr f, fun _ h => h⟩) (fun _ _ h => h) (g.at_ b o (mdel_sub b o e)) fun _ q => q
  fr := fun b f => by
    rcases f with rfl | f
    · exact ⟨if_pos rfl, (g.at_ b p h0).there⟩
    · obtain ⟨h1, h2⟩ := g.fr b f
      refine ⟨?_, h2⟩
      cases e : mdel t.M a b with
      | none => exact e
      | some q => rw [mdel_sub b q e] at h1; cases h1

theorem Reps.length : ∀ {ds : List D} {vs : List V}, Reps W t ds vs → vs.length = ds.length
  | [], _, h => by simp only [Reps] at h; subst h; rfl
  | d :: ds, vs, h => by
    simp only [Reps] at h
    obtain ⟨v, r, rfl, h1, h2⟩ := h
    rw [List.length_cons, List.length_cons, Reps.length h2]
theorem Reps.get : ∀ {ds : List D} {vs : List V} {i : Nat} {d : D}, Reps W t ds vs → ds[i]? = some d → ∃ v, vs[i]? = some v ∧ Rep W t d v
  | [], _, _, _, _, e => by simp at e
  | x :: ds, vs, i, d, h, e => by
    simp only [Reps] at h
    obtain ⟨v, r, rfl, h1, h2⟩ := h
    cases i with
    | zero => simp at e; subst e; exact ⟨v, rfl, h1⟩
    | succ i => simpa using Reps.get h2 (by simpa using e)
theorem Reps.get' : ∀ {ds : List D} {vs : List V} {i : Nat} {v : V}, Reps W t ds vs → vs[i]? = some v → ∃ d, ds[i]? = some d ∧ Rep W t d v
  | [], _, _, _, h, e => by simp only [Reps] at h; subst h; simp at e
  | x :: ds, vs, i, v, h, e => by
    simp only [Reps] at h
    obtain ⟨y, r, rfl, h1, h2⟩ := h
    cases i with
    | zero => simp at e; subst e; exact ⟨x, rfl, h1⟩
    | succ i => simpa using Reps.get' h2 (by simpa using e)
theorem Reps.append : ∀ {ds es : List D} {vs us : List V}, Reps W t ds vs → Reps W t es us → Reps W t (ds ++ es) (vs ++ us)
  | [], _, _, _, h, g => by simp only [Reps] at h; subst h; exact g
  | d :: ds, es, vs, us, h, g => by
    simp only [Reps] at h
    obtain ⟨v, r, rfl, h1, h2⟩ := h
    simp only [List.cons_append, Reps]
    exact ⟨v, r ++ us, rfl, h1, Reps.append h2 g⟩
theorem Reps.one {d : D} {v : V} (h : Rep W t d v) : Reps W t [d] [v] := by
  simp only [Reps]; exact ⟨v, [], rfl, h, rfl⟩
theorem Reps.nil : Reps W t [] [] := by simp only [Reps]
theorem Reps.cons {d : D} {v : V} {ds : List D} {vs : List V} (h : Rep W t d v) (k : Reps W t ds vs) : Reps W t (d :: ds) (v :: vs) := by
  simp only [Reps]; exact ⟨v, vs, rfl, h, k⟩
theorem Reps.set {d : D} {v : V} (h : Rep W t d v) : ∀ {ds : List D} {vs : List V} (i : Nat), Reps W t ds vs → Reps W t (ds.set i d) (vs.set i v)
  | [], _, _, h => by simp only [Reps] at h; subst h; simp only [List.set_nil]; exact Reps.nil
  | x :: ds, vs, i, g => by
    simp only [Reps] at g
    obtain ⟨y, r, rfl, h1, h2⟩ := g
    cases i with
    | zero => exact Reps.cons h h2
    | succ i => exact Reps.cons h1 (Reps.set h i h2)
theorem Reps.take : ∀ {ds : List D} {vs : List V} (n : Nat), Reps W t ds vs → Reps W t (ds.take n) (vs.take n)
  | _, _, 0, _ => by simp only [List.take_zero]; exact Reps.nil
  | [], _, _ + 1, h => by simp only [Reps] at h; subst h; exact Reps.nil
  | x :: ds, vs, n + 1, g => by
    simp only [Reps] at g
    obtain ⟨y, r, rfl, h1, h2⟩ := g
    exact Reps.cons h1 (Reps.take n h2)
theorem Reps.drop : ∀ {ds : List D} {vs : List V} (n : Nat), Reps W t ds vs → Reps W t (ds.drop n) (vs.drop n)
  | _, _, 0, h => by simpa only [List.drop_zero] using h
  | [], _, _ + 1, h => by simp only [Reps] at h; subst h; exact Reps.nil
  | x :: ds, vs, n + 1, g => by
    simp only [Reps] at g
    obtain ⟨y, r, rfl, h1, h2⟩ := g
    exact Reps.drop n h2
theorem Reps.reverse {ds : List D} {vs : List V} (h : Reps W t ds vs) : Reps W t ds.reverse vs.reverse := by
  induction ds generalizing vs with
  | nil => simp only [Reps] at h; subst h; exact Reps.nil
  | cons d ds ih =>
    simp only [Reps] at h
    obtain ⟨v, r, rfl, h1, h2⟩ := h
    rw [List.reverse_cons, List.reverse_cons]
    exact (ih h2).append (Reps.one h1)
theorem Reps.eraseIdx : ∀ {ds : List D} {vs : List V} (i : Nat), Reps W t ds vs → Reps W t (ds.eraseIdx i) (vs.eraseIdx i)
  | [], _, i, h => by simp only [Reps] at h; subst h; simp only [List.eraseIdx_nil]; exact Reps.nil
  | x :: ds, vs, i, g => by
    simp only [Reps] at g
    obtain ⟨y, r, rfl, h1, h2⟩ := g
    cases i with
    | zero => exact h2
    | succ i => exact Reps.cons h1 (Reps.eraseIdx i h2)
theorem Reps.nil_inv {vs : List V} (h : Reps W t [] vs) : vs = [] := by simpa only [Reps] using h
theorem Reps.cons_inv {d : D} {ds : List D} {vs : List V} (h : Reps W t (d :: ds) vs) : ∃ v r, vs = v :: r ∧ Rep W t d v ∧ Reps W t ds r := by simpa only [Reps] using h

theorem RepKs.length {κ : Type} : ∀ {ds : List (κ × D)} {vs : List (κ × V)}, RepKs W t ds vs → vs.length = ds.length
  | [], vs, h => by
    have e : vs = [] := h
    rw [e]; rfl
  | (k, d) :: ds, vs, h => by
    obtain ⟨v, r, rfl, h1, h2⟩ := h
    rw [List.length_cons, List.length_cons, RepKs.length h2]

/-- a sequence at hand: as HandS reads it -/
theorem tupAt {xs : List D} {v : V} (h : Rep W t (.tup xs) v) : ∃ a vs, v = .ref a ∧ SqT W.K t.H a vs ∧ vs.length ≤ sizeLine ∧ Reps W t xs vs := by
  simp only [Rep] at h
  obtain ⟨a, vs, rfl, hs, hl, hr⟩ := h
  refine ⟨a, vs, rfl, ?_, hl, hr⟩
  rcases hs with ⟨_, q⟩ | ⟨o, its, n, h1, h2, _, h3, h4, h5⟩
  · exact .inl q
  · exact .inr ⟨o, its, n, h1, h2, h3, h4, h5⟩
theorem lstAt {xs : List D} {v : V} (h : Rep W t (.lst xs) v) : ∃ a vs, v = .ref a ∧ t.H a = some (.lst vs) ∧ vs.length ≤ sizeLine ∧ Reps W t xs vs := by
  simp only [Rep] at h
  obtain ⟨a, vs, rfl, hs, hl, hr⟩ := h
  exact ⟨a, vs, rfl, hs.2, hl, hr⟩
theorem klstAt {xs : List D} {v : V} (h : Rep W t (.klst xs) v) : ∃ a vs, v = .ref a ∧ SqL W.K t.H a vs ∧ vs.length ≤ sizeLine ∧ Reps W t xs vs := by
  simp only [Rep] at h
  obtain ⟨a, vs, rfl, hs, hl, hr⟩ := h
  refine ⟨a, vs, rfl, ?_, hl, hr⟩
  rcases hs with ⟨_, q⟩ | ⟨o, its, n, h1, h2, h6, h3, h4, h5⟩
  · exact .inl q
  · exact .inr ⟨o, its, n, h1, h2, h6 rfl, h3, h4, h5⟩
/-- the content of a list, finished or changeable -/
def catOf (M : Mm) : D → Option (List D)
  | .lst xs => some xs
  | .ref a => match M a with
    | some (.lst xs) => some xs
    | _ => none
  | _ => none
theorem catOf_at {d : D} {xs : List D} {v : V} (g : Good W t) (h : Rep W t d v) (e : catOf t.M d = some xs) : ∃ a vs, v = .ref a ∧ t.H a = some (.lst vs) ∧ vs.length ≤ sizeLine ∧ Reps W t xs vs := by
  cases d with
  | lst ys => cases e; exact lstAt h
  | ref a =>
    have hv : v = .ref a := by simpa only [Rep] using h
    subst hv
    have e' : (match t.M a with | some (.lst xs) => some xs | _ => none) = some xs := e
    split at e'
    · rename_i q
      cases e'
      obtain ⟨vs, h1, h2, h3⟩ := g.at_ a _ q
      exact ⟨a, vs, rfl, h1, h2, h3⟩
    · cases e'
  | _ => cases e
/-- .. or of a known one -/
def lstOf (M : Mm) : D → Option (List D)
  | .klst xs => some xs
  | d => catOf M d
theorem lstOf_at {d : D} {xs : List D} {v : V} (g : Good W t) (h : Rep W t d v) (e : lstOf t.M d = some xs) : ∃ a vs, v = .ref a ∧ SqL W.K t.H a vs ∧ vs.length ≤ sizeLine ∧ Reps W t xs vs := by
  cases d with
  | klst ys => cases e; exact klstAt h
  | lst ys => obtain ⟨a, vs, h1, h2, h3⟩ := catOf_at g h e; exact ⟨a, vs, h1, .of h2, h3⟩
  | ref a => obtain ⟨a, vs, h1, h2, h3⟩ := catOf_at g h e; exact ⟨a, vs, h1, .of h2, h3⟩
  | _ => cases e
/-- .. or of a tuple -/
def seqOf (M : Mm) : D → Option (List D)
  | .tup xs => some xs
  | d => lstOf M d
theorem seqOf_at {d : D} {xs : List D} {v : V} (g : Good W t) (h : Rep W t d v) (e : seqOf t.M d = some xs) : ∃ a vs, v = .ref a ∧ (SqL W.K t.H a vs ∨ SqT W.K t.H a vs) ∧ vs.length ≤ sizeLine ∧ Reps W t xs vs := by
  cases d with
  | tup ys => cases e; obtain ⟨a, vs, h1, h2, h3⟩ := tupAt h; exact ⟨a, vs, h1, .inr h2, h3⟩
  | lst ys => obtain ⟨a, vs, h1, h2, h3⟩ := lstOf_at g h e; exact ⟨a, vs, h1, .inl h2, h3⟩
  | klst ys => obtain ⟨a, vs, h1, h2, h3⟩ := lstOf_at g h e; exact ⟨a, vs, h1, .inl h2, h3⟩
  | ref a => obtain ⟨a, vs, h1, h2, h3⟩ := lstOf_at g h e; exact ⟨a, vs, h1, .inl h2, h3⟩
  | _ => cases e
/-- a new tuple, a new finished list -/
theorem Rep.newTup {xs : List D} {vs : List V} {p : Addr} (n : t.H p = none) (hl : vs.length ≤ sizeLine) (r : Reps W t xs vs) : Rep W (t.add p (.tup vs)) (.tup xs) (.ref p) := by
  simp only [Rep]
  exact ⟨p, vs, rfl, .inl ⟨.inl rfl, .inl upd_same⟩, hl, r.ext (Fst.new n fun _ f => .inr f)⟩
theorem Rep.newLst {xs : List D} {vs : List V} {p : Addr} (n : t.H p = none) (hl : vs.length ≤ sizeLine) (r : Reps W t xs vs) : Rep W (t.add p (.lst vs)) (.lst xs) (.ref p) := by
  simp only [Rep]
  exact ⟨p, vs, rfl, ⟨.inl rfl, upd_same⟩, hl, r.ext (Fst.new n fun _ f => .inr f)⟩
theorem POk.newLst {xs : List D} {vs : List V} {p : Addr} (n : t.H p = none) (hl : vs.length ≤ sizeLine) (r : Reps W t xs vs) : POk W (t.put p (.lst vs) (.lst xs)) p (.lst xs) :=
  ⟨vs, upd_same, hl, r.ext (Fst.new n fun _ f => f)⟩
theorem Rep.ref {a : Addr} : Rep W t (.ref a) (.ref a) := by simp only [Rep]
end
end TL

set_option Elab.async false
set_option linter.all false
set_option maxRecDepth 100000
set_option maxHeartbeats 2000000
/-! The small language of the tree layer and what each piece asks. -/
namespace TL
open PySem PySem.Spec PyProof.Rows L2

abbrev En := List (Option D)
structure Fin where
  nx : En → Mm → Prop
  rt : KD
  bk : En → Mm → Prop := fun _ _ => False
  ct : En → Mm → Prop := fun _ _ => False
  ex : En → XD := fun _ _ _ _ => False

/-! ### data -/
mutual
def D.py : D → PyData
  | .non => .none
  | .bl b => .bool b
  | .int i => .int i
  | .str s => .str s
  | .tup xs => .tuple (pys xs)
  | .lst xs => .list (pys xs)
  | .klst xs => .list (pys xs)
  | _ => .none
def pys : List D → List PyData
  | [] => []
  | x :: r => x.py :: pys r
end
mutual
/-- no address within, texts of plain signs -/
def D.plain : D → Bool
  | .non => true
  | .bl _ => true
  | .int _ => true
  | .str s => PyData.strOk s
  | .tup xs => plains xs
  | .lst xs => plains xs
  | .klst xs => plains xs
  | _ => false
def plains : List D → Bool
  | [] => true
  | x :: r => x.plain && plains r
end
mutual
def D.deep : D → Nat
  | .tup xs => deeps xs + 1
  | .lst xs => deeps xs + 1
  | .klst xs => deeps xs + 1
  | _ => 0
def deeps : List D → Nat
  | [] => 0
  | x :: r => max x.deep (deeps r)
end
mutual
/-- integers of at most 1900 bits -/
def D.smalls : D → Bool
  | .int i => decide (i.natAbs.log2 < 1900)
  | .tup xs => smallss xs
  | .lst xs => smallss xs
  | .klst xs => smallss xs
  | _ => true
def smallss : List D → Bool
  | [] => true
  | x :: r => x.smalls && smallss r
end
/-- plain data that is not too deep -/
def D.pok (d : D) : Bool := d.plain && decide (d.deep ≤ 60)
/-- a list that stands changeable, as it is now -/
def now (M : Mm) : D → D
  | .ref a => match M a with
    | some (.lst xs) => .lst xs
    | _ => .ref a
  | d => d
/-- an atom: None, a bool, an int, a text -/
def D.flat : D → Bool
  | .non => true | .bl _ => true | .int _ => true | .str _ => true
  | _ => false
def flatEq : D → D → Bool
  | .non, .non => true
  | .bl a, .bl b => a == b
  | .int i, .int j => i == j
  | .str a, .str b => a == b
  | .bl a, .int j => (if a then 1 else 0) == j
  | .int i, .bl b => i == (if b then 1 else 0)
  | _, _ => false

@[simp] def optK (o : Option D) (k : D → Prop) : Prop := match o with | some d => k d | none => False
@[simp] def someK {α : Type} (o : Option α) (k : α → Prop) : Prop := match o with | some x => k x | none => False
theorem someK_inv {α : Type} {o : Option α} {k : α → Prop} (h : someK o k) : ∃ x, o = some x ∧ k x := by
  cases o with
  | some x => exact ⟨x, rfl, h⟩
  | none => exact (show False from h).elim
theorem optK_inv {o : Option D} {k : D → Prop} (h : optK o k) : ∃ x, o = some x ∧ k x := by
  cases o with
  | some x => exact ⟨x, rfl, h⟩
  | none => exact (show False from h).elim

/-! ### operators -/
@[simp] def newL (fz : Bool) (xs : List D) (M : Mm) (Q : KD) : Prop := if fz = true then Q (.lst xs) M else ∀ p, M p = none → Q (.ref p) (mput M p (.lst xs))
@[simp] def D.asB (d : D) (k : Bool → Prop) : Prop := match d with | .bl b => k b | _ => False
@[simp] def D.asI (d : D) (k : Int → Prop) : Prop := match d with | .int i => k i | _ => False
@[simp] def opAdd (fz : Bool) (x y : D) (M : Mm) (Q : KD) : Prop :=
  match x, y with
  | .int i, .int j => Q (.int (i + j)) M
  | .str a, .str b => a.length + b.length ≤ sizeLine ∧ Q (.str (a ++ b)) M
  | .tup a, .tup b => a.length + b.length ≤ sizeLine ∧ Q (.tup (a ++ b)) M
  | x, y => match catOf M x, catOf M y with
    | some a, some b => a.length + b.length ≤ sizeLine ∧ newL fz (a ++ b) M Q
    | _, _ => False
/-- a product, a quotient, a power that the model reckons -/
@[simp] def opII (o : Operator) (i j : Int) (M : Mm) (Q : KD) : Prop :=
  match o with
  | .Sub => Q (.int (i - j)) M
  | .Mult => CMulW i j ∧ Q (.int (i * j)) M
  | .FloorDiv => CDivW i j ∧ Q (.int (i / j)) M
  | .Mod => 0 < j ∧ Q (.int (i % j)) M
  | .Pow => (0 ≤ j ∧ ((i.natAbs.log2 : Nat) + 1 : Int) * j ≤ 2 ^ 27) ∧ Q (.int (i ^ j.toNat)) M
  | .LShift => CPow i j ∧ Q (.int (i * 2 ^ j.toNat)) M
  | .RShift => 0 ≤ j ∧ Q (.int (i / 2 ^ j.toNat)) M
  | _ => False
@[simp] def opI (o : Operator) (x y : D) (M : Mm) (Q : KD) : Prop := x.asI fun i => y.asI fun j => opII o i j M Q
theorem D.asI_inv {d : D} {k : Int → Prop} (h : d.asI k) : ∃ i, d = .int i ∧ k i := by
  cases d with
  | int i => exact ⟨i, rfl, h⟩
  | _ => exact (show False from h).elim
theorem D.asB_inv {d : D} {k : Bool → Prop} (h : d.asB k) : ∃ i, d = .bl i ∧ k i := by
  cases d with
  | bl i => exact ⟨i, rfl, h⟩
  | _ => exact (show False from h).elim
@[simp] def binD (o : Operator) (fz : Bool) (x y : D) (M : Mm) (Q : KD) : Prop :=
  match o with
  | .Add => opAdd fz x y M Q
  | o => opI o x y M Q
def eqP (x y : D) (k : Bool → Prop) : Prop := x.pok = true ∧ y.pok = true ∧ k (PyData.eqv x.py y.py)
def eqK (M : Mm) (x y : D) (k : Bool → Prop) : Prop :=
  match x, y with
  | .int i, .int j => k (decide (i = j))
  | .str a, .str b => k (decide (a = b))
  | .bl a, .bl b => k (decide (a = b))
  | x, y => eqP (now M x) (now M y) k
/-! ### dicts -/
section
variable {κ : Type} [DecidableEq κ]
def kget (kvs : List (κ × D)) (k : κ) : Option D := (kvs.find? fun kv => decide (kv.1 = k)).map (·.2)
def kput (kvs : List (κ × D)) (k : κ) (v : D) : List (κ × D) :=
  if kvs.any (fun kv => decide (kv.1 = k)) then kvs.map fun kv => if kv.1 = k then (kv.1, v) else kv else kvs ++ [(k, v)]
def kdrop (kvs : List (κ × D)) (k : κ) : List (κ × D) := kvs.filter fun kv => decide (kv.1 ≠ k)
end
def keyOf : D → Option Key
  | .int i => some (.inl i)
  | .str s => some (.inr s)
  | _ => none
def keyD : Key → D
  | .inl i => .int i
  | .inr s => .str s
def dctOf (M : Mm) : D → Option (List (Key × D))
  | .ref p => match M p with
    | some (.dct kvs) => some kvs
    | _ => none
  | _ => none
def inK (M : Mm) (x y : D) (k : Bool → Prop) : Prop :=
  match x, y with
  | .str a, .str b => a.length = 1 ∧ k (decide (a.cps.getD 0 0 ∈ b.cps.toList))
  | x, y => match dctOf M y, keyOf x with
    | some kvs, some q => k (kget kvs q).isSome
    | some _, none => False
    | none, _ => match seqOf M y with
      | some xs => x.flat = true ∧ xs.all D.flat = true ∧ k (xs.any fun z => flatEq z x)
      | none => False
@[simp] def cmpK (o : CmpOp) (M : Mm) (x y : D) (k : Bool → Prop) : Prop :=
  match o with
  | .Eq => eqK M x y k
  | .NotEq => eqK M x y fun b => k (!b)
  | .Lt => x.asI fun i => y.asI fun j => k (decide (i < j))
  | .LtE => x.asI fun i => y.asI fun j => k (decide (i ≤ j))
  | .Gt => x.asI fun i => y.asI fun j => k (decide (j < i))
  | .GtE => x.asI fun i => y.asI fun j => k (decide (j ≤ i))
  | .Is => match x, y with
    | .non, .non => k true
    | .bl a, .bl b => k (a == b)
    | .glb _, _ => False
    | _, .non => k false
    | _, _ => False
  | .IsNot => match x, y with
    | .non, .non => k false
    | .bl a, .bl b => k (!(a == b))
    | .glb _, _ => False
    | _, .non => k true
    | _, _ => False
  | .In => inK M x y k
  | .NotIn => inK M x y fun b => k (!b)

/-! ### subscripts -/
def cutD (xs : List D) (lo hi : Option Int) : List D := (xs.drop (HT.sIx xs.length 0 lo)).take (HT.sIx xs.length xs.length hi - HT.sIx xs.length 0 lo)
def ixK (M : Mm) (x y : D) (k : D → Prop) : Prop :=
  match x, y with
  | .str z, .int i => match atI z.cps.toList i with
    | some c => k (.str ⟨#[c]⟩)
    | none => False
  | x, y => match dctOf M x, keyOf y with
    | some kvs, some q => optK (kget kvs q) k
    | some _, none => False
    | none, _ => match seqOf M x, y with
      | some xs, .int i => optK (atI xs i) k
      | _, _ => False
def slK (fz : Bool) (M : Mm) (x : D) (lo hi : Option Int) (Q : KD) : Prop :=
  match x with
  | .str z => Q (.str (cutS z lo hi)) M
  | .tup xs => Q (.tup (cutD xs lo hi)) M
  | x => match lstOf M x with
    | some xs => newL fz (cutD xs lo hi) M Q
    | none => False
/-- o[i] = d -/
def setK (M : Mm) (o i d : D) (k : Mm → Prop) : Prop :=
  match o with
  | .ref p => match M p with
    | some (.lst xs) => i.asI fun j => someK (ixN xs.length j) fun n => k (mput M p (.lst (xs.set n d)))
    | some (.dct kvs) => someK (keyOf i) fun q => kvs.length < sizeLine ∧ k (mput M p (.dct (kput kvs q d)))
    | _ => False
  | _ => False

/-! ### built-in functions, methods of built-in types -/
def intsOf : List D → Option (List Int)
  | [] => some []
  | .int i :: r => (intsOf r).map (i :: ·)
  | _ => none
def boolsOf : List D → Option (List Bool)
  | [] => some []
  | .bl i :: r => (boolsOf r).map (i :: ·)
  | _ => none
def strsOf : List D → Option (List Str)
  | [] => some []
  | .str i :: r => (strsOf r).map (i :: ·)
  | _ => none
def lstsOf (M : Mm) : List D → Option (List (List D))
  | [] => some []
  | x :: r => match catOf M x, lstsOf M r with
    | some a, some b => some (a :: b)
    | _, _ => none
def keysI : List (Key × D) → Option (List Int)
  | [] => some []
  | (.inl i, _) :: r => (keysI r).map (i :: ·)
  | _ => none
/-- sorted, by inserting -/
def insI (x : Int) : List Int → List Int
  | [] => [x]
  | y :: r => if x ≤ y then x :: y :: r else y :: insI x r
def sortI : List Int → List Int
  | [] => []
  | x :: r => insI x (sortI r)
def maxL (x : Int) : List Int → Int
  | [] => x
  | y :: r => maxL (if y > x then y else x) r
def minL (x : Int) : List Int → Int
  | [] => x
  | y :: r => minL (if y < x then y else x) r
/-- keys and values, as pairs tell them -/
def flatPairs : List D → Option (List (Key × D))
  | [] => some []
  | .tup [k, v] :: r => match keyOf k, flatPairs r with
    | some q, some kvs => some ((q, v) :: kvs)
    | _, _ => none
  | _ => none
def kmerge (kvs kws : List (Key × D)) : List (Key × D) := kws.foldl (fun a p => kput a p.1 p.2) kvs
inductive BI where
  | len | abs | int | str | tuple | list | sum | sum2 | all | any | max | min | max2 | min2 | sorted | repr | dict
  deriving DecidableEq
def BI.name : BI → Str
  | .len => "len" | .abs => "abs" | .int => "int" | .str => "str" | .tuple => "tuple" | .list => "list" | .sum => "sum" | .sum2 => "sum" | .all => "all" | .any => "any"
  | .max => "max" | .min => "min" | .max2 => "max" | .min2 => "min" | .sorted => "sorted" | .repr => "repr" | .dict => "dict"
@[simp] def arg1 (ds : List D) (k : D → Prop) : Prop := match ds with | [x] => k x | _ => False
@[simp] def arg2 (ds : List D) (k : D → D → Prop) : Prop := match ds with | [x, y] => k x y | _ => False
theorem arg1_inv {ds : List D} {k : D → Prop} (h : arg1 ds k) : ∃ x, ds = [x] ∧ k x := by
  match ds, h with
  | [x], h => exact ⟨x, rfl, h⟩
theorem arg2_inv {ds : List D} {k : D → D → Prop} (h : arg2 ds k) : ∃ x y, ds = [x, y] ∧ k x y := by
  match ds, h with
  | [x, y], h => exact ⟨x, y, rfl, h⟩
@[simp] def lenD (x : D) (M : Mm) (Q : KD) : Prop := match x with
  | .str s => Q (.int s.length) M
  | x => match dctOf M x with
    | some kvs => Q (.int kvs.length) M
    | none => someK (seqOf M x) fun xs => Q (.int xs.length) M
@[simp] def intD (x : D) (M : Mm) (Q : KD) : Prop := match x with
  | .int i => Q (.int i) M
  | .bl b => Q (.int (if b then 1 else 0)) M
  | .str s => s.length ≤ 640 ∧ someK (PySem.intText? s) fun n => Q (.int n) M
  | _ => False
def strD (x : D) (M : Mm) (Q : KD) : Prop := match x with
  | .int i => i.natAbs.log2 < 1900 ∧ Q (.str (toString i)) M
  | .str s => Q (.str s) M
  | _ => False
def sum2D (x y : D) (M : Mm) (Q : KD) : Prop := match y with
  | .lst [] => someK (lstOf M x) fun xs => someK (lstsOf M xs) fun ys => ys.flatten.length ≤ sizeLine ∧ Q (.lst ys.flatten) M
  | _ => False
@[simp] def oneInts (x : D) (M : Mm) (k : List Int → Prop) : Prop := someK (lstOf M x) fun xs => someK (intsOf xs) k
@[simp] def oneBools (x : D) (M : Mm) (k : List Bool → Prop) : Prop := someK (lstOf M x) fun xs => someK (boolsOf xs) k
@[simp] def neInts (ns : List Int) (k : Int → List Int → Prop) : Prop := match ns with | n :: r => k n r | [] => False
def sortedD (fz : Bool) (x : D) (M : Mm) (Q : KD) : Prop := match dctOf M x with
  | some kvs => someK (keysI kvs) fun ns => ns.length < 64 ∧ newL fz ((sortI ns).map .int) M Q
  | none => oneInts x M fun ns => newL fz ((sortI ns).map .int) M Q
def reprD (x : D) (M : Mm) (Q : KD) : Prop := (now M x).pok = true ∧ (now M x).smalls = true ∧ (now M x).py.shown.length ≤ sizeLine ∧ Q (.str (now M x).py.shown) M
/-- a dict of pairs: later ones win -/
def dictD (x : D) (M : Mm) (Q : KD) : Prop := someK (lstOf M x) fun xs => someK (flatPairs xs) fun kvs => kvs.length ≤ 4000 ∧ ∀ p, M p = none → Q (.ref p) (mput M p (.dct (kmerge [] kvs)))
@[simp] def biD (f : BI) (fz : Bool) (ds : List D) (M : Mm) (Q : KD) : Prop :=
  match f with
  | .len => arg1 ds fun x => lenD x M Q
  | .abs => arg1 ds fun x => x.asI fun i => Q (.int (if i < 0 then -i else i)) M
  | .int => arg1 ds fun x => intD x M Q
  | .str => arg1 ds fun x => strD x M Q
  | .tuple => arg1 ds fun x => someK (seqOf M x) fun xs => Q (.tup xs) M
  | .list => arg1 ds fun x => someK (seqOf M x) fun xs => newL fz xs M Q
  | .sum => arg1 ds fun x => oneInts x M fun ns => Q (.int ns.sum) M
  | .sum2 => arg2 ds fun x y => sum2D x y M Q
  | .all => arg1 ds fun x => oneBools x M fun bs => Q (.bl (bs.all id)) M
  | .any => arg1 ds fun x => oneBools x M fun bs => Q (.bl (bs.any id)) M
  | .max2 => arg2 ds fun x y => x.asI fun i => y.asI fun j => Q (.int (if j > i then j else i)) M
  | .min2 => arg2 ds fun x y => x.asI fun i => y.asI fun j => Q (.int (if j < i then j else i)) M
  | .max => arg1 ds fun x => oneInts x M fun ns => neInts ns fun n r => Q (.int (maxL n r)) M
  | .min => arg1 ds fun x => oneInts x M fun ns => neInts ns fun n r => Q (.int (minL n r)) M
  | .sorted => arg1 ds fun x => sortedD fz x M Q
  | .repr => arg1 ds fun x => reprD x M Q
  | .dict => arg1 ds fun x => dictD x M Q

/-- x[::-1] of a list, of a tuple -/
def revK (fz : Bool) (M : Mm) (u : D) (Q : KD) : Prop := match u with
  | .tup xs => Q (.tup xs.reverse) M
  | u => someK (lstOf M u) fun xs => newL fz xs.reverse M Q
/-- by what they are without sign -/
def absN (i : Int) : Int := if i < 0 then -i else i
def sortA (ns : List Int) : List Int := ns.mergeSort fun a b => decide (absN a ≤ absN b)
inductive BM where
  | append | extend | pop | get | join | split | setdefault | update | upper
  deriving DecidableEq
def BM.name : BM → Str
  | .append => "append" | .extend => "extend" | .pop => "pop" | .get => "get" | .join => "join" | .split => "split" | .setdefault => "setdefault" | .update => "update" | .upper => "upper"
inductive Ty where
  | list | dict | str | tuple
  deriving DecidableEq
def okM : Ty → BM → Bool
  | .list, .append => true
  | .list, .extend => true
  | .list, .pop => true
  | .dict, .get => true
  | .dict, .setdefault => true
  | .dict, .update => true
  | .str, .join => true
  | .str, .split => true
  | .str, .upper => true
  | _, _ => false
def tyOf (M : Mm) : D → Option Ty
  | .lst _ => some .list
  | .klst _ => some .list
  | .str _ => some .str
  | .tup _ => some .tuple
  | .ref p => match M p with
    | some (.lst _) => some .list
    | some (.dct _) => some .dict
    | _ => none
  | _ => none
def refOf : D → Option Addr
  | .ref p => some p
  | _ => none
/-- the changeable list at hand -/
def mlst (M : Mm) (o : D) (k : Addr → List D → Prop) : Prop := match o with
  | .ref p => match M p with
    | some (.lst xs) => k p xs
    | _ => False
  | _ => False
theorem mlst_inv {M : Mm} {o : D} {k : Addr → List D → Prop} (h : mlst M o k) : ∃ p xs, o = .ref p ∧ M p = some (.lst xs) ∧ k p xs := by
  cases o with
  | ref p =>
    have h' : (match M p with | some (.lst xs) => k p xs | _ => False) := h
    split at h'
    · rename_i xs e; exact ⟨p, xs, rfl, e, h'⟩
    · exact h'.elim
  | _ => exact (show False from h).elim
/-- the changeable dict at hand -/
def mdct (M : Mm) (o : D) (k : Addr → List (Key × D) → Prop) : Prop := match o with
  | .ref p => match M p with
    | some (.dct xs) => k p xs
    | _ => False
  | _ => False
theorem mdct_inv {M : Mm} {o : D} {k : Addr → List (Key × D) → Prop} (h : mdct M o k) : ∃ p xs, o = .ref p ∧ M p = some (.dct xs) ∧ k p xs := by
  cases o with
  | ref p =>
    have h' : (match M p with | some (.dct xs) => k p xs | _ => False) := h
    split at h'
    · rename_i xs e; exact ⟨p, xs, rfl, e, h'⟩
    · exact h'.elim
  | _ => exact (show False from h).elim
/-- what a list may be extended by -/
def catT (M : Mm) : D → Option (List D)
  | .tup xs => some xs
  | d => catOf M d
def bmD (ty : Ty) (m : BM) (fz : Bool) (o : D) (ds : List D) (M : Mm) (Q : KD) : Prop :=
  match ty, m, ds with
  | .list, .append, [d] => mlst M o fun p xs => xs.length < sizeLine ∧ Q .non (mput M p (.lst (xs ++ [d])))
  | .list, .extend, [y] => mlst M o fun p xs => someK (catT M y) fun ys => xs.length + ys.length ≤ sizeLine ∧ Q .non (mput M p (.lst (xs ++ ys)))
  | .list, .pop, [] => mlst M o fun p xs => optK (xs[xs.length - 1]?) fun d => Q d (mput M p (.lst xs.dropLast))
  | .list, .pop, [i] => mlst M o fun p xs => i.asI fun i => someK (ixN xs.length i) fun j => optK xs[j]? fun d => Q d (mput M p (.lst (xs.eraseIdx j)))
  | .dict, .get, [y] => someK (dctOf M o) fun kvs => someK (keyOf y) fun q => Q ((kget kvs q).getD .non) M
  | .dict, .get, [y, z] => someK (dctOf M o) fun kvs => someK (keyOf y) fun q => Q ((kget kvs q).getD z) M
  | .dict, .setdefault, [y, z] => mdct M o fun p kvs => someK (keyOf y) fun q => kvs.length < sizeLine ∧ match kget kvs q with
    | some d => Q d M
    | none => Q z (mput M p (.dct (kput kvs q z)))
  | .dict, .update, [y] => mdct M o fun p kvs => someK (lstOf M y) fun xs => someK (flatPairs xs) fun kws => kvs.length + kws.length ≤ 4000 ∧ Q .non (mput M p (.dct (kmerge kvs kws)))
  | .str, .join, [x] => match o with
    | .str s => someK (seqOf M x) fun xs => someK (strsOf xs) fun ys => (ys.map (·.length)).sum + ys.length * s.length ≤ 16777216 ∧ (Txt.join s ys).length ≤ sizeLine ∧ Q (.str (Txt.join s ys)) M
    | _ => False
  | .str, .split, [.str b] => match o with
    | .str s => (b.length == 0) = false ∧ s.length + 2 ≤ sizeLine ∧ (∀ y ∈ Txt.split s b, y.length ≤ sizeLine) ∧ newL fz ((Txt.split s b).map .str) M Q
    | _ => False
  | .str, .upper, [] => match o with
    | .str s => s.length ≤ 5592405 ∧ (Txt.upper s).length ≤ sizeLine ∧ Q (.str (Txt.upper s)) M
    | _ => False
  | _, _, _ => False
end TL

set_option Elab.async false
set_option linter.all false
set_option maxRecDepth 100000
set_option maxHeartbeats 2000000
/-! The small language and what each piece asks. -/
namespace TL
open PySem PySem.Spec PyProof.Rows L2

/-- a target: a name by its slot, or several -/
inductive Tg where
  | nm (i : Nat)
  | tp (ts : List Tg)
mutual
@[simp] def putT : Tg → D → En → Mm → (En → Prop) → Prop
  | .nm i, d, env, _, k => k (env.set i (some d))
  | .tp ts, d, env, M, k => someK (seqOf M d) fun xs => putTs ts xs env M k
@[simp] def putTs : List Tg → List D → En → Mm → (En → Prop) → Prop
  | [], [], env, _, k => k env
  | t :: ts, d :: ds, env, M, k => putT t d env M fun env' => putTs ts ds env' M k
  | _, _, _, _, _ => False
end
mutual
@[simp] def Tg.slots : Tg → List Nat
  | .nm i => [i]
  | .tp ts => slotss ts
@[simp] def slotss : List Tg → List Nat
  | [] => []
  | t :: ts => t.slots ++ slotss ts
end
@[simp] def wipeE (env : En) : List Nat → En
  | [] => env
  | i :: is => (wipeE env is).set i none

/-- what is walked: the items; what must stand meanwhile -/
structure Src where
  g : Mm → Prop
  xs : List D
def grd (d : D) (xs : List D) (M : Mm) : Prop := match d with
  | .ref p => M p = some (.lst xs)
  | _ => True
def enumD : Nat → List D → List D
  | _, [] => []
  | n, x :: r => .tup [.int (n : Int), x] :: enumD (n + 1) r
def zipD : List D → List D → List D
  | x :: r, y :: q => .tup [x, y] :: zipD r q
  | _, _ => []
def rangeD (lo : Int) : Nat → List D
  | 0 => []
  | n + 1 => .int lo :: rangeD (lo + 1) n
def rangeC (lo c : Int) : Nat → List D
  | 0 => []
  | n + 1 => .int lo :: rangeC (lo + c) c n

@[simp] def glbK (u : D) (k : Str → Prop) : Prop := match u with | .glb f => k f | _ => False
theorem glbK_inv {u : D} {k : Str → Prop} (h : glbK u k) : ∃ f, u = .glb f ∧ k f := by
  cases u with
  | glb f => exact ⟨f, rfl, h⟩
  | _ => exact (show False from h).elim
mutual
inductive E where
  | v (i : Nat)
  | c (d : D)
  | g (x : Str) (d : D)
  | bin (o : Operator) (fz : Bool) (a b : E)
  | neg (a : E)
  | not (a : E)
  | cmp (o : CmpOp) (a b : E)
  | chn (o p : CmpOp) (a b c : E)
  | and (es : Es)
  | or (es : Es)
  | ite (t a b : E)
  | tup (es : Es)
  | lst (fz : Bool) (es : Es)
  | ix (a i : E)
  | sl (fz : Bool) (a : E) (lo hi : Eo)
  | rev (fz : Bool) (a : E)
  | bi (f : BI) (fz : Bool) (es : Es)
  | isi (a : E) (T : Str) (cs : List Str)
  | call (f : Str) (c : Contract) (es : Es)
  | callk (f : Str) (c : Contract) (es : Es) (ks : Ks) (pm : List Nat)
  | mk (C : Str) (c : Contract) (es : Es)
  | mkk (C : Str) (c : Contract) (es : Es) (ks : Ks) (pm : List Nat)
  | fld (a : E) (C f : Str)
  | prop (a : E) (C f : Str) (c : Contract)
  | meth (a : E) (C m : Str) (c : Contract) (es : Es)
  | bm (m : BM) (fz : Bool) (a : E) (es : Es)
  | comp (fz : Bool) (t : Tg) (it : It) (cond : Eo) (elt : E)
  | dnew
  | lr1 (fz : Bool) (a : E)
  | lr2 (fz : Bool) (a b : E)
  | lz (fz : Bool) (a b : E)
  | ueq (C : Str) (c : Contract) (a b : E)
  | skabs (fz : Bool) (a : E)
  | lenset (a : E)
  | ise (a : E) (T : Str) (cs : List Str)
  | xval (a : E) (cs : List Str)
  | heard (f : Str) (q : Str) (cs : List Str) (e : E)
  | ddsp (es : Es)
  | sset (fz : Bool) (a : E)
  | callv (i : Nat) (tb : List (Str × Contract)) (es : Es)
inductive Es where
  | nil
  | cons (e : E) (r : Es)
  | star (e : E) (r : Es)
inductive Ks where
  | nil
  | cons (k : Str) (e : E) (r : Ks)
inductive Eo where
  | none
  | some (e : E)
inductive It where
  | seq (e : E)
  | rng1 (a : E)
  | rng2 (a b : E)
  | enum (a : E)
  | zip (a b : E)
  | rngd (a b : E)
  | ezip (a b : E)
end

@[simp] def esLen : Es → Nat
  | .nil => 0
  | .cons _ r => esLen r + 1
  | .star _ r => esLen r + 1
def esNil : Es → Bool
  | .nil => true
  | _ => false
@[simp] def ksNames : Ks → List Str
  | .nil => []
  | .cons k _ r => k :: ksNames r
/-- the comprehension's list, turn by turn -/
def compGo (step : D → List D → Mm → (List D → Mm → Prop) → Prop) (g : Mm → Prop) : List D → List D → Mm → (List D → Mm → Prop) → Prop
  | [], acc, M, Q => g M ∧ Q acc M
  | x :: r, acc, M, Q => g M ∧ step x acc M fun acc' M' => compGo step g r acc' M' Q
def noX : XD := fun _ _ _ => False
@[simp] def optI : Option D → (Option Int → Prop) → Prop
  | none, k => k none
  | some (.int i), k => k (some i)
  | _, _ => False
/-- isinstance(d, T): T a built-in class, or an own one without classes below it -/
@[simp] def isiK (M : Mm) (d : D) (T : Str) (cs : List Str) (k : Bool → Prop) : Prop :=
  match d with
  | .non => k (isiB T "NoneType")
  | .bl _ => k (isiB T "bool")
  | .int _ => k (isiB T "int")
  | .str _ => k (isiB T "str")
  | .flt _ => k (isiB T "float")
  | .tup _ => k (isiB T "tuple")
  | .lst _ => k (isiB T "list")
  | .klst _ => k (isiB T "list")
  | .ref p => match M p with
    | some (.lst _) => k (isiB T "list")
    | some (.dct _) => k (isiB T "dict")
    | some (.ins c _) => c ∈ cs ∧ k (decide (c = T))
    | _ => False
  | .glb _ => False
  | .exc _ _ => False
/-- isinstance(d, T), d None or an own error, T one without classes below it -/
@[simp] def iseK (d : D) (T : Str) (cs : List Str) (k : Bool → Prop) : Prop := match d with
  | .non => k false
  | .exc C _ => C ∈ cs ∧ k (decide (C = T))
  | _ => False
/-- an own error's value -/
@[simp] def xvalK (d : D) (cs : List Str) (k : D → Prop) : Prop := match d with
  | .exc C u => C ∈ cs ∧ k u
  | _ => False
/-- an instance of the class -/
def insK (M : Mm) (d : D) (C : Str) (k : Addr → List (Str × D) → Prop) : Prop :=
  match d with
  | .ref p => match M p with
    | some (.ins c fs) => c = C ∧ k p fs
    | _ => False
  | _ => False
/-- what an own == may stand against here: a tuple, or an instance of the class -/
def ueqOk (M : Mm) (v : D) (C : Str) : Prop := match v with
  | .tup _ => True
  | .ref p => match M p with
    | some (.ins c _) => c = C
    | _ => False
  | _ => False
theorem insK_inv {M : Mm} {d : D} {C : Str} {k : Addr → List (Str × D) → Prop} (h : insK M d C k) : ∃ p fs, d = .ref p ∧ M p = some (.ins C fs) ∧ k p fs := by
  cases d with
  | ref p =>
    have h' : (match M p with | some (.ins c fs) => c = C ∧ k p fs | _ => False) := h
    split at h'
    · rename_i c fs e; obtain ⟨rfl, h'⟩ := h'; exact ⟨p, fs, rfl, e, h'⟩
    · exact h'.elim
  | _ => exact (show False from h).elim
def fldK (M : Mm) (d : D) (C f : Str) (k : D → Prop) : Prop := insK M d C fun _ fs => optK (fs.lookup f) k
def rgOk (a b : Int) : Prop := -(2 ^ 62) ≤ a ∧ a < 2 ^ 62 ∧ -(2 ^ 62) ≤ b ∧ b < 2 ^ 62 ∧ (b - a).toNat ≤ 2 ^ 24
@[simp] def varK (env : En) (i : Nat) (k : D → Prop) : Prop := match env[i]? with
  | some (some d) => k d
  | _ => False
/-- what is walked by a for -/
def itK (M : Mm) (d : D) (k : Src → Prop) : Prop := match d with
  | .str s => k ⟨fun _ => True, s.cps.toList.map fun c => .str ⟨#[c]⟩⟩
  | d => someK (seqOf M d) fun xs => k ⟨grd d xs, xs⟩
def zipK (M : Mm) (u v : D) (k : Src → Prop) : Prop := match u, v with
  | .tup xs, .tup ys => k ⟨fun _ => True, zipD xs ys⟩
  | u, v => someK (lstOf M u) fun xs => someK (lstOf M v) fun ys => k ⟨fun M => grd u xs M ∧ grd v ys M, zipD xs ys⟩
@[simp] def permD (ds : List D) (pm : List Nat) : List D := pm.map fun i => ds.getD i .non
/-- a new instance, then its __init__ -/
def mkC (C : Str) (c : Contract) (ds : List D) (M : Mm) (x : XD) (Q : KD) : Prop :=
  ∀ p, M p = none → c (.ref p :: ds) (mput M p (.ins C [])) x fun d M' => d = .non ∧ Q (.ref p) M'

/-- a dict's keys and values, as a display tells them; as pairs -/
def pairsOf : List D → Option (List (Key × D))
  | [] => some []
  | k :: v :: r => match keyOf k, pairsOf r with
    | some q, some kvs => some ((q, v) :: kvs)
    | _, _ => none
  | _ => none
/-- each once, in the sequence in which they come first -/
def onceI : List Int → List Int
  | [] => []
  | x :: r => x :: (onceI r).filter fun y => decide (y ≠ x)
/-- enumerate(zip(tuple, list)) -/
def ezipK (M : Mm) (u v : D) (k : Src → Prop) : Prop := match u with
  | .tup xs => someK (lstOf M v) fun ys => xs.length = ys.length ∧ k ⟨fun M => grd v ys M, enumD 0 (zipD xs ys)⟩
  | _ => False

mutual
@[simp] def wpE : E → XD → En → Mm → KD → Prop
  | .v i, _, env, M, Q => varK env i fun d => Q d M
  | .c d, _, _, M, Q => Q d M
  | .g _ d, _, _, M, Q => Q d M
  | .bin o fz a b, x, env, M, Q => wpE a x env M fun u M1 => wpE b x env M1 fun v M2 => binD o fz u v M2 Q
  | .neg a, x, env, M, Q => wpE a x env M fun u M1 => u.asI fun i => Q (.int (-i)) M1
  | .not a, x, env, M, Q => wpE a x env M fun u M1 => u.asB fun b => Q (.bl (!b)) M1
  | .cmp o a b, x, env, M, Q => wpE a x env M fun u M1 => wpE b x env M1 fun v M2 => cmpK o M2 u v fun r => Q (.bl r) M2
  | .chn o p a b c, x, env, M, Q => wpE a x env M fun u M1 => wpE b x env M1 fun v M2 => cmpK o M2 u v fun r =>
      if r = true then wpE c x env M2 fun w M3 => cmpK p M3 v w fun r => Q (.bl r) M3 else Q (.bl false) M2
  | .and es, x, env, M, Q => wpAnd es x env M Q
  | .or es, x, env, M, Q => wpOr es x env M Q
  | .ite t a b, x, env, M, Q => wpE t x env M fun u M1 => u.asB fun r => if r = true then wpE a x env M1 Q else wpE b x env M1 Q
  | .tup es, x, env, M, Q => wpEs es x env M fun ds M1 => ds.length ≤ sizeLine ∧ Q (.tup ds) M1
  | .lst fz es, x, env, M, Q => wpEs es x env M fun ds M1 => ds.length ≤ sizeLine ∧ newL fz ds M1 Q
  | .ix a i, x, env, M, Q => wpE a x env M fun u M1 => wpE i x env M1 fun v M2 => ixK M2 u v fun d => Q d M2
  | .sl fz a lo hi, x, env, M, Q => wpE a x env M fun u M1 => wpEo lo x env M1 fun l M2 => optI l fun l => wpEo hi x env M2 fun h M3 => optI h fun h => slK fz M3 u l h Q
  | .rev fz a, x, env, M, Q => wpE a x env M fun u M1 => revK fz M1 u Q
  | .bi f fz es, x, env, M, Q => wpEs es x env M fun ds M1 => biD f fz ds M1 Q
  | .isi a T cs, x, env, M, Q => wpE a x env M fun u M1 => isiK M1 u T cs fun r => Q (.bl r) M1
  | .call _ c es, x, env, M, Q => wpEs es x env M fun ds M1 => c ds M1 x Q
  | .callk _ c es ks pm, x, env, M, Q => wpEs es x env M fun ds M1 => wpKs ks x env M1 fun vs M2 => ds.length = esLen es ∧ vs.length = (ksNames ks).length ∧ c (permD (ds ++ vs) pm) M2 x Q
  | .mk C c es, x, env, M, Q => wpEs es x env M fun ds M1 => mkC C c ds M1 x Q
  | .mkk C c es ks pm, x, env, M, Q => wpEs es x env M fun ds M1 => wpKs ks x env M1 fun vs M2 => ds.length = esLen es ∧ vs.length = (ksNames ks).length ∧ mkC C c (permD (ds ++ vs) pm) M2 x Q
  | .fld a C f, x, env, M, Q => wpE a x env M fun u M1 => fldK M1 u C f fun d => Q d M1
  | .prop a C _ c, x, env, M, Q => wpE a x env M fun u M1 => insK M1 u C fun _ _ => c [u] M1 noX Q
  | .meth a C m c es, x, env, M, Q => wpE a x env M fun u M1 => insK M1 u C fun _ fs => fs.lookup m = none ∧ wpEs es x env M1 fun ds M2 => c (u :: ds) M2 x Q
  | .bm m fz a es, x, env, M, Q => wpE a x env M fun u M1 => someK (tyOf M1 u) fun ty => okM ty m = true ∧ wpEs es x env M1 fun ds M2 => bmD ty m fz u ds M2 Q
  | .comp fz t it cond elt, x, env, M, Q => wpIt it x env M fun src M1 => src.xs.length ≤ sizeLine ∧
      compGo (fun d acc M k => putT t d (wipeE env t.slots) M fun env1 => wpCd cond noX env1 M fun r M2 => if r = true then wpE elt noX env1 M2 fun y M3 => k (acc ++ [y]) M3 else k acc M2)
        src.g src.xs [] M1 fun acc M2 => newL fz acc M2 Q
  | .dnew, _, _, M, Q => ∀ p, M p = none → Q (.ref p) (mput M p (.dct []))
  | .lr1 fz a, x, env, M, Q => wpE a x env M fun u M1 => u.asI fun n => rgOk 0 n ∧ newL fz (rangeD 0 n.toNat) M1 Q
  | .lr2 fz a b, x, env, M, Q => wpE a x env M fun u M1 => wpE b x env M1 fun v M2 => u.asI fun l => v.asI fun h => rgOk l h ∧ newL fz (rangeD l (h - l).toNat) M2 Q
  | .lz fz a b, x, env, M, Q => wpE a x env M fun u M1 => wpE b x env M1 fun v M2 => someK (lstOf M2 u) fun xs => someK (lstOf M2 v) fun ys => (zipD xs ys).length ≤ sizeLine ∧ newL fz (zipD xs ys) M2 Q
  | .ueq C c a b, x, env, M, Q => wpE a x env M fun u M1 => wpE b x env M1 fun v M2 => insK M2 u C fun _ _ => ueqOk M2 v C ∧ c [u, v] M2 noX fun d M' => d.asB fun r => Q (.bl r) M'
  | .skabs fz a, x, env, M, Q => wpE a x env M fun u M1 => oneInts u M1 fun ns => newL fz ((sortA ns).map .int) M1 Q
  | .lenset a, x, env, M, Q => wpE a x env M fun u M1 => oneInts u M1 fun ns => ns.Nodup ∧ ns.length ≤ 4000 ∧ Q (.int ns.length) M1
  | .ise a T cs, x, env, M, Q => wpE a x env M fun u M1 => iseK u T cs fun b => Q (.bl b) M1
  | .xval a cs, x, env, M, Q => wpE a x env M fun u M1 => xvalK u cs fun d => Q d M1
  | .heard _ q cs e, _, env, M, Q => (∃ P, M P = some (.tab q)) ∧ wpE e (fun C d M1 => C ∈ cs ∧ Q (.tup [.exc C d, .non]) M1) env M fun d M1 => Q (.tup [.non, d]) M1
  | .ddsp es, x, env, M, Q => wpEs es x env M fun ds M1 => someK (pairsOf ds) fun kvs => kvs.length ≤ 15 ∧ ∀ p, M1 p = none → Q (.ref p) (mput M1 p (.dct (kmerge [] kvs)))
  | .sset fz a, x, env, M, Q => wpE a x env M fun u M1 => oneInts u M1 fun ns => ns.length < 60 ∧ newL fz ((sortI (onceI ns)).map .int) M1 Q
  | .callv i tb es, x, env, M, Q => varK env i fun u => glbK u fun f => someK (tb.lookup f) fun c => wpEs es x env M fun ds M1 => c ds M1 x Q
@[simp] def wpEs : Es → XD → En → Mm → (List D → Mm → Prop) → Prop
  | .nil, _, _, M, Q => Q [] M
  | .cons e r, x, env, M, Q => wpE e x env M fun d M1 => wpEs r x env M1 fun ds M2 => Q (d :: ds) M2
  | .star e r, x, env, M, Q => wpE e x env M fun d M1 => someK (seqOf M1 d) fun xs => wpEs r x env M1 fun ds M2 => Q (xs ++ ds) M2
@[simp] def wpAnd : Es → XD → En → Mm → KD → Prop
  | .cons e .nil, x, env, M, Q => wpE e x env M fun u M1 => u.asB fun b => Q (.bl b) M1
  | .cons e r, x, env, M, Q => wpE e x env M fun u M1 => u.asB fun b => if b = true then wpAnd r x env M1 Q else Q (.bl false) M1
  | _, _, _, _, _ => False
@[simp] def wpOr : Es → XD → En → Mm → KD → Prop
  | .cons e .nil, x, env, M, Q => wpE e x env M fun u M1 => u.asB fun b => Q (.bl b) M1
  | .cons e r, x, env, M, Q => wpE e x env M fun u M1 => u.asB fun b => if b = true then Q (.bl true) M1 else wpOr r x env M1 Q
  | _, _, _, _, _ => False
@[simp] def wpKs : Ks → XD → En → Mm → (List D → Mm → Prop) → Prop
  | .nil, _, _, M, Q => Q [] M
  | .cons _ e r, x, env, M, Q => wpE e x env M fun d M1 => wpKs r x env M1 fun ds M2 => Q (d :: ds) M2
@[simp] def wpEo : Eo → XD → En → Mm → (Option D → Mm → Prop) → Prop
  | .none, _, _, M, Q => Q none M
  | .some e, x, env, M, Q => wpE e x env M fun d M1 => Q (some d) M1
@[simp] def wpCd : Eo → XD → En → Mm → (Bool → Mm → Prop) → Prop
  | .none, _, _, M, Q => Q true M
  | .some e, x, env, M, Q => wpE e x env M fun d M1 => d.asB fun b => Q b M1
@[simp] def wpIt : It → XD → En → Mm → (Src → Mm → Prop) → Prop
  | .seq e, x, env, M, Q => wpE e x env M fun d M1 => itK M1 d fun src => Q src M1
  | .rng1 a, x, env, M, Q => wpE a x env M fun u M1 => u.asI fun n => -(2 ^ 62) ≤ n ∧ n < 2 ^ 62 ∧ Q ⟨fun _ => True, rangeD 0 n.toNat⟩ M1
  | .rng2 a b, x, env, M, Q => wpE a x env M fun u M1 => wpE b x env M1 fun v M2 => u.asI fun l => v.asI fun h => -(2 ^ 62) ≤ l ∧ l < 2 ^ 62 ∧ -(2 ^ 62) ≤ h ∧ h < 2 ^ 62 ∧ Q ⟨fun _ => True, rangeD l (h - l).toNat⟩ M2
  | .enum a, x, env, M, Q => wpE a x env M fun u M1 => someK (seqOf M1 u) fun xs => Q ⟨grd u xs, enumD 0 xs⟩ M1
  | .zip a b, x, env, M, Q => wpE a x env M fun u M1 => wpE b x env M1 fun v M2 => zipK M2 u v fun src => Q src M2
  | .rngd a b, x, env, M, Q => wpE a x env M fun u M1 => wpE b x env M1 fun v M2 => u.asI fun l => v.asI fun h => -(2 ^ 60) ≤ l ∧ l < 2 ^ 60 ∧ -(2 ^ 60) ≤ h ∧ h < 2 ^ 60 ∧ Q ⟨fun _ => True, rangeC l (-1) (l - h).toNat⟩ M2
  | .ezip a b, x, env, M, Q => wpE a x env M fun u M1 => wpE b x env M1 fun v M2 => ezipK M2 u v fun src => Q src M2
end

/-! ### statements -/
inductive S where
  | asg (t : Tg) (e : E)
  | par (is : List Nat) (es : Es)
  | fld (o : E) (C f : Str) (e : E)
  | sub (o i e : E)
  | ex (e : E)
  | ret (e : Eo)
  | ite (t : E) (a b : List S)
  | whl (t : E) (a : List S)
  | for_ (t : Tg) (it : It) (a : List S)
  | pass | brk | cont
  | never
  | raise_ (C : Str) (e : E)

def forGo (body : D → En → Mm → (En → Mm → Prop) → Prop) (g : Mm → Prop) (nx : En → Mm → Prop) : List D → En → Mm → Prop
  | [], env, M => g M ∧ nx env M
  | x :: r, env, M => g M ∧ body x env M fun env' M' => forGo body g nx r env' M'
@[simp] def parE (is : List Nat) (ds : List D) (env : En) : En := (is.zip ds).foldl (fun env p => env.set p.1 (some p.2)) env
/-- o.f = d -/
def putF' (f : Str) (v : D) : List (Str × D) → List (Str × D)
  | [] => [(f, v)]
  | (g, x) :: r => if g = f then (g, v) :: r else (g, x) :: putF' f v r
def sfK (M : Mm) (o : D) (C f : Str) (d : D) (k : Mm → Prop) : Prop := insK M o C fun p fs => fs.length < 1000 ∧ k (mput M p (.ins C (putF' f d fs)))

mutual
@[simp] def wpS : S → Fin → En → Mm → Prop
  | .asg t e, D, env, M => wpE e (D.ex env) env M fun d M1 => putT t d env M1 fun env1 => D.nx env1 M1
  | .par is es, D, env, M => wpEs es (D.ex env) env M fun ds M1 => ds.length = is.length ∧ D.nx (parE is ds env) M1
  | .fld o C f e, D, env, M => wpE e (D.ex env) env M fun d M1 => wpE o (D.ex env) env M1 fun u M2 => sfK M2 u C f d fun M3 => D.nx env M3
  | .sub o i e, D, env, M => wpE e (D.ex env) env M fun d M1 => wpE o (D.ex env) env M1 fun u M2 => wpE i (D.ex env) env M2 fun v M3 => setK M3 u v d fun M4 => D.nx env M4
  | .ex e, D, env, M => wpE e (D.ex env) env M fun _ M1 => D.nx env M1
  | .ret .none, D, _, M => D.rt .non M
  | .ret (.some e), D, env, M => wpE e (D.ex env) env M D.rt
  | .ite t a b, D, env, M => wpE t (D.ex env) env M fun u M1 => u.asB fun r => if r = true then wpSs a D env M1 else wpSs b D env M1
  | .whl t a, D, env, M => ∃ W : Nat → En → Mm → Prop, (∃ m, W m env M) ∧ ∀ m env M, W m env M → wpE t (D.ex env) env M fun u M1 => u.asB fun r =>
      if r = true then wpSs a { D with nx := fun env M => ∃ m', m' < m ∧ W m' env M, ct := fun env M => ∃ m', m' < m ∧ W m' env M, bk := D.nx } env M1 else D.nx env M1
  | .for_ t it a, D, env, M => wpIt it (D.ex env) env M fun src M1 =>
      forGo (fun d env M k => putT t d env M fun env1 => wpSs a { D with nx := k, ct := k, bk := D.nx } env1 M) src.g D.nx src.xs env M1
  | .pass, D, env, M => D.nx env M
  | .brk, D, env, M => D.bk env M
  | .cont, D, env, M => D.ct env M
  | .never, _, _, _ => False
  | .raise_ C e, D, env, M => wpE e (D.ex env) env M fun d M1 => D.ex env C d M1
@[simp] def wpSs : List S → Fin → En → Mm → Prop
  | [], D, env, M => D.nx env M
  | s :: r, D, env, M => wpS s { D with nx := fun env M => wpSs r D env M } env M
end
end TL

set_option Elab.async false
set_option linter.all false
set_option maxRecDepth 100000
set_option maxHeartbeats 2000000
/-! What is asked of trees, as HandS reads it. -/
namespace TL
open PySem PySem.Spec PyProof.Rows L2

/-- a def's entry; what is wanted of exceptions -/
structure Bnd where
  t0 : Sta
  ex : En → XD
structure COk (W : Wd) (k : Nat) (X : Cx) : Prop where
  P : X.prog = W.P
  w : X.w = W.w
  K : X.K = W.K
  mg : X.mg = W.mg
  base : X.base = W.base
  room : Room k X.A
  gd : X.A.guards = some []
  calm : X.calm = true
  nd : X.N.Nodup
theorem COk.hu {W : Wd} {k : Nat} {X : Cx} (c : COk W k X) : X.A.units + 64 < cLine := c.room.units
theorem COk.hu1 {W : Wd} {k : Nat} {X : Cx} (c : COk W k X) : X.A.units + 1 < cLine := by have := c.room.units; omega

def REnv (W : Wd) (t : Sta) (env : En) (σ : L2.St) : Prop :=
  env.length = σ.length ∧ ∀ (i : Nat) (d : D), env[i]? = some (some d) → ∃ v : V, σ[i]? = some (some v) ∧ Rep W t d v
theorem REnv.ext {W : Wd} {t t' : Sta} {env : En} {σ : L2.St} (h : REnv W t env σ) (e : Fst t t') : REnv W t' env σ :=
  ⟨h.1, fun i d q => let ⟨v, h1, h2⟩ := h.2 i d q; ⟨v, h1, h2.ext e⟩⟩
theorem REnv.set {W : Wd} {t : Sta} {env : En} {σ : L2.St} {d : D} {v : V} (h : REnv W t env σ) (i : Nat) (r : Rep W t d v) : REnv W t (env.set i (some d)) (σ.set i (some v)) := by
  refine ⟨by simpa using h.1, fun j x q => ?_⟩
  by_cases e : i = j
  · subst e
    have hi : i < env.length := by
      by_cases hi : i < env.length
      · exact hi
      · rw [List.getElem?_eq_none (by simpa using hi)] at q; cases q
    rw [List.getElem?_set_self hi] at q; cases q
    exact ⟨v, by rw [List.getElem?_set_self (by rw [← h.1]; exact hi)], r⟩
  · rw [List.getElem?_set_ne e] at q
    obtain ⟨u, h1, h2⟩ := h.2 j x q
    exact ⟨u, by rw [List.getElem?_set_ne e]; exact h1, h2⟩
theorem REnv.wipe {W : Wd} {t : Sta} {env : En} {σ : L2.St} (h : REnv W t env σ) : ∀ is : List Nat, REnv W t (wipeE env is) (wipe σ is)
  | [] => h
  | i :: is => by
    have ih := REnv.wipe h is
    unfold wipeE L2.wipe
    refine ⟨by simpa using ih.1, fun j x q => ?_⟩
    by_cases e : i = j
    · subst e
      by_cases hi : i < (wipeE env is).length
      · rw [List.getElem?_set_self hi] at q; cases q
      · rw [List.getElem?_eq_none (by simpa using hi)] at q; cases q
    · rw [List.getElem?_set_ne e] at q
      obtain ⟨u, h1, h2⟩ := ih.2 j x q
      exact ⟨u, by rw [List.getElem?_set_ne e]; exact h1, h2⟩

/-- an exception of the program's own -/
def XRep (W : Wd) (t : Sta) (n : Str) (d : D) (cls : Value) (dd : Option Addr) : Prop :=
  ∃ C d0 v, W.mg n = some (.ref C) ∧ cls = .ref C ∧ dd = some d0 ∧ t.F d0 ∧ t.H d0 = some (.xd [(("value" : Str), v)]) ∧ Rep W t d v
def wX (W : Wd) (B : Bnd) : WX := fun cls dd σ H => ∃ env t n d, t.H = H ∧ Ext B.t0 t ∧ Good W t ∧ REnv W t env σ ∧ XRep W t n d cls dd ∧ B.ex env n d t.M

/-- the continuation: any later state that holds it -/
abbrev Lat (W : Wd) (t : Sta) (Qp : KD) (Q : VK) : Prop := ∀ d v t', Ext t t' → Good W t' → Rep W t' d v → Qp d t'.M → Q v t'.H
def tE (W : Wd) (B : Bnd) (p : XD → En → Mm → KD → Prop) : TE := fun σ H Q => ∃ env t Qp, t.H = H ∧ Ext B.t0 t ∧ Good W t ∧ REnv W t env σ ∧ p (B.ex env) env t.M Qp ∧ Lat W t Qp Q
def tA (W : Wd) (B : Bnd) (p : XD → En → Mm → (List D → Mm → Prop) → Prop) : TA := fun σ H Q => ∃ env t Qp, t.H = H ∧ Ext B.t0 t ∧ Good W t ∧ REnv W t env σ ∧ p (B.ex env) env t.M Qp ∧
  ∀ ds vs t', Ext t t' → Good W t' → Reps W t' ds vs → Qp ds t'.M → Q vs t'.H
/-- a test: the value's own truth, a bool -/
def tB' (W : Wd) (B : Bnd) (p : XD → En → Mm → KD → Prop) : TT := fun σ H Q => ∃ (env : En) (t : Sta) (Qp : Bool → Mm → Prop), t.H = H ∧ Ext B.t0 t ∧ Good W t ∧ REnv W t env σ ∧ p (B.ex env) env t.M (fun d M => d.asB fun b => Qp b M) ∧
  ∀ b t', Ext t t' → Good W t' → Qp b t'.M → Q b t'.H

/-! operations by values -/
def l2 (W : Wd) (q : D → D → Mm → KD → Prop) : R2 := fun x y H Q => ∃ dx dy t Qp, t.H = H ∧ Good W t ∧ Rep W t dx x ∧ Rep W t dy y ∧ q dx dy t.M Qp ∧ Lat W t Qp Q
def l1 (W : Wd) (q : D → Mm → KD → Prop) : V → Hp → VK → Prop := fun x H Q => ∃ dx t Qp, t.H = H ∧ Good W t ∧ Rep W t dx x ∧ q dx t.M Qp ∧ Lat W t Qp Q
def lL (W : Wd) (q : List D → Mm → KD → Prop) : List V → Hp → VK → Prop := fun xs H Q => ∃ ds t Qp, t.H = H ∧ Good W t ∧ Reps W t ds xs ∧ q ds t.M Qp ∧ Lat W t Qp Q
def lM (W : Wd) (q : D → List D → Mm → KD → Prop) : V → List V → Hp → VK → Prop := fun x xs H Q => ∃ dx ds t Qp, t.H = H ∧ Good W t ∧ Rep W t dx x ∧ Reps W t ds xs ∧ q dx ds t.M Qp ∧ Lat W t Qp Q

theorem _root_.L2.PE.imp {X : Cx} {e : Expr} {t t' : TE} (h : PE X e t) (i : ∀ σ H Q, t' σ H Q → t σ H Q) : PE X e t' := ⟨fun pins s σ H Q I q => h.run pins s σ H Q I (i σ H Q q)⟩
theorem _root_.L2.PT.imp {X : Cx} {e : Expr} {t t' : TT} (h : PT X e t) (i : ∀ σ H Q, t' σ H Q → t σ H Q) : PT X e t' := ⟨fun pins s σ H Q I q => h.run pins s σ H Q I (i σ H Q q)⟩
theorem _root_.L2.PW.imp {X : Cx} {e : Expr} {t t' : TT} (h : PW X e t) (i : ∀ σ H Q, t' σ H Q → t σ H Q) : PW X e t' := ⟨fun wh pins s σ H Q I q => h.run wh pins s σ H Q I (i σ H Q q)⟩
theorem _root_.L2.PA.imp {X : Cx} {e : List Expr} {t t' : TA} (h : PA X e t) (i : ∀ σ H Q, t' σ H Q → t σ H Q) : PA X e t' := ⟨fun pos pins s σ H Q I q => h.run pos pins s σ H Q I (i σ H Q q)⟩
theorem _root_.L2.PS.imp {X : Cx} {e : Stmt} {t t' : TS} (h : PS X e t) (i : ∀ D σ H, t' D σ H → t D σ H) : PS X e t' := ⟨fun pins s σ H Q I q => h.run pins s σ H Q I (i Q σ H q)⟩
theorem _root_.L2.PSs.imp {X : Cx} {e : List Stmt} {t t' : TS} (h : PSs X e t) (i : ∀ D σ H, t' D σ H → t D σ H) : PSs X e t' := ⟨fun pins s σ H Q I q => h.run pins s σ H Q I (i Q σ H q)⟩

section
variable {W : Wd} {B : Bnd}
/-- one reading, then what follows it -/
theorem tE_bind {p : XD → En → Mm → KD → Prop} {σ : L2.St} {H : Hp} {Q : VK} {env : En} {t : Sta} {Qp : KD} (hH : t.H = H) (he : Ext B.t0 t) (g : Good W t) (r : REnv W t env σ) (h : p (B.ex env) env t.M Qp)
    (k : ∀ d v t', Ext t t' → Ext B.t0 t' → Good W t' → REnv W t' env σ → Rep W t' d v → Qp d t'.M → Q v t'.H) : tE W B p σ H Q :=
  ⟨env, t, Qp, hH, he, g, r, h, fun d v t' e g' rd q => k d v t' e (he.trans e) g' (r.ext (e.fst g)) rd q⟩
theorem tA_bind {p : XD → En → Mm → (List D → Mm → Prop) → Prop} {σ : L2.St} {H : Hp} {Q : List V → Hp → Prop} {env : En} {t : Sta} {Qp : List D → Mm → Prop} (hH : t.H = H) (he : Ext B.t0 t) (g : Good W t) (r : REnv W t env σ) (h : p (B.ex env) env t.M Qp)
    (k : ∀ ds vs t', Ext t t' → Ext B.t0 t' → Good W t' → REnv W t' env σ → Reps W t' ds vs → Qp ds t'.M → Q vs t'.H) : tA W B p σ H Q :=
  ⟨env, t, Qp, hH, he, g, r, h, fun d v t' e g' rd q => k d v t' e (he.trans e) g' (r.ext (e.fst g)) rd q⟩
/-- two operands, one operation -/
theorem tE_two {p q : XD → En → Mm → KD → Prop} {f : D → D → Mm → KD → Prop} {σ : L2.St} {H : Hp} {Q : VK}
    (h : tE W B (fun x env M Q => p x env M fun u M1 => q x env M1 fun v M2 => f u v M2 Q) σ H Q) : tOp (l2 W f) (tE W B p) (tE W B q) σ H Q := by
  obtain ⟨env, t, Qp, rfl, he, g, r, h, l⟩ := h
  refine tE_bind rfl he g r h fun d v t1 e1 he1 g1 r1 rd h1 => tE_bind rfl he1 g1 r1 h1 fun d2 v2 t2 e2 he2 g2 r2 rd2 h2 => ?_
  exact ⟨d, d2, t2, Qp, rfl, g2, rd.ext (e2.fst g1), rd2, h2, fun d3 v3 t3 e3 g3 rd3 q3 => l d3 v3 t3 (e1.trans (e2.trans e3)) g3 rd3 q3⟩
theorem tE_one {p : XD → En → Mm → KD → Prop} {f : D → Mm → KD → Prop} {σ : L2.St} {H : Hp} {Q : VK}
    (h : tE W B (fun x env M Q => p x env M fun u M1 => f u M1 Q) σ H Q) : tUn (l1 W f) (tE W B p) σ H Q := by
  obtain ⟨env, t, Qp, rfl, he, g, r, h, l⟩ := h
  refine tE_bind rfl he g r h fun d v t1 e1 he1 g1 r1 rd h1 => ?_
  exact ⟨d, t1, Qp, rfl, g1, rd, h1, fun d3 v3 t3 e3 g3 rd3 q3 => l d3 v3 t3 (e1.trans e3) g3 rd3 q3⟩
/-- .. of arguments -/
theorem tE_args {p : XD → En → Mm → (List D → Mm → Prop) → Prop} {f : List D → Mm → KD → Prop} {σ : L2.St} {H : Hp} {Q : VK}
    (h : tE W B (fun x env M Q => p x env M fun u M1 => f u M1 Q) σ H Q) : tCB (lL W f) (tA W B p) σ H Q := by
  obtain ⟨env, t, Qp, rfl, he, g, r, h, l⟩ := h
  refine tA_bind rfl he g r h fun d v t1 e1 he1 g1 r1 rd h1 => ?_
  exact ⟨d, t1, Qp, rfl, g1, rd, h1, fun d3 v3 t3 e3 g3 rd3 q3 => l d3 v3 t3 (e1.trans e3) g3 rd3 q3⟩
end
end TL

set_option Elab.async false
set_option linter.all false
set_option maxRecDepth 100000
set_option maxHeartbeats 4000000
/-! Operations by values keep what they ask. -/
namespace TL
open PySem PySem.Spec PyProof.Rows L2

section
variable {W : Wd} {k : Nat} {X : Cx}
/-- an answer that makes nothing -/
theorem lat0 {t : Sta} {Qp : KD} {Q : VK} {d : D} {v : V} (g : Good W t) (l : Lat W t Qp Q) (r : Rep W t d v) (q : Qp d t.M) : Q v t.H := l d v t Ext.refl g r q
theorem latI {t : Sta} {Qp : KD} {Q : VK} {i : Int} (g : Good W t) (l : Lat W t Qp Q) (q : Qp (.int i) t.M) : Q (.int i) t.H := lat0 g l (by simp only [Rep]) q
theorem latB {t : Sta} {Qp : KD} {Q : VK} {b : Bool} (g : Good W t) (l : Lat W t Qp Q) (q : Qp (.bl b) t.M) : Q (.bl b) t.H := lat0 g l (by simp only [Rep]) q
theorem latS {t : Sta} {Qp : KD} {Q : VK} {s : Str} (g : Good W t) (l : Lat W t Qp Q) (hz : s.length ≤ sizeLine) (q : Qp (.str s) t.M) : Q (.str s) t.H := lat0 g l (by simp only [Rep]; exact ⟨trivial, hz⟩) q
theorem newL_use {fz : Bool} {xs : List D} {vs : List V} {t : Sta} {Qp : KD} {Q : VK} {p : Addr} (g : Good W t) (l : Lat W t Qp Q) (h : newL fz xs t.M Qp) (n : t.H p = none) (hl : vs.length ≤ sizeLine) (r : Reps W t xs vs) : Q (.ref p) (upd t.H p (.lst vs)) := by
  unfold newL at h
  cases fz with
  | true =>
    rw [if_pos rfl] at h
    exact l _ _ _ (Ext.add n) (g.add n) (Rep.newLst n hl r) h
  | false =>
    rw [if_neg (by decide)] at h
    exact l _ _ _ (Ext.newM n) (g.newM n (POk.newLst n hl r)) Rep.ref (h p (g.fresh n))
theorem newT_use {xs : List D} {vs : List V} {t : Sta} {Qp : KD} {Q : VK} {p : Addr} (g : Good W t) (l : Lat W t Qp Q) (h : Qp (.tup xs) t.M) (n : t.H p = none) (hl : vs.length ≤ sizeLine) (r : Reps W t xs vs) : Q (.ref p) (upd t.H p (.tup vs)) :=
  l _ _ _ (Ext.add n) (g.add n) (Rep.newTup n hl r) h
theorem repI {t : Sta} {i : Int} {v : V} (h : Rep W t (.int i) v) : v = .int i := by simpa only [Rep] using h
theorem repB {t : Sta} {i : Bool} {v : V} (h : Rep W t (.bl i) v) : v = .bl i := by simpa only [Rep] using h
theorem repS {t : Sta} {i : Str} {v : V} (h : Rep W t (.str i) v) : v = .str i ∧ i.length ≤ sizeLine := by simpa only [Rep] using h
theorem repN {t : Sta} {v : V} (h : Rep W t .non v) : v = .non := by simpa only [Rep] using h
theorem repR {t : Sta} {a : Addr} {v : V} (h : Rep W t (.ref a) v) : v = .ref a := by simpa only [Rep] using h

/-! ### + and the rest -/
theorem op_addD (c : COk W k X) (fz : Bool) : OpR X (binaryOp .Add) (l2 W (opAdd fz)) := by
  intro pins s σ H x y v u Q I rx ry h
  obtain ⟨dx, dy, t, Qp, rfl, g, hx, hy, q, l⟩ := h
  have lists : ∀ a b, catOf t.M dx = some a → catOf t.M dy = some b → a.length + b.length ≤ sizeLine → newL fz (a ++ b) t.M Qp → wpAny (model X.prog X.w) X.A (binaryOp .Add v u) (EP X pins σ Q) X.xe s := by
    intro a b ea eb hl hn
    obtain ⟨p1, vs1, rfl, h1, z1, r1⟩ := catOf_at g hx ea
    obtain ⟨p2, vs2, rfl, h2, z2, r2⟩ := catOf_at g hy eb
    refine op_cat pins s σ t.H _ _ v u Q I rx ry ⟨p1, p2, vs1, vs2, rfl, rfl, h1, h2, ?_, fun p n => ?_⟩
    · rw [r1.length, r2.length]; exact hl
    · exact newL_use g l hn n (by rw [List.length_append, r1.length, r2.length]; exact hl) (r1.append r2)
  have gen : (match catOf t.M dx, catOf t.M dy with | some a, some b => a.length + b.length ≤ sizeLine ∧ newL fz (a ++ b) t.M Qp | _, _ => False) → wpAny (model X.prog X.w) X.A (binaryOp .Add v u) (EP X pins σ Q) X.xe s := by
    intro h
    split at h
    · rename_i a b ea eb; exact lists a b ea eb h.1 h.2
    · exact h.elim
  unfold opAdd at q
  split at q
  · have := repI hx; subst this; have := repI hy; subst this
    exact op_add pins s σ t.H _ _ v u Q I rx ry ⟨_, _, rfl, rfl, latI g l q⟩
  · obtain ⟨rfl, z1⟩ := repS hx; obtain ⟨rfl, z2⟩ := repS hy
    refine op_add_str pins s σ t.H _ _ v u Q I rx ry ⟨_, _, rfl, rfl, q.1, latS g l ?_ q.2⟩
    rw [PySem.strLen_append]; exact q.1
  · rename_i a b
    obtain ⟨p1, vs1, rfl, h1, z1, r1⟩ := tupAt hx
    obtain ⟨p2, vs2, rfl, h2, z2, r2⟩ := tupAt hy
    refine op_catA pins s σ t.H _ _ v u Q I rx ry ⟨p1, p2, vs1, vs2, rfl, rfl, by rw [c.K]; exact h1, by rw [c.K]; exact h2, ?_, fun e => ?_, fun e e2 => ?_, fun e e2 p n => ?_⟩
    · rw [r1.length, r2.length]; exact q.1
    · have e' : a = [] := List.eq_nil_of_length_eq_zero (by rw [← r1.length, e]; rfl)
      subst e'
      exact lat0 g l hy q.2
    · have e' : b = [] := List.eq_nil_of_length_eq_zero (by rw [← r2.length, e2]; rfl)
      subst e'
      have q' := q.2
      rw [List.append_nil] at q'
      exact lat0 g l hx q'
    · exact newT_use g l q.2 n (by rw [List.length_append, r1.length, r2.length]; exact q.1) (r1.append r2)
  · exact gen q
theorem op_binD (c : COk W k X) (o : Operator) (fz : Bool) (ho : (match o with | .Add => true | .Sub => true | .Mult => true | .FloorDiv => true | .Mod => true | .Pow => true | .LShift => true | .RShift => true | _ => false) = true) : OpR X (binaryOp o) (l2 W (binD o fz)) := by
  cases o with
  | Add => exact op_addD c fz
  | Sub =>
    intro pins s σ H x y v u Q I rx ry h
    obtain ⟨dx, dy, t, Qp, rfl, g, hx, hy, q, l⟩ := h
    obtain ⟨i, rfl, q1⟩ := D.asI_inv q
    obtain ⟨j, rfl, q⟩ := D.asI_inv q1
    have := repI hx; subst this; have := repI hy; subst this
    exact op_sub pins s σ t.H _ _ v u Q I rx ry ⟨_, _, rfl, rfl, latI g l q⟩
  | Mult =>
    intro pins s σ H x y v u Q I rx ry h
    obtain ⟨dx, dy, t, Qp, rfl, g, hx, hy, q, l⟩ := h
    obtain ⟨i, rfl, q1⟩ := D.asI_inv q
    obtain ⟨j, rfl, q⟩ := D.asI_inv q1
    have := repI hx; subst this; have := repI hy; subst this
    exact op_mulW pins s σ t.H _ _ v u Q I rx ry ⟨_, _, rfl, rfl, q.1, latI g l q.2⟩
  | FloorDiv =>
    intro pins s σ H x y v u Q I rx ry h
    obtain ⟨dx, dy, t, Qp, rfl, g, hx, hy, q, l⟩ := h
    obtain ⟨i, rfl, q1⟩ := D.asI_inv q
    obtain ⟨j, rfl, q⟩ := D.asI_inv q1
    have := repI hx; subst this; have := repI hy; subst this
    exact op_fdivW pins s σ t.H _ _ v u Q I rx ry ⟨_, _, rfl, rfl, q.1, latI g l q.2⟩
  | Mod =>
    intro pins s σ H x y v u Q I rx ry h
    obtain ⟨dx, dy, t, Qp, rfl, g, hx, hy, q, l⟩ := h
    obtain ⟨i, rfl, q1⟩ := D.asI_inv q
    obtain ⟨j, rfl, q⟩ := D.asI_inv q1
    have := repI hx; subst this; have := repI hy; subst this
    exact op_mod pins s σ t.H _ _ v u Q I rx ry ⟨_, _, rfl, rfl, q.1, latI g l q.2⟩
  | Pow =>
    intro pins s σ H x y v u Q I rx ry h
    obtain ⟨dx, dy, t, Qp, rfl, g, hx, hy, q, l⟩ := h
    obtain ⟨i, rfl, q1⟩ := D.asI_inv q
    obtain ⟨j, rfl, q⟩ := D.asI_inv q1
    have := repI hx; subst this; have := repI hy; subst this
    obtain ⟨ti, rfl⟩ := rx
    obtain ⟨tj, rfl⟩ := ry
    have b : Builtin.Int.intBits i ≤ i.natAbs.log2 + 1 := by unfold Builtin.Int.intBits; split <;> omega
    refine pow_int q.1.1 (Int.le_trans (Int.mul_le_mul_of_nonneg_right (by omega) q.1.1) q.1.2) ⟨.int _, t.H, I.tok _, ⟨_, rfl⟩, latI g l q.2⟩
  | LShift =>
    intro pins s σ H x y v u Q I rx ry h
    obtain ⟨dx, dy, t, Qp, rfl, g, hx, hy, q, l⟩ := h
    obtain ⟨i, rfl, q1⟩ := D.asI_inv q
    obtain ⟨j, rfl, q⟩ := D.asI_inv q1
    have := repI hx; subst this; have := repI hy; subst this
    exact op_shl pins s σ t.H _ _ v u Q I rx ry ⟨_, _, rfl, rfl, q.1, latI g l q.2⟩
  | RShift =>
    intro pins s σ H x y v u Q I rx ry h
    obtain ⟨dx, dy, t, Qp, rfl, g, hx, hy, q, l⟩ := h
    obtain ⟨i, rfl, q1⟩ := D.asI_inv q
    obtain ⟨j, rfl, q⟩ := D.asI_inv q1
    have := repI hx; subst this; have := repI hy; subst this
    exact op_shr pins s σ t.H _ _ v u Q I rx ry ⟨_, _, rfl, rfl, q.1, latI g l q.2⟩
  | _ => cases ho
theorem un_negD (c : COk W k X) : UnR X (unaryOp .USub) (l1 W fun u M Q => u.asI fun i => Q (.int (-i)) M) := by
  intro pins s σ H x v Q I rx h
  obtain ⟨dx, t, Qp, rfl, g, hx, q, l⟩ := h
  cases dx with
  | int i =>
    have := repI hx; subst this
    exact un_neg pins s σ t.H _ v Q I rx ⟨_, rfl, latI g l q⟩
  | _ => exact (show False from q).elim
end
end TL

set_option Elab.async false
set_option linter.all false
set_option maxRecDepth 100000
set_option maxHeartbeats 4000000
/-! Comparisons, memberships, dicts. -/
namespace TL
open PySem PySem.Spec PyProof.Rows L2
section
variable {W : Wd} {t : Sta}
mutual
theorem Rep.dp : ∀ {d : D} {v : V}, Rep W t d v → d.plain = true → Dp W.K t.H v d.py
  | .non, v, h, _ => by cases repN h; simp only [D.py]; exact .non
  | .bl b, v, h, _ => by cases repB h; simp only [D.py]; exact .bl b
  | .int i, v, h, _ => by cases repI h; simp only [D.py]; exact .int i
  | .str s, v, h, _ => by cases (repS h).1; simp only [D.py]; exact .str s
  | .tup xs, v, h, p => by
    obtain ⟨a, vs, rfl, h1, _, h3⟩ := tupAt h
    simp only [D.plain] at p
    simp only [D.py]
    exact .tup h1 (Reps.dp h3 p)
  | .lst xs, v, h, p => by
    obtain ⟨a, vs, rfl, h1, _, h3⟩ := lstAt h
    simp only [D.plain] at p
    simp only [D.py]
    exact .lst (.of h1) (Reps.dp h3 p)
  | .klst xs, v, h, p => by
    obtain ⟨a, vs, rfl, h1, _, h3⟩ := klstAt h
    simp only [D.plain] at p
    simp only [D.py]
    exact .lst h1 (Reps.dp h3 p)
  | .flt _, _, _, p => by simp only [D.plain] at p; cases p
  | .ref _, _, _, p => by simp only [D.plain] at p; cases p
  | .glb _, _, _, p => by simp only [D.plain] at p; cases p
theorem Reps.dp : ∀ {ds : List D} {vs : List V}, Reps W t ds vs → plains ds = true → DpAll W.K t.H vs (pys ds)
  | [], vs, h, _ => by cases Reps.nil_inv h; simp only [pys]; exact .nil
  | d :: ds, vs, h, p => by
    obtain ⟨v, r, rfl, h1, h2⟩ := Reps.cons_inv h
    simp only [plains, Bool.and_eq_true] at p
    simp only [pys]
    exact .cons (Rep.dp h1 p.1) (Reps.dp h2 p.2)
end
mutual
theorem canLay_py : ∀ d : D, d.plain = true → d.py.canLay0 = true
  | .non, _ => by simp only [D.py, PyData.canLay0]
  | .bl _, _ => by simp only [D.py, PyData.canLay0]
  | .int _, _ => by simp only [D.py, PyData.canLay0]
  | .str s, p => by simp only [D.plain] at p; simp only [D.py, PyData.canLay0]; exact p
  | .tup xs, p => by simp only [D.plain] at p; simp only [D.py, PyData.canLay0]; exact canLay_pys xs p
  | .lst xs, p => by simp only [D.plain] at p; simp only [D.py, PyData.canLay0]; exact canLay_pys xs p
  | .klst xs, p => by simp only [D.plain] at p; simp only [D.py, PyData.canLay0]; exact canLay_pys xs p
  | .flt _, p => by simp only [D.plain] at p; cases p
  | .ref _, p => by simp only [D.plain] at p; cases p
  | .glb _, p => by simp only [D.plain] at p; cases p
theorem canLay_pys : ∀ ds : List D, plains ds = true → PyData.canLayAll0 (pys ds) = true
  | [], _ => by simp only [pys, PyData.canLayAll0]
  | d :: ds, p => by
    simp only [plains, Bool.and_eq_true] at p
    simp only [pys, PyData.canLayAll0, Bool.and_eq_true]
    exact ⟨canLay_py d p.1, canLay_pys ds p.2⟩
end
mutual
theorem depth_py : ∀ d : D, d.py.depth ≤ d.deep + 1
  | .tup xs => by simp only [D.py, PyData.depth, D.deep]; have := depth_pys xs; omega
  | .lst xs => by simp only [D.py, PyData.depth, D.deep]; have := depth_pys xs; omega
  | .klst xs => by simp only [D.py, PyData.depth, D.deep]; have := depth_pys xs; omega
  | .non => by simp only [D.py, PyData.depth]; omega
  | .bl _ => by simp only [D.py, PyData.depth]; omega
  | .int _ => by simp only [D.py, PyData.depth]; omega
  | .str _ => by simp only [D.py, PyData.depth]; omega
  | .flt _ => by simp only [D.py, PyData.depth]; omega
  | .ref _ => by simp only [D.py, PyData.depth]; omega
  | .glb _ => by simp only [D.py, PyData.depth]; omega
  | .exc _ _ => by simp only [D.py, PyData.depth]; omega
theorem depth_pys : ∀ ds : List D, PyData.depthAll (pys ds) ≤ deeps ds + 1
  | [] => by simp only [pys, PyData.depthAll]; omega
  | d :: ds => by
    simp only [pys, PyData.depthAll, deeps]
    have h1 := depth_py d
    have h2 := depth_pys ds
    omega
end
theorem pok_shaped {d : D} (p : d.pok = true) : SeqAt.shaped d.py = true := by
  unfold D.pok at p
  simp only [Bool.and_eq_true, decide_eq_true_eq] at p
  unfold SeqAt.shaped
  simp only [Bool.and_eq_true, decide_eq_true_eq]
  have := depth_py d
  exact ⟨canLay_py d p.1, by omega⟩
theorem pok_plain {d : D} (p : d.pok = true) : d.plain = true := by
  unfold D.pok at p
  simp only [Bool.and_eq_true] at p
  exact p.1
/-- as it is now -/
theorem now_dp {d : D} {v : V} (g : Good W t) (h : Rep W t d v) (p : (now t.M d).plain = true) : Dp W.K t.H v (now t.M d).py := by
  cases d with
  | ref a =>
    have hv := repR h
    subst hv
    cases e : t.M a with
    | none =>
      have e2 : now t.M (.ref a) = .ref a := by simp only [now, e]
      rw [e2] at p; simp only [D.plain] at p; cases p
    | some o =>
      cases o with
      | lst xs =>
        have e2 : now t.M (.ref a) = .lst xs := by simp only [now, e]
        rw [e2] at p ⊢
        obtain ⟨vs, h1, h2, h3⟩ := g.at_ a _ e
        simp only [D.plain] at p
        simp only [D.py]
        exact .lst (.of h1) (h3.dp p)
      | dct _ =>
        have e2 : now t.M (.ref a) = .ref a := by simp only [now, e]
        rw [e2] at p; simp only [D.plain] at p; cases p
      | ins _ _ =>
        have e2 : now t.M (.ref a) = .ref a := by simp only [now, e]
        rw [e2] at p; simp only [D.plain] at p; cases p
      | tab _ =>
        have e2 : now t.M (.ref a) = .ref a := by simp only [now, e]
        rw [e2] at p; simp only [D.plain] at p; cases p
  | _ => exact h.dp p

/-! entries -/
theorem RepKs.get {κ : Type} [DecidableEq κ] : ∀ {ds : List (κ × D)} {vs : List (κ × V)} (q : κ), RepKs W t ds vs → (kget ds q = none ∧ valV vs q = none) ∨ ∃ d v, kget ds q = some d ∧ valV vs q = some v ∧ Rep W t d v
  | [], vs, q, h => by
    have e : vs = [] := h
    subst e
    exact .inl ⟨rfl, rfl⟩
  | (k, d) :: ds, vs, q, h => by
    obtain ⟨v, r, rfl, h1, h2⟩ := h
    by_cases e : k = q
    · refine .inr ⟨d, v, ?_, valV_pos e, h1⟩
      simp [kget, e]
    · have e1 : kget ((k, d) :: ds) q = kget ds q := by simp [kget, List.find?_cons, e]
      rw [e1, valV_neg (p := (k, v)) e]
      exact RepKs.get q h2
theorem RepKs.any {κ : Type} [DecidableEq κ] {q : κ} : ∀ {ds : List (κ × D)} {vs : List (κ × V)}, RepKs W t ds vs → (ds.any fun kv => decide (kv.1 = q)) = (vs.any fun kv => decide (kv.1 = q))
  | [], vs, h => by
    have e : vs = [] := h
    subst e; rfl
  | (k, d) :: ds, vs, h => by
    obtain ⟨v, r, rfl, h1, h2⟩ := h
    simp only [List.any_cons, RepKs.any h2]
theorem RepKs.mapk {κ : Type} [DecidableEq κ] {q : κ} {d0 : D} {v0 : V} (r0 : Rep W t d0 v0) : ∀ {ds : List (κ × D)} {vs : List (κ × V)}, RepKs W t ds vs → RepKs W t (ds.map fun kv => if kv.1 = q then (kv.1, d0) else kv) (vs.map fun kv => if kv.1 = q then (kv.1, v0) else kv)
  | [], vs, h => by
    have e : vs = [] := h
    subst e; exact rfl
  | (k, d) :: ds, vs, h => by
    obtain ⟨v, r, rfl, h1, h2⟩ := h
    simp only [List.map_cons]
    by_cases e : k = q
    · simp only [e, if_true]
      exact ⟨v0, _, rfl, r0, RepKs.mapk r0 h2⟩
    · simp only [e, if_false]
      exact ⟨v, _, rfl, h1, RepKs.mapk r0 h2⟩
theorem RepKs.app {κ : Type} {q : κ} {d0 : D} {v0 : V} (r0 : Rep W t d0 v0) : ∀ {ds : List (κ × D)} {vs : List (κ × V)}, RepKs W t ds vs → RepKs W t (ds ++ [(q, d0)]) (vs ++ [(q, v0)])
  | [], vs, h => by
    have e : vs = [] := h
    subst e; exact ⟨v0, [], rfl, r0, rfl⟩
  | (k, d) :: ds, vs, h => by
    obtain ⟨v, r, rfl, h1, h2⟩ := h
    exact ⟨v, _, rfl, h1, RepKs.app r0 h2⟩
theorem RepKs.put {κ : Type} [DecidableEq κ] {q : κ} {d0 : D} {v0 : V} (r0 : Rep W t d0 v0) {ds : List (κ × D)} {vs : List (κ × V)} (h : RepKs W t ds vs) : RepKs W t (kput ds q d0) (L2.putK vs q v0) := by
  unfold kput L2.putK
  rw [h.any (q := q)]
  split
  · exact h.mapk r0
  · exact h.app r0
theorem RepKs.merge {kws : List (Key × D)} : ∀ {ws : List (Key × V)} {kvs : List (Key × D)} {vs : List (Key × V)}, RepKs W t kws ws → RepKs W t kvs vs → RepKs W t (kmerge kvs kws) (L2.mergeK vs ws) := by
  induction kws with
  | nil =>
    intro ws kvs vs h g
    have e : ws = [] := h
    subst e; exact g
  | cons x kws ih =>
    intro ws kvs vs h g
    obtain ⟨k, d⟩ := x
    obtain ⟨v, r, rfl, h1, h2⟩ := h
    show RepKs W t (kmerge (kput kvs k d) kws) (L2.mergeK (L2.putK vs k v) r)
    exact ih h2 (g.put h1)
theorem kput_len {κ : Type} [DecidableEq κ] (ds : List (κ × V)) (q : κ) (d : V) : (L2.putK ds q d).length ≤ ds.length + 1 := by
  unfold L2.putK
  split
  · rw [List.length_map]; omega
  · rw [List.length_append]; exact Nat.le_refl _
theorem keyOf_at {d : D} {v : V} {q : Key} (h : Rep W t d v) (e : keyOf d = some q) : v = kV q := by
  cases d with
  | int i => cases e; exact repI h
  | str i => cases e; exact (repS h).1
  | _ => cases e
theorem dctOf_at {d : D} {v : V} {kvs : List (Key × D)} (g : Good W t) (h : Rep W t d v) (e : dctOf t.M d = some kvs) : ∃ a vs, d = .ref a ∧ v = .ref a ∧ t.M a = some (.dct kvs) ∧ t.H a = some (.dK vs) ∧ vs.length ≤ sizeLine ∧ RepKs W t kvs vs := by
  cases d with
  | ref a =>
    have hv := repR h
    subst hv
    unfold dctOf at e
    dsimp only at e
    split at e
    · rename_i q
      cases e
      obtain ⟨vs, h1, h2, h3⟩ := g.at_ a _ q
      exact ⟨a, vs, rfl, rfl, q, h1, h2, h3⟩
    · cases e
  | _ => cases e
theorem dctOf_none {M : Mm} {d : D} {xs : List D} (e : seqOf M d = some xs) : dctOf M d = none := by
  cases d with
  | ref a =>
    have e' : (match M a with | some (.lst xs) => some xs | _ => none) = some xs := e
    show (match M a with | some (.dct kvs) => some kvs | _ => none) = none
    split at e'
    · rename_i q; rw [q]
    · cases e'
  | _ => rfl

/-! flat things -/
theorem flat_at {d : D} {v : V} (h : Rep W t d v) (f : d.flat = true) : flatV v = true := by
  cases d with
  | non => cases repN h; rfl
  | bl _ => cases repB h; rfl
  | int _ => cases repI h; rfl
  | str _ => cases (repS h).1; rfl
  | _ => cases f
theorem flats_at : ∀ {ds : List D} {vs : List V}, Reps W t ds vs → ds.all D.flat = true → vs.all flatV = true
  | [], vs, h, _ => by cases Reps.nil_inv h; rfl
  | d :: ds, vs, h, f => by
    obtain ⟨v, r, rfl, h1, h2⟩ := Reps.cons_inv h
    simp only [List.all_cons, Bool.and_eq_true] at f ⊢
    exact ⟨flat_at h1 f.1, flats_at h2 f.2⟩
theorem flatEq_at {d e : D} {v w : V} (h : Rep W t d v) (h2 : Rep W t e w) (f : d.flat = true) (f2 : e.flat = true) : eqV v w = flatEq d e := by
  cases d with
  | non => cases repN h; cases e with
    | non => cases repN h2; rfl
    | bl _ => cases repB h2; rfl
    | int _ => cases repI h2; rfl
    | str _ => cases (repS h2).1; rfl
    | _ => cases f2
  | bl _ => cases repB h; cases e with
    | non => cases repN h2; rfl
    | bl _ => cases repB h2; rfl
    | int _ => cases repI h2; rfl
    | str _ => cases (repS h2).1; rfl
    | _ => cases f2
  | int _ => cases repI h; cases e with
    | non => cases repN h2; rfl
    | bl _ => cases repB h2; rfl
    | int _ => cases repI h2; rfl
    | str _ => cases (repS h2).1; rfl
    | _ => cases f2
  | str _ => cases (repS h).1; cases e with
    | non => cases repN h2; rfl
    | bl _ => cases repB h2; rfl
    | int _ => cases repI h2; rfl
    | str _ => cases (repS h2).1; rfl
    | _ => cases f2
  | _ => cases f
theorem inV_at {d : D} {v : V} (h : Rep W t d v) (f : d.flat = true) : ∀ {ds : List D} {vs : List V}, Reps W t ds vs → ds.all D.flat = true → inV v vs = ds.any fun z => flatEq z d
  | [], vs, h, _ => by cases Reps.nil_inv h; rfl
  | e :: ds, vs, g, fs => by
    obtain ⟨w, r, rfl, h1, h2⟩ := Reps.cons_inv g
    simp only [List.all_cons, Bool.and_eq_true] at fs
    unfold inV
    simp only [List.any_cons]
    rw [flatEq_at h1 h fs.1 f, ← inV_at h f h2 fs.2]
    rfl
end

section
variable {W : Wd} {k : Nat} {X : Cx}
/-- the comparisons of two ints -/
theorem cmpI {o : CmpOp} {g : Int → Int → Bool} (ho : OpR X (compareOp o) (rI0 fun i j => .bl (g i j))) : OpR X (compareOp o) (l2 W fun x y M Q => x.asI fun i => y.asI fun j => Q (.bl (g i j)) M) := by
  intro pins s σ H x y v u Q I rx ry h
  obtain ⟨dx, dy, t, Qp, rfl, gd, hx, hy, q, l⟩ := h
  obtain ⟨i, rfl, q1⟩ := D.asI_inv q
  obtain ⟨j, rfl, q⟩ := D.asI_inv q1
  have := repI hx; subst this; have := repI hy; subst this
  exact ho pins s σ t.H _ _ v u Q I rx ry ⟨_, _, rfl, rfl, latB gd l q⟩
theorem op_eqT (c : COk W k X) (neg : Bool) : OpR X (compareOp (if neg then .NotEq else .Eq)) (l2 W fun x y M Q => eqK M x y fun b => Q (.bl (if neg then !b else b)) M) := by
  intro pins s σ H x y v u Q I rx ry h
  obtain ⟨dx, dy, t, Qp, rfl, gd, hx, hy, q, l⟩ := h
  have fin : ∀ b : Bool, scal x y = true → decide (x = y) = b → Qp (.bl (if neg then !b else b)) t.M → wpAny (model X.prog X.w) X.A (compareOp (if neg then .NotEq else .Eq) v u) (EP X pins σ Q) X.xe s := by
    intro b hs e hq
    subst e
    cases neg with
    | true => exact op_ne pins s σ t.H _ _ v u Q I rx ry ⟨hs, latB gd l hq⟩
    | false => exact op_eq pins s σ t.H _ _ v u Q I rx ry ⟨hs, latB gd l hq⟩
  have gen : eqP (now t.M dx) (now t.M dy) (fun b => Qp (.bl (if neg then !b else b)) t.M) → wpAny (model X.prog X.w) X.A (compareOp (if neg then .NotEq else .Eq) v u) (EP X pins σ Q) X.xe s := by
    rintro ⟨p1, p2, hq⟩
    have d1 := now_dp gd hx (pok_plain p1)
    have d2 := now_dp gd hy (pok_plain p2)
    rw [← c.K] at d1 d2
    cases neg with
    | true => exact op_neD c.hu pins s σ t.H _ _ v u Q I rx ry ⟨_, _, d1, d2, pok_shaped p1, pok_shaped p2, latB gd l hq⟩
    | false => exact op_eqD c.hu pins s σ t.H _ _ v u Q I rx ry ⟨_, _, d1, d2, pok_shaped p1, pok_shaped p2, latB gd l hq⟩
  unfold eqK at q
  split at q
  · have := repI hx; subst this; have := repI hy; subst this
    exact fin _ rfl (by simp) q
  · obtain ⟨rfl, _⟩ := repS hx; obtain ⟨rfl, _⟩ := repS hy
    exact fin _ rfl (by simp) q
  · have := repB hx; subst this; have := repB hy; subst this
    exact fin _ rfl (by simp) q
  · exact gen q
theorem op_inT (c : COk W k X) (neg : Bool) : OpR X (compareOp (if neg then .NotIn else .In)) (l2 W fun x y M Q => inK M x y fun b => Q (.bl (if neg then !b else b)) M) := by
  intro pins s σ H x y v u Q I rx ry h
  obtain ⟨dx, dy, t, Qp, rfl, gd, hx, hy, q, l⟩ := h
  unfold inK at q
  split at q
  · rename_i a b
    obtain ⟨rfl, _⟩ := repS hx; obtain ⟨rfl, _⟩ := repS hy
    obtain ⟨h1, hq⟩ := q
    obtain ⟨⟨ls⟩⟩ := a
    match ls, h1 with
    | [z], _ =>
      cases neg with
      | true => exact op_notIn_sign pins s σ t.H _ _ v u Q I rx ry ⟨z, b, rfl, rfl, latB gd l hq⟩
      | false => exact op_in_sign pins s σ t.H _ _ v u Q I rx ry ⟨z, b, rfl, rfl, latB gd l hq⟩
  · split at q
    · rename_i kvs kk ed ek
      obtain ⟨a, vs, rfl, rfl, _, h1, h2, h3⟩ := dctOf_at gd hy ed
      have ey := keyOf_at hx ek
      have hs : (kget kvs kk).isSome = (valV vs kk).isSome := by
        rcases h3.get kk with ⟨e1, e2⟩ | ⟨d, w, e1, e2, _⟩ <;> rw [e1, e2] <;> rfl
      rw [hs] at q
      subst ey
      obtain rfl : u = Value.ref a := ry
      cases neg with
      | true => exact d_notIn c.hu1 I (DGet.k (k := kk) h1) rx fun s3 I3 => ⟨.bl _, t.H, I3, rfl, latB gd l q⟩
      | false => exact d_in c.hu1 I (DGet.k (k := kk) h1) rx fun s3 I3 => ⟨.bl _, t.H, I3, rfl, latB gd l q⟩
    · exact q.elim
    · split at q
      · rename_i xs es
        obtain ⟨a, vs, rfl, h1, _, h3⟩ := seqOf_at gd hy es
        obtain ⟨f1, f2, hq⟩ := q
        have hs := inV_at hx f1 h3 f2
        rw [← hs] at hq
        rw [← c.K] at h1
        cases neg with
        | true => exact op_notIn_seq pins s σ t.H _ _ v u Q I rx ry ⟨a, vs, rfl, h1, flat_at hx f1, flats_at h3 f2, latB gd l hq⟩
        | false => exact op_in_seq pins s σ t.H _ _ v u Q I rx ry ⟨a, vs, rfl, h1, flat_at hx f1, flats_at h3 f2, latB gd l hq⟩
      · exact q.elim
theorem isN_at {t : Sta} {d : D} {v : V} (h : Rep W t d v) (n : d ≠ .non) (ng : ∀ x, d ≠ .glb x) : v ≠ .non := by
  cases d with
  | non => exact absurd rfl n
  | bl _ => cases repB h; simp
  | int _ => cases repI h; simp
  | str _ => cases (repS h).1; simp
  | flt b => have e : v = .flt b := by simpa only [Rep] using h
             subst e; simp
  | tup _ => obtain ⟨_, _, rfl, _⟩ := tupAt h; simp
  | lst _ => obtain ⟨_, _, rfl, _⟩ := lstAt h; simp
  | klst _ => obtain ⟨_, _, rfl, _⟩ := klstAt h; simp
  | ref _ => cases repR h; simp
  | glb x => exact absurd rfl (ng x)
  | exc C d =>
    simp only [Rep] at h
    obtain ⟨_, _, _, _, rfl, _⟩ := h
    simp
theorem op_isT (c : COk W k X) (neg : Bool) : OpR X (compareOp (if neg then .IsNot else .Is)) (l2 W fun x y M Q => cmpK (if neg then .IsNot else .Is) M x y fun b => Q (.bl b) M) := by
  intro pins s σ H x y v u Q I rx ry h
  obtain ⟨dx, dy, t, Qp, rfl, gd, hx, hy, q, l⟩ := h
  have fin : ∀ b : Bool, y = .non → decide (x = .non) = b → Qp (.bl (if neg then !b else b)) t.M → wpAny (model X.prog X.w) X.A (compareOp (if neg then .IsNot else .Is) v u) (EP X pins σ Q) X.xe s := by
    intro b hs e hq
    subst e
    cases neg with
    | true => exact op_notN pins s σ t.H _ _ v u Q I rx ry ⟨hs, latB gd l hq⟩
    | false => exact op_isN pins s σ t.H _ _ v u Q I rx ry ⟨hs, latB gd l hq⟩
  cases neg with
  | true =>
    unfold cmpK at q
    simp only [if_true] at q
    split at q
    · exact fin true (repN hy) (by rw [repN hx]; rfl) q
    · rename_i a b
      exact op_notBl pins s σ t.H _ _ v u Q I rx ry ⟨a, b, repB hx, repB hy, latB gd l (by rw [show decide (a = b) = (a == b) from by cases a <;> cases b <;> rfl]; exact q)⟩
    · exact q.elim
    · rename_i h1 h2
      refine fin false (repN hy) ?_ q
      exact decide_eq_false (isN_at hx (fun e => h1 e) (fun z e => h2 z e))
    · exact q.elim
  | false =>
    unfold cmpK at q
    simp only [Bool.false_eq_true, if_false] at q
    split at q
    · exact fin true (repN hy) (by rw [repN hx]; rfl) q
    · rename_i a b
      exact op_isBl pins s σ t.H _ _ v u Q I rx ry ⟨a, b, repB hx, repB hy, latB gd l (by rw [show decide (a = b) = (a == b) from by cases a <;> cases b <;> rfl]; exact q)⟩
    · exact q.elim
    · rename_i h1 h2
      refine fin false (repN hy) ?_ q
      exact decide_eq_false (isN_at hx (fun e => h1 e) (fun z e => h2 z e))
    · exact q.elim
theorem op_cmpD (c : COk W k X) (o : CmpOp) : OpR X (compareOp o) (l2 W fun x y M Q => cmpK o M x y fun b => Q (.bl b) M) := by
  cases o with
  | Eq => exact op_eqT c false
  | NotEq => exact op_eqT c true
  | Lt => exact cmpI op_lt
  | LtE => exact cmpI op_le
  | Gt => exact cmpI op_gt
  | GtE => exact cmpI op_ge
  | Is => exact op_isT c false
  | IsNot => exact op_isT c true
  | In => exact op_inT c false
  | NotIn => exact op_inT c true
end
end TL

set_option Elab.async false
set_option linter.all false
set_option maxRecDepth 100000
set_option maxHeartbeats 4000000
/-! Subscripts, slices, stores. -/
namespace TL
open PySem PySem.Spec PyProof.Rows L2
section
variable {W : Wd} {k : Nat} {X : Cx}
/-- a dict's entry -/
theorem ix_dict (hu : X.A.units + 1 < cLine) : IxR X (fun x y H Q => ∃ a v, x = .ref a ∧ DGet H a y (some v) ∧ Q v H) := by
  intro value slice pins s σ H x y v u Q I rx ry h hs
  obtain ⟨a, z, rfl, g, q⟩ := h
  obtain rfl : v = Value.ref a := rx
  exact tail_any (dict_typeIs I g) PySem.F.slot_dict_getitem.lookup (d_getItem hu I g ry fun w' s3 I3 rw' => ⟨z, H, I3, rw', q⟩) hs
theorem atI_rep {t : Sta} {ds : List D} {vs : List V} {i : Int} {d : D} (h : Reps W t ds vs) (e : atI ds i = some d) : ∃ v, atI vs i = some v ∧ Rep W t d v := by
  unfold atI at e ⊢
  rw [h.length]
  cases q : ixN ds.length i with
  | none => rw [q] at e; cases e
  | some j =>
    rw [q] at e
    obtain ⟨v, h1, h2⟩ := h.get (show ds[j]? = some d from e)
    exact ⟨v, h1, h2⟩
theorem ix_D (c : COk W k X) : IxR X (l2 W fun x y M Q => ixK M x y fun d => Q d M) := by
  intro value slice pins s σ H x y v u Q I rx ry h hs
  obtain ⟨dx, dy, t, Qp, rfl, gd, hx, hy, q, l⟩ := h
  unfold ixK at q
  split at q
  · rename_i z i
    obtain ⟨rfl, hz⟩ := repS hx
    have := repI hy; subst this
    split at q
    · rename_i ch ec
      exact ix_str value slice pins s σ t.H _ _ v u Q I rx ry ⟨z, i, ch, rfl, rfl, hz, ec, latS gd l (by show 1 ≤ sizeLine; decide) q⟩ hs
    · exact q.elim
  · split at q
    · rename_i kvs kk ed ek
      obtain ⟨a, vs, rfl, rfl, _, h1, h2, h3⟩ := dctOf_at gd hx ed
      have ey := keyOf_at hy ek
      subst ey
      obtain ⟨d, e, q⟩ := optK_inv q
      rcases h3.get kk with ⟨e1, e2⟩ | ⟨d', w, e1, e2, r⟩
      · rw [e1] at e; cases e
      · rw [e1] at e; cases e
        have g := DGet.k (k := kk) h1
        rw [e2] at g
        exact ix_dict c.hu1 value slice pins s σ t.H _ _ v u Q I rx ry ⟨a, w, rfl, g, lat0 gd l r q⟩ hs
    · exact q.elim
    · split at q
      · rename_i xs i es _
        obtain ⟨a, vs, rfl, h1, _, h3⟩ := seqOf_at gd hx es
        have := repI hy; subst this
        obtain ⟨d, e, q⟩ := optK_inv q
        obtain ⟨w, e2, r⟩ := atI_rep h3 e
        rw [← c.K] at h1
        rcases h1 with h1 | h1
        · exact ix_list value slice pins s σ t.H _ _ v u Q I rx ry ⟨a, vs, i, w, rfl, rfl, h1, e2, lat0 gd l r q⟩ hs
        · exact ix_tup value slice pins s σ t.H _ _ v u Q I rx ry ⟨a, vs, i, w, rfl, rfl, h1, e2, lat0 gd l r q⟩ hs
      · exact q.elim
theorem cut_rep {t : Sta} {ds : List D} {vs : List V} (h : Reps W t ds vs) (lo hi : Option Int) : Reps W t (cutD ds lo hi) (cutV vs lo hi) := by
  unfold cutD cutV
  rw [h.length]
  exact (h.drop _).take _
theorem cutS_len (z : Str) (lo hi : Option Int) : (cutS z lo hi).length ≤ z.length := by
  unfold cutS Str.length
  simp only [List.size_toArray, List.length_take, List.length_drop, Array.length_toList]
  omega
/-- a slice by values -/
def lSl (W : Wd) (fz : Bool) : V → Option Int → Option Int → Hp → VK → Prop := fun x lo hi H Q => ∃ dx t Qp, t.H = H ∧ Good W t ∧ Rep W t dx x ∧ slK fz t.M dx lo hi Qp ∧ Lat W t Qp Q
theorem sl_D (c : COk W k X) (fz : Bool) : SlR X (lSl W fz) := by
  intro pins s σ H x v vl vu lo hi sl Q I rx hs pl pu h
  obtain ⟨dx, t, Qp, rfl, gd, hx, q, l⟩ := h
  unfold slK at q
  split at q
  · obtain ⟨rfl, hz⟩ := repS hx
    exact sl_str pins s σ t.H _ v vl vu lo hi sl Q I rx hs pl pu ⟨_, rfl, hz, latS gd l (Nat.le_trans (cutS_len _ _ _) hz) q⟩
  · rename_i xs
    obtain ⟨a, vs, rfl, h1, h2, h3⟩ := tupAt hx
    rw [← c.K] at h1
    refine sl_tupA pins s σ t.H _ v vl vu lo hi sl Q I rx hs pl pu ⟨a, vs, rfl, h1, fun e => ?_, fun e p n => ?_⟩
    · have e' : cutD xs lo hi = xs := by
        rw [h3.length] at e
        unfold cutD
        rw [e.1, e.2, List.drop_zero]
        exact List.take_of_length_le (by omega)
      rw [e'] at q
      exact lat0 gd l hx q
    · exact newT_use gd l q n (Nat.le_trans (cutV_length _ _ _) h2) (cut_rep h3 lo hi)
  · split at q
    · rename_i xs es
      obtain ⟨a, vs, rfl, h1, h2, h3⟩ := lstOf_at gd hx es
      rw [← c.K] at h1
      exact sl_list pins s σ t.H _ v vl vu lo hi sl Q I rx hs pl pu ⟨a, vs, rfl, h1, fun p n => newL_use gd l q n (Nat.le_trans (cutV_length _ _ _) h2) (cut_rep h3 lo hi)⟩
    · exact q.elim
/-- o[i] = d by values -/
def lSet (W : Wd) : V → V → V → Hp → (Hp → Prop) → Prop := fun o i v H Q => ∃ (do_ di dv : D) (t : Sta) (Qp : Mm → Prop), t.H = H ∧ Good W t ∧ Rep W t do_ o ∧ Rep W t di i ∧ Rep W t dv v ∧ setK t.M do_ di dv Qp ∧
  ∀ t', Ext t t' → Good W t' → Qp t'.M → Q t'.H
theorem set_D (c : COk W k X) : PSet X (lSet W) := by
  intro pins s σ H o i v ov iv u Q I ro ri rv h
  obtain ⟨d1, d2, d3, t, Qp, rfl, gd, h1, h2, h3, q, l⟩ := h
  cases d1 with
  | ref p =>
    have := repR h1; subst this
    unfold setK at q
    dsimp only at q
    split at q
    · rename_i xs em
      obtain ⟨vs, a1, a2, a3⟩ := gd.at_ p _ em
      obtain ⟨j, rfl, q⟩ := D.asI_inv q
      have := repI h2; subst this
      obtain ⟨n, en, q⟩ := someK_inv q
      refine set_list pins s σ t.H _ _ v ov iv u Q I ro ri rv ⟨p, vs, j, n, rfl, rfl, a1, by rw [a3.length]; exact en, ?_⟩
      refine l (t.put p (.lst (vs.set n v)) (.lst (xs.set n d3))) (Ext.put em) (gd.put em ?_) q
      exact ⟨_, upd_same, by rw [List.length_set]; exact a2, (a3.set h3 n).ext (Fst.put (gd.nfM em))⟩
    · rename_i kvs em
      obtain ⟨vs, a1, a2, a3⟩ := gd.at_ p _ em
      obtain ⟨kk, ek, q⟩ := someK_inv q
      have := keyOf_at h2 ek; subst this
      obtain rfl : ov = Value.ref p := ro
      refine d_setItem c.hu1 I (DPut.k (k := kk) (v := v) a1 (by rw [a3.length]; exact q.1)) ri rv fun s' I' => ⟨_, I', ?_⟩
      refine l (t.put p (.dK (L2.putK vs kk v)) (.dct (kput kvs kk d3))) (Ext.put em) (gd.put em ?_) q.2
      refine ⟨_, upd_same, ?_, (a3.put h3).ext (Fst.put (gd.nfM em))⟩
      have := kput_len vs kk v
      have h := q.1
      rw [← a3.length] at h
      omega
    · exact q.elim
  | _ => exact (show False from q).elim
end
end TL

set_option Elab.async false
set_option linter.all false
set_option maxRecDepth 100000
set_option maxHeartbeats 4000000
/-! Built-in functions and methods by values. -/
namespace TL
open PySem PySem.Spec PyProof.Rows L2
section
variable {W : Wd} {t : Sta}
theorem ints_rep : ∀ {ds : List D} {vs : List V} {ns : List Int}, Reps W t ds vs → intsOf ds = some ns → vs = ns.map V.int
  | [], vs, ns, h, e => by cases Reps.nil_inv h; cases e; rfl
  | d :: ds, vs, ns, h, e => by
    obtain ⟨v, r, rfl, h1, h2⟩ := Reps.cons_inv h
    cases d with
    | int i =>
      obtain ⟨m, em, rfl⟩ := Option.map_eq_some_iff.mp (show (intsOf ds).map (i :: ·) = some ns from e)
      rw [ints_rep h2 em, repI h1]; rfl
    | _ => cases e
theorem bools_rep : ∀ {ds : List D} {vs : List V} {ns : List Bool}, Reps W t ds vs → boolsOf ds = some ns → vs = ns.map V.bl
  | [], vs, ns, h, e => by cases Reps.nil_inv h; cases e; rfl
  | d :: ds, vs, ns, h, e => by
    obtain ⟨v, r, rfl, h1, h2⟩ := Reps.cons_inv h
    cases d with
    | bl i =>
      obtain ⟨m, em, rfl⟩ := Option.map_eq_some_iff.mp (show (boolsOf ds).map (i :: ·) = some ns from e)
      rw [bools_rep h2 em, repB h1]; rfl
    | _ => cases e
theorem strs_rep : ∀ {ds : List D} {vs : List V} {ns : List Str}, Reps W t ds vs → strsOf ds = some ns → vs = ns.map V.str
  | [], vs, ns, h, e => by cases Reps.nil_inv h; cases e; rfl
  | d :: ds, vs, ns, h, e => by
    obtain ⟨v, r, rfl, h1, h2⟩ := Reps.cons_inv h
    cases d with
    | str i =>
      obtain ⟨m, em, rfl⟩ := Option.map_eq_some_iff.mp (show (strsOf ds).map (i :: ·) = some ns from e)
      rw [strs_rep h2 em, (repS h1).1]; rfl
    | _ => cases e
theorem reps_ints : ∀ ns : List Int, Reps W t (ns.map .int) (ns.map V.int)
  | [] => Reps.nil
  | n :: ns => Reps.cons (by simp only [Rep]) (reps_ints ns)
theorem keysI_rep : ∀ {ds : List (Key × D)} {vs : List (Key × V)} {ns : List Int}, RepKs W t ds vs → keysI ds = some ns → vs.map (·.1) = ns.map Sum.inl
  | [], vs, ns, h, e => by
    have e' : vs = [] := h
    subst e'; cases e; rfl
  | (q, d) :: ds, vs, ns, h, e => by
    obtain ⟨v, r, rfl, h1, h2⟩ := h
    cases q with
    | inl i =>
      obtain ⟨m, em, rfl⟩ := Option.map_eq_some_iff.mp (show (keysI ds).map (i :: ·) = some ns from e)
      simp only [List.map_cons, keysI_rep h2 em]
    | inr i => cases e
theorem insI_perm (x : Int) : ∀ ns : List Int, (insI x ns).Perm (x :: ns)
  | [] => .refl _
  | y :: r => by
    unfold insI
    split
    · exact .refl _
    · exact ((insI_perm x r).cons y).trans (.swap _ _ _)
theorem sortI_perm : ∀ ns : List Int, (sortI ns).Perm ns
  | [] => .refl _
  | x :: r => (insI_perm x (sortI r)).trans ((sortI_perm r).cons x)
theorem insI_sorted (x : Int) : ∀ {ns : List Int}, ns.Pairwise (· ≤ ·) → (insI x ns).Pairwise (· ≤ ·)
  | [], _ => by simp [insI]
  | y :: r, h => by
    obtain ⟨h1, h2⟩ := List.pairwise_cons.mp h
    unfold insI
    split
    · rename_i c
      refine List.pairwise_cons.mpr ⟨fun z hz => ?_, h⟩
      rcases List.mem_cons.mp hz with rfl | hz
      · exact c
      · exact Int.le_trans c (h1 z hz)
    · rename_i c
      refine List.pairwise_cons.mpr ⟨fun z hz => ?_, insI_sorted x h2⟩
      rcases List.mem_cons.mp ((insI_perm x r).mem_iff.mp hz) with rfl | hz
      · omega
      · exact h1 z hz
theorem sortI_sorted : ∀ ns : List Int, (sortI ns).Pairwise (· ≤ ·)
  | [] => .nil
  | x :: r => insI_sorted x (sortI_sorted r)
theorem sorted_uniq : ∀ {a b : List Int}, a.Perm b → a.Pairwise (· ≤ ·) → b.Pairwise (· ≤ ·) → a = b
  | [], b, p, _, _ => by rw [List.nil_perm.mp p]
  | x :: a, b, p, ha, hb => by
    cases b with
    | nil => exact absurd p.symm (by simp)
    | cons y b =>
      obtain ⟨a1, a2⟩ := List.pairwise_cons.mp ha
      obtain ⟨b1, b2⟩ := List.pairwise_cons.mp hb
      have e : x = y := by
        have h1 : x ∈ y :: b := p.mem_iff.mp List.mem_cons_self
        have h2 : y ∈ x :: a := p.mem_iff.mpr List.mem_cons_self
        rcases List.mem_cons.mp h1 with e | h1
        · exact e
        · rcases List.mem_cons.mp h2 with e | h2
          · exact e.symm
          · have := a1 y h2
            have := b1 x h1
            omega
      subst e
      rw [sorted_uniq (List.Perm.cons_inv p) a2 b2]
theorem maxL_spec : ∀ (x : Int) (r : List Int), maxL x r ∈ x :: r ∧ ∀ y ∈ x :: r, y ≤ maxL x r
  | x, [] => ⟨by simp [maxL], by simp [maxL]⟩
  | x, z :: r => by
    unfold maxL
    obtain ⟨h1, h2⟩ := maxL_spec (if z > x then z else x) r
    constructor
    · rcases List.mem_cons.mp h1 with e | h
      · rw [e]; split <;> simp
      · simp [h]
    · intro y hy
      have hx := h2 (if z > x then z else x) List.mem_cons_self
      rcases List.mem_cons.mp hy with rfl | hy
      · refine Int.le_trans ?_ hx
        split <;> omega
      · rcases List.mem_cons.mp hy with rfl | hy
        · refine Int.le_trans ?_ hx
          split <;> omega
        · exact h2 y (List.mem_cons_of_mem _ hy)
theorem minL_spec : ∀ (x : Int) (r : List Int), minL x r ∈ x :: r ∧ ∀ y ∈ x :: r, minL x r ≤ y
  | x, [] => ⟨by simp [minL], by simp [minL]⟩
  | x, z :: r => by
    unfold minL
    obtain ⟨h1, h2⟩ := minL_spec (if z < x then z else x) r
    constructor
    · rcases List.mem_cons.mp h1 with e | h
      · rw [e]; split <;> simp
      · simp [h]
    · intro y hy
      have hx := h2 (if z < x then z else x) List.mem_cons_self
      rcases List.mem_cons.mp hy with rfl | hy
      · refine Int.le_trans hx ?_
        split <;> omega
      · rcases List.mem_cons.mp hy with rfl | hy
        · refine Int.le_trans hx ?_
          split <;> omega
        · exact h2 y (List.mem_cons_of_mem _ hy)
theorem max_uniq {x : Int} {r : List Int} {m : Int} (h1 : m ∈ x :: r) (h2 : ∀ y ∈ x :: r, y ≤ m) : m = maxL x r := by
  obtain ⟨a, b⟩ := maxL_spec x r
  have := b m h1
  have := h2 _ a
  omega
theorem min_uniq {x : Int} {r : List Int} {m : Int} (h1 : m ∈ x :: r) (h2 : ∀ y ∈ x :: r, m ≤ y) : m = minL x r := by
  obtain ⟨a, b⟩ := minL_spec x r
  have := b m h1
  have := h2 _ a
  omega
end

section
variable {W : Wd} {k : Nat} {X : Cx}
/-- one argument -/
theorem c_one {f : Value} {q : D → Mm → KD → Prop} (h : ∀ (pins : List (Addr × Obj)) (s : Shared) (σ : L2.St) (t : Sta) (d : D) (v : V) (us : List Value) (Qp : KD) (Q : VK), L2.Inv X pins σ t.H s → Vals [v] us → Good W t → Rep W t d v → q d t.M Qp → Lat W t Qp Q →
    wpAny (model X.prog X.w) X.A (call f us) (EP X pins σ Q) X.xe s) : CallR X f (lL W fun ds M Q => arg1 ds fun x => q x M Q) := by
  intro pins s σ H xs us Q I r h'
  obtain ⟨ds, t, Qp, rfl, gd, hx, hq, l⟩ := h'
  obtain ⟨d, rfl, hq⟩ := arg1_inv hq
  obtain ⟨v, r', rfl, h1, h2⟩ := Reps.cons_inv hx
  cases Reps.nil_inv h2
  exact h pins s σ t d v us Qp Q I r gd h1 hq l
theorem c_two {f : Value} {q : D → D → Mm → KD → Prop} (h : ∀ (pins : List (Addr × Obj)) (s : Shared) (σ : L2.St) (t : Sta) (d e : D) (v w : V) (us : List Value) (Qp : KD) (Q : VK), L2.Inv X pins σ t.H s → Vals [v, w] us → Good W t → Rep W t d v → Rep W t e w → q d e t.M Qp → Lat W t Qp Q →
    wpAny (model X.prog X.w) X.A (call f us) (EP X pins σ Q) X.xe s) : CallR X f (lL W fun ds M Q => arg2 ds fun x y => q x y M Q) := by
  intro pins s σ H xs us Q I r h'
  obtain ⟨ds, t, Qp, rfl, gd, hx, hq, l⟩ := h'
  obtain ⟨d, e, rfl, hq⟩ := arg2_inv hq
  obtain ⟨v, r', rfl, h1, h2⟩ := Reps.cons_inv hx
  obtain ⟨w, r', rfl, h3, h4⟩ := Reps.cons_inv h2
  cases Reps.nil_inv h4
  exact h pins s σ t d e v w us Qp Q I r gd h1 h3 hq l
theorem ints_at {t : Sta} {d : D} {v : V} {q : List Int → Prop} (c : COk W k X) (gd : Good W t) (h : Rep W t d v) (hq : oneInts d t.M q) : ∃ a ns, v = .ref a ∧ SqL X.K t.H a (ns.map V.int) ∧ ns.length ≤ sizeLine ∧ q ns := by
  obtain ⟨ys, es, hq⟩ := someK_inv hq
  obtain ⟨ns, en, hq⟩ := someK_inv hq
  obtain ⟨a, vs, rfl, b1, b2, b3⟩ := lstOf_at gd h es
  rw [← c.K] at b1
  have e := ints_rep b3 en
  rw [e] at b1
  exact ⟨a, ns, rfl, b1, by rw [e, List.length_map] at b2; exact b2, hq⟩
theorem bools_at {t : Sta} {d : D} {v : V} {q : List Bool → Prop} (c : COk W k X) (gd : Good W t) (h : Rep W t d v) (hq : oneBools d t.M q) : ∃ a ns, v = .ref a ∧ SqL X.K t.H a (ns.map V.bl) ∧ q ns := by
  obtain ⟨ys, es, hq⟩ := someK_inv hq
  obtain ⟨ns, en, hq⟩ := someK_inv hq
  obtain ⟨a, vs, rfl, b1, b2, b3⟩ := lstOf_at gd h es
  rw [← c.K] at b1
  have e := bools_rep b3 en
  rw [e] at b1
  exact ⟨a, ns, rfl, b1, hq⟩
theorem c_len (c : COk W k X) : CallR X (.builtin "len") (lL W fun ds M Q => arg1 ds fun x => lenD x M Q) := c_one fun pins s σ t d v us Qp Q I r gd h1 q l => by
  unfold lenD at q
  split at q
  · obtain ⟨rfl, hz⟩ := repS h1
    exact call_len pins s σ t.H _ us Q I r ⟨_, _, rfl, ⟨hz, rfl⟩, latI gd l q⟩
  · split at q
    · rename_i kvs ed
      obtain ⟨a, vs, rfl, rfl, _, b1, b2, b3⟩ := dctOf_at gd h1 ed
      refine call_lenD pins s σ t.H _ us Q I r ⟨a, vs, rfl, b1, ?_⟩
      rw [b3.length]
      exact latI gd l q
    · obtain ⟨ys, es, q⟩ := someK_inv q
      obtain ⟨a, vs, rfl, b1, b2, b3⟩ := seqOf_at gd h1 es
      rw [← c.K] at b1
      refine call_len_seq pins s σ t.H _ us Q I r ⟨a, vs, rfl, b1, ?_⟩
      rw [b3.length]
      exact latI gd l q
theorem c_abs : CallR X (.builtin "abs") (lL W fun ds M Q => arg1 ds fun x => x.asI fun i => Q (.int (if i < 0 then -i else i)) M) := c_one fun pins s σ t d v us Qp Q I r gd h1 q l => by
  obtain ⟨i, rfl, q⟩ := D.asI_inv q
  cases repI h1
  exact call_abs pins s σ t.H _ us Q I r ⟨i, rfl, latI gd l q⟩
theorem c_str : CallR X (.type "str") (lL W fun ds M Q => arg1 ds fun x => strD x M Q) := c_one fun pins s σ t d v us Qp Q I r gd h1 q l => by
  unfold strD at q
  split at q
  · cases repI h1
    exact call_str_int pins s σ t.H _ us Q I r ⟨_, rfl, by have := q.1; omega, latS gd l (int_text_fits (by have := q.1; omega)) q.2⟩
  · obtain ⟨rfl, hz⟩ := repS h1
    exact SkE.call_str_str pins s σ t.H _ us Q I r ⟨_, rfl, latS gd l hz q⟩
  · exact q.elim
theorem c_int : CallR X (.type "int") (lL W fun ds M Q => arg1 ds fun x => intD x M Q) := c_one fun pins s σ t d v us Qp Q I r gd h1 q l => by
  unfold intD at q
  split at q
  · cases repI h1
    exact call_int1 pins s σ t.H _ us Q I r (.inl ⟨_, rfl, latI gd l q⟩)
  · cases repB h1
    exact call_int1 pins s σ t.H _ us Q I r (.inr ⟨_, rfl, latI gd l q⟩)
  · obtain ⟨rfl, hz⟩ := repS h1
    obtain ⟨n, en, hq⟩ := someK_inv q.2
    exact call_int_str pins s σ t.H _ us Q I r ⟨_, n, rfl, en, q.1, latI gd l hq⟩
  · exact q.elim
theorem c_tuple (c : COk W k X) : CallR X (.type "tuple") (lL W fun ds M Q => arg1 ds fun x => someK (seqOf M x) fun xs => Q (.tup xs) M) := c_one fun pins s σ t d v us Qp Q I r gd h1 q l => by
  obtain ⟨xs, es, q2⟩ := someK_inv q
  cases d with
  | tup ys =>
    cases es
    obtain ⟨a, vs, rfl, b1, b2, b3⟩ := tupAt h1
    rw [← c.K] at b1
    exact call_tuple_of pins s σ t.H _ us Q I r ⟨a, vs, rfl, .inr ⟨b1, lat0 gd l h1 q2⟩⟩
  | lst ys =>
    obtain ⟨a, vs, rfl, b1, b2, b3⟩ := lstOf_at gd h1 (show lstOf t.M (.lst ys) = some xs from es)
    rw [← c.K] at b1
    exact call_tuple_of pins s σ t.H _ us Q I r ⟨a, vs, rfl, .inl ⟨b1, fun p n => newT_use gd l q2 n b2 b3⟩⟩
  | klst ys =>
    obtain ⟨a, vs, rfl, b1, b2, b3⟩ := lstOf_at gd h1 (show lstOf t.M (.klst ys) = some xs from es)
    rw [← c.K] at b1
    exact call_tuple_of pins s σ t.H _ us Q I r ⟨a, vs, rfl, .inl ⟨b1, fun p n => newT_use gd l q2 n b2 b3⟩⟩
  | ref p =>
    obtain ⟨a, vs, rfl, b1, b2, b3⟩ := lstOf_at gd h1 (show lstOf t.M (.ref p) = some xs from es)
    rw [← c.K] at b1
    exact call_tuple_of pins s σ t.H _ us Q I r ⟨a, vs, rfl, .inl ⟨b1, fun p n => newT_use gd l q2 n b2 b3⟩⟩
  | _ => cases es
theorem c_list (c : COk W k X) (fz : Bool) : CallR X (.type "list") (lL W fun ds M Q => arg1 ds fun x => someK (seqOf M x) fun xs => newL fz xs M Q) := c_one fun pins s σ t d v us Qp Q I r gd h1 q l => by
  obtain ⟨xs, es, q⟩ := someK_inv q
  obtain ⟨a, vs, rfl, b1, b2, b3⟩ := seqOf_at gd h1 es
  rw [← c.K] at b1
  exact call_list_of pins s σ t.H _ us Q I r ⟨a, vs, rfl, b1, fun p n => newL_use gd l q n b2 b3⟩
theorem flat_rep {t : Sta} : ∀ {xs : List D} {vs : List V} {kvs : List (Key × D)}, Reps W t xs vs → flatPairs xs = some kvs → ∃ (ps : List Addr) (kws : List (Key × V)), vs = ps.map V.ref ∧ Paired (fun p kv => SqT W.K t.H p [kV kv.1, kv.2]) ps kws ∧ RepKs W t kvs kws
  | [], vs, kvs, h, e => by
    cases Reps.nil_inv h; cases e
    exact ⟨[], [], rfl, .nil, rfl⟩
  | x :: xs, vs, kvs, h, e => by
    obtain ⟨v, r, rfl, h1, h2⟩ := Reps.cons_inv h
    unfold flatPairs at e
    split at e
    · rename_i z; cases z
    · rename_i k u r0 z
      cases z
      split at e
      · rename_i q kvs' e1 e2
        cases e
        obtain ⟨a, us, rfl, b1, b2, b3⟩ := tupAt h1
        obtain ⟨w1, r1, rfl, c1, b3⟩ := Reps.cons_inv b3
        obtain ⟨w2, r2, rfl, c2, b3⟩ := Reps.cons_inv b3
        cases Reps.nil_inv b3
        have := keyOf_at c1 e1; subst this
        obtain ⟨ps, kws, rfl, p1, p2⟩ := flat_rep h2 e2
        exact ⟨a :: ps, (q, w2) :: kws, rfl, .cons b1 p1, w2, kws, rfl, c2, p2⟩
      · cases e
    · cases e
theorem c_dict (c : COk W k X) : CallR X (.type "dict") (lL W fun ds M Q => arg1 ds fun x => dictD x M Q) := c_one fun pins s σ t d v us Qp Q I r gd h1 q l => by
  unfold dictD at q
  obtain ⟨xs, es, q⟩ := someK_inv q
  obtain ⟨kvs, ek, hz, q⟩ := someK_inv q
  obtain ⟨a, vs, rfl, b1, b2, b3⟩ := lstOf_at gd h1 es
  rw [← c.K] at b1
  obtain ⟨ps, kws, rfl, p1, p2⟩ := flat_rep b3 ek
  rw [← c.K] at p1
  refine call_dictP c.calm pins s σ t.H _ us Q I r ⟨a, ps, kws, rfl, b1, p1, fun p n => ?_⟩
  have p3 : RepKs W t (kmerge [] kvs) (L2.mergeK [] kws) := p2.merge (kvs := []) (vs := []) rfl
  refine l _ _ (t.put p (.dK (L2.mergeK [] kws)) (.dct (kmerge [] kvs))) (Ext.newM n) (gd.newM n ⟨_, upd_same, ?_, p3.ext (Fst.new n fun _ f => f)⟩) Rep.ref (q p (gd.fresh n))
  have := L2.length_mergeK kws []
  have e := p2.length
  rw [sizeLine_eq]
  simp only [List.length_nil] at this
  omega
theorem c_sum (c : COk W k X) : CallR X (.builtin "sum") (lL W fun ds M Q => arg1 ds fun x => oneInts x M fun ns => Q (.int ns.sum) M) := c_one fun pins s σ t d v us Qp Q I r gd h1 q l => by
  obtain ⟨a, ns, rfl, b1, _, q⟩ := ints_at c gd h1 q
  exact cr_sum c.calm pins s σ t.H _ us Q I r ⟨a, ns, rfl, b1, latI gd l q⟩
theorem c_all (c : COk W k X) : CallR X (.builtin "all") (lL W fun ds M Q => arg1 ds fun x => oneBools x M fun bs => Q (.bl (bs.all id)) M) := c_one fun pins s σ t d v us Qp Q I r gd h1 q l => by
  obtain ⟨a, ns, rfl, b1, q⟩ := bools_at c gd h1 q
  exact cr_all c.calm pins s σ t.H _ us Q I r ⟨a, ns, rfl, b1, latB gd l q⟩
theorem c_any (c : COk W k X) : CallR X (.builtin "any") (lL W fun ds M Q => arg1 ds fun x => oneBools x M fun bs => Q (.bl (bs.any id)) M) := c_one fun pins s σ t d v us Qp Q I r gd h1 q l => by
  obtain ⟨a, ns, rfl, b1, q⟩ := bools_at c gd h1 q
  exact cr_any c.calm pins s σ t.H _ us Q I r ⟨a, ns, rfl, b1, latB gd l q⟩
theorem c_max2 (c : COk W k X) : CallR X (.builtin "max") (lL W fun ds M Q => arg2 ds fun x y => x.asI fun i => y.asI fun j => Q (.int (if j > i then j else i)) M) := c_two fun pins s σ t d e v w us Qp Q I r gd h1 h2 q l => by
  obtain ⟨i, rfl, q1⟩ := D.asI_inv q
  obtain ⟨j, rfl, q2⟩ := D.asI_inv q1
  cases repI h1; cases repI h2
  exact call_max2 c.calm pins s σ t.H _ us Q I r ⟨i, j, rfl, latI gd l q2⟩
theorem c_min2 (c : COk W k X) : CallR X (.builtin "min") (lL W fun ds M Q => arg2 ds fun x y => x.asI fun i => y.asI fun j => Q (.int (if j < i then j else i)) M) := c_two fun pins s σ t d e v w us Qp Q I r gd h1 h2 q l => by
  obtain ⟨i, rfl, q1⟩ := D.asI_inv q
  obtain ⟨j, rfl, q2⟩ := D.asI_inv q1
  cases repI h1; cases repI h2
  exact call_min2 c.calm pins s σ t.H _ us Q I r ⟨i, j, rfl, latI gd l q2⟩
theorem c_max (c : COk W k X) : CallR X (.builtin "max") (lL W fun ds M Q => arg1 ds fun x => oneInts x M fun ns => neInts ns fun n r => Q (.int (maxL n r)) M) := c_one fun pins s σ t d v us Qp Q I r gd h1 q l => by
  obtain ⟨a, ns, rfl, b1, _, q⟩ := ints_at c gd h1 q
  cases ns with
  | nil => exact (show False from q).elim
  | cons n ns =>
    refine cr_max c.calm pins s σ t.H _ us Q I r ⟨a, n :: ns, rfl, b1, by simp, fun m hm hle => ?_⟩
    rw [max_uniq hm hle]
    exact latI gd l q
theorem c_min (c : COk W k X) : CallR X (.builtin "min") (lL W fun ds M Q => arg1 ds fun x => oneInts x M fun ns => neInts ns fun n r => Q (.int (minL n r)) M) := c_one fun pins s σ t d v us Qp Q I r gd h1 q l => by
  obtain ⟨a, ns, rfl, b1, _, q⟩ := ints_at c gd h1 q
  cases ns with
  | nil => exact (show False from q).elim
  | cons n ns =>
    refine cr_min c.calm pins s σ t.H _ us Q I r ⟨a, n :: ns, rfl, b1, by simp, fun m hm hle => ?_⟩
    rw [min_uniq hm hle]
    exact latI gd l q
theorem c_sorted (c : COk W k X) (fz : Bool) : CallR X (.builtin "sorted") (lL W fun ds M Q => arg1 ds fun x => sortedD fz x M Q) := c_one fun pins s σ t d v us Qp Q I r gd h1 q l => by
  unfold sortedD at q
  split at q
  · rename_i kvs ed
    obtain ⟨a, vs, rfl, rfl, _, b1, b2, b3⟩ := dctOf_at gd h1 ed
    obtain ⟨ns, en, hn, q⟩ := someK_inv q
    refine call_sortedDI c.calm pins s σ t.H _ us Q I r ⟨a, vs, ns, rfl, .of b1, keysI_rep b3 en, hn, fun ys p hp hs n => ?_⟩
    rw [sorted_uniq (hp.trans (sortI_perm ns).symm) hs (sortI_sorted ns)]
    have e := (sortI_perm ns).length_eq
    exact newL_use gd l q n (by rw [List.length_map, e, sizeLine_eq]; omega) (reps_ints _)
  · obtain ⟨a, ns, rfl, b1, hz, q⟩ := ints_at c gd h1 q
    refine cr_sortedI pins s σ t.H _ us Q I r ⟨a, ns, rfl, b1, fun ys p hp hs n => ?_⟩
    rw [sorted_uniq (hp.trans (sortI_perm ns).symm) hs (sortI_sorted ns)]
    have e := (sortI_perm ns).length_eq
    exact newL_use gd l q n (by rw [List.length_map, e]; exact hz) (reps_ints _)
end
end TL

set_option Elab.async false
set_option linter.all false
set_option maxRecDepth 100000
set_option maxHeartbeats 4000000
/-! repr; sum of lists. -/
namespace TL
open PySem PySem.Spec PyProof.Rows L2
section
variable {W : Wd} {k : Nat} {X : Cx}
mutual
theorem show_py : ∀ d : D, d.plain = true → d.smalls = true → d.py.showable = true ∧ d.py.hasDict = false
  | .non, _, _ => by simp only [D.py, PyData.showable, PyData.hasDict]; exact ⟨trivial, trivial⟩
  | .bl _, _, _ => by simp only [D.py, PyData.showable, PyData.hasDict]; exact ⟨trivial, trivial⟩
  | .int i, _, h => by
    simp only [D.smalls, decide_eq_true_eq] at h
    simp only [D.py, PyData.showable, PyData.hasDict, decide_eq_true_eq]
    exact ⟨by omega, trivial⟩
  | .str _, _, _ => by simp only [D.py, PyData.showable, PyData.hasDict]; exact ⟨trivial, trivial⟩
  | .tup xs, p, h => by
    simp only [D.plain] at p; simp only [D.smalls] at h
    simp only [D.py, PyData.showable, PyData.hasDict]; exact show_pys xs p h
  | .lst xs, p, h => by
    simp only [D.plain] at p; simp only [D.smalls] at h
    simp only [D.py, PyData.showable, PyData.hasDict]; exact show_pys xs p h
  | .klst xs, p, h => by
    simp only [D.plain] at p; simp only [D.smalls] at h
    simp only [D.py, PyData.showable, PyData.hasDict]; exact show_pys xs p h
  | .flt _, p, _ => by simp only [D.plain] at p; cases p
  | .ref _, p, _ => by simp only [D.plain] at p; cases p
  | .glb _, p, _ => by simp only [D.plain] at p; cases p
theorem show_pys : ∀ ds : List D, plains ds = true → smallss ds = true → PyData.showableAll (pys ds) = true ∧ PyData.hasDictAll (pys ds) = false
  | [], _, _ => by simp only [pys, PyData.showableAll, PyData.hasDictAll]; exact ⟨trivial, trivial⟩
  | d :: ds, p, h => by
    simp only [plains, Bool.and_eq_true] at p
    simp only [smallss, Bool.and_eq_true] at h
    obtain ⟨a, b⟩ := show_py d p.1 h.1
    obtain ⟨a', b'⟩ := show_pys ds p.2 h.2
    simp only [pys, PyData.showableAll, PyData.hasDictAll, a, a', b, b']
    exact ⟨rfl, rfl⟩
end
theorem c_repr (c : COk W k X) : CallR X (.builtin "repr") (lL W fun ds M Q => arg1 ds fun x => reprD x M Q) := c_one fun pins s σ t d v us Qp Q I r gd h1 q l => by
  obtain ⟨p1, p2, p3, q⟩ := q
  have dp := now_dp gd h1 (pok_plain p1)
  obtain ⟨u, rfl, ru⟩ := vals1 r
  obtain ⟨sh, hd⟩ := show_py (now t.M d) (pok_plain p1) p2
  have hdp : (now t.M d).py.depth ≤ 61 := by
    unfold D.pok at p1
    simp only [Bool.and_eq_true, decide_eq_true_eq] at p1
    have := depth_py (now t.M d)
    omega
  have fin : ∀ (s' : Shared) tk, L2.Inv X pins σ t.H s' → EP X pins σ Q (.str (now t.M d).py.shown tk) s' := fun s' tk I' => ⟨.str _, t.H, I', ⟨tk, rfl⟩, latS gd l p3 q⟩
  generalize hw : now t.M d = w at *
  rw [← c.K] at dp
  obtain ⟨as, rd⟩ := Dp.reads I w.py v u dp ru
  cases v with
  | ref a =>
    cases ru
    exact repr_of_reads' rd sh (PyData.noDict_hsm hd) c.gd (by have := c.hu; omega) (fun _ _ e => e) (fun h' u tk hk => fin _ _ (I.kept hk)) p3
  | non =>
    cases ru
    cases w <;> simp only [D.py] at dp fin p3 <;> cases dp <;> exact P.repr_of_none (fin _ _ (I.tok _))
  | bl b =>
    cases ru
    cases w <;> simp only [D.py] at dp fin p3 <;> cases dp
    exact P.repr_of_bool (fin _ _ (I.tok _))
  | int i =>
    obtain ⟨t', rfl⟩ := ru
    cases w <;> simp only [D.py] at dp fin p3 sh <;> cases dp
    simp only [PyData.showable, decide_eq_true_eq] at sh
    exact P.repr_of_int sh (fin _ _ (I.tok _))
  | str z =>
    obtain ⟨t', rfl⟩ := ru
    cases w <;> simp only [D.py] at dp fin p3 <;> cases dp
    exact P.repr_of_str (fin _ _ (I.tok _)) p3
  | _ => cases dp
end

section
variable {W : Wd} {k : Nat} {X : Cx}
theorem lsts_rep {t : Sta} (gd : Good W t) : ∀ {ds : List D} {vs : List V} {ys : List (List D)}, Reps W t ds vs → lstsOf t.M ds = some ys → vs.length = ys.length ∧
    ∀ (i : Nat) (v : V), vs[i]? = some v → ∃ (a : Addr) (us : List V) (y : List D), v = V.ref a ∧ t.H a = some (.lst us) ∧ ys[i]? = some y ∧ Reps W t y us
  | [], vs, ys, h, e => by cases Reps.nil_inv h; cases e; exact ⟨rfl, fun i v q => by simp at q⟩
  | d :: ds, vs, ys, h, e => by
    obtain ⟨v, r, rfl, h1, h2⟩ := Reps.cons_inv h
    unfold lstsOf at e
    split at e
    · rename_i a b ea eb
      cases e
      obtain ⟨l1, l2⟩ := lsts_rep gd h2 eb
      obtain ⟨p, us, rfl, b1, b2, b3⟩ := catOf_at gd h1 ea
      refine ⟨by simp [l1], fun i v q => ?_⟩
      cases i with
      | zero => simp at q; subst q; exact ⟨p, us, a, rfl, b1, rfl, b3⟩
      | succ i => exact l2 i v (by simpa using q)
    · cases e
theorem args_sum2 (a b : Value) : argsOk "sum" ⟨[a, b], []⟩ := by unfold argsOk; kernel_rfl
/-- the state of the adding: i lists are taken, what came stands at acc -/
structure Sum2 (X : Cx) (pins : List (Addr × Obj)) (σ : L2.St) (H : Hp) (I S x : Addr) (its : List Value) (vs : List V) (i : Nat) (s : Shared) (a0 ac : Addr) (us : List V) (Hc : Hp) : Prop where
  inv : L2.Inv X pins σ Hc s
  sub : ∀ b o, H b = some o → Hc b = some o
  it : s.heap.IsListIter I x i
  st : ∃ c, s.heap.get? S = some { cls := .type "list", dict := none, data := .seq #[.ref ac] c, slots := #[] }
  nI : Hc I = none
  nS : Hc S = none
  acc : Hc ac = some (.lst us)
  new : ac = a0 ∨ H ac = none
theorem sum2_loop {A : Around} {pins : List (Addr × Obj)} {σ : L2.St} {H : Hp} {I S x a0 : Addr} {its : List Value} {vs : List V} {R : Result → Shared → Prop} {g : Nat → List V → Prop} (hh : A.in1.handled = none)
    (hx : SqL X.K H x vs) (hIS : I ≠ S)
    (fI : ∀ H' s', L2.Inv X pins σ H' s' → H' I = none → FpOk X pins H' I) (fS : ∀ H' s', L2.Inv X pins σ H' s' → H' S = none → FpOk X pins H' S)
    (g0 : ∀ i us v, g i us → vs[i]? = some v → ∃ b ws, v = .ref b ∧ H b = some (.lst ws) ∧ us.length + ws.length ≤ sizeLine ∧ g (i + 1) (us ++ ws))
    (hR : ∀ s' acc us Hc t, L2.Inv X pins σ Hc s' → (∀ b o, H b = some o → Hc b = some o) → Hc acc = some (.lst us) → (acc = a0 ∨ H acc = none) → g vs.length us → R (.ok (.ret (.ref acc))) { s' with toks := t }) :
    ∀ (n i : Nat) (s : Shared) (acc : Addr) (us : List V) (Hc : Hp), vs.length - i = n → i ≤ vs.length → g i us → Sum2 X pins σ H I S x its vs i s a0 acc us Hc →
      codeAny (model X.prog X.w) A (.builtin "sum.loop" ⟨[.ref I, .ref S, rawInt 2, rawInt 0], []⟩) R s := by
  intro n
  induction n with
  | zero =>
    intro i s acc us Hc hn hi hg st
    have e : i = vs.length := by omega
    subst e
    obtain ⟨c, hS⟩ := st.st
    have hx' : SqL X.K Hc x vs := (show Same H Hc from st.sub).seq hx
    obtain ⟨its', rv, pl, hz⟩ := st.inv.list hx'
    refine codeAny_builtin F.entry_sum_loop ?_
    rw [Around.under_plainId F.plain_sum_loop _]
    show wpAny _ A.in1 (seqItems? (.ref S) >>= _) _ _ s
    refine wpAny_bind (wpAny_seqItems hS rfl ?_)
    show wpAny _ A.in1 (tryCatch (pyNext (.ref I)) _ >>= _) _ _ s
    refine wpAny_bind (wpAny_tryCatch (wpAny_pyNext_list_end hh st.it pl.isList (by have := rv.length; simp; omega) fun h' eb => ?_))
    obtain ⟨f0, f1, f2, f3, f4, f5⟩ := fI _ _ st.inv st.nI
    exact wpAny_pure (hR { s with heap := h' } acc us Hc _ (st.inv.turned (t' := s.toks) (fun b o hb q => eb b o hb q) f0 f1 f3 f4 f5) st.sub st.acc st.new hg)
  | succ n ih =>
    intro i s acc us Hc hn hi hg st
    have hlt : i < vs.length := by omega
    obtain ⟨c, hS⟩ := st.st
    have hx' : SqL X.K Hc x vs := (show Same H Hc from st.sub).seq hx
    obtain ⟨its', rv, pl, hz⟩ := st.inv.list hx'
    obtain ⟨v, hv⟩ : ∃ v, vs[i]? = some v := ⟨vs[i], by simp [hlt]⟩
    obtain ⟨u, hu, ru⟩ := rv.get hv
    obtain ⟨b, ws, rfl, hb, hl, hg'⟩ := g0 i us v hg hv
    cases ru
    refine codeAny_builtin F.entry_sum_loop ?_
    rw [Around.under_plainId F.plain_sum_loop _]
    show wpAny _ A.in1 (seqItems? (.ref S) >>= _) _ _ s
    refine wpAny_bind (wpAny_seqItems hS rfl ?_)
    show wpAny _ A.in1 (tryCatch (pyNext (.ref I)) _ >>= _) _ _ s
    refine wpAny_bind (wpAny_tryCatch (wpAny_pyNext_list_item st.it pl.isList (x := .ref b) (by simpa using hu) fun h1 it1 sb => ?_))
    obtain ⟨f0, f1, f2, f3, f4, f5⟩ := fI _ _ st.inv st.nI
    have I1 : L2.Inv X pins σ Hc { s with heap := h1 } := st.inv.turned (t' := s.toks) (fun b o hb e => (sb.2 b hb).trans e) f0 f1 f3 f4 f5
    have hS1 : h1.get? S = some { cls := .type "list", dict := none, data := .seq #[.ref acc] c, slots := #[] } := (sb.2 S (Ne.symm hIS)).trans hS
    show wpAny _ A.in1 ((holding [Value.ref b] (binaryOp .Add (.ref acc) (.ref b))).attempt >>= _) _ _ _
    obtain ⟨z1, i1, n1, r1, l1, e1⟩ := I1.lstM st.acc
    obtain ⟨z2, i2, n2, r2, l2, e2⟩ := I1.lstM (st.sub b _ hb)
    refine wpAny_bind (wpAny_attempt (wpAny_holding (PySem.P.add_list e1 e2 ?_ (by rw [List.size_toArray, List.size_toArray]; omega))))
    have ea : i1.toArray ++ i2.toArray = (i1 ++ i2).toArray := by simp
    rw [ea]
    have I2 := I1.lnew (t' := s.toks) (r1.append r2) (by rw [List.length_append]; omega)
    have hnew : Hc h1.objs.size = none := I1.hok.fresh (Nat.le_refl _)
    have nIz : I ≠ h1.objs.size := by
      obtain ⟨o, e, _⟩ := it1
      exact Nat.ne_of_lt (Heap.lt_size e)
    have nSz : S ≠ h1.objs.size := Nat.ne_of_lt (Heap.lt_size hS1)
    have hS2 : (h1.push { cls := .type "list", data := .seq (i1 ++ i2).toArray }).get? S = some { cls := .type "list", dict := none, data := .seq #[.ref acc] c, slots := #[] } := Heap.get?_push_of_some _ hS1
    show wpAny _ A.in1 (updateSeq S (fun _ => #[.ref h1.objs.size]) >>= _) _ _ _
    refine wpAny_bind (wpAny_updateSeq hS2 rfl ?_)
    have hS3 := Heap.get?_update_self (Obj.mapSeq fun _ => #[Value.ref h1.objs.size]) hS2 rfl
    refine wpAny_bind (wpAny_letGo ?_)
    refine wpAny_bind (wpAny_updateSeq hS3 rfl ?_)
    obtain ⟨k0, k1, k2, k3, k4, k5⟩ := fS _ _ I2 (by rw [upd_ne nSz]; exact st.nS)
    have I3 := I2.turned (h' := (((h1.push { cls := .type "list", data := .seq (i1 ++ i2).toArray }).update S (Obj.mapSeq fun _ => #[Value.ref h1.objs.size])).update S (Obj.mapSeq fun _ => #[Value.ref h1.objs.size]))) (t' := s.toks)
      (fun b o hb q => (Heap.get?_update_other _ _ (Ne.symm hb)).trans ((Heap.get?_update_other _ _ (Ne.symm hb)).trans q)) k0 k1 k3 k4 k5
    refine wpAny_pure ⟨plainId_quiet F.plain_sum_loop _, ih (i + 1) _ h1.objs.size (us ++ ws) _ (by omega) hlt hg' ⟨I3, fun b o q => ?_, ?_, ?_, ?_, ?_, upd_same, ?_⟩⟩
    · rw [upd_ne (ne_of_none (st.sub b o q) hnew)]; exact st.sub b o q
    · have it2 : (h1.push { cls := .type "list", data := .seq (i1 ++ i2).toArray }).IsListIter I x (i + 1) := it1.at fun o q => Heap.get?_push_of_some _ q
      refine it2.at fun o q => ?_
      exact (Heap.get?_update_other _ _ (Ne.symm hIS)).trans ((Heap.get?_update_other _ _ (Ne.symm hIS)).trans q)
    · exact ⟨_, Heap.get?_update_self _ hS3 rfl⟩
    · rw [upd_ne nIz]; exact st.nI
    · rw [upd_ne nSz]; exact st.nS
    · refine .inr ?_
      cases q : H h1.objs.size with
      | none => rfl
      | some o => have := st.sub _ _ q; rw [hnew] at this; cases this
theorem take_flat {ys : List (List D)} {i : Nat} {y : List D} (h : ys[i]? = some y) : (ys.take (i + 1)).flatten = (ys.take i).flatten ++ y := by
  rw [List.take_succ, h, List.flatten_append]; simp
theorem flat_len {ys : List (List D)} {i : Nat} : ((ys.take i).flatten).length ≤ ys.flatten.length := by
  conv => rhs; rw [← List.take_append_drop i ys, List.flatten_append, List.length_append]
  omega
theorem c_sum2 (c : COk W k X) : CallR X (.builtin "sum") (lL W fun ds M Q => arg2 ds fun x y => sum2D x y M Q) := c_two fun pins s σ t d e v w us Qp Q I r gd h1 h2 q l => by
  unfold sum2D at q
  split at q
  · obtain ⟨xs, ex, q⟩ := someK_inv q
    obtain ⟨ys, ey, hz, q⟩ := someK_inv q
    obtain ⟨x, vs, rfl, b1, b2, b3⟩ := lstOf_at gd h1 ex
    obtain ⟨ln, hys⟩ := lsts_rep gd b3 ey
    have h2' := h2
    simp only [Rep] at h2'
    obtain ⟨a0, us0, rfl, ⟨cF, c1⟩, c2, c3⟩ := h2'
    cases Reps.nil_inv c3
    rw [← c.K] at b1
    obtain ⟨its, rv, pl, hsz⟩ := I.list b1
    cases r with | cons r1 r =>
    cases r with | cons r2 r =>
    cases r
    cases r1; cases r2
    refine call_function_tree F.kind_sum F.plain_sum F.entry_sum (args_sum2 _ _) ?_
    unfold Builtin.«sum»
    simp only [List.length_cons, List.length_nil]
    rw [if_neg (by decide)]
    refine wpAny_bind (wpAny_of_eq (show Builtin.Builtins.bindParams "sum" ["start"] 0 { pos := [.ref a0] } = pure [some (.ref a0)] from rfl) ?_)
    refine wpAny_bind (wpAny_pyIter_list pl.isList ?_)
    refine wpAny_bind (wpAny_pure ?_)
    have I1 := I.kept (h' := s.heap.push { cls := .type "list_iterator", data := .fields #[.ref x, .int 0 0] }) (t' := s.toks) fun b o q => Heap.get?_push_of_some _ q
    obtain ⟨z1, i1, n1, r1, l1, e1⟩ := I1.lstM c1
    have ty : Shared.TypeIs { s with heap := s.heap.push { cls := .type "list_iterator", data := .fields #[.ref x, .int 0 0] } } (.ref a0) "list" := ⟨_, e1, rfl⟩
    simp only [List.forIn_cons, List.forIn_nil]
    refine wpAny_bind (wpAny_bind (wpAny_bind (wpAny_isInstance (T := "list") (b := false) ty F.sub_list_str ?_)))
    simp only [Bool.false_eq_true, if_false]
    refine wpAny_pure (wpAny_bind (wpAny_bind (wpAny_isInstance (T := "list") (b := false) ty F.sub_list_bytes ?_)))
    simp only [Bool.false_eq_true, if_false]
    refine wpAny_pure (wpAny_bind (wpAny_bind (wpAny_isInstance (T := "list") (b := false) ty F.sub_list_bytearray ?_)))
    simp only [Bool.false_eq_true, if_false]
    refine wpAny_pure (wpAny_pure ?_)
    refine wpAny_bind (wpAny_newObj_type ?_)
    have I2 := I1.kept (h' := (s.heap.push { cls := .type "list_iterator", data := .fields #[.ref x, .int 0 0] }).push { cls := .type "list", data := .seq #[.ref a0] }) (t' := s.toks) fun b o q => Heap.get?_push_of_some _ q
    have e2 : (s.heap.push { cls := .type "list_iterator", data := .fields #[.ref x, .int 0 0] }).objs.size = s.heap.objs.size + 1 := Heap.size_push ..
    refine wpAny_pure ⟨plainId_quiet F.plain_sum_loop _, ?_⟩
    refine sum2_loop (its := its) (H := t.H) (a0 := a0) (g := fun i us => Reps W t (ys.take i).flatten us) (I.ok.hd c.calm) b1 (I := s.heap.objs.size) (by show _ ≠ (s.heap.push _).objs.size; rw [e2]; omega)
      (fun H' s' I' n => I.fpOk (Nat.le_refl _) n) (fun H' s' I' n => I.fpOk (by show _ ≤ (s.heap.push _).objs.size; rw [e2]; omega) n) (fun i us v g hv => ?_) (fun s' acc us Hc tk I' sub ha hn g => ?_) _ 0 _ a0 [] t.H rfl (Nat.zero_le _) ?_
      ⟨I2, fun _ _ e => e, ⟨_, Heap.get?_push_of_some _ (Heap.get?_push_size _ rfl), rfl, rfl⟩, ⟨_, Heap.get?_push_size _ rfl⟩, I.hok.fresh (Nat.le_refl _), I.hok.fresh (by show _ ≤ (s.heap.push _).objs.size; rw [e2]; omega), c1, .inl rfl⟩
    · obtain ⟨b, ws, y, rfl, k1, k2, k3⟩ := hys i v hv
      refine ⟨b, ws, rfl, k1, ?_, ?_⟩
      · have a1 := g.length
        have a2 := k3.length
        have a3 := flat_len (ys := ys) (i := i + 1)
        rw [take_flat k2, List.length_append] at a3
        omega
      · show Reps W t (ys.take (i + 1)).flatten (us ++ ws)
        rw [take_flat k2]
        exact g.append k3
    · have g' : Reps W t ys.flatten us := by
        have g2 : Reps W t (ys.take vs.length).flatten us := g
        rw [ln, List.take_length] at g2; exact g2
      have mF : t.M acc = none := by
        rcases hn with rfl | hn
        · exact (gd.fr _ cF).1
        · exact gd.fresh hn
      have fst : Fst t ⟨Hc, t.M, fun b => b = acc ∨ t.F b⟩ := fun b f => ⟨.inr f, fun o q => sub b o q⟩
      have I3 := I'.kept (h' := s'.heap) (t' := tk) fun _ _ q => q
      refine ⟨.ref acc, Hc, I3, rfl, ?_⟩
      refine l (.lst ys.flatten) (.ref acc) ⟨Hc, t.M, fun b => b = acc ∨ t.F b⟩ ⟨fun b o q n => ⟨sub b o q, n⟩, fun b f => .inr f, fun b o q n f => ?_⟩ ⟨fun b o q => (gd.at_ b o q).ext fst (fun c _ h => sub c _ h) fun u z => sub b u z, fun b f => ?_⟩ ?_ q
      · rcases f with rfl | f
        · rcases hn with rfl | hn
          · exact cF
          · rw [hn] at q; cases q
        · exact f
      · rcases f with rfl | f
        · exact ⟨mF, _, ha⟩
        · obtain ⟨m1, o, m2⟩ := gd.fr b f
          exact ⟨m1, o, sub _ _ m2⟩
      · simp only [Rep]
        refine ⟨acc, us, rfl, ⟨.inl rfl, ha⟩, ?_, g'.ext fst⟩
        rw [g'.length]; exact hz
    · simp; exact Reps.nil
  · exact q.elim
end
end TL

set_option Elab.async false
set_option linter.all false
set_option maxRecDepth 100000
set_option maxHeartbeats 4000000
/-! Methods of built-in types. -/
namespace TL
open PySem PySem.Spec PyProof.Rows L2
section
variable {W : Wd} {k : Nat} {X : Cx}
def mid : Ty → BM → String
  | .list, .append => "list.append"
  | .list, .extend => "list.extend"
  | .list, .pop => "list.pop"
  | .dict, .get => "dict.get"
  | .dict, .setdefault => "dict.setdefault"
  | .dict, .update => "dict.update"
  | .str, .join => "str.join"
  | .str, .split => "str.split"
  | .str, .upper => "str.upper"
  | _, _ => ""
theorem reps_strs {t : Sta} : ∀ {ns : List Str}, (∀ y ∈ ns, y.length ≤ sizeLine) → Reps W t (ns.map .str) (ns.map V.str)
  | [], _ => Reps.nil
  | n :: ns, h => Reps.cons (by simp only [Rep]; exact ⟨trivial, h n (by simp)⟩) (reps_strs fun y hy => h y (by simp [hy]))
theorem Reps.dropLast {t : Sta} : ∀ {ds : List D} {vs : List V}, Reps W t ds vs → Reps W t ds.dropLast vs.dropLast
  | [], _, h => by cases Reps.nil_inv h; exact Reps.nil
  | [d], _, h => by
    obtain ⟨v, r, rfl, h1, h2⟩ := Reps.cons_inv h
    cases Reps.nil_inv h2; exact Reps.nil
  | d :: e :: ds, _, h => by
    obtain ⟨v, r, rfl, h1, h2⟩ := Reps.cons_inv h
    have ih := Reps.dropLast h2
    obtain ⟨w, q, rfl, h3, h4⟩ := Reps.cons_inv h2
    exact Reps.cons h1 ih
theorem lM_put {t : Sta} {Qp : KD} {Q : VK} {p : Addr} {xs ys : List D} {us : List V} {d : D} {v : V} (gd : Good W t) (l : Lat W t Qp Q) (em : t.M p = some (.lst xs)) (hz : us.length ≤ sizeLine) (r : Reps W t ys us) (rd : Rep W t d v)
    (q : Qp d (mput t.M p (.lst ys))) : Q v (upd t.H p (.lst us)) :=
  have f : Fst t (t.put p (.lst us) (.lst ys)) := Fst.put (gd.nfM em)
  l d v (t.put p (.lst us) (.lst ys)) (Ext.put em) (gd.put em ⟨us, upd_same, hz, r.ext f⟩) (rd.ext f) q
theorem catT_cases {M : Mm} {d : D} {xs : List D} (h : catT M d = some xs) : d = .tup xs ∨ catOf M d = some xs := by
  cases d with
  | tup ys => cases h; exact .inl rfl
  | _ => exact .inr h
theorem m_D (c : COk W k X) (ty : Ty) (m : BM) (fz : Bool) : MtR X (mid ty m) (lM W (bmD ty m fz)) := by
  intro pins s σ H x xs v us Q I rx rs h
  obtain ⟨dx, ds, t, Qp, rfl, gd, hx, hs, q, l⟩ := h
  unfold bmD at q
  split at q
  · rename_i d
    obtain ⟨p, ys, rfl, em, hz, q⟩ := mlst_inv q
    have := repR hx; subst this
    obtain ⟨y, r, rfl, h1, h2⟩ := Reps.cons_inv hs
    cases Reps.nil_inv h2
    obtain ⟨vs, a1, a2, a3⟩ := gd.at_ p _ em
    have e := a3.length
    exact mt_append pins s σ t.H _ _ v us Q I rx rs ⟨p, vs, y, rfl, rfl, a1, by omega, lM_put gd l em (by rw [List.length_append]; simp; omega) (a3.append (Reps.one h1)) (by simp only [Rep]) q⟩
  · rename_i y
    obtain ⟨p, ys, rfl, em, q⟩ := mlst_inv q
    obtain ⟨zs, ez, hz, q2⟩ := someK_inv q
    clear q
    have := repR hx; subst this
    obtain ⟨y, r, rfl, h1, h2⟩ := Reps.cons_inv hs
    cases Reps.nil_inv h2
    obtain ⟨vs, a1, a2, a3⟩ := gd.at_ p _ em
    rcases catT_cases ez with rfl | ez
    · obtain ⟨b, ws, rfl, b1, b2, b3⟩ := tupAt h1
      have e := a3.length
      have e2 := b3.length
      exact XI.mt_extendT pins s σ t.H _ _ v us Q I rx rs ⟨p, b, vs, ws, rfl, rfl, a1, by rw [c.K]; exact b1, by omega, lM_put gd l em (by rw [List.length_append]; omega) (a3.append b3) (by simp only [Rep]) q2⟩
    obtain ⟨b, ws, rfl, b1, b2, b3⟩ := catOf_at gd h1 ez
    have e := a3.length
    have e2 := b3.length
    exact mt_extend pins s σ t.H _ _ v us Q I rx rs ⟨p, b, vs, ws, rfl, rfl, a1, b1, by omega, lM_put gd l em (by rw [List.length_append]; omega) (a3.append b3) (by simp only [Rep]) q2⟩
  · obtain ⟨p, ys, rfl, em, q⟩ := mlst_inv q
    obtain ⟨d, ed, q⟩ := optK_inv q
    have := repR hx; subst this
    cases Reps.nil_inv hs
    obtain ⟨vs, a1, a2, a3⟩ := gd.at_ p _ em
    have e := a3.length
    rw [← e] at ed
    obtain ⟨w, ew, rw'⟩ := a3.get ed
    exact mt_pop pins s σ t.H _ _ v us Q I rx rs ⟨p, vs, w, rfl, rfl, a1, ew, lM_put gd l em (by rw [List.length_dropLast]; omega) a3.dropLast rw' q⟩
  · rename_i i
    obtain ⟨p, ys, rfl, em, q⟩ := mlst_inv q
    obtain ⟨i, rfl, q⟩ := D.asI_inv q
    obtain ⟨j, ej, q⟩ := someK_inv q
    obtain ⟨d, ed, q⟩ := optK_inv q
    have := repR hx; subst this
    obtain ⟨y, r, rfl, h1, h2⟩ := Reps.cons_inv hs
    cases Reps.nil_inv h2
    have := repI h1; subst this
    obtain ⟨vs, a1, a2, a3⟩ := gd.at_ p _ em
    have e := a3.length
    rw [← e] at ej
    obtain ⟨e1, e2, e3, e4⟩ := ixN_seq ej
    obtain ⟨w, ew, rw'⟩ := a3.get ed
    have := line63
    have := len_erase vs j
    exact mt_popAt pins s σ t.H _ _ v us Q I rx rs ⟨p, vs, i, j, w, rfl, rfl, a1, by omega, by omega, e1, ew, lM_put gd l em (by omega) (a3.eraseIdx j) rw' q⟩
  · rename_i y
    obtain ⟨kvs, ek, q2⟩ := someK_inv q
    obtain ⟨kk, ey, q3⟩ := someK_inv q2
    obtain ⟨a, vs, rfl, rfl, _, b1, b2, b3⟩ := dctOf_at gd hx ek
    obtain ⟨y, r, rfl, h1, h2⟩ := Reps.cons_inv hs
    cases Reps.nil_inv h2
    have := keyOf_at h1 ey; subst this
    obtain ⟨u, rfl, ru⟩ := rs.one
    obtain rfl : v = Value.ref a := rx
    refine d_get1 c.hu1 I (DGet.k (k := kk) b1) ru fun w' s' I' rw' => ⟨_, _, I', rw', ?_⟩
    rcases b3.get kk with ⟨e1, e2⟩ | ⟨d, v, e1, e2, rv⟩
    · rw [e2]; rw [e1] at q3; exact lat0 (d := .non) (v := .non) gd l (by simp only [Rep]) q3
    · rw [e2]; rw [e1] at q3; exact lat0 gd l rv q3
  · rename_i y z
    obtain ⟨kvs, ek, q2⟩ := someK_inv q
    obtain ⟨kk, ey, q3⟩ := someK_inv q2
    obtain ⟨a, vs, rfl, rfl, _, b1, b2, b3⟩ := dctOf_at gd hx ek
    obtain ⟨y, r, rfl, h1, h2⟩ := Reps.cons_inv hs
    obtain ⟨z', r, rfl, h3, h4⟩ := Reps.cons_inv h2
    cases Reps.nil_inv h4
    have := keyOf_at h1 ey; subst this
    obtain ⟨u, u', rfl, ru, ru'⟩ := rs.two
    obtain rfl : v = Value.ref a := rx
    refine d_get2 c.hu1 I (DGet.k (k := kk) b1) ru ru' fun w' s' I' rw' => ⟨_, _, I', rw', ?_⟩
    rcases b3.get kk with ⟨e1, e2⟩ | ⟨d, v, e1, e2, rv⟩
    · rw [e2]; rw [e1] at q3; exact lat0 gd l h3 q3
    · rw [e2]; rw [e1] at q3; exact lat0 gd l rv q3
  · rename_i y z
    obtain ⟨p, kvs, rfl, em, q2⟩ := mdct_inv q
    obtain ⟨kk, ey, hlen, q3⟩ := someK_inv q2
    have := repR hx; subst this
    obtain ⟨y, r, rfl, h1, h2⟩ := Reps.cons_inv hs
    obtain ⟨z', r, rfl, h3, h4⟩ := Reps.cons_inv h2
    cases Reps.nil_inv h4
    have := keyOf_at h1 ey; subst this
    obtain ⟨u, u', rfl, ru, ru'⟩ := rs.two
    obtain rfl : v = Value.ref p := rx
    obtain ⟨vs, b1, b2, b3⟩ := gd.at_ p _ em
    have bl := b3.length
    refine d_setd I b1 ru ru' (by omega) (fun v' hv w' s' I' rw' => ⟨_, _, I', rw', ?_⟩) fun hv w' s' I' rw' => ⟨_, _, I', rw', ?_⟩
    · rcases b3.get kk with ⟨e1, e2⟩ | ⟨d, v, e1, e2, rv⟩
      · rw [e2] at hv; cases hv
      · rw [e2] at hv; cases hv
        rw [e1] at q3; exact lat0 gd l rv q3
    · rcases b3.get kk with ⟨e1, e2⟩ | ⟨d, v, e1, e2, rv⟩
      · rw [e1] at q3
        refine l _ _ (t.put p (.dK (L2.putK vs kk z')) (.dct (kput kvs kk z))) (Ext.put em) (gd.put em ?_) (h3.ext (Fst.put (gd.nfM em))) q3
        refine ⟨_, upd_same, ?_, (b3.put h3).ext (Fst.put (gd.nfM em))⟩
        have := kput_len vs kk z'
        omega
      · rw [e2] at hv; cases hv
  · rename_i y
    obtain ⟨p, kvs, rfl, em, q⟩ := mdct_inv q
    obtain ⟨zs, ez, q⟩ := someK_inv q
    obtain ⟨kws, ek, hz, q⟩ := someK_inv q
    have := repR hx; subst this
    obtain ⟨y, r, rfl, h1, h2⟩ := Reps.cons_inv hs
    cases Reps.nil_inv h2
    obtain ⟨vs, a1, a2, a3⟩ := gd.at_ p _ em
    obtain ⟨b, ws, rfl, b1, b2, b3⟩ := lstOf_at gd h1 ez
    obtain ⟨ps, us2, rfl, p1, p2⟩ := flat_rep b3 ek
    rw [← c.K] at b1 p1
    have e1 := a3.length
    have e2 := p2.length
    refine XI.mt_updP c.calm pins s σ t.H _ _ v us Q I rx rs ⟨p, b, ps, vs, us2, rfl, rfl, a1, b1, p1, by omega, ?_⟩
    refine l _ _ (t.put p (.dK (L2.mergeK vs us2)) (.dct (kmerge kvs kws))) (Ext.put em) (gd.put em ⟨_, upd_same, ?_, (p2.merge a3).ext (Fst.put (gd.nfM em))⟩) (by simp only [Rep]) q
    have := L2.length_mergeK us2 vs
    rw [sizeLine_eq]
    omega
  · rename_i y
    split at q
    · rename_i z
      obtain ⟨ys, ey, q⟩ := someK_inv q
      obtain ⟨ns, en, hz, hj, q⟩ := someK_inv q
      obtain ⟨rfl, hl⟩ := repS hx
      obtain ⟨y, r, rfl, h1, h2⟩ := Reps.cons_inv hs
      cases Reps.nil_inv h2
      obtain ⟨a, vs, rfl, b1, b2, b3⟩ := seqOf_at gd h1 ey
      have := strs_rep b3 en; subst this
      rw [← c.K] at b1
      exact mt_join pins s σ t.H _ _ v us Q I rx rs ⟨z, a, ns, rfl, rfl, b1, hz, latS gd l hj q⟩
    · exact q.elim
  · rename_i b
    split at q
    · rename_i z
      obtain ⟨hb, hz, hy, q⟩ := q
      obtain ⟨rfl, hl⟩ := repS hx
      obtain ⟨y, r, rfl, h1, h2⟩ := Reps.cons_inv hs
      cases Reps.nil_inv h2
      obtain ⟨rfl, _⟩ := repS h1
      refine mt_split pins s σ t.H _ _ v us Q I rx rs ⟨z, b, rfl, rfl, hb, hz, fun p n => newL_use gd l q n ?_ (reps_strs hy)⟩
      rw [List.length_map]
      exact Nat.le_trans (PyProof.Rows.split_le z b) hz
    · exact q.elim
  · split at q
    · rename_i z
      obtain ⟨hz, hj, q⟩ := q
      obtain ⟨rfl, hl⟩ := repS hx
      cases Reps.nil_inv hs
      exact mt_upper pins s σ t.H _ _ v us Q I rx rs ⟨z, rfl, rfl, hz, latS gd l hj q⟩
    · exact q.elim
  · exact q.elim
/-- the value is of that type -/
theorem ty_D {pins : List (Addr × Obj)} {σ : L2.St} {t : Sta} {s : Shared} {d : D} {x : V} {v : Value} {ty : Ty} (c : COk W k X) (I : L2.Inv X pins σ t.H s) (gd : Good W t) (hx : Rep W t d x) (r : RelV x v) (e : tyOf t.M d = some ty) :
    (ty = .list → tyV X.K "list" x t.H) ∧ (ty = .dict → tyV X.K "dict" x t.H) ∧ (ty = .str → tyV X.K "str" x t.H) := by
  cases d with
  | lst xs => obtain ⟨a, vs, rfl, b1, _⟩ := lstAt hx; cases e; exact ⟨fun _ => .inl ⟨rfl, vs, .of b1⟩, fun h => (by cases h), fun h => (by cases h)⟩
  | klst xs => obtain ⟨a, vs, rfl, b1, _⟩ := klstAt hx; cases e; rw [← c.K] at b1; exact ⟨fun _ => .inl ⟨rfl, vs, b1⟩, fun h => (by cases h), fun h => (by cases h)⟩
  | str z => obtain ⟨rfl, _⟩ := repS hx; cases e; exact ⟨fun h => (by cases h), fun h => (by cases h), fun _ => rfl⟩
  | tup xs => cases e; exact ⟨fun h => (by cases h), fun h => (by cases h), fun h => (by cases h)⟩
  | ref p =>
    have := repR hx; subst this
    unfold tyOf at e
    dsimp only at e
    split at e
    · rename_i xs em
      cases e
      obtain ⟨vs, a1, _⟩ := gd.at_ p _ em
      exact ⟨fun _ => .inl ⟨rfl, vs, .of a1⟩, fun h => (by cases h), fun h => (by cases h)⟩
    · rename_i xs em
      cases e
      obtain ⟨vs, a1, _⟩ := gd.at_ p _ em
      exact ⟨fun h => (by cases h), fun _ => .inr (.inr (.inl ⟨rfl, .inl ⟨vs, a1⟩⟩)), fun h => (by cases h)⟩
    · cases e
  | _ => cases e
theorem bmD_ok {ty : Ty} {m : BM} {fz : Bool} {d : D} {ds : List D} {M : Mm} {Q : KD} (h : bmD ty m fz d ds M Q) : okM ty m = true := by
  unfold bmD at h
  split at h <;> first | rfl | exact h.elim
theorem bm_on {pins : List (Addr × Obj)} {σ : L2.St} {t : Sta} {s : Shared} {d : D} {x : V} {v : Value} {ty : Ty} {m : BM} {pos : Pos} {trees : List (Bool × Sem Value)} {Q : Value → Shared → Prop} (c : COk W k X) (I : L2.Inv X pins σ t.H s) (gd : Good W t) (hx : Rep W t d x) (r : RelV x v) (e : tyOf t.M d = some ty) (ok : okM ty m = true)
    (h : wpAny (model X.prog X.w) X.A (callWith pos (.builtin (mid ty m)) [v] trees []) Q X.xe s) : MethodOn X.prog X.w X.A m.name pos v trees Q X.xe s := by
  obtain ⟨t1, t2, t3⟩ := ty_D c I gd hx r e
  cases ty <;> cases m <;> first
    | exact absurd ok (by decide)
    | (obtain ⟨h1, h2⟩ := tyV_is I r (t1 rfl)
       first
         | exact ⟨_, _, F.plainAttrs_list, F.slot_list_append, F.type_list_append, h1, h2, h⟩
         | exact ⟨_, _, F.plainAttrs_list, F.slot_list_extend, F.type_list_extend, h1, h2, h⟩
         | exact ⟨_, _, F.plainAttrs_list, F.slot_list_pop, F.type_list_pop, h1, h2, h⟩)
    | (obtain ⟨h1, h2⟩ := tyV_is I r (t2 rfl)
       first
         | exact ⟨_, _, F.plainAttrs_dict, F.slot_dict_get, F.type_dict_get, h1, h2, h⟩
         | exact ⟨_, _, F.plainAttrs_dict, F.slot_dict_setdefault, F.type_dict_setdefault, h1, h2, h⟩
         | exact ⟨_, _, F.plainAttrs_dict, F.slot_dict_update, F.type_dict_update, h1, h2, h⟩)
    | (obtain ⟨h1, h2⟩ := tyV_is I r (t3 rfl)
       first
         | exact ⟨_, _, F.plainAttrs_str, F.slot_str_join, F.type_str_join, h1, h2, h⟩
         | exact ⟨_, _, F.plainAttrs_str, F.slot_str_split, F.type_str_split, h1, h2, h⟩
         | exact ⟨_, _, F.plainAttrs_str, F.slot_str_upper, F.type_str_upper, h1, h2, h⟩)
end
end TL

set_option Elab.async false
set_option linter.all false
set_option maxRecDepth 100000
set_option maxHeartbeats 4000000
/-! What a def promises in trees; its call. -/
namespace TL
open PySem PySem.Spec PyProof.Rows L2

def XEd (W : Wd) (t : Sta) (x : XD) : XK := fun cls dd H => ∃ t' n d, t'.H = H ∧ Ext t t' ∧ Good W t' ∧ XRep W t' n d cls dd ∧ x n d t'.M
structure FnG (W : Wd) (k : Nat) (f : Addr) (fd : FuncData) (ps : List Str) (c : Contract) : Prop where
  len : ∀ ds M x Q, c ds M x Q → ds.length = ps.length
  run : ∀ (A : Around) (outer : List Env) (s : Shared) (t : Sta) (args : Args) (us : List Value) (vs : List V) (ds : List D) (x : XD) (Qp : KD) (Q : VK), Room k A → A.guards = some [] →
    Env0 W.P W.w W.K W.mg W.base A outer s t.H → BindsTo s fd args (ps.zip us) → Vals vs us → Good W t → Reps W t ds vs → c ds t.M x Qp → Lat W t Qp Q →
    codeAny (model W.P W.w) A (.call (.ref f) args) (CR (CX W.P W.w) outer W.P W.w t.H s Q (XEd W t x)) s
theorem FnG.mono {W : Wd} {j k : Nat} {f : Addr} {fd : FuncData} {ps : List Str} {c : Contract} (F : FnG W j f fd ps c) (h : j ≤ k) : FnG W k f fd ps c :=
  ⟨F.len, fun A outer s t args us vs ds x Qp Q hr => F.run A outer s t args us vs ds x Qp Q (hr.mono h)⟩
theorem FnG.imp {W : Wd} {k : Nat} {f : Addr} {fd : FuncData} {ps : List Str} {c c' : Contract} (F : FnG W k f fd ps c) (h : ∀ ds M x Q, c' ds M x Q → c ds M x Q) : FnG W k f fd ps c' :=
  ⟨fun ds M x Q q => F.len _ _ _ _ (h _ _ _ _ q), fun A outer s t args us vs ds x Qp Q hr hg he hb hv g r q => F.run A outer s t args us vs ds x Qp Q hr hg he hb hv g r (h _ _ _ _ q)⟩

/-- the context of a piece of code; what it lets out is taken -/
structure CtxB (W : Wd) (k : Nat) (B : Bnd) (X : Cx) : Prop extends COk W k X where
  tk : Takes X (wX W B)

section
variable {W : Wd} {k j : Nat} {B : Bnd} {X : Cx}
/-- the callee runs -/
theorem run_g {f : Addr} {fd : FuncData} {ps : List Str} {ct : Contract} {pins : List (Addr × Obj)} {σ : L2.St} {s : Shared} {t : Sta} {us us2 : List Value} {kw : List (Str × Value)} {vs : List V} {ds : List D} {env : En} {Qp : KD} {Q : VK}
    (c : CtxB W k B X) (F : FnG W j f fd ps ct) (hj : j ≤ k) (I : L2.Inv X pins σ t.H s) (hb : BindsTo s fd ⟨us, kw⟩ (ps.zip us2)) (r : Vals vs us2) (gd : Good W t) (rp : Reps W t ds vs) (he : Ext B.t0 t) (re : REnv W t env σ)
    (h : ct ds t.M (B.ex env) Qp) (l : Lat W t Qp Q) : wpAny (model X.prog X.w) X.A (call (.ref f) us kw) (EP X pins σ Q) X.xe s := by
  have e0 := I.env0
  rw [c.P, c.w, c.K, c.mg, c.base] at e0
  have hr := F.run X.A X.stack s t ⟨us, kw⟩ us2 vs ds (B.ex env) Qp Q (c.room.mono hj) c.gd e0 hb r gd rp h l
  rw [c.P, c.w]
  refine wpAny_call (codeAny_mono hr fun r s' hq => ?_)
  cases r with
  | error e =>
    refine c.tk e s' (XE.of_call I (fun cls d H' q => ?_) (by rw [c.P, c.w]; exact hq))
    obtain ⟨t', n, dd, e1, e2, e3, e4, e5⟩ := q
    exact ⟨env, t', n, dd, e1, he.trans e2, e3, re.ext (e2.fst gd), e4, e5⟩
  | ok fl =>
    cases fl with
    | ret u => exact I.after (by rw [c.P, c.w]; exact hq)
    | next => exact False.elim hq
    | brk => exact False.elim hq
    | cont => exact False.elim hq
/-- the same, from an inner place, of a callee that lets nothing out -/
theorem run_gn {A : Around} {f : Addr} {fd : FuncData} {ps : List Str} {ct : Contract} {pins : List (Addr × Obj)} {σ : L2.St} {s : Shared} {t : Sta} {us us2 : List Value} {kw : List (Str × Value)} {vs : List V} {ds : List D} {Qp : KD} {Q : VK}
    (c : COk W k X) (F : FnG W j f fd ps ct) (hr : Room j A) (hg : A.guards = some []) (hf : A.frames = some X.stack) (I : L2.Inv X pins σ t.H s) (hb : BindsTo s fd ⟨us, kw⟩ (ps.zip us2)) (r : Vals vs us2) (gd : Good W t) (rp : Reps W t ds vs)
    (h : ct ds t.M noX Qp) (l : Lat W t Qp Q) : codeAny (model X.prog X.w) A (.call (.ref f) ⟨us, kw⟩) (fun r s' => match r with
      | .ok (.ret u) => EP X pins σ Q u s'
      | _ => False) s := by
  have e0 := I.env0
  rw [c.P, c.w, c.K, c.mg, c.base] at e0
  have e1 : Env0 W.P W.w W.K W.mg W.base A X.stack s t.H := ⟨hf, e0.mod, e0.bs, e0.bsz, e0.funs, e0.frf, e0.hok, e0.bare⟩
  have hr := F.run A X.stack s t ⟨us, kw⟩ us2 vs ds noX Qp Q hr hg e1 hb r gd rp h l
  rw [c.P, c.w]
  refine codeAny_mono hr fun r s' hq => ?_
  cases r with
  | error e =>
    obtain ⟨a, B, H', cls, d, _, _, _, _, _, _, _, q⟩ := (show L2.CX W.P W.w X.stack t.H s (XEd W t noX) e s' from hq)
    obtain ⟨_, _, _, _, _, _, _, z⟩ := q
    exact z.elim
  | ok fl =>
    cases fl with
    | ret u => exact I.after (by rw [c.P, c.w]; exact hq)
    | next => exact False.elim hq
    | brk => exact False.elim hq
    | cont => exact False.elim hq
end

/-! ### a def keeps its promise -/
structure LatE (W : Wd) (t : Sta) (Dp : Fin) (D : Ends) : Prop where
  nx : ∀ env σ t', Ext t t' → Good W t' → REnv W t' env σ → Dp.nx env t'.M → D.nx σ t'.H
  rt : Lat W t Dp.rt D.rt
  bk : ∀ env σ t', Ext t t' → Good W t' → REnv W t' env σ → Dp.bk env t'.M → D.bk σ t'.H
  ct : ∀ env σ t', Ext t t' → Good W t' → REnv W t' env σ → Dp.ct env t'.M → D.ct σ t'.H
theorem LatE.later {W : Wd} {t t' : Sta} {Dp : Fin} {D : Ends} (l : LatE W t Dp D) (e : Ext t t') : LatE W t' Dp D :=
  ⟨fun env σ t2 e2 => l.nx env σ t2 (e.trans e2), fun d v t2 e2 => l.rt d v t2 (e.trans e2), fun env σ t2 e2 => l.bk env σ t2 (e.trans e2), fun env σ t2 e2 => l.ct env σ t2 (e.trans e2)⟩
def tS (W : Wd) (B : Bnd) (p : Fin → En → Mm → Prop) : TS := fun D σ H => ∃ (env : En) (t : Sta) (Dp : Fin), t.H = H ∧ Ext B.t0 t ∧ Good W t ∧ REnv W t env σ ∧ Dp.ex = B.ex ∧ p Dp env t.M ∧ LatE W t Dp D
def sub (M1 M : Mm) : Prop := ∀ a o, M1 a = some o → M a = some o
/-- a def's end: what was changeable within it is forgotten -/
def fin (Q : KD) : KD := fun d M => ∃ M1, sub M1 M ∧ Q d M1
def startE (n : Nat) (ds : List D) : En := ds.map some ++ List.replicate (n - ds.length) none
theorem startE_rep {W : Wd} {t : Sta} {N : List Str} : ∀ {ds : List D} {vs : List V}, Reps W t ds vs → REnv W t (startE N.length ds) (L2.start N vs) := by
  intro ds vs h
  have hl := h.length
  refine ⟨by unfold startE L2.start; simp [hl], fun i d e => ?_⟩
  have hi : i < ds.length := by
    unfold startE at e
    by_cases hi : i < ds.length
    · exact hi
    · rw [List.getElem?_append_right (by simpa using hi), List.getElem?_replicate] at e
      split at e <;> cases e
  have e2 : ds[i]? = some d := by
    unfold startE at e
    rw [List.getElem?_append_left (by simpa using hi), List.getElem?_map] at e
    cases q : ds[i]? with
    | none => rw [q] at e; cases e
    | some x => rw [q] at e; cases e; rfl
  obtain ⟨v, h1, h2⟩ := h.get e2
  refine ⟨v, ?_, h2⟩
  unfold L2.start
  rw [List.getElem?_append_left (by simp; omega), List.getElem?_map, h1]; rfl
theorem Lat.fin {W : Wd} {t : Sta} {Qp : KD} {Q : VK} (l : Lat W t Qp Q) : Lat W t (TL.fin Qp) Q := fun d v t' e g r ⟨M1, s, q⟩ =>
  l d v (t'.less M1) (e.trans (Ext.less s)) (g.less s) (Rep.ext (t := t') (t' := t'.less M1) (fun _ f => ⟨f, fun _ h => h⟩) r) q
/-- the body of a def -/
structure BodyB (W : Wd) (k : Nat) (B : Bnd) (X : Cx) : Prop extends CtxB W k B X where
  po : PassesOwn (model X.prog X.w) X.A X.env X.xe
  stk : X.stack = X.env :: X.outer
  frm : X.env.frame = some X.env.locals
  lfn : X.fn = fun _ => true
theorem fnG_of {W : Wd} {k : Nat} {x qual : Str} {params : Arguments} {body : List Stmt} {scope : Scope} {dvs : List V} {kws : List (Str × V)} {f : Addr} {fd : FuncData} {N ps : List Str} {ct : Contract} {p : Fin → En → Mm → Prop}
    (F : FunD W.K x qual params body scope dvs kws f fd) (S : FnScope N ps scope) (len : ∀ ds M x Q, ct ds M x Q → ds.length = ps.length)
    (hb : ∀ B X, X.N = N → X.env.scope = scope → X.env.qual = qual ++ ".<locals>." → X.env.code = fd.code → BodyB W k B X → PSs X body (tS W B p))
    (hw : ∀ ds M x Q, ct ds M x Q → p { nx := fun _ M' => TL.fin Q .non M', rt := TL.fin Q, ex := fun _ => x } (startE N.length ds) M) : FnG W (k + 1) f fd ps ct := by
  refine ⟨len, fun A outer s t args us vs ds xd Qp Q hr hg e0 hbt r gd rp h l => ?_⟩
  obtain ⟨oc, od, dV, kV, doc, pm, an, cdv, ctv, osl, rfl, lk, hcd, _, _⟩ := F.ex
  have hl : vs.length = ps.length := by rw [rp.length]; exact len _ _ _ _ h
  have KX : W.K.In s.heap := e0.mod.kin.keeps fun b o e => (e0.bs b o e).1
  have lim : s.heap.NoLimit := e0.mod.nolimit.keeps fun b o e => (e0.bs b o e).1
  have hkind : ∀ y ∈ ps.zip us, scope.names.lookup y.1 = some .local ∨ (scope.names.lookup y.1 = some .cell ∧ ((cellsFrom (s.heap.objs.size + 1) scope.names []).lookup y.1).isSome = true) := fun ⟨n, v⟩ hy => by
    rcases S.par n (List.of_mem_zip hy).1 with q | q
    · exact .inl q
    · exact .inr ⟨q, PySem.W.cellsFrom_some _ _ _ (.inl q)⟩
  refine codeAny_call_function hr.depth (KX _ _ lk) rfl S.co S.gen rfl (PySem.W.codeRec_of KX hcd) (hbt _ _ _ _ ?_)
  refine wpAny_newFunctionEnv_cells S.kind hkind fun env he s1 x => ?_
  subst he
  refine ⟨lim.keeps x.toInCall.keep, codeAny_func ?_⟩
  let X := cxOf (L2.CX W.P W.w) W.P W.w W.K W.mg W.base N qual scope f cdv A outer s t.H (XEd W t xd)
  let B : Bnd := ⟨t, fun _ => xd⟩
  have I : L2.Inv X [] (L2.start N vs) t.H s1 := inv_start S hr.hd e0 hl r x
  have tk : Takes X (wX W B) := (takes_of (X := X) (E := XEd W t xd) rfl rfl rfl rfl).imp fun c d σ H ⟨env, t', n, d', h1, h2, h3, h4, h5, h6⟩ => ⟨t', n, d', h1, h2, h3, h5, h6⟩
  have cb : BodyB W k B X :=
    { P := rfl, w := rfl, K := rfl, mg := rfl, base := rfl, room := hr.deeper _, gd := hg, calm := rfl, nd := S.nd, tk := tk, po := passes_of (X := X) rfl, stk := rfl, frm := rfl, lfn := rfl }
  have hp := hb B X rfl rfl rfl rfl cb
  refine wpAny_mono (hp.run [] s1 (L2.start N vs) t.H { nx := fun _ H' => Q .non H', rt := Q } I
    ⟨startE N.length ds, t, _, rfl, Ext.refl, gd, startE_rep rp, rfl, hw ds t.M xd Qp h, fun env σ t' e g _ q => Lat.fin l .non .non t' e g (by simp only [Rep]) q, Lat.fin l, fun _ _ _ _ _ _ q => q.elim, fun _ _ _ _ _ _ q => q.elim⟩) (fun fl s' hs => ?_) fun e s' hs => hs
  have fn : ∀ {σ' : L2.St} {H' : Hp} {v : V} {u : Value}, L2.Inv X [] σ' H' s' → RelV v u → Q v H' → CE outer W.P W.w t.H s Q u s' :=
    fun {σ' H' v u} J rv q => ⟨v, H', J.os, J.bare, J.base, J.hok, rv, q⟩
  cases fl with
  | ret u =>
    obtain ⟨v, σ', H', J, rv, q⟩ := hs
    exact fn J rv q
  | next =>
    obtain ⟨σ', H', J, q⟩ := hs
    exact fn (v := V.non) (u := Value.none) J rfl q
  | brk =>
    obtain ⟨_, _, _, q⟩ := hs
    exact False.elim q
  | cont =>
    obtain ⟨_, _, _, q⟩ := hs
    exact False.elim q
end TL

set_option Elab.async false
set_option linter.all false
set_option maxRecDepth 100000
set_option maxHeartbeats 4000000
/-! The pieces of expressions, one by one. -/
namespace TL
open PySem PySem.Spec PyProof.Rows L2

def nost : Expr → Bool
  | .Starred _ _ => false
  | _ => true
theorem star_cons {e : Expr} {es : List Expr} {env : Env} (h : nost e = true) : starEach (e :: es) env = (false, eval e env) :: starEach es env := by
  cases e <;> first | rfl | cases h
theorem star_any {pos : Pos} {env : Env} : ∀ {es : List Expr}, es.all nost = true → (backTo pos (starEach es env)).any (·.1) = false
  | [], _ => rfl
  | e :: es, h => by
    simp only [List.all_cons, Bool.and_eq_true] at h
    rw [star_cons h.1]
    show (false || (backTo pos (starEach es env)).any (·.1)) = false
    rw [star_any h.2]; rfl
theorem star_len {pos : Pos} {env : Env} : ∀ {es : List Expr}, es.all nost = true → (backTo pos (starEach es env)).all (fun x => !x.1) = true
  | [], _ => rfl
  | e :: es, h => by
    simp only [List.all_cons, Bool.and_eq_true] at h
    rw [star_cons h.1]
    show (true && (backTo pos (starEach es env)).all (fun x => !x.1)) = true
    rw [star_len h.2]; rfl
def okName (x : Str) : Bool := !(x == ("__debug__" : Str)) && !(x == ("__classdict__" : Str)) && decide (x ≠ "__name__")
theorem okName_d {x : Str} (h : okName x = true) : (x == ("__debug__" : Str)) = false ∧ (x == ("__classdict__" : Str)) = false ∧ x ≠ "__name__" := by
  unfold okName at h
  simp only [Bool.and_eq_true, Bool.not_eq_true', decide_eq_true_eq] at h
  exact ⟨h.1.1, h.1.2, h.2⟩
/-- super(), the one form in which the value of o.x is asked otherwise -/
def plainO : Expr → Bool
  | .Call (.Name id _) [] [] _ => !(id == ("super" : Str))
  | _ => true
theorem plainO_ok {o : Expr} {f : Str} {env : Env} {w : Sem Value} (h : plainO o = true) : attributeBase o f env w = w := by
  unfold attributeBase
  split
  · rename_i id _ pos
    have h' : (!(id == ("super" : Str))) = true := h
    have e : (id != ("super" : Str)) = true := h'
    rw [e]
    simp only [Bool.true_or, if_true]
  · rfl
theorem inMarks {op : CmpOp} {e : Expr} (h : (match e with | .Set _ _ _ => false | _ => true) = true) : behindInMarks op e = false := by
  cases e <;> first | rfl | cases h
/-- a subscript's index that is no slice -/
def noSl : Expr → Bool
  | .Slice _ _ _ _ => false
  | _ => true
theorem noSl_ok {b : Expr} (h : noSl b = true) : PlainIx b := fun o i => by
  cases b <;> first | rfl | cases h

section
variable {W : Wd} {k : Nat} {B : Bnd} {X : Cx} {a b e : Expr} {pos : Pos}
abbrev Wp := XD → En → Mm → KD → Prop
abbrev WpL := XD → En → Mm → (List D → Mm → Prop) → Prop
variable {p q r : Wp} {pl : WpL}

theorem e_v {i : Nat} {x : Str} (hi : X.N[i]? = some x) (hv : Vis X.env.scope x) (hx : okName x = true) : PE X (.Name x pos) (tE W B (wpE (.v i))) := by
  obtain ⟨h1, h2, _⟩ := okName_d hx
  refine (pe_var hi hv h1 h2).imp fun σ H Q ⟨env, t, Qp, hH, he, g, re, h, l⟩ => ?_
  subst hH
  unfold wpE varK at h
  split at h
  · rename_i d hd
    obtain ⟨v, hv, rv⟩ := re.2 i d hd
    exact ⟨v, hv, lat0 g l rv h⟩
  · exact h.elim
/-- a value that is there -/
theorem e_val {d : D} {v : V} (h : PE X e (tC v)) (r : ∀ t, Rep W t d v) (hw : ∀ x env M Q, p x env M Q → Q d M) : PE X e (tE W B p) :=
  h.imp fun σ H Q ⟨env, t, Qp, hH, he, g, re, h, l⟩ => by subst hH; exact lat0 g l (r t) (hw _ _ _ _ h)
theorem e_int {i : Int} {j : Nat} : PE X (.Constant (.int i) j pos) (tE W B (wpE (.c (.int i)))) := e_val (d := .int i) (v := .int i) pe_int (fun t => by simp only [Rep]) fun _ _ _ _ h => by unfold wpE at h; exact h
theorem e_bl {i : Bool} {j : Nat} : PE X (.Constant (.bool i) j pos) (tE W B (wpE (.c (.bl i)))) := e_val (d := .bl i) (v := .bl i) pe_bl (fun t => by simp only [Rep]) fun _ _ _ _ h => by unfold wpE at h; exact h
theorem e_non {j : Nat} : PE X (.Constant .none j pos) (tE W B (wpE (.c .non))) := e_val (d := .non) (v := .non) pe_non (fun t => by simp only [Rep]) fun _ _ _ _ h => by unfold wpE at h; exact h
theorem e_str {i : Str} {j : Nat} (hz : i.length ≤ sizeLine) : PE X (.Constant (.str i) j pos) (tE W B (wpE (.c (.str i)))) := e_val (d := .str i) (v := .str i) pe_str (fun t => by simp only [Rep]; exact ⟨trivial, hz⟩) fun _ _ _ _ h => by unfold wpE at h; exact h
theorem e_glob {x : Str} {d : D} {v : V} {u : Value} (c : COk W k X) (hg : Gl X x) (hx : okName x = true) (hm : W.mg x = some u) (r : RelV v u) (rd : ∀ t, Rep W t d v) : PE X (.Name x pos) (tE W B (wpE (.g x d))) :=
  e_val (pe_glob hg (by rw [c.mg]; exact hm) r (okName_d hx).1) rd fun _ _ _ _ h => by unfold wpE at h; exact h
theorem e_two {f : D → D → Mm → KD → Prop} (h : PE X e (tOp (l2 W f) (tE W B p) (tE W B q))) : PE X e (tE W B fun x env M Q => p x env M fun u M1 => q x env M1 fun v M2 => f u v M2 Q) := h.imp fun _ _ _ h => tE_two h
theorem e_one {f : D → Mm → KD → Prop} (h : PE X e (tUn (l1 W f) (tE W B p))) : PE X e (tE W B fun x env M Q => p x env M fun u M1 => f u M1 Q) := h.imp fun _ _ _ h => tE_one h
theorem e_bin {o : Operator} {fz : Bool} (c : COk W k X) (ho : (match o with | .Add => true | .Sub => true | .Mult => true | .FloorDiv => true | .Mod => true | .Pow => true | .LShift => true | .RShift => true | _ => false) = true)
    (ha : PE X a (tE W B p)) (hb : PE X b (tE W B q)) : PE X (.BinOp a o b pos) (tE W B fun x env M Q => p x env M fun u M1 => q x env M1 fun v M2 => binD o fz u v M2 Q) := e_two (pe_op (op_binD c o fz ho) ha hb)
theorem e_neg (c : COk W k X) (ha : PE X a (tE W B p)) : PE X (.UnaryOp .USub a pos) (tE W B fun x env M Q => p x env M fun u M1 => u.asI fun i => Q (.int (-i)) M1) := e_one (pe_un (un_negD c) ha)
theorem e_cmp {o : CmpOp} (c : COk W k X) (ha : PE X a (tE W B p)) (hb : PE X b (tE W B q)) (hm : behindInMarks o b = false) :
    PE X (.Compare a [o] [b] pos) (tE W B fun x env M Q => p x env M fun u M1 => q x env M1 fun v M2 => cmpK o M2 u v fun r => Q (.bl r) M2) := e_two (pe_cmpR (op_cmpD c o) ha hb hm)

/-! tests -/
theorem tB_bind {σ : L2.St} {H : Hp} {Q : Bool → Hp → Prop} {env : En} {t : Sta} {Qp : Bool → Mm → Prop} (hH : t.H = H) (he : Ext B.t0 t) (g : Good W t) (r : REnv W t env σ) (h : p (B.ex env) env t.M (fun d M => d.asB fun b => Qp b M))
    (k : ∀ b t', Ext t t' → Ext B.t0 t' → Good W t' → REnv W t' env σ → Qp b t'.M → Q b t'.H) : tB' W B p σ H Q :=
  ⟨env, t, Qp, hH, he, g, r, h, fun b t' e g' q => k b t' e (he.trans e) g' (r.ext (e.fst g)) q⟩
/-- a value as a test -/
theorem t_val (ha : PE X a (tE W B p)) (he : ∀ whole, isTrue a X.env whole = (do let v ← whole; standAt a.pos; holding [v] (truthy v))) : PT X a (tB' W B p) := by
  refine (pt_val ha he).imp fun σ H Q ⟨env, t, Qp, hH, he, g, r, h, l⟩ => ?_
  subst hH
  refine tE_bind rfl he g r h fun d v t' e e2 g' r' rd q => ?_
  obtain ⟨i, rfl, q⟩ := D.asB_inv q
  exact ⟨i, repB rd, l i t' e g' q⟩
theorem t_test {u : TE} (h : PT X a (tTest u)) (i : ∀ σ H Q, tE W B p σ H Q → u σ H Q) : PT X a (tB' W B p) := by
  refine h.imp fun σ H Q ⟨env, t, Qp, hH, he, g, r, h, l⟩ => ?_
  subst hH
  refine i _ _ _ (tE_bind rfl he g r h fun d v t' e e2 g' r' rd q => ?_)
  obtain ⟨b, rfl, q⟩ := D.asB_inv q
  exact ⟨b, repB rd, l b t' e g' q⟩
theorem t_cmp {o : CmpOp} (c : COk W k X) (ha : PE X a (tE W B p)) (hb : PE X b (tE W B q)) (hm : behindInMarks o b = false) :
    PT X (.Compare a [o] [b] pos) (tB' W B fun x env M Q => p x env M fun u M1 => q x env M1 fun v M2 => cmpK o M2 u v fun r => Q (.bl r) M2) := t_test (pt_cmpR (op_cmpD c o) ha hb hm) fun _ _ _ h => tE_two h
def wChn (o o' : CmpOp) (p q r : Wp) : Wp := fun x env M Q => p x env M fun u M1 => q x env M1 fun v M2 => cmpK o M2 u v fun b =>
  if b = true then r x env M2 fun w M3 => cmpK o' M3 v w fun b => Q (.bl b) M3 else Q (.bl false) M2
theorem chn_imp {o o' : CmpOp} {σ : L2.St} {H : Hp} {Q : VK} (h : tE W B (wChn o o' p q r) σ H Q) :
    tChain (l2 W fun x y M Q => cmpK o M x y fun b => Q (.bl b) M) (l2 W fun x y M Q => cmpK o' M x y fun b => Q (.bl b) M) (tE W B p) (tE W B q) (tE W B r) σ H Q := by
  obtain ⟨env, t, Qp, rfl, he, g, re, h, l⟩ := h
  refine tE_bind rfl he g re h fun d v t1 e1 he1 g1 r1 rd h1 => tE_bind rfl he1 g1 r1 h1 fun d2 v2 t2 e2 he2 g2 r2 rd2 h2 => ?_
  refine ⟨d, d2, t2, fun z M3 => z.asB fun b => if b = true then r (B.ex env) env M3 fun w M3 => cmpK o' M3 d2 w fun b => Qp (.bl b) M3 else Qp (.bl false) M3, rfl, g2, rd.ext (e2.fst g1), rd2, h2, fun d3 v3 t3 e3 g3 rd3 q3 => ?_⟩
  obtain ⟨b, rfl, q4⟩ := D.asB_inv q3
  refine ⟨b, repB rd3, ?_⟩
  cases b with
  | true =>
    rw [if_pos rfl] at q4 ⊢
    refine tE_bind rfl (he2.trans e3) g3 (r2.ext (e3.fst g2)) q4 fun d4 v4 t4 e4 he4 g4 r4 rd4 h4 => ?_
    exact ⟨d2, d4, t4, Qp, rfl, g4, (rd2.ext (e3.fst g2)).ext (e4.fst g3), rd4, h4, fun d5 v5 t5 e5 g5 rd5 q5 => l d5 v5 t5 (((e1.trans e2).trans e3).trans (e4.trans e5)) g5 rd5 q5⟩
  | false =>
    rw [if_neg Bool.false_ne_true] at q4 ⊢
    exact l _ _ _ ((e1.trans e2).trans e3) g3 (by simp only [Rep]) q4
theorem e_chn {o o' : CmpOp} {c : Expr} (co : COk W k X) (ha : PE X a (tE W B p)) (hb : PE X b (tE W B q)) (hc : PE X c (tE W B r)) (hm : lastMarks [o, o'] [b, c] = false) : PE X (.Compare a [o, o'] [b, c] pos) (tE W B (wChn o o' p q r)) :=
  (pe_chain (op_cmpD co o) (op_cmpD co o') ha hb hc hm).imp fun _ _ _ h => chn_imp h
theorem t_chn {o o' : CmpOp} {c : Expr} (co : COk W k X) (ha : PE X a (tE W B p)) (hb : PE X b (tE W B q)) (hc : PE X c (tE W B r)) (hm : lastMarks [o, o'] [b, c] = false) : PT X (.Compare a [o, o'] [b, c] pos) (tB' W B (wChn o o' p q r)) :=
  t_test (pt_chain (op_cmpD co o) (op_cmpD co o') ha hb hc hm) fun _ _ _ h => chn_imp h
theorem e_not (ha : PE X a (tE W B p)) : PE X (.UnaryOp .Not a pos) (tE W B fun x env M Q => p x env M fun u M1 => u.asB fun b => Q (.bl (!b)) M1) := by
  refine (pe_not ha).imp fun σ H Q ⟨env, t, Qp, hH, he, g, re, h, l⟩ => ?_
  subst hH
  refine tE_bind rfl he g re h fun d v t1 e1 he1 g1 r1 rd h1 => ?_
  obtain ⟨b, rfl, h3⟩ := D.asB_inv h1
  exact ⟨b, repB rd, l _ _ _ e1 g1 (by simp only [Rep]) h3⟩
theorem t_not (ha : PT X a (tB' W B p)) : PT X (.UnaryOp .Not a pos) (tB' W B fun x env M Q => p x env M fun u M1 => u.asB fun b => Q (.bl (!b)) M1) := by
  refine (pt_not ha).imp fun σ H Q ⟨env, t, Qp, hH, he, g, re, h, l⟩ => ?_
  subst hH
  exact tB_bind (Qp := fun b M => Qp (!b) M) rfl he g re h fun b t1 e1 he1 g1 r1 h1 => l _ _ e1 g1 h1

/-! and, or -/
theorem e_and1 {op : BoolOp} {w : Wp} (ha : PE X a (tE W B p)) (hw : ∀ x env M Q, w x env M Q → p x env M fun u M1 => u.asB fun b => Q (.bl b) M1) : PE X (.BoolOp op [a] pos) (tE W B w) := by
  refine (pe_one ha).imp fun σ H Q ⟨env, t, Qp, hH, he, g, re, h, l⟩ => ?_
  subst hH
  refine tE_bind rfl he g re (hw _ _ _ _ h) fun d v t1 e1 he1 g1 r1 rd h1 => ?_
  obtain ⟨b, rfl, h3⟩ := D.asB_inv h1
  exact l _ _ _ e1 g1 rd h3
theorem e_and {es : List Expr} {w : Wp} (ha : PE X a (tE W B p)) (hb : PE X (.BoolOp .And (b :: es) pos) (tE W B q)) (hw : ∀ x env M Q, w x env M Q → p x env M fun u M1 => u.asB fun b => if b = true then q x env M1 Q else Q (.bl false) M1) :
    PE X (.BoolOp .And (a :: b :: es) pos) (tE W B w) := by
  refine (pe_and ha hb).imp fun σ H Q ⟨env, t, Qp, hH, he, g, re, h, l⟩ => ?_
  subst hH
  refine tE_bind rfl he g re (hw _ _ _ _ h) fun d v t1 e1 he1 g1 r1 rd h1 => ?_
  obtain ⟨b, rfl, h3⟩ := D.asB_inv h1
  refine ⟨b, repB rd, ?_⟩
  cases b with
  | true => rw [if_pos rfl] at h3 ⊢; exact tE_bind rfl he1 g1 r1 h3 fun d v t2 e2 _ g2 _ rd h2 => l _ _ _ (e1.trans e2) g2 rd h2
  | false => rw [if_neg Bool.false_ne_true] at h3 ⊢; exact l _ _ _ e1 g1 (by simp only [Rep]) h3
theorem e_or {es : List Expr} {w : Wp} (ha : PE X a (tE W B p)) (hb : PE X (.BoolOp .Or (b :: es) pos) (tE W B q)) (hw : ∀ x env M Q, w x env M Q → p x env M fun u M1 => u.asB fun b => if b = true then Q (.bl true) M1 else q x env M1 Q) :
    PE X (.BoolOp .Or (a :: b :: es) pos) (tE W B w) := by
  refine (pe_or ha hb).imp fun σ H Q ⟨env, t, Qp, hH, he, g, re, h, l⟩ => ?_
  subst hH
  refine tE_bind rfl he g re (hw _ _ _ _ h) fun d v t1 e1 he1 g1 r1 rd h1 => ?_
  obtain ⟨b, rfl, h3⟩ := D.asB_inv h1
  refine ⟨b, repB rd, ?_⟩
  cases b with
  | false => rw [if_neg Bool.false_ne_true] at h3 ⊢; exact tE_bind rfl he1 g1 r1 h3 fun d v t2 e2 _ g2 _ rd h2 => l _ _ _ (e1.trans e2) g2 rd h2
  | true => rw [if_pos rfl] at h3 ⊢; exact l _ _ _ e1 g1 (by simp only [Rep]) h3
theorem w_and1 {w : Wp} (ha : PT X a (tB' W B p)) (hw : ∀ x env M Q, w x env M Q → p x env M fun u M1 => u.asB fun b => Q (.bl b) M1) : PW X (.BoolOp .And [a] pos) (tB' W B w) := by
  refine (pw_and1 ha).imp fun σ H Q ⟨env, t, Qp, hH, he, g, re, h, l⟩ => ?_
  subst hH
  exact tB_bind rfl he g re (hw _ _ _ _ h) fun b t1 e1 he1 g1 r1 h1 => l _ _ e1 g1 h1
theorem w_or1 {w : Wp} (ha : PT X a (tB' W B p)) (hw : ∀ x env M Q, w x env M Q → p x env M fun u M1 => u.asB fun b => Q (.bl b) M1) : PW X (.BoolOp .Or [a] pos) (tB' W B w) := by
  refine (pw_or1 ha).imp fun σ H Q ⟨env, t, Qp, hH, he, g, re, h, l⟩ => ?_
  subst hH
  exact tB_bind rfl he g re (hw _ _ _ _ h) fun b t1 e1 he1 g1 r1 h1 => l _ _ e1 g1 h1
theorem asB_if {u : D} {c : Bool → Prop} (h : u.asB c) : ∃ b, u = .bl b ∧ c b := D.asB_inv h
theorem w_and {es : List Expr} {w : Wp} (ha : PT X a (tB' W B p)) (hb : PW X (.BoolOp .And (b :: es) pos) (tB' W B q)) (hw : ∀ x env M Q, w x env M Q → p x env M fun u M1 => u.asB fun b => if b = true then q x env M1 Q else Q (.bl false) M1) :
    PW X (.BoolOp .And (a :: b :: es) pos) (tB' W B w) := by
  refine (pw_and ha hb).imp fun σ H Q ⟨env, t, Qp, hH, he, g, re, h, l⟩ => ?_
  subst hH
  refine tB_bind (Qp := fun b M1 => if b = true then q (B.ex env) env M1 (fun d M => d.asB fun b => Qp b M) else Qp false M1) rfl he g re (hw _ _ _ _ h) fun b t1 e1 he1 g1 r1 h1 => ?_
  cases b with
  | true => rw [if_pos rfl] at h1 ⊢; exact tB_bind rfl he1 g1 r1 h1 fun b t2 e2 _ g2 _ h2 => l _ _ (e1.trans e2) g2 h2
  | false => rw [if_neg Bool.false_ne_true] at h1 ⊢; exact l _ _ e1 g1 h1
theorem w_or {es : List Expr} {w : Wp} (ha : PT X a (tB' W B p)) (hb : PW X (.BoolOp .Or (b :: es) pos) (tB' W B q)) (hw : ∀ x env M Q, w x env M Q → p x env M fun u M1 => u.asB fun b => if b = true then Q (.bl true) M1 else q x env M1 Q) :
    PW X (.BoolOp .Or (a :: b :: es) pos) (tB' W B w) := by
  refine (pw_or ha hb).imp fun σ H Q ⟨env, t, Qp, hH, he, g, re, h, l⟩ => ?_
  subst hH
  refine tB_bind (Qp := fun b M1 => if b = true then Qp true M1 else q (B.ex env) env M1 (fun d M => d.asB fun b => Qp b M)) rfl he g re (hw _ _ _ _ h) fun b t1 e1 he1 g1 r1 h1 => ?_
  cases b with
  | false => rw [if_neg Bool.false_ne_true] at h1 ⊢; exact tB_bind rfl he1 g1 r1 h1 fun b t2 e2 _ g2 _ h2 => l _ _ (e1.trans e2) g2 h2
  | true => rw [if_pos rfl] at h1 ⊢; exact l _ _ e1 g1 h1
theorem e_ite {c : Expr} (hc : PT X c (tB' W B p)) (ha : PE X a (tE W B q)) (hb : PE X b (tE W B r)) :
    PE X (.IfExp c a b pos) (tE W B fun x env M Q => p x env M fun u M1 => u.asB fun z => if z = true then q x env M1 Q else r x env M1 Q) := by
  refine (pe_ifExp hc ha hb).imp fun σ H Q ⟨env, t, Qp, hH, he, g, re, h, l⟩ => ?_
  subst hH
  refine tB_bind (Qp := fun z M1 => if z = true then q (B.ex env) env M1 Qp else r (B.ex env) env M1 Qp) rfl he g re h fun z t1 e1 he1 g1 r1 h1 => ?_
  cases z with
  | true => rw [if_pos rfl] at h1 ⊢; exact tE_bind rfl he1 g1 r1 h1 fun d v t2 e2 _ g2 _ rd h2 => l _ _ _ (e1.trans e2) g2 rd h2
  | false => rw [if_neg Bool.false_ne_true] at h1 ⊢; exact tE_bind rfl he1 g1 r1 h1 fun d v t2 e2 _ g2 _ rd h2 => l _ _ _ (e1.trans e2) g2 rd h2

/-! several -/
theorem a_nil : PA X [] (tA W B (wpEs .nil)) := pa_nil.imp fun σ H Q ⟨env, t, Qp, hH, he, g, re, h, l⟩ => by
  subst hH; unfold wpEs at h; exact l [] [] t Ext.refl g Reps.nil h
theorem a_cons {es : List Expr} {w : WpL} (hn : nost a = true) (ha : PE X a (tE W B p)) (hb : PA X es (tA W B pl)) (hw : ∀ x env M Q, w x env M Q → p x env M fun d M1 => pl x env M1 fun ds M2 => Q (d :: ds) M2) : PA X (a :: es) (tA W B w) := by
  refine (pa_cons ha hb (star_cons hn)).imp fun σ H Q ⟨env, t, Qp, hH, he, g, re, h, l⟩ => ?_
  subst hH
  refine tE_bind rfl he g re (hw _ _ _ _ h) fun d v t1 e1 he1 g1 r1 rd h1 => ?_
  exact tA_bind rfl he1 g1 r1 h1 fun ds vs t2 e2 _ g2 _ rds h2 => l _ _ _ (e1.trans e2) g2 (.cons (rd.ext (e2.fst g1)) rds) h2
theorem a_star {es : List Expr} {w : WpL} {sp : Pos} (c : COk W k X) (ha : PE X a (tE W B p)) (hb : PA X es (tA W B pl)) (hw : ∀ x env M Q, w x env M Q → p x env M fun d M1 => someK (seqOf M1 d) fun xs => pl x env M1 fun ds M2 => Q (xs ++ ds) M2) : PA X (.Starred a sp :: es) (tA W B w) := by
  refine (StX.pa_star ha hb rfl).imp fun σ H Q ⟨env, t, Qp, hH, he, g, re, h, l⟩ => ?_
  subst hH
  refine tE_bind rfl he g re (hw _ _ _ _ h) fun d v t1 e1 he1 g1 r1 rd h1 => ?_
  obtain ⟨xs, ex, h1⟩ := someK_inv h1
  obtain ⟨b, vs, rfl, b1, b2, b3⟩ := seqOf_at g1 rd ex
  rw [← c.K] at b1
  refine ⟨b, vs, rfl, b1.symm, ?_⟩
  exact tA_bind rfl he1 g1 r1 h1 fun ds us t2 e2 _ g2 _ rds h2 => l _ _ _ (e1.trans e2) g2 ((b3.ext (e2.fst g1)).append rds) h2
theorem e_tup {es : List Expr} {x1 : Nat} (ha : PA X es (tA W B pl)) : PE X (.Tuple es x1 pos) (tE W B fun x env M Q => pl x env M fun ds M1 => ds.length ≤ sizeLine ∧ Q (.tup ds) M1) := by
  refine (pe_tup ha).imp fun σ H Q ⟨env, t, Qp, hH, he, g, re, h, l⟩ => ?_
  subst hH
  refine tA_bind rfl he g re h fun ds vs t1 e1 he1 g1 r1 rds ⟨hz, h1⟩ => ?_
  rw [← rds.length] at hz
  exact ⟨hz, fun p n => newT_use g1 (fun d v t2 e2 g2 rd q => l d v t2 (e1.trans e2) g2 rd q) h1 n hz rds⟩
theorem e_lst {es : List Expr} {fz : Bool} (ha : PA X es (tA W B pl)) : PE X (.List es pos) (tE W B fun x env M Q => pl x env M fun ds M1 => ds.length ≤ sizeLine ∧ newL fz ds M1 Q) := by
  refine (pe_lst ha).imp fun σ H Q ⟨env, t, Qp, hH, he, g, re, h, l⟩ => ?_
  subst hH
  refine tA_bind rfl he g re h fun ds vs t1 e1 he1 g1 r1 rds ⟨hz, h1⟩ => ?_
  rw [← rds.length] at hz
  exact ⟨hz, fun p n => newL_use g1 (fun d v t2 e2 g2 rd q => l d v t2 (e1.trans e2) g2 rd q) h1 n hz rds⟩

/-! subscripts -/
theorem e_ix (c : COk W k X) (ha : PE X a (tE W B p)) (hb : PE X b (tE W B q)) (hs : noSl b = true) : PE X (.Subscript a b pos) (tE W B fun x env M Q => p x env M fun u M1 => q x env M1 fun v M2 => ixK M2 u v fun d => Q d M2) :=
  e_two (pe_ix (ix_D c) ha hb (noSl_ok hs))
def tO' (W : Wd) (B : Bnd) (p : XD → En → Mm → (Option D → Mm → Prop) → Prop) : TO := fun σ H Q => ∃ (env : En) (t : Sta) (Qp : Option Int → Mm → Prop), t.H = H ∧ Ext B.t0 t ∧ Good W t ∧ REnv W t env σ ∧ p (B.ex env) env t.M (fun o M => optI o fun i => Qp i M) ∧
  ∀ i t', Ext t t' → Good W t' → Qp i t'.M → Q i t'.H
theorem o_none : L2.PO X none (tO' W B (wpEo .none)) := ⟨fun pins s σ H Q I ⟨env, t, Qp, hH, he, g, re, h, l⟩ => by
  subst hH
  unfold wpEo at h
  exact po_none.run pins s σ t.H Q I (l none t Ext.refl g h)⟩
theorem o_some {w : E} (ha : PE X a (tE W B (wpE w))) : L2.PO X (some a) (tO' W B (wpEo (.some w))) := ⟨fun pins s σ H Q I ⟨env, t, Qp, hH, he, g, re, h, l⟩ => by
  subst hH
  unfold wpEo at h
  refine (po_some ha).run pins s σ t.H Q I (tE_bind rfl he g re h fun d v t1 e1 he1 g1 r1 rd h1 => ?_)
  cases d with
  | int i => exact ⟨i, repI rd, l _ _ e1 g1 h1⟩
  | _ => exact (show False from h1).elim⟩
theorem e_sl {fz : Bool} {lo hi : Option Expr} {w1 w2 : Eo} {p2 : Pos} (c : COk W k X) (ha : PE X a (tE W B p)) (hl : L2.PO X lo (tO' W B (wpEo w1))) (hh : L2.PO X hi (tO' W B (wpEo w2))) :
    PE X (.Subscript a (.Slice lo hi none p2) pos) (tE W B fun x env M Q => p x env M fun u M1 => wpEo w1 x env M1 fun l M2 => optI l fun l => wpEo w2 x env M2 fun h M3 => optI h fun h => slK fz M3 u l h Q) := by
  refine (pe_slice (sl_D c fz) ha hl hh).imp fun σ H Q ⟨env, t, Qp, hH, he, g, re, h, l⟩ => ?_
  subst hH
  refine tE_bind rfl he g re h fun d v t1 e1 he1 g1 r1 rd h1 => ?_
  refine ⟨env, t1, fun i M2 => wpEo w2 (B.ex env) env M2 fun h M3 => optI h fun h => slK fz M3 d i h Qp, rfl, he1, g1, r1, h1, fun i t2 e2 g2 h2 => ?_⟩
  refine ⟨env, t2, fun j M3 => slK fz M3 d i j Qp, rfl, he1.trans e2, g2, r1.ext (e2.fst g1), h2, fun j t3 e3 g3 h3 => ?_⟩
  exact ⟨d, t3, Qp, rfl, g3, (rd.ext (e2.fst g1)).ext (e3.fst g2), h3, fun d v t4 e4 g4 rd4 q4 => l d v t4 (e1.trans (e2.trans (e3.trans e4))) g4 rd4 q4⟩
end
end TL

set_option Elab.async false
set_option linter.all false
set_option maxRecDepth 100000
set_option maxHeartbeats 4000000
/-! Calls, instances. -/
namespace TL
open PySem PySem.Spec PyProof.Rows L2

/-! built-in functions -/
theorem boot_bi (f : BI) : bootBuiltins f.name = some (match f with | .int => .type "int" | .str => .type "str" | .tuple => .type "tuple" | .list => .type "list" | .dict => .type "dict" | f => .builtin (match f with
  | .len => "len" | .abs => "abs" | .sum => "sum" | .sum2 => "sum" | .all => "all" | .any => "any" | .max => "max" | .min => "min" | .max2 => "max" | .min2 => "min" | .sorted => "sorted" | .repr => "repr" | _ => "")) := by
  cases f <;> decide +kernel
theorem biName_ok (f : BI) : okName f.name = true := by cases f <;> decide +kernel
section
variable {W : Wd} {k j : Nat} {B : Bnd} {X : Cx} {a b e : Expr} {pos p : Pos} {x : Str} {es : List Expr} {pw : Wp} {pl : WpL}
theorem e_args {q : List D → Mm → KD → Prop} (h : PE X e (tCB (lL W q) (tA W B pl))) : PE X e (tE W B fun x env M Q => pl x env M fun ds M1 => q ds M1 Q) := h.imp fun _ _ _ h => tE_args h
theorem e_bi {f : BI} {fz : Bool} (c : COk W k X) (hx : x = f.name) (hg : Gl X x) (hm : W.mg x = none) (hn : (a :: es).all nost = true) (ha : PA X (a :: es) (tA W B pl)) :
    PE X (.Call (.Name x p) (a :: es) [] pos) (tE W B fun x env M Q => pl x env M fun ds M1 => biD f fz ds M1 Q) := by
  subst hx
  rw [← c.mg] at hm
  simp only [List.all_cons, Bool.and_eq_true] at hn
  have hs : starEach (a :: es) X.env = (false, eval a X.env) :: starEach es X.env := star_cons hn.1
  have hp : ∀ pos, (backTo pos (starEach es X.env)).any (·.1) = false := fun pos => star_any hn.2
  have o := okName_d (biName_ok f)
  have bt := boot_bi f
  refine e_args ?_
  cases f with
  | len => exact pe_callB (c_len c) hg hm bt ha o.2.2 o.1 hs (hp _)
  | abs => exact pe_callB c_abs hg hm bt ha o.2.2 o.1 hs (hp _)
  | int => exact pe_callTy c_int hg hm bt ha o.2.2 o.1 hs (hp _)
  | str => exact pe_callTy c_str hg hm bt ha o.2.2 o.1 hs (hp _)
  | tuple => exact pe_callTy (c_tuple c) hg hm bt ha o.2.2 o.1 hs (hp _)
  | list => exact pe_callTy (c_list c fz) hg hm bt ha o.2.2 o.1 hs (hp _)
  | sum => exact pe_callB (c_sum c) hg hm bt ha o.2.2 o.1 hs (hp _)
  | sum2 => exact pe_callB (c_sum2 c) hg hm bt ha o.2.2 o.1 hs (hp _)
  | all => exact pe_callB (c_all c) hg hm bt ha o.2.2 o.1 hs (hp _)
  | any => exact pe_callB (c_any c) hg hm bt ha o.2.2 o.1 hs (hp _)
  | max => exact pe_callB (c_max c) hg hm bt ha o.2.2 o.1 hs (hp _)
  | min => exact pe_callB (c_min c) hg hm bt ha o.2.2 o.1 hs (hp _)
  | max2 => exact pe_callB (c_max2 c) hg hm bt ha o.2.2 o.1 hs (hp _)
  | min2 => exact pe_callB (c_min2 c) hg hm bt ha o.2.2 o.1 hs (hp _)
  | sorted => exact pe_callB (c_sorted c fz) hg hm bt ha o.2.2 o.1 hs (hp _)
  | repr => exact pe_callB (c_repr c) hg hm bt ha o.2.2 o.1 hs (hp _)
  | dict => exact pe_callTy (c_dict c) hg hm bt ha o.2.2 o.1 hs (hp _)

/-! reversed slices, lists of ranges, new dicts -/
theorem e_rev {fz : Bool} {k1 : Nat} {p1 p2 p3 : Pos} (c : COk W k X) (ha : PE X a (tE W B pw)) : PE X (.Subscript a (.Slice none none (some (.UnaryOp .USub (.Constant (.int 1) k1 p1) p2)) p3) pos)
    (tE W B fun x env M Q => pw x env M fun u M1 => someK (lstOf M1 u) fun xs => newL fz xs.reverse M1 Q) := by
  refine (pe_revL ha).imp fun σ H Q ⟨env, t, Qp, hH, he, g, re, h, l⟩ => ?_
  subst hH
  refine tE_bind rfl he g re h fun d v t1 e1 he1 g1 r1 rd h1 => ?_
  obtain ⟨xs, ex, h1⟩ := someK_inv h1
  obtain ⟨q, vs, rfl, b1, b2, b3⟩ := lstOf_at g1 rd ex
  rw [← c.K] at b1
  exact ⟨q, vs, rfl, b1, fun p n => newL_use g1 (fun d v t2 e2 g2 rd q => l d v t2 (e1.trans e2) g2 rd q) h1 n (by rw [List.length_reverse]; exact b2) b3.reverse⟩
theorem rangeD_rep {t : Sta} : ∀ (n : Nat) (lo : Int), Reps W t (rangeD lo n) ((List.range n).map fun i => V.int (lo + (i : Nat)))
  | 0, lo => Reps.nil
  | n + 1, lo => by
    rw [List.range_succ_eq_map, List.map_cons, List.map_map]
    unfold rangeD
    refine Reps.cons (by simp only [Rep]; simp) ?_
    have ih := rangeD_rep (t := t) n (lo + 1)
    have e : ((fun i : Nat => V.int (lo + (i : Nat))) ∘ Nat.succ) = fun i : Nat => V.int (lo + 1 + (i : Nat)) := by
      funext i
      show V.int (lo + ((i + 1 : Nat) : Int)) = V.int (lo + 1 + (i : Int))
      congr 1
      omega
    rw [e]; exact ih
theorem rangeD_length : ∀ (n : Nat) (lo : Int), (rangeD lo n).length = n
  | 0, _ => rfl
  | n + 1, lo => by unfold rangeD; rw [List.length_cons, rangeD_length n]
theorem e_lr1 {fz : Bool} {pp ppos : Pos} (c : COk W k X) (hg : Gl X "list") (hm : W.mg "list" = none) (hg2 : Gl X "range") (hm2 : W.mg "range" = none) (hn : nost a = true) (ha : PE X a (tE W B pw)) :
    PE X (.Call (.Name "list" p) [.Call (.Name "range" pp) [a] [] ppos] [] pos) (tE W B fun x env M Q => pw x env M fun u M1 => u.asI fun n => rgOk 0 n ∧ newL fz (rangeD 0 n.toNat) M1 Q) := by
  rw [← c.mg] at hm hm2
  refine (pe_listRg c.calm hg hm (prg_1 hg2 hm2 ha (star_cons hn)) rfl).imp fun σ H Q ⟨env, t, Qp, hH, he, g, re, h, l⟩ => ?_
  subst hH
  refine tE_bind rfl he g re h fun d v t1 e1 he1 g1 r1 rd h1 => ?_
  obtain ⟨n, rfl, hr, h1⟩ := D.asI_inv h1
  refine ⟨n, repI rd, hr, fun p hp => ?_⟩
  have e0 : (n - 0).toNat = n.toNat := by congr 1; omega
  unfold rgV
  rw [e0]
  refine newL_use g1 (fun d v t2 e2 g2 rd q => l d v t2 (e1.trans e2) g2 rd q) h1 hp ?_ (rangeD_rep _ _)
  have := hr.2.2.2.2
  rw [List.length_map, List.length_range, sizeLine_eq]; omega
theorem e_lr2 {fz : Bool} {pw2 : Wp} {pp ppos : Pos} (c : COk W k X) (hg : Gl X "list") (hm : W.mg "list" = none) (hg2 : Gl X "range") (hm2 : W.mg "range" = none) (hn : nost a = true) (hn2 : nost b = true) (ha : PE X a (tE W B pw)) (hb : PE X b (tE W B pw2)) :
    PE X (.Call (.Name "list" p) [.Call (.Name "range" pp) [a, b] [] ppos] [] pos) (tE W B fun x env M Q => pw x env M fun u M1 => pw2 x env M1 fun v M2 => u.asI fun l => v.asI fun h => rgOk l h ∧ newL fz (rangeD l (h - l).toNat) M2 Q) := by
  rw [← c.mg] at hm hm2
  refine (pe_listRg c.calm hg hm (prg_2 hg2 hm2 ha hb (star_cons hn) (star_cons hn2) (star_any (by simp [hn2]))) rfl).imp fun σ H Q ⟨env, t, Qp, hH, he, g, re, h, l⟩ => ?_
  subst hH
  refine tE_bind rfl he g re h fun d v t1 e1 he1 g1 r1 rd h1 => tE_bind rfl he1 g1 r1 h1 fun d2 v2 t2 e2 he2 g2 r2 rd2 h2 => ?_
  obtain ⟨i, rfl, h3⟩ := D.asI_inv h2
  obtain ⟨j, rfl, hr, h4⟩ := D.asI_inv h3
  refine ⟨i, j, repI rd, repI rd2, hr, fun p hp => ?_⟩
  unfold rgV
  refine newL_use g2 (fun d v t3 e3 g3 rd q => l d v t3 ((e1.trans e2).trans e3) g3 rd q) h4 hp ?_ (rangeD_rep _ _)
  have := hr.2.2.2.2
  rw [List.length_map, List.length_range, sizeLine_eq]; omega

/-! methods of built-in types -/
theorem e_bm {m : BM} {fz : Bool} {apos : Pos} (c : COk W k X) (ho : PE X a (tE W B pw)) (hn : es.all nost = true) (ha : PA X es (tA W B pl)) (hpl : es = [] → ∀ x env M Q, pl x env M Q → Q [] M) (hab : plainO a = true) (hline : (apos.endLine == pos.line) = true) (hlen : decide (es.length < 28) = true) :
    PE X (.Call (.Attribute a m.name apos) es [] pos) (tE W B fun x env M Q => pw x env M fun u M1 => someK (tyOf M1 u) fun ty => okM ty m = true ∧ pl x env M1 fun ds M2 => bmD ty m fz u ds M2 Q) := by
  refine ⟨fun pins s σ H Q I ⟨env, t, Qp, hH, he, g, re, h, l⟩ => ?_⟩
  subst hH
  have few : ((backTo pos (starEach es X.env)).all (fun x => !x.1) && (backToKw pos (keywordEach [] X.env)).all (fun x => x.1.isSome) && decide (es.length + ([] : List Keyword).length + (if ([] : List Keyword).isEmpty then 0 else 1) < 30)) = true := by
    have := of_decide_eq_true hlen
    rw [star_len hn]
    simp only [keywordEach, backToKw, List.map_nil, List.all_nil, Bool.and_true, List.length_nil, decide_eq_true_eq]
    simp; omega
  refine wpAny_Call_method_late (plainO_ok hab) few hline rfl (thn (ho.run pins s σ t.H _ I (tE_bind (Q := fun v H1 => ∃ (d : D) (t1 : Sta) (ty : Ty), t1.H = H1 ∧ Ext t t1 ∧ Ext B.t0 t1 ∧ Good W t1 ∧ REnv W t1 env σ ∧ Rep W t1 d v ∧ tyOf t1.M d = some ty ∧ okM ty m = true ∧ pl (B.ex env) env t1.M fun ds M2 => bmD ty m fz d ds M2 Qp) rfl he g re h
    fun d v t1 e1 he1 g1 r1 rd h1 => ?_)) fun v s1 ⟨x, H1, I1, rx, d, t1, ty, e, e1, he1, g1, r1, rd, ety, hok, h1⟩ => ?_)
  · obtain ⟨ty, ety, hok, h1⟩ := someK_inv h1
    exact ⟨d, t1, ty, rfl, e1, he1, g1, r1, rd, ety, hok, h1⟩
  · subst e
    cases es with
    | nil =>
      have h2 := hpl rfl _ _ _ _ h1
      exact bm_on c I1 g1 rd rx ety hok (Calls.callWith_builtin rfl (PySem.evalArgs_none (m_D c ty m fz pins s1 σ t1.H x [] v [] _ I1 rx .nil ⟨d, [], t1, Qp, rfl, g1, rd, Reps.nil, h2, fun d v t2 e2 g2 rd q => l d v t2 (e1.trans e2) g2 rd q⟩)))
    | cons a2 es2 =>
      simp only [List.all_cons, Bool.and_eq_true] at hn
      have hA := ha.run pos pins s1 σ t1.H (fun vs H2 => ∃ (ds : List D) (t2 : Sta), t2.H = H2 ∧ Ext t1 t2 ∧ Good W t2 ∧ Reps W t2 ds vs ∧ bmD ty m fz d ds t2.M Qp) I1 (tA_bind rfl he1 g1 r1 h1 fun ds vs t2 e2 _ g2 _ rds h2 => ⟨ds, t2, rfl, e2, g2, rds, h2⟩)
      refine bm_on c I1 g1 rd rx ety hok ?_
      have hp : (backTo pos (starEach (a2 :: es2) X.env)).any (·.1) = false := star_any (by simp [hn])
      refine Calls.callWith_builtin hp ?_
      rw [star_cons hn.1] at hA ⊢
      refine Calls.evalArgs_plain ?_
      refine thn hA fun us s2 ⟨vs, H2, I2, r2, ds, t2, e, e2, g2, rds, h2⟩ => ?_
      subst e
      exact m_D c ty m fz pins s2 σ t2.H x vs v us _ I2 rx r2 ⟨d, ds, t2, Qp, rfl, g2, rd.ext (e2.fst g1), rds, h2, fun d v t3 e3 g3 rd q => l d v t3 ((e1.trans e2).trans e3) g3 rd q⟩
end
end TL

set_option Elab.async false
set_option linter.all false
set_option maxRecDepth 100000
set_option maxHeartbeats 4000000
/-! sorted(.., key=abs). -/
namespace TL
open PySem PySem.Spec PyProof.Rows L2
def tSortA (K : PySem.W.Frag) (ta : TE) : TE := fun σ H Q => ta σ H fun x H1 => ∃ a ns, x = .ref a ∧ SqL K H1 a (ns.map V.int) ∧ ∀ p, H1 p = none → Q (.ref p) (upd H1 p (.lst ((sortA ns).map V.int)))
theorem each_ints : ∀ {us : List Value} {ns : List Int}, IntsAre us ns → PySem.W.EachIs (fun v (n : Int) => ∃ t, v = Value.int n t) us ns
  | _, _, .nil => .nil
  | _, _, .cons n t h => .cons ⟨t, rfl⟩ (each_ints h)
theorem vals_each : ∀ {us : List Value} {ns : List Int}, PySem.W.EachIs (fun v (n : Int) => ∃ t, v = Value.int n t) us ns → Vals (ns.map V.int) us
  | _, _, .nil => .nil
  | _, _, .cons ⟨t, e⟩ h => .cons ⟨t, e⟩ (vals_each h)
theorem pe_sortA {X : Cx} {e : Expr} {ta : TE} {p p2 kp pos : Pos} (hg : Gl X "sorted") (hm : X.mg "sorted" = none) (hga : Gl X "abs") (hma : X.mg "abs" = none) (he : PE X e ta) (hu : X.A.units + 64 < cLine)
    (hs : starEach [e] X.env = [(false, eval e X.env)] := by rfl) : PE X (.Call (.Name "sorted" p) [e] [⟨some (Str.ofString "key"), .Name "abs" p2, kp⟩] pos) (tSortA X.K ta) := by
  refine ⟨fun pins s σ H Q I h => ?_⟩
  refine wpAny_Call_Name_kw (ld_blt I hg hm boot_sorted ?_)
  refine PyProof.Rows.callWith_kw ?_ (by rw [hs]; rfl) (by rw [hs]; rfl)
  rw [hs]
  refine Calls.spliced_cons (thn (he.run pins s σ H _ I h) fun v s1 ⟨x, H1, I1, r1, q1⟩ => Calls.spliced_nil ?_)
  show wpAny _ _ (evalAll ((do let v ← eval (.Name "abs" p2) X.env; standAt pos; pure v) :: [])) _ _ s1
  refine wpAny_evalAll_cons (wpAny_bind (ld_blt I1 hga hma boot_abs (wpAny_bind (wpAny_standAt (wpAny_pure (wpAny_evalAll_nil ?_))))))
  show wpAny _ _ (call (.builtin "sorted") [v] [(Str.ofString "key", .builtin "abs")]) _ _ _
  obtain ⟨a, ns, ex, hq, fam⟩ := q1
  subst ex
  cases r1
  obtain ⟨its, rv, p1, hz⟩ := I1.list hq
  have hi := rv.ints
  have hlen : ns.length ≤ sizeLine := by rw [List.length_map] at hz; exact hz
  refine PySem.W.sorted_key_data (s := s1) (R := fun v (n : Int) => ∃ t, v = Value.int n t) (fun n : Int => PyData.int (absN n)) p1.isList (each_ints hi) (PySem.W.AllAlike.of fun _ _ => rfl) (PySem.W.Sortable.others fun _ => ⟨(fun z => by cases z), fun _ z => by cases z⟩) hlen
    (fun x _ => by show X.A.units + 2 + 0 < cLine; omega) (PyProof.Rows.ksk_s1 _ _) (fun _ => PyProof.Rows.ksk_l1 _ _) (fun _ => PyProof.Rows.ksk_t4 _ _) (fun v x ⟨t, ev⟩ _ h tk _ => ?_) fun out c h' tk keep fr hS lo eo => ?_
  · subst ev
    exact call_abs_int fun u tk' => ⟨h, tk', rfl, fun _ _ e => e, Reads.int _ _⟩
  · rw [PySem.W.dataLe_int] at eo
    have ro : Vals ((sortA ns).map V.int) out := vals_each eo
    have hn : H1 (s1.heap.objs.size + 1) = none := I1.hok.fresh (Nat.le_succ _)
    refine ⟨.ref _, upd H1 (s1.heap.objs.size + 1) (.lst ((sortA ns).map V.int)), I1.laid (t' := tk) keep (Nat.le_succ _) ⟨by rw [ro.length, lo]; exact hlen, out, c, ro, hS⟩, rfl, fam _ hn⟩
section
variable {prog : Program} {w : World} {A : Around} {E : Value → Shared → Prop} {s : Shared}
theorem rev_pick (xs : Array Value) : ((List.range xs.size).filterMap fun (k : Nat) => xs[(((xs.size : Int) - 1) + (k : Int) * (-1)).toNat]?) = xs.toList.reverse := by
  have h : ∀ n, n ≤ xs.size → ((List.range n).filterMap fun (k : Nat) => xs[(((xs.size : Int) - 1) + (k : Int) * (-1)).toNat]?) = xs.toList.reverse.take n := by
    intro n
    induction n with
    | zero => intro _; simp
    | succ n ih =>
      intro hn
      have e : (((xs.size : Int) - 1) + (n : Int) * (-1)).toNat = xs.size - 1 - n := by omega
      have hl : xs.size - 1 - n < xs.size := by omega
      have hr : n < xs.toList.reverse.length := by rw [List.length_reverse, Array.length_toList]; omega
      rw [List.range_succ, List.filterMap_append, ih (by omega), List.take_add_one, List.getElem?_eq_getElem hr]
      simp only [List.filterMap_cons, List.filterMap_nil, e, Array.getElem?_eq_getElem hl]
      simp
  have := h xs.size (Nat.le_refl _)
  rw [this, List.take_of_length_le]
  rw [List.length_reverse, Array.length_toList]; exact Nat.le_refl _
theorem getItem_tuple_rev {t sl : Addr} {items : Array Value} {vs : Value} {Q : Value → Shared → Prop} (ht : IsTup s.heap t items) (hs : s.heap.IsSliceOf sl .none .none vs) (ps : IsPart vs (some (-1)))
    (h : Q (.ref s.heap.objs.size) { s with heap := s.heap.push { cls := .type "tuple", data := .seq items.toList.reverse.toArray } })
    (hsz : items.size ≤ sizeLine) : wpAny (model prog w) A (getItem (.ref t) (.ref sl)) Q E s := by
  have htake : sizeOk (.seq items.toList.reverse.toArray) := by
    show items.toList.reverse.toArray.size ≤ sizeLine
    simpa using hsz
  obtain ⟨os, hos, hcs, hds⟩ := id hs
  have hTs : s.TypeIs (.ref sl) "slice" := ⟨os, hos, hcs⟩
  unfold getItem
  try with_reducible refine wpAny_holding ?_
  first | refine wpAny_bind (wpAny_pure ?_) | skip
  refine wpAny_bind (wpAny_sequenceKey ht.typeIs (by decide) ?_)
  refine wpAny_bind (wpAny_callSpecial?_slot (name := Str.ofString "__getitem__") ht.typeIs PyProof.Rows.slot_tuple_getitem
    (wpAny_call_entry PyProof.Rows.slot_tuple_getitem ht.typeIs entry_tuple_getitem ?_ (args_tuple_getitem _ _)))
  show wpAny _ _ (Builtin.Tuple.tupleItemsOf (.ref t) >>= _) _ _ s
  refine wpAny_bind (tupleItemsOf_ ht ?_)
  refine wpAny_bind (wpAny_typeOf hTs ?_)
  rw [if_pos (by decide)]
  refine wpAny_bind (?_ : wpAny _ _ (Builtin.Slice.sliceApplied (.ref sl) (pure (items.size : Int))) (fun r s' => wpAny _ _ _ _ _ s') _ s)
  unfold Builtin.Slice.sliceApplied Builtin.Slice.sliceFields
  refine wpAny_bind (wpAny_bind (wpAny_field hos hds (x := .none) rfl (wpAny_bind (wpAny_field hos hds (x := .none) rfl (wpAny_bind (wpAny_field hos hds (x := vs) rfl (wpAny_pure ?_)))))))
  refine wpAny_bind (HT.slicePart_ ps ?_)
  show wpAny _ _ (if ((-1 : Int) == 0) = true then _ else _) _ _ s
  rw [if_neg (by decide)]
  refine wpAny_bind (slicePart_none (wpAny_bind (slicePart_none (wpAny_bind (wpAny_pure ?_)))))
  show wpAny _ _ (match Builtin.Slice.sliceAdjust none none (-1) (items.size : Int) with | (lo, hi) => pure (lo, (-1 : Int), Builtin.Slice.slicePlaces lo hi (-1))) _ _ s
  have ea : Builtin.Slice.sliceAdjust none none (-1) (items.size : Int) = ((items.size : Int) - 1, -1) := rfl
  rw [ea]
  have ep : Builtin.Slice.slicePlaces ((items.size : Int) - 1) (-1) (-1) = items.size := by
    unfold Builtin.Slice.slicePlaces
    have h1 : ¬ ((-1 : Int) > 0) := by omega
    simp only [h1, if_false]
    split
    · have : (items.size : Int) - 1 - -1 - 1 = items.size - 1 := by omega
      rw [this]
      simp only [Int.neg_neg, Int.ediv_one]
      omega
    · omega
  show wpAny _ _ (pure ((items.size : Int) - 1, (-1 : Int), Builtin.Slice.slicePlaces ((items.size : Int) - 1) (-1) (-1))) _ _ s
  rw [ep]
  refine wpAny_pure ?_
  show wpAny _ _ (if ((((items.size : Int) - 1 == 0) && (-1 : Int) == 1 && items.size == items.size) = true) then _ else _) _ _ s
  rw [if_neg (by simp), rev_pick]
  first
    | exact wpAny_bind (m := Builtin.Tuple.tupleExact _) (wpAny_newObj_type (wpAny_pure ⟨_, rfl, wpAny_pure h⟩) htake)
    | exact wpAny_bind (m := Builtin.Tuple.tupleExact _) (wpAny_newObj_type (wpAny_bind (wpAny_pure (wpAny_pure ⟨_, rfl, wpAny_pure h⟩))) htake)
    | exact wpAny_bind (wpAny_bind (m := Builtin.Tuple.tupleExact _) (wpAny_newObj_type (wpAny_pure (wpAny_pure ⟨_, rfl, wpAny_pure h⟩)) htake))
    | exact wpAny_bind (wpAny_bind (m := Builtin.Tuple.tupleExact _) (wpAny_newObj_type (wpAny_pure ⟨_, rfl, wpAny_pure h⟩) htake))
end
def tRevA (K : PySem.W.Frag) (te : TE) : TE := fun σ H Q => te σ H fun x H1 => ∃ a xs, x = .ref a ∧ ((SqL K H1 a xs ∧ ∀ p, H1 p = none → Q (.ref p) (upd H1 p (.lst xs.reverse))) ∨ (SqT K H1 a xs ∧ ∀ p, H1 p = none → Q (.ref p) (upd H1 p (.tup xs.reverse))))
theorem pe_revA {X : Cx} {e : Expr} {te : TE} {k : Nat} {p1 p2 p3 pos : Pos} (he : PE X e te) : PE X (.Subscript e (.Slice none none (some (.UnaryOp .USub (.Constant (.int 1) k p1) p2)) p3) pos) (tRevA X.K te) := by
  refine ⟨fun pins s σ H Q I h => ?_⟩
  refine Subscript_ (thn (he.run pins s σ H _ I h) fun v s1 ⟨x, H1, I1, r1, q1⟩ => ?_)
  obtain ⟨a, xs, ex, hx⟩ := q1
  subst ex
  cases r1
  have hst : L2.PO X (some (.UnaryOp .USub (.Constant (.int 1) k p1) p2)) (tPart (tUn (rU fun i => .int (-i)) (tC (.int 1)))) := po_some (pe_un un_neg pe_int)
  refine wpAny_Slice (thn (po_none.run pins s1 σ H1 (fun o H2 => o = none ∧ H2 = H1) I1 ⟨rfl, rfl⟩) fun vl s2 ⟨l, H2, I2, pl, el, e2⟩ => ?_)
  subst el e2
  refine thn (po_none.run pins s2 σ H2 (fun o H3 => o = none ∧ H3 = H2) I2 ⟨rfl, rfl⟩) fun vu s3 ⟨u, H3, I3, pu, eu, e3⟩ => ?_
  subst eu e3
  refine thn (hst.run pins s3 σ H3 (fun o H4 => o = some (-1) ∧ H4 = H3) I3 ⟨1, rfl, -1, rfl, rfl, rfl⟩) fun vs s4 ⟨o, H4, I4, ps, eo, e4⟩ => ?_
  subst eo e4
  have I5 : L2.Inv X pins σ H4 { s4 with heap := s4.heap.push { cls := .type "slice", data := .fields #[vl, vu, vs] } } := I4.kept (t' := s4.toks) fun b ob q => Heap.get?_push_of_some _ q
  show wpAny (model X.prog X.w) X.A (subscriptTail e (.Slice none none (some (.UnaryOp .USub (.Constant (.int 1) k p1) p2)) p3) (.ref a) (.ref s4.heap.objs.size)) (EP X pins σ Q) X.xe { s4 with heap := s4.heap.push { cls := .type "slice", data := .fields #[vl, vu, vs] } }
  rcases hx with ⟨hx, q⟩ | ⟨hx, q⟩
  · obtain ⟨its, r, ht, hz⟩ := I5.list hx
    have hlen := r.length
    refine tail_any (ops := [.ref a, .ref s4.heap.objs.size]) ht.isList.typeIs (PySem.slot_list_getitem.lookup) ?_ (by with_unfolding_all rfl)
    refine wpAny_getItem_list_slice ht.isList (Heap.IsSliceOf.new _ vl vu vs) pl pu ps (by decide) ?_ (by rw [List.size_toArray]; omega)
    rw [PySem.W.krv_pick]
    refine ⟨.ref _, _, I5.laid (t' := s4.toks) (o := .lst xs.reverse) (fun b ob q => Heap.get?_push_of_some _ q) (Nat.le_refl _) ?_, rfl, q _ (I5.hok.fresh (Nat.le_refl _))⟩
    exact ⟨by rw [List.length_reverse]; exact hz, _, 0, r.reverse, Heap.get?_push_size _ rfl⟩
  · obtain ⟨its, r, ht, hz⟩ := I5.tuple hx
    have hlen := r.length
    cases pl
    cases pu
    refine tail_any (ops := [.ref a, .ref s4.heap.objs.size]) ht.typeIs (PyProof.Rows.slot_tuple_getitem.lookup) ?_ (by with_unfolding_all rfl)
    refine getItem_tuple_rev ht (Heap.IsSliceOf.new _ .none .none vs) ps ?_ (by rw [List.size_toArray]; omega)
    refine ⟨.ref _, _, I5.laid (t' := s4.toks) (o := .tup xs.reverse) (fun b ob q => Heap.get?_push_of_some _ q) (Nat.le_refl _) ?_, rfl, q _ (I5.hok.fresh (Nat.le_refl _))⟩
    exact ⟨by rw [List.length_reverse]; exact hz, _, r.reverse, ⟨_, Heap.get?_push_size _ rfl, rfl, _, rfl⟩⟩
section
variable {W : Wd} {k : Nat} {B : Bnd} {X : Cx} {a : Expr} {pos p : Pos} {pw : Wp}
theorem e_rev2 {fz : Bool} {k1 : Nat} {p1 p2 p3 : Pos} (c : COk W k X) (ha : PE X a (tE W B pw)) : PE X (.Subscript a (.Slice none none (some (.UnaryOp .USub (.Constant (.int 1) k1 p1) p2)) p3) pos)
    (tE W B fun x env M Q => pw x env M fun u M1 => revK fz M1 u Q) := by
  refine (pe_revA ha).imp fun σ H Q ⟨env, t, Qp, hH, he, g, re, h, l⟩ => ?_
  subst hH
  refine tE_bind rfl he g re h fun d v t1 e1 he1 g1 r1 rd h1 => ?_
  unfold revK at h1
  split at h1
  · rename_i xs
    obtain ⟨q, vs, rfl, b1, b2, b3⟩ := tupAt rd
    rw [← c.K] at b1
    exact ⟨q, vs, rfl, .inr ⟨b1, fun p n => newT_use g1 (fun d v t2 e2 g2 rd q => l d v t2 (e1.trans e2) g2 rd q) h1 n (by rw [List.length_reverse]; exact b2) b3.reverse⟩⟩
  · obtain ⟨xs, ex, h1⟩ := someK_inv h1
    obtain ⟨q, vs, rfl, b1, b2, b3⟩ := lstOf_at g1 rd ex
    rw [← c.K] at b1
    exact ⟨q, vs, rfl, .inl ⟨b1, fun p n => newL_use g1 (fun d v t2 e2 g2 rd q => l d v t2 (e1.trans e2) g2 rd q) h1 n (by rw [List.length_reverse]; exact b2) b3.reverse⟩⟩
theorem e_lenset {p2 q : Pos} (c : COk W k X) (hg : Gl X "len") (hm : W.mg "len" = none) (hg2 : Gl X "set") (hm2 : W.mg "set" = none) (hn : nost a = true) (ha : PE X a (tE W B pw)) :
    PE X (.Call (.Name "len" p) [.Call (.Name "set" p2) [a] [] q] [] pos) (tE W B fun x env M Q => pw x env M fun u M1 => oneInts u M1 fun ns => ns.Nodup ∧ ns.length ≤ 4000 ∧ Q (.int ns.length) M1) := by
  rw [← c.mg] at hm hm2
  refine (RZ.pe_lenSetI hg hm hg2 hm2 ha c.calm (star_cons hn)).imp fun σ H Q ⟨env, t, Qp, hH, he, g, re, h, l⟩ => ?_
  subst hH
  refine tE_bind rfl he g re h fun d v t1 e1 he1 g1 r1 rd h1 => ?_
  obtain ⟨xs, ex, h1⟩ := someK_inv h1
  obtain ⟨ns, en, h1, h2, h3⟩ := someK_inv h1
  obtain ⟨q, vs, rfl, b1, b2, b3⟩ := lstOf_at g1 rd ex
  have := ints_rep b3 en; subst this
  rw [← c.K] at b1
  exact ⟨q, ns, rfl, b1, h1, h2, l _ _ _ e1 g1 (by simp only [Rep]) h3⟩
theorem e_skabs {fz : Bool} {p2 kp : Pos} (c : COk W k X) (hg : Gl X "sorted") (hm : W.mg "sorted" = none) (hga : Gl X "abs") (hma : W.mg "abs" = none) (hn : nost a = true) (ha : PE X a (tE W B pw)) :
    PE X (.Call (.Name "sorted" p) [a] [⟨some (Str.ofString "key"), .Name "abs" p2, kp⟩] pos) (tE W B fun x env M Q => pw x env M fun u M1 => oneInts u M1 fun ns => newL fz ((sortA ns).map .int) M1 Q) := by
  rw [← c.mg] at hm hma
  refine (pe_sortA hg hm hga hma ha c.hu (star_cons hn)).imp fun σ H Q ⟨env, t, Qp, hH, he, g, re, h, l⟩ => ?_
  subst hH
  refine tE_bind rfl he g re h fun d v t1 e1 he1 g1 r1 rd h1 => ?_
  obtain ⟨xs, ex, h1⟩ := someK_inv h1
  obtain ⟨ns, en, h1⟩ := someK_inv h1
  obtain ⟨q, vs, rfl, b1, b2, b3⟩ := lstOf_at g1 rd ex
  have := ints_rep b3 en; subst this
  rw [← c.K] at b1
  refine ⟨q, ns, rfl, b1, fun p hp => newL_use g1 (fun d v t2 e2 g2 rd q => l d v t2 (e1.trans e2) g2 rd q) h1 hp ?_ (reps_ints _)⟩
  rw [List.length_map] at b2 ⊢
  rw [show (sortA ns).length = ns.length from List.length_mergeSort _]
  exact b2
end
end TL

set_option Elab.async false
set_option linter.all false
set_option maxRecDepth 100000
set_option maxHeartbeats 4000000
/-! isinstance; calls of own functions, methods, classes; fields, properties. -/
namespace TL
open PySem PySem.Spec PyProof.Rows L2

structure IsiOk (W : Wd) (T : Str) (cs : List Str) (c : V) (u : Value) : Prop where
  ld : W.mg T = some u ∨ (W.mg T = none ∧ bootBuiltins T = some u)
  cls : ClsV c u
  base : ∀ n ∈ baseTy, PySem.W.kitOne W.K (.type n) u = some (isiB T n)
  own : ∀ C ∈ cs, ∃ A : Addr, W.mg C = some (.ref A) ∧ Cls W.K A ∧ PySem.W.findIn W.K (.ref A) "__class__" = some (some (.builtin "object.__class__")) ∧
    PySem.W.specialIn W.K (.builtin "object.__class__") "__get__" = some (some (.builtin "getset_descriptor.__get__")) ∧ PySem.W.takesIn W.K (.builtin "object.__class__") = some true ∧ PySem.W.mroIn W.K A (.type "object") = some true ∧
    PySem.W.kitOne W.K (.ref A) u = some (decide (C = T))
theorem _root_.L2.ClsV.rel {c : V} {u : Value} (h : ClsV c u) : RelV c u := by cases h <;> rfl
section
variable {W : Wd} {k j : Nat} {B : Bnd} {X : Cx} {a b e : Expr} {pos p : Pos} {x : Str} {es : List Expr} {pw : Wp} {pl : WpL}
theorem isi_ty {T : Str} {cs : List Str} {c0 : V} {u : Value} {t : Sta} {d : D} {v : V} {kk : Bool → Prop} (c : COk W k X) (o : IsiOk W T cs c0 u) (gd : Good W t) (rd : Rep W t d v) (h : isiK t.M d T cs kk) :
    ∃ ty b, TyX X.K t.H v ty ∧ PySem.W.kitOne X.K ty u = some b ∧ kk b := by
  rw [c.K]
  unfold isiK at h
  have bs : ∀ n, n ∈ baseTy → PySem.W.kitOne W.K (.type n) u = some (isiB T n) := o.base
  cases d with
  | non => have := repN rd; subst this; exact ⟨_, _, .base .non, bs "NoneType" (by decide +kernel), h⟩
  | bl i => have := repB rd; subst this; exact ⟨_, _, .base (.bl i), bs "bool" (by decide +kernel), h⟩
  | int i => have := repI rd; subst this; exact ⟨_, _, .base (.int i), bs "int" (by decide +kernel), h⟩
  | str i => obtain ⟨rfl, _⟩ := repS rd; exact ⟨_, _, .base (.str i), bs "str" (by decide +kernel), h⟩
  | flt i =>
    have : v = .flt i := by simpa only [Rep] using rd
    subst this; exact ⟨_, _, .base (.flt i), bs "float" (by decide +kernel), h⟩
  | tup xs =>
    simp only [Rep] at rd
    obtain ⟨q, vs, rfl, hs, _⟩ := rd
    rcases hs with ⟨_, hs | ⟨ob, hs⟩⟩ | ⟨ob, its, n, h1, h2, _⟩
    · exact ⟨_, _, .base (.tup hs), bs "tuple" (by decide +kernel), h⟩
    · exact ⟨_, _, .fTuple hs, bs "tuple" (by decide +kernel), h⟩
    · exact ⟨_, _, .kTuple h1 h2, bs "tuple" (by decide +kernel), h⟩
  | lst xs => obtain ⟨q, vs, rfl, hs, _⟩ := lstAt rd; exact ⟨_, _, .base (.lst hs), bs "list" (by decide +kernel), h⟩
  | klst xs =>
    simp only [Rep] at rd
    obtain ⟨q, vs, rfl, hs, _⟩ := rd
    rcases hs with ⟨_, hs | ⟨ob, hs⟩⟩ | ⟨ob, its, n, h1, h2, _⟩
    · exact ⟨_, _, .base (.lst hs), bs "list" (by decide +kernel), h⟩
    · exact ⟨_, _, .base (.frz hs), bs "list" (by decide +kernel), h⟩
    · exact ⟨_, _, .kList h1 h2, bs "list" (by decide +kernel), h⟩
  | ref q =>
    have := repR rd; subst this
    dsimp only at h
    split at h
    · rename_i xs em; obtain ⟨vs, h1, _⟩ := gd.at_ q _ em; exact ⟨_, _, .base (.lst h1), bs "list" (by decide +kernel), h⟩
    · rename_i xs em; obtain ⟨vs, h1, _⟩ := gd.at_ q _ em; exact ⟨_, _, .base (.dK h1), bs "dict" (by decide +kernel), h⟩
    · rename_i C fs em
      obtain ⟨hc, h⟩ := h
      obtain ⟨A, dx, vs, h1, h2, _⟩ := gd.at_ q _ em
      obtain ⟨A', g1, g2, g3, g4, g5, g6, g7⟩ := o.own C hc
      rw [h2] at g1; cases g1
      exact ⟨_, _, .base (.ins h1 g2 g3 g4 g5 g6), g7, h⟩
    · exact h.elim
  | glb x => exact (show False from h).elim
  | exc C d => exact (show False from h).elim
theorem e_isi {T : Str} {cs : List Str} {c0 : V} {u : Value} {p2 : Pos} (c : COk W k X) (o : IsiOk W T cs c0 u) (hg : Gl X "isinstance") (hm : W.mg "isinstance" = none) (hgT : Gl X T) (hT : okName T = true) (hn : nost a = true) (ha : PE X a (tE W B pw)) :
    PE X (.Call (.Name "isinstance" p) [a, .Name T p2] [] pos) (tE W B fun x env M Q => pw x env M fun u M1 => isiK M1 u T cs fun r => Q (.bl r) M1) := by
  rw [← c.mg] at hm
  obtain ⟨o1, _, o3⟩ := okName_d hT
  have hT' : PE X (.Name T p2) (tC c0) := by
    rcases o.ld with h | ⟨h1, h2⟩
    · exact pe_glob hgT (by rw [c.mg]; exact h) o.cls.rel o1
    · exact pe_bltn hgT (by rw [c.mg]; exact h1) h2 o.cls.rel o3 o1
  refine (pe_callB call_isi hg hm (by decide +kernel) (pa_cons ha (pa_cons hT' pa_nil rfl) (star_cons hn)) (by decide) (by decide) (star_cons hn) (star_any rfl)).imp fun σ H Q ⟨env, t, Qp, hH, he, g, re, h, l⟩ => ?_
  subst hH
  refine tE_bind rfl he g re h fun d v t1 e1 he1 g1 r1 rd h1 => ?_
  obtain ⟨ty, b, h2, h3, h4⟩ := isi_ty c o g1 rd h1
  exact ⟨v, c0, ty, u, b, rfl, o.cls, h2, h3, l _ _ _ e1 g1 (by simp only [Rep]) h4⟩

/-! keywords -/
theorem _root_.L2.PK.imp {X : Cx} {ks : List Keyword} {t t' : TA} (h : PK X ks t) (i : ∀ σ H Q, t' σ H Q → t σ H Q) : PK X ks t' := ⟨fun pos pins s σ H Q I q => h.run pos pins s σ H Q I (i σ H Q q)⟩
theorem k_nil : PK X [] (tA W B (wpKs .nil)) := pk_nil.imp fun σ H Q ⟨env, t, Qp, hH, he, g, re, h, l⟩ => by
  subst hH; unfold wpKs at h; exact l [] [] t Ext.refl g Reps.nil h
theorem k_cons {ks : List Keyword} {nm : Option Str} {kp : Pos} {w : WpL} (ha : PE X a (tE W B pw)) (hb : PK X ks (tA W B pl)) (hw : ∀ x env M Q, w x env M Q → pw x env M fun d M1 => pl x env M1 fun ds M2 => Q (d :: ds) M2) : PK X (⟨nm, a, kp⟩ :: ks) (tA W B w) := by
  refine (pk_cons ha hb).imp fun σ H Q ⟨env, t, Qp, hH, he, g, re, h, l⟩ => ?_
  subst hH
  refine tE_bind rfl he g re (hw _ _ _ _ h) fun d v t1 e1 he1 g1 r1 rd h1 => ?_
  exact tA_bind rfl he1 g1 r1 h1 fun ds vs t2 e2 _ g2 _ rds h2 => l _ _ _ (e1.trans e2) g2 (.cons (rd.ext (e2.fst g1)) rds) h2
def kwN : List Keyword → List Str → Bool
  | [], [] => true
  | ⟨some n, _, _⟩ :: r, k :: ks => decide (n = k) && kwN r ks
  | _, _ => false
theorem kwN_ok {pos : Pos} {env : Env} : ∀ {kws : List Keyword} {ks : List Str}, kwN kws ks = true → (backToKw pos (keywordEach kws env)).all (·.1.isSome) = true ∧ (backToKw pos (keywordEach kws env)).filterMap (·.1) = ks ∧ (backToKw pos (keywordEach kws env)).any (·.1.isNone) = false
  | [], [], _ => ⟨rfl, rfl, rfl⟩
  | ⟨some n, v, q⟩ :: r, k :: ks, h => by
    have h' : (decide (n = k) && kwN r ks) = true := h
    simp only [Bool.and_eq_true, decide_eq_true_eq] at h'
    obtain ⟨rfl, h2⟩ := h'
    obtain ⟨a1, a2, a3⟩ := kwN_ok (pos := pos) (env := env) h2
    refine ⟨?_, ?_, ?_⟩
    · show (true && (backToKw pos (keywordEach r env)).all (·.1.isSome)) = true
      rw [a1]; rfl
    · show n :: (backToKw pos (keywordEach r env)).filterMap (·.1) = n :: ks
      rw [a2]
    · show (false || (backToKw pos (keywordEach r env)).any (·.1.isNone)) = false
      rw [a3]; rfl
  | [], _ :: _, h => by cases h
  | ⟨none, _, _⟩ :: _, _, h => by cases h
  | ⟨some _, _, _⟩ :: _, [], h => by cases h
/-- how keywords bind: the place of each parameter among the values given -/
structure KwB (K : PySem.W.Frag) (fd : FuncData) (ps : List Str) (n : Nat) (ks : List Str) (pm : List Nat) : Prop where
  len : pm.length = ps.length
  lt : ∀ i ∈ pm, i < n + ks.length
  to : ∀ (s : Shared) (us ws : List Value), K.In s.heap → us.length = n → ws.length = ks.length → BindsTo s fd ⟨us, ks.zip ws⟩ (ps.zip (pm.map fun i => (us ++ ws).getD i .none))
theorem perm_vals {vs : List V} {us : List Value} (r : Vals vs us) : ∀ {pm : List Nat}, (∀ i ∈ pm, i < vs.length) → Vals (pm.map fun i => vs.getD i .non) (pm.map fun i => us.getD i .none)
  | [], _ => .nil
  | i :: pm, h => by
    refine .cons ?_ (perm_vals r fun j hj => h j (List.mem_cons_of_mem _ hj))
    have hi : i < vs.length := h i List.mem_cons_self
    have e1 : vs[i]? = some vs[i] := by simp [hi]
    obtain ⟨u, eu, ru⟩ := r.get e1
    show RelV (vs.getD i V.non) (us.getD i Value.none)
    rw [List.getD_eq_getElem?_getD, List.getD_eq_getElem?_getD, e1, eu]
    exact ru
theorem perm_reps {t : Sta} {ds : List D} {vs : List V} (r : Reps W t ds vs) : ∀ {pm : List Nat}, (∀ i ∈ pm, i < vs.length) → Reps W t (permD ds pm) (pm.map fun i => vs.getD i .non)
  | [], _ => Reps.nil
  | i :: pm, h => by
    refine Reps.cons ?_ (perm_reps r fun j hj => h j (List.mem_cons_of_mem _ hj))
    have hi : i < vs.length := h i List.mem_cons_self
    have e1 : vs[i]? = some vs[i] := by simp [hi]
    obtain ⟨d, ed, rd⟩ := r.get' e1
    show Rep W t (ds.getD i D.non) (vs.getD i V.non)
    rw [List.getD_eq_getElem?_getD, List.getD_eq_getElem?_getD, e1, ed]
    exact rd

/-! calls -/
/-- arguments, come -/
def AQ (W : Wd) (B : Bnd) (σ : L2.St) (env : En) (t : Sta) (q : List D → Mm → Prop) : List V → Hp → Prop := fun vs H1 => ∃ (ds : List D) (t1 : Sta), t1.H = H1 ∧ Ext t t1 ∧ Ext B.t0 t1 ∧ Good W t1 ∧ REnv W t1 env σ ∧ Reps W t1 ds vs ∧ q ds t1.M
theorem AQ.of {env : En} {t : Sta} {σ : L2.St} {q : List D → Mm → Prop} (he : Ext B.t0 t) (g : Good W t) (r : REnv W t env σ) (h : pl (B.ex env) env t.M q) : tA W B pl σ t.H (AQ W B σ env t q) :=
  tA_bind rfl he g r h fun ds vs t1 e1 he1 g1 r1 rds h1 => ⟨ds, t1, rfl, e1, he1, g1, r1, rds, h1⟩
theorem Lat.later {t t' : Sta} {Qp : KD} {Q : VK} (l : Lat W t Qp Q) (e : Ext t t') : Lat W t' Qp Q := fun d v t2 e2 g2 rd q => l d v t2 (e.trans e2) g2 rd q
variable {f : Addr} {fd : FuncData} {ps : List Str} {ct : Contract}
/-- positional arguments bind -/
theorem bind_pos {s : Shared} {us : List Value} {vs : List V} {ds : List D} {t : Sta} {xd : XD} {Qp : KD} (F : FnG W j f fd ps ct) (hb : Binds W.K fd ps []) (KI : W.K.In s.heap) (r : Vals vs us) (rp : Reps W t ds vs) (h : ct ds t.M xd Qp) : BindsTo s fd ⟨us, []⟩ (ps.zip us) := by
  have := hb s us KI (by rw [List.append_nil, ← r.length, rp.length]; exact F.len _ _ _ _ h)
  rwa [List.append_nil] at this
theorem e_call (c : CtxB W k B X) (F : FnG W j f fd ps ct) (hj : j ≤ k) (hg : Gl X x) (hx : okName x = true) (hm : W.mg x = some (.ref f)) (hk : PySem.W.keepIn W.K (.ref f) = true) (hb : Binds W.K fd ps []) (hn : es.all nost = true) (ha : PA X es (tA W B pl))
    (hpl : es = [] → ∀ x env M Q, pl x env M Q → Q [] M) : PE X (.Call (.Name x p) es [] pos) (tE W B fun x env M Q => pl x env M fun ds M1 => ct ds M1 x Q) := by
  refine ⟨fun pins s σ H Q I ⟨env, t, Qp, hH, he, g, re, h, l⟩ => ?_⟩
  subst hH
  rw [← c.mg] at hm
  rw [← c.K] at hk
  refine wpAny_Call_Name_kw (ld_glob I hg hm ?_ (okName_d hx).1)
  cases es with
  | nil =>
    have h1 := hpl rfl _ _ _ _ h
    have hb1 := bind_pos F hb (by rw [← c.K]; exact I.kIn) .nil Reps.nil h1
    exact PySem.W.callWith_K0 I.kIn hk (run_g (us := []) (us2 := []) c F hj I hb1 .nil g Reps.nil he re h1 l)
  | cons e es =>
    simp only [List.all_cons, Bool.and_eq_true] at hn
    refine PySem.W.callWith_K (h₀ := X.base) I.ok.mod.kin hk (thn (ha.run pos pins s σ t.H _ I (AQ.of he g re h)) fun us s1 ⟨vs, H1, I1, r, ds, t1, e0, e1, he1, g1, r1, rds, h1⟩ => ?_) (star_cons hn.1) (star_any hn.2)
    subst e0
    exact ⟨I1.kIn, run_g c F hj I1 (bind_pos F hb (by rw [← c.K]; exact I1.kIn) r rds h1) r g1 rds he1 r1 h1 (l.later e1)⟩
/-- a def that a name holds -/
theorem e_callv {i : Nat} {tb : List (Str × Contract)} (c : CtxB W k B X) (hN : X.N[i]? = some x) (hv : Vis X.env.scope x) (hx : okName x = true)
    (hf : ∀ y ct, tb.lookup y = some ct → ∃ f fd ps, FnG W k f fd ps ct ∧ W.mg y = some (.ref f) ∧ PySem.W.keepIn W.K (.ref f) = true ∧ Binds W.K fd ps []) (hn : es.all nost = true) (ha : PA X es (tA W B pl))
    (hpl : es = [] → ∀ x env M Q, pl x env M Q → Q [] M) : PE X (.Call (.Name x p) es [] pos) (tE W B fun x env M Q => varK env i fun u => glbK u fun f => someK (tb.lookup f) fun ct => pl x env M fun ds M1 => ct ds M1 x Q) := by
  refine ⟨fun pins s σ H Q I ⟨env, t, Qp, hH, he, g, re, h, l⟩ => ?_⟩
  subst hH
  obtain ⟨o1, o2, o3⟩ := okName_d hx
  replace h : varK env i (fun u => glbK u fun f => someK (tb.lookup f) fun ct => pl (B.ex env) env t.M fun ds M1 => ct ds M1 (B.ex env) Qp) := h
  unfold varK at h
  split at h
  case h_2 => exact h.elim
  rename_i u hu
  obtain ⟨y, rfl, h⟩ := glbK_inv h
  obtain ⟨ct, hy, h⟩ := someK_inv h
  obtain ⟨f, fd, ps, F, hm, hk, hb⟩ := hf y ct hy
  obtain ⟨v, hσ, rv⟩ := re.2 i _ hu
  have ev : v = .ref f := by
    simp only [Rep] at rv
    obtain ⟨u', e1, e2⟩ := rv
    rw [hm] at e1
    cases e1
    cases v with
    | ref a => cases e2; rfl
    | non => cases e2
    | bl _ => cases e2
    | int _ => obtain ⟨_, e2⟩ := e2; cases e2
    | str _ => obtain ⟨_, e2⟩ := e2; cases e2
    | byt _ => obtain ⟨_, e2⟩ := e2; cases e2
    | flt _ => obtain ⟨_, e2⟩ := e2; cases e2
    | ty _ => cases e2
  subst ev
  rw [← c.K] at hk
  refine wpAny_Call_Name_kw (thn ((pe_var (i := i) hN hv o1 o2).run pins s σ t.H (fun v H1 => v = .ref f ∧ H1 = t.H) I ⟨.ref f, hσ, rfl, rfl⟩) fun u s1 ⟨v, H1, I1, r2, ev, eH⟩ => ?_)
  subst ev; subst eH
  obtain rfl : u = Value.ref f := r2
  cases es with
  | nil =>
    have h1 := hpl rfl _ _ _ _ h
    have hb1 := bind_pos F hb (by rw [← c.K]; exact I1.kIn) .nil Reps.nil h1
    exact PySem.W.callWith_K0 I1.kIn hk (run_g (us := []) (us2 := []) c F (Nat.le_refl _) I1 hb1 .nil g Reps.nil he re h1 l)
  | cons e es =>
    simp only [List.all_cons, Bool.and_eq_true] at hn
    refine PySem.W.callWith_K (h₀ := X.base) I1.ok.mod.kin hk (thn (ha.run pos pins s1 σ t.H _ I1 (AQ.of he g re h)) fun us s2 ⟨vs, H2, I2, r, ds, t1, e0, e1, he1, g1, r1, rds, h1⟩ => ?_) (star_cons hn.1) (star_any hn.2)
    subst e0
    exact ⟨I2.kIn, run_g c F (Nat.le_refl _) I2 (bind_pos F hb (by rw [← c.K]; exact I2.kIn) r rds h1) r g1 rds he1 r1 h1 (l.later e1)⟩
/-- values by places and by keywords -/
theorem e_callk {kws : List Keyword} {ks : List Str} {pm : List Nat} {n : Nat} {pk : WpL} (c : CtxB W k B X) (F : FnG W j f fd ps ct) (hj : j ≤ k) (hg : Gl X x) (hx : okName x = true) (hm : W.mg x = some (.ref f)) (hk : PySem.W.keepIn W.K (.ref f) = true) (hb : KwB W.K fd ps n ks pm)
    (hn : es.all nost = true) (ha : PA X es (tA W B pl)) (hpl : es = [] → ∀ x env M Q, pl x env M Q → Q [] M) (hkn : kwN kws ks = true) (hkw : PK X kws (tA W B pk)) :
    PE X (.Call (.Name x p) es kws pos) (tE W B fun x env M Q => pl x env M fun ds M1 => pk x env M1 fun vs M2 => ds.length = n ∧ vs.length = ks.length ∧ ct (permD (ds ++ vs) pm) M2 x Q) := by
  refine ⟨fun pins s σ H Q I ⟨env, t, Qp, hH, he, g, re, h, l⟩ => ?_⟩
  subst hH
  rw [← c.mg] at hm
  rw [← c.K] at hk
  obtain ⟨k1, k2, k3⟩ := kwN_ok (pos := pos) (env := X.env) hkn
  refine wpAny_Call_Name_kw (ld_glob I hg hm ?_ (okName_d hx).1)
  have go : ∀ (s1 : Shared) (t1 : Sta) (us : List Value) (vs : List V) (ds : List D), L2.Inv X pins σ t1.H s1 → Vals vs us → Ext t t1 → Ext B.t0 t1 → Good W t1 → REnv W t1 env σ → Reps W t1 ds vs → pk (B.ex env) env t1.M (fun zs M2 => ds.length = n ∧ zs.length = ks.length ∧ ct (permD (ds ++ zs) pm) M2 (B.ex env) Qp) →
      wpAny (model X.prog X.w) X.A (evalAll ((backToKw pos (keywordEach kws X.env)).map (·.2))) (fun zs s₂ => X.K.In s₂.heap ∧ wpAny (model X.prog X.w) X.A (call (.ref f) us (((backToKw pos (keywordEach kws X.env)).filterMap (·.1)).zip zs)) (EP X pins σ Q) X.xe s₂) X.xe s1 := by
    intro s1 t1 us vs ds I1 r e1 he1 g1 r1 rds h1
    refine thn (hkw.run pos pins s1 σ t1.H _ I1 (AQ.of he1 g1 r1 h1)) fun ws s2 ⟨zs, H2, I2, rz, ds2, t2, e0, e2, he2, g2, r2, rds2, hln, hln2, h2⟩ => ?_
    subst e0
    refine ⟨I2.kIn, ?_⟩
    rw [k2]
    have rv : Vals (vs ++ zs) (us ++ ws) := r.append rz
    have rr : Reps W t2 (ds ++ ds2) (vs ++ zs) := (rds.ext (e2.fst g1)).append rds2
    have e3 := rds.length
    have e4 := rds2.length
    have e5 := r.length
    have e6 := rz.length
    have lt : ∀ i ∈ pm, i < (vs ++ zs).length := fun i hi => by
      have := hb.lt i hi
      rw [List.length_append, e3, e4, hln, hln2]; exact this
    exact run_g c F hj I2 (hb.to s2 us ws (by rw [← c.K]; exact I2.kIn) (by omega) (by omega)) (perm_vals rv lt) g2 (perm_reps rr lt) he2 r2 h2 (l.later (e1.trans e2))
  cases es with
  | nil =>
    have h1 := hpl rfl _ _ _ _ h
    exact PySem.W.callWith_KW0 (h₀ := X.base) I.ok.mod.kin hk k1 (go s t [] [] [] I .nil Ext.refl he g re Reps.nil h1) (by rw [k3]; rfl)
  | cons e es =>
    have hn2 := hn
    simp only [List.all_cons, Bool.and_eq_true] at hn
    refine PySem.W.callWith_KW (h₀ := X.base) I.ok.mod.kin hk k1 (thn (ha.run pos pins s σ t.H _ I (AQ.of he g re h)) fun us s1 ⟨vs, H1, I1, r, ds, t1, e0, e1, he1, g1, r1, rds, h1⟩ => ?_) (by rw [star_any hn2, k3]; rfl) (star_cons hn.1)
    subst e0
    exact go s1 t1 us vs ds I1 r e1 he1 g1 r1 rds h1
end
end TL

set_option Elab.async false
set_option linter.all false
set_option maxRecDepth 100000
set_option maxHeartbeats 4000000
/-! Instances: fields, methods, properties, making. -/
namespace TL
open PySem PySem.Spec PyProof.Rows L2
section
variable {W : Wd} {k j : Nat} {B : Bnd} {X : Cx} {a b e : Expr} {pos p : Pos} {x : Str} {es : List Expr} {pw : Wp} {pl : WpL}
theorem RepKs.look {t : Sta} {f : Str} : ∀ {ds : List (Str × D)} {vs : List (Str × V)}, RepKs W t ds vs → (ds.lookup f = none ∧ vs.lookup f = none) ∨ ∃ d v, ds.lookup f = some d ∧ vs.lookup f = some v ∧ Rep W t d v
  | [], vs, h => by
    have e : vs = [] := h
    subst e
    exact .inl ⟨rfl, rfl⟩
  | (g, d) :: ds, vs, h => by
    obtain ⟨v, r, rfl, h1, h2⟩ := h
    simp only [List.lookup_cons]
    cases e : f == g with
    | true => exact .inr ⟨d, v, rfl, rfl, h1⟩
    | false => exact RepKs.look h2
theorem RepKs.putF {t : Sta} {f : Str} {d : D} {v : V} (hv : Rep W t d v) : ∀ {ds : List (Str × D)} {vs : List (Str × V)}, RepKs W t ds vs → RepKs W t (putF' f d ds) (L2.putF f v vs)
  | [], vs, h => by
    have e : vs = [] := h
    subst e
    exact ⟨v, [], rfl, hv, rfl⟩
  | (g, d0) :: ds, vs, h => by
    obtain ⟨v0, r, rfl, h1, h2⟩ := h
    unfold putF' L2.putF
    by_cases e : g = f
    · rw [if_pos e, if_pos e]; exact ⟨v, r, rfl, hv, h2⟩
    · rw [if_neg e, if_neg e]; exact ⟨v0, _, rfl, h1, RepKs.putF hv h2⟩
/-- an instance, as HandS has it -/
theorem ins_at {t : Sta} {p : Addr} {C : Str} {fs : List (Str × D)} {A : Addr} (gd : Good W t) (em : t.M p = some (.ins C fs)) (hA : W.mg C = some (.ref A)) : ∃ dx vs, t.H p = some (.ins A dx vs) ∧ vs.length ≤ 1000 ∧ RepKs W t fs vs := by
  obtain ⟨A', dx, vs, h1, h2, h3, h4⟩ := gd.at_ p _ em
  rw [hA] at h2; cases h2
  exact ⟨dx, vs, h1, h3, h4⟩
structure FldOk (W : Wd) (C f : Str) : Prop where
  ex : ∃ A : Addr, W.mg C = some (.ref A) ∧ Cls W.K A ∧ NoAttr W.K A f
theorem e_fld {C f : Str} (c : COk W k X) (o : FldOk W C f) (hab : plainO a = true) (ha : PE X a (tE W B pw)) : PE X (.Attribute a f pos) (tE W B fun x env M Q => pw x env M fun u M1 => fldK M1 u C f fun d => Q d M1) := by
  obtain ⟨A, o1, o2, o3⟩ := o.ex
  refine (pe_fld ha (plainO_ok hab)).imp fun σ H Q ⟨env, t, Qp, hH, he, g, re, h, l⟩ => ?_
  subst hH
  refine tE_bind rfl he g re h fun d v t1 e1 he1 g1 r1 rd h1 => ?_
  obtain ⟨q, fs, rfl, em, h1⟩ := insK_inv h1
  obtain ⟨d, ed, h1⟩ := optK_inv h1
  have := repR rd; subst this
  obtain ⟨dx, vs, b1, b2, b3⟩ := ins_at g1 em o1
  rcases b3.look (f := f) with ⟨z, _⟩ | ⟨d', v, z1, z2, z3⟩
  · rw [z] at ed; cases ed
  · rw [ed] at z1; cases z1
    exact ⟨q, A, dx, vs, v, rfl, b1, by rw [c.K]; exact o2, by rw [c.K]; exact o3, z2, l _ _ _ e1 g1 z3 h1⟩

/-- o.m(..) -/
structure MthOk (W : Wd) (k : Nat) (C m : Str) (ct : Contract) : Prop where
  ex : ∃ (A f : Addr) (fd : FuncData) (ps : List Str), W.mg C = some (.ref A) ∧ Cls W.K A ∧ Meth W.K A m f ∧ FnG W k f fd ps ct ∧ Binds W.K fd ps []
theorem e_meth {C m : Str} {ct : Contract} {apos : Pos} (c : CtxB W k B X) (o : MthOk W k C m ct) (hn : es.all nost = true) (ho : PE X a (tE W B pw)) (ha : PA X es (tA W B pl)) (hpl : es = [] → ∀ x env M Q, pl x env M Q → Q [] M)
    (hab : plainO a = true) (hline : (apos.endLine == pos.line) = true) (hlen : decide (es.length < 28) = true) :
    PE X (.Call (.Attribute a m apos) es [] pos) (tE W B fun x env M Q => pw x env M fun u M1 => insK M1 u C fun _ fs => fs.lookup m = none ∧ pl x env M1 fun ds M2 => ct (u :: ds) M2 x Q) := by
  obtain ⟨A, f, fd, ps, o1, o2, o3, F, hb⟩ := o.ex
  refine ⟨fun pins s σ H Q I ⟨env, t, Qp, hH, he, g, re, h, l⟩ => ?_⟩
  subst hH
  have few : methodCallForm (es.length + ([] : List Keyword).length) (backTo pos (starEach es X.env)) (backToKw pos (keywordEach [] X.env)) = true := by
    have := of_decide_eq_true hlen
    unfold methodCallForm
    rw [star_len hn]
    simp only [keywordEach, backToKw, List.map_nil, List.all_nil, Bool.and_true, List.length_nil]
    simp; omega
  have hpos : methodCallPos true a X.env apos pos = pure pos := by unfold methodCallPos; simp [hline]
  rw [arm_eval_Call, plainO_ok hab]
  refine wpAny_bind (thn (ho.run pins s σ t.H _ I (tE_bind (Q := fun v H1 => ∃ (q : Addr) (fs : List (Str × D)) (t1 : Sta), v = .ref q ∧ t1.H = H1 ∧ Ext t t1 ∧ Ext B.t0 t1 ∧ Good W t1 ∧ REnv W t1 env σ ∧ t1.M q = some (.ins C fs) ∧ fs.lookup m = none ∧ pl (B.ex env) env t1.M fun ds M2 => ct (.ref q :: ds) M2 (B.ex env) Qp) rfl he g re h
    fun d v t1 e1 he1 g1 r1 rd h1 => ?_)) fun ov s1 ⟨y, H1, I1, ry, q, fs, t1, ey, e0, e1, he1, g1, r1, em, hlk, h1⟩ => wpAny_bind (wpAny_standAt ?_))
  · obtain ⟨q, fs, rfl, em, h0, h1⟩ := insK_inv h1
    exact ⟨q, fs, t1, repR rd, rfl, e1, he1, g1, r1, em, h0, h1⟩
  · subst e0 ey
    obtain rfl : ov = Value.ref q := ry
    obtain ⟨dx, vs, b1, b2, b3⟩ := ins_at g1 em o1
    have hl0 : vs.lookup m = none := by
      rcases b3.look (f := m) with ⟨_, z⟩ | ⟨d', v, z1, _⟩
      · exact z
      · rw [hlk] at z1; cases z1
    have hkp := o3.kp
    rw [← c.K] at o2 o3 hkp
    unfold methodCall
    rw [few]
    refine wpAny_bind (wpAny_holding (getmeth_ok I1 b1 o2 o3 hl0 ?_))
    refine wpAny_bind (wpAny_of_eq hpos ?_)
    have rep0 : Rep W t1 (.ref q) (V.ref q) := Rep.ref
    cases es with
    | nil =>
      have h2 := hpl rfl _ _ _ _ h1
      have rr : Vals [V.ref q] [Value.ref q] := .cons rfl .nil
      have rd2 : Reps W t1 [.ref q] [V.ref q] := Reps.one rep0
      exact PySem.W.callWith_K0 (first := [.ref q]) I1.kIn hkp (run_g (us := [.ref q]) (us2 := [.ref q]) c F (Nat.le_refl _) I1 (bind_pos F hb (by rw [← c.K]; exact I1.kIn) rr rd2 h2) rr g1 rd2 he1 r1 h2 (l.later e1))
    | cons e es =>
      simp only [List.all_cons, Bool.and_eq_true] at hn
      refine PySem.W.callWith_K (first := [.ref q]) (h₀ := X.base) I1.ok.mod.kin hkp (thn (ha.run pos pins s1 σ t1.H _ I1 (AQ.of he1 g1 r1 h1)) fun us s2 ⟨vs, H2, I2, r, ds, t2, e0, e2, he2, g2, r2, rds, h2⟩ => ?_) (star_cons hn.1) (star_any hn.2)
      subst e0
      have rr : Vals (V.ref q :: vs) (Value.ref q :: us) := .cons rfl r
      have rd2 : Reps W t2 (.ref q :: ds) (V.ref q :: vs) := Reps.cons Rep.ref rds
      exact ⟨I2.kIn, run_g (us := .ref q :: us) c F (Nat.le_refl _) I2 (bind_pos F hb (by rw [← c.K]; exact I2.kIn) rr rd2 h2) rr g2 rd2 he2 r2 h2 (l.later (e1.trans e2))⟩

/-- e.f, a property -/
structure PrpOk (W : Wd) (k : Nat) (C f : Str) (ct : Contract) : Prop where
  ex : ∃ (A p g : Addr) (fd : FuncData) (ps : List Str) (j : Nat), j + 1 ≤ k ∧ W.mg C = some (.ref A) ∧ Cls W.K A ∧ PropOf W.K A f p g ∧ FnG W j g fd ps ct ∧ Binds W.K fd ps []
theorem in1_gd {A : Around} (h : A.guards = some []) : A.in1.guards = some [] := h
theorem e_prop {C f : Str} {ct : Contract} (c : CtxB W k B X) (o : PrpOk W k C f ct) (hab : plainO a = true) (ho : PE X a (tE W B pw)) :
    PE X (.Attribute a f pos) (tE W B fun x env M Q => pw x env M fun u M1 => insK M1 u C fun _ _ => ct [u] M1 noX Q) := by
  obtain ⟨A, pp, gg, fd, ps, j, hj, o1, o2, o3, F, hb⟩ := o.ex
  refine ⟨fun pins s σ H Q I ⟨env, t, Qp, hH, he, g, re, h, l⟩ => ?_⟩
  subst hH
  refine attr_of (plainO_ok hab) (thn (ho.run pins s σ t.H _ I (tE_bind (Q := fun v H1 => ∃ (q : Addr) (fs : List (Str × D)) (t1 : Sta), v = .ref q ∧ t1.H = H1 ∧ Ext t t1 ∧ Ext B.t0 t1 ∧ Good W t1 ∧ t1.M q = some (.ins C fs) ∧ ct [.ref q] t1.M noX Qp) rfl he g re h
    fun d v t1 e1 he1 g1 r1 rd h1 => ?_)) fun ov s1 ⟨y, H1, I1, ry, q, fs, t1, ey, e0, e1, he1, g1, em, h1⟩ => ?_)
  · obtain ⟨q, fs, rfl, em, h1⟩ := insK_inv h1
    exact ⟨q, fs, t1, repR rd, rfl, e1, he1, g1, em, h1⟩
  · subst e0 ey
    obtain rfl : ov = Value.ref q := ry
    obtain ⟨dx, vs, b1, b2, b3⟩ := ins_at g1 em o1
    rw [← c.K] at o2 o3
    obtain ⟨mA, O, _, _, _, _⟩ := ins_get I1.hok b1
    obtain ⟨od, J, _⟩ := O.look
    obtain ⟨rest, hrec⟩ := o3.rec_
    have I2 := I1.tok (s1.toks + 1)
    have hc : (PySem.W.clsIn X.K A).isSome = true := by
      obtain ⟨cd, hc, _⟩ := PySem.W.any_some o2.hd
      rw [hc]
      rfl
    have rr : Vals [V.ref q] [Value.ref q] := .cons rfl .nil
    have rd2 : Reps W t1 [.ref q] [V.ref q] := Reps.one Rep.ref
    refine PySem.W.get_bind I1.kIn J (PySem.W.plainGet_of (o2.get f)).1 (PySem.W.findObj_data hc o3.at_ o3.get o3.tak) (PySem.W.plainGet_of (o2.get f)).2 (wpAny_call (PySem.W.prop_get (s := { s1 with toks := s1.toks + 1 }) I1.kIn hrec ?_))
    refine codeAny_mono (run_gn (A := X.A.in1) c.toCOk F (c.room.mono hj).in1 (in1_gd c.gd) I1.env0.in1.frames I2 (bind_pos F hb (by rw [← c.K]; exact I2.kIn) rr rd2 h1) rr g1 rd2 h1 (l.later e1)) fun r s' hq => ?_
    cases r with
    | error er => exact False.elim hq
    | ok fl =>
      cases fl with
      | ret u =>
        obtain ⟨v, H', I3, rv, q3⟩ := hq
        show wpAny _ _ (handedOut u) _ _ _
        rw [PySem.W.handedOut_of (handed_of rv)]
        exact wpAny_pure ⟨v, H', I3, rv, q3⟩
      | next => exact False.elim hq
      | brk => exact False.elim hq
      | cont => exact False.elim hq
/-- C(..) -/
theorem make_guards {A : Around} {C : Addr} {us : List Value} {kw : List (Str × Value)} (h : A.guards = some []) : (A.under (.builtin "type.__call__" ⟨.ref C :: us, kw⟩)).guards = some [] := by
  first | exact h | (simp [Around.under, Code.isGuard, guardIds]; exact h)
theorem run_mk {Cn : Str} {A f : Addr} {fd : FuncData} {ps : List Str} {ct : Contract} {pins : List (Addr × Obj)} {σ : L2.St} {s : Shared} {t : Sta} {us us2 : List Value} {kw : List (Str × Value)} {vs2 : List V} {ds : List D} {env : En} {Qp : KD} {Q : VK}
    (c : CtxB W k B X) (F : FnG W j f fd ps ct) (hj : j + 1 ≤ k) (MK : Mk W.K A f) (hA : W.mg Cn = some (.ref A)) (I : L2.Inv X pins σ t.H s)
    (hb : ∀ (q : Addr) (s' : Shared), W.K.In s'.heap → ct (.ref q :: ds) (mput t.M q (.ins Cn [])) (B.ex env) (fun d M' => d = .non ∧ Qp (.ref q) M') → BindsTo s' fd ⟨.ref q :: us, kw⟩ (ps.zip (.ref q :: us2))) (r : Vals vs2 us2) (gd : Good W t) (rp : Reps W t ds vs2) (he : Ext B.t0 t) (re : REnv W t env σ)
    (h : mkC Cn ct ds t.M (B.ex env) Qp) (l : Lat W t Qp Q) : wpAny (model X.prog X.w) X.A (call (.ref A) us kw) (EP X pins σ Q) X.xe s := by
  have n1 : t.H (s.heap.objs.size + 1) = none := I.hok.fresh (Nat.le_succ _)
  have n0 : t.H s.heap.objs.size = none := I.hok.fresh (Nat.le_refl _)
  have ne : s.heap.objs.size ≠ s.heap.objs.size + 1 := Nat.ne_of_lt (Nat.lt_succ_self _)
  have I2 := Inv.made (C := A) I
  let t1 : Sta := t.hid s.heap.objs.size (.own (s.heap.objs.size + 1))
  let t2 : Sta := t1.put (s.heap.objs.size + 1) (.ins A s.heap.objs.size []) (.ins Cn [])
  have n1' : t1.H (s.heap.objs.size + 1) = none := by show upd t.H _ _ _ = _; rw [upd_ne (Ne.symm ne)]; exact n1
  have e1 : Ext t t1 := Ext.hid n0
  have g1 : Good W t1 := gd.hid n0
  have e2 : Ext t1 t2 := Ext.newM n1'
  have g2 : Good W t2 := g1.newM n1' ⟨A, s.heap.objs.size, [], upd_same, hA, by show 0 ≤ 1000; omega, rfl⟩
  have hq := h (s.heap.objs.size + 1) (gd.fresh n1)
  have f2 : Fst t t2 := (e1.trans e2).fst gd
  have r2 : Vals (V.ref (s.heap.objs.size + 1) :: vs2) (Value.ref (s.heap.objs.size + 1) :: us2) := .cons rfl r
  have rp2 : Reps W t2 (.ref (s.heap.objs.size + 1) :: ds) (V.ref (s.heap.objs.size + 1) :: vs2) := Reps.cons Rep.ref (rp.ext f2)
  have e0 := I2.env0
  rw [c.P, c.w, c.K, c.mg, c.base] at e0
  have MK' := MK
  rw [← c.K] at MK
  have lat2 : Lat W t2 (fun d M' => d = .non ∧ Qp (.ref (s.heap.objs.size + 1)) M') (fun v H2 => v = .non ∧ Q (.ref (s.heap.objs.size + 1)) H2) := fun d v t3 e3 g3 rd ⟨q1, q2⟩ => by
    subst q1
    exact ⟨repN rd, l _ _ _ ((e1.trans e2).trans e3) g3 Rep.ref q2⟩
  have hr := F.run (X.A.under (.builtin "type.__call__" ⟨.ref A :: us, kw⟩)) X.stack _ t2 ⟨Value.ref (s.heap.objs.size + 1) :: us, kw⟩ _ _ _ (B.ex env) _ _ ((c.room.mono hj).make A us kw) (make_guards c.gd) (e0.make A us kw) (hb _ _ (by rw [← c.K]; exact I2.kIn) hq) r2 g2 rp2 hq lat2
  rw [c.P, c.w]
  refine wpAny_call (make_map (f := f) I.kIn MK.makes MK.init (beq_iff_eq.mp MK.fn) (codeAny_mono hr fun r s' hq' => ?_))
  cases r with
  | error e =>
    refine c.tk e s' (XE.of_call I2 (fun cls d H' q => ?_) (by rw [c.P, c.w]; exact hq'))
    obtain ⟨t', n, dd, z1, z2, z3, z4, z5⟩ := q
    exact ⟨env, t', n, dd, z1, (he.trans (e1.trans e2)).trans z2, z3, (re.ext f2).ext (z2.fst g2), z4, z5⟩
  | ok fl =>
    cases fl with
    | ret u =>
      obtain ⟨v, H', I3, rv, ev, q3⟩ := I2.after (by rw [c.P, c.w]; exact hq')
      subst ev
      exact ⟨rv, ⟨V.ref (s.heap.objs.size + 1), H', I3, rfl, q3⟩⟩
    | next => exact False.elim hq'
    | brk => exact False.elim hq'
    | cont => exact False.elim hq'
structure MkOk (W : Wd) (k : Nat) (C : Str) (ct : Contract) : Prop where
  ex : ∃ (A f : Addr) (fd : FuncData) (ps : List Str) (j : Nat), j + 1 ≤ k ∧ W.mg C = some (.ref A) ∧ Mk W.K A f ∧ FnG W j f fd ps ct ∧ Binds W.K fd ps []
theorem e_mk {C : Str} {ct : Contract} (c : CtxB W k B X) (o : MkOk W k C ct) (hg : Gl X C) (hx : okName C = true) (hn : es.all nost = true) (ha : PA X es (tA W B pl)) (hpl : es = [] → ∀ x env M Q, pl x env M Q → Q [] M) :
    PE X (.Call (.Name C p) es [] pos) (tE W B fun x env M Q => pl x env M fun ds M1 => mkC C ct ds M1 x Q) := by
  obtain ⟨A, f, fd, ps, j, hj, hA, MK, F, hb⟩ := o.ex
  refine ⟨fun pins s σ H Q I ⟨env, t, Qp, hH, he, g, re, h, l⟩ => ?_⟩
  subst hH
  have hm := hA
  rw [← c.mg] at hm
  have hk := MK.kp
  rw [← c.K] at hk
  have bd : ∀ (us : List Value) (ds : List D) (t1 : Sta) (vs : List V), Vals vs us → Reps W t1 ds vs → ∀ (q : Addr) (s' : Shared), W.K.In s'.heap → ct (.ref q :: ds) (mput t1.M q (.ins C [])) (B.ex env) (fun d M' => d = .non ∧ Qp (.ref q) M') → BindsTo s' fd ⟨.ref q :: us, []⟩ (ps.zip (.ref q :: us)) := fun us ds t1 vs r rds q s' KI hq => by
    have hl := F.len _ _ _ _ hq
    have := hb s' (.ref q :: us) KI (by rw [List.append_nil, List.length_cons, ← r.length, rds.length]; exact hl)
    rwa [List.append_nil] at this
  refine wpAny_Call_Name_kw (ld_glob I hg hm ?_ (okName_d hx).1)
  cases es with
  | nil => exact PySem.W.callWith_K0 I.kIn hk (run_mk (us := []) (us2 := []) c F hj MK hA I (bd [] [] t [] .nil Reps.nil) .nil g Reps.nil he re (hpl rfl _ _ _ _ h) l)
  | cons e es =>
    simp only [List.all_cons, Bool.and_eq_true] at hn
    refine PySem.W.callWith_K (h₀ := X.base) I.ok.mod.kin hk (thn (ha.run pos pins s σ t.H _ I (AQ.of he g re h)) fun us s1 ⟨vs, H1, I1, r, ds, t1, e0, e1, he1, g1, r1, rds, h1⟩ => ?_) (star_cons hn.1) (star_any hn.2)
    subst e0
    exact ⟨I1.kIn, run_mk c F hj MK hA I1 (bd us ds t1 vs r rds) r g1 rds he1 r1 h1 (l.later e1)⟩
structure KwM (K : PySem.W.Frag) (fd : FuncData) (ps : List Str) (n : Nat) (ks : List Str) (pm : List Nat) : Prop where
  len : pm.length + 1 = ps.length
  lt : ∀ i ∈ pm, i < n + ks.length
  to : ∀ (s : Shared) (self : Value) (us ws : List Value), K.In s.heap → us.length = n → ws.length = ks.length → BindsTo s fd ⟨self :: us, ks.zip ws⟩ (ps.zip (self :: pm.map fun i => (us ++ ws).getD i .none))
structure MkkOk (W : Wd) (k : Nat) (C : Str) (ct : Contract) (n : Nat) (ks : List Str) (pm : List Nat) : Prop where
  ex : ∃ (A f : Addr) (fd : FuncData) (ps : List Str) (j : Nat), j + 1 ≤ k ∧ W.mg C = some (.ref A) ∧ Mk W.K A f ∧ FnG W j f fd ps ct ∧ KwM W.K fd ps n ks pm
theorem e_mkk {C : Str} {ct : Contract} {kws : List Keyword} {ks : List Str} {pm : List Nat} {n : Nat} {pk : WpL} (c : CtxB W k B X) (o : MkkOk W k C ct n ks pm) (hg : Gl X C) (hx : okName C = true) (hn : es.all nost = true)
    (ha : PA X es (tA W B pl)) (hpl : es = [] → ∀ x env M Q, pl x env M Q → Q [] M) (hkn : kwN kws ks = true) (hkw : PK X kws (tA W B pk)) :
    PE X (.Call (.Name C p) es kws pos) (tE W B fun x env M Q => pl x env M fun ds M1 => pk x env M1 fun vs M2 => ds.length = n ∧ vs.length = ks.length ∧ mkC C ct (permD (ds ++ vs) pm) M2 x Q) := by
  obtain ⟨A, f, fd, ps, j, hj, hA, MK, F, hb⟩ := o.ex
  refine ⟨fun pins s σ H Q I ⟨env, t, Qp, hH, he, g, re, h, l⟩ => ?_⟩
  subst hH
  have hm := hA
  rw [← c.mg] at hm
  have hk := MK.kp
  rw [← c.K] at hk
  obtain ⟨k1, k2, k3⟩ := kwN_ok (pos := pos) (env := X.env) hkn
  refine wpAny_Call_Name_kw (ld_glob I hg hm ?_ (okName_d hx).1)
  have go : ∀ (s1 : Shared) (t1 : Sta) (us : List Value) (vs : List V) (ds : List D), L2.Inv X pins σ t1.H s1 → Vals vs us → Ext t t1 → Ext B.t0 t1 → Good W t1 → REnv W t1 env σ → Reps W t1 ds vs → pk (B.ex env) env t1.M (fun zs M2 => ds.length = n ∧ zs.length = ks.length ∧ mkC C ct (permD (ds ++ zs) pm) M2 (B.ex env) Qp) →
      wpAny (model X.prog X.w) X.A (evalAll ((backToKw pos (keywordEach kws X.env)).map (·.2))) (fun zs s₂ => X.K.In s₂.heap ∧ wpAny (model X.prog X.w) X.A (call (.ref A) us (((backToKw pos (keywordEach kws X.env)).filterMap (·.1)).zip zs)) (EP X pins σ Q) X.xe s₂) X.xe s1 := by
    intro s1 t1 us vs ds I1 r e1 he1 g1 r1 rds h1
    refine thn (hkw.run pos pins s1 σ t1.H _ I1 (AQ.of he1 g1 r1 h1)) fun ws s2 ⟨zs, H2, I2, rz, ds2, t2, e0, e2, he2, g2, r2, rds2, hln, hln2, h2⟩ => ?_
    subst e0
    refine ⟨I2.kIn, ?_⟩
    rw [k2]
    have rv : Vals (vs ++ zs) (us ++ ws) := r.append rz
    have rr : Reps W t2 (ds ++ ds2) (vs ++ zs) := (rds.ext (e2.fst g1)).append rds2
    have e3 := rds.length
    have e4 := rds2.length
    have e5 := r.length
    have e6 := rz.length
    have lt : ∀ i ∈ pm, i < (vs ++ zs).length := fun i hi => by
      have := hb.lt i hi
      rw [List.length_append, e3, e4, hln, hln2]; exact this
    exact run_mk c F hj MK hA I2 (fun q s' KI _ => hb.to s' (.ref q) us ws KI (by omega) (by omega)) (perm_vals rv lt) g2 (perm_reps rr lt) he2 r2 h2 (l.later (e1.trans e2))
  cases es with
  | nil =>
    have h1 := hpl rfl _ _ _ _ h
    exact PySem.W.callWith_KW0 (h₀ := X.base) I.ok.mod.kin hk k1 (go s t [] [] [] I .nil Ext.refl he g re Reps.nil h1) (by rw [k3]; rfl)
  | cons e es =>
    have hn2 := hn
    simp only [List.all_cons, Bool.and_eq_true] at hn
    refine PySem.W.callWith_KW (h₀ := X.base) I.ok.mod.kin hk k1 (thn (ha.run pos pins s σ t.H _ I (AQ.of he g re h)) fun us s1 ⟨vs, H1, I1, r, ds, t1, e0, e1, he1, g1, r1, rds, h1⟩ => ?_) (by rw [star_any hn2, k3]; rfl) (star_cons hn.1)
    subst e0
    exact go s1 t1 us vs ds I1 r e1 he1 g1 r1 rds h1
end
end TL

set_option Elab.async false
set_option linter.all false
set_option maxRecDepth 100000
set_option maxHeartbeats 4000000
/-! Targets; what is walked. -/
namespace TL
open PySem PySem.Spec PyProof.Rows L2

theorem _root_.L2.PG.imp {X : Cx} {e : Expr} {t t' : TG} (h : PG X e t) (i : ∀ v σ H Q, t' v σ H Q → t v σ H Q) : PG X e t' := ⟨fun pins s σ H v u Q I r q => h.run pins s σ H v u Q I r (i v σ H Q q)⟩
theorem _root_.L2.PGs.imp {X : Cx} {e : List Expr} {t t' : TGs} (h : PGs X e t) (i : ∀ v σ H Q, t' v σ H Q → t v σ H Q) : PGs X e t' := ⟨fun pins s σ H v u Q I r q => h.run pins s σ H v u Q I r (i v σ H Q q)⟩
def sameOut (σ σ' : L2.St) (sl : List Nat) : Prop := ∀ is : List Nat, (∀ i ∈ sl, i ∈ is) → wipe σ' is = wipe σ is
theorem sameOut.refl {σ : L2.St} : sameOut σ σ [] := fun _ _ => rfl
theorem wipe_set {σ : L2.St} {i : Nat} {x : Option V} : ∀ {is : List Nat}, i ∈ is → wipe (σ.set i x) is = wipe σ is
  | j :: is, h => by
    unfold wipe
    by_cases e : i ∈ is
    · rw [wipe_set e]
    · have ej : i = j := by simpa [e] using h
      subst ej
      have : wipe (σ.set i x) is = (wipe σ is).set i x := by
        clear h
        induction is with
        | nil => rfl
        | cons k is ih =>
          simp only [List.mem_cons, not_or] at e
          unfold wipe
          rw [ih e.2, List.set_comm _ _ e.1]
      rw [this, List.set_set]
def gT (W : Wd) (tg : Tg) : TG := fun v σ H Q => ∃ (d : D) (env : En) (t : Sta) (Qe : En → Prop), t.H = H ∧ Good W t ∧ REnv W t env σ ∧ Rep W t d v ∧ putT tg d env t.M Qe ∧ ∀ env' σ', REnv W t env' σ' → sameOut σ σ' tg.slots → Qe env' → Q σ' H
def gTs (W : Wd) (tgs : List Tg) : TGs := fun vs σ H Q => ∃ (ds : List D) (env : En) (t : Sta) (Qe : En → Prop), t.H = H ∧ Good W t ∧ REnv W t env σ ∧ Reps W t ds vs ∧ putTs tgs ds env t.M Qe ∧ ∀ env' σ', REnv W t env' σ' → sameOut σ σ' (slotss tgs) → Qe env' → Q σ' H
mutual
/-- the target is that one: names by their slots -/
def okT (N : List Str) (sc : Scope) (fn : Str → Bool) : Tg → Expr → Bool
  | .nm i, .Name x _ => decide (N[i]? = some x) && (decide (sc.names.lookup x = some .local) || (fn x && decide (sc.names.lookup x = some .cell)))
  | .tp ts, .Tuple es _ _ => okTs N sc fn ts es
  | _, _ => false
def okTs (N : List Str) (sc : Scope) (fn : Str → Bool) : List Tg → List Expr → Bool
  | [], [] => true
  | t :: ts, e :: es => nost e && okT N sc fn t e && okTs N sc fn ts es
  | _, _ => false
end
theorem as_cons {e : Expr} {es : List Expr} {env : Env} (h : nost e = true) : assignEach (e :: es) env = (false, assign e env) :: assignEach es env := by
  cases e <;> first | rfl | cases h
theorem okTs_len {N : List Str} {sc : Scope} {fn : Str → Bool} {env : Env} : ∀ {ts : List Tg} {es : List Expr}, okTs N sc fn ts es = true → (assignEach es env).length = ts.length ∧ (assignEach es env).findIdx? (·.1) = none
  | [], [], _ => ⟨rfl, rfl⟩
  | t :: ts, e :: es, h => by
    unfold okTs at h
    simp only [Bool.and_eq_true] at h
    obtain ⟨a1, a2⟩ := okTs_len (env := env) h.2
    rw [as_cons h.1.1]
    refine ⟨by rw [List.length_cons, List.length_cons, a1], ?_⟩
    rw [List.findIdx?_cons, a2]; rfl
  | [], _ :: _, h => by unfold okTs at h; cases h
  | _ :: _, [], h => by unfold okTs at h; cases h
section
variable {W : Wd} {k : Nat} {B : Bnd} {X : Cx}
mutual
theorem putT_ex : ∀ {tg : Tg} {d : D} {env : En} {M : Mm} {Q : En → Prop}, putT tg d env M Q → ∃ env', Q env'
  | .nm i, d, env, M, Q, h => by unfold putT at h; exact ⟨_, h⟩
  | .tp ts, d, env, M, Q, h => by
    unfold putT at h
    obtain ⟨xs, _, h⟩ := someK_inv h
    exact putTs_ex h
theorem putTs_ex : ∀ {ts : List Tg} {ds : List D} {env : En} {M : Mm} {Q : En → Prop}, putTs ts ds env M Q → ∃ env', Q env'
  | [], [], env, M, Q, h => by unfold putTs at h; exact ⟨_, h⟩
  | t :: ts, d :: ds, env, M, Q, h => by
    unfold putTs at h
    obtain ⟨_, h⟩ := putT_ex h
    exact putTs_ex h
  | [], _ :: _, _, _, _, h => by unfold putTs at h; exact h.elim
  | _ :: _, [], _, _, _, h => by unfold putTs at h; exact h.elim
end
theorem putTs_eq : ∀ {ts : List Tg} {ds : List D} {env : En} {M : Mm} {Q : En → Prop}, putTs ts ds env M Q → ds.length = ts.length
  | [], [], env, M, Q, h => rfl
  | t :: ts, d :: ds, env, M, Q, h => by
    unfold putTs at h
    obtain ⟨_, h⟩ := putT_ex h
    rw [List.length_cons, List.length_cons, putTs_eq h]
  | [], _ :: _, _, _, _, h => by unfold putTs at h; exact h.elim
  | _ :: _, [], _, _, _, h => by unfold putTs at h; exact h.elim
theorem okT_nm {N : List Str} {sc : Scope} {fn : Str → Bool} {i : Nat} {e : Expr} (h : okT N sc fn (.nm i) e = true) : ∃ x p, e = .Name x p ∧ N[i]? = some x ∧ (sc.names.lookup x = some .local ∨ (fn x = true ∧ sc.names.lookup x = some .cell)) := by
  cases e with
  | Name x p =>
    unfold okT at h
    simp only [Bool.and_eq_true, Bool.or_eq_true, decide_eq_true_eq] at h
    exact ⟨x, p, rfl, h⟩
  | _ => unfold okT at h; cases h
theorem okT_tp {N : List Str} {sc : Scope} {fn : Str → Bool} {ts : List Tg} {e : Expr} (h : okT N sc fn (.tp ts) e = true) : ∃ es k p, e = .Tuple es k p ∧ okTs N sc fn ts es = true := by
  cases e with
  | Tuple es k p => unfold okT at h; exact ⟨es, k, p, rfl, h⟩
  | _ => unfold okT at h; cases h
mutual
theorem g_tg (c : COk W k X) {N : List Str} {sc : Scope} {fn : Str → Bool} (hN : X.N = N) (hs : X.env.scope = sc) (hf : X.fn = fn) : ∀ (tg : Tg) (e : Expr), okT N sc fn tg e = true → PG X e (gT W tg)
  | .nm i, e, h => by
    obtain ⟨x, p, rfl, h1, h2⟩ := okT_nm h
    have loc : L2.Loc X.env.scope x := by rw [hs]; exact h2.elim .inl fun z => .inr z.2
    have lf : X.fn x = true ∨ X.env.scope.names.lookup x = some .local := by rw [hs, hf]; exact h2.elim .inr fun z => .inl z.1
    refine (pg_name c.nd (by rw [hN]; exact h1) loc lf).imp fun v σ H Q ⟨d, env, t, Qe, hH, g, re, rd, h, l⟩ => ?_
    subst hH
    unfold putT at h
    exact l _ _ (re.set i rd) (fun is hm => wipe_set (hm i (by unfold Tg.slots; simp))) h
  | .tp ts, e, h => by
      obtain ⟨es, k', p, rfl, h⟩ := okT_tp h
      obtain ⟨a1, a2⟩ := okTs_len (env := X.env) h
      have A := pg_tup (k := k') (pos := p) c.calm (g_tgs c hN hs hf ts es h) a1 a2
      have B := pg_unl (k := k') (pos := p) c.calm (g_tgs c hN hs hf ts es h) a1 a2
      refine ⟨fun pins s σ H v u Q I r ⟨d, env, t, Qe, hH, g, re, rd, h, l⟩ => ?_⟩
      subst hH
      unfold putT at h
      obtain ⟨xs, ex, h⟩ := someK_inv h
      obtain ⟨a, vs, rfl, hq, b2, b3⟩ := seqOf_at g rd ex
      have hl : vs.length = ts.length := by rw [b3.length]; exact putTs_eq h
      rw [← c.K] at hq
      rcases hq with hq | hq
      · exact B.run pins s σ t.H _ u Q I r ⟨a, vs, rfl, hq, hl, xs, env, t, Qe, rfl, g, re, b3, h, fun env' σ' r s q => l env' σ' r (by unfold Tg.slots; exact s) q⟩
      · exact A.run pins s σ t.H _ u Q I r ⟨a, vs, rfl, hq, hl, xs, env, t, Qe, rfl, g, re, b3, h, fun env' σ' r s q => l env' σ' r (by unfold Tg.slots; exact s) q⟩
theorem g_tgs (c : COk W k X) {N : List Str} {sc : Scope} {fn : Str → Bool} (hN : X.N = N) (hs : X.env.scope = sc) (hf : X.fn = fn) : ∀ (ts : List Tg) (es : List Expr), okTs N sc fn ts es = true → PGs X es (gTs W ts)
  | [], [], _ => pgs_nil.imp fun v σ H Q ⟨ds, env, t, Qe, hH, g, re, rd, h, l⟩ => by
    subst hH
    cases ds with
    | nil => cases Reps.nil_inv rd; unfold putTs at h; exact ⟨rfl, l env σ re (by unfold slotss; exact sameOut.refl) h⟩
    | cons d ds => unfold putTs at h; exact h.elim
  | t :: ts, e :: es, h => by
    unfold okTs at h
    simp only [Bool.and_eq_true] at h
    refine (pgs_cons (g_tg c hN hs hf t e h.1.2) (g_tgs c hN hs hf ts es h.2) (by rw [as_cons h.1.1]; rfl)).imp fun v σ H Q ⟨ds, env, st, Qe, hH, g, re, rd, hp, l⟩ => ?_
    subst hH
    cases ds with
    | nil => unfold putTs at hp; exact hp.elim
    | cons d ds =>
      obtain ⟨v, r, rfl, r1, r2⟩ := Reps.cons_inv rd
      unfold putTs at hp
      refine ⟨v, r, rfl, d, env, st, _, rfl, g, re, r1, hp, fun env1 σ1 re1 s1 hp1 => ?_⟩
      refine ⟨ds, env1, st, Qe, rfl, g, re1, r2, hp1, fun env2 σ2 re2 s2 q => l env2 σ2 re2 (fun is hm => ?_) q⟩
      unfold slotss at hm
      exact (s2 is fun i hi => hm i (List.mem_append_right _ hi)).trans (s1 is fun i hi => hm i (List.mem_append_left _ hi))
  | [], _ :: _, h => by unfold okTs at h; cases h
  | _ :: _, [], h => by unfold okTs at h; cases h
end
end
end TL

set_option Elab.async false
set_option linter.all false
set_option maxRecDepth 100000
set_option maxHeartbeats 4000000
/-! enumerate of a tuple. -/
namespace TL
open PySem PySem.Spec PyProof.Rows L2
open Sem (wp) in
theorem meets_enum1 {v : Value} {o : Obj} {H : Heap → Prop} (B : Begins v o H) :
    Meets (Builtin.«enumerate.__new__» ⟨[.type "enumerate", v], []⟩) (fun _ R s => H s.heap ∧
      R (.ok (.ret (.ref (s.heap.push o).objs.size))) { s with heap := (s.heap.push o).push { cls := .type "enumerate", data := .fields #[.none, .bool false, .ref s.heap.objs.size, rawInt 0, .none, .none] } }) :=
  .of_wp fun prog w A R s h => by
    obtain ⟨hp, g, d, tk, os⟩ := s; obtain ⟨h1, h⟩ := h
    have hsub := sub_enumerate
    have q1 : ∀ {A' : Around} {E : Value → Shared → Prop} {Q : Value → Shared → Prop}, Q (.ref hp.objs.size) ⟨hp.push o, g, d, tk, os⟩ → wpAny (model prog w) A' (pyIter v) Q E ⟨hp, g, d, tk, os⟩ :=
      fun q => B.iter prog w _ _ ⟨hp, g, d, tk, os⟩ _ h1 q
    wp_walk using q1
    refine wpAny_stack_any fun st => wpAny_pure ?_
    split
    · rename_i c _ _ _ _ _
      cases (c == Value.type "enumerate")
      · wp_walk using q1
        exact ⟨_, rfl, h⟩
      · wp_walk using q1
        exact ⟨_, rfl, h⟩
    · wp_walk using q1
      exact ⟨_, rfl, h⟩
theorem call_enum1 {prog : Program} {w : World} {A : Around} {E : Value → Shared → Prop} {s : Shared} {v : Value} {o : Obj} {H : Heap → Prop} {Q : Value → Shared → Prop} (B : Begins v o H) (h1 : H s.heap)
    (h : ∀ h', IsEnum h' (s.heap.objs.size + 1) s.heap.objs.size 0 .none → h'.get? s.heap.objs.size = some o → h'.objs.size = s.heap.objs.size + 2 →
      (∀ b o, s.heap.get? b = some o → h'.get? b = some o) → Q (.ref (s.heap.objs.size + 1)) { s with heap := h' }) :
    wpAny (model prog w) A (call (.type "enumerate") [v]) Q E s := by
  refine callType_new F.called_enumerate (by decide) (F.typeCall_enumerate_1 _) (F.newCall_enumerate_1 _) (fun obj => F.args_object_init_2 obj _) F.entry_enumerate_new
    (meets_enum1 B) ⟨h1, ?_⟩
  have hz : (s.heap.push o).objs.size = s.heap.objs.size + 1 := Heap.size_push ..
  show _ ∧ _
  rw [hz]
  have he : IsEnum ((s.heap.push o).push { cls := .type "enumerate", data := .fields #[.none, .bool false, .ref s.heap.objs.size, rawInt 0, .none, .none] }) (s.heap.objs.size + 1) s.heap.objs.size 0 .none := by
    have := Heap.get?_push_size (s.heap.push o) (o := { cls := .type "enumerate", data := .fields #[.none, .bool false, .ref s.heap.objs.size, rawInt 0, .none, .none] }) rfl
    rw [hz] at this; exact this
  refine ⟨⟨_, he, rfl⟩, h _ he (Heap.get?_push_of_some _ (Heap.get?_push_size _ B.free)) (by rw [Heap.size_push, hz]) fun b o x => Heap.get?_push_of_some _ (Heap.get?_push_of_some _ x)⟩

/-- the tuple at a, each item in a new pair -/
def IteT (K : PySem.W.Frag) (a : Addr) : L2.It :=
  ⟨fun i H => ∃ (xs : List V) (x : V), SqT K H a xs ∧ xs[i]? = some x, fun i H v H' => ∃ T x, v = .ref T ∧ H T = none ∧ H' = upd H T (.tup [.int (i : Nat), x]) ∧ ∀ xs, SqT K H a xs → xs[i]? = some x, fun i H => ∃ xs : List V, SqT K H a xs ∧ xs.length = i⟩
theorem turn_enumT {P : Program} {w : World} {K : PySem.W.Frag} {elts : List Expr} {kk : Nat} {tpos : Pos} (a e it : Addr) :
    Turn P w K (.Tuple elts kk tpos) (IteT K a) [e, it] e (fun i h => (∃ old, IsEnum h e it ((i : Nat) : Int) old) ∧ h.IsTupleIter it a i ∧ e ≠ it ∧ e ≠ a ∧ a ≠ it) where
  mem := by simp
  obj := fun i h st b hb => by
    obtain ⟨⟨old, he⟩, ⟨o, ho, hc, hd⟩, _⟩ := st
    have e' : b = e ∨ b = it := by simpa using hb
    rcases e' with z | z
    · rw [z]; exact ⟨_, he, fun v q => nomatch q⟩
    · rw [z]; exact ⟨o, ho, fun v q => by rw [hd] at q; cases q⟩
  keep := fun i h h' st k => let ⟨⟨old, he⟩, hi, hne⟩ := st; ⟨⟨old, k e (by simp) _ he⟩, hi.at fun o q => k it (by simp) o q, hne⟩
  item := by
    intro X hP hw hK hc i pins s σ H E I hf st hg
    subst hP hw hK
    obtain ⟨⟨old, he⟩, hit, hne, hea, hai⟩ := st
    obtain ⟨xs, x, hq, hx⟩ := hg
    obtain ⟨its, rv, p, hz⟩ := I.tuple hq
    obtain ⟨u, hu, ru⟩ := rv.get hx
    have hel : e < s.heap.objs.size := Heap.lt_size he
    have hil : it < s.heap.objs.size := by obtain ⟨_, q, _⟩ := hit; exact Heap.lt_size q
    have D := Draws.tuple (prog := X.prog) (w := X.w) (A := X.A.in1) (I.ok.hd hc) it a hai its.toArray
    have hlt : i < its.toArray.size := by
      have := (List.getElem?_eq_some_iff.mp hu).1
      simpa using this
    refine wpAny_pyNext_enum_itemD D he ⟨hit, (show s.heap.IsTuple a its.toArray from p)⟩ hlt hne (by simp [hne, hea]) fun y h' tk hy ho hst' hT hsz hk => ?_
    obtain ⟨hit', _⟩ := hst'
    have ey : y = u := by
      have e1 : its.toArray[i]? = some u := by simpa using hu
      rw [e1] at hy; exact (Option.some.inj hy).symm
    subst ey
    refine ⟨_, rfl, wpAny_letOwnedTupleGo_enum (s := { s with heap := h', toks := tk + 1 }) ho fun h'' he' sb => ?_⟩
    have hT2 : h''.get? s.heap.objs.size = some { cls := .type "tuple", data := .seq #[.int i tk, y] } := (sb.2 _ (Nat.ne_of_gt hel)).trans hT
    have new : ObjOk X.prog X.w (upd H s.heap.objs.size (.tup [.int (i : Nat), x])) h'' s.heap.objs.size (.tup [.int (i : Nat), x]) :=
      ⟨by show 2 ≤ sizeLine; decide, [.int i tk, y], .cons ⟨_, rfl⟩ (.cons ru .nil), ⟨_, hT2, rfl, _, rfl⟩⟩
    have I1 : L2.Inv X pins σ (upd H s.heap.objs.size (.tup [.int (i : Nat), x])) { s with heap := h'', toks := tk + 1 } :=
      I.turnedNew (ch := [e, it]) (fun b ob hb q => (sb.2 b (fun z => hb (by simp [z]))).trans (hk b ob (fun z => hb (by simp [z])) (fun z => hb (by simp [z])) q)) hf (Nat.le_refl _) new
    refine ⟨.ref s.heap.objs.size, _, I1, rfl, ⟨_, x, rfl, I.hok.fresh (Nat.le_refl _), rfl, fun ys hy => by rw [I.tuple_inj hy hq]; exact hx⟩, ⟨⟨y, ?_⟩, hit'.at fun o q => (sb.2 it (Ne.symm hne)).trans q, hne, hea, hai⟩, fun b hb => ?_⟩
    · have e1 : ((i + 1 : Nat) : Int) = (i : Int) + 1 := by omega
      rw [e1]; exact he'
    · have hb' : b < s.heap.objs.size := by
        have e' : b = e ∨ b = it := by simpa using hb
        rcases e' with z | z
        · rw [z]; exact hel
        · rw [z]; exact hil
      rw [upd_ne (Nat.ne_of_lt hb')]
      exact (hf b hb).1
  done := by
    intro X hP hw hK hc i pins s σ H E I hf st hg
    subst hP hw hK
    obtain ⟨⟨old, he⟩, hit, hne, hea, hai⟩ := st
    obtain ⟨xs, hq, hx⟩ := hg
    obtain ⟨its, rv, p, hz⟩ := I.tuple hq
    obtain ⟨f0, f1, f2, f3, f4, f5⟩ := hf it (by simp)
    have hl := rv.length
    have D := Draws.tuple (prog := X.prog) (w := X.w) (A := X.A.in1) (I.ok.hd hc) it a hai its.toArray
    have ei : i = its.toArray.size := by simp; omega
    subst ei
    exact wpAny_pyNext_enum_endD D he ⟨hit, (show s.heap.IsTuple a its.toArray from p)⟩ fun h' eb => ⟨rfl, I.turned (t' := s.toks) (fun b o hb q => eb b o hb q) f0 f1 f3 f4 f5⟩
  self := fun A i s Q E st h => let ⟨⟨_, he⟩, _⟩ := st; wpAny_pyIter_enum he h
def iEnum2 (K : PySem.W.Frag) (ta : TA) : TI := fun σ H R => ta σ H fun vs H1 => ∃ a xs, vs = [.ref a] ∧ ((SqL K H1 a xs ∧ R (Ite K a) H1) ∨ (SqT K H1 a xs ∧ R (IteT K a) H1))
theorem pi_enum2 {X : Cx} {e : Expr} {ta : TA} {p pos tpos : Pos} {elts : List Expr} {kk : Nat} (hg : Gl X "enumerate") (hm : X.mg "enumerate" = none) (ha : PA X [e] ta) (hs : starEach [e] X.env = [(false, eval e X.env)] := by rfl) :
    PI X (.Tuple elts kk tpos) (.Call (.Name "enumerate" p) [e] [] pos) (iEnum2 X.K ta) := by
  refine ⟨fun pins s σ H R I h => ?_⟩
  refine Call_ (ld_blt I hg hm boot_enumerate (PyProof.Rows.callWith_type1 (thn (ha.run pos pins s σ H _ I h) fun us s1 ⟨vs, H1, I1, r1, q1⟩ => ?_) hs rfl))
  obtain ⟨a, xs, ex, q1⟩ := q1
  subst ex
  cases r1 with
  | cons r rr =>
    cases rr
    cases r
    have fr : ∀ b ∈ [s1.heap.objs.size + 1, s1.heap.objs.size], FpOk X pins H1 b := fun b hb => by
      have e' : b = s1.heap.objs.size + 1 ∨ b = s1.heap.objs.size := by simpa using hb
      have hle : s1.heap.objs.size ≤ b := by
        rcases e' with z | z
        · rw [z]; exact Nat.le_add_right _ _
        · rw [z]; exact Nat.le_refl _
      exact I1.fpOk hle (I1.hok.fresh hle)
    rcases q1 with ⟨hq, q⟩ | ⟨hq, q⟩
    · obtain ⟨its, rv, p', hz⟩ := I1.list hq
      refine call_enumerate_list p'.isList fun h' he hit hsz hk => wpAny_pyIter_enum he ?_
      have I2 : L2.Inv X pins σ H1 { s1 with heap := h' } := I1.kept (t' := s1.toks) hk
      exact ⟨s1.heap.objs.size + 1, [s1.heap.objs.size + 1, s1.heap.objs.size], _, _, H1, rfl, I2, turn_enum a (s1.heap.objs.size + 1) s1.heap.objs.size, ⟨⟨.none, he⟩, hit, Nat.succ_ne_self _⟩, fr, q⟩
    · obtain ⟨its, rv, p', hz⟩ := I1.tuple hq
      have pt : s1.heap.IsTuple a its.toArray := p'
      have hlt : a < s1.heap.objs.size := by obtain ⟨o, ho, _⟩ := pt; exact Heap.lt_size ho
      refine call_enum1 (begins_tuple a its.toArray) pt fun h' he hit hsz hk => wpAny_pyIter_enum he ?_
      have I2 : L2.Inv X pins σ H1 { s1 with heap := h' } := I1.kept (t' := s1.toks) hk
      exact ⟨s1.heap.objs.size + 1, [s1.heap.objs.size + 1, s1.heap.objs.size], _, _, H1, rfl, I2, turn_enumT a (s1.heap.objs.size + 1) s1.heap.objs.size, ⟨⟨.none, he⟩, ⟨_, hit, rfl, rfl⟩, Nat.succ_ne_self _, Nat.ne_of_gt (Nat.lt_succ_of_lt hlt), Nat.ne_of_lt hlt⟩, fr, q⟩
end TL

set_option Elab.async false
set_option linter.all false
set_option maxRecDepth 100000
set_option maxHeartbeats 4000000
/-! What a for walks. -/
namespace TL
open PySem PySem.Spec PyProof.Rows L2

theorem _root_.L2.PI.imp {X : Cx} {tg e : Expr} {t t' : TI} (h : PI X tg e t) (i : ∀ σ H R, t' σ H R → t σ H R) : PI X tg e t' := ⟨fun pins s σ H R I q => h.run pins s σ H R I (i σ H R q)⟩
structure WalkD (W : Wd) (t0 : Sta) (J : L2.It) (src : Src) : Prop where
  goes : ∀ i t d, Ext t0 t → Good W t → src.g t.M → src.xs[i]? = some d → J.go i t.H
  stops : ∀ t, Ext t0 t → Good W t → src.g t.M → J.stop src.xs.length t.H
  yields : ∀ i t x H' d, Ext t0 t → Good W t → src.g t.M → src.xs[i]? = some d → J.yld i t.H x H' → ∃ t', t'.H = H' ∧ Ext t t' ∧ t'.M = t.M ∧ Good W t' ∧ Rep W t' d x
def tI (W : Wd) (B : Bnd) (p : XD → En → Mm → (Src → Mm → Prop) → Prop) : TI := fun σ H R => ∃ (env : En) (t : Sta) (Qp : Src → Mm → Prop), t.H = H ∧ Ext B.t0 t ∧ Good W t ∧ REnv W t env σ ∧ p (B.ex env) env t.M Qp ∧
  ∀ src t' J, Ext t t' → Good W t' → Qp src t'.M → WalkD W t' J src → R J t'.H
section
variable {W : Wd} {k : Nat} {B : Bnd} {X : Cx} {a b tg : Expr} {pos p : Pos} {pw pw2 : Wp}
/-- the sequence at hand stays -/
theorem seq_stays {t0 : Sta} {d : D} {xs : List D} {v : V} (g0 : Good W t0) (rd : Rep W t0 d v) (e : seqOf t0.M d = some xs) :
    ∃ (a : Addr) (vs : List V), v = .ref a ∧ vs.length = xs.length ∧ ((∃ ys, d = .tup ys) ∧ (∀ t, Ext t0 t → Good W t → SqT W.K t.H a vs ∧ Reps W t xs vs) ∨ (lstOf t0.M d = some xs ∧ SqL W.K t0.H a vs ∧ ∀ t, Ext t0 t → Good W t → grd d xs t.M → ∃ vs', SqL W.K t.H a vs' ∧ Reps W t xs vs')) := by
  cases d with
  | tup ys =>
    cases e
    obtain ⟨a, vs, rfl, h1, h2, h3⟩ := tupAt rd
    refine ⟨a, vs, rfl, h3.length, .inl ⟨⟨_, rfl⟩, fun t ex g => ?_⟩⟩
    have f := ex.fst g0
    simp only [Rep] at rd
    obtain ⟨a', vs', ea, hs, hl, hr⟩ := rd
    cases ea
    refine ⟨?_, h3.ext f⟩
    rcases h1 with h1 | h1
    · rcases hs with ⟨hF, hs⟩ | hs
      · exact .inl (Rd.ext f hF h1).2
      · rcases h1 with h1 | ⟨o, h1⟩
        · -- a known tuple that is tracked too: the known one
          exact (show SqT W.K t.H a vs from by
            have hk : t0.M a = none := by
              cases em : t0.M a with
              | none => rfl
              | some o =>
                have := g0.at_ a o em
                cases o with
                | lst ys => obtain ⟨_, q, _⟩ := this; rw [h1] at q; cases q
                | dct ys => obtain ⟨_, q, _⟩ := this; rw [h1] at q; cases q
                | ins c ys => obtain ⟨_, _, _, q, _⟩ := this; rw [h1] at q; cases q
                | tab _ => obtain ⟨_, _, q, _⟩ := this; rw [h1] at q; cases q
            exact .inl (.inl (ex.keep a _ h1 hk).1))
        · exact (show SqT W.K t.H a vs from by
            have hk : t0.M a = none := by
              cases em : t0.M a with
              | none => rfl
              | some o =>
                have := g0.at_ a o em
                cases o with
                | lst ys => obtain ⟨_, q, _⟩ := this; rw [h1] at q; cases q
                | dct ys => obtain ⟨_, q, _⟩ := this; rw [h1] at q; cases q
                | ins c ys => obtain ⟨_, _, _, q, _⟩ := this; rw [h1] at q; cases q
                | tab _ => obtain ⟨_, _, q, _⟩ := this; rw [h1] at q; cases q
            exact .inl (.inr ⟨o, (ex.keep a _ h1 hk).1⟩))
    · exact .inr h1
  | lst ys =>
    cases e
    obtain ⟨a, vs, rfl, h1, h2, h3⟩ := lstAt rd
    refine ⟨a, vs, rfl, h3.length, .inr ⟨rfl, .of h1, fun t ex g _ => ?_⟩⟩
    simp only [Rep] at rd
    obtain ⟨a', vs', ea, hs, hl, hr⟩ := rd
    cases ea
    exact ⟨vs', .of ((ex.fst g0 a hs.1).2 _ hs.2), hr.ext (ex.fst g0)⟩
  | klst ys =>
    cases e
    simp only [Rep] at rd
    obtain ⟨a, vs, rfl, hs, hl, hr⟩ := rd
    have h0 : SqL W.K t0.H a vs := by
      rcases hs with ⟨_, q⟩ | ⟨o, its, n, z1, z2, z6, z3, z4, z5⟩
      · exact .inl q
      · exact .inr ⟨o, its, n, z1, z2, z6 rfl, z3, z4, z5⟩
    refine ⟨a, vs, rfl, hr.length, .inr ⟨rfl, h0, fun t ex g _ => ?_⟩⟩
    refine ⟨vs, ?_, hr.ext (ex.fst g0)⟩
    rcases hs with ⟨hF, q⟩ | ⟨o, its, n, z1, z2, z6, z3, z4, z5⟩
    · exact .inl (Rd.ext (ex.fst g0) hF q).2
    · exact .inr ⟨o, its, n, z1, z2, z6 rfl, z3, z4, z5⟩
  | ref q =>
    have := repR rd; subst this
    have e' : (match t0.M q with | some (.lst xs) => some xs | _ => none) = some xs := e
    split at e'
    · rename_i ys em
      cases e'
      obtain ⟨vs, h1, h2, h3⟩ := g0.at_ q _ em
      refine ⟨q, vs, rfl, h3.length, .inr ⟨e, .of h1, fun t ex g hg => ?_⟩⟩
      have hg' : t.M q = some (.lst xs) := hg
      obtain ⟨vs', h1', _, h3'⟩ := g.at_ q _ hg'
      exact ⟨vs', .of h1', h3'⟩
    · cases e'
  | _ => cases e
theorem walk_l {t0 : Sta} {xs : List D} {a : Addr} {gd : Mm → Prop} (h : ∀ t, Ext t0 t → Good W t → gd t.M → ∃ vs', SqL W.K t.H a vs' ∧ Reps W t xs vs') : WalkD W t0 (Itl W.K a) ⟨gd, xs⟩ where
  goes := fun i t d e g hg hd => by
    obtain ⟨vs, h1, h2⟩ := h t e g hg
    obtain ⟨v, hv, _⟩ := h2.get hd
    exact ⟨vs, v, h1, hv⟩
  stops := fun t e g hg => by
    obtain ⟨vs, h1, h2⟩ := h t e g hg
    exact ⟨vs, h1, by rw [h2.length]; exact Nat.le_refl _⟩
  yields := fun i t x H' d e g hg hd y => by
    obtain ⟨vs, h1, h2⟩ := h t e g hg
    obtain ⟨y1, y2⟩ := y
    obtain ⟨v, hv, rv⟩ := h2.get hd
    have := y2 vs h1
    rw [hv] at this; cases this
    exact ⟨t, y1.symm, Ext.refl, rfl, g, rv⟩
theorem walk_t {t0 : Sta} {xs : List D} {a : Addr} {vs : List V} {gd : Mm → Prop} (h : ∀ t, Ext t0 t → Good W t → SqT W.K t.H a vs ∧ Reps W t xs vs) : WalkD W t0 (Itt W.K a) ⟨gd, xs⟩ where
  goes := fun i t d e g hg hd => by
    obtain ⟨h1, h2⟩ := h t e g
    obtain ⟨v, hv, _⟩ := h2.get hd
    exact ⟨vs, v, h1, hv⟩
  stops := fun t e g hg => by
    obtain ⟨h1, h2⟩ := h t e g
    exact ⟨vs, h1, by rw [h2.length]; exact Nat.le_refl _⟩
  yields := fun i t x H' d e g hg hd y => by
    obtain ⟨h1, h2⟩ := h t e g
    obtain ⟨y1, y2⟩ := y
    obtain ⟨v, hv, rv⟩ := h2.get hd
    have := y2 vs h1
    rw [hv] at this; cases this
    exact ⟨t, y1.symm, Ext.refl, rfl, g, rv⟩
theorem walk_s {t0 : Sta} {z : Str} : WalkD W t0 (Its z) ⟨fun _ => True, z.cps.toList.map fun c => .str ⟨#[c]⟩⟩ where
  goes := fun i t d e g hg hd => by
    have : i < (z.cps.toList.map fun c => D.str ⟨#[c]⟩).length := (List.getElem?_eq_some_iff.mp hd).1
    show i < z.cps.size
    simpa using this
  stops := fun t e g hg => by show z.cps.size ≤ _; simp
  yields := fun i t x H' d e g hg hd y => by
    obtain ⟨y1, c, y2, y3⟩ := y
    refine ⟨t, y1.symm, Ext.refl, rfl, g, ?_⟩
    have hd' : (z.cps.toList.map fun c => D.str ⟨#[c]⟩)[i]? = some d := hd
    rw [List.getElem?_map, Array.getElem?_toList, y2] at hd'
    cases hd'
    subst y3
    simp only [Rep]
    exact ⟨trivial, by show 1 ≤ sizeLine; decide⟩
theorem walk_r {t0 : Sta} {lo : Int} {n : Nat} : WalkD W t0 (Itr lo n) ⟨fun _ => True, rangeD lo n⟩ where
  goes := fun i t d e g hg hd => by
    have : i < (rangeD lo n).length := (List.getElem?_eq_some_iff.mp hd).1
    rwa [rangeD_length] at this
  stops := fun t e g hg => by show n ≤ _; rw [rangeD_length]; exact Nat.le_refl _
  yields := fun i t x H' d e g hg hd y => by
    obtain ⟨y1, y2⟩ := y
    refine ⟨t, y1.symm, Ext.refl, rfl, g, ?_⟩
    obtain ⟨v, hv, rv⟩ := (rangeD_rep (W := W) (t := t) n lo).get hd
    have hi : i < n := by
      have : i < (rangeD lo n).length := (List.getElem?_eq_some_iff.mp hd).1
      rwa [rangeD_length] at this
    rw [List.getElem?_map, List.getElem?_range hi] at hv
    cases hv
    rw [y2]; exact rv
def noSet : Expr → Bool
  | .Set _ _ _ => false
  | _ => true
theorem noSet_ok {e : Expr} {env : Env} (h : noSet e = true) : ∀ x, foldedSetIterable e env x = pure x := fun x => by
  cases e <;> first | rfl | cases h
theorem itK_inv {M : Mm} {d : D} {kk : Src → Prop} (h : itK M d kk) : (∃ z, d = .str z ∧ kk ⟨fun _ => True, z.cps.toList.map fun c => .str ⟨#[c]⟩⟩) ∨ ∃ xs, seqOf M d = some xs ∧ kk ⟨grd d xs, xs⟩ := by
  unfold itK at h
  split at h
  · exact .inl ⟨_, rfl, h⟩
  · obtain ⟨xs, e, h⟩ := someK_inv h
    exact .inr ⟨xs, e, h⟩
theorem i_seq (c : COk W k X) (ha : PE X a (tE W B pw)) : PI X tg a (tI W B fun x env M Q => pw x env M fun d M1 => itK M1 d fun src => Q src M1) := by
  refine ⟨fun pins s σ H R I ⟨env, t, Qp, hH, he, g, re, h, l⟩ => ?_⟩
  subst hH
  refine thn (ha.run pins s σ t.H _ I (tE_bind (Q := fun v H1 => ∃ (d : D) (t1 : Sta), t1.H = H1 ∧ Ext t t1 ∧ Good W t1 ∧ Rep W t1 d v ∧ itK t1.M d fun src => Qp src t1.M) rfl he g re h fun d v t1 e1 he1 g1 r1 rd h1 => ⟨d, t1, rfl, e1, g1, rd, h1⟩)) fun v s1 ⟨x, H1, I1, rx, d, t1, e0, e1, g1, rd, h1⟩ => ?_
  subst e0
  have hK := c.K
  have fresh : ∀ b ∈ [s1.heap.objs.size], FpOk X pins t1.H b := fun b hb => by
    have e : b = s1.heap.objs.size := by simpa using hb
    subst e
    exact I1.fpOk (Nat.le_refl _) (I1.hok.fresh (Nat.le_refl _))
  have sq : ∀ xs, seqOf t1.M d = some xs → Qp ⟨grd d xs, xs⟩ t1.M → wpAny (model X.prog X.w) X.A (pyIter v) (PIE X pins σ tg R) X.xe s1 := fun xs ex hq => by
    obtain ⟨q, vs, rfl, hlen, hcase⟩ := seq_stays g1 rd ex
    cases rx
    rcases hcase with ⟨⟨ys, rfl⟩, hst⟩ | ⟨el, b0, hst⟩
    · have b1 := (hst t1 Ext.refl g1).1
      rw [← hK] at b1
      obtain ⟨its, rv, p, hz⟩ := I1.tuple b1
      refine wpAny_pyIter_tuple (show s1.heap.IsTuple q its.toArray from p) ?_
      refine ⟨s1.heap.objs.size, [s1.heap.objs.size], _, Itt X.K q, t1.H, rfl, I1.kept (t' := s1.toks) fun b o e => Heap.get?_push_of_some _ e, turn_tuple q _, ⟨_, Heap.get?_push_size _ rfl, rfl, rfl⟩, fresh, ?_⟩
      rw [hK]
      exact l _ t1 _ e1 g1 hq (walk_t (gd := grd (.tup ys) xs) hst)
    · rw [← hK] at b0
      obtain ⟨its, rv, p, hz⟩ := I1.list b0
      refine wpAny_pyIter_list p.isList ?_
      refine ⟨s1.heap.objs.size, [s1.heap.objs.size], _, Itl X.K q, t1.H, rfl, I1.kept (t' := s1.toks) fun b o e => Heap.get?_push_of_some _ e, turn_list q _, ⟨_, Heap.get?_push_size _ rfl, rfl, rfl⟩, fresh, ?_⟩
      rw [hK]
      exact l _ t1 _ e1 g1 hq (walk_l hst)
  rcases itK_inv h1 with ⟨z, rfl, hq⟩ | ⟨xs, ex, hq⟩
  · obtain ⟨rfl, hz⟩ := repS rd
    obtain ⟨tk, rfl⟩ := rx
    have q : R (Its z) t1.H := l _ t1 _ e1 g1 hq walk_s
    cases ha : z.cps.all (· < 128)
    · exact wpAny_pyIter_wide ha (pi_one (tk := s1.toks) I1 _ (turn_str _ z tk "str_iterator" (.inr rfl)) ⟨_, Heap.get?_push_size _ rfl, rfl, rfl⟩ q)
    · exact wpAny_pyIter_ascii ha (pi_one (tk := s1.toks) I1 _ (turn_str _ z tk "str_ascii_iterator" (.inl rfl)) ⟨_, Heap.get?_push_size _ rfl, rfl, rfl⟩ q)
  · exact sq xs ex hq
theorem i_rng1 (c : COk W k X) (hg : Gl X "range") (hm : W.mg "range" = none) (hn : nost a = true) (ha : PE X a (tE W B pw)) :
    PI X tg (.Call (.Name "range" p) [a] [] pos) (tI W B fun x env M Q => pw x env M fun u M1 => u.asI fun n => -(2 ^ 62) ≤ n ∧ n < 2 ^ 62 ∧ Q ⟨fun _ => True, rangeD 0 n.toNat⟩ M1) := by
  rw [← c.mg] at hm
  refine (pi_range1 hg hm (pa_cons ha pa_nil (star_cons hn)) (star_cons hn)).imp fun σ H R ⟨env, t, Qp, hH, he, g, re, h, l⟩ => ?_
  subst hH
  refine tE_bind rfl he g re h fun d v t1 e1 he1 g1 r1 rd h1 => ?_
  obtain ⟨n, rfl, h2, h3, h4⟩ := D.asI_inv h1
  have := repI rd; subst this
  exact ⟨n, rfl, h2, h3, l _ t1 _ e1 g1 h4 walk_r⟩
theorem i_rng2 (c : COk W k X) (hg : Gl X "range") (hm : W.mg "range" = none) (hn : nost a = true) (hn2 : nost b = true) (ha : PE X a (tE W B pw)) (hb : PE X b (tE W B pw2)) :
    PI X tg (.Call (.Name "range" p) [a, b] [] pos) (tI W B fun x env M Q => pw x env M fun u M1 => pw2 x env M1 fun v M2 => u.asI fun l => v.asI fun h => -(2 ^ 62) ≤ l ∧ l < 2 ^ 62 ∧ -(2 ^ 62) ≤ h ∧ h < 2 ^ 62 ∧ Q ⟨fun _ => True, rangeD l (h - l).toNat⟩ M2) := by
  rw [← c.mg] at hm
  refine (pi_range2 hg hm (pa_cons ha (pa_cons hb pa_nil (star_cons hn2)) (star_cons hn)) (by rw [star_cons hn, star_cons hn2]; rfl) (star_cons hn2)).imp fun σ H R ⟨env, t, Qp, hH, he, g, re, h, l⟩ => ?_
  subst hH
  refine tE_bind rfl he g re h fun d v t1 e1 he1 g1 r1 rd h1 => tE_bind rfl he1 g1 r1 h1 fun d2 v2 t2 e2 he2 g2 r2 rd2 h2 => ?_
  obtain ⟨i, rfl, h3⟩ := D.asI_inv h2
  obtain ⟨j, rfl, z1, z2, z3, z4, h4⟩ := D.asI_inv h3
  have := repI rd; subst this
  have := repI rd2; subst this
  exact ⟨i, j, rfl, ⟨z1, z2, z3, z4⟩, l _ t2 _ (e1.trans e2) g2 h4 walk_r⟩
/-- a new pair -/
theorem pair_new {t : Sta} {T : Addr} {dx dy : D} {x y : V} (g : Good W t) (n : t.H T = none) (rx : Rep W t dx x) (ry : Rep W t dy y) : ∃ t', t'.H = upd t.H T (.tup [x, y]) ∧ Ext t t' ∧ t'.M = t.M ∧ Good W t' ∧ Rep W t' (.tup [dx, dy]) (.ref T) :=
  ⟨t.add T (.tup [x, y]), rfl, Ext.add n, rfl, g.add n, Rep.newTup n (by show 2 ≤ sizeLine; decide) (Reps.cons rx (Reps.one ry))⟩
theorem enumD_get : ∀ {xs : List D} {n i : Nat} {d : D}, (enumD n xs)[i]? = some d → ∃ y, xs[i]? = some y ∧ d = .tup [.int ((n + i : Nat) : Int), y]
  | [], n, i, d, h => by unfold enumD at h; simp at h
  | x :: xs, n, 0, d, h => by unfold enumD at h; simp at h; exact ⟨x, rfl, h.symm⟩
  | x :: xs, n, i + 1, d, h => by
    unfold enumD at h
    obtain ⟨y, h1, h2⟩ := enumD_get (xs := xs) (n := n + 1) (i := i) (by simpa using h)
    exact ⟨y, by simpa using h1, by rw [h2, show n + 1 + i = n + (i + 1) from by omega]⟩
theorem enumD_length : ∀ (xs : List D) (n : Nat), (enumD n xs).length = xs.length
  | [], _ => rfl
  | x :: xs, n => by unfold enumD; rw [List.length_cons, List.length_cons, enumD_length xs]
theorem walk_e {t0 : Sta} {xs : List D} {a : Addr} {gd : Mm → Prop} (h : ∀ t, Ext t0 t → Good W t → gd t.M → ∃ vs', SqL W.K t.H a vs' ∧ Reps W t xs vs') : WalkD W t0 (Ite W.K a) ⟨gd, enumD 0 xs⟩ where
  goes := fun i t d e g hg hd => by
    obtain ⟨vs, h1, h2⟩ := h t e g hg
    obtain ⟨y, hy, _⟩ := enumD_get hd
    obtain ⟨v, hv, _⟩ := h2.get hy
    exact ⟨vs, v, h1, hv⟩
  stops := fun t e g hg => by
    obtain ⟨vs, h1, h2⟩ := h t e g hg
    exact ⟨vs, h1, by show _ ≤ (enumD 0 xs).length; rw [enumD_length, h2.length]; exact Nat.le_refl _⟩
  yields := fun i t x H' d e g hg hd y => by
    obtain ⟨vs, h1, h2⟩ := h t e g hg
    obtain ⟨T, x', rfl, hT, rfl, hx⟩ := y
    obtain ⟨y, hy, rfl⟩ := enumD_get hd
    obtain ⟨v, hv, rv⟩ := h2.get hy
    have := hx vs h1
    rw [hv] at this; cases this
    have e0 : ((0 + i : Nat) : Int) = (i : Nat) := by congr 1; omega
    rw [e0]
    exact pair_new g hT (by simp only [Rep]) rv
theorem zipD_get : ∀ {xs ys : List D} {i : Nat} {d : D}, (zipD xs ys)[i]? = some d → ∃ x y, xs[i]? = some x ∧ ys[i]? = some y ∧ d = .tup [x, y]
  | [], ys, i, d, h => by unfold zipD at h; simp at h
  | x :: xs, [], i, d, h => by unfold zipD at h; simp at h
  | x :: xs, y :: ys, 0, d, h => by unfold zipD at h; simp at h; exact ⟨x, y, rfl, rfl, h.symm⟩
  | x :: xs, y :: ys, i + 1, d, h => by
    unfold zipD at h
    obtain ⟨a, b, h1, h2, h3⟩ := zipD_get (xs := xs) (ys := ys) (i := i) (by simpa using h)
    exact ⟨a, b, by simpa using h1, by simpa using h2, h3⟩
theorem zipD_length : ∀ (xs ys : List D), (zipD xs ys).length = min xs.length ys.length
  | [], ys => by unfold zipD; simp
  | x :: xs, [] => by unfold zipD; simp
  | x :: xs, y :: ys => by unfold zipD; rw [List.length_cons, List.length_cons, List.length_cons, zipD_length xs ys]; omega
theorem walk_z {t0 : Sta} {xs ys : List D} {a b : Addr} {gd gd2 : Mm → Prop} (h : ∀ t, Ext t0 t → Good W t → gd t.M → ∃ vs', SqL W.K t.H a vs' ∧ Reps W t xs vs') (h' : ∀ t, Ext t0 t → Good W t → gd2 t.M → ∃ vs', SqL W.K t.H b vs' ∧ Reps W t ys vs') :
    WalkD W t0 (Itz W.K a b) ⟨fun M => gd M ∧ gd2 M, zipD xs ys⟩ where
  goes := fun i t d e g hg hd => by
    obtain ⟨vs, h1, h2⟩ := h t e g hg.1
    obtain ⟨us, h3, h4⟩ := h' t e g hg.2
    obtain ⟨x, y, hx, hy, _⟩ := zipD_get hd
    obtain ⟨v, hv, _⟩ := h2.get hx
    obtain ⟨u, hu, _⟩ := h4.get hy
    exact ⟨vs, us, v, u, h1, h3, hv, hu⟩
  stops := fun t e g hg => by
    obtain ⟨vs, h1, h2⟩ := h t e g hg.1
    obtain ⟨us, h3, h4⟩ := h' t e g hg.2
    refine ⟨vs, us, h1, h3, ?_⟩
    have e1 := h2.length
    have e2 := h4.length
    show vs.length ≤ (zipD xs ys).length ∨ us.length ≤ (zipD xs ys).length
    rw [zipD_length]; omega
  yields := fun i t x H' d e g hg hd y => by
    obtain ⟨vs, h1, h2⟩ := h t e g hg.1
    obtain ⟨us, h3, h4⟩ := h' t e g hg.2
    obtain ⟨T, x', y', rfl, hT, rfl, hx, hy⟩ := y
    obtain ⟨x, y, zx, zy, rfl⟩ := zipD_get hd
    obtain ⟨v, hv, rv⟩ := h2.get zx
    obtain ⟨u, hu, ru⟩ := h4.get zy
    have := hx vs h1
    rw [hv] at this; cases this
    have := hy us h3
    rw [hu] at this; cases this
    exact pair_new g hT rv ru
theorem walk_zt {t0 : Sta} {xs ys : List D} {a b : Addr} {vs us : List V} (h : ∀ t, Ext t0 t → Good W t → SqT W.K t.H a vs ∧ Reps W t xs vs) (h' : ∀ t, Ext t0 t → Good W t → SqT W.K t.H b us ∧ Reps W t ys us) :
    WalkD W t0 (RZ.ItzT W.K a b) ⟨fun _ => True, zipD xs ys⟩ where
  goes := fun i t d e g hg hd => by
    obtain ⟨h1, h2⟩ := h t e g
    obtain ⟨h3, h4⟩ := h' t e g
    obtain ⟨x, y, hx, hy, _⟩ := zipD_get hd
    obtain ⟨v, hv, _⟩ := h2.get hx
    obtain ⟨u, hu, _⟩ := h4.get hy
    exact ⟨vs, us, v, u, h1, h3, hv, hu⟩
  stops := fun t e g hg => by
    obtain ⟨h1, h2⟩ := h t e g
    obtain ⟨h3, h4⟩ := h' t e g
    refine ⟨vs, us, h1, h3, ?_⟩
    have e1 := h2.length
    have e2 := h4.length
    show vs.length ≤ (zipD xs ys).length ∨ us.length ≤ (zipD xs ys).length
    rw [zipD_length]; omega
  yields := fun i t x H' d e g hg hd y => by
    obtain ⟨h1, h2⟩ := h t e g
    obtain ⟨h3, h4⟩ := h' t e g
    obtain ⟨T, x', y', rfl, hT, rfl, hx, hy⟩ := y
    obtain ⟨x, y, zx, zy, rfl⟩ := zipD_get hd
    obtain ⟨v, hv, rv⟩ := h2.get zx
    obtain ⟨u, hu, ru⟩ := h4.get zy
    have := hx vs h1
    rw [hv] at this; cases this
    have := hy us h3
    rw [hu] at this; cases this
    exact pair_new g hT rv ru
theorem seq_of_lst {M : Mm} {d : D} {xs : List D} (e : lstOf M d = some xs) : seqOf M d = some xs := by
  cases d <;> first | exact e | cases e
theorem walk_eT {t0 : Sta} {xs : List D} {a : Addr} {vs : List V} {gd : Mm → Prop} (h : ∀ t, Ext t0 t → Good W t → SqT W.K t.H a vs ∧ Reps W t xs vs) : WalkD W t0 (IteT W.K a) ⟨gd, enumD 0 xs⟩ where
  goes := fun i t d e g hg hd => by
    obtain ⟨h1, h2⟩ := h t e g
    obtain ⟨y, hy, _⟩ := enumD_get hd
    obtain ⟨v, hv, _⟩ := h2.get hy
    exact ⟨vs, v, h1, hv⟩
  stops := fun t e g hg => by
    obtain ⟨h1, h2⟩ := h t e g
    exact ⟨vs, h1, by show _ = (enumD 0 xs).length; rw [enumD_length, h2.length]⟩
  yields := fun i t x H' d e g hg hd y => by
    obtain ⟨h1, h2⟩ := h t e g
    obtain ⟨T, x', rfl, hT, rfl, hx⟩ := y
    obtain ⟨y, hy, rfl⟩ := enumD_get hd
    obtain ⟨v, hv, rv⟩ := h2.get hy
    have := hx vs h1
    rw [hv] at this; cases this
    have e0 : ((0 + i : Nat) : Int) = (i : Nat) := by congr 1; omega
    rw [e0]
    exact pair_new g hT (by simp only [Rep]) rv
theorem i_enum {es : List Expr} {kk : Nat} {tp : Pos} (c : COk W k X) (hg : Gl X "enumerate") (hm : W.mg "enumerate" = none) (hn : nost a = true) (ha : PE X a (tE W B pw)) :
    PI X (.Tuple es kk tp) (.Call (.Name "enumerate" p) [a] [] pos) (tI W B fun x env M Q => pw x env M fun u M1 => someK (seqOf M1 u) fun xs => Q ⟨grd u xs, enumD 0 xs⟩ M1) := by
  rw [← c.mg] at hm
  refine (pi_enum2 hg hm (pa_cons ha pa_nil (star_cons hn)) (star_cons hn)).imp fun σ H R ⟨env, t, Qp, hH, he, g, re, h, l⟩ => ?_
  subst hH
  refine tE_bind rfl he g re h fun d v t1 e1 he1 g1 r1 rd h1 => ?_
  obtain ⟨xs, ex, h1⟩ := someK_inv h1
  obtain ⟨q, vs, rfl, hlen, hcase⟩ := seq_stays g1 rd ex
  rw [c.K]
  rcases hcase with ⟨⟨ys, rfl⟩, hst⟩ | ⟨el, b0, hst⟩
  · exact ⟨q, vs, rfl, .inr ⟨(hst t1 Ext.refl g1).1, l _ t1 _ e1 g1 h1 (walk_eT (gd := grd (.tup ys) xs) hst)⟩⟩
  · exact ⟨q, vs, rfl, .inl ⟨b0, l _ t1 _ e1 g1 h1 (walk_e hst)⟩⟩
theorem i_zip {es : List Expr} {kk : Nat} {tp : Pos} (c : COk W k X) (hg : Gl X "zip") (hm : W.mg "zip" = none) (hn : nost a = true) (hn2 : nost b = true) (ha : PE X a (tE W B pw)) (hb : PE X b (tE W B pw2)) :
    PI X (.Tuple es kk tp) (.Call (.Name "zip" p) [a, b] [] pos) (tI W B fun x env M Q => pw x env M fun u M1 => pw2 x env M1 fun v M2 => zipK M2 u v fun src => Q src M2) := by
  rw [← c.mg] at hm
  refine (RZ.pi_zipA hg hm (pa_cons ha (pa_cons hb pa_nil (star_cons hn2)) (star_cons hn)) (star_cons hn) (star_any (by simp [hn2]))).imp fun σ H R ⟨env, t, Qp, hH, he, g, re, h, l⟩ => ?_
  subst hH
  refine tE_bind rfl he g re h fun d v t1 e1 he1 g1 r1 rd h1 => tE_bind rfl he1 g1 r1 h1 fun d2 v2 t2 e2 he2 g2 r2 rd2 h2 => ?_
  have rd' := rd.ext (e2.fst g1)
  rw [c.K]
  have two : (someK (lstOf t2.M d) fun xs => someK (lstOf t2.M d2) fun ys => Qp ⟨fun M => grd d xs M ∧ grd d2 ys M, zipD xs ys⟩ t2.M) → ∃ a b xs ys, [v, v2] = [V.ref a, V.ref b] ∧ (SqL W.K t2.H a xs ∧ SqL W.K t2.H b ys ∧ R (Itz W.K a b) t2.H ∨ SqT W.K t2.H a xs ∧ SqT W.K t2.H b ys ∧ R (RZ.ItzT W.K a b) t2.H) := fun hz => by
    obtain ⟨xs, ex, hz⟩ := someK_inv hz
    obtain ⟨ys, ey, hz⟩ := someK_inv hz
    obtain ⟨q, vs, rfl, _, hc1⟩ := seq_stays g2 rd' (seq_of_lst ex)
    obtain ⟨q2, us, rfl, _, hc2⟩ := seq_stays g2 rd2 (seq_of_lst ey)
    rcases hc1 with ⟨⟨zs, rfl⟩, _⟩ | ⟨_, b0, hst⟩
    · cases ex
    · rcases hc2 with ⟨⟨zs, rfl⟩, _⟩ | ⟨_, b1, hst2⟩
      · cases ey
      · exact ⟨q, q2, vs, us, rfl, .inl ⟨b0, b1, l _ t2 _ (e1.trans e2) g2 hz (walk_z hst hst2)⟩⟩
  unfold zipK at h2
  split at h2
  · rename_i xs ys
    obtain ⟨q, vs, rfl, _, hc1⟩ := seq_stays g2 rd' (show seqOf t2.M (.tup xs) = some xs from rfl)
    obtain ⟨q2, us, rfl, _, hc2⟩ := seq_stays g2 rd2 (show seqOf t2.M (.tup ys) = some ys from rfl)
    rcases hc1 with ⟨_, hst⟩ | ⟨z, _⟩
    · rcases hc2 with ⟨_, hst2⟩ | ⟨z, _⟩
      · exact ⟨q, q2, vs, us, rfl, .inr ⟨(hst t2 Ext.refl g2).1, (hst2 t2 Ext.refl g2).1, l _ t2 _ (e1.trans e2) g2 h2 (walk_zt hst hst2)⟩⟩
      · cases z
    · cases z
  · exact two h2
end
end TL

set_option Elab.async false
set_option linter.all false
set_option maxRecDepth 100000
set_option maxHeartbeats 4000000
/-! list(zip(a, b)) of two lists. -/
namespace TL
open PySem PySem.Spec PyProof.Rows L2
/-- where the zip stands: nothing handed out yet, or the tuple T is still out -/
def ZipSt (h : Heap) (z TI TO : Addr) : Prop := (IsZip h z TI TO .none ∧ ∃ x y, IsPair h TO x y) ∨ (∃ T f oT, IsZipHeld h z TI TO T f ∧ h.get? T = some oT) ∧ ∃ o, h.get? TO = some o
theorem pyNext_zst_item {prog : Program} {w : World} {A : Around} {E : Value → Shared → Prop} {s : Shared} {z TI TO i1 i2 l1 l2 : Addr} {k1 k2 : Nat} {xs ys : Array Value} {x y : Value} {Q : Option Value → Shared → Prop} (D : ZipApart z TI TO i1 i2 l1 l2)
    (hz : ZipSt s.heap z TI TO) (hTI : IsPair s.heap TI (.ref i1) (.ref i2))
    (h1 : s.heap.IsListIter i1 l1 k1) (h2 : s.heap.IsListIter i2 l2 k2) (hl1 : s.heap.IsList l1 xs) (hl2 : s.heap.IsList l2 ys) (hx : xs[k1]? = some x) (hy : ys[k2]? = some y)
    (hQ : ∀ h', ZipSt h' z TI TO → h'.IsListIter i1 l1 (k1 + 1) → h'.IsListIter i2 l2 (k2 + 1) → IsPair h' s.heap.objs.size x y → h'.objs.size = s.heap.objs.size + 1 →
      (∀ c o, c ≠ z → c ≠ TO → c ≠ i1 → c ≠ i2 → s.heap.get? c = some o → h'.get? c = some o) → Q (some (.ref s.heap.objs.size)) { s with heap := h' }) :
    wpAny (model prog w) A (pyNext (.ref z)) Q E s := by
  rcases hz with ⟨hz, a, b, hTO⟩ | ⟨⟨T, f, oT, hz, hT⟩, oTO, hTO⟩
  · exact wpAny_pyNext_zip_item D hz hTI hTO h1 h2 hl1 hl2 hx hy fun h' a1 a2 a3 a4 a5 a6 a7 => hQ h' (.inr ⟨⟨_, false, _, a1, a5⟩, _, a2⟩) a3 a4 a5 a6 a7
  · refine wpAny_pyNext_zip_item_held D hz hT hTI h1 h2 hl1 hl2 hx hy fun h' a1 a3 a4 a5 a6 a7 => hQ h' (.inr ⟨⟨T, true, ?_⟩, _, a7 TO oTO D.TOz D.TOi1 D.TOi2 hTO⟩) a3 a4 a5 a6 fun c o c1 _ c3 c4 e => a7 c o c1 c3 c4 e
    obtain ⟨o1, g1, _⟩ := a3
    obtain ⟨o2, g2, _⟩ := a4
    by_cases e1 : T = z
    · exact ⟨_, a1, by rw [e1]; exact e1 ▸ a1⟩
    · by_cases e2 : T = i1
      · exact ⟨_, a1, e2 ▸ g1⟩
      · by_cases e3 : T = i2
        · exact ⟨_, a1, e3 ▸ g2⟩
        · exact ⟨_, a1, a7 T oT e1 e2 e3 hT⟩
theorem pyNext_zst_end {prog : Program} {w : World} {A : Around} {E : Value → Shared → Prop} {s : Shared} {z TI TO i1 i2 l1 l2 : Addr} {k1 k2 : Nat} {xs ys : Array Value} {Q : Option Value → Shared → Prop} (hh : A.handled = none) (D : ZipApart z TI TO i1 i2 l1 l2)
    (hz : ZipSt s.heap z TI TO) (hTI : IsPair s.heap TI (.ref i1) (.ref i2))
    (h1 : s.heap.IsListIter i1 l1 k1) (h2 : s.heap.IsListIter i2 l2 k2) (hl1 : s.heap.IsList l1 xs) (hl2 : s.heap.IsList l2 ys) (hend : xs[k1]? = none ∨ ys[k2]? = none)
    (hQ : ∀ h', (∀ c o, c ≠ z → c ≠ TO → c ≠ i1 → c ≠ i2 → s.heap.get? c = some o → h'.get? c = some o) → Q none { s with heap := h' }) : wpAny (model prog w) A (pyNext (.ref z)) Q E s := by
  rcases hz with ⟨hz, a, b, hTO⟩ | ⟨⟨T, f, oT, hz, hT⟩, _⟩
  · exact wpAny_pyNext_zip_end hh D hz hTI hTO h1 h2 hl1 hl2 hend hQ
  · exact wpAny_pyNext_zip_end_held hh D hz hT hTI h1 h2 hl1 hl2 hend fun h' k => hQ h' fun c o c1 _ c3 c4 e => k c o c1 c3 c4 e
theorem Heap.get_or {h h' : Heap} {T S : Addr} (k : ∀ b o, b ≠ S → h.get? b = some o → h'.get? b = some o) (hS : ∃ o, h'.get? S = some o) {o : Obj} (e : h.get? T = some o) : ∃ o, h'.get? T = some o := by
  by_cases q : T = S
  · subst q; exact hS
  · exact ⟨o, k T o q e⟩
theorem zl_loop {X : Cx} {A : Around} {pins : List (Addr × Obj)} {σ : L2.St} {R : Result → Shared → Prop} {z TI TO i1 i2 l1 l2 S : Addr} {xs ys : List V} {its its2 : Array Value} {G : Nat → List V → Hp → Prop} {n : Nat}
    (hc : A.handled = none) (D : ZipApart z TI TO i1 i2 l1 l2) (sz : S ≠ z) (sTI : S ≠ TI) (sTO : S ≠ TO) (si1 : S ≠ i1) (si2 : S ≠ i2) (sl1 : S ≠ l1) (sl2 : S ≠ l2) (hn : n = min its.size its2.size) (hnz : n ≤ sizeLine)
    (rx : Vals xs its.toList) (ry : Vals ys its2.toList)
    (step : ∀ i out H T x y, G i out H → H T = none → H S = some (.lst out) → out.length = i → i < n → xs[i]? = some x → ys[i]? = some y → G (i + 1) (out ++ [.ref T]) (upd (upd H T (.tup [x, y])) S (.lst (out ++ [.ref T]))))
    (fin : ∀ out H s, L2.Inv X pins σ H s → out.length = n → G n out H → H S = some (.lst out) → R (.ok (.ret .none)) s) :
    ∀ (k i : Nat) (s : Shared) (H : Hp) (out : List V), n - i = k → i ≤ n → L2.Inv X pins σ H s → (∀ b ∈ [z, TO, i1, i2], FpOk X pins H b) → out.length = i → H S = some (.lst out) → G i out H →
      ZipSt s.heap z TI TO → IsPair s.heap TI (.ref i1) (.ref i2) → s.heap.IsListIter i1 l1 i → s.heap.IsListIter i2 l2 i → s.heap.IsList l1 its → s.heap.IsList l2 its2 →
      codeAny (model X.prog X.w) A (.builtin "list.extend.loop" ⟨[.ref S, .ref z, .none], []⟩) R s := by
  intro k
  induction k with
  | zero =>
    intro i s H out hk hi I hf hlen hS hG hz hTI h1 h2 hl1 hl2
    have ei : i = n := by omega
    refine codeAny_builtin F.entry_extend_loop ?_
    rw [Around.under_plainId F.plain_extend_loop _]
    show wpAny _ A.in1 (pyNext (.ref z) >>= _) _ _ s
    refine wpAny_bind (pyNext_zst_end (A := A.in1) hc D hz hTI h1 h2 hl1 hl2 (by
      subst ei hn
      rcases Nat.le_total its.size its2.size with q | q
      · exact .inl (by rw [Array.getElem?_eq_none]; omega)
      · exact .inr (by rw [Array.getElem?_eq_none]; omega)) fun h' kp => ?_)
    have I1 : L2.Inv X pins σ H { s with heap := h' } := I.turnedL (t' := s.toks) (ch := [z, TO, i1, i2]) (fun c o hb q => kp c o (fun e => hb (by simp [e])) (fun e => hb (by simp [e])) (fun e => hb (by simp [e])) (fun e => hb (by simp [e])) q) hf
    subst ei
    exact wpAny_pure (fin out H _ I1 hlen hG hS)
  | succ k ih =>
    intro i s H out hk hi I hf hlen hS hG hz hTI h1 h2 hl1 hl2
    have hlt : i < n := by omega
    have a1 : i < its.size := by omega
    have a2 : i < its2.size := by omega
    have b1 : i < xs.length := by rw [rx.length, Array.length_toList]; exact a1
    have b2 : i < ys.length := by rw [ry.length, Array.length_toList]; exact a2
    obtain ⟨u, hu, ru⟩ := rx.get (List.getElem?_eq_getElem b1)
    obtain ⟨v, hv, rv⟩ := ry.get (List.getElem?_eq_getElem b2)
    refine codeAny_builtin F.entry_extend_loop ?_
    rw [Around.under_plainId F.plain_extend_loop _]
    show wpAny _ A.in1 (pyNext (.ref z) >>= _) _ _ s
    refine wpAny_bind (pyNext_zst_item D hz hTI h1 h2 hl1 hl2 (x := u) (y := v) (by simpa using hu) (by simpa using hv) fun h' hz' h1' h2' hT hsz kp => ?_)
    have hTn : H s.heap.objs.size = none := I.hok.fresh (Nat.le_refl _)
    have new : ObjOk X.prog X.w (upd H s.heap.objs.size (.tup [xs[i], ys[i]])) h' s.heap.objs.size (.tup [xs[i], ys[i]]) :=
      ⟨by show 2 ≤ sizeLine; decide, [u, v], .cons ru (.cons rv .nil), ⟨_, hT, rfl, _, rfl⟩⟩
    have I1 : L2.Inv X pins σ (upd H s.heap.objs.size (.tup [xs[i], ys[i]])) { s with heap := h' } :=
      I.turnedNew (t' := s.toks) (ch := [z, TO, i1, i2]) (fun c o hb q => kp c o (fun e => hb (by simp [e])) (fun e => hb (by simp [e])) (fun e => hb (by simp [e])) (fun e => hb (by simp [e])) q) hf (Nat.le_refl _) new
    have hSne : S ≠ s.heap.objs.size := fun e => by rw [e, hTn] at hS; cases hS
    have hS1 : upd H s.heap.objs.size (.tup [xs[i], ys[i]]) S = some (.lst out) := by rw [upd_ne hSne]; exact hS
    obtain ⟨_, itS, cS, rS, gS⟩ := I1.hok S _ hS1
    have lS : itS.toArray.size = i := by rw [List.size_toArray, ← rS.length, hlen]
    show wpAny _ A.in1 (updateSeq S (·.push (.ref s.heap.objs.size)) >>= _) _ _ _
    refine wpAny_bind ?_
    have up : ∀ b o, b ≠ S → h'.get? b = some o → (h'.update S (Obj.mapSeq (·.push (.ref s.heap.objs.size)))).get? b = some o := fun b o hb e => (Heap.get?_update_other _ _ (Ne.symm hb)).trans e
    have gS2 := Heap.get?_update_self (Obj.mapSeq (·.push (Value.ref s.heap.objs.size))) gS rfl
    refine wpAny_updateSeq (s := { s with heap := h' }) gS rfl (wpAny_pure ⟨plainId_quiet F.plain_extend_loop _, ?_⟩) (by rw [lS]; omega) (by show (itS.toArray.push _).size ≤ sizeLine + 1; rw [Array.size_push, lS]; omega)
    obtain ⟨c2, e2⟩ : ∃ c2, Obj.mapSeq (fun x => x.push (Value.ref s.heap.objs.size)) { cls := Value.type "list", data := Data.seq itS.toArray cS } = { cls := Value.type "list", data := Data.seq (itS ++ [Value.ref s.heap.objs.size]).toArray c2 } := ⟨_, by simp [Obj.mapSeq]; rfl⟩
    have lo : (out ++ [V.ref s.heap.objs.size]).length = i + 1 := by rw [List.length_append, hlen] <;> rfl
    have I2 : L2.Inv X pins σ (upd (upd H s.heap.objs.size (.tup [xs[i], ys[i]])) S (.lst (out ++ [.ref s.heap.objs.size]))) { s with heap := h'.update S (Obj.mapSeq (·.push (.ref s.heap.objs.size))) } := by
      refine I1.write (x := S) (e := S) (t' := s.toks) (by rw [hS1]; trivial) (.inl rfl) (fun b u hb q => up b u hb q) ⟨_, gS2⟩ ⟨by rw [lo]; omega, itS ++ [Value.ref s.heap.objs.size], c2, rS.append (.cons (show L2.RelV (V.ref s.heap.objs.size) (Value.ref s.heap.objs.size) from rfl) .nil), ?_⟩
      rw [gS2, e2]
    have st := step i out H s.heap.objs.size _ _ hG hTn hS hlen hlt (List.getElem?_eq_getElem b1) (List.getElem?_eq_getElem b2)
    have pz : ∀ {b : Addr} {o : Obj}, b ≠ S → h'.get? b = some o → (h'.update S (Obj.mapSeq (·.push (.ref s.heap.objs.size)))).get? b = some o := fun {b o} hb e => up b o hb e
    have hT2 := kp TI _ D.TIz D.TITO D.TIi1 D.TIi2 hTI
    obtain ⟨o1, e1, c1⟩ := id hl1
    obtain ⟨o2, e2, c2⟩ := id hl2
    refine ih (i + 1) _ _ (out ++ [.ref s.heap.objs.size]) (by omega) hlt I2 (fun b hb => ?_) lo upd_same st ?_ (pz (Ne.symm sTI) hT2) (h1'.at fun o e => pz (Ne.symm si1) e) (h2'.at fun o e => pz (Ne.symm si2) e)
      ⟨o1, pz (Ne.symm sl1) (kp _ _ D.l1z D.l1TO D.l1i1 D.l1i2 e1), c1⟩ ⟨o2, pz (Ne.symm sl2) (kp _ _ D.l2z D.l2TO D.l2i1 D.l2i2 e2), c2⟩
    · obtain ⟨f0, f1⟩ := hf b hb
      have ns : b ≠ S := fun e => by rw [e, hS] at f0; cases f0
      refine ⟨?_, f1⟩
      rw [upd_ne ns]
      have ne : b ≠ s.heap.objs.size := fun e => by
        have e' : b = z ∨ b = TO ∨ b = i1 ∨ b = i2 := by simpa using hb
        have hlt : b < s.heap.objs.size := by
          rcases e' with q | q | q | q
          · rw [q]
            rcases hz with ⟨hz, _⟩ | ⟨⟨_, _, _, hz, _⟩, _⟩ <;> exact Heap.lt_size hz
          · rw [q]
            rcases hz with ⟨_, _, _, hz⟩ | ⟨_, _, hz⟩ <;> exact Heap.lt_size hz
          · rw [q]; obtain ⟨_, e1, _⟩ := h1; exact Heap.lt_size e1
          · rw [q]; obtain ⟨_, e1, _⟩ := h2; exact Heap.lt_size e1
        exact absurd (e ▸ hlt) (Nat.lt_irrefl _)
      rw [upd_ne ne]; exact f0
    · rcases hz' with ⟨q, x, y, q2⟩ | ⟨⟨T, f, oT, q, q2⟩, o3, q3⟩
      · exact .inl ⟨pz (Ne.symm sz) q, x, y, pz (Ne.symm sTO) q2⟩
      · obtain ⟨o, e⟩ := Heap.get_or up ⟨_, gS2⟩ q2
        exact .inr ⟨⟨T, f, o, pz (Ne.symm sz) q, e⟩, o3, pz (Ne.symm sTO) q3⟩
theorem zip_no_len : typeLookup (.type "zip") "__len__" = pure none := am_miss_of_fast (by decide +kernel)
theorem zip_no_hint : typeLookup (.type "zip") "__length_hint__" = pure none := am_miss_of_fast (by decide +kernel)
def tLZ (K : PySem.W.Frag) (ta : TA) : TE := fun σ H Q => ta σ H fun vs H1 => ∃ a b xs ys, vs = [.ref a, .ref b] ∧ SqL K H1 a xs ∧ SqL K H1 b ys ∧ min xs.length ys.length ≤ sizeLine ∧ ∀ S, H1 S = none → ∃ G : Nat → List V → Hp → Prop, G 0 [] (upd H1 S (.lst [])) ∧
  (∀ i out H T x y, G i out H → H T = none → H S = some (.lst out) → out.length = i → i < min xs.length ys.length → xs[i]? = some x → ys[i]? = some y → G (i + 1) (out ++ [.ref T]) (upd (upd H T (.tup [x, y])) S (.lst (out ++ [.ref T])))) ∧
  ∀ out H, out.length = min xs.length ys.length → G (min xs.length ys.length) out H → H S = some (.lst out) → Q (.ref S) H
theorem pe_listZip {X : Cx} {e e2 : Expr} {ta : TA} {p p2 q pos : Pos} (hg : Gl X "list") (hm : X.mg "list" = none) (hg2 : Gl X "zip") (hm2 : X.mg "zip" = none) (hc : X.calm = true) (ha : PA X [e, e2] ta)
    (hs : starEach [e, e2] X.env = (false, eval e X.env) :: starEach [e2] X.env := by rfl) (hpl : ∀ pos, (backTo pos (starEach [e2] X.env)).any (·.1) = false) :
    PE X (.Call (.Name "list" p) [.Call (.Name "zip" p2) [e, e2] [] q] [] pos) (tLZ X.K ta) := by
  refine ⟨fun pins s σ H Q I h => ?_⟩
  refine Call_ (ld_blt I hg hm boot_list ?_)
  refine PyProof.Rows.callWith_type1 (PyProof.Rows.args_cons ?_ rfl) rfl rfl
  refine Call_ (ld_blt I hg2 hm2 PyProof.Rows.boot_zip (PyProof.Rows.callWith_type1 (thn (ha.run q pins s σ H _ I h) fun us s1 ⟨vs, H1, I1, r1, q1⟩ => ?_) hs (hpl q)))
  obtain ⟨a, b, xs, ys, ex, hqx, hqy, hmin, fam⟩ := q1
  subst ex
  cases r1 with
  | cons r rr =>
    cases rr with
    | cons r' rr =>
      cases rr
      cases r
      cases r'
      obtain ⟨its, rv, p1, _⟩ := I1.list hqx
      obtain ⟨its2, rv2, p2, _⟩ := I1.list hqy
      refine call_zip_2 p1.isList p2.isList fun h' hz hTI hTO h1 h2 hsz hk => ?_
      refine PyProof.Rows.args_nil ?_
      have I2 : L2.Inv X pins σ H1 { s1 with heap := h' } := I1.kept (t' := s1.toks) hk
      have al := p1.lt
      have bl := p2.lt
      have D := PySem.W.ktu_apart s1.heap.objs.size a b al bl
      have fresh4 : ∀ c, c ∈ [s1.heap.objs.size + 4, s1.heap.objs.size + 3, s1.heap.objs.size, s1.heap.objs.size + 1] → FpOk X pins H1 c := fun c hcm => by
        have e' : c = s1.heap.objs.size + 4 ∨ c = s1.heap.objs.size + 3 ∨ c = s1.heap.objs.size ∨ c = s1.heap.objs.size + 1 := by simpa using hcm
        have hle : s1.heap.objs.size ≤ c := by
          rcases e' with z | z | z | z
          · rw [z]; exact Nat.le_add_right _ _
          · rw [z]; exact Nat.le_add_right _ _
          · rw [z]; exact Nat.le_refl _
          · rw [z]; exact Nat.le_add_right _ _
        exact I1.fpOk hle (I1.hok.fresh hle)
      have hl1 : h'.IsList a its.toArray := p1.isList.at fun o e => hk a o e
      have hl2 : h'.IsList b its2.toArray := p2.isList.at fun o e => hk b o e
      refine callType_codes (Q₁ := fun obj s₁ => obj = .ref h'.objs.size ∧ s₁ = { s1 with heap := h'.push { cls := .type "list", data := .seq #[] } }) F.called_list (F.typeCall_list_1 _) F.entry_list_init
        (code_list_new (s := { s1 with heap := h' }) _ ⟨rfl, rfl⟩) fun obj s₁ h₁ => ?_
      obtain ⟨rfl, rfl⟩ := h₁
      have hS : (h'.push { cls := .type "list", data := .seq #[] }).get? h'.objs.size = some { cls := .type "list", data := .seq #[] } := Heap.get?_push_size _ rfl
      refine ⟨⟨_, hS, rfl⟩, F.args_list_init_2 _ _, ?_⟩
      generalize eN : s1.heap.objs.size = N at *
      generalize eS : h'.objs.size = S at *
      show wpAny _ X.A.in1.in1 (do let old ← Builtin.List.listItems (.ref S); Builtin.List.listUpdate (.ref S) (fun _ => #[]); letGo old.toList.reverse; Builtin.List.listExtendWith (.ref S) (.ref (N + 4)) .none) _ _ _
      refine wpAny_bind ?_
      unfold Builtin.List.listItems
      refine wpAny_bind (wpAny_seqItems hS rfl (wpAny_pure ?_))
      show wpAny _ X.A.in1.in1 (updateSeq S (fun _ => #[]) >>= fun _ => letGo (#[] : Array Value).toList.reverse >>= fun _ => Builtin.List.listExtendWith (.ref S) (.ref (N + 4)) .none) _ _ _
      refine wpAny_bind (wpAny_updateSeq hS rfl ?_)
      have hS2 := Heap.get?_update_self (Obj.mapSeq (fun _ => (#[] : Array Value))) hS rfl
      refine wpAny_bind (wpAny_letGo ?_)
      unfold Builtin.List.listExtendWith
      have old : ∀ {b : Addr} {o : Obj}, h'.get? b = some o → b ≠ S := fun {b o} e z => by
        have := Heap.lt_size e
        rw [eS, z] at this
        exact absurd this (Nat.lt_irrefl _)
      have up : ∀ (h : Heap) (f : Obj → Obj), (∀ b o, h'.get? b = some o → h.get? b = some o) → ∀ b o, h'.get? b = some o → (h.update S f).get? b = some o := fun h f k b o e =>
        (Heap.get?_update_other _ _ (Ne.symm (old e))).trans (k b o e)
      have k1 : ∀ b o, h'.get? b = some o → (h'.push { cls := .type "list", data := .seq #[] }).get? b = some o := fun b o e => Heap.get?_push_of_some _ e
      have k2 := up _ (Obj.mapSeq (fun _ => (#[] : Array Value))) k1
      have zt : ∀ {h : Heap}, (∀ b o, h'.get? b = some o → h.get? b = some o) → ({ s1 with heap := h } : Shared).TypeIs (.ref (N + 4)) "zip" := fun {h} k => ⟨_, k _ _ hz, rfl⟩
      have nS : S ≠ N + 4 := fun e => old hz e.symm
      refine wpAny_bind (wpAny_typeOf (zt k2) ?_)
      have g1 : Builtin.List.listSameRef (.ref S) (.ref (N + 4)) = false := by simp [Builtin.List.listSameRef, nS]
      have g2 : (Value.type "zip" == Value.type "list") = false := by decide
      have g3 : (Value.type "zip" == Value.type "tuple") = false := by decide
      simp only [g1, g2, g3, Bool.or_false, Bool.false_eq_true, if_false]
      refine wpAny_bind (wpAny_pyIter_zip (s := { s1 with heap := _ }) (k2 _ _ hz) ?_)
      refine wpAny_bind (wpAny_holding ?_)
      unfold Builtin.List.listLengthHint
      refine wpAny_bind (wpAny_specialOf (zt k2) zip_no_len ?_)
      show wpAny _ X.A.in1.in1 (specialOf (Value.ref (N + 4)) (Str.ofString "__length_hint__") >>= _) _ _ _
      refine wpAny_bind (wpAny_specialOf (zt k2) zip_no_hint ?_)
      refine wpAny_pure ?_
      show wpAny _ X.A.in1.in1 (rule "list.extend.makes-room" >>= fun _ => Builtin.List.listTouch (.ref S) >>= fun _ =>
        again (.builtin "list.extend.loop" ⟨[.ref S, .ref (N + 4), .none], []⟩)) _ _ _
      refine wpAny_bind (wpAny_rule ?_)
      refine wpAny_bind ?_
      show wpAny _ X.A.in1.in1 (updateSeq S (·.push .none) >>= fun _ => updateSeq S (·.pop)) _ _ _
      refine wpAny_bind (wpAny_updateSeq hS2 rfl ?_)
      have hS3 := Heap.get?_update_self (Obj.mapSeq (·.push Value.none)) hS2 rfl
      refine wpAny_updateSeq (hz := by seq_fits) hS3 rfl ?_
      have hS4 := Heap.get?_update_self (Obj.mapSeq (·.pop)) hS3 rfl
      have k4 := up _ (Obj.mapSeq (·.pop)) (up _ (Obj.mapSeq (·.push Value.none)) k2)
      refine wpAny_pure ⟨plainId_quiet F.plain_extend_loop _, ?_⟩
      have hSn : H1 S = none := I2.hok.fresh (Nat.le_of_eq eS)
      obtain ⟨G, G0, Gs, Gf⟩ := fam S hSn
      have I3 : L2.Inv X pins σ (upd H1 S (.lst [])) { s1 with heap := (((h'.push { cls := .type "list", data := .seq #[] }).update S (Obj.mapSeq (fun _ => (#[] : Array Value)))).update S (Obj.mapSeq (·.push Value.none))).update S (Obj.mapSeq (·.pop)) } :=
        I2.laid (t' := s1.toks) k4 (Nat.le_of_eq eS) ⟨Nat.zero_le _, [], _, .nil, hS4⟩
      have e1 := rv.length
      have e2 := rv2.length
      refine zl_loop (A := X.A.in1) (G := G) (n := min xs.length ys.length) (R := _) (show X.A.in1.handled = none from I.ok.hd hc) D nS (fun e => old hTI e.symm) (fun e => old hTO e.symm) (fun e => ?_) (fun e => ?_) (fun e => ?_) (fun e => ?_) (by rw [e1, e2]; simp) hmin (by simpa using rv) (by simpa using rv2) Gs (fun out H s J lo g hs => ?_)
        _ 0 _ _ [] rfl (Nat.zero_le _) I3 (fun b hb => ?_) rfl upd_same G0 (.inl ⟨k4 _ _ hz, _, _, k4 _ _ hTO⟩) (k4 _ _ hTI) (h1.at fun o e => k4 _ o e) (h2.at fun o e => k4 _ o e) (hl1.at fun o e => k4 _ o e) (hl2.at fun o e => k4 _ o e)
      · obtain ⟨o, q, _⟩ := h1; exact old q e.symm
      · obtain ⟨o, q, _⟩ := h2; exact old q e.symm
      · obtain ⟨o, q, _⟩ := hl1; exact old q e.symm
      · obtain ⟨o, q, _⟩ := hl2; exact old q e.symm
      · exact ⟨rfl, .ref S, H, J, rfl, Gf out H lo g hs⟩
      · obtain ⟨f0, f1⟩ := fresh4 b hb
        have ns : b ≠ S := fun e => by
          have e' : b = N + 4 ∨ b = N + 3 ∨ b = N ∨ b = N + 1 := by simpa using hb
          subst e
          rcases e' with z | z | z | z
          · exact nS z
          · exact old hTO z.symm
          · obtain ⟨o, q, _⟩ := h1; exact old q z.symm
          · obtain ⟨o, q, _⟩ := h2; exact old q z.symm
        exact ⟨by rw [upd_ne ns]; exact f0, f1⟩
end TL

set_option Elab.async false
set_option linter.all false
set_option maxRecDepth 100000
set_option maxHeartbeats 4000000
/-! List comprehensions. -/
namespace TL
open PySem PySem.Spec PyProof.Rows L2

def t00 : Sta := ⟨fun _ => none, fun _ => none, fun _ => False⟩
def B0 : Bnd := ⟨t00, fun _ => noX⟩
theorem ext00 {t : Sta} : Ext t00 t := ⟨fun _ _ h => (by cases h), fun _ h => (show False from h).elim, fun _ _ h => (by cases h)⟩
theorem tk0 {W : Wd} {X : Cx} : Takes X (wX W B0) := fun u s' ⟨a, B, sI, pins, σ, H, cls, d, e, I, nb, up, sky, na, os, ag, w⟩ => by
  obtain ⟨_, _, _, _, _, _, _, _, _, z⟩ := w
  exact z.elim
def tCd (W : Wd) (B : Bnd) (c : Eo) : TT := fun σ H Q => ∃ (env : En) (t : Sta) (Qp : Bool → Mm → Prop), t.H = H ∧ Ext B.t0 t ∧ Good W t ∧ REnv W t env σ ∧ wpCd c (B.ex env) env t.M Qp ∧ ∀ b t', Ext t t' → Good W t' → Qp b t'.M → Q b t'.H
theorem _root_.L2.PTs.imp {X : Cx} {es : List Expr} {t t' : TT} (h : PTs X es t) (i : ∀ σ H Q, t' σ H Q → t σ H Q) : PTs X es t' := ⟨fun pins s σ H Q I q => h.run pins s σ H Q I (i σ H Q q)⟩
section
variable {W : Wd} {k : Nat} {B : Bnd} {X : Cx}
theorem cd_none : PTs X [] (tCd W B .none) := pts_nil.imp fun σ H Q ⟨env, t, Qp, hH, he, g, re, h, l⟩ => by
  subst hH; unfold wpCd at h; exact l true t Ext.refl g h
theorem cd_some {c : Expr} {e : E} (h : PT X c (tB' W B (wpE e))) : PTs X [c] (tCd W B (.some e)) := (pts_one h).imp fun σ H Q ⟨env, t, Qp, hH, he, g, re, h, l⟩ => by
  subst hH; unfold wpCd at h; exact ⟨env, t, Qp, rfl, he, g, re, h, l⟩
theorem wipe_wipe {σ : L2.St} {is : List Nat} : ∀ {js : List Nat}, (∀ j ∈ js, j ∈ is) → wipe (wipe σ js) is = wipe σ is
  | [], _ => rfl
  | j :: js, h => by
    show wipe ((wipe σ js).set j none) is = wipe σ is
    rw [wipe_set (h j List.mem_cons_self)]
    exact wipe_wipe fun i hi => h i (List.mem_cons_of_mem _ hi)
/-- a thing of which nothing is told, changed -/
theorem Fst.hidAt {t : Sta} {a : Addr} {o : HO} (nf : ¬ t.F a) : Fst t (t.hid a o) := fun b f => ⟨f, fun u h => by
  show upd t.H a o b = some u
  rw [upd_ne (show b ≠ a from fun z => nf (by rw [← z]; exact f))]; exact h⟩
theorem Good.hidAt {t : Sta} {a : Addr} {o : HO} (g : Good W t) (nf : ¬ t.F a) (nm : t.M a = none) (nc : ∀ c q, t.H a ≠ some (LamX.CodeO c q)) : Good W (t.hid a o) where
  at_ := fun b p h => (g.at_ b p h).ext (Fst.hidAt nf) (fun c q z => by
    show upd t.H a o c = _
    rw [upd_ne (fun y => nc c q (by rw [← y]; exact z))]; exact z) fun u q => by
    have ne : b ≠ a := fun z => by subst z; rw [nm] at h; cases h
    show upd t.H a o b = some u
    rw [upd_ne ne]; exact q
  fr := fun b f => by
    have ne : b ≠ a := fun z => nf (by rw [← z]; exact f)
    obtain ⟨h1, u, h2⟩ := g.fr b f
    exact ⟨h1, u, by show upd t.H a o b = some u; rw [upd_ne ne]; exact h2⟩
theorem Ext.hidAt {t1 t : Sta} {a : Addr} {o : HO} (e : Ext t1 t) (n : t1.H a = none) : Ext t1 (t.hid a o) where
  keep := fun b u h m => by
    obtain ⟨h1, h2⟩ := e.keep b u h m
    exact ⟨by show upd t.H a o b = some u; rw [upd_ne (ne_new n h)]; exact h1, h2⟩
  grow := fun b f => e.grow b f
  old := fun b u h m f => e.old b u h m f
/-- told at last: finished, or changeable -/
theorem told_fin {t1 t : Sta} {a : Addr} {vs : List V} {acc : List D} (e : Ext t1 t) (g : Good W t) (n : t1.H a = none) (nm : t.M a = none) (ha : t.H a = some (.lst vs)) (hz : vs.length ≤ sizeLine) (r : Reps W t acc vs) :
    Ext t1 ⟨t.H, t.M, fun b => b = a ∨ t.F b⟩ ∧ Good W ⟨t.H, t.M, fun b => b = a ∨ t.F b⟩ ∧ Rep W ⟨t.H, t.M, fun b => b = a ∨ t.F b⟩ (.lst acc) (.ref a) := by
  have f : Fst t ⟨t.H, t.M, fun b => b = a ∨ t.F b⟩ := fun b f => ⟨.inr f, fun _ h => h⟩
  refine ⟨⟨e.keep, fun b f => .inr (e.grow b f), fun b u h m f => ?_⟩, ⟨fun b p h => (g.at_ b p h).ext f (fun _ _ z => z) fun _ q => q, fun b f => ?_⟩, ?_⟩
  · rcases f with rfl | f
    · rw [n] at h; cases h
    · exact e.old b u h m f
  · rcases f with rfl | f
    · exact ⟨nm, _, ha⟩
    · exact g.fr b f
  · simp only [Rep]
    exact ⟨a, vs, rfl, ⟨.inl rfl, ha⟩, hz, r.ext f⟩
theorem told_put {t1 t : Sta} {a : Addr} {vs : List V} {acc : List D} (e : Ext t1 t) (g : Good W t) (n : t1.H a = none) (nm : t.M a = none) (nf : ¬ t.F a) (ha : t.H a = some (.lst vs)) (hz : vs.length ≤ sizeLine) (r : Reps W t acc vs) :
    Ext t1 ⟨t.H, mput t.M a (.lst acc), t.F⟩ ∧ Good W ⟨t.H, mput t.M a (.lst acc), t.F⟩ := by
  have f : Fst t ⟨t.H, mput t.M a (.lst acc), t.F⟩ := fun b f => ⟨f, fun _ h => h⟩
  refine ⟨⟨fun b u h m => ?_, e.grow, e.old⟩, ⟨fun b p h => ?_, fun b fb => ?_⟩⟩
  · obtain ⟨h1, h2⟩ := e.keep b u h m
    exact ⟨h1, by show mput t.M a _ b = none; rw [mput_ne (ne_new n h)]; exact h2⟩
  · by_cases q : b = a
    · subst q
      have h' : mput t.M b (.lst acc) b = some p := h
      rw [mput_same] at h'; cases h'
      exact ⟨vs, ha, hz, r.ext f⟩
    · have h' : mput t.M a (.lst acc) b = some p := h
      rw [mput_ne q] at h'
      exact (g.at_ b p h').ext f (fun _ _ z => z) fun _ q => q
  · have ne : b ≠ a := fun z => nf (by rw [← z]; exact fb)
    obtain ⟨h1, h2⟩ := g.fr b fb
    exact ⟨by show mput t.M a _ b = none; rw [mput_ne ne]; exact h1, h2⟩
theorem drop_cons {α : Type} {xs : List α} {i : Nat} {x : α} (h : xs[i]? = some x) : xs.drop i = x :: xs.drop (i + 1) := by
  obtain ⟨hi, e⟩ := List.getElem?_eq_some_iff.mp h
  rw [List.drop_eq_getElem_cons hi, e]
def cStep (env : En) (tg : Tg) (cond : Eo) (elt : E) : D → List D → Mm → (List D → Mm → Prop) → Prop := fun d acc M k => putT tg d (wipeE env tg.slots) M fun env1 => wpCd cond noX env1 M fun r M2 => if r = true then wpE elt noX env1 M2 fun y M3 => k (acc ++ [y]) M3 else k acc M2
theorem comp_imp {fz : Bool} {tg : Tg} {it : It} {cond : Eo} {elt : E} {vs : List Nat} (hv : vs = tg.slots) {σ : L2.St} {H : Hp} {Q : VK} (h : tE W B (wpE (.comp fz tg it cond elt)) σ H Q) :
    tLc (tI W B (wpIt it)) (gT W tg) (tCd W B0 cond) (tE W B0 (wpE elt)) vs σ H Q := by
  subst hv
  obtain ⟨env, t, Qp, rfl, he, g, re, h, l⟩ := h
  unfold wpE at h
  refine ⟨env, t, _, rfl, he, g, re, h, fun src t1 J e1 g1 ⟨hlen, h1⟩ wk zD hD => ?_⟩
  have h1 : compGo (cStep env tg cond elt) src.g src.xs [] t1.M fun acc M2 => newL fz acc M2 Qp := h1
  have r1 := re.ext (e1.fst g)
  let Inv' : Nat → Hp → Prop := fun i H => ∃ (acc : List D) (vs : List V) (t2 : Sta), t2.H = H ∧ Ext t1 t2 ∧ Good W t2 ∧ t2.H zD = some (.lst vs) ∧ t2.M zD = none ∧ ¬ t2.F zD ∧ vs.length ≤ i ∧ Reps W t2 acc vs ∧
    compGo (cStep env tg cond elt) src.g (src.xs.drop i) acc t2.M fun acc M2 => newL fz acc M2 Qp
  refine ⟨fun i m H => m = src.xs.length - i ∧ i ≤ src.xs.length ∧ Inv' i H, ⟨src.xs.length, by simp, Nat.zero_le _, [], [], t1.hid zD (.lst []), rfl, Ext.refl.hidAt hD, g1.hidAt (g1.notF hD) (g1.fresh hD) (fun c q z => by rw [hD] at z; cases z), upd_same, g1.fresh hD, g1.notF hD, Nat.le_refl _, Reps.nil, h1⟩, ?_⟩
  rintro i m H ⟨rfl, hi, acc, vs, t2, rfl, e2, g2, hd2, hm2, hf2, hl2, rp2, h2⟩
  by_cases hlt : i < src.xs.length
  · obtain ⟨d, hd⟩ : ∃ d, src.xs[i]? = some d := ⟨src.xs[i], by simp [hlt]⟩
    rw [drop_cons hd] at h2
    obtain ⟨hg, h2⟩ := h2
    refine .inr ⟨wk.goes i t2 d e2 g2 hg hd, Inv' (i + 1), fun H' p' => ⟨src.xs.length - (i + 1), by omega, rfl, hlt, p'⟩, fun x H' y => ?_⟩
    obtain ⟨t3, rfl, e3, em3, g3, rd3⟩ := wk.yields i t2 x H' d e2 g2 hg hd y
    have r3 : REnv W t3 (wipeE env tg.slots) (wipe σ tg.slots) := ((r1.ext (e2.fst g1)).ext (e3.fst g2)).wipe _
    unfold cStep at h2
    rw [← em3] at h2
    obtain ⟨k3, m3⟩ := e3.keep zD _ hd2 hm2
    have f3 : ¬ t3.F zD := fun z => hf2 (e3.old zD _ hd2 hm2 z)
    refine ⟨d, wipeE env tg.slots, t3, _, rfl, g3, r3, rd3, h2, fun env' σ' re' so hq => ?_⟩
    refine ⟨(so tg.slots fun _ z => z).trans (wipe_wipe fun _ z => z), env', t3, _, rfl, ext00, g3, re', hq, fun b t4 e4 g4 h4 => ?_⟩
    obtain ⟨k4, m4⟩ := e4.keep zD _ k3 m3
    have f4 : ¬ t4.F zD := fun z => f3 (e4.old zD _ k3 m3 z)
    have rp4 : Reps W t4 acc vs := (rp2.ext (e3.fst g2)).ext (e4.fst g3)
    cases b with
    | true =>
      rw [if_pos rfl] at h4 ⊢
      refine tE_bind rfl ext00 g4 (re'.ext (e4.fst g3)) h4 fun dy v t5 e5 _ g5 _ rd5 h5 => ?_
      obtain ⟨k5, m5⟩ := e5.keep zD _ k4 m4
      have f5 : ¬ t5.F zD := fun z => f4 (e5.old zD _ k4 m4 z)
      refine ⟨vs, k5, by omega, acc ++ [dy], vs ++ [v], t5.hid zD (.lst (vs ++ [v])), rfl, (((e2.trans e3).trans e4).trans e5).hidAt hD, g5.hidAt f5 m5 (fun c q z => by rw [k5] at z; cases z), upd_same, m5, f5, by rw [List.length_append]; simp; omega, ?_, h5⟩
      exact ((rp4.ext (e5.fst g4)).append (Reps.one rd5)).ext (Fst.hidAt f5)
    | false =>
      rw [if_neg Bool.false_ne_true] at h4 ⊢
      exact ⟨acc, vs, t4, rfl, (e2.trans e3).trans e4, g4, k4, m4, f4, by omega, rp4, h4⟩
  · have ei : i = src.xs.length := by omega
    subst ei
    rw [List.drop_length] at h2
    obtain ⟨hg, h2⟩ := h2
    refine .inl ⟨wk.stops t2 e2 g2 hg, ?_⟩
    have hz : vs.length ≤ sizeLine := by omega
    have h2 : newL fz acc t2.M Qp := h2
    unfold newL at h2
    cases fz with
    | true =>
      rw [if_pos rfl] at h2
      obtain ⟨z1, z2, z3⟩ := told_fin e2 g2 hD hm2 hd2 hz rp2
      exact l (.lst acc) (.ref zD) ⟨t2.H, t2.M, fun b => b = zD ∨ t2.F b⟩ (e1.trans z1) z2 z3 h2
    | false =>
      rw [if_neg Bool.false_ne_true] at h2
      obtain ⟨z1, z2⟩ := told_put e2 g2 hD hm2 hf2 hd2 hz rp2
      exact l (.ref zD) (.ref zD) ⟨t2.H, mput t2.M zD (.lst acc), t2.F⟩ (e1.trans z1) z2 Rep.ref (h2 zD hm2)
end
end TL

set_option Elab.async false
set_option linter.all false
set_option maxRecDepth 100000
set_option maxHeartbeats 4000000
/-! list(zip(a, b)); an own ==. -/
namespace TL
open PySem PySem.Spec PyProof.Rows L2
section
variable {W : Wd} {k j : Nat} {B : Bnd} {X : Cx} {a b : Expr} {pos p : Pos} {pw pw2 : Wp}
theorem zipD_take {xs ys : List D} {i : Nat} {x y : D} (hx : xs[i]? = some x) (hy : ys[i]? = some y) : (zipD xs ys).take (i + 1) = (zipD xs ys).take i ++ [.tup [x, y]] := by
  have hl : i < (zipD xs ys).length := by
    rw [zipD_length]
    have := (List.getElem?_eq_some_iff.mp hx).1
    have := (List.getElem?_eq_some_iff.mp hy).1
    omega
  rw [List.take_add_one]
  have e := List.getElem?_eq_getElem hl
  obtain ⟨x', y', h1, h2, h3⟩ := zipD_get e
  rw [hx] at h1; rw [hy] at h2
  cases h1; cases h2
  rw [e, h3]; rfl
theorem e_lz {fz : Bool} {p2 q : Pos} (c : COk W k X) (hg : Gl X "list") (hm : W.mg "list" = none) (hg2 : Gl X "zip") (hm2 : W.mg "zip" = none) (hn : nost a = true) (hn2 : nost b = true) (ha : PE X a (tE W B pw)) (hb : PE X b (tE W B pw2)) :
    PE X (.Call (.Name "list" p) [.Call (.Name "zip" p2) [a, b] [] q] [] pos) (tE W B fun x env M Q => pw x env M fun u M1 => pw2 x env M1 fun v M2 => someK (lstOf M2 u) fun xs => someK (lstOf M2 v) fun ys => (zipD xs ys).length ≤ sizeLine ∧ newL fz (zipD xs ys) M2 Q) := by
  rw [← c.mg] at hm hm2
  refine (pe_listZip hg hm hg2 hm2 c.calm (pa_cons ha (pa_cons hb pa_nil (star_cons hn2)) (star_cons hn)) (star_cons hn) (fun pos => star_any (by simp [hn2]))).imp fun σ H Q ⟨env, t, Qp, hH, he, g, re, h, l⟩ => ?_
  subst hH
  refine tE_bind rfl he g re h fun d v t1 e1 he1 g1 r1 rd h1 => tE_bind rfl he1 g1 r1 h1 fun d2 v2 t2 e2 he2 g2 r2 rd2 h2 => ?_
  obtain ⟨xs, ex, h2⟩ := someK_inv h2
  obtain ⟨ys, ey, hz, h2⟩ := someK_inv h2
  have rd' := rd.ext (e2.fst g1)
  obtain ⟨q1, vs, rfl, b1, b2, b3⟩ := lstOf_at g2 rd' ex
  obtain ⟨q2, us, rfl, c1, c2, c3⟩ := lstOf_at g2 rd2 ey
  have l1 := b3.length
  have l2 := c3.length
  rw [zipD_length] at hz
  rw [c.K]
  refine ⟨q1, q2, vs, us, rfl, b1, c1, by rw [l1, l2]; exact hz, fun S hS => ?_⟩
  have mS := g2.fresh hS
  refine ⟨fun i out H => ∃ t3, t3.H = H ∧ Ext t2 t3 ∧ Good W t3 ∧ t3.M = t2.M ∧ ¬ t3.F S ∧ Reps W t3 ((zipD xs ys).take i) out,
    ⟨t2.hid S (.lst []), rfl, Ext.refl.hidAt hS, g2.hidAt (g2.notF hS) mS (fun c q z => by rw [hS] at z; cases z), rfl, g2.notF hS, by rw [List.take_zero]; exact Reps.nil⟩, ?_, ?_⟩
  · rintro i out H T x y ⟨t3, rfl, e3, g3, m3, f3, r3⟩ hT hS3 lo hi hx hy
    obtain ⟨dx, hdx, rx⟩ := b3.get' hx
    obtain ⟨dy, hdy, ry⟩ := c3.get' hy
    obtain ⟨t4, h4, e4, m4, g4, rd4⟩ := pair_new g3 hT (rx.ext (e3.fst g2)) (ry.ext (e3.fst g2))
    have mS3 : t3.M S = none := by rw [m3]; exact mS
    have mS4 : t4.M S = none := by rw [m4]; exact mS3
    have f4 : ¬ t4.F S := fun z => f3 (e4.old S _ hS3 mS3 z)
    refine ⟨t4.hid S (.lst (out ++ [.ref T])), by show upd t4.H S _ = _; rw [h4], (e3.trans e4).hidAt hS, g4.hidAt f4 mS4 (fun c q z => by rw [(e4.keep S _ hS3 mS3).1] at z; cases z), by show t4.M = _; rw [m4, m3], f4, ?_⟩
    rw [zipD_take hdx hdy]
    exact ((r3.ext (e4.fst g3)).append (Reps.one rd4)).ext (Fst.hidAt f4)
  · rintro out H lo ⟨t3, rfl, e3, g3, m3, f3, r3⟩ hS3
    have hl : (zipD xs ys).length ≤ min vs.length us.length := by rw [zipD_length, l1, l2]; exact Nat.le_refl _
    rw [List.take_of_length_le hl] at r3
    have mS3 : t3.M S = none := by rw [m3]; exact mS
    have hzo : out.length ≤ sizeLine := by rw [lo, l1, l2]; exact hz
    unfold newL at h2
    rw [← m3] at h2
    cases fz with
    | true =>
      rw [if_pos rfl] at h2
      obtain ⟨z1, z2, z3⟩ := told_fin e3 g3 hS mS3 hS3 hzo r3
      exact l (.lst _) (.ref S) ⟨t3.H, t3.M, fun b => b = S ∨ t3.F b⟩ ((e1.trans e2).trans z1) z2 z3 h2
    | false =>
      rw [if_neg Bool.false_ne_true] at h2
      obtain ⟨z1, z2⟩ := told_put e3 g3 hS mS3 f3 hS3 hzo r3
      exact l (.ref S) (.ref S) ⟨t3.H, mput t3.M S (.lst _), t3.F⟩ ((e1.trans e2).trans z1) z2 Rep.ref (h2 S mS3)

/-- the class's own == -/
structure UeqOk (W : Wd) (k : Nat) (C : Str) (ct : Contract) : Prop where
  ex : ∃ (A f : Addr) (fd : FuncData) (ps : List Str), W.mg C = some (.ref A) ∧ Cls W.K A ∧ Meth W.K A "__eq__" f ∧ PySem.W.notFirst W.K A (.type "tuple") = true ∧ FnG W k f fd ps ct ∧ Binds W.K fd ps []
theorem op_ueq {C : Str} {ct : Contract} (c : COk W k X) (o : UeqOk W k C ct) : OpR X (compareOp .Eq) (l2 W fun u v M Q => insK M u C fun _ _ => ueqOk M v C ∧ ct [u, v] M noX fun d M' => d.asB fun r => Q (.bl r) M') := by
  intro pins s σ H x y v u Q I rx ry ⟨dx, dy, t, Qp, hH, g, r1, r2, q, l⟩
  subst hH
  obtain ⟨A, f, fd, ps, o1, o2, o3, o4, F, hb⟩ := o.ex
  obtain ⟨p, fs, rfl, em, hu, hq⟩ := insK_inv q
  have := repR r1; subst this
  cases rx
  obtain ⟨dx, vs, h1, h2, h3⟩ := ins_at g em o1
  obtain ⟨mA, J, _⟩ := ins_get I.hok h1
  obtain ⟨od, J, _⟩ := J.look
  obtain ⟨m, hF⟩ := I.fr
  have kk := c.K
  have looks : ∃ tb, PySem.W.Looks (model X.prog X.w) s.heap (typeOf u) tb ∧ PySem.W.notFirst X.K A tb = true := by
    unfold ueqOk at hu
    split at hu
    · obtain ⟨a, ws, rfl, b1, _⟩ := tupAt r2
      cases ry
      rw [← kk] at b1
      obtain ⟨its, rv, p, hz⟩ := I.tuple b1
      obtain ⟨ob, ho, hc, _⟩ := (show s.heap.IsTuple a its.toArray from p)
      exact ⟨.type "tuple", fun A Q E s k q => wpAny_typeOf_ref (k _ _ ho) (by rw [hc]; exact q), by rw [kk]; exact o4⟩
    · split at hu
      · rename_i em2
        subst hu
        have := repR r2; subst this
        cases ry
        obtain ⟨dx2, vs2, k1, k2, k3⟩ := ins_at g em2 o1
        obtain ⟨mA2, J2, _⟩ := ins_get I.hok k1
        obtain ⟨od2, J2, _⟩ := J2.look
        exact ⟨.ref A, J2.type, by simp [PySem.W.notFirst]⟩
      · exact hu.elim
    · exact hu.elim
  obtain ⟨tb, hlk, hnf⟩ := looks
  show wpAny (model X.prog X.w) X.A (richCompare .Eq (.ref p) u) (EP X pins σ Q) X.xe s
  refine PySem.W.cmp_K (op := .Eq) (tb := tb) c.room.units0 hF I.ok.mod.kin J hlk hnf (by rw [kk]; exact o3.at_) (by rw [kk]; exact o3.fn) ?_
  have hl := F.len _ _ _ _ hq
  have bd : BindsTo s fd ⟨[.ref p, u], []⟩ (ps.zip [.ref p, u]) := by
    have := hb s [.ref p, u] (by rw [← kk]; exact I.kIn) (by simpa using hl)
    simpa using this
  refine wpAny_call (codeAny_mono (run_gn (A := X.A) (Qp := fun d M' => d.asB fun r => Qp (.bl r) M') (Q := fun v H' => ∃ r, v = .bl r ∧ Q (.bl r) H') c F c.room c.gd I.env0.frames I bd (.cons (show L2.RelV (V.ref p) (Value.ref p) from rfl) (.cons ry .nil)) g (Reps.cons r1 (Reps.one r2)) hq (fun d v t' e' g' rd h' => ?_)) fun r s' z => ?_)
  · obtain ⟨r, rfl, h'⟩ := D.asB_inv h'
    have := repB rd; subst this
    exact ⟨r, rfl, l _ _ t' e' g' rd h'⟩
  · cases r with
    | error e => exact z.elim
    | ok fl =>
      cases fl with
      | ret w =>
        obtain ⟨v, H', I', rz, r, ev, q⟩ := z
        subst ev
        cases rz
        exact ⟨.bl r, H', I', rfl, q⟩
      | next => exact z.elim
      | brk => exact z.elim
      | cont => exact z.elim
def wUeq (C : Str) (ct : Contract) (p q : Wp) : Wp := fun x env M Q => p x env M fun u M1 => q x env M1 fun v M2 => insK M2 u C fun _ _ => ueqOk M2 v C ∧ ct [u, v] M2 noX fun d M' => d.asB fun r => Q (.bl r) M'
theorem e_ueq {C : Str} {ct : Contract} (c : COk W k X) (o : UeqOk W k C ct) (ha : PE X a (tE W B pw)) (hb : PE X b (tE W B pw2)) (hm : behindInMarks .Eq b = false) : PE X (.Compare a [.Eq] [b] pos) (tE W B (wUeq C ct pw pw2)) := e_two (pe_cmpR (op_ueq c o) ha hb hm)
theorem t_ueq {C : Str} {ct : Contract} (c : COk W k X) (o : UeqOk W k C ct) (ha : PE X a (tE W B pw)) (hb : PE X b (tE W B pw2)) (hm : behindInMarks .Eq b = false) : PT X (.Compare a [.Eq] [b] pos) (tB' W B (wUeq C ct pw pw2)) := t_test (pt_cmpR (op_ueq c o) ha hb hm) fun _ _ _ h => tE_two h
end
end TL

set_option Elab.async false
set_option linter.all false
set_option maxRecDepth 100000
set_option maxHeartbeats 4000000
/-! Own errors: isinstance, their value, raise. -/
namespace TL
open PySem PySem.Spec PyProof.Rows L2

/-- what is asked of an own error class, so that its instances may be read -/
structure ExcOk (W : Wd) (C : Str) (A : Addr) : Prop where
  mg : W.mg C = some (.ref A)
  ec : ExcC W.K A
  xf : XfC W.K A
  nov : PySem.W.findIn W.K (.ref A) "value" = some none
structure IseOk (W : Wd) (T : Str) (cs : List Str) (A : Addr) : Prop where
  mg : W.mg T = some (.ref A)
  non : PySem.W.kitOne W.K (.type "NoneType") (.ref A) = some false
  own : ∀ C ∈ cs, ∃ B, ExcOk W C B ∧ PySem.W.kitOne W.K (.ref B) (.ref A) = some (decide (C = T))
section
variable {W : Wd} {k j : Nat} {B : Bnd} {X : Cx} {a b e : Expr} {pos p : Pos} {x : Str} {es : List Expr} {pw : Wp} {pl : WpL}
theorem inst_exc {pins : List (Addr × Obj)} {σ : L2.St} {s : Shared} {H : Hp} {q D dd : Addr} {fs : List (Str × V)} (I : L2.Inv X pins σ H s) (h1 : H q = some (XI.ExV (.ref D) (some dd) q)) (h2 : H dd = some (.xd fs)) :
    ∃ ob od mA, PySem.W.InstAt s.heap q ob D (some od) ∧ s.heap.get? dd = some od ∧ s.heap.Ns1 dd mA ∧ ∀ f, RelO (fs.lookup f) (mA f) := by
  obtain ⟨ob, fv, e, ⟨z1, z2⟩, dt⟩ := XI.exV_at I.hok h1
  obtain ⟨mA, hns, r⟩ := (show ObjOk X.prog X.w H s.heap dd (.xd fs) from I.hok dd _ h2)
  obtain ⟨od, ed, ep, ho, hr⟩ := id hns
  exact ⟨ob, od, mA, ⟨e, z1, by unfold PySem.W.notCls; rw [dt] <;> rfl, by rw [z2]; exact ho⟩, ho, hns, r⟩
def rIse (K : PySem.W.Frag) : List V → Hp → VK → Prop := fun xs H Q => ∃ (x c : V) (t u : Value) (b : Bool), xs = [x, c] ∧ ClsV c u ∧
  (TyX K H x t ∨ ∃ q D dd fs, x = .ref q ∧ t = .ref D ∧ ExcC K D ∧ H q = some (XI.ExV (.ref D) (some dd) q) ∧ H dd = some (.xd fs)) ∧ PySem.W.kitOne K t u = some b ∧ Q (.bl b) H
theorem call_ise : CallR X (.builtin "isinstance") (rIse X.K) := by
  intro pins s σ H xs us Q I r h
  obtain ⟨x, c, t, u, b, rfl, k, ty, e, q⟩ := h
  rcases ty with ty | ⟨q0, D, dd, fs, rfl, rfl, ec, h1, h2⟩
  · exact call_isi pins s σ H _ us Q I r ⟨x, c, t, u, b, rfl, k, ty, e, q⟩
  · obtain ⟨u1, u2, rfl, r1, r2⟩ := r.two
    have e2 := k.eq r2
    subst e2
    obtain rfl : u1 = Value.ref q0 := r1
    obtain ⟨ob, od, mA, J, _⟩ := inst_exc I h1 h2
    exact PySem.W.kia_one (XI.kit_exc ec) I.kIn ⟨ob, _, J⟩ e (fun z => nomatch z) fun tk => ⟨.bl b, H, I.tok tk, rfl, q⟩
theorem e_ise {T : Str} {cs : List Str} {A : Addr} {p2 : Pos} (c : COk W k X) (o : IseOk W T cs A) (hg : Gl X "isinstance") (hm : W.mg "isinstance" = none) (hgT : Gl X T) (hT : okName T = true) (hn : nost a = true) (ha : PE X a (tE W B pw)) :
    PE X (.Call (.Name "isinstance" p) [a, .Name T p2] [] pos) (tE W B fun x env M Q => pw x env M fun u M1 => iseK u T cs fun r => Q (.bl r) M1) := by
  rw [← c.mg] at hm
  obtain ⟨o1, _, o3⟩ := okName_d hT
  have hT' : PE X (.Name T p2) (tC (.ref A)) := pe_glob hgT (by rw [c.mg]; exact o.mg) rfl o1
  refine (pe_callB call_ise hg hm (by decide +kernel) (pa_cons ha (pa_cons hT' pa_nil rfl) (star_cons hn)) (by decide) (by decide) (star_cons hn) (star_any rfl)).imp fun σ H Q ⟨env, t, Qp, hH, he, g, re, h, l⟩ => ?_
  subst hH
  refine tE_bind rfl he g re h fun d v t1 e1 he1 g1 r1 rd h1 => ?_
  cases d with
  | non =>
    have := repN rd; subst this
    exact ⟨.non, .ref A, _, .ref A, false, rfl, .own A, .inl (.base .non), by rw [c.K]; exact o.non, l _ _ _ e1 g1 (by simp only [Rep]) h1⟩
  | exc C d =>
    obtain ⟨hC, h1⟩ := h1
    simp only [Rep] at rd
    obtain ⟨q, Ca, dd, u, rfl, m1, ⟨f1, x1⟩, ⟨f2, x2⟩, _⟩ := rd
    obtain ⟨B', o1, o2⟩ := o.own C hC
    have e0 := o1.mg
    rw [m1] at e0; cases e0
    have o1e := o1.ec
    rw [← c.K] at o1e o2
    exact ⟨_, .ref A, _, .ref A, _, rfl, .own A, .inr ⟨q, Ca, dd, _, rfl, rfl, o1e, x1, x2⟩, o2, l _ _ _ e1 g1 (by simp only [Rep]) h1⟩
  | _ => exact (show False from h1).elim
theorem e_xval {cs : List Str} (c : COk W k X) (o : ∀ C ∈ cs, ∃ A, ExcOk W C A) (hab : plainO a = true) (ha : PE X a (tE W B pw)) :
    PE X (.Attribute a "value" pos) (tE W B fun x env M Q => pw x env M fun u M1 => xvalK u cs fun d => Q d M1) := by
  refine ⟨fun pins s σ H Q I ⟨env, t, Qp, hH, he, g, re, h, l⟩ => ?_⟩
  subst hH
  refine attr_of (plainO_ok hab) (thn (ha.run pins s σ t.H _ I (tE_bind (Q := fun v H1 => ∃ (C : Str) (d : D) (t1 : Sta), t1.H = H1 ∧ Ext t t1 ∧ Good W t1 ∧ Rep W t1 (.exc C d) v ∧ C ∈ cs ∧ Qp d t1.M) rfl he g re h fun d v t1 e1 he1 g1 r1 rd h1 => ?_)) fun u s1 ⟨y, H1, I1, ry, C, d, t1, e0, e1, g1, rd, hC, h1⟩ => ?_)
  · cases d with
    | exc C d => exact ⟨C, d, t1, rfl, e1, g1, rd, h1.1, h1.2⟩
    | _ => exact (show False from h1).elim
  · subst e0
    simp only [Rep] at rd
    obtain ⟨q, Ca, dd, v, rfl, m1, ⟨f1, x1⟩, ⟨f2, x2⟩, rv⟩ := rd
    obtain ⟨A, o1⟩ := o C hC
    have e0 := o1.mg
    rw [m1] at e0; cases e0
    have T := o1.xf
    have nv := o1.nov
    rw [← c.K] at T nv
    obtain rfl : u = Value.ref q := ry
    obtain ⟨ob, od, mA, J, hod, hns, r⟩ := inst_exc I1 x1 x2
    obtain ⟨od', ho', hl⟩ := lookIn_ns hns
    rw [hod] at ho'; cases ho'
    obtain ⟨w, hw, rw'⟩ := RelO.some_of (v := v) (o := mA "value") (by simpa [List.lookup] using r "value")
    exact HandSPX.exc_get I1.kIn J T.ga T.gg T.exC (PySem.W.findObj_own T.hdC nv rfl (by rw [hl, hw])) (handed_of rw') ⟨v, _, I1.tok _, rw', l _ _ _ e1 g1 rv h1⟩
end
end TL

set_option Elab.async false
set_option linter.all false
set_option maxRecDepth 100000
set_option maxHeartbeats 4000000
/-! raise C(e). -/
namespace TL
open PySem PySem.Spec PyProof.Rows L2
structure RaiseOk (W : Wd) (k : Nat) (C : Str) : Prop where
  ex : ∃ (A D fI : Addr) (qual : Str) (params : Arguments) (scope : Scope) (p0 p1 p2 p3 p4 p5 p6 p7 p8 p9 : Pos), W.mg C = some (.ref A) ∧ (p2.endLine == p4.line) = true ∧
    XI.SupC W.P W.K qual params (XI.bodyE p0 p1 p2 p3 p4 p5 p6 p7 p8 p9) scope A D fI ∧ OexC W.K A ∧ PySem.W.findIn W.K (.ref A) "__init__" = some (some (.ref fI)) ∧ PySem.W.typeIn W.K (.ref fI) = some (.type "function")
  su : W.mg "super" = none
  lv : 1 ≤ k
section
variable {W : Wd} {k : Nat} {B : Bnd} {X : Cx} {a : Expr} {pos p rp : Pos} {x : Str}
theorem s_raise {C : Str} {e : E} (c : BodyB W k B X) (o : RaiseOk W k C) (hg : Gl X C) (hC : okName C = true) (hn : nost a = true) (ha : PE X a (tE W B (wpE e))) :
    PS X (.Raise (some (.Call (.Name C p) [a] [] pos)) none rp) (tS W B (wpS (.raise_ C e))) := by
  obtain ⟨A, D, fI, qual, params, scope, p0, p1, p2, p3, p4, p5, p6, p7, p8, p9, h1, h2, h3, h4, h5, h6⟩ := o.ex
  obtain ⟨o1, _, o3⟩ := okName_d hC
  have mC := h1
  have su := o.su
  rw [← c.P, ← c.K] at h3
  rw [← c.K] at h4 h5 h6
  rw [← c.mg] at h1 su
  refine (ps_raise c.calm c.tk (XI.pmk_sup (k := 0) h2 h3 h4 h5 h6 (c.room.mono o.lv) hg h1 su (pa_cons ha pa_nil (star_cons hn)) o1 (star_cons hn))).imp fun D' σ H ⟨env, t, Dp, hH, he, g, re, hx, h, l⟩ => ?_
  subst hH
  rw [wpS, hx] at h
  refine tE_bind rfl he g re h fun d v t1 e1 he1 g1 r1 rd h1' => ?_
  refine ⟨v, rfl, fun q hq => ?_⟩
  have fs := Fst.new (t := t1) (o := .xd [(("value" : Str), v)]) (M := t1.M) (F := fun b => b = q ∨ t1.F b) hq fun _ f => .inr f
  exact ⟨env, t1.add q (.xd [(("value" : Str), v)]), C, d, rfl, he1.trans (Ext.add hq), g1.add hq, r1.ext fs, ⟨A, q, v, mC, rfl, rfl, .inl rfl, upd_same, rd.ext fs⟩, h1'⟩
end
end TL

set_option Elab.async false
set_option linter.all false
set_option maxRecDepth 100000
set_option maxHeartbeats 4000000
/-! _law_heard(lambda: e). -/
namespace TL
open PySem PySem.Spec PyProof.Rows L2
structure HeardOk (W : Wd) (k : Nat) (f : Str) (cs : List Str) : Prop where
  ex : ∃ (g CS : Addr) (oc : Value) (od : Option Addr) (osl : Array (Option Value)) (pg : Arguments) (sg : Scope) (dV kV doc pm cdv ct : Value) (an : Option Addr) (xc : Str) (k1 k2 k3 j1 j2 : Nat) (a1 a2 a3 a4 a5 a6 a7 b1 b2 b3 b4 b5 c1 c2 c3 c4 c5 d1 d2 d3 d4 : Pos),
    W.mg f = some (.ref g) ∧ PySem.W.keepIn W.K (.ref g) = true ∧ W.K.lookup g = some ⟨oc, od, .func (PySem.W.fnOf f f pg (XI.bHeard xc k1 k2 k3 j1 j2 a1 a2 a3 a4 a5 a6 a7 b1 b2 b3 b4 b5 c1 c2 c3 c4 c5 d1 d2 d3 d4) sg dV kV doc pm an cdv ct), osl⟩ ∧
    PySem.W.codeIn W.K cdv f = true ∧ L2.Binds W.K (PySem.W.fnOf f f pg (XI.bHeard xc k1 k2 k3 j1 j2 a1 a2 a3 a4 a5 a6 a7 b1 b2 b3 b4 b5 c1 c2 c3 c4 c5 d1 d2 d3 d4) sg dV kV doc pm an cdv ct) ["look"] [] ∧ FnScope XI.nHeard ["look"] sg ∧
    sg.names.lookup ("look" : Str) = some .local ∧ sg.names.lookup ("caught" : Str) = some .local ∧ sg.names.lookup ("back" : Str) = some .local ∧ sg.names.lookup ("error" : Str) = some .local ∧ sg.names.lookup xc = some .globalImplicit ∧ W.mg xc = some (.ref CS) ∧ (xc == ("__debug__" : Str)) = false ∧
    (∀ env : Env, env.scope = sg → swappedStores [.Tuple [.Name "caught" a1, .Name "back" a2] k1 a3] (.Tuple [.Constant .none j1 a4, .Constant .none j2 a5] k2 a6) env = pure none) ∧
    ∀ C ∈ cs, ∃ A, W.mg C = some (.ref A) ∧ PySem.W.exmOne W.K (.ref A) (.ref CS) = some true
  lv : 2 ≤ k
def onLam (e : Expr) (kk : Arguments → Expr → Scope → Bool) : Bool := match e with | .Lambda p b s _ => kk p b s | _ => false
theorem onLam_inv {e : Expr} {kk} (h : onLam e kk = true) : ∃ p b s q, e = .Lambda p b s q ∧ kk p b s = true := by unfold onLam at h; split at h; exact ⟨_, _, _, _, rfl, h⟩; cases h
def noArgs (a : Arguments) : Bool := match a with | ⟨[], [], none, [], [], none, []⟩ => true | _ => false
theorem noArgs_ok {a : Arguments} (h : noArgs a = true) : a = ⟨[], [], none, [], [], none, []⟩ := by unfold noArgs at h; split at h; rfl; cases h
section
variable {W : Wd} {B : Bnd} {X : Cx}
def tX (W : Wd) (e : E) (E : XK) : TE := fun σ H Q => ∃ (env : En) (st : Sta) (x : XD) (Qp : KD), st.H = H ∧ Good W st ∧ REnv W st env σ ∧ wpE e x env st.M Qp ∧ (∀ cls d H', XEd W st x cls d H' → E cls d H') ∧ Lat W st Qp Q
theorem lam_body {j : Nat} {e : E} {body : Expr} {scope : Scope} {f c' : Addr} (c : CtxB W (j + 2) B X)
    (hb : ∀ (B' : Bnd) (Y : Cx), CtxB W j B' Y → Y.N = X.N → Y.env.scope = scope → Y.fn = (fun _ => false) → PE Y body (tE W B' (wpE e)))
    (A : Around) (outer : List Env) (s : Shared) (H : Hp) (E : XK) (hr : Room j (A.deeper (LamX.lamEnv X scope s.heap.objs.size f c'))) (gd : A.guards = X.A.guards) : PE (LamX.lamCx X A outer s H E scope f c') body (tX W e E) := by
  refine ⟨fun pins s1 σ H1 Q I h => ?_⟩
  obtain ⟨env, st, x, Qp, rfl, g, re, h, hE, l⟩ := h
  have cb : CtxB W j ⟨st, fun _ => x⟩ (LamX.lamCx X A outer s H E scope f c') :=
    { P := c.P, w := c.w, K := c.K, mg := c.mg, base := c.base, room := hr, gd := by show A.guards = _; rw [gd]; exact c.gd, calm := rfl, nd := c.nd
      tk := (takes_of (X := LamX.lamCx X A outer s H E scope f c') (E := E) rfl rfl rfl rfl).imp fun cls d σ' H' ⟨env', t', n, d', h1, h2, h3, h4, h5, h6⟩ => hE _ _ _ ⟨t', n, d', h1, h2, h3, h5, h6⟩ }
  exact (hb _ _ cb rfl rfl rfl).run pins s1 σ st.H Q I ⟨env, st, Qp, rfl, Ext.refl, g, re, h, l⟩
theorem e_heard {k : Nat} {f q : Str} {cs : List Str} {e : E} {body : Expr} {scope : Scope} {p lpos pos : Pos} (c : CtxB W k B X) (o : HeardOk W k f cs) (hq : X.env.qual = q ++ ".<locals>.") (hcd : codeAt X.K q = some X.env.code) (hg : Gl X f) (hf : okName f = true) (L : LamX.LamS X.env.scope scope)
    (hb : ∀ (B' : Bnd) (Y : Cx), CtxB W (k - 2) B' Y → Y.N = X.N → Y.env.scope = scope → Y.fn = (fun _ => false) → PE Y body (tE W B' (wpE e))) :
    PE X (.Call (.Name f p) [.Lambda ⟨[], [], none, [], [], none, []⟩ body scope lpos] [] pos) (tE W B (wpE (.heard f q cs e))) := by
  obtain ⟨g, CS, oc, od, osl, pg, sg, dV, kV, doc, pm, cdv, ct, an, xc, k1, k2, k3, j1, j2, a1, a2, a3, a4, a5, a6, a7, b1, b2, b3, b4, b5, c1, c2, c3, c4, c5, d1, d2, d3, d4, h1, h2, h3, h4, h5, h6, h7, h8, h9, h10, h11, h12, h13, h14, h15⟩ := o.ex
  obtain ⟨j, rfl⟩ : ∃ j, k = j + 2 := ⟨k - 2, by have := o.lv; omega⟩
  obtain ⟨o1, _, o3⟩ := okName_d hf
  refine ⟨fun pins s σ H Q I ⟨env, t, Qp, hH, he, gd, re, h, l⟩ => ?_⟩
  subst hH
  rw [wpE] at h
  obtain ⟨⟨P, hP⟩, hw⟩ := h
  obtain ⟨⟨c0, hc0, tb⟩, tabs⟩ := gd.at_ P _ hP
  have hcode : X.env.code = .ref c0 := by
    unfold tabAt at hc0
    rw [← c.K, hcd] at hc0
    split at hc0
    · rename_i cc ecc
      have ecc' := Option.some.inj ecc
      split at hc0
      · split at hc0
        · split at hc0
          · cases hc0; exact ecc'
          · cases hc0
        · cases hc0
      · cases hc0
    · cases hc0
  rw [← c.base, ← c.mg] at tb
  rw [← c.K] at h2 h3 h4 h5
  rw [← c.mg] at h1 h12
  have G := XI.heard_gives (X := X) (x := f) (xc := xc) (q := X.env.qual ++ "<lambda>") (sg := sg) (g := g) (CS := CS) (cdg := cdv) (k1 := k1) (k2 := k2) (k3 := k3) (j1 := j1) (j2 := j2) (a1 := a1) (a2 := a2) (a3 := a3) (a4 := a4) (a5 := a5) (a6 := a6) (a7 := a7) (b1 := b1) (b2 := b2) (b3 := b3) (b4 := b4) (b5 := b5) (c1 := c1) (c2 := c2) (c3 := c3) (c4 := c4) (c5 := c5) (d1 := d1) (d2 := d2) (d3 := d3) (d4 := d4) h6.kind h7 h8 h9 h10 h11 h12 h13 h14
  refine (XI.lam_call (P := P) (t := tX W e) hg h1 h2 h3 h4 h5 h6 rfl (.inl h7) G tb hcode c.room L rfl (fun _ _ _ _ _ => rfl) (fun A outer s H E f c' r gd' => lam_body c hb A outer s H E r gd') o1 (by decide) (by decide)).run pins s σ t.H Q I ⟨by rw [hq]; exact tabs, fun H1 eP t1s => ?_⟩
  rw [hq] at t1s
  intro T0 hT0 Eh Qv wx wv
  have hPt : ∃ ps, t.H P = some (.tbl ps) := by obtain ⟨ps, e, _⟩ := tabs; exact ⟨ps, e⟩
  obtain ⟨ps, hPt⟩ := hPt
  have Fne : ∀ b, t.F b → b ≠ P := fun b f z => by have := (gd.fr b f).1; rw [z, hP] at this; cases this
  let t1 : Sta := ⟨H1, t.M, t.F⟩
  have x1 : Ext t t1 := ⟨fun b u e m => ⟨eP b u e (fun z => by rw [z, hP] at m; cases m), m⟩, fun _ f => f, fun _ _ _ _ f => f⟩
  have f1 : Fst t t1 := fun b f => ⟨f, fun u e => eP b u e (Fne b f)⟩
  have g1 : Good W t1 := by
    refine ⟨fun b o' e => ?_, fun b f => ?_⟩
    · by_cases hb : b = P
      · subst hb
        rw [show t1.M b = t.M b from rfl, hP] at e; cases e
        exact ⟨⟨c0, hc0, by rw [← c.base, ← c.mg]; exact tb⟩, t1s⟩
      · exact (gd.at_ b o' e).ext f1 (fun cc qq z => eP cc _ z fun y => by rw [y, hPt] at z; exact LamX.codeO_ne _ (Option.some.inj z).symm) fun u z => eP b u z hb
    · obtain ⟨m, u, z⟩ := gd.fr b f
      exact ⟨m, u, eP b u z (Fne b f)⟩
  let t2 : Sta := t1.add T0 (.tup [.non, .non])
  have x2 : Ext t1 t2 := Ext.add hT0
  have g2 : Good W t2 := g1.add hT0
  refine ⟨env, t2, fun C d M1 => C ∈ cs ∧ Qp (.tup [.exc C d, .non]) M1, fun d M1 => Qp (.tup [.non, d]) M1, rfl, g2, (re.ext f1).ext (x2.fst g1), hw, fun cls d H' hx => ?_, fun d v t' e' g' rd q => ?_⟩
  · obtain ⟨t', n, dd, rfl, e', g', ⟨C, d0, v, m1, rfl, rfl, fd, hd, rd⟩, hn, q⟩ := hx
    obtain ⟨A, m2, ex2⟩ := h15 n hn
    rw [m1] at m2; cases m2
    refine wx _ _ _ (by rw [c.K]; exact ex2) fun a ha T hT => ?_
    let t3 : Sta := t'.add a (XI.ExV (.ref C) (some d0) a)
    have x3 : Ext t' t3 := Ext.add ha
    have g3 : Good W t3 := g'.add ha
    have r3 : Rep W t3 (.exc n dd) (.ref a) := by
      simp only [Rep]
      exact ⟨a, C, d0, v, rfl, m1, ⟨.inl rfl, upd_same⟩, ⟨.inr fd, (upd_ne (ne_new ha hd)).trans hd⟩, rd.ext (x3.fst g')⟩
    exact l _ _ (t3.add T (.tup [.ref a, .non])) (x1.trans (x2.trans (e'.trans (x3.trans (Ext.add hT))))) (g3.add hT) (Rep.newTup hT (by show 2 ≤ sizeLine; decide) (Reps.cons r3 (Reps.one (by simp only [Rep])))) q
  · refine wv v t'.H fun T hT => ?_
    exact l _ _ (t'.add T (.tup [.non, v])) (x1.trans (x2.trans (e'.trans (Ext.add hT)))) (g'.add hT) (Rep.newTup hT (by show 2 ≤ sizeLine; decide) (Reps.cons (by simp only [Rep]) (Reps.one rd))) q
end
end TL

set_option Elab.async false
set_option linter.all false
set_option maxRecDepth 100000
set_option maxHeartbeats 4000000
/-! Dict displays, sorted(set(xs)), ranges downwards. -/
namespace TL
open PySem PySem.Spec PyProof.Rows L2
/-! what a set is, sorted -/
theorem once_mem {k : Int} : ∀ {ns : List Int}, k ∈ onceI ns ↔ k ∈ ns
  | [] => Iff.rfl
  | x :: r => by
    simp only [onceI, List.mem_cons, List.mem_filter, decide_eq_true_eq, once_mem (ns := r)]
    by_cases e : k = x <;> simp [e]
theorem once_nodup : ∀ ns : List Int, (onceI ns).Nodup
  | [] => List.nodup_nil
  | x :: r => by
    refine List.nodup_cons.mpr ⟨fun h => ?_, (once_nodup r).filter _⟩
    simp only [List.mem_filter, decide_eq_true_eq] at h
    exact h.2 rfl
theorem once_len (ns : List Int) : (onceI ns).length ≤ ns.length := by
  induction ns with
  | nil => exact Nat.le_refl _
  | cons x r ih =>
    have := List.length_filter_le (fun y => decide (y ≠ x)) (onceI r)
    simp only [onceI, List.length_cons]
    omega
theorem lt_uniq : ∀ {a b : List Int}, a.Pairwise (· < ·) → b.Pairwise (· < ·) → (∀ k, k ∈ a ↔ k ∈ b) → a = b
  | [], [], _, _, _ => rfl
  | [], y :: b, _, _, h => absurd ((h y).mpr List.mem_cons_self) (by simp)
  | x :: a, [], _, _, h => absurd ((h x).mp List.mem_cons_self) (by simp)
  | x :: a, y :: b, ha, hb, h => by
    obtain ⟨a1, a2⟩ := List.pairwise_cons.mp ha
    obtain ⟨b1, b2⟩ := List.pairwise_cons.mp hb
    have e : x = y := by
      rcases List.mem_cons.mp ((h x).mp List.mem_cons_self) with q | q
      · exact q
      · have z1 := b1 x q
        rcases List.mem_cons.mp ((h y).mpr List.mem_cons_self) with p | p
        · exact p.symm
        · have z2 := a1 y p
          omega
    subst e
    rw [lt_uniq a2 b2 fun k => ?_]
    constructor
    · intro q
      have z := a1 k q
      rcases List.mem_cons.mp ((h k).mp (List.mem_cons_of_mem _ q)) with p | p
      · omega
      · exact p
    · intro q
      have z := b1 k q
      rcases List.mem_cons.mp ((h k).mpr (List.mem_cons_of_mem _ q)) with p | p
      · omega
      · exact p
theorem sortSet {ns ks : List Int} (h1 : ns.Pairwise (· < ·)) (h2 : ∀ k, k ∈ ns ↔ k ∈ ks) : ns = sortI (onceI ks) := by
  refine lt_uniq h1 (L2.lt_of_le_nodup _ (sortI_sorted _) ((sortI_perm _).nodup_iff.mpr (once_nodup ks))) fun k => ?_
  rw [h2, (sortI_perm _).mem_iff, once_mem]
def tSSet (K : PySem.W.Frag) (ta : TE) : TE := fun σ H Q => ta σ H fun x H1 => ∃ (l : Addr) (ks : List Int), x = .ref l ∧ SqL K H1 l (ks.map V.int) ∧ ks.length < 60 ∧
  ∀ D o p, H1 D = none → upd H1 D o p = none → Q (.ref p) (upd (upd H1 D o) p (.lst ((sortI (onceI ks)).map V.int)))
theorem pe_sortSet {X : Cx} {a : Expr} {ta : TE} {p p2 q pos : Pos} (hg : Gl X "sorted") (hm : X.mg "sorted" = none) (hg2 : Gl X "set") (hm2 : X.mg "set" = none) (ha : PE X a ta) (hc : X.calm = true)
    (na : starEach [a] X.env = (false, eval a X.env) :: starEach [] X.env) : PE X (.Call (.Name "sorted" p) [.Call (.Name "set" p2) [a] [] q] [] pos) (tSSet X.K ta) := by
  refine ⟨fun pins s σ H Q I h => ?_⟩
  refine Call_ (ld_blt I hg hm PyProof.Rows.boot_sorted ?_)
  refine PyProof.Rows.callWith_builtin1 (PyProof.Rows.args_cons ?_ rfl) rfl rfl
  refine Call_ (ld_blt I hg2 hm2 PyProof.Rows.boot_set ?_)
  refine PyProof.Rows.callWith_type1 (PyProof.Rows.args_cons (thn (ha.run pins s σ H _ I h) fun v s1 ⟨x, H1, I1, r1, q1⟩ => PyProof.Rows.args_nil ?_) na) na rfl
  obtain ⟨l, ks, rfl, hq, hl, q1⟩ := q1
  cases r1
  obtain ⟨its, r, pl, hz⟩ := I1.list hq
  refine XI.set_of_list (P := X.prog) ks (I1.ok.hd hc) pl.isList (by simpa using L2.ints_of_vals r) (by unfold scanBound; omega) fun h' tk c sr cl kp => ?_
  refine PyProof.Rows.args_nil ?_
  have fr := I1.hok.fresh (Nat.le_refl s1.heap.objs.size)
  have I2 : L2.Inv X pins σ (upd H1 s1.heap.objs.size (SetO X.w s1.heap.objs.size (fun j => decide (j ∈ ks)) c)) { s1 with heap := h', toks := tk } := I1.laid kp (Nat.le_refl _) (setO_new sr)
  refine cr_sortedSet hc pins _ σ _ [V.ref s1.heap.objs.size] _ _ I2 (.cons rfl .nil) ⟨_, _, _, rfl, upd_same, by omega, fun ns pp hpw hmm hlen hn => ?_⟩
  have en : ns = sortI (onceI ks) := sortSet hpw fun k => by rw [hmm]; simp
  subst en
  exact q1 _ _ pp fr hn
section
variable {W : Wd} {k : Nat} {B : Bnd} {X : Cx} {a b : Expr} {tg : Expr} {pos p : Pos} {pw pw2 : Wp}
theorem e_sset {fz : Bool} {p2 q : Pos} (c : COk W k X) (hg : Gl X "sorted") (hm : W.mg "sorted" = none) (hg2 : Gl X "set") (hm2 : W.mg "set" = none) (hn : nost a = true) (ha : PE X a (tE W B pw)) :
    PE X (.Call (.Name "sorted" p) [.Call (.Name "set" p2) [a] [] q] [] pos) (tE W B fun x env M Q => pw x env M fun u M1 => oneInts u M1 fun ns => ns.length < 60 ∧ newL fz ((sortI (onceI ns)).map .int) M1 Q) := by
  rw [← c.mg] at hm hm2
  refine (pe_sortSet hg hm hg2 hm2 ha c.calm (star_cons hn)).imp fun σ H Q ⟨env, t, Qp, hH, he, g, re, h, l⟩ => ?_
  subst hH
  refine tE_bind rfl he g re h fun d v t1 e1 he1 g1 r1 rd h1 => ?_
  obtain ⟨xs, ex, h1⟩ := someK_inv h1
  obtain ⟨ns, en, h1, h2⟩ := someK_inv h1
  obtain ⟨q, vs, rfl, b1, b2, b3⟩ := lstOf_at g1 rd ex
  have := ints_rep b3 en; subst this
  rw [← c.K] at b1
  refine ⟨q, ns, rfl, b1, h1, fun D o p n1 n2 => ?_⟩
  refine newL_use (t := t1.hid D o) (g1.hid n1) (fun d v t2 e2 g2 rd q => l d v t2 (e1.trans ((Ext.hid n1).trans e2)) g2 rd q) h2 n2 ?_ (reps_ints _)
  rw [List.length_map, (sortI_perm _).length_eq]
  have := once_len ns
  rw [sizeLine_eq]; omega
/-! ranges downwards -/
theorem rangeC_length (lo c : Int) : ∀ n, (rangeC lo c n).length = n
  | 0 => rfl
  | n + 1 => by simp only [rangeC, List.length_cons, rangeC_length (lo + c) c n]
theorem rangeC_rep {t : Sta} (c : Int) : ∀ (n : Nat) (lo : Int), Reps W t (rangeC lo c n) ((List.range n).map fun i : Nat => V.int (lo + (i : Nat) * c))
  | 0, lo => Reps.nil
  | n + 1, lo => by
    rw [List.range_succ_eq_map]
    simp only [rangeC, List.map_cons, List.map_map]
    refine Reps.cons (by simp [Rep]) ?_
    have e : ((List.range n).map ((fun i : Nat => V.int (lo + (i : Nat) * c)) ∘ Nat.succ)) = (List.range n).map fun i : Nat => V.int ((lo + c) + (i : Nat) * c) := List.map_congr_left fun i _ => by
      simp only [Function.comp]
      congr 1
      have : ((i.succ : Nat) : Int) = (i : Int) + 1 := by omega
      rw [this, Int.add_mul]; omega
    rw [e]
    exact rangeC_rep c n (lo + c)
theorem walk_c {t0 : Sta} {lo c : Int} {n : Nat} : WalkD W t0 (Itc lo c n) ⟨fun _ => True, rangeC lo c n⟩ where
  goes := fun i t d e g hg hd => by
    have : i < (rangeC lo c n).length := (List.getElem?_eq_some_iff.mp hd).1
    rwa [rangeC_length] at this
  stops := fun t e g hg => by show n ≤ _; rw [rangeC_length]; exact Nat.le_refl _
  yields := fun i t x H' d e g hg hd y => by
    obtain ⟨y1, y2⟩ := y
    refine ⟨t, y1.symm, Ext.refl, rfl, g, ?_⟩
    obtain ⟨v, hv, rv⟩ := (rangeC_rep (W := W) (t := t) c n lo).get hd
    have hi : i < n := by
      have : i < (rangeC lo c n).length := (List.getElem?_eq_some_iff.mp hd).1
      rwa [rangeC_length] at this
    rw [List.getElem?_map, List.getElem?_range hi] at hv
    cases hv
    rw [y2]; exact rv
theorem i_rngd {n1 : Nat} {q1 q2 : Pos} (c : COk W k X) (hg : Gl X "range") (hm : W.mg "range" = none) (hn : nost a = true) (hn2 : nost b = true) (ha : PE X a (tE W B pw)) (hb : PE X b (tE W B pw2)) :
    PI X tg (.Call (.Name "range" p) [a, b, .UnaryOp .USub (.Constant (.int 1) n1 q1) q2] [] pos) (tI W B fun x env M Q => pw x env M fun u M1 => pw2 x env M1 fun v M2 => u.asI fun l => v.asI fun h => -(2 ^ 60) ≤ l ∧ l < 2 ^ 60 ∧ -(2 ^ 60) ≤ h ∧ h < 2 ^ 60 ∧ Q ⟨fun _ => True, rangeC l (-1) (l - h).toNat⟩ M2) := by
  rw [← c.mg] at hm
  have h1 : PE X (.UnaryOp .USub (.Constant (.int 1) n1 q1) q2) (tUn (rU fun i => .int (-i)) (tC (.int 1))) := pe_un un_neg pe_int
  refine (pi_range3 hg hm (pa_cons ha (pa_cons hb (pa_cons h1 pa_nil) (star_cons hn2)) (star_cons hn)) (by rw [star_cons hn]) (by rw [star_cons hn2]; rfl)).imp fun σ H R ⟨env, t, Qp, hH, he, g, re, h, l⟩ => ?_
  subst hH
  refine tE_bind rfl he g re h fun d v t1 e1 he1 g1 r1 rd h1 => tE_bind rfl he1 g1 r1 h1 fun d2 v2 t2 e2 he2 g2 r2 rd2 h2 => ?_
  obtain ⟨i, rfl, h3⟩ := D.asI_inv h2
  obtain ⟨j, rfl, z1, z2, z3, z4, h4⟩ := D.asI_inv h3
  have := repI rd; subst this
  have := repI rd2; subst this
  refine ⟨1, rfl, i, j, -1, (i - j).toNat, rfl, RgC.neg (by omega) (by omega) (by omega) (by omega), l _ t2 _ (e1.trans e2) g2 h4 walk_c⟩
/-! dict displays -/
def flatV : List (V × V) → List V
  | [] => []
  | p :: r => p.1 :: p.2 :: flatV r
def tDs (W : Wd) (B : Bnd) (p : XD → En → Mm → (List D → Mm → Prop) → Prop) (σ : L2.St) (H : Hp) (Q : List (V × V) → Hp → Prop) : Prop := ∃ env t Qp, t.H = H ∧ Ext B.t0 t ∧ Good W t ∧ REnv W t env σ ∧ p (B.ex env) env t.M Qp ∧
  ∀ ds ps t', Ext t t' → Good W t' → Reps W t' ds (flatV ps) → Qp ds t'.M → Q ps t'.H
theorem pairs_rep {t : Sta} : ∀ {ps : List (V × V)} {ds : List D} {kvs : List (Key × D)}, Reps W t ds (flatV ps) → pairsOf ds = some kvs → ∃ kws : List (Key × V), ps = kws.map (fun kv => (kV kv.1, kv.2)) ∧ RepKs W t kvs kws
  | [], ds, kvs, h, e => by
    cases ds with
    | nil => cases e; exact ⟨[], rfl, rfl⟩
    | cons d ds => obtain ⟨_, _, z, _⟩ := Reps.cons_inv h; cases z
  | p :: ps, ds, kvs, h, e => by
    cases ds with
    | nil => have := Reps.nil_inv h; cases this
    | cons d ds =>
      obtain ⟨_, _, z, h1, h⟩ := Reps.cons_inv h
      cases z
      cases ds with
      | nil => have := Reps.nil_inv h; cases this
      | cons d2 ds =>
        obtain ⟨_, _, z, h2, h⟩ := Reps.cons_inv h
        cases z
        simp only [pairsOf] at e
        split at e
        · rename_i q kvs' e1 e2
          cases e
          have := keyOf_at h1 e1
          obtain ⟨kws, rfl, f⟩ := pairs_rep h e2
          obtain ⟨p1, p2⟩ := p
          simp only at this
          subst this
          exact ⟨(q, p2) :: kws, rfl, p2, kws, rfl, h2, f⟩
        · cases e
theorem e_ddsp {keys : List (Option Expr)} {vals : List Expr} {trs : List (TE × TE)} {pl : WpL} (h : PPs X pos keys vals trs) (hall : keys.all (·.isSome) = true) (hl : keys.length = vals.length) (h0 : keys ≠ []) (h15 : keys.length ≤ 15)
    (ht : ∀ σ H Q, tDs W B pl σ H Q → tPairs trs σ H Q) : PE X (.Dict keys vals pos) (tE W B fun x env M Q => pl x env M fun ds M1 => someK (pairsOf ds) fun kvs => kvs.length ≤ 15 ∧ ∀ p, M1 p = none → Q (.ref p) (mput M1 p (.dct (kmerge [] kvs)))) := by
  refine (pe_disp h hall hl h0 h15).imp fun σ H Q ⟨env, t, Qp, hH, he, g, re, h, l⟩ => ?_
  subst hH
  intro p hp
  refine ht _ _ _ ⟨env, t.hid p (.dK []), _, rfl, he.trans (Ext.hid hp), g.hid hp, re.ext ((Ext.hid hp).fst g), h, fun ds ps t' e g' r q => ?_⟩
  have m1 : t.M p = none := g.fresh hp
  obtain ⟨k1, k2⟩ := e.keep p (.dK []) upd_same m1
  obtain ⟨kvs, e1, z, q⟩ := someK_inv q
  obtain ⟨kws, rfl, rk⟩ := pairs_rep r e1
  have hlen := rk.length
  refine ⟨k1, kws, rfl, by omega, ?_⟩
  have nf : ¬ t'.F p := fun f => g.notF hp (e.old p (.dK []) upd_same m1 f)
  have rm : RepKs W t' (kmerge [] kvs) (L2.mergeK [] kws) := rk.merge (kvs := []) (vs := []) rfl
  have lm := L2.length_mergeK kws []
  simp only [List.length_nil] at lm
  refine l (.ref p) (.ref p) (t'.put p (.dK (L2.mergeK [] kws)) (.dct (kmerge [] kvs))) ⟨fun a o ha na => ?_, fun a f => e.grow a f, fun a o ha na f => ?_⟩ (g'.put_ nf (fun c q z => by rw [k1] at z; cases z) ⟨_, upd_same, by rw [sizeLine_eq]; omega, rm.ext (Fst.put nf)⟩) Rep.ref (q p k2)
  · have ne : a ≠ p := ne_new hp ha
    obtain ⟨a1, a2⟩ := e.keep a o (by show upd t.H p _ a = _; rw [upd_ne ne]; exact ha) na
    exact ⟨by show upd t'.H p _ a = _; rw [upd_ne ne]; exact a1, by show mput t'.M p _ a = _; rw [mput_ne ne]; exact a2⟩
  · have ne : a ≠ p := ne_new hp ha
    exact e.old a o (by show upd t.H p _ a = _; rw [upd_ne ne]; exact ha) na f
end
end TL

set_option Elab.async false
set_option linter.all false
set_option maxRecDepth 100000
set_option maxHeartbeats 4000000
/-! enumerate(zip(a, b)): the zip's tuples stay out, as the items of the other's. -/
namespace XI
open PySem PySem.Spec PyProof.Rows L2
open Builtin.SmallTypes (nextOf)
section
variable {P : Program} {w : World} {A : Around} {E : Value → Shared → Prop} {s : Shared} {z TI TO i1 i2 : Addr} {fa fb : List Addr} {na nb i : Nat} {Pa Pb : Nat → Value → Prop} {Sa Sb : Nat → Heap → Prop}
/-- a zip: the tuple that it keeps (none, or one that is out or gone), whether it knows that it is out -/
abbrev IsZ (h : Heap) (z TI TO : Addr) (v : Value) (f : Bool) : Prop := h.get? z = some ⟨.type "zip", none, .fields #[v, .bool f, .bool false, .ref TI, .ref TO], #[]⟩
def ZS (h : Heap) (z TI TO : Addr) : Prop := (∃ v f, IsZ h z TI TO v f ∧ (v = .none ∨ ∃ T : Addr, v = rawInt T)) ∧ ∃ x y, IsTupOf2 h TO x y
theorem alive_cases {a : Addr} {Q : Option Obj → Shared → Prop} (h : ∀ o, Q o s) : wpAny (model P w) A (loadIfAlive a) Q E s := fun Γ p _ => by
  unfold loadIfAlive
  simp only [Sem.wp]
  exact h _
theorem free_cases {v : Value} {f : Bool} {Q : Bool → Shared → Prop} (hz : IsZ s.heap z TI TO v f) (hv : v = .none ∨ ∃ T : Addr, v = rawInt T) (yes : Q true s) (no : ∀ h', IsZ h' z TI TO v true → Heap.SameBut z s.heap h' → Q false { s with heap := h' }) :
    wpAny (model P w) A (Builtin.SmallTypes.ownedTupleIsFree (.ref z)) Q E s := by
  unfold Builtin.SmallTypes.ownedTupleIsFree
  refine wpAny_bind (wpAny_field hz rfl (x := v) rfl ?_)
  rcases hv with rfl | ⟨T, rfl⟩
  · exact wpAny_pure yes
  · refine wpAny_bind (m := loadIfAlive _) (alive_cases fun o => ?_)
    cases o with
    | none => exact wpAny_pure yes
    | some o =>
      simp only [Option.isNone_some, Bool.false_eq_true, if_false]
      refine wpAny_bind (wpAny_field hz rfl (x := .bool f) rfl ?_)
      cases f with
      | true =>
        rw [if_neg (by decide)]
        exact wpAny_pure (no s.heap hz (Heap.SameBut.refl _ _))
      | false =>
        rw [if_pos (by decide)]
        exact wpAny_bind (wpAny_setField_rec hz (by simp) fun g z1 k1 => wpAny_pure (no g z1 k1))
/-- it hands out a new tuple -/
theorem zip_gives {Q : Value → Shared → Prop} (S : ZipSep2 z TI TO i1 i2 fa fb) (Da : Draws P w A i1 fa na Pa Sa) (Db : Draws P w A i2 fb nb Pb Sb) (hz : ZS s.heap z TI TO) (hTI : IsTupOf2 s.heap TI (.ref i1) (.ref i2))
    (sa : Sa i s.heap) (sb : Sb i s.heap) (la : i < na) (lb : i < nb)
    (fin : ∀ u v h' tk, Pa i u → Pb i v → ZS h' z TI TO → Sa (i + 1) h' → Sb (i + 1) h' → IsTupOf2 h' s.heap.objs.size u v → h'.objs.size = s.heap.objs.size + 1 →
      (∀ c o, c ≠ z → c ≠ TO → c ≠ i1 → c ≠ i2 → s.heap.get? c = some o → h'.get? c = some o) → Q (.ref s.heap.objs.size) { s with heap := h', toks := tk }) :
    wpAny (model P w) A (Builtin.«zip.__next__» ⟨[.ref z], []⟩) (fun r y => ∃ v, r = .done (.ret v) ∧ Q v y) E s := by
  obtain ⟨⟨f0, fl, hz, hv⟩, x0, y0, hTO⟩ := hz
  have e1 : z ≠ i1 := S.zi1
  have e2 : z ≠ i2 := S.zi2
  refine wpAny_bind (m := field (.ref z) 2) (wpAny_field hz rfl (x := .bool false) rfl ?_)
  refine wpAny_bind (m := field (.ref z) 3) (wpAny_field hz rfl (x := .ref TI) rfl ?_)
  refine wpAny_bind (wpAny_seqItems hTI rfl ?_)
  refine wpAny_bind (m := Builtin.SmallTypes.ownedTupleIsFree (.ref z)) (free_cases hz hv ?free fun g1 z1 k1 => ?held)
  case held =>
    simp only [Bool.false_eq_true, if_false]
    refine wpAny_bind ?_
    rw [← Array.forIn_toList]
    simp only [List.forIn_cons, List.forIn_nil]
    refine wpAny_bind (wpAny_bind (wpAny_holding ?_))
    refine wpAny_bind (m := nextOf (.ref i1)) (Da.item i { s with heap := g1 } _ _ la (Da.over sa k1 S.zf1) fun u g2 t2 pu su k2 => wpAny_pure (wpAny_pure ?_))
    refine wpAny_bind (wpAny_bind (wpAny_holding ?_))
    refine wpAny_bind (m := nextOf (.ref i2)) (Db.item i { s with heap := g2, toks := t2 } _ _ lb (Db.over (Db.over sb k1 S.zf2) k2 S.sep1_2) fun v g3 t3 pv sv k3 => wpAny_pure (wpAny_pure (wpAny_pure ?_)))
    refine wpAny_bind (m := newTuple [u, v]) (wpAny_newTuple (wpAny_pure ⟨_, rfl, ?_⟩))
    replace k2 : Heap.SameBut i1 g1 g2 := k2
    replace k3 : Heap.SameBut i2 g2 g3 := k3
    have hs : g3.objs.size = s.heap.objs.size := by rw [k3.1, k2.1, k1.1]
    have up : ∀ {c : Addr} {o : Obj}, g3.get? c = some o → (g3.push { cls := .type "tuple", data := .seq #[u, v] }).get? c = some o := fun e => Heap.get?_push_of_some _ e
    have z3 : IsZ g3 z TI TO f0 true := k3.extBut _ _ e2 (k2.extBut _ _ e1 z1)
    have kp : ∀ c o, c ≠ z → c ≠ i1 → c ≠ i2 → s.heap.get? c = some o → g3.get? c = some o := fun c o c1 c2 c3 e => k3.extBut _ _ c3 (k2.extBut _ _ c2 (k1.extBut _ _ c1 e))
    have sa3 : Sa (i + 1) g3 := Da.over su k3 S.sep2_1
    have gp : IsTupOf2 (g3.push { cls := .type "tuple", data := .seq #[u, v] }) g3.objs.size u v := Heap.get?_push_size _ rfl
    have gz : (g3.push { cls := .type "tuple", data := .seq #[u, v] }).objs.size = g3.objs.size + 1 := Heap.size_push ..
    show Q (.ref g3.objs.size) _
    rw [hs] at gp gz ⊢
    exact fin u v _ t3 pu pv ⟨⟨f0, true, up z3, hv⟩, x0, y0, up (kp TO _ S.TOz S.Ti1 S.Ti2 hTO)⟩ (Da.frame _ _ _ sa3 fun b _ o e => up e) (Db.frame _ _ _ sv fun b _ o e => up e) gp gz fun c o c1 _ c3 c4 e => up (kp c o c1 c3 c4 e)
  case free =>
    simp only [if_true]
    refine wpAny_bind (wpAny_rule (wpAny_bind (wpAny_field hz rfl (x := .ref TO) rfl ?_)))
    refine wpAny_bind (wpAny_setField_rec hz (by simp) fun g1 z1 k1 => ?_)
    replace z1 : IsZ g1 z TI TO .ellipsis fl := z1
    replace k1 : Heap.SameBut z s.heap g1 := k1
    refine wpAny_bind ?_
    simp only [List.zipIdx_cons, List.zipIdx_nil, List.forIn_cons, List.forIn_nil]
    refine wpAny_bind (wpAny_bind (wpAny_onRaise ?_))
    refine wpAny_bind (m := nextOf (.ref i1)) (Da.item i { s with heap := g1 } _ _ la (Da.over sa k1 S.zf1) fun u g2 t2 pu su k2 => wpAny_pure ?_)
    replace k2 : Heap.SameBut i1 g1 g2 := k2
    have o2 : IsTupOf2 g2 TO x0 y0 := k2.extBut _ _ S.Ti1 (k1.extBut _ _ S.TOz hTO)
    refine wpAny_bind (wpAny_seqItems (s := { s with heap := g2, toks := t2 }) o2 rfl ?_)
    refine wpAny_bind (updateSeq_IsTupOf2 (s := { s with heap := g2, toks := t2 }) o2 fun g3 o3 k3 => ?_)
    replace o3 : IsTupOf2 g3 TO u y0 := o3
    replace k3 : Heap.SameBut TO g2 g3 := k3
    refine wpAny_bind (wpAny_letGo (wpAny_pure ?_))
    refine wpAny_bind (wpAny_bind (wpAny_onRaise ?_))
    refine wpAny_bind (m := nextOf (.ref i2)) (Db.item i { s with heap := g3, toks := t2 } _ _ lb (Db.over (Db.over (Db.over sb k1 S.zf2) k2 S.sep1_2) k3 S.Tf2) fun v g4 t4 pv sv k4 => wpAny_pure ?_)
    replace k4 : Heap.SameBut i2 g3 g4 := k4
    have o4 : IsTupOf2 g4 TO u y0 := k4.extBut _ _ S.Ti2 o3
    refine wpAny_bind (wpAny_seqItems (s := { s with heap := g4, toks := t4 }) o4 rfl ?_)
    refine wpAny_bind (updateSeq_IsTupOf2 (s := { s with heap := g4, toks := t4 }) o4 fun g5 o5 k5 => ?_)
    replace o5 : IsTupOf2 g5 TO u v := o5
    replace k5 : Heap.SameBut TO g4 g5 := k5
    refine wpAny_bind (wpAny_letGo (wpAny_pure (wpAny_pure ?_)))
    refine wpAny_bind (wpAny_seqItems (s := { s with heap := g5, toks := t4 }) o5 rfl ?_)
    refine wpAny_bind (m := newTuple [u, v]) (wpAny_newTuple ?_)
    have hs : g5.objs.size = s.heap.objs.size := by rw [k5.1, k4.1, k3.1, k2.1, k1.1]
    have z5 : IsZ g5 z TI TO .ellipsis fl := k5.extBut _ _ S.TOz.symm (k4.extBut _ _ e2 (k3.extBut _ _ S.TOz.symm (k2.extBut _ _ e1 z1)))
    have kp : ∀ c o, c ≠ z → c ≠ TO → c ≠ i1 → c ≠ i2 → s.heap.get? c = some o → g5.get? c = some o := fun c o c1 c2 c3 c4 e =>
      k5.extBut _ _ c2 (k4.extBut _ _ c4 (k3.extBut _ _ c2 (k2.extBut _ _ c3 (k1.extBut _ _ c1 e))))
    have sa5 : Sa (i + 1) g5 := Da.over (Da.over (Da.over su k3 S.Tf1) k4 S.sep2_1) k5 S.Tf1
    have sb5 : Sb (i + 1) g5 := Db.over sv k5 S.Tf2
    have lz : z < g5.objs.size := Heap.lt_size z5
    have z6 : IsZ (g5.push { cls := .type "tuple", data := .seq #[u, v] }) z TI TO .ellipsis fl := Heap.get?_push_of_some _ z5
    have q6 : IsTupOf2 (g5.push { cls := .type "tuple", data := .seq #[u, v] }) g5.objs.size u v := Heap.get?_push_size _ rfl
    have s6 : (g5.push { cls := .type "tuple", data := .seq #[u, v] }).objs.size = g5.objs.size + 1 := Heap.size_push ..
    have u6 : ∀ {c : Addr} {o : Obj}, g5.get? c = some o → (g5.push { cls := .type "tuple", data := .seq #[u, v] }).get? c = some o := fun e => Heap.get?_push_of_some _ e
    generalize g5.push { cls := .type "tuple", data := .seq #[u, v] } = g6 at z6 q6 s6 u6
    refine wpAny_bind (m := Builtin.SmallTypes.ownedTupleHandOut (.ref z) (.ref g5.objs.size)) ?_
    unfold Builtin.SmallTypes.ownedTupleHandOut
    refine wpAny_bind (wpAny_setField_rec (s := { s with heap := g6, toks := t4 }) z6 (by simp) fun g7 z7 k7 => ?_)
    replace z7 : IsZ g7 z TI TO (rawInt g5.objs.size) fl := z7
    replace k7 : Heap.SameBut z g6 g7 := k7
    refine wpAny_setField_rec (s := { s with heap := g7, toks := t4 }) z7 (by simp) fun g8 z8 k8 => ?_
    replace z8 : IsZ g8 z TI TO (rawInt g5.objs.size) false := z8
    replace k8 : Heap.SameBut z g7 g8 := k8
    have u8 : ∀ {c : Addr} {o : Obj}, c ≠ z → g6.get? c = some o → g8.get? c = some o := fun c1 e => k8.extBut _ _ c1 (k7.extBut _ _ c1 e)
    have q8 : IsTupOf2 g8 g5.objs.size u v := u8 (Nat.ne_of_gt lz) q6
    have s8 : g8.objs.size = g5.objs.size + 1 := by rw [k8.1, k7.1, s6]
    refine wpAny_pure ⟨_, rfl, ?_⟩
    show Q (.ref g5.objs.size) { s with heap := g8, toks := t4 }
    rw [hs] at q8 s8 z8 ⊢
    exact fin u v g8 t4 pu pv ⟨⟨_, false, z8, .inr ⟨_, rfl⟩⟩, u, v, u8 S.TOz (u6 o5)⟩ (Da.frame _ _ _ sa5 fun b hb o e => u8 (fun q => S.zf1 (q ▸ hb)) (u6 e)) (Db.frame _ _ _ sb5 fun b hb o e => u8 (fun q => S.zf2 (q ▸ hb)) (u6 e)) q8 s8
      fun c o c1 c2 c3 c4 e => u8 c1 (u6 (kp c o c1 c2 c3 c4 e))
/-- .. and ends, when its first is at an end -/
theorem zip_ends {Q : Fin → Shared → Prop} (S : ZipSep2 z TI TO i1 i2 fa fb) (Da : Draws P w A i1 fa na Pa Sa) (hz : ZS s.heap z TI TO) (hTI : IsTupOf2 s.heap TI (.ref i1) (.ref i2)) (sa : Sa na s.heap)
    (fin : ∀ h' tk e, (∀ c o, c ≠ z → c ≠ TO → c ≠ i1 → c ≠ i2 → s.heap.get? c = some o → h'.get? c = some o) → (∃ o, h'.get? e = some o ∧ o.cls = .type "StopIteration") → E (.ref e) { s with heap := h', toks := tk }) :
    wpAny (model P w) A (Builtin.«zip.__next__» ⟨[.ref z], []⟩) Q E s := by
  obtain ⟨⟨f0, fl, hz, hv⟩, x0, y0, hTO⟩ := hz
  refine wpAny_bind (m := field (.ref z) 2) (wpAny_field hz rfl (x := .bool false) rfl ?_)
  refine wpAny_bind (m := field (.ref z) 3) (wpAny_field hz rfl (x := .ref TI) rfl ?_)
  refine wpAny_bind (wpAny_seqItems hTI rfl ?_)
  refine wpAny_bind (m := Builtin.SmallTypes.ownedTupleIsFree (.ref z)) (free_cases hz hv ?free fun g1 z1 k1 => ?held)
  case held =>
    simp only [Bool.false_eq_true, if_false]
    refine wpAny_bind ?_
    rw [← Array.forIn_toList]
    simp only [List.forIn_cons, List.forIn_nil]
    refine wpAny_bind (wpAny_bind (wpAny_holding ?_))
    refine wpAny_bind (m := nextOf (.ref i1)) (Da.done { s with heap := g1 } _ _ (Da.over sa k1 S.zf1) fun g2 ex k2 he => ?_)
    exact fin g2 s.toks ex (fun c o c1 _ c3 c4 e => k2 _ _ c3 (k1.extBut _ _ c1 e)) he
  case free =>
    simp only [if_true]
    refine wpAny_bind (wpAny_rule (wpAny_bind (wpAny_field hz rfl (x := .ref TO) rfl ?_)))
    refine wpAny_bind (wpAny_setField_rec hz (by simp) fun g1 z1 k1 => ?_)
    replace z1 : IsZ g1 z TI TO .ellipsis fl := z1
    replace k1 : Heap.SameBut z s.heap g1 := k1
    refine wpAny_bind ?_
    simp only [List.zipIdx_cons, List.zipIdx_nil, List.forIn_cons, List.forIn_nil]
    refine wpAny_bind (wpAny_bind (wpAny_onRaise ?_))
    refine wpAny_bind (m := nextOf (.ref i1)) (Da.done { s with heap := g1 } _ _ (Da.over sa k1 S.zf1) fun g2 ex k2 he => ?_)
    replace k2 : Heap.ExtBut i1 g1 g2 := k2
    obtain ⟨oe, h1, h2⟩ := he
    replace h1 : g2.get? ex = some oe := h1
    have z2 : IsZ g2 z TI TO .ellipsis fl := k2 _ _ S.zi1 z1
    have ne : ex ≠ z := fun q => by subst q; rw [z2] at h1; cases h1; simp at h2
    refine wpAny_setField_rec (s := { s with heap := g2 }) z2 (by simp) fun g3 _ k3 => ?_
    replace k3 : Heap.SameBut z g2 g3 := k3
    exact fin g3 s.toks ex (fun c o c1 _ c3 c4 e => k3.extBut _ _ c1 (k2 _ _ c3 (k1.extBut _ _ c1 e))) ⟨oe, k3.extBut _ _ ne h1, h2⟩
theorem nextOf_zip {Q : Value → Shared → Prop} (hz : s.TypeIs (.ref z) "zip") (h : wpAny (model P w) A.in1 (Builtin.«zip.__next__» ⟨[.ref z], []⟩) (fun r y => ∃ v, r = .done (.ret v) ∧ Q v y) E s) : wpAny (model P w) A (nextOf (.ref z)) Q E s := by
  unfold Builtin.SmallTypes.nextOf
  refine wpAny_bind (wpAny_callSpecial?_slot (name := Str.ofString "__next__") hz F.slot_zip_next (wpAny_call_entry F.slot_zip_next hz F.entry_zip_next (wpAny_mono h (fun r y q => ?_) fun _ _ q => q) (F.args_zip_next_1 _)))
  obtain ⟨v, e, q⟩ := q
  exact ⟨v, e, wpAny_pure q⟩
/-- the other: a new tuple of the place and what came -/
theorem enum_gives {ad it : Addr} {i : Int} {old : Value} {Pn : Value → Heap → Prop} {Q : Value → Shared → Prop} (he : IsEnum s.heap ad it i old)
    (nx : ∀ Q' : Value → Shared → Prop, (∀ v g tk, Pn v g → g.get? ad = s.heap.get? ad → Q' v { s with heap := g, toks := tk }) → wpAny (model P w) A (nextOf (.ref it)) Q' E s)
    (fin : ∀ v g h' tk, Pn v g → IsEnumOut h' ad it (i + 1) v g.objs.size → h'.get? g.objs.size = some { cls := .type "tuple", data := .seq #[.int i tk, v] } → h'.objs.size = g.objs.size + 1 →
      (∀ b o, b ≠ ad → g.get? b = some o → h'.get? b = some o) → Q (.ref g.objs.size) { s with heap := h', toks := tk + 1 }) :
    wpAny (model P w) A (Builtin.«enumerate.__next__» ⟨[.ref ad], []⟩) (fun r y => ∃ v, r = .done (.ret v) ∧ Q v y) E s := by
  refine wpAny_bind (m := field (.ref ad) 2) (wpAny_field he rfl (x := .ref it) rfl ?_)
  refine wpAny_bind (m := nextOf (.ref it)) (nx _ fun v g tk pn ke => ?_)
  have e1 : IsEnum g ad it i old := ke.trans he
  refine wpAny_bind (m := field (.ref ad) 3) (wpAny_field (s := { s with heap := g, toks := tk }) e1 rfl (x := rawInt i) rfl ?_)
  refine wpAny_bind (m := field (.ref ad) 4) (wpAny_field (s := { s with heap := g, toks := tk }) e1 rfl (x := .none) rfl ?_)
  refine wpAny_bind (m := mkInt i) (wpAny_mkInt ?_)
  refine wpAny_bind (m := setField (.ref ad) 3 (rawInt (i + 1))) (wpAny_setField_rec (s := { s with heap := g, toks := tk + 1 }) e1 (by simp) fun g2 e2 k2 => ?_)
  replace e2 : IsEnum g2 ad it (i + 1) old := e2
  replace k2 : Heap.SameBut ad g g2 := k2
  refine wpAny_bind (m := setField (.ref ad) 4 .none) (wpAny_setField_rec (s := { s with heap := g2, toks := tk + 1 }) e2 (by simp) fun g3 e3 k3 => ?_)
  replace e3 : IsEnum g3 ad it (i + 1) old := e3
  replace k3 : Heap.SameBut ad g2 g3 := k3
  refine wpAny_bind (m := newTuple [.int i tk, v]) (wpAny_newTuple ?_)
  have sz : g3.objs.size = g.objs.size := by rw [k3.1, k2.1]
  have la : ad < g.objs.size := Heap.lt_size e1
  have e4 : IsEnum (g3.push { cls := .type "tuple", data := .seq #[.int i tk, v] }) ad it (i + 1) old := Heap.get?_push_of_some _ e3
  have q4 : (g3.push { cls := .type "tuple", data := .seq #[.int i tk, v] }).get? g.objs.size = some { cls := .type "tuple", data := .seq #[.int i tk, v] } := by rw [← sz]; exact Heap.get?_push_size _ rfl
  have z4 : (g3.push { cls := .type "tuple", data := .seq #[.int i tk, v] }).objs.size = g.objs.size + 1 := by rw [Heap.size_push, sz]
  have kp : ∀ b o, b ≠ ad → g.get? b = some o → (g3.push { cls := .type "tuple", data := .seq #[.int i tk, v] }).get? b = some o := fun b o hb e => Heap.get?_push_of_some _ (k3.extBut b o hb (k2.extBut b o hb e))
  generalize g3.push { cls := .type "tuple", data := .seq #[.int i tk, v] } = g4 at e4 q4 z4 kp
  rw [sz]
  clear e3 k3 e2 k2 sz
  refine wpAny_bind (m := Builtin.SmallTypes.ownedTupleIsFree (.ref ad)) ?_
  unfold Builtin.SmallTypes.ownedTupleIsFree
  refine wpAny_bind (wpAny_field (s := { s with heap := g4, toks := tk + 1 }) e4 rfl (x := .none) rfl (wpAny_pure ?_))
  simp only [if_true]
  refine wpAny_bind (wpAny_rule (wpAny_bind (wpAny_field (s := { s with heap := g4, toks := tk + 1 }) e4 rfl (x := old) rfl ?_)))
  refine wpAny_bind (wpAny_setField_rec (s := { s with heap := g4, toks := tk + 1 }) e4 (by simp) fun g5 e5 k5 => ?_)
  replace e5 : IsEnum g5 ad it (i + 1) v := e5
  replace k5 : Heap.SameBut ad g4 g5 := k5
  refine wpAny_bind (m := Builtin.SmallTypes.ownedTupleHandOut (.ref ad) (.ref g.objs.size)) ?_
  unfold Builtin.SmallTypes.ownedTupleHandOut
  refine wpAny_bind (wpAny_setField_rec (s := { s with heap := g5, toks := tk + 1 }) e5 (by simp) fun g6 e6 k6 => ?_)
  replace e6 : IsEnumOut g6 ad it (i + 1) v g.objs.size := e6
  replace k6 : Heap.SameBut ad g5 g6 := k6
  refine wpAny_setField_rec (s := { s with heap := g6, toks := tk + 1 }) e6 (by simp) fun g7 e7 k7 => ?_
  replace e7 : IsEnumOut g7 ad it (i + 1) v g.objs.size := e7
  replace k7 : Heap.SameBut ad g6 g7 := k7
  have upd7 : ∀ b o, b ≠ ad → g4.get? b = some o → g7.get? b = some o := fun b o hb e => k7.extBut b o hb (k6.extBut b o hb (k5.extBut b o hb e))
  exact wpAny_bind (wpAny_letGo (wpAny_pure ⟨_, rfl, fin v g g7 tk pn e7 (upd7 _ _ (Nat.ne_of_gt la) q4) (by rw [k7.1, k6.1, k5.1, z4]) fun b o hb e => upd7 b o hb (kp b o hb e)⟩))
theorem pyNext_enum {ad it : Addr} {i : Int} {old : Value} {Q : Option Value → Shared → Prop} (he : IsEnum s.heap ad it i old)
    (h : wpAny (model P w) A.in1 (Builtin.«enumerate.__next__» ⟨[.ref ad], []⟩) (fun r y => ∃ v, r = .done (.ret v) ∧ Q (some v) y)
      (fun e y => (∃ a o, e = .ref a ∧ y.heap.get? a = some o ∧ o.cls = .type "StopIteration") ∧ Q none y) s) : wpAny (model P w) A (pyNext (.ref ad)) Q E s := by
  have hT : s.TypeIs (.ref ad) "enumerate" := ⟨_, he, rfl⟩
  unfold pyNext
  refine wpAny_bind (wpAny_attempt (wpAny_callSpecial?_slot (name := Str.ofString "__next__") hT F.slot_enumerate_next (wpAny_call_entry F.slot_enumerate_next hT F.entry_enumerate_next (wpAny_mono h (fun r y q => ?_) fun e y q => ?_) (F.args_enumerate_next_1 _))))
  · obtain ⟨v, e, q⟩ := q
    exact ⟨v, e, wpAny_pure q⟩
  · obtain ⟨⟨a, o, rfl, ho, hc⟩, q⟩ := q
    exact wpAny_bind (wpAny_isInstance (T := "StopIteration") (b := true) ⟨o, ho, hc⟩ isSubtype_stop (wpAny_pure q))
end
end XI

set_option Elab.async false
set_option linter.all false
set_option maxRecDepth 100000
set_option maxHeartbeats 4000000
/-! for n, (x, y) in enumerate(zip(tuple, list)). -/
namespace TL
open PySem PySem.Spec PyProof.Rows L2 XI
/-- the tuple at a and the list at b, side by side: new pairs in new pairs -/
def IteZ (K : PySem.W.Frag) (a b : Addr) : L2.It :=
  ⟨fun i H => ∃ (xs ys : List V) (x y : V), SqT K H a xs ∧ SqL K H b ys ∧ xs[i]? = some x ∧ ys[i]? = some y,
   fun i H v H' => ∃ T U x y, v = .ref U ∧ H T = none ∧ upd H T (.tup [x, y]) U = none ∧ H' = upd (upd H T (.tup [x, y])) U (.tup [.int (i : Nat), .ref T]) ∧ (∀ xs, SqT K H a xs → xs[i]? = some x) ∧ ∀ ys, SqL K H b ys → ys[i]? = some y,
   fun i H => ∃ xs ys : List V, SqT K H a xs ∧ SqL K H b ys ∧ xs.length = i⟩
theorem six {ad z TI TO i1 i2 b : Addr} (h : b ∈ [ad, z, TI, TO, i1, i2]) : b = ad ∨ b = z ∨ b = TI ∨ b = TO ∨ b = i1 ∨ b = i2 := by simpa using h
structure EzSep (a b ad z TI TO i1 i2 : Addr) : Prop where
  S : ZipSep2 z TI TO i1 i2 [i1, a] [i2, b]
  az : ad ≠ z
  aTI : ad ≠ TI
  aTO : ad ≠ TO
  ai1 : ad ≠ i1
  ai2 : ad ≠ i2
  a1 : a ≠ i1
  b2 : b ≠ i2
theorem sep_new {a b n : Nat} (la : a < n) (lb : b < n) : EzSep a b (n + 5) (n + 4) (n + 2) (n + 3) n (n + 1) where
  S := by
    have ne : ∀ {x y : Nat}, x < y ∨ y < x → ¬ ((x : Addr) = (y : Addr)) := fun {x y} h e => by
      have e' : (x : Nat) = y := e
      omega
    constructor <;> simp only [ne_eq, List.mem_cons, List.mem_singleton, List.not_mem_nil, or_false, not_or, true_or] <;> first | exact ne (by omega) | exact ⟨ne (by omega), ne (by omega)⟩
  az := by simp
  aTI := by simp
  aTO := by simp
  ai1 := by simp
  ai2 := by simp
  a1 := Nat.ne_of_lt la
  b2 := Nat.ne_of_lt (Nat.lt_succ_of_lt lb)
theorem turn_ezip {P : Program} {w : World} {K : PySem.W.Frag} {elts : List Expr} {kk : Nat} {tpos : Pos} {a b ad z TI TO i1 i2 : Addr} (D : EzSep a b ad z TI TO i1 i2) :
    Turn P w K (.Tuple elts kk tpos) (IteZ K a b) [ad, z, TI, TO, i1, i2] ad (fun i h => (∃ old, IsEnum h ad z ((i : Nat) : Int) old) ∧ ZS h z TI TO ∧ IsTupOf2 h TI (.ref i1) (.ref i2) ∧ h.IsTupleIter i1 a i ∧ h.IsListIter i2 b i) where
  mem := by simp
  obj := fun i h st c hc => by
    obtain ⟨⟨old, he⟩, ⟨⟨v, f, hz, _⟩, x, y, hTO⟩, hTI, ⟨o1, e1, _, d1⟩, ⟨o2, e2, _, d2⟩⟩ := st
    rcases six hc with q | q | q | q | q | q
    · rw [q]; exact ⟨_, he, fun v q => nomatch q⟩
    · rw [q]; exact ⟨_, hz, fun v q => nomatch q⟩
    · rw [q]; exact ⟨_, hTI, fun v q => nomatch q⟩
    · rw [q]; exact ⟨_, hTO, fun v q => nomatch q⟩
    · rw [q]; exact ⟨o1, e1, fun v q => by rw [d1] at q; cases q⟩
    · rw [q]; exact ⟨o2, e2, fun v q => by rw [d2] at q; cases q⟩
  keep := fun i h h' st k => by
    obtain ⟨⟨old, he⟩, ⟨⟨v, f, hz, hv⟩, x, y, hTO⟩, hTI, h1, h2⟩ := st
    exact ⟨⟨old, k ad (by simp) _ he⟩, ⟨⟨v, f, k z (by simp) _ hz, hv⟩, x, y, k TO (by simp) _ hTO⟩, k TI (by simp) _ hTI, h1.at fun o q => k i1 (by simp) o q, h2.at fun o q => k i2 (by simp) o q⟩
  item := by
    intro X hP hw hK hc i pins s σ H E I hf st hg
    subst hP hw hK
    obtain ⟨⟨old, he⟩, hz, hTI, h1, h2⟩ := st
    obtain ⟨xs, ys, x, y, hqx, hqy, hx, hy⟩ := hg
    obtain ⟨its, rv, p, _⟩ := I.tuple hqx
    obtain ⟨its2, rv2, p2, _⟩ := I.list hqy
    obtain ⟨u, hu, ru⟩ := rv.get hx
    obtain ⟨u2, hu2, ru2⟩ := rv2.get hy
    have la : i < its.toArray.size := by have := (List.getElem?_eq_some_iff.mp hu).1; simpa using this
    have lb : i < its2.toArray.size := by have := (List.getElem?_eq_some_iff.mp hu2).1; simpa using this
    have lead : ad < s.heap.objs.size := Heap.lt_size he
    have hzT : s.TypeIs (.ref z) "zip" := by obtain ⟨⟨v, f, hz, _⟩, _⟩ := hz; exact ⟨_, hz, rfl⟩
    have hpT : s.heap.IsTuple a its.toArray := p
    have hpL : s.heap.IsList b its2.toArray := p2.isList
    have lts : ∀ c ∈ [ad, z, TI, TO, i1, i2], c < s.heap.objs.size := fun c hcm => by
      obtain ⟨⟨v, f, hz, _⟩, x, y, hTO⟩ := hz
      rcases six hcm with q | q | q | q | q | q
      · rw [q]; exact lead
      · rw [q]; exact Heap.lt_size hz
      · rw [q]; exact Heap.lt_size hTI
      · rw [q]; exact Heap.lt_size hTO
      · rw [q]; obtain ⟨_, e1, _⟩ := h1; exact Heap.lt_size e1
      · rw [q]; obtain ⟨_, e2, _⟩ := h2; exact Heap.lt_size e2
    refine pyNext_enum he (enum_gives (i := (i : Int)) (Pn := fun v g => v = .ref s.heap.objs.size ∧ ZS g z TI TO ∧ IsTupOf2 g s.heap.objs.size u u2 ∧ g.IsTupleIter i1 a (i + 1) ∧ g.IsListIter i2 b (i + 1) ∧ g.objs.size = s.heap.objs.size + 1 ∧
        (∀ c o, c ≠ z → c ≠ TO → c ≠ i1 → c ≠ i2 → s.heap.get? c = some o → g.get? c = some o)) he (fun Q' q' => ?_) fun v g h' tk pn ho hT hsz kp => ?_)
    · refine nextOf_zip hzT (zip_gives D.S (Draws.tuple (prog := X.prog) (w := X.w) (A := X.A.in1.in1) (I.ok.hd hc) i1 a D.a1 its.toArray) (Draws.list (prog := X.prog) (w := X.w) (A := X.A.in1.in1) (I.ok.hd hc) i2 b D.b2 its2.toArray) hz hTI ⟨h1, hpT⟩ ⟨h2, hpL⟩ la lb fun v1 v2 g tk e1 e2 gz g1 g2 gT gs gk => ?_)
      have q1 : v1 = u := by
        have e : its.toArray[i]? = some u := by simpa using hu
        rw [e] at e1; exact (Option.some.inj e1).symm
      have q2 : v2 = u2 := by
        have e : its2.toArray[i]? = some u2 := by simpa using hu2
        rw [e] at e2; exact (Option.some.inj e2).symm
      subst q1 q2
      exact q' _ g tk ⟨rfl, gz, gT, g1.1, g2.1, gs, gk⟩ ((gk ad _ D.az D.aTO D.ai1 D.ai2 he).trans he.symm)
    · obtain ⟨rfl, gz, gT, g1, g2, gs, gk⟩ := pn
      have fk := fun c (hcm : c ∈ [ad, z, TI, TO, i1, i2]) => Nat.ne_of_lt (lts c hcm)
      have new1 : ObjOk X.prog X.w (upd H s.heap.objs.size (.tup [x, y])) g s.heap.objs.size (.tup [x, y]) := ⟨by show 2 ≤ sizeLine; decide, [u, u2], .cons ru (.cons ru2 .nil), ⟨_, gT, rfl, _, rfl⟩⟩
      have I1 : L2.Inv X pins σ (upd H s.heap.objs.size (.tup [x, y])) { s with heap := g, toks := tk } :=
        I.turnedNew (t' := tk) (ch := [ad, z, TI, TO, i1, i2]) (fun c o hb q => gk c o (fun q' => hb (by simp [q'])) (fun q' => hb (by simp [q'])) (fun q' => hb (by simp [q'])) (fun q' => hb (by simp [q'])) q) hf (Nat.le_refl _) new1
      have hf1 : ∀ c ∈ [ad, z, TI, TO, i1, i2], FpOk X pins (upd H s.heap.objs.size (.tup [x, y])) c := fun c hcm => by
        obtain ⟨f0, f1⟩ := hf c hcm
        exact ⟨by rw [upd_ne (fk c hcm)]; exact f0, f1⟩
      refine ⟨_, rfl, wpAny_letOwnedTupleGo_enum (s := { s with heap := h', toks := tk + 1 }) ho fun h'' he' sb => ?_⟩
      have gad : g.objs.size ≠ ad := Nat.ne_of_gt (by rw [gs]; exact Nat.lt_succ_of_lt lead)
      have kp2 : ∀ c o, c ≠ ad → g.get? c = some o → h''.get? c = some o := fun c o hne e => (sb.2 c hne).trans (kp c o hne e)
      have new2 : ObjOk X.prog X.w (upd (upd H s.heap.objs.size (.tup [x, y])) g.objs.size (.tup [.int (i : Nat), .ref s.heap.objs.size])) h'' g.objs.size (.tup [.int (i : Nat), .ref s.heap.objs.size]) :=
        ⟨by show 2 ≤ sizeLine; decide, [.int i tk, .ref s.heap.objs.size], .cons ⟨_, rfl⟩ (.cons rfl .nil), ⟨_, (sb.2 _ gad).trans hT, rfl, _, rfl⟩⟩
      have I2 : L2.Inv X pins σ (upd (upd H s.heap.objs.size (.tup [x, y])) g.objs.size (.tup [.int (i : Nat), .ref s.heap.objs.size])) { s with heap := h'', toks := tk + 1 } :=
        I1.turnedNew (t' := tk + 1) (ch := [ad, z, TI, TO, i1, i2]) (fun c o hb q => kp2 c o (fun q' => hb (by simp [q'])) q) hf1 (Nat.le_refl _) new2
      have hU : upd H s.heap.objs.size (.tup [x, y]) g.objs.size = none := I1.hok.fresh (Nat.le_refl _)
      refine ⟨.ref g.objs.size, _, I2, rfl, ⟨s.heap.objs.size, g.objs.size, x, y, rfl, I.hok.fresh (Nat.le_refl _), hU, rfl, fun l hl => by rw [I.tuple_inj hl hqx]; exact hx, fun l hl => by rw [I.list_inj hl hqy]; exact hy⟩, ⟨⟨.ref s.heap.objs.size, ?_⟩, ?_, ?_, ?_, ?_⟩, fun c hcm => ?_⟩
      · have e1 : ((i + 1 : Nat) : Int) = (i : Int) + 1 := by omega
        rw [e1]; exact he'
      · obtain ⟨⟨v, f, gz1, gv⟩, x1, y1, gTO⟩ := gz
        exact ⟨⟨v, f, kp2 _ _ (Ne.symm D.az) gz1, gv⟩, x1, y1, kp2 _ _ (Ne.symm D.aTO) gTO⟩
      · exact kp2 _ _ (Ne.symm D.aTI) (gk _ _ D.S.TIz D.S.TITO D.S.TIi1 D.S.TIi2 hTI)
      · exact g1.at fun o q => kp2 _ _ (Ne.symm D.ai1) q
      · exact g2.at fun o q => kp2 _ _ (Ne.symm D.ai2) q
      · rw [upd_ne (Nat.ne_of_lt (by rw [gs]; exact Nat.lt_succ_of_lt (lts c hcm))), upd_ne (fk c hcm)]
        exact (hf c hcm).1
  done := by
    intro X hP hw hK hc i pins s σ H E I hf st hg
    subst hP hw hK
    obtain ⟨⟨old, he⟩, hz, hTI, h1, h2⟩ := st
    obtain ⟨xs, ys, hqx, hqy, hx⟩ := hg
    obtain ⟨its, rv, p, _⟩ := I.tuple hqx
    obtain ⟨its2, rv2, p2, _⟩ := I.list hqy
    have hl := rv.length
    have hzT : s.TypeIs (.ref z) "zip" := by obtain ⟨⟨v, f, hz, _⟩, _⟩ := hz; exact ⟨_, hz, rfl⟩
    have ei : i = its.toArray.size := by simp; omega
    subst ei
    refine pyNext_enum he ?_
    refine wpAny_bind (m := field (.ref ad) 2) (wpAny_field he rfl (x := .ref z) rfl ?_)
    refine wpAny_bind (m := Builtin.SmallTypes.nextOf (.ref z)) (nextOf_zip hzT (zip_ends D.S (Draws.tuple (prog := X.prog) (w := X.w) (A := X.A.in1.in1) (I.ok.hd hc) i1 a D.a1 its.toArray) hz hTI ⟨h1, (show s.heap.IsTuple a its.toArray from p)⟩ fun h' tk e gk he => ?_))
    obtain ⟨o, ho, hcl⟩ := he
    refine ⟨⟨e, o, rfl, ho, hcl⟩, rfl, ?_⟩
    exact I.turnedL (t' := tk) (ch := [ad, z, TI, TO, i1, i2]) (fun c o hb q => gk c o (fun q' => hb (by simp [q'])) (fun q' => hb (by simp [q'])) (fun q' => hb (by simp [q'])) (fun q' => hb (by simp [q'])) q) hf
  self := fun A i s Q E st h => let ⟨⟨_, he⟩, _⟩ := st; wpAny_pyIter_enum he h
open Sem (wp) in
theorem meets_enumZ {z TI TO : Addr} {v : Value} : Meets (Builtin.«enumerate.__new__» ⟨[.type "enumerate", .ref z], []⟩) (fun _ R s => IsZip s.heap z TI TO v ∧
      R (.ok (.ret (.ref s.heap.objs.size))) { s with heap := s.heap.push { cls := .type "enumerate", data := .fields #[.none, .bool false, .ref z, rawInt 0, .none, .none] } }) :=
  .of_wp fun prog w A R s h => by
    obtain ⟨hp, g, d, tk, os⟩ := s; obtain ⟨h1, h⟩ := h
    have hsub := sub_enumerate
    have q1 : ∀ {A' : Around} {E : Value → Shared → Prop} {Q : Value → Shared → Prop}, Q (.ref z) ⟨hp, g, d, tk, os⟩ → wpAny (model prog w) A' (pyIter (.ref z)) Q E ⟨hp, g, d, tk, os⟩ :=
      fun q => wpAny_pyIter_zip h1 q
    wp_walk using q1
    refine wpAny_stack_any fun st => wpAny_pure ?_
    split
    · rename_i c _ _ _ _ _
      cases (c == Value.type "enumerate")
      · wp_walk using q1
        exact ⟨_, rfl, h⟩
      · wp_walk using q1
        exact ⟨_, rfl, h⟩
    · wp_walk using q1
      exact ⟨_, rfl, h⟩
theorem call_enumZ {prog : Program} {w : World} {A : Around} {E : Value → Shared → Prop} {s : Shared} {z TI TO : Addr} {v : Value} {Q : Value → Shared → Prop} (h1 : IsZip s.heap z TI TO v)
    (h : ∀ h', IsEnum h' s.heap.objs.size z 0 .none → (∀ b o, s.heap.get? b = some o → h'.get? b = some o) → Q (.ref s.heap.objs.size) { s with heap := h' }) :
    wpAny (model prog w) A (call (.type "enumerate") [.ref z]) Q E s := by
  refine callType_new F.called_enumerate (by decide) (F.typeCall_enumerate_1 _) (F.newCall_enumerate_1 _) (fun obj => F.args_object_init_2 obj _) F.entry_enumerate_new
    (meets_enumZ (TI := TI) (TO := TO) (v := v)) ⟨h1, ?_⟩
  have he : IsEnum (s.heap.push { cls := .type "enumerate", data := .fields #[.none, .bool false, .ref z, rawInt 0, .none, .none] }) s.heap.objs.size z 0 .none := Heap.get?_push_size _ rfl
  exact ⟨⟨_, he, rfl⟩, h _ he fun b o x => Heap.get?_push_of_some _ x⟩
def iEzip (K : PySem.W.Frag) (ta : TA) : TI := fun σ H R => ta σ H fun vs H1 => ∃ a b xs ys, vs = [.ref a, .ref b] ∧ SqT K H1 a xs ∧ SqL K H1 b ys ∧ R (IteZ K a b) H1
theorem pi_ezip {X : Cx} {e e2 : Expr} {ta : TA} {p p2 q pos tpos : Pos} {elts : List Expr} {kk : Nat} (hg : Gl X "enumerate") (hm : X.mg "enumerate" = none) (hg2 : Gl X "zip") (hm2 : X.mg "zip" = none) (ha : PA X [e, e2] ta)
    (hs : starEach [e, e2] X.env = (false, eval e X.env) :: starEach [e2] X.env) (hpl : ∀ pos, (backTo pos (starEach [e2] X.env)).any (·.1) = false) :
    PI X (.Tuple elts kk tpos) (.Call (.Name "enumerate" p) [.Call (.Name "zip" p2) [e, e2] [] q] [] pos) (iEzip X.K ta) := by
  refine ⟨fun pins s σ H R I h => ?_⟩
  refine Call_ (ld_blt I hg hm boot_enumerate ?_)
  refine PyProof.Rows.callWith_type1 (PyProof.Rows.args_cons ?_ rfl) rfl rfl
  refine Call_ (ld_blt I hg2 hm2 PyProof.Rows.boot_zip (PyProof.Rows.callWith_type1 (thn (ha.run q pins s σ H _ I h) fun us s1 ⟨vs, H1, I1, r1, q1⟩ => ?_) hs (hpl q)))
  obtain ⟨a, b, xs, ys, ex, hqx, hqy, q1⟩ := q1
  subst ex
  cases r1 with
  | cons r rr =>
    cases rr with
    | cons r' rr =>
      cases rr
      cases r
      cases r'
      obtain ⟨its, rv, p1, _⟩ := I1.tuple hqx
      obtain ⟨its2, rv2, p2, _⟩ := I1.list hqy
      have pT : s1.heap.IsTuple a its.toArray := p1
      have pL : s1.heap.IsList b its2.toArray := p2.isList
      have la : a < s1.heap.objs.size := by obtain ⟨o, ho, _⟩ := pT; exact Heap.lt_size ho
      have lb : b < s1.heap.objs.size := by obtain ⟨o, ho, _⟩ := pL; exact Heap.lt_size ho
      refine zip_begins2 (begins_tuple a its.toArray) (begins_list b its2.toArray) pT pL fun h' hz hTI hTO g1 g2 gs gk => PyProof.Rows.args_nil ?_
      refine call_enumZ (s := { s1 with heap := h' }) hz fun h'' he gk2 => wpAny_pyIter_enum he ?_
      have I2 : L2.Inv X pins σ H1 { s1 with heap := h'' } := I1.kept (t' := s1.toks) fun c o e => gk2 c o (gk c o e)
      have es : h'.objs.size = s1.heap.objs.size + 5 := gs
      have he2 : IsEnum h'' (s1.heap.objs.size + 5) (s1.heap.objs.size + 4) 0 .none := by rw [← es]; exact he
      have fresh6 : ∀ c, c ∈ [s1.heap.objs.size + 5, s1.heap.objs.size + 4, s1.heap.objs.size + 2, s1.heap.objs.size + 3, s1.heap.objs.size, s1.heap.objs.size + 1] → FpOk X pins H1 c := fun c hcm => by
        have hle : s1.heap.objs.size ≤ c := by
          rcases six hcm with z | z | z | z | z | z <;> rw [z] <;> first | exact Nat.le_add_right _ _ | exact Nat.le_refl _
        exact I1.fpOk hle (I1.hok.fresh hle)
      generalize s1.heap.objs.size = n at *
      have D := sep_new la lb
      refine ⟨n + 5, [n + 5, n + 4, n + 2, n + 3, n, n + 1], _, _, H1, by rw [← es], I2, turn_ezip D, ⟨⟨.none, he2⟩, ⟨⟨.none, false, gk2 _ _ hz, .inl rfl⟩, _, _, gk2 _ _ hTO⟩, gk2 _ _ hTI, ⟨_, gk2 _ _ g1, rfl, rfl⟩, ⟨_, gk2 _ _ g2, rfl, rfl⟩⟩, fresh6, q1⟩
section
variable {W : Wd} {k : Nat} {B : Bnd} {X : Cx} {a b : Expr} {pos p : Pos} {pw pw2 : Wp}
theorem walk_ez {t0 : Sta} {xs ys : List D} {a b : Addr} {vs : List V} {gd : Mm → Prop} (hl : xs.length = ys.length) (h : ∀ t, Ext t0 t → Good W t → SqT W.K t.H a vs ∧ Reps W t xs vs) (h' : ∀ t, Ext t0 t → Good W t → gd t.M → ∃ us, SqL W.K t.H b us ∧ Reps W t ys us) :
    WalkD W t0 (IteZ W.K a b) ⟨gd, enumD 0 (zipD xs ys)⟩ where
  goes := fun i t d e g hg hd => by
    obtain ⟨h1, h2⟩ := h t e g
    obtain ⟨us, h3, h4⟩ := h' t e g hg
    obtain ⟨z, hz, _⟩ := enumD_get hd
    obtain ⟨x, y, hx, hy, _⟩ := zipD_get hz
    obtain ⟨v, hv, _⟩ := h2.get hx
    obtain ⟨u, hu, _⟩ := h4.get hy
    exact ⟨vs, us, v, u, h1, h3, hv, hu⟩
  stops := fun t e g hg => by
    obtain ⟨h1, h2⟩ := h t e g
    obtain ⟨us, h3, h4⟩ := h' t e g hg
    refine ⟨vs, us, h1, h3, ?_⟩
    show vs.length = (enumD 0 (zipD xs ys)).length
    rw [enumD_length, zipD_length, h2.length, ← hl, Nat.min_self]
  yields := fun i t x H' d e g hg hd y => by
    obtain ⟨h1, h2⟩ := h t e g
    obtain ⟨us, h3, h4⟩ := h' t e g hg
    obtain ⟨T, U, x', y', rfl, hT, hU, rfl, hx, hy⟩ := y
    obtain ⟨z, hz, rfl⟩ := enumD_get hd
    obtain ⟨x, y, zx, zy, rfl⟩ := zipD_get hz
    obtain ⟨v, hv, rv⟩ := h2.get zx
    obtain ⟨u, hu, ru⟩ := h4.get zy
    have := hx vs h1
    rw [hv] at this; cases this
    have := hy us h3
    rw [hu] at this; cases this
    obtain ⟨t1, e1, e2, e3, e4, e5⟩ := pair_new g hT rv ru
    rw [← e1] at hU
    have e0 : ((0 + i : Nat) : Int) = (i : Nat) := by congr 1; omega
    obtain ⟨t2, f1, f2, f3, f4, f5⟩ := pair_new (dx := .int (i : Nat)) (x := .int (i : Nat)) e4 hU (by simp only [Rep]) e5
    rw [e0]
    exact ⟨t2, by rw [f1, e1], e2.trans f2, by rw [f3, e3], f4, f5⟩
theorem i_ezip {elts : List Expr} {kk : Nat} {p2 q tpos : Pos} (c : COk W k X) (hg : Gl X "enumerate") (hm : W.mg "enumerate" = none) (hg2 : Gl X "zip") (hm2 : W.mg "zip" = none) (hn : nost a = true) (hn2 : nost b = true) (ha : PE X a (tE W B pw)) (hb : PE X b (tE W B pw2)) :
    PI X (.Tuple elts kk tpos) (.Call (.Name "enumerate" p) [.Call (.Name "zip" p2) [a, b] [] q] [] pos) (tI W B fun x env M Q => pw x env M fun u M1 => pw2 x env M1 fun v M2 => ezipK M2 u v fun src => Q src M2) := by
  rw [← c.mg] at hm hm2
  refine (pi_ezip hg hm hg2 hm2 (pa_cons ha (pa_cons hb pa_nil (star_cons hn2)) (star_cons hn)) (star_cons hn) (fun pos => by rw [star_cons hn2]; rfl)).imp fun σ H R ⟨env, t, Qp, hH, he, g, re, h, l⟩ => ?_
  subst hH
  refine tE_bind rfl he g re h fun d v t1 e1 he1 g1 r1 rd h1 => tE_bind rfl he1 g1 r1 h1 fun d2 v2 t2 e2 he2 g2 r2 rd2 h2 => ?_
  unfold ezipK at h2
  split at h2
  · rename_i xs
    obtain ⟨ys, ey, hl, h2⟩ := someK_inv h2
    obtain ⟨q1, vs, rfl, _, hc1⟩ := seq_stays g2 (rd.ext (e2.fst g1)) (show seqOf t2.M (.tup xs) = some xs from rfl)
    obtain ⟨q2, us, rfl, _, hc2⟩ := seq_stays g2 rd2 (seq_of_lst ey)
    rcases hc1 with ⟨_, hst⟩ | ⟨el, _, _⟩
    · rcases hc2 with ⟨⟨zs, rfl⟩, _⟩ | ⟨_, b0, hst2⟩
      · cases ey
      · have s1 := (hst t2 Ext.refl g2).1
        rw [← c.K] at s1 b0
        exact ⟨q1, q2, vs, us, rfl, s1, b0, by rw [c.K]; exact l _ t2 _ (e1.trans e2) g2 h2 (walk_ez hl hst hst2)⟩
    · cases el
  · exact h2.elim
end
end TL

set_option Elab.async false
set_option linter.all false
set_option maxRecDepth 100000
set_option maxHeartbeats 4000000
/-! The check of a text against the small language: expressions. -/
namespace TL
open PySem PySem.Spec PyProof.Rows L2

structure Sit where
  N : List Str
  sc : Scope
  fn : Str → Bool
  q : Option Str := none
structure SitOk (S : Sit) (X : Cx) : Prop where
  N : X.N = S.N
  sc : X.env.scope = S.sc
  fn : X.fn = S.fn
  q : ∀ z, S.q = some z → X.env.qual = z ++ ".<locals>." ∧ codeAt X.K z = some X.env.code
def visB (sc : Scope) (x : Str) : Bool := match sc.names.lookup x with
  | some .local => true
  | some .cell => true
  | some .free => true
  | _ => false
theorem visB_ok {sc : Scope} {x : Str} (h : visB sc x = true) : Vis sc x := by
  unfold visB at h
  split at h
  · exact .inl (by assumption)
  · exact .inr (.inl (by assumption))
  · exact .inr (.inr (by assumption))
  · cases h
def glB (sc : Scope) (x : Str) : Bool := decide (sc.names.lookup x = some .globalImplicit)
def Sit.blk (S : Sit) (scope : Scope) : Sit := ⟨S.N, relS scope S.sc, fun x => scope.names.lookup x == some .cell, none⟩

def NeedOk (W : Wd) : Nat → Need → Prop
  | k, .free x => W.mg x = none
  | k, .glob x d => ∃ v u, W.mg x = some u ∧ RelV v u ∧ ∀ t, Rep W t d v
  | k, .fn x c => ∃ f fd ps, FnG W k f fd ps c ∧ W.mg x = some (.ref f) ∧ PySem.W.keepIn W.K (.ref f) = true ∧ Binds W.K fd ps []
  | k, .fnk x c n ks pm => ∃ f fd ps, FnG W k f fd ps c ∧ W.mg x = some (.ref f) ∧ PySem.W.keepIn W.K (.ref f) = true ∧ KwB W.K fd ps n ks pm
  | k, .mk C c => MkOk W k C c
  | k, .mkk C c n ks pm => MkkOk W k C c n ks pm
  | k, .fld C f => FldOk W C f
  | k, .mth C m c => MthOk W k C m c
  | k, .prp C f c => PrpOk W k C f c
  | k, .ueq C c => UeqOk W k C c
  | k, .isi T cs => ∃ c u, IsiOk W T cs c u
  | _, .ise T cs => ∃ A, IseOk W T cs A
  | _, .xv cs => ∀ C ∈ cs, ∃ A, ExcOk W C A
  | k, .rse C => RaiseOk W k C
  | k, .hrd f cs => HeardOk W k f cs
  | k, .low n => NeedOk W (k - 2) n

/-! the shapes -/
def onName (e : Expr) (k : Str → Bool) : Bool := match e with | .Name x _ => k x | _ => false
def onConst (e : Expr) (k : Const → Bool) : Bool := match e with | .Constant c _ _ => k c | _ => false
def onBin (e : Expr) (k : Expr → Operator → Expr → Bool) : Bool := match e with | .BinOp l o r _ => k l o r | _ => false
def onUn (e : Expr) (k : UnaryOp → Expr → Bool) : Bool := match e with | .UnaryOp o r _ => k o r | _ => false
def onCmp (e : Expr) (k : Expr → CmpOp → Expr → Bool) : Bool := match e with | .Compare l [o] [r] _ => k l o r | _ => false
def onCmp2 (e : Expr) (k : Expr → CmpOp → Expr → CmpOp → Expr → Bool) : Bool := match e with | .Compare l [o, p] [m, r] _ => k l o m p r | _ => false
def onBool (e : Expr) (k : BoolOp → List Expr → Bool) : Bool := match e with | .BoolOp o es _ => k o es | _ => false
def onIf (e : Expr) (k : Expr → Expr → Expr → Bool) : Bool := match e with | .IfExp c a b _ => k c a b | _ => false
def onTup (e : Expr) (k : List Expr → Bool) : Bool := match e with | .Tuple es _ _ => k es | _ => false
def onLst (e : Expr) (k : List Expr → Bool) : Bool := match e with | .List es _ => k es | _ => false
def onIx (e : Expr) (k : Expr → Expr → Bool) : Bool := match e with | .Subscript a i _ => k a i | _ => false
def onSl (e : Expr) (k : Expr → Option Expr → Option Expr → Bool) : Bool := match e with | .Subscript a (.Slice lo hi none _) _ => k a lo hi | _ => false
def onRev (e : Expr) (k : Expr → Bool) : Bool := match e with | .Subscript a (.Slice none none (some (.UnaryOp .USub (.Constant (.int 1) _ _) _)) _) _ => k a | _ => false
def onCall (e : Expr) (k : Str → List Expr → List Keyword → Bool) : Bool := match e with | .Call (.Name x _) es ks _ => k x es ks | _ => false
def onMeth (e : Expr) (k : Expr → Str → List Expr → Bool) : Bool := match e with | .Call (.Attribute o m apos) es [] pos => (apos.endLine == pos.line) && k o m es | _ => false
def onAttr (e : Expr) (k : Expr → Str → Bool) : Bool := match e with | .Attribute o f _ => k o f | _ => false
def onComp (e : Expr) (k : Expr → Expr → Expr → List Expr → Scope → Bool) : Bool := match e with | .ListComp x [⟨tg, iter, ifs, 0⟩] sc _ => k x tg iter ifs sc | _ => false
def onDict0 (e : Expr) : Bool := match e with | .Dict [] [] _ => true | _ => false
def onDict (e : Expr) (k : List (Option Expr) → List Expr → Bool) : Bool := match e with | .Dict ks vs _ => k ks vs | _ => false
def onM1 (e : Expr) : Bool := match e with | .UnaryOp .USub (.Constant (.int 1) _ _) _ => true | _ => false
def on3 {α : Type} (l : List α) (k : α → α → α → Bool) : Bool := match l with | [x, y, z] => k x y z | _ => false
def on1 {α : Type} (l : List α) (k : α → Bool) : Bool := match l with | [x] => k x | _ => false
def on2 {α : Type} (l : List α) (k : α → α → Bool) : Bool := match l with | [x, y] => k x y | _ => false
def onCons {α : Type} (l : List α) (k : α → List α → Bool) : Bool := match l with | x :: r => k x r | _ => false
def onNil {α : Type} (l : List α) : Bool := match l with | [] => true | _ => false
def onSome {α : Type} (l : Option α) (k : α → Bool) : Bool := match l with | some x => k x | _ => false
def onNone {α : Type} (l : Option α) : Bool := match l with | none => true | _ => false
def onStar (e : Expr) (k : Expr → Bool) : Bool := match e with | .Starred x _ => k x | _ => false
def onKw (e : Keyword) (k : Option Str → Expr → Bool) : Bool := k e.arg e.value
section
variable {e : Expr}
theorem onName_inv {k} (h : onName e k = true) : ∃ x p, e = .Name x p ∧ k x = true := by unfold onName at h; split at h; exact ⟨_, _, rfl, h⟩; cases h
theorem onConst_inv {k} (h : onConst e k = true) : ∃ c j p, e = .Constant c j p ∧ k c = true := by unfold onConst at h; split at h; exact ⟨_, _, _, rfl, h⟩; cases h
theorem onBin_inv {k} (h : onBin e k = true) : ∃ l o r p, e = .BinOp l o r p ∧ k l o r = true := by unfold onBin at h; split at h; exact ⟨_, _, _, _, rfl, h⟩; cases h
theorem onUn_inv {k} (h : onUn e k = true) : ∃ o r p, e = .UnaryOp o r p ∧ k o r = true := by unfold onUn at h; split at h; exact ⟨_, _, _, rfl, h⟩; cases h
theorem onCmp_inv {k} (h : onCmp e k = true) : ∃ l o r p, e = .Compare l [o] [r] p ∧ k l o r = true := by unfold onCmp at h; split at h; exact ⟨_, _, _, _, rfl, h⟩; cases h
theorem onCmp2_inv {k} (h : onCmp2 e k = true) : ∃ l o m p r q, e = .Compare l [o, p] [m, r] q ∧ k l o m p r = true := by unfold onCmp2 at h; split at h; exact ⟨_, _, _, _, _, _, rfl, h⟩; cases h
theorem onBool_inv {k} (h : onBool e k = true) : ∃ o es p, e = .BoolOp o es p ∧ k o es = true := by unfold onBool at h; split at h; exact ⟨_, _, _, rfl, h⟩; cases h
theorem onIf_inv {k} (h : onIf e k = true) : ∃ c a b p, e = .IfExp c a b p ∧ k c a b = true := by unfold onIf at h; split at h; exact ⟨_, _, _, _, rfl, h⟩; cases h
theorem onTup_inv {k} (h : onTup e k = true) : ∃ es j p, e = .Tuple es j p ∧ k es = true := by unfold onTup at h; split at h; exact ⟨_, _, _, rfl, h⟩; cases h
theorem onLst_inv {k} (h : onLst e k = true) : ∃ es p, e = .List es p ∧ k es = true := by unfold onLst at h; split at h; exact ⟨_, _, rfl, h⟩; cases h
theorem onIx_inv {k} (h : onIx e k = true) : ∃ a i p, e = .Subscript a i p ∧ k a i = true := by unfold onIx at h; split at h; exact ⟨_, _, _, rfl, h⟩; cases h
theorem onSl_inv {k} (h : onSl e k = true) : ∃ a lo hi p q, e = .Subscript a (.Slice lo hi none p) q ∧ k a lo hi = true := by unfold onSl at h; split at h; exact ⟨_, _, _, _, _, rfl, h⟩; cases h
theorem onRev_inv {k} (h : onRev e k = true) : ∃ a j p1 p2 p3 p4, e = .Subscript a (.Slice none none (some (.UnaryOp .USub (.Constant (.int 1) j p1) p2)) p3) p4 ∧ k a = true := by unfold onRev at h; split at h; exact ⟨_, _, _, _, _, _, rfl, h⟩; cases h
theorem onCall_inv {k} (h : onCall e k = true) : ∃ x p es ks q, e = .Call (.Name x p) es ks q ∧ k x es ks = true := by unfold onCall at h; split at h; exact ⟨_, _, _, _, _, rfl, h⟩; cases h
theorem onMeth_inv {k} (h : onMeth e k = true) : ∃ o m apos es q, e = .Call (.Attribute o m apos) es [] q ∧ (apos.endLine == q.line) = true ∧ k o m es = true := by
  unfold onMeth at h; split at h
  · simp only [Bool.and_eq_true] at h; exact ⟨_, _, _, _, _, rfl, h⟩
  · cases h
theorem onAttr_inv {k} (h : onAttr e k = true) : ∃ o f p, e = .Attribute o f p ∧ k o f = true := by unfold onAttr at h; split at h; exact ⟨_, _, _, rfl, h⟩; cases h
theorem onComp_inv {k} (h : onComp e k = true) : ∃ x tg iter ifs sc p, e = .ListComp x [⟨tg, iter, ifs, 0⟩] sc p ∧ k x tg iter ifs sc = true := by unfold onComp at h; split at h; exact ⟨_, _, _, _, _, _, rfl, h⟩; cases h
theorem onDict0_inv (h : onDict0 e = true) : ∃ p, e = .Dict [] [] p := by unfold onDict0 at h; split at h; exact ⟨_, rfl⟩; cases h
theorem onDict_inv {k} (h : onDict e k = true) : ∃ ks vs p, e = .Dict ks vs p ∧ k ks vs = true := by unfold onDict at h; split at h; exact ⟨_, _, _, rfl, h⟩; cases h
theorem onM1_inv (h : onM1 e = true) : ∃ j p1 p2, e = .UnaryOp .USub (.Constant (.int 1) j p1) p2 := by unfold onM1 at h; split at h; exact ⟨_, _, _, rfl⟩; cases h
theorem onStar_inv {k} (h : onStar e k = true) : ∃ x p, e = .Starred x p ∧ k x = true := by unfold onStar at h; split at h; exact ⟨_, _, rfl, h⟩; cases h
variable {α : Type}
theorem on1_inv {l : List α} {k} (h : on1 l k = true) : ∃ x, l = [x] ∧ k x = true := by unfold on1 at h; split at h; exact ⟨_, rfl, h⟩; cases h
theorem on2_inv {l : List α} {k} (h : on2 l k = true) : ∃ x y, l = [x, y] ∧ k x y = true := by unfold on2 at h; split at h; exact ⟨_, _, rfl, h⟩; cases h
theorem on3_inv {l : List α} {k} (h : on3 l k = true) : ∃ x y z, l = [x, y, z] ∧ k x y z = true := by unfold on3 at h; split at h; exact ⟨_, _, _, rfl, h⟩; cases h
theorem onCons_inv {l : List α} {k} (h : onCons l k = true) : ∃ x r, l = x :: r ∧ k x r = true := by unfold onCons at h; split at h; exact ⟨_, _, rfl, h⟩; cases h
theorem onNil_inv {l : List α} (h : onNil l = true) : l = [] := by unfold onNil at h; split at h; rfl; cases h
theorem onSome_inv {l : Option α} {k} (h : onSome l k = true) : ∃ x, l = some x ∧ k x = true := by unfold onSome at h; split at h; exact ⟨_, rfl, h⟩; cases h
theorem onNone_inv {l : Option α} (h : onNone l = true) : l = none := by unfold onNone at h; split at h; rfl; cases h
end
def okC : D → Const → Bool
  | .int i, .int j => decide (i = j)
  | .bl i, .bool j => decide (i = j)
  | .non, .none => true
  | .str i, .str j => decide (i = j) && decide (i.length ≤ sizeLine)
  | _, _ => false
def okOp (o : Operator) : Bool := match o with | .Add => true | .Sub => true | .Mult => true | .FloorDiv => true | .Mod => true | .Pow => true | .LShift => true | .RShift => true | _ => false
mutual
def tgOwn : Tg → Expr → List (Str × Nat)
  | .nm i, .Name x _ => [(x, i)]
  | .tp ts, .Tuple es _ _ => tgsOwn ts es
  | _, _ => []
def tgsOwn : List Tg → List Expr → List (Str × Nat)
  | t :: ts, e :: es => tgOwn t e ++ tgsOwn ts es
  | _, _ => []
end
/-- a name, a written value -/
def okA (S : Sit) : E → Expr → Bool
  | .v i, ex => onName ex fun x => decide (S.N[i]? = some x) && visB S.sc x && okName x
  | .c d, ex => onConst ex fun c => okC d c
  | .g x _, ex => onName ex fun y => decide (x = y) && glB S.sc x && okName x
  | _, _ => false
def okDs (S : Sit) : Es → List (Option Expr) → List Expr → Bool
  | .nil, [], [] => true
  | .cons k (.cons v r), some x :: ks, y :: vs => okA S k x && okA S v y && okDs S r ks vs
  | _, _, _ => false
mutual
def okE (S : Sit) : E → Expr → Bool
  | .v i, ex => onName ex fun x => decide (S.N[i]? = some x) && visB S.sc x && okName x
  | .c d, ex => onConst ex fun c => okC d c
  | .g x _, ex => onName ex fun y => decide (x = y) && glB S.sc x && okName x
  | .bin o _ a b, ex => onBin ex fun l op r => decide (op = o) && okOp o && okE S a l && okE S b r
  | .neg a, ex => onUn ex fun o r => decide (o = .USub) && okE S a r
  | .not a, ex => onUn ex fun o r => decide (o = .Not) && okE S a r
  | .cmp o a b, ex => onCmp ex fun l op r => decide (op = o) && noSet r && okE S a l && okE S b r
  | .chn o o' a b c, ex => onCmp2 ex fun l op m op' r => decide (op = o) && decide (op' = o') && noSet r && okE S a l && okE S b m && okE S c r
  | .and es, ex => onBool ex fun o xs => decide (o = .And) && okB S es xs
  | .or es, ex => onBool ex fun o xs => decide (o = .Or) && okB S es xs
  | .ite t a b, ex => onIf ex fun c x y => okE S t c && okE S a x && okE S b y
  | .tup es, ex => onTup ex fun xs => okEs S es xs
  | .lst _ es, ex => onLst ex fun xs => okEs S es xs
  | .ix a i, ex => onIx ex fun x y => noSl y && okE S a x && okE S i y
  | .sl _ a lo hi, ex => onSl ex fun x l h => okE S a x && okEo S lo l && okEo S hi h
  | .rev _ a, ex => onRev ex fun x => okE S a x
  | .bi f _ es, ex => onCall ex fun x xs ks => onNil ks && decide (x = f.name) && glB S.sc x && !(onNil xs) && xs.all nost && okEs S es xs
  | .isi a T _, ex => onCall ex fun x xs ks => onNil ks && decide (x = "isinstance") && glB S.sc x && on2 xs fun y z => nost y && okE S a y && onName z fun t => decide (t = T) && glB S.sc T && okName T
  | .call f _ es, ex => onCall ex fun x xs ks => onNil ks && decide (x = f) && glB S.sc x && okName x && xs.all nost && okEs S es xs
  | .callk f _ es ks _, ex => onCall ex fun x xs kws => decide (x = f) && glB S.sc x && okName x && xs.all nost && decide (xs.length = esLen es) && kwN kws (ksNames ks) && okEs S es xs && okKs S ks kws
  | .mk C _ es, ex => onCall ex fun x xs ks => onNil ks && decide (x = C) && glB S.sc x && okName x && xs.all nost && okEs S es xs
  | .mkk C _ es ks _, ex => onCall ex fun x xs kws => decide (x = C) && glB S.sc x && okName x && xs.all nost && decide (xs.length = esLen es) && kwN kws (ksNames ks) && okEs S es xs && okKs S ks kws
  | .fld a _ f, ex => onAttr ex fun o g => decide (g = f) && plainO o && okE S a o
  | .prop a _ f _, ex => onAttr ex fun o g => decide (g = f) && plainO o && okE S a o
  | .meth a _ m _ es, ex => onMeth ex fun o n xs => decide (n = m) && plainO o && xs.all nost && decide (xs.length < 28) && okE S a o && okEs S es xs
  | .bm m _ a es, ex => onMeth ex fun o n xs => decide (n = m.name) && plainO o && xs.all nost && decide (xs.length < 28) && okE S a o && okEs S es xs
  | .comp _ t it cond elt, ex => onComp ex fun x tg iter ifs scope => okIt S it tg iter && noSet iter && okT S.N (relS scope S.sc) (S.blk scope).fn t tg && blkC S.N S.sc scope (tgOwn t tg) && decide ((tgOwn t tg).map (·.2) = t.slots) && okCd (S.blk scope) cond ifs && okE (S.blk scope) elt x
  | .dnew, ex => onDict0 ex
  | .lr1 _ a, ex => onCall ex fun x xs ks => onNil ks && decide (x = "list") && glB S.sc "list" && on1 xs fun z => onCall z fun y ys ls => onNil ls && decide (y = "range") && glB S.sc "range" && on1 ys fun u => nost u && okE S a u
  | .lr2 _ a b, ex => onCall ex fun x xs ks => onNil ks && decide (x = "list") && glB S.sc "list" && on1 xs fun z => onCall z fun y ys ls => onNil ls && decide (y = "range") && glB S.sc "range" && on2 ys fun u v => nost u && nost v && okE S a u && okE S b v
  | .lz _ a b, ex => onCall ex fun x xs ks => onNil ks && decide (x = "list") && glB S.sc "list" && on1 xs fun z => onCall z fun y ys ls => onNil ls && decide (y = "zip") && glB S.sc "zip" && on2 ys fun u v => nost u && nost v && okE S a u && okE S b v
  | .ueq _ _ a b, ex => onCmp ex fun l op r => decide (op = .Eq) && noSet r && okE S a l && okE S b r
  | .skabs _ a, ex => onCall ex fun x xs kws => decide (x = "sorted") && glB S.sc "sorted" && glB S.sc "abs" && (on1 xs fun z => nost z && okE S a z) && on1 kws fun kw => decide (kw.arg = some "key") && onName kw.value fun t => decide (t = "abs")
  | .lenset a, ex => onCall ex fun x xs ks => onNil ks && decide (x = "len") && glB S.sc "len" && on1 xs fun z => onCall z fun y ys ls => onNil ls && decide (y = "set") && glB S.sc "set" && on1 ys fun u => nost u && okE S a u
  | .ise a T _, ex => onCall ex fun x xs ks => onNil ks && decide (x = "isinstance") && glB S.sc x && on2 xs fun y z => nost y && okE S a y && onName z fun t => decide (t = T) && glB S.sc T && okName T
  | .xval a _, ex => onAttr ex fun o g => decide (g = "value") && plainO o && okE S a o
  | .heard f q _ e, ex => onCall ex fun x xs ks => onNil ks && decide (x = f) && glB S.sc x && okName x && decide (S.q = some q) && on1 xs fun z => onLam z fun pa b sc => noArgs pa && LamX.lamSB S.sc sc && okE ⟨S.N, sc, fun _ => false, none⟩ e b
  | .ddsp es, ex => onDict ex fun ks vs => okDs S es ks vs && !(onNil ks) && decide (ks.length ≤ 15)
  | .callv i _ es, ex => onCall ex fun x xs ks => onNil ks && decide (S.N[i]? = some x) && visB S.sc x && okName x && xs.all nost && okEs S es xs
  | .sset _ a, ex => onCall ex fun x xs ks => onNil ks && decide (x = "sorted") && glB S.sc "sorted" && on1 xs fun z => onCall z fun y ys ls => onNil ls && decide (y = "set") && glB S.sc "set" && on1 ys fun u => nost u && okE S a u
def okEs (S : Sit) : Es → List Expr → Bool
  | .nil, xs => onNil xs
  | .cons e r, xs => onCons xs fun x ys => nost x && okE S e x && okEs S r ys
  | .star e r, xs => onCons xs fun x ys => onStar x fun z => okE S e z && okEs S r ys
/-- the parts of an and, an or -/
def okB (S : Sit) : Es → List Expr → Bool
  | .nil, _ => false
  | .star _ _, _ => false
  | .cons e r, xs => onCons xs fun x ys => okE S e x && (if esNil r then onNil ys else okB S r ys)
def okKs (S : Sit) : Ks → List Keyword → Bool
  | .nil, xs => onNil xs
  | .cons _ e r, xs => onCons xs fun x ys => okE S e x.value && okKs S r ys
def okEo (S : Sit) : Eo → Option Expr → Bool
  | .none, x => onNone x
  | .some e, x => onSome x fun y => okE S e y
def okCd (S : Sit) : Eo → List Expr → Bool
  | .none, x => onNil x
  | .some e, x => on1 x fun y => okE S e y
def okIt (S : Sit) : It → Expr → Expr → Bool
  | .seq e, _, ex => okE S e ex
  | .rng1 a, _, ex => onCall ex fun x xs ks => onNil ks && decide (x = "range") && glB S.sc "range" && on1 xs fun u => nost u && okE S a u
  | .rng2 a b, _, ex => onCall ex fun x xs ks => onNil ks && decide (x = "range") && glB S.sc "range" && on2 xs fun u v => nost u && nost v && okE S a u && okE S b v
  | .enum a, tg, ex => onTup tg fun _ => onCall ex fun x xs ks => onNil ks && decide (x = "enumerate") && glB S.sc "enumerate" && on1 xs fun u => nost u && okE S a u
  | .zip a b, tg, ex => onTup tg fun _ => onCall ex fun x xs ks => onNil ks && decide (x = "zip") && glB S.sc "zip" && on2 xs fun u v => nost u && nost v && okE S a u && okE S b v
  | .rngd a b, _, ex => onCall ex fun x xs ks => onNil ks && decide (x = "range") && glB S.sc "range" && on3 xs fun u v z => nost u && nost v && okE S a u && okE S b v && onM1 z
  | .ezip a b, tg, ex => onTup tg fun _ => onCall ex fun x xs ks => onNil ks && decide (x = "enumerate") && glB S.sc "enumerate" && on1 xs fun z => onCall z fun y ys ls => onNil ls && decide (y = "zip") && glB S.sc "zip" && on2 ys fun u v => nost u && nost v && okE S a u && okE S b v
end
mutual
def needE : E → List Need
  | .v _ => []
  | .c _ => []
  | .g x d => [.glob x d]
  | .bin _ _ a b => needE a ++ needE b
  | .neg a => needE a
  | .not a => needE a
  | .cmp _ a b => needE a ++ needE b
  | .chn _ _ a b c => needE a ++ (needE b ++ needE c)
  | .and es => needEs es
  | .or es => needEs es
  | .ite t a b => needE t ++ (needE a ++ needE b)
  | .tup es => needEs es
  | .lst _ es => needEs es
  | .ix a i => needE a ++ needE i
  | .sl _ a lo hi => needE a ++ (needEo lo ++ needEo hi)
  | .rev _ a => needE a
  | .bi f _ es => .free f.name :: needEs es
  | .isi a T cs => .free "isinstance" :: .isi T cs :: needE a
  | .call f c es => .fn f c :: needEs es
  | .callk f c es ks pm => .fnk f c (esLen es) (ksNames ks) pm :: (needEs es ++ needKs ks)
  | .mk C c es => .mk C c :: needEs es
  | .mkk C c es ks pm => .mkk C c (esLen es) (ksNames ks) pm :: (needEs es ++ needKs ks)
  | .fld a C f => .fld C f :: needE a
  | .prop a C f c => .prp C f c :: needE a
  | .meth a C m c es => .mth C m c :: (needE a ++ needEs es)
  | .bm _ _ a es => needE a ++ needEs es
  | .comp _ _ it cond elt => needIt it ++ (needEo cond ++ needE elt)
  | .dnew => []
  | .lr1 _ a => .free "list" :: .free "range" :: needE a
  | .lr2 _ a b => .free "list" :: .free "range" :: (needE a ++ needE b)
  | .lz _ a b => .free "list" :: .free "zip" :: (needE a ++ needE b)
  | .ueq C c a b => .ueq C c :: (needE a ++ needE b)
  | .skabs _ a => .free "sorted" :: .free "abs" :: needE a
  | .lenset a => .free "len" :: .free "set" :: needE a
  | .ise a T cs => .free "isinstance" :: .ise T cs :: needE a
  | .xval a cs => .xv cs :: needE a
  | .heard f _ cs e => .hrd f cs :: (needE e).map .low
  | .ddsp es => needEs es
  | .sset _ a => .free "sorted" :: .free "set" :: needE a
  | .callv _ tb es => tb.map (fun p => Need.fn p.1 p.2) ++ needEs es
def needEs : Es → List Need
  | .nil => []
  | .cons e r => needE e ++ needEs r
  | .star e r => needE e ++ needEs r
def needKs : Ks → List Need
  | .nil => []
  | .cons _ e r => needE e ++ needKs r
def needEo : Eo → List Need
  | .none => []
  | .some e => needE e
def needIt : It → List Need
  | .seq e => needE e
  | .rng1 a => .free "range" :: needE a
  | .rng2 a b => .free "range" :: (needE a ++ needE b)
  | .enum a => .free "enumerate" :: needE a
  | .zip a b => .free "zip" :: (needE a ++ needE b)
  | .rngd a b => .free "range" :: (needE a ++ needE b)
  | .ezip a b => .free "enumerate" :: .free "zip" :: (needE a ++ needE b)
end
end TL

set_option Elab.async false
set_option linter.all false
set_option maxRecDepth 100000
set_option maxHeartbeats 4000000
/-! A text that fits does what is asked: expressions. -/
namespace TL
open PySem PySem.Spec PyProof.Rows L2
theorem ba3 {a b c : Bool} (h : (a && b && c) = true) : a = true ∧ b = true ∧ c = true := by simp only [Bool.and_eq_true] at h; exact ⟨h.1.1, h.1.2, h.2⟩
theorem ba2 {a b : Bool} (h : (a && b) = true) : a = true ∧ b = true := by simpa only [Bool.and_eq_true] using h
theorem in1 {α : Type} {p : α → Prop} {a b : List α} (h : ∀ n ∈ a ++ b, p n) : (∀ n ∈ a, p n) ∧ ∀ n ∈ b, p n := ⟨fun n m => h n (List.mem_append_left _ m), fun n m => h n (List.mem_append_right _ m)⟩
theorem inC {α : Type} {p : α → Prop} {a : α} {b : List α} (h : ∀ n ∈ a :: b, p n) : p a ∧ ∀ n ∈ b, p n := ⟨h a List.mem_cons_self, fun n m => h n (List.mem_cons_of_mem _ m)⟩
theorem gl_ok {S : Sit} {X : Cx} (o : SitOk S X) {x : Str} (h : glB S.sc x = true) : Gl X x := by
  show X.env.scope.names.lookup x = _
  rw [o.sc]; exact of_decide_eq_true h
theorem CtxB.blk {W : Wd} {k : Nat} {B : Bnd} {X : Cx} (c : CtxB W k B X) (s : Shared) (H : Hp) (scope : Scope) (ce : Env) (fp : List Addr) : CtxB W k B0 (X.blk s H scope ce fp) :=
  { P := c.P, w := c.w, K := c.K, mg := c.mg, base := c.base, room := c.room, gd := c.gd, calm := c.calm, nd := c.nd, tk := tk0 }
theorem SitOk.blk {S : Sit} {X : Cx} (o : SitOk S X) (s : Shared) (H : Hp) (scope : Scope) (C : Addr) (cl : List (Str × Addr)) (fp : List Addr) : SitOk (S.blk scope) (X.blk s H scope (compEnvC scope cl C X.env) fp) :=
  ⟨o.N, by show relS scope X.env.scope = _; rw [o.sc]; rfl, rfl, fun z e => by cases e⟩
theorem marks_ok {op : CmpOp} {e : Expr} (h : noSet e = true) : behindInMarks op e = false := by cases e <;> first | rfl | cases h
theorem marks2_ok {op op' : CmpOp} {b e : Expr} (h : noSet e = true) : lastMarks [op, op'] [b, e] = false := marks_ok h
section
variable {W : Wd} {k : Nat}
theorem t_ite {B : Bnd} {X : Cx} {c a b : Expr} {pos : Pos} {p q r : Wp} (hc : PT X c (tB' W B p)) (ha : PT X a (tB' W B q)) (hb : PT X b (tB' W B r)) :
    PT X (.IfExp c a b pos) (tB' W B fun x env M Q => p x env M fun u M1 => u.asB fun z => if z = true then q x env M1 Q else r x env M1 Q) := by
  refine ⟨fun pins s σ H Q I ⟨env, t, Qp, hH, he, g, re, h, l⟩ => ?_⟩
  subst hH
  show wpAny _ _ (do if ← isTrue c X.env (eval c X.env) then isTrue a X.env (eval a X.env) else isTrue b X.env (eval b X.env)) _ _ s
  refine wpAny_bind (thn (hc.run pins s σ t.H _ I (tB_bind (Q := fun z H1 => ∃ t1, t1.H = H1 ∧ Ext t t1 ∧ Ext B.t0 t1 ∧ Good W t1 ∧ REnv W t1 env σ ∧ if z = true then q (B.ex env) env t1.M (fun d M => d.asB fun b => Qp b M) else r (B.ex env) env t1.M (fun d M => d.asB fun b => Qp b M))
    (Qp := fun z M1 => if z = true then q (B.ex env) env M1 (fun d M => d.asB fun b => Qp b M) else r (B.ex env) env M1 (fun d M => d.asB fun b => Qp b M)) rfl he g re h fun z t1 e1 he1 g1 r1 h1 => ⟨t1, rfl, e1, he1, g1, r1, h1⟩)) fun z s1 ⟨H1, I1, t1, e0, e1, he1, g1, r1, h1⟩ => ?_)
  subst e0
  cases z with
  | true =>
    rw [if_pos rfl] at h1
    exact ha.run pins s1 σ t1.H Q I1 (tB_bind rfl he1 g1 r1 h1 fun b t2 e2 _ g2 _ h2 => l b t2 (e1.trans e2) g2 h2)
  | false =>
    rw [if_neg Bool.false_ne_true] at h1
    exact hb.run pins s1 σ t1.H Q I1 (tB_bind rfl he1 g1 r1 h1 fun b t2 e2 _ g2 _ h2 => l b t2 (e1.trans e2) g2 h2)
theorem e_dnew {B : Bnd} {X : Cx} {pos : Pos} : PE X (.Dict [] [] pos) (tE W B (wpE .dnew)) := by
  refine pe_dnewK.imp fun σ H Q ⟨env, t, Qp, hH, he, g, re, h, l⟩ => ?_
  subst hH
  intro p n
  unfold wpE at h
  exact l (.ref p) (.ref p) (t.put p (.dK []) (.dct [])) (Ext.newM n) (g.newM n ⟨[], upd_same, by show 0 ≤ sizeLine; decide, rfl⟩) Rep.ref (h p (g.fresh n))
theorem es_nil {xs : List Expr} {S : Sit} {es : Es} (h : okEs S es xs = true) (hn : xs = []) : ∀ x env M (Q : List D → Mm → Prop), wpEs es x env M Q → Q [] M := fun x env M Q q => by
  subst hn
  cases es with
  | nil => unfold wpEs at q; exact q
  | cons e r => unfold okEs at h; cases h
  | star e r => unfold okEs at h; cases h
end
end TL

set_option Elab.async false
set_option linter.all false
set_option maxRecDepth 100000
set_option maxHeartbeats 8000000
/-! A text that fits does what is asked. -/
namespace TL
open PySem PySem.Spec PyProof.Rows L2
def BothE (W : Wd) (B : Bnd) (X : Cx) (ex : Expr) (w : Wp) : Prop := PE X ex (tE W B w) ∧ PT X ex (tB' W B w)
theorem Both.val {W : Wd} {B : Bnd} {X : Cx} {ex : Expr} {w w' : Wp} (h : PE X ex (tE W B w')) (e : w = w') (he : ∀ whole, isTrue ex X.env whole = (do let v ← whole; standAt ex.pos; holding [v] (truthy v))) : BothE W B X ex w := by
  subst e; exact ⟨h, t_val h he⟩
theorem wp_ext {w w' : Wp} (h : ∀ x env M Q, w x env M Q = w' x env M Q) : w = w' := by funext x env M Q; exact h x env M Q
theorem wpL_ext {w w' : WpL} (h : ∀ x env M Q, w x env M Q = w' x env M Q) : w = w' := by funext x env M Q; exact h x env M Q
def GE (W : Wd) (k : Nat) (e : E) : Prop := ∀ (ex : Expr) (S : Sit) (B : Bnd) (X : Cx), CtxB W k B X → SitOk S X → okE S e ex = true → (∀ n ∈ needE e, NeedOk W k n) → BothE W B X ex (wpE e)
def GEs (W : Wd) (k : Nat) (e : Es) : Prop := ∀ (xs : List Expr) (S : Sit) (B : Bnd) (X : Cx), CtxB W k B X → SitOk S X → okEs S e xs = true → (∀ n ∈ needEs e, NeedOk W k n) → PA X xs (tA W B (wpEs e))
def GB (W : Wd) (k : Nat) (es : Es) : Prop := ∀ (xs : List Expr) (S : Sit) (B : Bnd) (X : Cx), CtxB W k B X → SitOk S X → okB S es xs = true → (∀ n ∈ needEs es, NeedOk W k n) → ∀ pos,
    (PE X (.BoolOp .And xs pos) (tE W B (wpAnd es)) ∧ PW X (.BoolOp .And xs pos) (tB' W B (wpAnd es))) ∧ (PE X (.BoolOp .Or xs pos) (tE W B (wpOr es)) ∧ PW X (.BoolOp .Or xs pos) (tB' W B (wpOr es)))
def GKs (W : Wd) (k : Nat) (e : Ks) : Prop := ∀ (xs : List Keyword) (S : Sit) (B : Bnd) (X : Cx), CtxB W k B X → SitOk S X → okKs S e xs = true → (∀ n ∈ needKs e, NeedOk W k n) → PK X xs (tA W B (wpKs e))
def GEo (W : Wd) (k : Nat) (e : Eo) : Prop := ∀ (xs : Option Expr) (S : Sit) (B : Bnd) (X : Cx), CtxB W k B X → SitOk S X → okEo S e xs = true → (∀ n ∈ needEo e, NeedOk W k n) → L2.PO X xs (tO' W B (wpEo e))
def GCd (W : Wd) (k : Nat) (e : Eo) : Prop := ∀ (xs : List Expr) (S : Sit) (B : Bnd) (X : Cx), CtxB W k B X → SitOk S X → okCd S e xs = true → (∀ n ∈ needEo e, NeedOk W k n) → PTs X xs (tCd W B e)
def GIt (W : Wd) (k : Nat) (e : It) : Prop := ∀ (tg ex : Expr) (S : Sit) (B : Bnd) (X : Cx), CtxB W k B X → SitOk S X → okIt S e tg ex = true → (∀ n ∈ needIt e, NeedOk W k n) → PI X tg ex (tI W B (wpIt e))
section
variable {W : Wd} {k : Nat}
theorem n_v {i : Nat}  : GE W k (.v i) := fun ex S B X c o h nd => by
    unfold okE at h
    obtain ⟨x, p, rfl, h⟩ := onName_inv h
    obtain ⟨h1, h2, h3⟩ := ba3 h
    have v := visB_ok h2
    rw [← o.sc] at v
    exact Both.val (e_v (by rw [o.N]; exact of_decide_eq_true h1) v h3) rfl fun _ => rfl
theorem n_c {d : D}  : GE W k (.c d) := fun ex S B X c o h nd => by
    unfold okE at h
    obtain ⟨k', j, p, rfl, hc⟩ := onConst_inv h
    clear h
    unfold okC at hc
    split at hc
    · cases of_decide_eq_true hc; exact Both.val e_int rfl fun _ => rfl
    · cases of_decide_eq_true hc; exact Both.val e_bl rfl fun _ => rfl
    · exact Both.val e_non rfl fun _ => rfl
    · obtain ⟨h1, h2⟩ := ba2 hc
      cases of_decide_eq_true h1
      exact Both.val (e_str (of_decide_eq_true h2)) rfl fun _ => rfl
    · cases hc
theorem n_g {x : Str} {d : D}  : GE W k (.g x d) := fun ex S B X c o h nd => by
    unfold okE at h
    obtain ⟨y, p, rfl, h⟩ := onName_inv h
    obtain ⟨h1, h2, h3⟩ := ba3 h
    cases of_decide_eq_true h1
    unfold needE at nd
    obtain ⟨v, u, n1, n2, n3⟩ := (inC nd).1
    exact Both.val (e_glob c.toCOk (gl_ok o h2) h3 n1 n2 n3) rfl fun _ => rfl
theorem n_bin {op : Operator} {fz : Bool} {a b : E} (gE_a : GE W k a) (gE_b : GE W k b) : GE W k (.bin op fz a b) := fun ex S B X c o h nd => by
    unfold okE at h
    obtain ⟨l, op', r, p, rfl, h⟩ := onBin_inv h
    obtain ⟨h0, h3, h4⟩ := ba3 h
    obtain ⟨h1, h2⟩ := ba2 h0
    cases of_decide_eq_true h1
    unfold needE at nd
    obtain ⟨n1, n2⟩ := in1 nd
    exact Both.val (e_bin (fz := fz) c.toCOk h2 (gE_a l S B X c o h3 n1).1 (gE_b r S B X c o h4 n2).1) (wp_ext fun x env M Q => by rw [wpE]) fun _ => rfl
theorem n_neg {a : E} (gE_a : GE W k a) : GE W k (.neg a) := fun ex S B X c o h nd => by
    unfold okE at h
    obtain ⟨op, r, p, rfl, h⟩ := onUn_inv h
    obtain ⟨h1, h2⟩ := ba2 h
    cases of_decide_eq_true h1
    unfold needE at nd
    exact Both.val (e_neg c.toCOk (gE_a r S B X c o h2 nd).1) (wp_ext fun x env M Q => by rw [wpE]) fun _ => rfl
theorem n_not {a : E} (gE_a : GE W k a) : GE W k (.not a) := fun ex S B X c o h nd => by
    unfold okE at h
    obtain ⟨op, r, p, rfl, h⟩ := onUn_inv h
    obtain ⟨h1, h2⟩ := ba2 h
    cases of_decide_eq_true h1
    unfold needE at nd
    have e : wpE (.not a) = fun x env M Q => wpE a x env M fun u M1 => u.asB fun b => Q (.bl (!b)) M1 := wp_ext fun x env M Q => by rw [wpE]
    rw [e]
    exact ⟨e_not (gE_a r S B X c o h2 nd).1, t_not (gE_a r S B X c o h2 nd).2⟩
theorem n_cmp {op : CmpOp} {a b : E} (gE_a : GE W k a) (gE_b : GE W k b) : GE W k (.cmp op a b) := fun ex S B X c o h nd => by
    unfold okE at h
    obtain ⟨l, op', r, p, rfl, h⟩ := onCmp_inv h
    obtain ⟨h0, h3, h4⟩ := ba3 h
    obtain ⟨h1, h2⟩ := ba2 h0
    cases of_decide_eq_true h1
    unfold needE at nd
    obtain ⟨n1, n2⟩ := in1 nd
    have e : wpE (.cmp op a b) = fun x env M Q => wpE a x env M fun u M1 => wpE b x env M1 fun v M2 => cmpK op M2 u v fun r => Q (.bl r) M2 := wp_ext fun x env M Q => by rw [wpE]
    rw [e]
    have A := (gE_a l S B X c o h3 n1).1
    have B' := (gE_b r S B X c o h4 n2).1
    exact ⟨e_cmp c.toCOk A B' (marks_ok h2), t_cmp c.toCOk A B' (marks_ok h2)⟩
theorem n_chn {op op2 : CmpOp} {a b d : E} (gE_a : GE W k a) (gE_b : GE W k b) (gE_d : GE W k d) : GE W k (.chn op op2 a b d) := fun ex S B X c o h nd => by
    unfold okE at h
    obtain ⟨l, o1, m, o2, r, p, rfl, h⟩ := onCmp2_inv h
    obtain ⟨h0, h5, h6⟩ := ba3 h
    obtain ⟨h0, h3, h4⟩ := ba3 h0
    obtain ⟨h1, h2⟩ := ba2 h0
    cases of_decide_eq_true h1
    cases of_decide_eq_true h2
    unfold needE at nd
    obtain ⟨n1, n2⟩ := in1 nd
    obtain ⟨n2, n3⟩ := in1 n2
    have e : wpE (.chn op op2 a b d) = wChn op op2 (wpE a) (wpE b) (wpE d) := wp_ext fun x env M Q => by rw [wpE]; rfl
    rw [e]
    have A := (gE_a l S B X c o h4 n1).1
    have B' := (gE_b m S B X c o h5 n2).1
    have C := (gE_d r S B X c o h6 n3).1
    exact ⟨e_chn c.toCOk A B' C (marks2_ok h3), t_chn c.toCOk A B' C (marks2_ok h3)⟩
theorem n_and {es : Es} (gB_es : GB W k es) : GE W k (.and es) := fun ex S B X c o h nd => by
    unfold okE at h
    obtain ⟨op, xs, p, rfl, h⟩ := onBool_inv h
    obtain ⟨h1, h2⟩ := ba2 h
    cases of_decide_eq_true h1
    unfold needE at nd
    have e : wpE (.and es) = wpAnd es := wp_ext fun x env M Q => by rw [wpE]
    rw [e]
    obtain ⟨z1, z2⟩ := (gB_es xs S B X c o h2 nd p).1
    exact ⟨z1, z2.pt⟩
theorem n_or {es : Es} (gB_es : GB W k es) : GE W k (.or es) := fun ex S B X c o h nd => by
    unfold okE at h
    obtain ⟨op, xs, p, rfl, h⟩ := onBool_inv h
    obtain ⟨h1, h2⟩ := ba2 h
    cases of_decide_eq_true h1
    unfold needE at nd
    have e : wpE (.or es) = wpOr es := wp_ext fun x env M Q => by rw [wpE]
    rw [e]
    obtain ⟨z1, z2⟩ := (gB_es xs S B X c o h2 nd p).2
    exact ⟨z1, z2.pt⟩
theorem n_ite {t a b : E} (gE_t : GE W k t) (gE_a : GE W k a) (gE_b : GE W k b) : GE W k (.ite t a b) := fun ex S B X c o h nd => by
    unfold okE at h
    obtain ⟨z, x, y, p, rfl, h⟩ := onIf_inv h
    obtain ⟨h1, h2, h3⟩ := ba3 h
    unfold needE at nd
    obtain ⟨n1, n2⟩ := in1 nd
    obtain ⟨n2, n3⟩ := in1 n2
    have e : wpE (.ite t a b) = fun x env M Q => wpE t x env M fun u M1 => u.asB fun r => if r = true then wpE a x env M1 Q else wpE b x env M1 Q := wp_ext fun x env M Q => by rw [wpE]
    rw [e]
    have T := gE_t z S B X c o h1 n1
    have A := gE_a x S B X c o h2 n2
    have B' := gE_b y S B X c o h3 n3
    exact ⟨e_ite T.2 A.1 B'.1, t_ite T.2 A.2 B'.2⟩
theorem n_tup {es : Es} (gEs_es : GEs W k es) : GE W k (.tup es) := fun ex S B X c o h nd => by
    unfold okE at h
    obtain ⟨xs, j, p, rfl, h⟩ := onTup_inv h
    unfold needE at nd
    exact Both.val (e_tup (gEs_es xs S B X c o h nd)) (wp_ext fun x env M Q => by rw [wpE]) fun _ => rfl
theorem n_lst {fz : Bool} {es : Es} (gEs_es : GEs W k es) : GE W k (.lst fz es) := fun ex S B X c o h nd => by
    unfold okE at h
    obtain ⟨xs, p, rfl, h⟩ := onLst_inv h
    unfold needE at nd
    exact Both.val (e_lst (fz := fz) (gEs_es xs S B X c o h nd)) (wp_ext fun x env M Q => by rw [wpE]) fun _ => rfl
theorem n_ix {a i : E} (gE_a : GE W k a) (gE_i : GE W k i) : GE W k (.ix a i) := fun ex S B X c o h nd => by
    unfold okE at h
    obtain ⟨x, y, p, rfl, h⟩ := onIx_inv h
    obtain ⟨h1, h2, h3⟩ := ba3 h
    unfold needE at nd
    obtain ⟨n1, n2⟩ := in1 nd
    exact Both.val (e_ix c.toCOk (gE_a x S B X c o h2 n1).1 (gE_i y S B X c o h3 n2).1 h1) (wp_ext fun x env M Q => by rw [wpE]) fun _ => rfl
theorem n_sl {fz : Bool} {a : E} {lo hi : Eo} (gE_a : GE W k a) (gEo_lo : GEo W k lo) (gEo_hi : GEo W k hi) : GE W k (.sl fz a lo hi) := fun ex S B X c o h nd => by
    unfold okE at h
    obtain ⟨x, l, u, p, q, rfl, h⟩ := onSl_inv h
    obtain ⟨h1, h2, h3⟩ := ba3 h
    unfold needE at nd
    obtain ⟨n1, n2⟩ := in1 nd
    obtain ⟨n2, n3⟩ := in1 n2
    exact Both.val (e_sl (fz := fz) c.toCOk (gE_a x S B X c o h1 n1).1 (gEo_lo l S B X c o h2 n2) (gEo_hi u S B X c o h3 n3)) (wp_ext fun x env M Q => by rw [wpE]) fun _ => rfl
theorem n_rev {fz : Bool} {a : E} (gE_a : GE W k a) : GE W k (.rev fz a) := fun ex S B X c o h nd => by
    unfold okE at h
    obtain ⟨x, j, p1, p2, p3, p4, rfl, h⟩ := onRev_inv h
    unfold needE at nd
    exact Both.val (e_rev2 (fz := fz) c.toCOk (gE_a x S B X c o h nd).1) (wp_ext fun x env M Q => by rw [wpE]) fun _ => rfl
theorem n_bi {f : BI} {fz : Bool} {es : Es} (gEs_es : GEs W k es) : GE W k (.bi f fz es) := fun ex S B X c o h nd => by
    unfold okE at h
    obtain ⟨x, p, xs, ks, q, rfl, h⟩ := onCall_inv h
    obtain ⟨h0, h5, h6⟩ := ba3 h
    obtain ⟨h0, h3, h4⟩ := ba3 h0
    obtain ⟨h1, h2⟩ := ba2 h0
    cases onNil_inv h1
    unfold needE at nd
    obtain ⟨n1, n2⟩ := inC nd
    cases xs with
    | nil => cases h4
    | cons y ys =>
      exact Both.val (e_bi (fz := fz) c.toCOk (of_decide_eq_true h2) (gl_ok o h3) (by rw [of_decide_eq_true h2]; exact n1) h5 (gEs_es (y :: ys) S B X c o h6 n2)) (wp_ext fun x env M Q => by rw [wpE]) fun _ => rfl
theorem n_isi {a : E} {T : Str} {cs : List Str} (gE_a : GE W k a) : GE W k (.isi a T cs) := fun ex S B X c o h nd => by
    unfold okE at h
    obtain ⟨x, p, xs, ks, q, rfl, h⟩ := onCall_inv h
    obtain ⟨h0, h3, h4⟩ := ba3 h
    obtain ⟨h1, h2⟩ := ba2 h0
    cases onNil_inv h1
    cases of_decide_eq_true h2
    obtain ⟨y, z, rfl, hq⟩ := on2_inv h4
    obtain ⟨h5, h6, h7⟩ := ba3 hq
    obtain ⟨t, p2, rfl, hr⟩ := onName_inv h7
    obtain ⟨h8, h9, h10⟩ := ba3 hr
    cases of_decide_eq_true h8
    unfold needE at nd
    obtain ⟨n1, n2⟩ := inC nd
    obtain ⟨n2, n3⟩ := inC n2
    obtain ⟨c0, u, n2⟩ := n2
    exact Both.val (e_isi c.toCOk n2 (gl_ok o h3) n1 (gl_ok o h9) h10 h5 (gE_a y S B X c o h6 n3).1) (wp_ext fun x env M Q => by rw [wpE]) fun _ => rfl
theorem n_call {f : Str} {ct : Contract} {es : Es} (gEs_es : GEs W k es) : GE W k (.call f ct es) := fun ex S B X c o h nd => by
    unfold okE at h
    obtain ⟨x, p, xs, ks, q, rfl, h⟩ := onCall_inv h
    obtain ⟨h0, h5, h6⟩ := ba3 h
    obtain ⟨h0, h3, h4⟩ := ba3 h0
    obtain ⟨h1, h2⟩ := ba2 h0
    cases onNil_inv h1
    cases of_decide_eq_true h2
    unfold needE at nd
    obtain ⟨n1, n2⟩ := inC nd
    obtain ⟨g, fd, ps, F, m1, m2, m3⟩ := n1
    exact Both.val (e_call c F (Nat.le_refl _) (gl_ok o h3) h4 m1 m2 m3 h5 (gEs_es xs S B X c o h6 n2) (es_nil h6)) (wp_ext fun x env M Q => by rw [wpE]) fun _ => rfl
theorem lookup_mem' {α : Type} : ∀ {l : List (Str × α)} {y : Str} {c : α}, l.lookup y = some c → (y, c) ∈ l
  | (k, v) :: r, y, c, h => by
    rw [List.lookup_cons] at h
    cases hb : y == k with
    | true => rw [hb] at h; cases h; rw [eq_of_beq hb]; exact List.mem_cons_self
    | false => rw [hb] at h; exact List.mem_cons_of_mem _ (lookup_mem' h)
theorem n_callv {i : Nat} {tb : List (Str × Contract)} {es : Es} (gEs_es : GEs W k es) : GE W k (.callv i tb es) := fun ex S B X c o h nd => by
    unfold okE at h
    obtain ⟨x, p, xs, ks, q, rfl, h⟩ := onCall_inv h
    obtain ⟨h0, h5, h6⟩ := ba3 h
    obtain ⟨h0, h3, h4⟩ := ba3 h0
    obtain ⟨h1, h2⟩ := ba2 h0
    cases onNil_inv h1
    have v := visB_ok h3
    rw [← o.sc] at v
    unfold needE at nd
    obtain ⟨n1, n2⟩ := in1 nd
    refine Both.val (e_callv c (by rw [o.N]; exact of_decide_eq_true h2) v h4 (fun y ct hy => ?_) h5 (gEs_es xs S B X c o h6 n2) (es_nil h6)) (wp_ext fun x env M Q => by rw [wpE]) fun _ => rfl
    obtain ⟨g, fd, ps, F, m1, m2, m3⟩ := n1 _ (List.mem_map_of_mem (lookup_mem' hy))
    exact ⟨g, fd, ps, F, m1, m2, m3⟩
theorem n_callk {f : Str} {ct : Contract} {es : Es} {ks : Ks} {pm : List Nat} (gEs_es : GEs W k es) (gKs_ks : GKs W k ks) : GE W k (.callk f ct es ks pm) := fun ex S B X c o h nd => by
    unfold okE at h
    obtain ⟨x, p, xs, kws, q, rfl, h⟩ := onCall_inv h
    obtain ⟨h0, h7, h8⟩ := ba3 h
    obtain ⟨h0, h5, h6⟩ := ba3 h0
    obtain ⟨h0, h3, h4⟩ := ba3 h0
    obtain ⟨h1, h2⟩ := ba2 h0
    cases of_decide_eq_true h1
    unfold needE at nd
    obtain ⟨n1, n2⟩ := inC nd
    obtain ⟨n2, n3⟩ := in1 n2
    obtain ⟨g, fd, ps, F, m1, m2, m3⟩ := n1
    exact Both.val (e_callk c F (Nat.le_refl _) (gl_ok o h2) h3 m1 m2 m3 h4 (gEs_es xs S B X c o h7 n2) (es_nil h7) h6 (gKs_ks kws S B X c o h8 n3)) (wp_ext fun x env M Q => by rw [wpE]) fun _ => rfl
theorem n_mk {C : Str} {ct : Contract} {es : Es} (gEs_es : GEs W k es) : GE W k (.mk C ct es) := fun ex S B X c o h nd => by
    unfold okE at h
    obtain ⟨x, p, xs, ks, q, rfl, h⟩ := onCall_inv h
    obtain ⟨h0, h5, h6⟩ := ba3 h
    obtain ⟨h0, h3, h4⟩ := ba3 h0
    obtain ⟨h1, h2⟩ := ba2 h0
    cases onNil_inv h1
    cases of_decide_eq_true h2
    unfold needE at nd
    obtain ⟨n1, n2⟩ := inC nd
    exact Both.val (e_mk c n1 (gl_ok o h3) h4 h5 (gEs_es xs S B X c o h6 n2) (es_nil h6)) (wp_ext fun x env M Q => by rw [wpE]) fun _ => rfl
theorem n_mkk {C : Str} {ct : Contract} {es : Es} {ks : Ks} {pm : List Nat} (gEs_es : GEs W k es) (gKs_ks : GKs W k ks) : GE W k (.mkk C ct es ks pm) := fun ex S B X c o h nd => by
    unfold okE at h
    obtain ⟨x, p, xs, kws, q, rfl, h⟩ := onCall_inv h
    obtain ⟨h0, h7, h8⟩ := ba3 h
    obtain ⟨h0, h5, h6⟩ := ba3 h0
    obtain ⟨h0, h3, h4⟩ := ba3 h0
    obtain ⟨h1, h2⟩ := ba2 h0
    cases of_decide_eq_true h1
    unfold needE at nd
    obtain ⟨n1, n2⟩ := inC nd
    obtain ⟨n2, n3⟩ := in1 n2
    exact Both.val (e_mkk c n1 (gl_ok o h2) h3 h4 (gEs_es xs S B X c o h7 n2) (es_nil h7) h6 (gKs_ks kws S B X c o h8 n3)) (wp_ext fun x env M Q => by rw [wpE]) fun _ => rfl
theorem n_fld {a : E} {C f : Str} (gE_a : GE W k a) : GE W k (.fld a C f) := fun ex S B X c o h nd => by
    unfold okE at h
    obtain ⟨x, g, p, rfl, h⟩ := onAttr_inv h
    obtain ⟨h1, h2, h3⟩ := ba3 h
    cases of_decide_eq_true h1
    unfold needE at nd
    obtain ⟨n1, n2⟩ := inC nd
    exact Both.val (e_fld c.toCOk n1 h2 (gE_a x S B X c o h3 n2).1) (wp_ext fun x env M Q => by rw [wpE]) fun _ => rfl
theorem n_prop {a : E} {C f : Str} {ct : Contract} (gE_a : GE W k a) : GE W k (.prop a C f ct) := fun ex S B X c o h nd => by
    unfold okE at h
    obtain ⟨x, g, p, rfl, h⟩ := onAttr_inv h
    obtain ⟨h1, h2, h3⟩ := ba3 h
    cases of_decide_eq_true h1
    unfold needE at nd
    obtain ⟨n1, n2⟩ := inC nd
    exact Both.val (e_prop c n1 h2 (gE_a x S B X c o h3 n2).1) (wp_ext fun x env M Q => by rw [wpE]) fun _ => rfl
theorem n_meth {a : E} {C m : Str} {ct : Contract} {es : Es} (gE_a : GE W k a) (gEs_es : GEs W k es) : GE W k (.meth a C m ct es) := fun ex S B X c o h nd => by
    unfold okE at h
    obtain ⟨x, n, apos, xs, q, rfl, hl, h⟩ := onMeth_inv h
    obtain ⟨h0, h5, h6⟩ := ba3 h
    obtain ⟨h0, h3, h4⟩ := ba3 h0
    obtain ⟨h1, h2⟩ := ba2 h0
    cases of_decide_eq_true h1
    unfold needE at nd
    obtain ⟨n1, n2⟩ := inC nd
    obtain ⟨n2, n3⟩ := in1 n2
    exact Both.val (e_meth c n1 h3 (gE_a x S B X c o h5 n2).1 (gEs_es xs S B X c o h6 n3) (es_nil h6) h2 hl h4) (wp_ext fun x env M Q => by rw [wpE]) fun _ => rfl
theorem n_bm {m : BM} {fz : Bool} {a : E} {es : Es} (gE_a : GE W k a) (gEs_es : GEs W k es) : GE W k (.bm m fz a es) := fun ex S B X c o h nd => by
    unfold okE at h
    obtain ⟨x, n, apos, xs, q, rfl, hl, h⟩ := onMeth_inv h
    obtain ⟨h0, h5, h6⟩ := ba3 h
    obtain ⟨h0, h3, h4⟩ := ba3 h0
    obtain ⟨h1, h2⟩ := ba2 h0
    cases of_decide_eq_true h1
    unfold needE at nd
    obtain ⟨n2, n3⟩ := in1 nd
    exact Both.val (e_bm (fz := fz) c.toCOk (gE_a x S B X c o h5 n2).1 h3 (gEs_es xs S B X c o h6 n3) (es_nil h6) h2 hl h4) (wp_ext fun x env M Q => by rw [wpE]) fun _ => rfl
theorem sComp {fz : Bool} {t : Tg} {it : It} {cond : Eo} {elt : E} (gIt_it : GIt W k it) (gCd_cond : GCd W k cond) (gE_elt : GE W k elt) : ∀ (x tg iter : Expr) (ifs : List Expr) (scope : Scope) (S : Sit) (B : Bnd) (X : Cx), CtxB W k B X → SitOk S X →
    (okIt S it tg iter && noSet iter && okT S.N (relS scope S.sc) (S.blk scope).fn t tg && blkC S.N S.sc scope (tgOwn t tg) && decide ((tgOwn t tg).map (·.2) = t.slots) && okCd (S.blk scope) cond ifs && okE (S.blk scope) elt x) = true → (∀ n ∈ needE (.comp fz t it cond elt), NeedOk W k n) →
    PI X tg iter (tI W B (wpIt it)) ∧ BlkOk X.N X.env.scope scope (tgOwn t tg) ∧
    (∀ (s : Shared) (H : Hp) (C : Addr) (cl : List (Str × Addr)) (fp : List Addr), PG (X.blk s H scope (compEnvC scope cl C X.env) fp) tg (gT W t)) ∧ (∀ (s : Shared) (H : Hp) (C : Addr) (cl : List (Str × Addr)) (fp : List Addr), PTs (X.blk s H scope (compEnvC scope cl C X.env) fp) ifs (tCd W B0 cond)) ∧
    (∀ (s : Shared) (H : Hp) (C : Addr) (cl : List (Str × Addr)) (fp : List Addr), PE (X.blk s H scope (compEnvC scope cl C X.env) fp) x (tE W B0 (wpE elt))) ∧ (∀ v, foldedSetIterable iter X.env v = pure v) ∧ (tgOwn t tg).map (·.2) = t.slots
  | x, tg, iter, ifs, scope, S, B, X, c, o, h, nd => by
    obtain ⟨h0, h6, h7⟩ := ba3 h
    obtain ⟨h0, h4, h5⟩ := ba3 h0
    obtain ⟨h1, h2, h3⟩ := ba3 h0
    unfold needE at nd
    obtain ⟨n1, n2⟩ := in1 nd
    obtain ⟨n2, n3⟩ := in1 n2
    refine ⟨gIt_it tg iter S B X c o h1 n1, by rw [o.N, o.sc]; exact blkOk_by h4, fun s H C cl fp => ?_, fun s H C cl fp => ?_, fun s H C cl fp => ?_, noSet_ok h2, of_decide_eq_true h5⟩
    · have o2 := o.blk s H scope C cl fp
      exact g_tg (c.blk s H scope (compEnvC scope cl C X.env) fp).toCOk o2.N o2.sc o2.fn t tg h3
    · exact gCd_cond ifs (S.blk scope) B0 _ (c.blk s H scope (compEnvC scope cl C X.env) fp) (o.blk s H scope C cl fp) h6 n2
    · exact (gE_elt x (S.blk scope) B0 _ (c.blk s H scope (compEnvC scope cl C X.env) fp) (o.blk s H scope C cl fp) h7 n3).1
theorem n_comp {fz : Bool} {t : Tg} {it : It} {cond : Eo} {elt : E} (gIt_it : GIt W k it) (gCd_cond : GCd W k cond) (gE_elt : GE W k elt) : GE W k (.comp fz t it cond elt) := fun ex S B X c o h nd => by
    unfold okE at h
    obtain ⟨x, tg, iter, ifs, scope, p, rfl, h⟩ := onComp_inv h
    have z := sComp gIt_it gCd_cond gE_elt x tg iter ifs scope S B X c o h nd
    exact Both.val ((pe_lc (pos := p) c.calm c.nd z.1 z.2.1 z.2.2.1 z.2.2.2.1 z.2.2.2.2.1 z.2.2.2.2.2.1).imp fun σ H Q hq => comp_imp z.2.2.2.2.2.2 hq) rfl fun _ => rfl
theorem n_dnew   : GE W k (.dnew ) := fun ex S B X c o h nd => by
    unfold okE at h
    obtain ⟨p, rfl⟩ := onDict0_inv h
    exact Both.val e_dnew rfl fun _ => rfl
theorem n_lr1 {fz : Bool} {a : E} (gE_a : GE W k a) : GE W k (.lr1 fz a) := fun ex S B X c o h nd => by
    unfold okE at h
    obtain ⟨x, p, xs, ks, q, rfl, h⟩ := onCall_inv h
    obtain ⟨h0, h3, h4⟩ := ba3 h
    obtain ⟨h1, h2⟩ := ba2 h0
    cases onNil_inv h1
    cases of_decide_eq_true h2
    obtain ⟨z, rfl, hq⟩ := on1_inv h4
    obtain ⟨y, p2, ys, ls, q2, rfl, hr⟩ := onCall_inv hq
    obtain ⟨h00, h5, h6⟩ := ba3 hr
    obtain ⟨h7, h8⟩ := ba2 h00
    cases onNil_inv h7
    cases of_decide_eq_true h8
    obtain ⟨u, rfl, ht⟩ := on1_inv h6
    obtain ⟨h9, h10⟩ := ba2 ht
    unfold needE at nd
    obtain ⟨n1, n2⟩ := inC nd
    obtain ⟨n2, n3⟩ := inC n2
    exact Both.val (e_lr1 (fz := fz) c.toCOk (gl_ok o h3) n1 (gl_ok o h5) n2 h9 (gE_a u S B X c o h10 n3).1) (wp_ext fun x env M Q => by rw [wpE]) fun _ => rfl
theorem n_lr2 {fz : Bool} {a b : E} (gE_a : GE W k a) (gE_b : GE W k b) : GE W k (.lr2 fz a b) := fun ex S B X c o h nd => by
    unfold okE at h
    obtain ⟨x, p, xs, ks, q, rfl, h⟩ := onCall_inv h
    obtain ⟨h0, h3, h4⟩ := ba3 h
    obtain ⟨h1, h2⟩ := ba2 h0
    cases onNil_inv h1
    cases of_decide_eq_true h2
    obtain ⟨z, rfl, hq⟩ := on1_inv h4
    obtain ⟨y, p2, ys, ls, q2, rfl, hr⟩ := onCall_inv hq
    obtain ⟨h00, h5, h6⟩ := ba3 hr
    obtain ⟨h7, h8⟩ := ba2 h00
    cases onNil_inv h7
    cases of_decide_eq_true h8
    obtain ⟨u, v, rfl, ht⟩ := on2_inv h6
    obtain ⟨h01, h11, h12⟩ := ba3 ht
    obtain ⟨h9, h10⟩ := ba2 h01
    unfold needE at nd
    obtain ⟨n1, n2⟩ := inC nd
    obtain ⟨n2, n3⟩ := inC n2
    obtain ⟨n3, n4⟩ := in1 n3
    exact Both.val (e_lr2 (fz := fz) c.toCOk (gl_ok o h3) n1 (gl_ok o h5) n2 h9 h10 (gE_a u S B X c o h11 n3).1 (gE_b v S B X c o h12 n4).1) (wp_ext fun x env M Q => by rw [wpE]) fun _ => rfl
theorem n_lz {fz : Bool} {a b : E} (gE_a : GE W k a) (gE_b : GE W k b) : GE W k (.lz fz a b) := fun ex S B X c o h nd => by
    unfold okE at h
    obtain ⟨x, p, xs, ks, q, rfl, h⟩ := onCall_inv h
    obtain ⟨h0, h3, h4⟩ := ba3 h
    obtain ⟨h1, h2⟩ := ba2 h0
    cases onNil_inv h1
    cases of_decide_eq_true h2
    obtain ⟨z, rfl, hq⟩ := on1_inv h4
    obtain ⟨y, p2, ys, ls, q2, rfl, hr⟩ := onCall_inv hq
    obtain ⟨h00, h5, h6⟩ := ba3 hr
    obtain ⟨h7, h8⟩ := ba2 h00
    cases onNil_inv h7
    cases of_decide_eq_true h8
    obtain ⟨u, v, rfl, ht⟩ := on2_inv h6
    obtain ⟨h01, h11, h12⟩ := ba3 ht
    obtain ⟨h9, h10⟩ := ba2 h01
    unfold needE at nd
    obtain ⟨n1, n2⟩ := inC nd
    obtain ⟨n2, n3⟩ := inC n2
    obtain ⟨n3, n4⟩ := in1 n3
    exact Both.val (e_lz (fz := fz) c.toCOk (gl_ok o h3) n1 (gl_ok o h5) n2 h9 h10 (gE_a u S B X c o h11 n3).1 (gE_b v S B X c o h12 n4).1) (wp_ext fun x env M Q => by rw [wpE]) fun _ => rfl
theorem n_ueq {C : Str} {ct : Contract} {a b : E} (gE_a : GE W k a) (gE_b : GE W k b) : GE W k (.ueq C ct a b) := fun ex S B X c o h nd => by
    unfold okE at h
    obtain ⟨l, op', r, p, rfl, h⟩ := onCmp_inv h
    obtain ⟨h0, h3, h4⟩ := ba3 h
    obtain ⟨h1, h2⟩ := ba2 h0
    cases of_decide_eq_true h1
    unfold needE at nd
    obtain ⟨n0, n1⟩ := inC nd
    obtain ⟨n1, n2⟩ := in1 n1
    have e : wpE (.ueq C ct a b) = wUeq C ct (wpE a) (wpE b) := wp_ext fun x env M Q => by rw [wpE]; rfl
    rw [e]
    have A := (gE_a l S B X c o h3 n1).1
    have B' := (gE_b r S B X c o h4 n2).1
    exact ⟨e_ueq c.toCOk n0 A B' (marks_ok h2), t_ueq c.toCOk n0 A B' (marks_ok h2)⟩
theorem n_lenset {a : E} (gE_a : GE W k a) : GE W k (.lenset a) := fun ex S B X c o h nd => by
    unfold okE at h
    obtain ⟨x, p, xs, ks, q, rfl, h⟩ := onCall_inv h
    obtain ⟨h0, h3, h4⟩ := ba3 h
    obtain ⟨h1, h2⟩ := ba2 h0
    cases onNil_inv h1
    cases of_decide_eq_true h2
    obtain ⟨z, rfl, hq⟩ := on1_inv h4
    obtain ⟨y, p2, ys, ls, q2, rfl, hr⟩ := onCall_inv hq
    obtain ⟨h00, h5, h6⟩ := ba3 hr
    obtain ⟨h7, h8⟩ := ba2 h00
    cases onNil_inv h7
    cases of_decide_eq_true h8
    obtain ⟨u, rfl, ht⟩ := on1_inv h6
    obtain ⟨h9, h10⟩ := ba2 ht
    unfold needE at nd
    obtain ⟨n1, n2⟩ := inC nd
    obtain ⟨n2, n3⟩ := inC n2
    exact Both.val (e_lenset c.toCOk (gl_ok o h3) n1 (gl_ok o h5) n2 h9 (gE_a u S B X c o h10 n3).1) (wp_ext fun x env M Q => by rw [wpE]) fun _ => rfl
theorem n_skabs {fz : Bool} {a : E} (gE_a : GE W k a) : GE W k (.skabs fz a) := fun ex S B X c o h nd => by
    unfold okE at h
    obtain ⟨x, p, xs, kws, q, rfl, h⟩ := onCall_inv h
    obtain ⟨h0, h4, h5⟩ := ba3 h
    obtain ⟨h1, h2, h3⟩ := ba3 h0
    cases of_decide_eq_true h1
    obtain ⟨z, rfl, hq⟩ := on1_inv h4
    obtain ⟨h6, h7⟩ := ba2 hq
    obtain ⟨⟨nm, v, kp⟩, rfl, hr⟩ := on1_inv h5
    obtain ⟨h8, h9⟩ := ba2 hr
    obtain ⟨t, p2, ev, h10⟩ := onName_inv h9
    cases of_decide_eq_true h8
    have ev : v = .Name t p2 := ev
    subst ev
    cases of_decide_eq_true h10
    unfold needE at nd
    obtain ⟨n1, n2⟩ := inC nd
    obtain ⟨n2, n3⟩ := inC n2
    exact Both.val (e_skabs (fz := fz) c.toCOk (gl_ok o h2) n1 (gl_ok o h3) n2 h6 (gE_a z S B X c o h7 n3).1) (wp_ext fun x env M Q => by rw [wpE]) fun _ => rfl
theorem a_atom {e : E} {S : Sit} {ex : Expr} (h : okA S e ex = true) : okE S e ex = true := by
  cases e <;> first | exact h | (unfold okA at h; cases h)
theorem g_atom {e : E} {S : Sit} {ex : Expr} (h : okA S e ex = true) : GE W k e := by
  cases e with
  | v i => exact n_v
  | c d => exact n_c
  | g x d => exact n_g
  | _ => unfold okA at h; cases h
theorem ds_ok {B : Bnd} {X : Cx} {S : Sit} (c : CtxB W k B X) (o : SitOk S X) {pos : Pos} : ∀ (es : Es) (ks : List (Option Expr)) (vs : List Expr), okDs S es ks vs = true → (∀ n ∈ needEs es, NeedOk W k n) →
    ∃ trs, PPs X pos ks vs trs ∧ ks.all (·.isSome) = true ∧ ks.length = vs.length ∧ ∀ σ H Q, tDs W B (wpEs es) σ H Q → tPairs trs σ H Q
  | .nil, [], [], _, _ => ⟨[], pps_nil, rfl, rfl, fun σ H Q ⟨env, t, Qp, hH, he, g, re, h, l⟩ => by
    subst hH
    unfold wpEs at h
    exact l [] [] t Ext.refl g Reps.nil h⟩
  | .cons k1 (.cons v1 r), some x :: ks, y :: vs, h, nd => by
    unfold okDs at h
    obtain ⟨h1, h2, h3⟩ := ba3 h
    simp only [needEs] at nd
    obtain ⟨n1, nd⟩ := in1 nd
    obtain ⟨n2, n3⟩ := in1 nd
    obtain ⟨trs, p1, p2, p3, p4⟩ := ds_ok c o r ks vs h3 n3
    refine ⟨_, pps_cons (g_atom h1 x S B X c o (a_atom h1) n1).1 (g_atom h2 y S B X c o (a_atom h2) n2).1 p1, by simpa using p2, by simp [p3], fun σ H Q ⟨env, t, Qp, hH, he, g, re, h, l⟩ => ?_⟩
    subst hH
    simp only [wpEs] at h
    refine tE_bind rfl he g re h fun d v t1 e1 he1 g1 r1 rd h1 => tE_bind rfl he1 g1 r1 h1 fun d2 v2 t2 e2 he2 g2 r2 rd2 h2 => ?_
    exact p4 _ _ _ ⟨env, t2, _, rfl, he2, g2, r2, h2, fun ds ps t3 e3 g3 rs q => l _ _ t3 (e1.trans (e2.trans e3)) g3 (Reps.cons ((rd.ext (e2.fst g1)).ext (e3.fst g2)) (Reps.cons (rd2.ext (e3.fst g2)) rs)) q⟩
  | .nil, _ :: _, _, h, _ => by simp [okDs] at h
  | .nil, [], _ :: _, h, _ => by simp [okDs] at h
  | .star _ _, _, _, h, _ => by simp [okDs] at h
  | .cons _ .nil, _, _, h, _ => by simp [okDs] at h
  | .cons _ (.star _ _), _, _, h, _ => by simp [okDs] at h
  | .cons _ (.cons _ _), [], _, h, _ => by simp [okDs] at h
  | .cons _ (.cons _ _), none :: _, _, h, _ => by simp [okDs] at h
  | .cons _ (.cons _ _), some _ :: _, [], h, _ => by simp [okDs] at h
theorem n_ddsp {es : Es} : GE W k (.ddsp es) := fun ex S B X c o h nd => by
    unfold okE at h
    obtain ⟨ks, vs, p, rfl, h⟩ := onDict_inv h
    obtain ⟨h1, h2, h3⟩ := ba3 h
    unfold needE at nd
    obtain ⟨trs, p1, p2, p3, p4⟩ := ds_ok (pos := p) c o es ks vs h1 nd
    have h0 : ks ≠ [] := fun z => by subst z; cases h2
    exact Both.val (e_ddsp p1 p2 p3 h0 (of_decide_eq_true h3) p4) (wp_ext fun x env M Q => by rw [wpE]) fun _ => by cases ks <;> rfl
theorem n_sset {fz : Bool} {a : E} (gE_a : GE W k a) : GE W k (.sset fz a) := fun ex S B X c o h nd => by
    unfold okE at h
    obtain ⟨x, p, xs, ks, q, rfl, h⟩ := onCall_inv h
    obtain ⟨h0, h3, h4⟩ := ba3 h
    obtain ⟨h1, h2⟩ := ba2 h0
    cases onNil_inv h1
    cases of_decide_eq_true h2
    obtain ⟨z, rfl, hq⟩ := on1_inv h4
    obtain ⟨y, p2, ys, ls, q2, rfl, hr⟩ := onCall_inv hq
    obtain ⟨h00, h5, h6⟩ := ba3 hr
    obtain ⟨h7, h8⟩ := ba2 h00
    cases onNil_inv h7
    cases of_decide_eq_true h8
    obtain ⟨u, rfl, ht⟩ := on1_inv h6
    obtain ⟨h9, h10⟩ := ba2 ht
    unfold needE at nd
    obtain ⟨n1, n2⟩ := inC nd
    obtain ⟨n2, n3⟩ := inC n2
    exact Both.val (e_sset (fz := fz) c.toCOk (gl_ok o h3) n1 (gl_ok o h5) n2 h9 (gE_a u S B X c o h10 n3).1) (wp_ext fun x env M Q => by rw [wpE]) fun _ => rfl
theorem n_Es_nil   : GEs W k (.nil ) := fun xs S B X c o h nd => by
    unfold okEs at h
    cases onNil_inv h
    exact a_nil
theorem n_Es_cons {e : E} {r : Es} (gE_e : GE W k e) (gEs_r : GEs W k r) : GEs W k (.cons e r) := fun xs S B X c o h nd => by
    unfold okEs at h
    obtain ⟨y, ys, rfl, h⟩ := onCons_inv h
    obtain ⟨h1, h2, h3⟩ := ba3 h
    unfold needEs at nd
    obtain ⟨n1, n2⟩ := in1 nd
    exact a_cons h1 (gE_e y S B X c o h2 n1).1 (gEs_r ys S B X c o h3 n2) fun x env M Q q => by rw [wpEs] at q; exact q
theorem n_Es_star {e : E} {r : Es} (gE_e : GE W k e) (gEs_r : GEs W k r) : GEs W k (.star e r) := fun xs S B X c o h nd => by
    unfold okEs at h
    obtain ⟨y, ys, rfl, h⟩ := onCons_inv h
    obtain ⟨z, p, rfl, h⟩ := onStar_inv h
    obtain ⟨h2, h3⟩ := ba2 h
    unfold needEs at nd
    obtain ⟨n1, n2⟩ := in1 nd
    exact a_star c.toCOk (gE_e z S B X c o h2 n1).1 (gEs_r ys S B X c o h3 n2) fun x env M Q q => by rw [wpEs] at q; exact q
theorem n_B_nil   : GB W k (.nil ) := fun xs S B X c o h nd pos => by unfold okB at h; cases h
theorem n_B_star {e : E} {r : Es}  : GB W k (.star e r) := fun xs S B X c o h nd pos => by unfold okB at h; cases h
theorem n_B_cons {e : E} {r : Es} (gE_e : GE W k e) (gB_r : GB W k r) : GB W k (.cons e r) := fun xs S B X c o h nd pos => by
    unfold okB at h
    obtain ⟨y, ys, rfl, h⟩ := onCons_inv h
    obtain ⟨h1, h2⟩ := ba2 h
    unfold needEs at nd
    obtain ⟨n1, n2⟩ := in1 nd
    have A := gE_e y S B X c o h1 n1
    cases r with
    | nil =>
      have h2 : onNil ys = true := h2
      cases onNil_inv h2
      exact ⟨⟨e_and1 A.1 fun x env M Q q => by rw [wpAnd] at q; exact q, w_and1 A.2 fun x env M Q q => by rw [wpAnd] at q; exact q⟩, ⟨e_and1 A.1 fun x env M Q q => by rw [wpOr] at q; exact q, w_or1 A.2 fun x env M Q q => by rw [wpOr] at q; exact q⟩⟩
    | star e2 r2 =>
      have h2 : okB S (.star e2 r2) ys = true := h2
      unfold okB at h2
      cases h2
    | cons e2 r2 =>
      have h2 : okB S (.cons e2 r2) ys = true := h2
      have R := gB_r ys S B X c o h2 n2 pos
      unfold okB at h2
      obtain ⟨z, zs, rfl, _⟩ := onCons_inv h2
      exact ⟨⟨e_and A.1 R.1.1 fun x env M Q q => q, w_and A.2 R.1.2 fun x env M Q q => q⟩, ⟨e_or A.1 R.2.1 fun x env M Q q => q, w_or A.2 R.2.2 fun x env M Q q => q⟩⟩
theorem n_Ks_nil   : GKs W k (.nil ) := fun xs S B X c o h nd => by
    unfold okKs at h
    cases onNil_inv h
    exact k_nil
theorem n_Ks_cons {nm : Str} {e : E} {r : Ks} (gE_e : GE W k e) (gKs_r : GKs W k r) : GKs W k (.cons nm e r) := fun xs S B X c o h nd => by
    unfold okKs at h
    obtain ⟨⟨nm, y, p⟩, ys, rfl, h⟩ := onCons_inv h
    obtain ⟨h2, h3⟩ := ba2 h
    unfold needKs at nd
    obtain ⟨n1, n2⟩ := in1 nd
    exact k_cons (gE_e y S B X c o h2 n1).1 (gKs_r ys S B X c o h3 n2) fun x env M Q q => by rw [wpKs] at q; exact q
theorem n_Eo_none   : GEo W k (.none ) := fun xs S B X c o h nd => by
    unfold okEo at h
    cases onNone_inv h
    exact o_none
theorem n_Eo_some {e : E} (gE_e : GE W k e) : GEo W k (.some e) := fun xs S B X c o h nd => by
    unfold okEo at h
    obtain ⟨y, rfl, h⟩ := onSome_inv h
    unfold needEo at nd
    exact o_some (gE_e y S B X c o h nd).1
theorem n_Cd_none   : GCd W k (.none ) := fun xs S B X c o h nd => by
    unfold okCd at h
    cases onNil_inv h
    exact cd_none
theorem n_Cd_some {e : E} (gE_e : GE W k e) : GCd W k (.some e) := fun xs S B X c o h nd => by
    unfold okCd at h
    obtain ⟨y, rfl, h⟩ := on1_inv h
    unfold needEo at nd
    exact cd_some (gE_e y S B X c o h nd).2
theorem n_It_seq {e : E} (gE_e : GE W k e) : GIt W k (.seq e) := fun tg ex S B X c o h nd => by
    unfold okIt at h
    unfold needIt at nd
    have e1 : wpIt (.seq e) = fun x env M Q => wpE e x env M fun d M1 => itK M1 d fun src => Q src M1 := by funext x env M Q; rw [wpIt]
    rw [e1]
    exact i_seq c.toCOk (gE_e ex S B X c o h nd).1
theorem n_It_rng1 {a : E} (gE_a : GE W k a) : GIt W k (.rng1 a) := fun tg ex S B X c o h nd => by
    unfold okIt at h
    obtain ⟨x, p, xs, ks, q, rfl, h⟩ := onCall_inv h
    obtain ⟨h0, h3, h4⟩ := ba3 h
    obtain ⟨h1, h2⟩ := ba2 h0
    cases onNil_inv h1
    cases of_decide_eq_true h2
    obtain ⟨u, rfl, ht⟩ := on1_inv h4
    obtain ⟨h5, h6⟩ := ba2 ht
    unfold needIt at nd
    obtain ⟨n1, n2⟩ := inC nd
    have e1 : wpIt (.rng1 a) = fun x env M Q => wpE a x env M fun u M1 => u.asI fun n => -(2 ^ 62) ≤ n ∧ n < 2 ^ 62 ∧ Q ⟨fun _ => True, rangeD 0 n.toNat⟩ M1 := by funext x env M Q; rw [wpIt]
    rw [e1]
    exact i_rng1 c.toCOk (gl_ok o h3) n1 h5 (gE_a u S B X c o h6 n2).1
theorem n_It_rng2 {a : E} {b : E} (gE_a : GE W k a) (gE_b : GE W k b) : GIt W k (.rng2 a b) := fun tg ex S B X c o h nd => by
    unfold okIt at h
    obtain ⟨x, p, xs, ks, q, rfl, h⟩ := onCall_inv h
    obtain ⟨h0, h3, h4⟩ := ba3 h
    obtain ⟨h1, h2⟩ := ba2 h0
    cases onNil_inv h1
    cases of_decide_eq_true h2
    obtain ⟨u, v, rfl, ht⟩ := on2_inv h4
    obtain ⟨h01, h7, h8⟩ := ba3 ht
    obtain ⟨h5, h6⟩ := ba2 h01
    unfold needIt at nd
    obtain ⟨n1, n2⟩ := inC nd
    obtain ⟨n2, n3⟩ := in1 n2
    have e1 : wpIt (.rng2 a b) = fun x env M Q => wpE a x env M fun u M1 => wpE b x env M1 fun v M2 => u.asI fun l => v.asI fun h => -(2 ^ 62) ≤ l ∧ l < 2 ^ 62 ∧ -(2 ^ 62) ≤ h ∧ h < 2 ^ 62 ∧ Q ⟨fun _ => True, rangeD l (h - l).toNat⟩ M2 := by funext x env M Q; rw [wpIt]
    rw [e1]
    exact i_rng2 c.toCOk (gl_ok o h3) n1 h5 h6 (gE_a u S B X c o h7 n2).1 (gE_b v S B X c o h8 n3).1
theorem n_It_enum {a : E} (gE_a : GE W k a) : GIt W k (.enum a) := fun tg ex S B X c o h nd => by
    unfold okIt at h
    obtain ⟨es, j, p0, rfl, h⟩ := onTup_inv h
    obtain ⟨x, p, xs, ks, q, rfl, h⟩ := onCall_inv h
    obtain ⟨h0, h3, h4⟩ := ba3 h
    obtain ⟨h1, h2⟩ := ba2 h0
    cases onNil_inv h1
    cases of_decide_eq_true h2
    obtain ⟨u, rfl, ht⟩ := on1_inv h4
    obtain ⟨h5, h6⟩ := ba2 ht
    unfold needIt at nd
    obtain ⟨n1, n2⟩ := inC nd
    have e1 : wpIt (.enum a) = fun x env M Q => wpE a x env M fun u M1 => someK (seqOf M1 u) fun xs => Q ⟨grd u xs, enumD 0 xs⟩ M1 := by funext x env M Q; rw [wpIt]
    rw [e1]
    exact i_enum c.toCOk (gl_ok o h3) n1 h5 (gE_a u S B X c o h6 n2).1
theorem n_It_zip {a : E} {b : E} (gE_a : GE W k a) (gE_b : GE W k b) : GIt W k (.zip a b) := fun tg ex S B X c o h nd => by
    unfold okIt at h
    obtain ⟨es, j, p0, rfl, h⟩ := onTup_inv h
    obtain ⟨x, p, xs, ks, q, rfl, h⟩ := onCall_inv h
    obtain ⟨h0, h3, h4⟩ := ba3 h
    obtain ⟨h1, h2⟩ := ba2 h0
    cases onNil_inv h1
    cases of_decide_eq_true h2
    obtain ⟨u, v, rfl, ht⟩ := on2_inv h4
    obtain ⟨h01, h7, h8⟩ := ba3 ht
    obtain ⟨h5, h6⟩ := ba2 h01
    unfold needIt at nd
    obtain ⟨n1, n2⟩ := inC nd
    obtain ⟨n2, n3⟩ := in1 n2
    have e1 : wpIt (.zip a b) = fun x env M Q => wpE a x env M fun u M1 => wpE b x env M1 fun v M2 => zipK M2 u v fun src => Q src M2 := by funext x env M Q; rw [wpIt]
    rw [e1]
    exact i_zip c.toCOk (gl_ok o h3) n1 h5 h6 (gE_a u S B X c o h7 n2).1 (gE_b v S B X c o h8 n3).1
theorem n_It_rngd {a : E} {b : E} (gE_a : GE W k a) (gE_b : GE W k b) : GIt W k (.rngd a b) := fun tg ex S B X c o h nd => by
    unfold okIt at h
    obtain ⟨x, p, xs, ks, q, rfl, h⟩ := onCall_inv h
    obtain ⟨h0, h3, h4⟩ := ba3 h
    obtain ⟨h1, h2⟩ := ba2 h0
    cases onNil_inv h1
    cases of_decide_eq_true h2
    obtain ⟨u, v, z, rfl, ht⟩ := on3_inv h4
    obtain ⟨ht, h8, h9⟩ := ba3 ht
    obtain ⟨h5, h6, h7⟩ := ba3 ht
    obtain ⟨j, q1, q2, rfl⟩ := onM1_inv h9
    unfold needIt at nd
    obtain ⟨n1, n2⟩ := inC nd
    obtain ⟨n2, n3⟩ := in1 n2
    have e1 : wpIt (.rngd a b) = fun x env M Q => wpE a x env M fun u M1 => wpE b x env M1 fun v M2 => u.asI fun l => v.asI fun h => -(2 ^ 60) ≤ l ∧ l < 2 ^ 60 ∧ -(2 ^ 60) ≤ h ∧ h < 2 ^ 60 ∧ Q ⟨fun _ => True, rangeC l (-1) (l - h).toNat⟩ M2 := by funext x env M Q; rw [wpIt]
    rw [e1]
    exact i_rngd c.toCOk (gl_ok o h3) n1 h5 h6 (gE_a u S B X c o h7 n2).1 (gE_b v S B X c o h8 n3).1
theorem n_It_ezip {a : E} {b : E} (gE_a : GE W k a) (gE_b : GE W k b) : GIt W k (.ezip a b) := fun tg ex S B X c o h nd => by
    unfold okIt at h
    obtain ⟨es, j, p0, rfl, h⟩ := onTup_inv h
    obtain ⟨x, p, xs, ks, q, rfl, h⟩ := onCall_inv h
    obtain ⟨h0, h3, h4⟩ := ba3 h
    obtain ⟨h1, h2⟩ := ba2 h0
    cases onNil_inv h1
    cases of_decide_eq_true h2
    obtain ⟨z, rfl, hq⟩ := on1_inv h4
    obtain ⟨y, p2, ys, ls, q2, rfl, hr⟩ := onCall_inv hq
    obtain ⟨h00, h5, h6⟩ := ba3 hr
    obtain ⟨h7, h8⟩ := ba2 h00
    cases onNil_inv h7
    cases of_decide_eq_true h8
    obtain ⟨u, v, rfl, ht⟩ := on2_inv h6
    obtain ⟨ht, h11, h12⟩ := ba3 ht
    obtain ⟨h9, h10⟩ := ba2 ht
    unfold needIt at nd
    obtain ⟨n1, n2⟩ := inC nd
    obtain ⟨n2, n3⟩ := inC n2
    obtain ⟨n3, n4⟩ := in1 n3
    have e1 : wpIt (.ezip a b) = fun x env M Q => wpE a x env M fun u M1 => wpE b x env M1 fun v M2 => ezipK M2 u v fun src => Q src M2 := by funext x env M Q; rw [wpIt]
    rw [e1]
    exact i_ezip c.toCOk (gl_ok o h3) n1 (gl_ok o h5) n2 h9 h10 (gE_a u S B X c o h11 n3).1 (gE_b v S B X c o h12 n4).1
theorem n_ise {a : E} {T : Str} {cs : List Str} (gE_a : GE W k a) : GE W k (.ise a T cs) := fun ex S B X c o h nd => by
    unfold okE at h
    obtain ⟨x, p, xs, ks, q, rfl, h⟩ := onCall_inv h
    obtain ⟨h0, h3, h4⟩ := ba3 h
    obtain ⟨h1, h2⟩ := ba2 h0
    cases onNil_inv h1
    cases of_decide_eq_true h2
    obtain ⟨y, z, rfl, hq⟩ := on2_inv h4
    obtain ⟨h5, h6, h7⟩ := ba3 hq
    obtain ⟨t, p2, rfl, hr⟩ := onName_inv h7
    obtain ⟨h8, h9, h10⟩ := ba3 hr
    cases of_decide_eq_true h8
    unfold needE at nd
    obtain ⟨n1, n2⟩ := inC nd
    obtain ⟨n2, n3⟩ := inC n2
    obtain ⟨A, n2⟩ := n2
    exact Both.val (e_ise c.toCOk n2 (gl_ok o h3) n1 (gl_ok o h9) h10 h5 (gE_a y S B X c o h6 n3).1) (wp_ext fun x env M Q => by rw [wpE]) fun _ => rfl
theorem n_xval {a : E} {cs : List Str} (gE_a : GE W k a) : GE W k (.xval a cs) := fun ex S B X c o h nd => by
    unfold okE at h
    obtain ⟨y, g, p, rfl, h⟩ := onAttr_inv h
    obtain ⟨h1, h2, h3⟩ := ba3 h
    cases of_decide_eq_true h1
    unfold needE at nd
    obtain ⟨n1, n2⟩ := inC nd
    exact Both.val (e_xval c.toCOk n1 h2 (gE_a y S B X c o h3 n2).1) (wp_ext fun x env M Q => by rw [wpE]) fun _ => rfl
theorem n_heard {f q : Str} {cs : List Str} {e : E} (gE_e : ∀ j, GE W j e) : GE W k (.heard f q cs e) := fun ex S B X c o h nd => by
    unfold okE at h
    obtain ⟨x, p, xs, ks, q2, rfl, h⟩ := onCall_inv h
    obtain ⟨h0, h5, h6⟩ := ba3 h
    obtain ⟨h0, h3, h4⟩ := ba3 h0
    obtain ⟨h1, h2⟩ := ba2 h0
    cases onNil_inv h1
    cases of_decide_eq_true h2
    obtain ⟨z, rfl, hz⟩ := on1_inv h6
    obtain ⟨pa, b, sc, lp, rfl, hl⟩ := onLam_inv hz
    obtain ⟨l1, l2, l3⟩ := ba3 hl
    cases noArgs_ok l1
    unfold needE at nd
    obtain ⟨n1, n2⟩ := inC nd
    obtain ⟨q1, q3⟩ := o.q q (of_decide_eq_true h5)
    have L := LamX.lamS_by l2
    rw [← o.sc] at L
    exact Both.val (e_heard c n1 q1 q3 (gl_ok o h3) h4 L fun B' Y cY eN eS eF => (gE_e (k - 2) b ⟨S.N, sc, fun _ => false, none⟩ B' Y cY ⟨eN.trans o.N, eS, eF, fun z e => by cases e⟩ l3 fun n hn => n2 (.low n) (List.mem_map.mpr ⟨n, hn, rfl⟩)).1) rfl fun _ => rfl
mutual
theorem gE : ∀ (e : E) (k : Nat), GE W k e
  | .v i, k => n_v
  | .c d, k => n_c
  | .g x d, k => n_g
  | .bin op fz a b, k => n_bin (gE a k) (gE b k)
  | .neg a, k => n_neg (gE a k)
  | .not a, k => n_not (gE a k)
  | .cmp op a b, k => n_cmp (gE a k) (gE b k)
  | .chn op op2 a b d, k => n_chn (gE a k) (gE b k) (gE d k)
  | .and es, k => n_and (gB es k)
  | .or es, k => n_or (gB es k)
  | .ite t a b, k => n_ite (gE t k) (gE a k) (gE b k)
  | .tup es, k => n_tup (gEs es k)
  | .lst fz es, k => n_lst (gEs es k)
  | .ix a i, k => n_ix (gE a k) (gE i k)
  | .sl fz a lo hi, k => n_sl (gE a k) (gEo lo k) (gEo hi k)
  | .rev fz a, k => n_rev (gE a k)
  | .bi f fz es, k => n_bi (gEs es k)
  | .isi a T cs, k => n_isi (gE a k)
  | .call f ct es, k => n_call (gEs es k)
  | .callv i tb es, k => n_callv (gEs es k)
  | .callk f ct es ks pm, k => n_callk (gEs es k) (gKs ks k)
  | .mk C ct es, k => n_mk (gEs es k)
  | .mkk C ct es ks pm, k => n_mkk (gEs es k) (gKs ks k)
  | .fld a C f, k => n_fld (gE a k)
  | .prop a C f ct, k => n_prop (gE a k)
  | .meth a C m ct es, k => n_meth (gE a k) (gEs es k)
  | .bm m fz a es, k => n_bm (gE a k) (gEs es k)
  | .comp fz t it cond elt, k => n_comp (gIt it k) (gCd cond k) (gE elt k)
  | .dnew, k => n_dnew
  | .lr1 fz a, k => n_lr1 (gE a k)
  | .lr2 fz a b, k => n_lr2 (gE a k) (gE b k)
  | .lz fz a b, k => n_lz (gE a k) (gE b k)
  | .ueq C ct a b, k => n_ueq (gE a k) (gE b k)
  | .skabs fz a, k => n_skabs (gE a k)
  | .lenset a, k => n_lenset (gE a k)
  | .ise a T cs, k => n_ise (gE a k)
  | .xval a cs, k => n_xval (gE a k)
  | .heard f q cs e, k => n_heard (fun j => gE e j)
  | .ddsp es, k => n_ddsp
  | .sset fz a, k => n_sset (gE a k)
theorem gEs : ∀ (e : Es) (k : Nat), GEs W k e
  | .nil, k => n_Es_nil
  | .cons e r, k => n_Es_cons (gE e k) (gEs r k)
  | .star e r, k => n_Es_star (gE e k) (gEs r k)
theorem gB : ∀ (e : Es) (k : Nat), GB W k e
  | .nil, k => n_B_nil
  | .star e r, k => n_B_star
  | .cons e r, k => n_B_cons (gE e k) (gB r k)
theorem gKs : ∀ (e : Ks) (k : Nat), GKs W k e
  | .nil, k => n_Ks_nil
  | .cons nm e r, k => n_Ks_cons (gE e k) (gKs r k)
theorem gEo : ∀ (e : Eo) (k : Nat), GEo W k e
  | .none, k => n_Eo_none
  | .some e, k => n_Eo_some (gE e k)
theorem gCd : ∀ (e : Eo) (k : Nat), GCd W k e
  | .none, k => n_Cd_none
  | .some e, k => n_Cd_some (gE e k)
theorem gIt : ∀ (e : It) (k : Nat), GIt W k e
  | .seq e, k => n_It_seq (gE e k)
  | .rng1 a, k => n_It_rng1 (gE a k)
  | .rng2 a b, k => n_It_rng2 (gE a k) (gE b k)
  | .enum a, k => n_It_enum (gE a k)
  | .zip a b, k => n_It_zip (gE a k) (gE b k)
  | .rngd a b, k => n_It_rngd (gE a k) (gE b k)
  | .ezip a b, k => n_It_ezip (gE a k) (gE b k)
end
end
end TL

set_option Elab.async false
set_option linter.all false
set_option maxRecDepth 100000
set_option maxHeartbeats 4000000
/-! Statements, one by one. -/
namespace TL
open PySem PySem.Spec PyProof.Rows L2

def notLc : Expr → Bool
  | .ListComp _ _ _ _ => false
  | .SetComp _ _ _ _ => false
  | .DictComp _ _ _ _ _ => false
  | _ => true
theorem sw_plain {v : Expr} {tg : Option Expr} {l : Nat} {env : Env} (h : notLc v = true) : swapsWith v tg l env = pure false := by
  cases v <;> first | rfl | cases h
def isNm : Expr → Bool
  | .Name _ _ => true
  | _ => false
theorem sw_other {v t : Expr} {l : Nat} {env : Env} (h : isNm t = false) : swapsWith v (some t) l env = pure false := by
  cases v <;> cases t <;> first | rfl | cases h
theorem sw_false {elt : Expr} {gs : List Comprehension} {scope : Scope} {pos py : Pos} {y : Str} {l : Nat} {env : Env} (hk : env.scope.kind = .function)
    (h : (decide (env.scope.names.lookup y = some .local) && (py.line == pos.line) && !(scope.names.any fun (n, k) => n == y && (k == .local || k == .cell))) = false) : swapsWith (.ListComp elt gs scope pos) (some (.Name y py)) l env = pure false := by
  have hb : env.blockKind = .function := by unfold Env.blockKind; rw [hk]; rfl
  have e : (env.kindOf y == some .local) = decide (env.scope.names.lookup y = some .local) := by
    show (env.scope.names.lookup y == some .local) = _
    cases hz : decide (env.scope.names.lookup y = some .local) with
    | true => rw [of_decide_eq_true hz]; rfl
    | false =>
      have := of_decide_eq_false hz
      simpa using this
  unfold swapsWith
  simp only [hb, Expr.pos, e]
  have t : ((ScopeKind.function == ScopeKind.function) && decide (env.scope.names.lookup y = some .local) && (py.line == pos.line) && !(scope.names.any fun (n, k) => n == y && (k == .local || k == .cell))) = false := h
  exact congrArg pure t
def tupTup (t v : Expr) : Bool := match t, v with
  | .Tuple _ _ _, .Tuple _ _ _ => true
  | .List _ _, .Tuple _ _ _ => true
  | _, _ => false
theorem ss_none {t v : Expr} {env : Env} (h : tupTup t v = false) : swappedStores [t] v env = pure none := by
  cases t <;> cases v <;> first | rfl | cases h
/-- what swappedStores answers -/
def ssO (sc : Scope) (ts vs : List Expr) : Option (Option (List Str)) :=
  if !(ts.length == 2 || ts.length == 3) || vs.length != ts.length then some none
  else if (vs.any fun | .Starred .. => true | _ => false) then some none
  else
    let names := ts.filterMap fun
      | .Name id pos => if sc.names.lookup id == some .local && pos.line == (ts.head?.map (·.pos.line)).getD 0 then some id else none
      | _ => none
    if names.length != ts.length || names.eraseDups.length != names.length then some none
    else if vs.all (foldedForSure 8) then some none
    else if vs.all (constantsAlone 8) then none
    else some (some names)
theorem ss_eq {ts vs : List Expr} {k k2 : Nat} {p p2 : Pos} {env : Env} {r : Option (List Str)} (hk : env.scope.kind = .function) (h : ssO env.scope ts vs = some r) : swappedStores [.Tuple ts k p] (.Tuple vs k2 p2) env = pure r := by
  have hb : env.blockKind = .function := by unfold Env.blockKind; rw [hk]; rfl
  unfold ssO at h
  unfold swappedStores
  simp only [hb]
  have t : (ScopeKind.function != ScopeKind.function) = false := rfl
  simp only [t, Bool.or_false]
  by_cases c1 : (!(ts.length == 2 || ts.length == 3) || vs.length != ts.length) = true
  · rw [if_pos c1] at h ⊢; cases h; rfl
  · rw [if_neg c1] at h ⊢
    by_cases c2 : (vs.any fun | .Starred .. => true | _ => false) = true
    · rw [if_pos c2] at h
      cases h
      exact if_pos c2
    · rw [if_neg c2] at h
      refine (if_neg c2).trans ?_
      by_cases c3 : ((ts.filterMap fun
        | .Name id pos => if env.scope.names.lookup id == some .local && pos.line == (ts.head?.map (·.pos.line)).getD 0 then some id else none
        | _ => none).length != ts.length || (ts.filterMap fun
        | .Name id pos => if env.scope.names.lookup id == some .local && pos.line == (ts.head?.map (·.pos.line)).getD 0 then some id else none
        | _ => none).eraseDups.length != (ts.filterMap fun
        | .Name id pos => if env.scope.names.lookup id == some .local && pos.line == (ts.head?.map (·.pos.line)).getD 0 then some id else none
        | _ => none).length) = true
      · have h' := (if_pos c3).symm.trans h
        cases h'
        exact if_pos c3
      · have h' := (if_neg c3).symm.trans h
        refine (if_neg c3).trans ?_
        by_cases c4 : vs.all (foldedForSure 8) = true
        · rw [if_pos c4] at h' ⊢; cases h'; rfl
        · rw [if_neg c4] at h' ⊢
          by_cases c5 : vs.all (constantsAlone 8) = true
          · rw [if_pos c5] at h'; cases h'
          · rw [if_neg c5] at h' ⊢; cases h'; rfl

section
variable {W : Wd} {k : Nat} {B : Bnd} {X : Cx}
def GPS (W : Wd) (B : Bnd) (X : Cx) (st : Stmt) (w : Fin → En → Mm → Prop) : Prop := PS X st (tS W B w)
/-- a value, then the rest -/
theorem tS_bind {p : Wp} {σ : L2.St} {H : Hp} {Q : VK} {env : En} {t : Sta} {Dp : Fin} {D : Ends} {Qp : KD} (hH : t.H = H) (he : Ext B.t0 t) (g : Good W t) (re : REnv W t env σ) (hx : Dp.ex = B.ex) (h : p (Dp.ex env) env t.M Qp) (l : LatE W t Dp D)
    (kk : ∀ d v t', Ext t t' → Ext B.t0 t' → Good W t' → REnv W t' env σ → Rep W t' d v → LatE W t' Dp D → Qp d t'.M → Q v t'.H) : tE W B p σ H Q :=
  tE_bind hH he g re (by rw [← hx]; exact h) fun d v t' e he' g' r' rd q => kk d v t' e he' g' r' rd (l.later e) q
theorem s_pass {pos : Pos} : PS X (.Pass pos) (tS W B (wpS .pass)) := ps_pass.imp fun D σ H ⟨env, t, Dp, hH, he, g, re, hx, h, l⟩ => by
  subst hH; rw [wpS] at h; exact l.nx env σ t Ext.refl g re h
theorem s_brk {pos : Pos} : PS X (.Break pos) (tS W B (wpS .brk)) := ps_break.imp fun D σ H ⟨env, t, Dp, hH, he, g, re, hx, h, l⟩ => by
  subst hH; rw [wpS] at h; exact l.bk env σ t Ext.refl g re h
theorem s_cont {pos : Pos} : PS X (.Continue pos) (tS W B (wpS .cont)) := ps_continue.imp fun D σ H ⟨env, t, Dp, hH, he, g, re, hx, h, l⟩ => by
  subst hH; rw [wpS] at h; exact l.ct env σ t Ext.refl g re h
theorem s_never {st : Stmt} : PS X st (tS W B (wpS .never)) := ps_never.imp fun D σ H ⟨env, t, Dp, hH, he, g, re, hx, h, l⟩ => by
  rw [wpS] at h; exact h
theorem s_retN {pos : Pos} : PS X (.Return none pos) (tS W B (wpS (.ret .none))) := ps_retN.imp fun D σ H ⟨env, t, Dp, hH, he, g, re, hx, h, l⟩ => by
  subst hH; rw [wpS] at h; exact l.rt .non .non t Ext.refl g (by simp only [Rep]) h
theorem s_ret {pos : Pos} {e : E} {v : Expr} (hv : PE X v (tE W B (wpE e))) : PS X (.Return (some v) pos) (tS W B (wpS (.ret (.some e)))) := (ps_ret hv).imp fun D σ H ⟨env, t, Dp, hH, he, g, re, hx, h, l⟩ => by
  subst hH; rw [wpS] at h
  exact tS_bind rfl he g re hx h l fun d v t1 e1 he1 g1 r1 rd l1 h1 => l1.rt d v t1 Ext.refl g1 rd h1
theorem s_ex {pos : Pos} {e : E} {v : Expr} (hv : PE X v (tE W B (wpE e))) (hn : notLc v = true) : PS X (.Expr v pos) (tS W B (wpS (.ex e))) := (ps_expr hv (sw_plain hn)).imp fun D σ H ⟨env, t, Dp, hH, he, g, re, hx, h, l⟩ => by
  subst hH; rw [wpS] at h
  exact tS_bind rfl he g re hx h l fun d v t1 e1 he1 g1 r1 rd l1 h1 => l1.nx env σ t1 Ext.refl g1 r1 h1
theorem as_one {t : Expr} {env : Env} (h : nost t = true) : (assignEach [t] env).map (·.2) = [assign t env] := by rw [as_cons h]; rfl
theorem s_asg {pos : Pos} {tg : Tg} {t v : Expr} {e : E} (ht : PG X t (gT W tg)) (hv : PE X v (tE W B (wpE e))) (hn : nost t = true) (hs : swapsWithSole [t] v pos.line X.env = pure false) (hw : swappedStores [t] v X.env = pure none) :
    PS X (.Assign [t] v pos) (tS W B (wpS (.asg tg e))) := (ps_asg hv ht hs hw (as_one hn)).imp fun D σ H ⟨env, st, Dp, hH, he, g, re, hx, h, l⟩ => by
  subst hH; rw [wpS] at h
  exact tS_bind rfl he g re hx h l fun d v t1 e1 he1 g1 r1 rd l1 h1 => ⟨d, env, t1, _, rfl, g1, r1, rd, h1, fun env' σ' re' _ q => l1.nx env' σ' t1 Ext.refl g1 re' q⟩
theorem s_fld {pos p : Pos} {o v : Expr} {C f : Str} {eo ev : E} (c : COk W k X) (fo : FldOk W C f) (ho : PE X o (tE W B (wpE eo))) (hv : PE X v (tE W B (wpE ev))) : PS X (.Assign [.Attribute o f p] v pos) (tS W B (wpS (.fld eo C f ev))) := by
  obtain ⟨A, o1, o2, o3⟩ := fo.ex
  refine (ps_fld ho hv (sw_other rfl)).imp fun D σ H ⟨env, st, Dp, hH, he, g, re, hx, h, l⟩ => ?_
  subst hH; rw [wpS] at h
  refine tS_bind rfl he g re hx h l fun d v t1 e1 he1 g1 r1 rd l1 h1 => tS_bind rfl he1 g1 r1 hx h1 l1 fun d2 v2 t2 e2 he2 g2 r2 rd2 l2 h2 => ?_
  obtain ⟨q, fs, rfl, em, h3, h4⟩ := insK_inv h2
  have := repR rd2; subst this
  obtain ⟨dx, vs, b1, b2, b3⟩ := ins_at g2 em o1
  have hl := b3.length
  have rv := rd.ext (e2.fst g1)
  refine ⟨q, A, dx, vs, rfl, b1, by rw [c.K]; exact o2, by rw [c.K]; exact o3, by omega, ?_⟩
  have ff : Fst t2 (t2.put q (.ins A dx (L2.putF f v vs)) (.ins C (putF' f d fs))) := Fst.put (g2.nfM em)
  refine l2.nx env σ (t2.put q (.ins A dx (L2.putF f v vs)) (.ins C (putF' f d fs))) (Ext.put em) (g2.put em ⟨A, dx, _, upd_same, o1, ?_, (b3.putF rv).ext ff⟩) (r2.ext ff) h4
  have := length_putF f v vs
  omega
theorem s_sub {pos p : Pos} {o i v : Expr} {eo ei ev : E} (c : COk W k X) (ho : PE X o (tE W B (wpE eo))) (hi : PE X i (tE W B (wpE ei))) (hv : PE X v (tE W B (wpE ev))) (hns : noSl i = true) : PS X (.Assign [.Subscript o i p] v pos) (tS W B (wpS (.sub eo ei ev))) := by
  refine (ps_asg hv (pg_sub ho hi (set_D c) fun w => by cases i <;> first | rfl | cases hns) (show swapsWith v (some (.Subscript o i p)) pos.line X.env = pure false from sw_other rfl) (ss_none (by cases v <;> rfl)) rfl).imp fun D σ H ⟨env, st, Dp, hH, he, g, re, hx, h, l⟩ => ?_
  subst hH; rw [wpS] at h
  refine tS_bind rfl he g re hx h l fun d v t1 e1 he1 g1 r1 rd l1 h1 => tS_bind rfl he1 g1 r1 hx h1 l1 fun d2 v2 t2 e2 he2 g2 r2 rd2 l2 h2 => tS_bind rfl he2 g2 r2 hx h2 l2 fun d3 v3 t3 e3 he3 g3 r3 rd3 l3 h3 => ?_
  exact ⟨d2, d3, d, t3, _, rfl, g3, rd2.ext (e3.fst g2), rd3, (rd.ext (e2.fst g1)).ext (e3.fst g2), h3, fun t4 e4 g4 q => l3.nx env σ t4 e4 g4 (r3.ext (e4.fst g3)) q⟩
theorem s_par2 {pos px py pt : Pos} {x y : Str} {a b : Expr} {es : Es} {i j kt k2 : Nat} {pt2 : Pos} (c : COk W k X) (hi : X.N[i]? = some x) (hj : X.N[j]? = some y) (hij : i ≠ j) (hx : X.env.scope.names.lookup x = some .local) (hy : X.env.scope.names.lookup y = some .local)
    (ha : PA X [a, b] (tA W B (wpEs es))) (hw : swappedStores [.Tuple [.Name x px, .Name y py] kt pt] (.Tuple [a, b] k2 pt2) X.env = pure (some [x, y])) :
    PS X (.Assign [.Tuple [.Name x px, .Name y py] kt pt] (.Tuple [a, b] k2 pt2) pos) (tS W B (wpS (.par [i, j] es))) := by
  refine (ps_par c.calm c.nd hi hj hij hx hy ha hw rfl).imp fun D σ H ⟨env, st, Dp, hH, he, g, re, hx, h, l⟩ => ?_
  subst hH; rw [wpS] at h
  refine tA_bind rfl he g re (by rw [← hx]; exact h) fun ds vs t1 e1 he1 g1 r1 rds h1 => ?_
  obtain ⟨hl, h1⟩ := h1
  match ds, hl, rds, h1 with
  | [d1, d2], _, rds, h1 =>
    obtain ⟨v1, w, rfl, z1, z2⟩ := Reps.cons_inv rds
    obtain ⟨v2, w, rfl, z3, z4⟩ := Reps.cons_inv z2
    cases Reps.nil_inv z4
    exact ⟨v1, v2, rfl, l.nx _ _ t1 e1 g1 ((r1.set i z1).set j z3) h1⟩
theorem s_par3 {pos px py pz pt : Pos} {x y z : Str} {a b d : Expr} {es : Es} {i j m kt k2 : Nat} {pt2 : Pos} (c : COk W k X) (hi : X.N[i]? = some x) (hj : X.N[j]? = some y) (hm : X.N[m]? = some z) (hij : i ≠ j) (him : i ≠ m) (hjm : j ≠ m)
    (hx : X.env.scope.names.lookup x = some .local) (hy : X.env.scope.names.lookup y = some .local) (hz : X.env.scope.names.lookup z = some .local)
    (ha : PA X [a, b, d] (tA W B (wpEs es))) (hw : swappedStores [.Tuple [.Name x px, .Name y py, .Name z pz] kt pt] (.Tuple [a, b, d] k2 pt2) X.env = pure (some [x, y, z])) :
    PS X (.Assign [.Tuple [.Name x px, .Name y py, .Name z pz] kt pt] (.Tuple [a, b, d] k2 pt2) pos) (tS W B (wpS (.par [i, j, m] es))) := by
  refine (ps_par3 c.calm c.nd hi hj hm hij him hjm hx hy hz ha hw rfl).imp fun D σ H ⟨env, st, Dp, hH, he, g, re, hx, h, l⟩ => ?_
  subst hH; rw [wpS] at h
  refine tA_bind rfl he g re (by rw [← hx]; exact h) fun ds vs t1 e1 he1 g1 r1 rds h1 => ?_
  obtain ⟨hl, h1⟩ := h1
  match ds, hl, rds, h1 with
  | [d1, d2, d3], _, rds, h1 =>
    obtain ⟨v1, w, rfl, z1, z2⟩ := Reps.cons_inv rds
    obtain ⟨v2, w, rfl, z3, z4⟩ := Reps.cons_inv z2
    obtain ⟨v3, w, rfl, z5, z6⟩ := Reps.cons_inv z4
    cases Reps.nil_inv z6
    exact ⟨v1, v2, v3, rfl, l.nx _ _ t1 e1 g1 (((r1.set i z1).set j z3).set m z5) h1⟩
theorem s_if {pos : Pos} {t : E} {x : Expr} {as bs : List Stmt} {a b : List S} (hc : PT X x (tB' W B (wpE t))) (ha : PSs X as (tS W B (wpSs a))) (hb : PSs X bs (tS W B (wpSs b))) : PS X (.If x as bs pos) (tS W B (wpS (.ite t a b))) := by
  refine (ps_if hc ha hb).imp fun D σ H ⟨env, st, Dp, hH, he, g, re, hx, h, l⟩ => ?_
  subst hH; rw [wpS] at h
  refine tB_bind (Qp := fun r M1 => if r = true then wpSs a Dp env M1 else wpSs b Dp env M1) rfl he g re (by rw [← hx]; exact h) fun r t1 e1 he1 g1 r1 h1 => ?_
  cases r with
  | true => rw [if_pos rfl] at h1 ⊢; exact ⟨env, t1, Dp, rfl, he1, g1, r1, hx, h1, l.later e1⟩
  | false => rw [if_neg Bool.false_ne_true] at h1 ⊢; exact ⟨env, t1, Dp, rfl, he1, g1, r1, hx, h1, l.later e1⟩
theorem s_while {pos : Pos} {t : E} {x : Expr} {as : List Stmt} {a : List S} (c : BodyB W k B X) (hc : PT X x (tB' W B (wpE t))) (ha : PSs X as (tS W B (wpSs a))) : PS X (.While x as [] pos) (tS W B (wpS (.whl t a))) := by
  refine (ps_while c.po hc ha).imp fun D σ H ⟨env, st, Dp, hH, he, g, re, hx, h, l⟩ => ?_
  subst hH; rw [wpS] at h
  obtain ⟨V, ⟨m0, w0⟩, turn⟩ := h
  refine ⟨fun m σ H => ∃ (env : En) (t1 : Sta), t1.H = H ∧ Ext st t1 ∧ Good W t1 ∧ REnv W t1 env σ ∧ V m env t1.M, ⟨m0, env, st, rfl, Ext.refl, g, re, w0⟩, ?_⟩
  rintro m σ H ⟨env, t1, rfl, e1, g1, r1, w1⟩
  have he1 := he.trans e1
  refine tB_bind (Qp := fun r M1 => if r = true then wpSs a { Dp with nx := fun env M => ∃ m', m' < m ∧ V m' env M, ct := fun env M => ∃ m', m' < m ∧ V m' env M, bk := Dp.nx } env M1 else Dp.nx env M1) rfl he1 g1 r1 (by rw [← hx]; exact turn m env t1.M w1) fun r t2 e2 he2 g2 r2 h2 => ?_
  cases r with
  | true =>
    rw [if_pos rfl] at h2 ⊢
    refine ⟨fun σ' H' => ∃ (env : En) (t3 : Sta), t3.H = H' ∧ Ext st t3 ∧ Good W t3 ∧ REnv W t3 env σ' ∧ ∃ m', m' < m ∧ V m' env t3.M, fun σ' H' ⟨env, t3, z1, z2, z3, z4, m', z5, z6⟩ => ⟨m', z5, env, t3, z1, z2, z3, z4, z6⟩, ?_⟩
    refine ⟨env, t2, { Dp with nx := fun env M => ∃ m', m' < m ∧ V m' env M, ct := fun env M => ∃ m', m' < m ∧ V m' env M, bk := Dp.nx }, rfl, he2, g2, r2, hx, h2, ⟨fun env σ t3 e3 g3 r3 q => ⟨env, t3, rfl, (e1.trans e2).trans e3, g3, r3, q⟩, l.rt.later (e1.trans e2), fun env σ t3 e3 g3 r3 q => l.nx env σ t3 ((e1.trans e2).trans e3) g3 r3 q, fun env σ t3 e3 g3 r3 q => ⟨env, t3, rfl, (e1.trans e2).trans e3, g3, r3, q⟩⟩⟩
  | false =>
    rw [if_neg Bool.false_ne_true] at h2 ⊢
    exact l.nx env σ t2 (e1.trans e2) g2 r2 h2
theorem s_for {pos : Pos} {tg : Tg} {it : It} {t iter : Expr} {as : List Stmt} {a : List S} (c : BodyB W k B X) (hi : PI X t iter (tI W B (wpIt it))) (hg : PG X t (gT W tg)) (ha : PSs X as (tS W B (wpSs a))) (hs : noSet iter = true) : PS X (.For t iter as [] pos) (tS W B (wpS (.for_ tg it a))) := by
  refine (ps_for c.po c.calm hi hg ha (noSet_ok hs)).imp fun dE σ H ⟨env, st, Dp, hH, he, g, re, hx, h, l⟩ => ?_
  subst hH; rw [wpS] at h
  refine ⟨env, st, _, rfl, he, g, re, by rw [← hx]; exact h, fun src t1 J e1 g1 h1 wk => ?_⟩
  let body : D → En → Mm → (En → Mm → Prop) → Prop := fun d env M k => putT tg d env M fun env1 => wpSs a { Dp with nx := k, ct := k, bk := Dp.nx } env1 M
  have h1 : forGo body src.g Dp.nx src.xs env t1.M := h1
  let Pv : Nat → L2.St → Hp → Prop := fun i σ H => ∃ (env : En) (t2 : Sta), t2.H = H ∧ Ext t1 t2 ∧ Good W t2 ∧ REnv W t2 env σ ∧ forGo body src.g Dp.nx (src.xs.drop i) env t2.M
  refine ⟨fun i m σ H => m = src.xs.length - i ∧ i ≤ src.xs.length ∧ Pv i σ H, ⟨src.xs.length, by simp, Nat.zero_le _, env, t1, rfl, Ext.refl, g1, re.ext (e1.fst g), h1⟩, ?_⟩
  rintro i m σ H ⟨rfl, hle, env2, t2, rfl, e2, g2, r2, h2⟩
  by_cases hlt : i < src.xs.length
  · obtain ⟨d, hd⟩ : ∃ d, src.xs[i]? = some d := ⟨src.xs[i], by simp [hlt]⟩
    rw [drop_cons hd] at h2
    obtain ⟨hgd, h2⟩ := h2
    refine .inr ⟨wk.goes i t2 d e2 g2 hgd hd, Pv (i + 1), fun σ' H' p' => ⟨src.xs.length - (i + 1), by omega, rfl, hlt, p'⟩, fun x H' y => ?_⟩
    obtain ⟨t3, rfl, e3, em3, g3, rd3⟩ := wk.yields i t2 x H' d e2 g2 hgd hd y
    have h3 : putT tg d env2 t3.M fun env1 => wpSs a { Dp with nx := fun env' M' => forGo body src.g Dp.nx (src.xs.drop (i + 1)) env' M', ct := fun env' M' => forGo body src.g Dp.nx (src.xs.drop (i + 1)) env' M', bk := Dp.nx } env1 t3.M := by rw [em3]; exact h2
    have e13 := e2.trans e3
    refine ⟨d, env2, t3, _, rfl, g3, r2.ext (e3.fst g2), rd3, h3, fun env' σ' re' so hq => ?_⟩
    exact ⟨env', t3, { Dp with nx := fun env' M' => forGo body src.g Dp.nx (src.xs.drop (i + 1)) env' M', ct := fun env' M' => forGo body src.g Dp.nx (src.xs.drop (i + 1)) env' M', bk := Dp.nx }, rfl, he.trans (e1.trans e13), g3, re', hx, hq, ⟨fun env σ t4 e4 g4 r4 q => ⟨env, t4, rfl, e13.trans e4, g4, r4, q⟩, l.rt.later (e1.trans e13), fun env σ t4 e4 g4 r4 q => l.nx env σ t4 ((e1.trans e13).trans e4) g4 r4 q, fun env σ t4 e4 g4 r4 q => ⟨env, t4, rfl, e13.trans e4, g4, r4, q⟩⟩⟩
  · have ei : i = src.xs.length := by omega
    subst ei
    rw [List.drop_length] at h2
    obtain ⟨hgd, h2⟩ := h2
    exact .inl ⟨wk.stops t2 e2 g2 hgd, l.nx env2 σ t2 (e1.trans e2) g2 r2 h2⟩
theorem ss_nil : PSs X [] (tS W B (wpSs [])) := pss_nil.imp fun D σ H ⟨env, t, Dp, hH, he, g, re, hx, h, l⟩ => by
  subst hH; rw [wpSs] at h; exact l.nx env σ t Ext.refl g re h
theorem ss_cons {st : Stmt} {sts : List Stmt} {s : S} {r : List S} (h1 : PS X st (tS W B (wpS s))) (h2 : PSs X sts (tS W B (wpSs r))) : PSs X (st :: sts) (tS W B (wpSs (s :: r))) := (pss_cons h1 h2).imp fun D σ H ⟨env, t, Dp, hH, he, g, re, hx, h, l⟩ => by
  subst hH; rw [wpSs] at h
  exact ⟨env, t, { Dp with nx := fun env M => wpSs r Dp env M }, rfl, he, g, re, hx, h, ⟨fun env' σ' t' e' g' r' q => ⟨env', t', Dp, rfl, he.trans e', g', r', hx, q, l.later e'⟩, l.rt, l.bk, l.ct⟩⟩
end
end TL

set_option Elab.async false
set_option linter.all false
set_option maxRecDepth 100000
set_option maxHeartbeats 4000000
/-! The check of statements; a def's body. -/
namespace TL
open PySem PySem.Spec PyProof.Rows L2

def onAsg (s : Stmt) (k : Expr → Expr → Bool) : Bool := match s with | .Assign [t] v _ => k t v | _ => false
def onExpr (s : Stmt) (k : Expr → Bool) : Bool := match s with | .Expr v _ => k v | _ => false
def onRet (s : Stmt) (k : Option Expr → Bool) : Bool := match s with | .Return v _ => k v | _ => false
def onIfS (s : Stmt) (k : Expr → List Stmt → List Stmt → Bool) : Bool := match s with | .If c a b _ => k c a b | _ => false
def onWhile (s : Stmt) (k : Expr → List Stmt → Bool) : Bool := match s with | .While c a [] _ => k c a | _ => false
def onFor (s : Stmt) (k : Expr → Expr → List Stmt → Bool) : Bool := match s with | .For t i a [] _ => k t i a | _ => false
def onPass (s : Stmt) : Bool := match s with | .Pass _ => true | _ => false
def onBrk (s : Stmt) : Bool := match s with | .Break _ => true | _ => false
def onCont (s : Stmt) : Bool := match s with | .Continue _ => true | _ => false
def onRaise (s : Stmt) (k : Str → Expr → Bool) : Bool := match s with | .Raise (some (.Call (.Name x _) [a] [] _)) none _ => k x a | _ => false
theorem onRaise_inv {s : Stmt} {k} (h : onRaise s k = true) : ∃ x a p q r, s = .Raise (some (.Call (.Name x p) [a] [] q)) none r ∧ k x a = true := by unfold onRaise at h; split at h; exact ⟨_, _, _, _, _, rfl, h⟩; cases h
def onNm (e : Expr) (k : Str → Pos → Bool) : Bool := match e with | .Name x p => k x p | _ => false
def onComp' (e : Expr) (k : Expr → Expr → Expr → List Expr → Scope → Pos → Bool) : Bool := match e with | .ListComp x [⟨tg, iter, ifs, 0⟩] sc p => k x tg iter ifs sc p | _ => false
section
variable {s : Stmt} {e : Expr}
theorem onAsg_inv {k} (h : onAsg s k = true) : ∃ t v p, s = .Assign [t] v p ∧ k t v = true := by unfold onAsg at h; split at h; exact ⟨_, _, _, rfl, h⟩; cases h
theorem onExpr_inv {k} (h : onExpr s k = true) : ∃ v p, s = .Expr v p ∧ k v = true := by unfold onExpr at h; split at h; exact ⟨_, _, rfl, h⟩; cases h
theorem onRet_inv {k} (h : onRet s k = true) : ∃ v p, s = .Return v p ∧ k v = true := by unfold onRet at h; split at h; exact ⟨_, _, rfl, h⟩; cases h
theorem onIfS_inv {k} (h : onIfS s k = true) : ∃ c a b p, s = .If c a b p ∧ k c a b = true := by unfold onIfS at h; split at h; exact ⟨_, _, _, _, rfl, h⟩; cases h
theorem onWhile_inv {k} (h : onWhile s k = true) : ∃ c a p, s = .While c a [] p ∧ k c a = true := by unfold onWhile at h; split at h; exact ⟨_, _, _, rfl, h⟩; cases h
theorem onFor_inv {k} (h : onFor s k = true) : ∃ t i a p, s = .For t i a [] p ∧ k t i a = true := by unfold onFor at h; split at h; exact ⟨_, _, _, _, rfl, h⟩; cases h
theorem onPass_inv (h : onPass s = true) : ∃ p, s = .Pass p := by unfold onPass at h; split at h; exact ⟨_, rfl⟩; cases h
theorem onBrk_inv (h : onBrk s = true) : ∃ p, s = .Break p := by unfold onBrk at h; split at h; exact ⟨_, rfl⟩; cases h
theorem onCont_inv (h : onCont s = true) : ∃ p, s = .Continue p := by unfold onCont at h; split at h; exact ⟨_, rfl⟩; cases h
theorem onNm_inv {k} (h : onNm e k = true) : ∃ x p, e = .Name x p ∧ k x p = true := by unfold onNm at h; split at h; exact ⟨_, _, rfl, h⟩; cases h
theorem onComp'_inv {k} (h : onComp' e k = true) : ∃ x tg iter ifs sc p, e = .ListComp x [⟨tg, iter, ifs, 0⟩] sc p ∧ k x tg iter ifs sc p = true := by unfold onComp' at h; split at h; exact ⟨_, _, _, _, _, _, rfl, h⟩; cases h
end
/-- name = [..], the comprehension's own store -/
def swB (S : Sit) (y : Str) (py pos : Pos) (scope : Scope) : Bool := decide (S.sc.names.lookup y = some .local) && (py.line == pos.line) && !(scope.names.any fun (n, k) => n == y && (k == .local || k == .cell))
def okSw (S : Sit) (t v : Expr) : Bool := notLc v || !isNm t || onNm t fun y py => onComp' v fun _ _ _ _ scope pos => !swB S y py pos scope
def okSs (S : Sit) (t v : Expr) : Bool := !tupTup t v || onTup t fun ts => onTup v fun vs => decide (ssO S.sc ts vs = some none)
theorem okSw_ok {S : Sit} {X : Cx} (o : SitOk S X) (hk : X.env.scope.kind = .function) {t v : Expr} {l : Nat} (h : okSw S t v = true) : swapsWithSole [t] v l X.env = pure false := by
  show swapsWith v (some t) l X.env = pure false
  unfold okSw at h
  simp only [Bool.or_eq_true] at h
  rcases h with (h | h) | h
  · exact sw_plain h
  · exact sw_other (by simpa using h)
  · obtain ⟨y, py, rfl, h2⟩ := onNm_inv h
    obtain ⟨x, tg, iter, ifs, sc, p, rfl, h3⟩ := onComp'_inv h2
    refine sw_false hk ?_
    rw [o.sc]
    unfold swB at h3
    exact (Bool.not_eq_true' _).mp h3
theorem okSs_ok {S : Sit} {X : Cx} (o : SitOk S X) (hk : X.env.scope.kind = .function) {t v : Expr} (h : okSs S t v = true) : swappedStores [t] v X.env = pure none := by
  unfold okSs at h
  simp only [Bool.or_eq_true] at h
  rcases h with h | h
  · exact ss_none (by simpa using h)
  · obtain ⟨ts, j, p, rfl, h2⟩ := onTup_inv h
    obtain ⟨vs, j2, p2, rfl, h3⟩ := onTup_inv h2
    exact ss_eq hk (by rw [o.sc]; exact of_decide_eq_true h3)
def isCmp : E → Bool
  | .comp _ _ _ _ _ => true
  | _ => false
/-- the store goes with the comprehension -/
def lcSw (S : Sit) : Tg → E → Expr → Expr → Bool
  | .nm i, .comp _ _ _ _ _, t, v => onNm t fun y py => decide (S.N[i]? = some y) && decide (S.sc.names.lookup y = some .local) && onComp' v fun _ _ _ _ scope pos => swB S y py pos scope
  | _, _, _, _ => false
def okPar (S : Sit) (is : List Nat) (es : Es) (t v : Expr) : Bool := onTup t fun ts => onTup v fun vs => match is, ts, vs with
  | [i, j], [.Name x _, .Name y _], [a, b] => decide (S.N[i]? = some x) && decide (S.N[j]? = some y) && decide (i ≠ j) && decide (S.sc.names.lookup x = some .local) && decide (S.sc.names.lookup y = some .local) && decide (ssO S.sc ts vs = some (some [x, y])) && okEs S es [a, b]
  | [i, j, m], [.Name x _, .Name y _, .Name z _], [a, b, c] => decide (S.N[i]? = some x) && decide (S.N[j]? = some y) && decide (S.N[m]? = some z) && decide (i ≠ j) && decide (i ≠ m) && decide (j ≠ m) && decide (S.sc.names.lookup x = some .local) && decide (S.sc.names.lookup y = some .local) && decide (S.sc.names.lookup z = some .local) &&
      decide (ssO S.sc ts vs = some (some [x, y, z])) && okEs S es [a, b, c]
  | _, _, _ => false
mutual
def okS (S : Sit) : TL.S → Stmt → Bool
  | .asg tg e, st => onAsg st fun t v => okE S e v && (lcSw S tg e t v || (nost t && okT S.N S.sc S.fn tg t && okSw S t v && okSs S t v))
  | .par is es, st => onAsg st fun t v => okPar S is es t v
  | .fld o _ f e, st => onAsg st fun t v => onAttr t fun x g => decide (g = f) && okE S o x && okE S e v
  | .sub o i e, st => onAsg st fun t v => onIx t fun x y => noSl y && okE S o x && okE S i y && okE S e v
  | .ex e, st => onExpr st fun v => notLc v && okE S e v
  | .ret .none, st => onRet st fun v => onNone v
  | .ret (.some e), st => onRet st fun v => onSome v fun x => okE S e x
  | .ite t a b, st => onIfS st fun c x y => okE S t c && okSs' S a x && okSs' S b y
  | .whl t a, st => onWhile st fun c x => okE S t c && okSs' S a x
  | .for_ tg it a, st => onFor st fun t i x => okT S.N S.sc S.fn tg t && noSet i && okIt S it t i && okSs' S a x
  | .pass, st => onPass st
  | .brk, st => onBrk st
  | .cont, st => onCont st
  | .never, _ => true
  | .raise_ C e, st => onRaise st fun x a => decide (x = C) && glB S.sc C && okName C && nost a && okE S e a
def okSs' (S : Sit) : List TL.S → List Stmt → Bool
  | [], sts => onNil sts
  | s :: r, sts => onCons sts fun x y => okS S s x && okSs' S r y
end
mutual
def needS : TL.S → List Need
  | .asg _ e => needE e
  | .par _ es => needEs es
  | .fld o C f e => .fld C f :: (needE o ++ needE e)
  | .sub o i e => needE o ++ (needE i ++ needE e)
  | .ex e => needE e
  | .ret e => needEo e
  | .ite t a b => needE t ++ (needSs a ++ needSs b)
  | .whl t a => needE t ++ needSs a
  | .for_ _ it a => needIt it ++ needSs a
  | .pass => []
  | .brk => []
  | .cont => []
  | .never => []
  | .raise_ C e => .rse C :: needE e
def needSs : List TL.S → List Need
  | [] => []
  | s :: r => needS s ++ needSs r
end
def GS (W : Wd) (k : Nat) (s : TL.S) : Prop := ∀ (st : Stmt) (S : Sit) (B : Bnd) (X : Cx), BodyB W k B X → SitOk S X → X.env.scope.kind = .function → okS S s st = true → (∀ n ∈ needS s, NeedOk W k n) → PS X st (tS W B (wpS s))
def GSs (W : Wd) (k : Nat) (s : List TL.S) : Prop := ∀ (st : List Stmt) (S : Sit) (B : Bnd) (X : Cx), BodyB W k B X → SitOk S X → X.env.scope.kind = .function → okSs' S s st = true → (∀ n ∈ needSs s, NeedOk W k n) → PSs X st (tS W B (wpSs s))
section
variable {W : Wd} {k : Nat}
theorem s_asgLc {B : Bnd} {X : Cx} {S : Sit} {i : Nat} {fz : Bool} {tg : Tg} {it : It} {cond : Eo} {elt : E} {y : Str} {py spos p : Pos} {x tgx iter : Expr} {ifs : List Expr} {scope : Scope} (c : BodyB W k B X) (o : SitOk S X) (hk : X.env.scope.kind = .function)
    (hi : S.N[i]? = some y) (hy : S.sc.names.lookup y = some .local) (hsw : swB S y py p scope = true)
    (hok : okE S (.comp fz tg it cond elt) (.ListComp x [⟨tgx, iter, ifs, 0⟩] scope p) = true) (nd : ∀ n ∈ needE (.comp fz tg it cond elt), NeedOk W k n) :
    PS X (.Assign [.Name y py] (.ListComp x [⟨tgx, iter, ifs, 0⟩] scope p) spos) (tS W B (wpS (.asg (.nm i) (.comp fz tg it cond elt)))) := by
  unfold okE at hok
  have z := sComp (gIt it _) (gCd cond _) (gE elt _) x tgx iter ifs scope S B X c.toCtxB o hok nd
  unfold swB at hsw
  simp only [Bool.and_eq_true, Bool.not_eq_true'] at hsw
  have hyl : X.env.scope.names.lookup y = some .local := by rw [o.sc]; exact hy
  refine (ps_setLc (i := i) c.calm c.nd (by rw [o.N]; exact hi) hyl (sw_true hk hyl hsw.1.2 hsw.2) z.1 z.2.1 z.2.2.1 z.2.2.2.1 z.2.2.2.2.1 z.2.2.2.2.2.1).imp fun dE σ H ⟨env, st, Dp, hH, he, g, re, hx, h, l⟩ => ?_
  subst hH; rw [wpS] at h
  refine comp_imp z.2.2.2.2.2.2 (tS_bind rfl he g re hx h l fun d v t1 e1 he1 g1 r1 rd l1 h1 => ?_)
  rw [putT] at h1
  exact l1.nx _ _ t1 Ext.refl g1 (r1.set i rd) h1
theorem n_asg {tg : Tg} {e : E} : GS W k (.asg tg e) := fun st S B X c o hk h nd => by
  unfold okS at h
  obtain ⟨t, v, p, rfl, h⟩ := onAsg_inv h
  obtain ⟨h1, h2⟩ := ba2 h
  unfold needS at nd
  simp only [Bool.or_eq_true] at h2
  rcases h2 with h2 | h2
  · unfold lcSw at h2
    split at h2
    · rename_i i _ _ _ _ _ _ _
      obtain ⟨y, py, rfl, h3⟩ := onNm_inv h2
      obtain ⟨h4, h5, h6⟩ := ba3 h3
      obtain ⟨x, tgx, iter, ifs, sc, pp, rfl, h7⟩ := onComp'_inv h6
      exact s_asgLc c o hk (of_decide_eq_true h4) (of_decide_eq_true h5) h7 h1 nd
    · cases h2
  · obtain ⟨h3, h6, h7⟩ := ba3 h2
    obtain ⟨h4, h5⟩ := ba2 h3
    exact s_asg (g_tg c.toCOk o.N o.sc o.fn tg t h5) (gE e _ v S B X c.toCtxB o h1 nd).1 h4 (okSw_ok o hk h6) (okSs_ok o hk h7)
theorem n_par {is : List Nat} {es : Es} : GS W k (.par is es) := fun st S B X c o hk h nd => by
  unfold okS at h
  obtain ⟨t, v, p, rfl, h⟩ := onAsg_inv h
  unfold okPar at h
  obtain ⟨ts, j1, p1, rfl, h'⟩ := onTup_inv h
  obtain ⟨vs, j2, p2, rfl, h''⟩ := onTup_inv h'
  clear h h'
  have h := h''
  clear h''
  unfold needS at nd
  split at h
  · simp only [Bool.and_eq_true, decide_eq_true_eq] at h
    obtain ⟨⟨⟨⟨⟨⟨h1, h2⟩, h3⟩, h4⟩, h5⟩, h6⟩, h7⟩ := h
    exact s_par2 c.toCOk (by rw [o.N]; exact h1) (by rw [o.N]; exact h2) h3 (by rw [o.sc]; exact h4) (by rw [o.sc]; exact h5) (gEs es _ _ S B X c.toCtxB o h7 nd) (ss_eq hk (by rw [o.sc]; exact h6))
  · simp only [Bool.and_eq_true, decide_eq_true_eq] at h
    obtain ⟨⟨⟨⟨⟨⟨⟨⟨⟨⟨h1, h2⟩, h3⟩, h4⟩, h5⟩, h6⟩, h7⟩, h8⟩, h9⟩, h10⟩, h11⟩ := h
    exact s_par3 c.toCOk (by rw [o.N]; exact h1) (by rw [o.N]; exact h2) (by rw [o.N]; exact h3) h4 h5 h6 (by rw [o.sc]; exact h7) (by rw [o.sc]; exact h8) (by rw [o.sc]; exact h9) (gEs es _ _ S B X c.toCtxB o h11 nd) (ss_eq hk (by rw [o.sc]; exact h10))
  · cases h
theorem n_sfld {a : E} {C f : Str} {e : E} : GS W k (.fld a C f e) := fun st S B X c o hk h nd => by
  unfold okS at h
  obtain ⟨t, v, p, rfl, h'⟩ := onAsg_inv h
  obtain ⟨x, g, p2, rfl, h''⟩ := onAttr_inv h'
  obtain ⟨h1, h2, h3⟩ := ba3 h''
  cases of_decide_eq_true h1
  unfold needS at nd
  obtain ⟨n1, n2⟩ := inC nd
  obtain ⟨n2, n3⟩ := in1 n2
  exact s_fld c.toCOk n1 (gE a _ x S B X c.toCtxB o h2 n2).1 (gE e _ v S B X c.toCtxB o h3 n3).1
theorem n_sub {a i e : E} : GS W k (.sub a i e) := fun st S B X c o hk h nd => by
  unfold okS at h
  obtain ⟨t, v, p, rfl, h'⟩ := onAsg_inv h
  obtain ⟨x, y, p2, rfl, h''⟩ := onIx_inv h'
  obtain ⟨h0, h3, h4⟩ := ba3 h''
  obtain ⟨h1, h2⟩ := ba2 h0
  unfold needS at nd
  obtain ⟨n1, n2⟩ := in1 nd
  obtain ⟨n2, n3⟩ := in1 n2
  exact s_sub c.toCOk (gE a _ x S B X c.toCtxB o h2 n1).1 (gE i _ y S B X c.toCtxB o h3 n2).1 (gE e _ v S B X c.toCtxB o h4 n3).1 h1
theorem n_ex {e : E} : GS W k (.ex e) := fun st S B X c o hk h nd => by
  unfold okS at h
  obtain ⟨v, p, rfl, h⟩ := onExpr_inv h
  obtain ⟨h1, h2⟩ := ba2 h
  unfold needS at nd
  exact s_ex (gE e _ v S B X c.toCtxB o h2 nd).1 h1
theorem n_ret {eo : Eo} : GS W k (.ret eo) := fun st S B X c o hk h nd => by
  cases eo with
  | none =>
    unfold okS at h
    obtain ⟨v, p, rfl, h'⟩ := onRet_inv h
    cases onNone_inv h'
    exact s_retN
  | some e =>
    unfold okS at h
    obtain ⟨v, p, rfl, h'⟩ := onRet_inv h
    obtain ⟨x, rfl, h''⟩ := onSome_inv h'
    unfold needS needEo at nd
    exact s_ret (gE e _ x S B X c.toCtxB o h'' nd).1
theorem n_sif {t : E} {a b : List TL.S} (ha : GSs W k a) (hb : GSs W k b) : GS W k (.ite t a b) := fun st S B X c o hk h nd => by
  unfold okS at h
  obtain ⟨z, x, y, p, rfl, h⟩ := onIfS_inv h
  obtain ⟨h1, h2, h3⟩ := ba3 h
  unfold needS at nd
  obtain ⟨n1, n2⟩ := in1 nd
  obtain ⟨n2, n3⟩ := in1 n2
  exact s_if (gE t _ z S B X c.toCtxB o h1 n1).2 (ha x S B X c o hk h2 n2) (hb y S B X c o hk h3 n3)
theorem n_whl {t : E} {a : List TL.S} (ha : GSs W k a) : GS W k (.whl t a) := fun st S B X c o hk h nd => by
  unfold okS at h
  obtain ⟨z, x, p, rfl, h⟩ := onWhile_inv h
  obtain ⟨h1, h2⟩ := ba2 h
  unfold needS at nd
  obtain ⟨n1, n2⟩ := in1 nd
  exact s_while c (gE t _ z S B X c.toCtxB o h1 n1).2 (ha x S B X c o hk h2 n2)
theorem n_for {tg : Tg} {it : It} {a : List TL.S} (ha : GSs W k a) : GS W k (.for_ tg it a) := fun st S B X c o hk h nd => by
  unfold okS at h
  obtain ⟨t, i, x, p, rfl, h⟩ := onFor_inv h
  obtain ⟨h0, h3, h4⟩ := ba3 h
  obtain ⟨h1, h2⟩ := ba2 h0
  unfold needS at nd
  obtain ⟨n1, n2⟩ := in1 nd
  exact s_for c (gIt it _ t i S B X c.toCtxB o h3 n1) (g_tg c.toCOk o.N o.sc o.fn tg t h1) (ha x S B X c o hk h4 n2) h2
theorem n_pass : GS W k .pass := fun st S B X c o hk h nd => by unfold okS at h; obtain ⟨p, rfl⟩ := onPass_inv h; exact s_pass
theorem n_brk : GS W k .brk := fun st S B X c o hk h nd => by unfold okS at h; obtain ⟨p, rfl⟩ := onBrk_inv h; exact s_brk
theorem n_cont : GS W k .cont := fun st S B X c o hk h nd => by unfold okS at h; obtain ⟨p, rfl⟩ := onCont_inv h; exact s_cont
theorem n_never : GS W k .never := fun st S B X c o hk h nd => s_never
theorem n_raise {C : Str} {e : E} : GS W k (.raise_ C e) := fun st S B X c o hk h nd => by
  unfold okS at h
  obtain ⟨x, a, p, q, r, rfl, h⟩ := onRaise_inv h
  obtain ⟨h0, h4, h5⟩ := ba3 h
  obtain ⟨h1, h2, h3⟩ := ba3 h0
  cases of_decide_eq_true h1
  unfold needS at nd
  obtain ⟨n1, n2⟩ := inC nd
  exact s_raise c n1 (gl_ok o h2) h3 h4 (gE e _ a S B X c.toCtxB o h5 n2).1
theorem n_nil : GSs W k [] := fun st S B X c o hk h nd => by unfold okSs' at h; have e := onNil_inv h; subst e; exact ss_nil
theorem n_cons {s : TL.S} {r : List TL.S} (h1 : GS W k s) (h2 : GSs W k r) : GSs W k (s :: r) := fun st S B X c o hk h nd => by
  unfold okSs' at h
  obtain ⟨x, y, e, h'⟩ := onCons_inv h
  subst e
  obtain ⟨a1, a2⟩ := ba2 h'
  unfold needSs at nd
  obtain ⟨n1, n2⟩ := in1 nd
  exact ss_cons (h1 x S B X c o hk a1 n1) (h2 y S B X c o hk a2 n2)
mutual
theorem gS : ∀ s : TL.S, GS W k s
  | .asg _ _ => n_asg
  | .par _ _ => n_par
  | .fld _ _ _ _ => n_sfld
  | .sub _ _ _ => n_sub
  | .ex _ => n_ex
  | .ret _ => n_ret
  | .ite _ a b => n_sif (gSs a) (gSs b)
  | .whl _ a => n_whl (gSs a)
  | .for_ _ _ a => n_for (gSs a)
  | .pass => n_pass
  | .brk => n_brk
  | .cont => n_cont
  | .never => n_never
  | .raise_ _ _ => n_raise
theorem gSs : ∀ s : List TL.S, GSs W k s
  | [] => n_nil
  | s :: r => n_cons (gS s) (gSs r)
end
/-- names, parameters: as FnScope, by a check -/
def fnScB (N P : List Str) (sc : Scope) : Bool := (match sc.kind with | .function => true | _ => false) && !sc.isCoroutine && !sc.isGenerator && decide N.Nodup && decide (N.take P.length = P) && (P.all fun x => decide (sc.names.lookup x = some .local) || decide (sc.names.lookup x = some .cell)) && (sc.names.all fun y => decide (y.2 ≠ .free))
theorem fnScB_ok {N P : List Str} {sc : Scope} (h : fnScB N P sc = true) : FnScope N P sc := by
  unfold fnScB at h
  simp only [Bool.and_eq_true, Bool.not_eq_true', decide_eq_true_eq, List.all_eq_true, Bool.or_eq_true] at h
  obtain ⟨⟨⟨⟨⟨⟨h1, h2⟩, h3⟩, h4⟩, h5⟩, h6⟩, h7⟩ := h
  refine ⟨?_, h2, h3, h4, h5, h6, h7⟩
  split at h1
  · assumption
  · cases h1
/-- THE RULE: a def whose text fits keeps the promise that its small text keeps -/
theorem fn_rule {x qual : Str} {st : Stmt} {dvs : List V} {kws : List (Str × V)} {f : Addr} {fd : FuncData} {N ps : List Str} {ct : Contract} {body : List TL.S} (F : FunD W.K x qual (defArgs st) (defBody st) (defScope st) dvs kws f fd)
    (hok : (fnScB N ps (defScope st) && okSs' ⟨N, defScope st, fun _ => true, none⟩ body (defBody st)) = true) (len : ∀ ds M x Q, ct ds M x Q → ds.length = ps.length) (nd : ∀ n ∈ needSs body, NeedOk W k n)
    (hw : ∀ ds M x Q, ct ds M x Q → wpSs body { nx := fun _ M' => TL.fin Q .non M', rt := TL.fin Q, ex := fun _ => x } (startE N.length ds) M) : FnG W (k + 1) f fd ps ct := by
  obtain ⟨h1, h2⟩ := ba2 hok
  have sc := fnScB_ok h1
  exact fnG_of F sc len (fun B X eN eS _ _ c => gSs body _ ⟨N, defScope st, fun _ => true, none⟩ B X c ⟨eN, eS, c.lfn, fun z e => by cases e⟩ (by rw [eS]; exact sc.kind) h2 nd) hw
/-- .. of a def that makes lambdas -/
theorem fn_ruleL {x qual : Str} {st : Stmt} {dvs : List V} {kws : List (Str × V)} {f : Addr} {fd : FuncData} {N ps : List Str} {ct : Contract} {body : List TL.S} (F : FunD W.K x qual (defArgs st) (defBody st) (defScope st) dvs kws f fd)
    (hcd : codeAt W.K qual = some fd.code) (hok : (fnScB N ps (defScope st) && okSs' ⟨N, defScope st, fun _ => true, some qual⟩ body (defBody st)) = true) (len : ∀ ds M x Q, ct ds M x Q → ds.length = ps.length) (nd : ∀ n ∈ needSs body, NeedOk W k n)
    (hw : ∀ ds M x Q, ct ds M x Q → wpSs body { nx := fun _ M' => TL.fin Q .non M', rt := TL.fin Q, ex := fun _ => x } (startE N.length ds) M) : FnG W (k + 1) f fd ps ct := by
  obtain ⟨h1, h2⟩ := ba2 hok
  have sc := fnScB_ok h1
  exact fnG_of F sc len (fun B X eN eS eq eC c => gSs body _ ⟨N, defScope st, fun _ => true, some qual⟩ B X c ⟨eN, eS, c.lfn, fun z e => by cases e; exact ⟨eq, by rw [c.K, eC]; exact hcd⟩⟩ (by rw [eS]; exact sc.kind) h2 nd) hw
end
end TL

set_option Elab.async false
set_option linter.all false
set_option maxRecDepth 100000
set_option maxHeartbeats 4000000
/-! A law's end: its promise at the script. -/
namespace TL
open PySem PySem.Spec PyProof.Rows L2

theorem reps_vint {W : Wd} {t : Sta} (ns : List Int) : Reps W t (ns.map D.int) (ns.map V.int) := reps_ints ns
/-- the call of the law's def where nothing is tracked but, it may be, the script -/
theorem law_at {P : Program} {w : World} {K : PySem.W.Frag} {mg mb : Str → Option Value} {k : Nat} {fa a : Addr} {fd : FuncData} {x : Str} {ct : Contract} {s : Shared} {ns : List Int} {H : Hp} {Fz : Addr → Prop}
    (hKb : K.In (hidT s.heap H)) (hnb : (hidT s.heap H).Ns mainGlobals mg) (hbn : (hidT s.heap H).Ns builtinsNs mb) (hbb : ∀ x : Str, x ≠ "__name__" → mb x = bootBuiltins x) (hlb : (hidT s.heap H).NoLimit) (hg : s.gens = #[])
    (hok : HOk P w H s.heap) (hr : Room k callerA) (hgd : callerA.guards = some []) (F : FnG ⟨P, w, K, mg, hidT s.heap H⟩ k fa fd [x] ct) (hbind : ∀ (s : Shared) (u : Value), BindsTo s fd ⟨[u], []⟩ [(x, u)])
    (hF : ∀ b, Fz b → ∃ o, H b = some o) (hrep : Rep ⟨P, w, K, mg, hidT s.heap H⟩ ⟨H, fun _ => none, Fz⟩ (.klst (ns.map D.int)) (.ref a)) (hct : ct [.klst (ns.map D.int)] (fun _ => none) noX (fun d _ => d = .bl true)) :
    codeAny (model P w) callerA (.call (.ref fa) ⟨[.ref a], []⟩) (fun r s' => r = .ok (.ret (.bool true)) ∧ ∃ H', s'.os = s.os ∧ AllBare s'.gens ∧ Un [] [] H H' s.heap s'.heap ∧ HOk P w H' s'.heap) s := by
  have e0 : Env0 P w K mg (hidT s.heap H) callerA [] s H := ⟨rfl, ⟨hKb, hnb, ⟨mb, hbn, hbb⟩, hlb⟩, fun b o e => of_hidT e, Nat.le_of_eq (hidT_size _ _), trivial, fun b hb => absurd (show b ∈ ([] : List Addr) from hb) (by simp), hok, .of_eq hg⟩
  let W : Wd := ⟨P, w, K, mg, hidT s.heap H⟩
  let t : Sta := ⟨H, fun _ => none, Fz⟩
  have g : Good W t := ⟨fun b o e => (by cases e), fun b f => ⟨rfl, hF b f⟩⟩
  have l : Lat W t (fun d _ => d = .bl true) (fun v _ => v = .bl true) := fun d v t' _ _ rd q => by subst q; exact repB rd
  refine codeAny_mono (F.run callerA [] s t ⟨[.ref a], []⟩ [.ref a] [.ref a] [.klst (ns.map D.int)] noX (fun d _ => d = .bl true) (fun v _ => v = .bl true) hr hgd e0 (hbind s (.ref a)) (.cons rfl .nil) g (Reps.one hrep) hct l) fun r s' h => ?_
  cases r with
  | error e =>
    obtain ⟨_, _, _, _, _, _, _, _, _, _, _, _, q⟩ := (show L2.CX P w [] H s (XEd W t noX) e s' from h)
    obtain ⟨_, _, _, _, _, _, _, z⟩ := q
    exact z.elim
  | ok fl =>
    cases fl with
    | ret u =>
      obtain ⟨v, H', os, bare, un, hok', r', q⟩ := h
      have q' : v = .bl true := q
      subst q'
      obtain rfl : u = Value.bool true := r'
      exact ⟨rfl, H', os, bare, un, hok'⟩
    | next => exact False.elim h
    | brk => exact False.elim h
    | cont => exact False.elim h
theorem callerA_gd : callerA.guards = some [] := rfl
theorem law_end {P : Program} {w : World} {K : PySem.W.Frag} {mg mb : Str → Option Value} {k : Nat} {fa a : Addr} {fd : FuncData} {x : Str} {ct : Contract} {s : Shared} {vs : List Value} {ns : List Int}
    (KX : K.In s.heap) (hns : s.heap.Ns mainGlobals mg) (hb : s.heap.Ns builtinsNs mb) (hbb : ∀ x : Str, x ≠ "__name__" → mb x = bootBuiltins x) (hlim : s.heap.NoLimit) (hg : s.gens = #[])
    (ha : s.heap.get? a = some { cls := .type "list", data := .seq vs.toArray }) (hi : IntsAre vs ns) (hl : ns.length ≤ sizeLine) (hr : Room k callerA)
    (F : ∀ base : Heap, K.In base → base.Ns mainGlobals mg → FnG ⟨P, w, K, mg, base⟩ k fa fd [x] ct) (hbind : ∀ (s : Shared) (u : Value), BindsTo s fd ⟨[u], []⟩ [(x, u)])
    (hct : ct [.klst (ns.map D.int)] (fun _ => none) noX (fun d _ => d = .bl true)) :
    codeAny (model P w) callerA (.call (.ref fa) ⟨[.ref a], []⟩) (fun r s' => r = .ok (.ret (.bool true)) ∧ OldK s.heap s'.heap ∧ s'.os = s.os ∧ AllBare s'.gens) s := by
  have rv := vals_ints hi
  have lv := hi.length
  -- what is a dict is not the script
  have nd : ∀ {H : Hp}, (∀ b, H b ≠ none → b = a) → ∀ {b : Addr} {o : Obj} {es : Array DictEntry} {ep : Nat}, s.heap.get? b = some o → o.data = .dict es ep → H b = none := fun {H} hA {b o es ep} e d => by
    by_cases q : H b = none
    · exact q
    · have e' := hA b q
      subst e'
      rw [ha] at e; cases e
      cases (show Data.seq vs.toArray _ = Data.dict es ep from d)
  have hn : ∀ {H : Hp}, (∀ b, H b ≠ none → b = a) → ∀ {b : Addr} {m : Str → Option Value}, s.heap.Ns b m → (hidT s.heap H).Ns b m := fun {H} hA {b m} ⟨o, es, ep, e, d, r⟩ => ⟨o, es, ep, hidT_get e (nd hA e d), d, r⟩
  have nl : ∀ {H : Hp}, (∀ b, H b ≠ none → b = a) → (hidT s.heap H).NoLimit := fun {H} hA => let ⟨mc, h1, h2⟩ := hlim; ⟨mc, hn hA h1, h2⟩
  cases hk : K.lookup a with
  | some o =>
    have e := KX a o hk
    rw [ha] at e
    cases e
    let H : Hp := fun _ => none
    have hA : ∀ b, H b ≠ none → b = a := fun b z => absurd rfl z
    have hK : K.In (hidT s.heap H) := fun b o e => hidT_get (KX b o e) rfl
    have rep : Rep ⟨P, w, K, mg, hidT s.heap H⟩ ⟨H, fun _ => none, fun _ => False⟩ (.klst (ns.map D.int)) (.ref a) := by
      simp only [Rep]
      exact ⟨a, ns.map V.int, rfl, .inr ⟨_, vs.toArray, _, hk, rfl, fun _ => rfl, rfl, by rw [List.size_toArray, lv]; exact hl, by simpa using rv⟩, by rw [List.length_map]; exact hl, reps_vint ns⟩
    refine codeAny_mono (law_at (H := H) hK (hn hA hns) (hn hA hb) hbb (nl hA) hg (fun b u z => by cases z) hr callerA_gd (F _ hK (hn hA hns)) hbind (fun b z => z.elim) rep hct) fun r s' ⟨h1, H', h2, h3, h4, h5⟩ => ?_
    exact ⟨h1, OldK.of_keep fun b o e => h4.keep b o e rfl (by simp) (by simp), h2, h3⟩
  | none =>
    let H : Hp := fun b => if b = a then some (.frz { cls := .type "list", data := .seq vs.toArray } (.lst (ns.map V.int))) else none
    have Ha : H a = some (.frz { cls := .type "list", data := .seq vs.toArray } (.lst (ns.map V.int))) := if_pos rfl
    have Hn : ∀ b, b ≠ a → H b = none := fun b z => if_neg z
    have hA : ∀ b, H b ≠ none → b = a := fun b z => by
      by_cases q : b = a
      · exact q
      · exact absurd (Hn b q) z
    have hK : K.In (hidT s.heap H) := fun b o e => hidT_get (KX b o e) (Hn b fun z => by subst z; rw [hk] at e; cases e)
    have rep : Rep ⟨P, w, K, mg, hidT s.heap H⟩ ⟨H, fun _ => none, fun b => b = a⟩ (.klst (ns.map D.int)) (.ref a) := by
      simp only [Rep]
      exact ⟨a, ns.map V.int, rfl, .inl ⟨rfl, .inr ⟨_, Ha⟩⟩, by rw [List.length_map]; exact hl, reps_vint ns⟩
    have ok : HOk P w H s.heap := fun b u z => by
      by_cases q : b = a
      · subst q
        rw [Ha] at z; cases z
        exact ⟨ha, by rw [List.length_map]; exact hl, vs, _, rv, ha⟩
      · rw [Hn b q] at z; cases z
    refine codeAny_mono (law_at (H := H) hK (hn hA hns) (hn hA hb) hbb (nl hA) hg ok hr callerA_gd (F _ hK (hn hA hns)) hbind (fun b z => by subst z; exact ⟨_, Ha⟩) rep hct) fun r s' ⟨h1, H', h2, h3, h4, h5⟩ => ?_
    refine ⟨h1, OldK.of_keep fun b o e => ?_, h2, h3⟩
    by_cases q : b = a
    · subst q
      have z2 := h4.frzs b _ _ Ha
      obtain ⟨e2, _⟩ := h5 b _ z2
      rw [ha] at e; cases e
      exact e2
    · exact h4.keep b o e (Hn b q) (by simp) (by simp)
/-- a law over a head by facts -/
theorem walk_end {l : PySem.W.OpenLaw} {n k : Nat} {q : Program} {loose : List Str} {XP : (Str → Option Value) → Heap → Prop} {YP : World → Heap → Prop} {d : DefRec} {x : Str}
    (hn : l.most = some n) (hn2 : n ≤ sizeLine) (hdf : d.params.defaults = []) (hr : Room k callerA)
    (F : ∀ (w : World) (mg : Str → Option Value) (fa : Addr) (h : Heap), YP w h → h.Ns mainGlobals mg → mg d.name = some (.ref fa) →
      ∃ (K : PySem.W.Frag) (fd : FuncData) (ct : Contract), K.In h ∧ (∀ (s : Shared) (u : Value), BindsTo s fd ⟨[u], []⟩ [(x, u)]) ∧ (∀ ns : List Int, ns.length ≤ n → ct [.klst (ns.map D.int)] (fun _ => none) noX (fun d _ => d = .bl true)) ∧
        ∀ base : Heap, K.In base → base.Ns mainGlobals mg → FnG ⟨l.prog, w, K, mg, base⟩ k fa fd [x] ct) :
    PySem.W.WalkO q loose XP YP l.row.toRowW d [] (fun f vs => PySem.call f vs) := by
  refine Att.attach_call hn hdf fun w s₀ s₁ mg mb fa o pm cd doc a vs ns G Y ho hd hcd hmg hobj hints hlen hg => ?_
  obtain ⟨K, fd, ct, KX, hb, hct, hF⟩ := F w mg fa _ Y G.T.g hmg
  exact law_end KX G.T.g G.T.b G.T.builtins G.T.nolimit hg hobj hints (Nat.le_trans hlen hn2) hr hF hb (hct ns hlen)
end TL

set_option Elab.async false
set_option linter.all false
set_option maxRecDepth 100000
set_option maxHeartbeats 4000000
/-! What the head shows: one check over the written part, the defs. -/
namespace TL
open PySem PySem.Spec PyProof.Rows L2 He

def obsCG (n : Nat) (chk : PySem.W.Frag → Bool) (fn : List He5.DefA) (g : Addr → Option Obj) : AlC := obsC chk fn (frG g (He5.asA g n))
def hookC (n : Nat) (chk : PySem.W.Frag → Bool) (fn : List He5.DefA) : PySem.W.Hook where
  α := AlC
  obs := fun s => obsCG n chk fn s.heap.get?
  val := fun _ => valC fn
  says := fun _ h => ∃ K : PySem.W.Frag, K.In h ∧ obsC chk fn K = valC fn
  of := fun _ _ e => ⟨_, frG_in, e⟩
  keeps := fun _ _ _ ⟨K, hK, c⟩ k => ⟨K, PySem.W.Frag.In.keeps hK k, c⟩
theorem obsCG_eq {n : Nat} {chk : PySem.W.Frag → Bool} {fn : List He5.DefA} {g : Addr → Option Obj} {s : Shared} (h : ∀ a, g a = s.heap.get? a) : obsCG n chk fn g = (hookC n chk fn).obs s := by
  have e : g = s.heap.get? := funext h
  rw [e] <;> rfl
theorem says_chk {chk : PySem.W.Frag → Bool} {fn : List He5.DefA} {K : PySem.W.Frag} (c : obsC chk fn K = valC fn) : chk K = true := (ba2 (show (chk K && fn.all fun d => d.ok K) = true from congrArg (fun z : AlC => z.1) c)).1
theorem says_def {chk : PySem.W.Frag → Bool} {fn : List He5.DefA} {K : PySem.W.Frag} (c : obsC chk fn K = valC fn) (i : Nat) {d : He5.DefA} (h : fn[i]? = some d := by rfl) : ∃ fd, FunD K d.name d.qual d.params d.body d.scope (d.dvs K) (d.kws K) (d.at_ K) fd := by
  have c2 := (ba2 (show (chk K && fn.all fun d => d.ok K) = true from congrArg (fun z : AlC => z.1) c)).2
  have e : fn.map (fun d => He5.fnA K (d.at_ K)) = fn.map He5.DefA.val := congrArg (fun z : AlC => z.2) c
  have e2 : (fn.map fun d => He5.fnA K (d.at_ K))[i]? = (fn.map He5.DefA.val)[i]? := by rw [e]
  rw [List.getElem?_map, List.getElem?_map, h] at e2
  exact He5.DefA.funD (Option.some.inj e2) (List.all_eq_true.mp c2 d (List.mem_of_getElem? h))

/-! facts by checks -/
theorem tupO_inv {o : Obj} {k : Array Value → Bool} (h : tupO o k = true) : ∃ its n, o.cls = .type "tuple" ∧ o.data = .seq its n ∧ its.size ≤ sizeLine ∧ k its = true := by
  unfold tupO at h
  split at h
  · rename_i h1 h2
    obtain ⟨a, b⟩ := ba2 h
    exact ⟨_, _, h1, h2, of_decide_eq_true a, b⟩
  · cases h
theorem onLook_inv {K : PySem.W.Frag} {u : Value} {k : Addr → Obj → Bool} (h : onLook K u k = true) : ∃ a o, u = .ref a ∧ K.lookup a = some o ∧ k a o = true := by
  unfold onLook at h
  split at h
  · split at h
    · rename_i a _ o e; exact ⟨a, o, rfl, e, h⟩
    · cases h
  · cases h
variable {P : Program} {w : World} {K : PySem.W.Frag} {mg : Str → Option Value} {base : Heap} {k : Nat}
mutual
theorem repC_ok : ∀ {d : D} {u : Value}, repC K d u = true → ∃ v, RelV v u ∧ ∀ t, Rep ⟨P, w, K, mg, base⟩ t d v
  | .non, u, h => by
    unfold repC at h
    split at h
    · exact ⟨.non, rfl, fun t => by simp only [Rep]⟩
    · cases h
  | .bl b, u, h => by
    unfold repC at h
    split at h
    · cases of_decide_eq_true h; exact ⟨.bl b, rfl, fun t => by simp only [Rep]⟩
    · cases h
  | .int i, u, h => by
    unfold repC at h
    split at h
    · cases of_decide_eq_true h; exact ⟨.int i, ⟨_, rfl⟩, fun t => by simp only [Rep]⟩
    · cases h
  | .str s, u, h => by
    unfold repC at h
    split at h
    · obtain ⟨h1, h2⟩ := ba2 h
      cases of_decide_eq_true h1; exact ⟨.str s, ⟨_, rfl⟩, fun t => by simp only [Rep]; exact ⟨trivial, of_decide_eq_true h2⟩⟩
    · cases h
  | .tup xs, u, h => by
    unfold repC at h
    obtain ⟨a, o, rfl, e, h⟩ := onLook_inv h
    obtain ⟨its, n, h1, h2, h3, h4⟩ := tupO_inv h
    obtain ⟨vs, r1, r2⟩ := repCs_ok h4
    refine ⟨.ref a, rfl, fun t => ?_⟩
    simp only [Rep]
    refine ⟨a, vs, rfl, .inr ⟨o, its, n, e, h1, fun z => absurd z (by decide), h2, h3, r1⟩, ?_, r2 t⟩
    rw [r1.length, Array.length_toList]; exact h3
  | .flt _, u, h => by unfold repC at h; cases h
  | .lst _, u, h => by unfold repC at h; cases h
  | .klst _, u, h => by unfold repC at h; cases h
  | .ref _, u, h => by unfold repC at h; cases h
  | .glb _, u, h => by unfold repC at h; cases h
theorem repCs_ok : ∀ {ds : List D} {us : List Value}, repCs K ds us = true → ∃ vs, Vals vs us ∧ ∀ t, Reps ⟨P, w, K, mg, base⟩ t ds vs
  | [], us, h => by
    unfold repCs at h
    cases us with
    | nil => exact ⟨[], .nil, fun t => Reps.nil⟩
    | cons u r => cases h
  | d :: ds, us, h => by
    unfold repCs at h
    split at h
    · obtain ⟨h1, h2⟩ := ba2 h
      obtain ⟨v, r1, r2⟩ := repC_ok h1
      obtain ⟨vs, r3, r4⟩ := repCs_ok h2
      exact ⟨v :: vs, .cons r1 r3, fun t => Reps.cons (r2 t) (r4 t)⟩
    · cases h
end
theorem onGlob_inv {x : Str} {kk : Value → Bool} (h : onGlob K x kk = true) : ∃ u, PySem.W.nsIn K mainGlobals x = some (some u) ∧ kk u = true := by
  unfold onGlob at h
  split at h
  · exact ⟨_, by assumption, h⟩
  · cases h
theorem isiC_ok (X : K.In base) (G : base.Ns mainGlobals mg) {T : Str} {cs : List Str} {c : V} {u : Value} (hl : mg T = some u ∨ (mg T = none ∧ bootBuiltins T = some u)) (hc : ClsV c u) (h : isiC K T cs u = true) : IsiOk ⟨P, w, K, mg, base⟩ T cs c u := by
  obtain ⟨h1, h2⟩ := ba2 h
  refine ⟨hl, hc, fun n hn => of_decide_eq_true (List.all_eq_true.mp h1 n hn), fun C hC => ?_⟩
  have h3 := List.all_eq_true.mp h2 C hC
  unfold ownB at h3
  simp only [Bool.and_eq_true] at h3
  obtain ⟨⟨⟨⟨⟨⟨a1, a2⟩, a3⟩, a4⟩, a5⟩, a6⟩, a7⟩ := h3
  exact ⟨ga K C, glo_ok X G a1, cls_ok a2, eqO_ok a3, eqO_ok a4, of_decide_eq_true a5, of_decide_eq_true a6, of_decide_eq_true a7⟩
/-- a need that asks no def -/
theorem need_free (X : K.In base) (G : base.Ns mainGlobals mg) {x : Str} (h : needB K (.free x) = true) : NeedOk ⟨P, w, K, mg, base⟩ k (.free x) := PySem.W.mg_none_of X G (eqO_ok h)
theorem need_glob (X : K.In base) (G : base.Ns mainGlobals mg) {x : Str} {d : D} (h : needB K (.glob x d) = true) : NeedOk ⟨P, w, K, mg, base⟩ k (.glob x d) := by
  obtain ⟨u, h1, h2⟩ := onGlob_inv h
  obtain ⟨v, r1, r2⟩ := repC_ok h2
  exact ⟨v, u, PySem.W.mg_of X G h1, r1, r2⟩
theorem need_fld (X : K.In base) (G : base.Ns mainGlobals mg) {C f : Str} (h : needB K (.fld C f) = true) : NeedOk ⟨P, w, K, mg, base⟩ k (.fld C f) := by
  obtain ⟨h1, h2, h3⟩ := ba3 h
  exact ⟨⟨ga K C, glo_ok X G h1, cls_ok h2, noat_ok h3⟩⟩
theorem need_isi (X : K.In base) (G : base.Ns mainGlobals mg) {T : Str} {cs : List Str} (h : needB K (.isi T cs) = true) : NeedOk ⟨P, w, K, mg, base⟩ k (.isi T cs) := by
  unfold needB at h
  simp only [Bool.or_eq_true] at h
  rcases h with h | h
  · obtain ⟨h1, h2⟩ := ba2 h
    split at h2
    · rename_i n e
      exact ⟨.ty n, .type n, isiC_ok X G (.inr ⟨PySem.W.mg_none_of X G (eqO_ok h1), e⟩) (.ty n) h2⟩
    · cases h2
  · obtain ⟨h1, h2⟩ := ba2 h
    exact ⟨.ref (ga K T), .ref (ga K T), isiC_ok X G (.inl (glo_ok X G h1)) (.own _) h2⟩
theorem need_prp (X : K.In base) (G : base.Ns mainGlobals mg) {C f : Str} {fd : FuncData} {ps : List Str} {ct : Contract} {j : Nat} (h : prpB K C f = true) (F : FnG ⟨P, w, K, mg, base⟩ j (prpG K C f) fd ps ct) (hj : j + 1 ≤ k) (hb : Binds K fd ps []) : NeedOk ⟨P, w, K, mg, base⟩ k (.prp C f ct) := by
  obtain ⟨h1, h2, h3⟩ := ba3 h
  obtain ⟨h4, h5, h6⟩ := ba3 h3
  obtain ⟨h7, h8⟩ := ba2 h4
  refine ⟨⟨ga K C, prpA K C f, prpG K C f, fd, ps, j, hj, glo_ok X G h1, cls_ok h2, ⟨eqO_ok h7, eqO_ok h8, of_decide_eq_true h5, ?_⟩, F, hb⟩⟩
  split at h6
  · rename_i g r e
    cases of_decide_eq_true h6
    exact ⟨r, e⟩
  · cases h6
theorem need_mk (X : K.In base) (G : base.Ns mainGlobals mg) {C : Str} {fd : FuncData} {ps : List Str} {ct : Contract} {j : Nat} (h : mkB K C = true) (F : FnG ⟨P, w, K, mg, base⟩ j (ma K (ga K C) "__init__") fd ps ct) (hj : j + 1 ≤ k) (hb : Binds K fd ps []) : NeedOk ⟨P, w, K, mg, base⟩ k (.mk C ct) := by
  obtain ⟨h1, h2⟩ := ba2 h
  exact ⟨⟨ga K C, _, fd, ps, j, hj, glo_ok X G h1, mkr_ok h2, F, hb⟩⟩
theorem need_mkk (X : K.In base) (G : base.Ns mainGlobals mg) {C : Str} {fd : FuncData} {ps : List Str} {ct : Contract} {j n : Nat} {ks : List Str} {pm : List Nat} (h : mkB K C = true) (F : FnG ⟨P, w, K, mg, base⟩ j (ma K (ga K C) "__init__") fd ps ct) (hj : j + 1 ≤ k) (hb : KwM K fd ps n ks pm) : NeedOk ⟨P, w, K, mg, base⟩ k (.mkk C ct n ks pm) := by
  obtain ⟨h1, h2⟩ := ba2 h
  exact ⟨⟨ga K C, _, fd, ps, j, hj, glo_ok X G h1, mkr_ok h2, F, hb⟩⟩
theorem need_mth (X : K.In base) (G : base.Ns mainGlobals mg) {C m : Str} {fd : FuncData} {ps : List Str} {ct : Contract} {j : Nat} (h : mthB K C m = true) (F : FnG ⟨P, w, K, mg, base⟩ j (ma K (ga K C) m) fd ps ct) (hj : j ≤ k) (hb : Binds K fd ps []) : NeedOk ⟨P, w, K, mg, base⟩ k (.mth C m ct) := by
  obtain ⟨h1, h2, h3⟩ := ba3 h
  exact ⟨⟨ga K C, _, fd, ps, glo_ok X G h1, cls_ok h2, meth_ok h3, F.mono hj, hb⟩⟩
def ueqB (K : PySem.W.Frag) (C : Str) : Bool := mthB K C "__eq__" && PySem.W.notFirst K (ga K C) (.type "tuple")
theorem need_ueq (X : K.In base) (G : base.Ns mainGlobals mg) {C : Str} {fd : FuncData} {ps : List Str} {ct : Contract} {j : Nat} (h : ueqB K C = true) (F : FnG ⟨P, w, K, mg, base⟩ j (ma K (ga K C) "__eq__") fd ps ct) (hj : j ≤ k) (hb : Binds K fd ps []) : NeedOk ⟨P, w, K, mg, base⟩ k (.ueq C ct) := by
  obtain ⟨h0, h4⟩ := ba2 h
  obtain ⟨h1, h2, h3⟩ := ba3 h0
  exact ⟨⟨ga K C, _, fd, ps, glo_ok X G h1, cls_ok h2, meth_ok h3, h4, F.mono hj, hb⟩⟩
theorem need_fn (X : K.In base) (G : base.Ns mainGlobals mg) {x : Str} {fd : FuncData} {ps : List Str} {ct : Contract} {j : Nat} (h : ((Fa.glo x).ok K && (Fa.keep x).ok K) = true) (F : FnG ⟨P, w, K, mg, base⟩ j (ga K x) fd ps ct) (hj : j ≤ k) (hb : Binds K fd ps []) : NeedOk ⟨P, w, K, mg, base⟩ k (.fn x ct) := by
  obtain ⟨h1, h2⟩ := ba2 h
  exact ⟨ga K x, fd, ps, F.mono hj, glo_ok X G h1, keep_ok h2, hb⟩
theorem need_fnk (X : K.In base) (G : base.Ns mainGlobals mg) {x : Str} {fd : FuncData} {ps : List Str} {ct : Contract} {j n : Nat} {ks : List Str} {pm : List Nat} (h : ((Fa.glo x).ok K && (Fa.keep x).ok K) = true) (F : FnG ⟨P, w, K, mg, base⟩ j (ga K x) fd ps ct) (hj : j ≤ k) (hb : KwB K fd ps n ks pm) : NeedOk ⟨P, w, K, mg, base⟩ k (.fnk x ct n ks pm) := by
  obtain ⟨h1, h2⟩ := ba2 h
  exact ⟨ga K x, fd, ps, F.mono hj, glo_ok X G h1, keep_ok h2, hb⟩
end TL

set_option Elab.async false
set_option linter.all false
set_option maxRecDepth 100000
set_option maxHeartbeats 4000000
/-! Binding by keywords; lists of needs. -/
namespace TL
open PySem PySem.Spec PyProof.Rows L2
section
variable {K : PySem.W.Frag} {x qual : Str} {params : Arguments} {body : List Stmt} {scope : Scope} {kws : List (Str × V)} {f : Addr} {fd : FuncData} {ps : List Str}
theorem kwB_of (F : FunD K x qual params body scope [] kws f fd) {n : Nat} {ks : List Str} {pm : List Nat} (len : pm.length = ps.length) (lt : ∀ i ∈ pm, i < n + ks.length)
    (h : ∀ (kV doc pmv : Value) (an : Option Addr) (cdv ct : Value) (us ws : List Value), us.length = n → ws.length = ks.length → bindArgs (PySem.W.fnOf x qual params body scope .none kV doc pmv an cdv ct) ⟨us, ks.zip ws⟩ = pure (ps.zip (pm.map fun i => (us ++ ws).getD i .none))) : KwB K fd ps n ks pm := by
  obtain ⟨oc, od, dV, kV, doc, pmv, an, cdv, ct, osl, rfl, _, _, hd, _⟩ := F.ex
  obtain rfl : dV = .none := hd.elim (fun z => z.2) fun z => absurd rfl z.1
  exact ⟨len, lt, fun s us ws _ h1 h2 => .of_eq (h _ _ _ _ _ _ us ws h1 h2)⟩
theorem kwM_of (F : FunD K x qual params body scope [] kws f fd) {n : Nat} {ks : List Str} {pm : List Nat} (len : pm.length + 1 = ps.length) (lt : ∀ i ∈ pm, i < n + ks.length)
    (h : ∀ (kV doc pmv : Value) (an : Option Addr) (cdv ct : Value) (self : Value) (us ws : List Value), us.length = n → ws.length = ks.length → bindArgs (PySem.W.fnOf x qual params body scope .none kV doc pmv an cdv ct) ⟨self :: us, ks.zip ws⟩ = pure (ps.zip (self :: pm.map fun i => (us ++ ws).getD i .none))) : KwM K fd ps n ks pm := by
  obtain ⟨oc, od, dV, kV, doc, pmv, an, cdv, ct, osl, rfl, _, _, hd, _⟩ := F.ex
  obtain rfl : dV = .none := hd.elim (fun z => z.2) fun z => absurd rfl z.1
  exact ⟨len, lt, fun s self us ws _ h1 h2 => .of_eq (h _ _ _ _ _ _ self us ws h1 h2)⟩
end
theorem bind_one {K : PySem.W.Frag} {x qual a : Str} {params : Arguments} {body : List Stmt} {scope : Scope} {kws : List (Str × V)} {f : Addr} {fd : FuncData} (F : FunD K x qual params body scope [] kws f fd)
    (h : ∀ (kV doc pmv : Value) (an : Option Addr) (cdv ct : Value) (us : List Value), us.length = 1 → bindArgs (PySem.W.fnOf x qual params body scope .none kV doc pmv an cdv ct) ⟨us, []⟩ = pure ([a].zip us)) (s : Shared) (u : Value) : BindsTo s fd ⟨[u], []⟩ [(a, u)] := by
  obtain ⟨oc, od, dV, kV, doc, pmv, an, cdv, ct, osl, rfl, _, _, hd, _⟩ := F.ex
  obtain rfl : dV = .none := hd.elim (fun z => z.2) fun z => absurd rfl z.1
  exact .of_eq (h _ _ _ _ _ _ [u] rfl)
/-- the function object is one -/
theorem funD_fd {K : PySem.W.Frag} {x qual x' qual' : Str} {params params' : Arguments} {body body' : List Stmt} {scope scope' : Scope} {dvs dvs' : List V} {kws kws' : List (Str × V)} {f : Addr} {fd fd' : FuncData} (F : FunD K x qual params body scope dvs kws f fd) (F' : FunD K x' qual' params' body' scope' dvs' kws' f fd') : fd = fd' := by
  obtain ⟨_, _, _, _, _, _, _, _, _, _, _, l, _⟩ := F.ex
  obtain ⟨_, _, _, _, _, _, _, _, _, _, _, l', _⟩ := F'.ex
  rw [l] at l'
  cases l'
  rfl
theorem fa_nil {α : Type} {p : α → Prop} : ∀ n ∈ ([] : List α), p n := fun _ h => by cases h
theorem fa_cons {α : Type} {p : α → Prop} {a : α} {l : List α} (h : p a) (t : ∀ n ∈ l, p n) : ∀ n ∈ a :: l, p n := fun n m => by
  rcases List.mem_cons.mp m with rfl | m
  · exact h
  · exact t n m
theorem fa_eq {α : Type} {p : α → Prop} {a b : List α} (e : a = b) (t : ∀ n ∈ b, p n) : ∀ n ∈ a, p n := by rw [e]; exact t
theorem chk_at {l : List Bool} (h : (l.all id) = true) (i : Nat) {b : Bool} (e : l[i]? = some b) : b = true := List.all_eq_true.mp h b (List.mem_of_getElem? e)
end TL

set_option Elab.async false
set_option linter.all false
set_option maxRecDepth 100000
set_option maxHeartbeats 4000000
/-! A law's end where a def makes lambdas: its table of code objects. -/
namespace TL
open PySem PySem.Spec PyProof.Rows L2 He
/-- the law's def is called in a state that is told -/
theorem law_atG {P : Program} {w : World} {K : PySem.W.Frag} {mg mb : Str → Option Value} {k : Nat} {fa a : Addr} {fd : FuncData} {x : Str} {ct : Contract} {s : Shared} {ns : List Int} {t : Sta}
    (hKb : K.In (hidT s.heap t.H)) (hnb : (hidT s.heap t.H).Ns mainGlobals mg) (hbn : (hidT s.heap t.H).Ns builtinsNs mb) (hbb : ∀ x : Str, x ≠ "__name__" → mb x = bootBuiltins x) (hlb : (hidT s.heap t.H).NoLimit) (hg : s.gens = #[])
    (hok : HOk P w t.H s.heap) (hr : Room k callerA) (F : FnG ⟨P, w, K, mg, hidT s.heap t.H⟩ k fa fd [x] ct) (hbind : ∀ (s : Shared) (u : Value), BindsTo s fd ⟨[u], []⟩ [(x, u)])
    (g : Good ⟨P, w, K, mg, hidT s.heap t.H⟩ t) (hrep : Rep ⟨P, w, K, mg, hidT s.heap t.H⟩ t (.klst (ns.map D.int)) (.ref a)) (hct : ct [.klst (ns.map D.int)] t.M noX (fun d _ => d = .bl true)) :
    codeAny (model P w) callerA (.call (.ref fa) ⟨[.ref a], []⟩) (fun r s' => r = .ok (.ret (.bool true)) ∧ ∃ H', s'.os = s.os ∧ AllBare s'.gens ∧ Un [] [] t.H H' s.heap s'.heap ∧ HOk P w H' s'.heap) s := by
  have e0 : Env0 P w K mg (hidT s.heap t.H) callerA [] s t.H := ⟨rfl, ⟨hKb, hnb, ⟨mb, hbn, hbb⟩, hlb⟩, fun b o e => of_hidT e, Nat.le_of_eq (hidT_size _ _), trivial, fun b hb => absurd (show b ∈ ([] : List Addr) from hb) (by simp), hok, .of_eq hg⟩
  have l : Lat ⟨P, w, K, mg, hidT s.heap t.H⟩ t (fun d _ => d = .bl true) (fun v _ => v = .bl true) := fun d v t' _ _ rd q => by subst q; exact repB rd
  refine codeAny_mono (F.run callerA [] s t ⟨[.ref a], []⟩ [.ref a] [.ref a] [.klst (ns.map D.int)] noX (fun d _ => d = .bl true) (fun v _ => v = .bl true) hr rfl e0 (hbind s (.ref a)) (.cons rfl .nil) g (Reps.one hrep) hct l) fun r s' h => ?_
  cases r with
  | error e =>
    obtain ⟨_, _, _, _, _, _, _, _, _, _, _, _, q⟩ := (show L2.CX P w [] t.H s (XEd _ t noX) e s' from h)
    obtain ⟨_, _, _, _, _, _, _, z⟩ := q
    exact z.elim
  | ok fl =>
    cases fl with
    | ret u =>
      obtain ⟨v, H', os, bare, un, hok', r', q⟩ := h
      have q' : v = .bl true := q
      subst q'
      obtain rfl : u = Value.bool true := r'
      exact ⟨rfl, H', os, bare, un, hok'⟩
    | next => exact False.elim h
    | brk => exact False.elim h
    | cont => exact False.elim h
abbrev tab0 : Obj := { cls := .none, data := .fields #[] }
/-- what is asked of the memory at the law's begin: the table -/
def memT (T : Addr) (q : Str) : Mm := fun b => if b = T then some (.tab q) else none
theorem law_endT {P : Program} {w : World} {K : PySem.W.Frag} {mg mb : Str → Option Value} {k : Nat} {fa a c T : Addr} {fd : FuncData} {x q : Str} {ct : Contract} {s : Shared} {vs : List Value} {ns : List Int}
    (KX : K.In s.heap) (hns : s.heap.Ns mainGlobals mg) (hb : s.heap.Ns builtinsNs mb) (hbb : ∀ x : Str, x ≠ "__name__" → mb x = bootBuiltins x) (hlim : s.heap.NoLimit) (hg : s.gens = #[])
    (hT : s.heap.get? T = some tab0) (nT : K.lookup T = none) (hC : PySem.W.CodeHd s.heap c T) (hq : tabAt K q = some (c, T))
    (hbm : ∃ (bm : Addr) (ob : Obj), mg "__builtins__" = some (.ref bm) ∧ bm ≠ builtinsNs ∧ s.heap.get? bm = some ob ∧ ob.cls = .type "module" ∧ ob.dict = some builtinsNs ∧ ob.data = .plain)
    (ha : s.heap.get? a = some { cls := .type "list", data := .seq vs.toArray }) (hi : IntsAre vs ns) (hl : ns.length ≤ sizeLine) (hr : Room k callerA)
    (F : ∀ base : Heap, K.In base → base.Ns mainGlobals mg → FnG ⟨P, w, K, mg, base⟩ k fa fd [x] ct) (hbind : ∀ (s : Shared) (u : Value), BindsTo s fd ⟨[u], []⟩ [(x, u)])
    (hct : ct [.klst (ns.map D.int)] (memT T q) noX (fun d _ => d = .bl true)) :
    codeAny (model P w) callerA (.call (.ref fa) ⟨[.ref a], []⟩) (fun r s' => r = .ok (.ret (.bool true)) ∧ OldK s.heap s'.heap ∧ s'.os = s.os ∧ AllBare s'.gens) s := by
  have rv := vals_ints hi
  have lv := hi.length
  have aT : a ≠ T := fun z => by
    rw [z, hT] at ha
    have z' : Data.fields #[] = Data.seq vs.toArray _ := congrArg Obj.data (Option.some.inj ha)
    cases z'
  -- whatever of the script is tracked
  have core : ∀ (H : Hp) (Fz : Addr → Prop), H T = some (.tbl #[]) → (∀ b, b ≠ T → H b = none ∨ (b = a ∧ ∃ o xs, H b = some (.frz o (.lst xs)))) → HOk P w H s.heap → (H a ≠ none → K.lookup a = none) → (∀ b, Fz b → b = a ∧ ∃ o, H b = some o) →
      (∀ W : Wd, W.K = K → Rep W ⟨H, memT T q, Fz⟩ (.klst (ns.map D.int)) (.ref a)) →
      codeAny (model P w) callerA (.call (.ref fa) ⟨[.ref a], []⟩) (fun r s' => r = .ok (.ret (.bool true)) ∧ OldK s.heap s'.heap ∧ s'.os = s.os ∧ AllBare s'.gens) s := by
    intro H Fz hHT hO hok hKa hF hrep
    have only : ∀ b, H b ≠ none → b = a ∨ b = T := fun b z => by
      by_cases e : b = T
      · exact .inr e
      · rcases hO b e with y | ⟨y, _⟩
        · exact absurd y z
        · exact .inl y
    have noD : ∀ {b : Addr} {o : Obj}, s.heap.get? b = some o → (∀ us n, o.data ≠ .seq us n) → o.data ≠ .fields #[] → H b = none := fun {b o} e h1 h2 => by
      by_cases z : H b = none
      · exact z
      · rcases only b z with y | y
        · rw [y, ha] at e; cases e
          exact absurd rfl (h1 _ _)
        · rw [y, hT] at e; cases e
          exact absurd rfl h2
    have noA : ∀ {b : Addr} {o : Obj} {es : Array DictEntry} {ep : Nat}, s.heap.get? b = some o → o.data = .dict es ep → H b = none := fun {b o es ep} e d =>
      noD e (fun us n z => by rw [d] at z; cases z) (fun z => by rw [d] at z; cases z)
    have nsK : ∀ {b : Addr} {m : Str → Option Value}, s.heap.Ns b m → (hidT s.heap H).Ns b m := fun {b m} ⟨o, es, ep, e, d, r⟩ => ⟨o, es, ep, hidT_get e (noA e d), d, r⟩
    have hK : K.In (hidT s.heap H) := fun b o e => hidT_get (KX b o e) (by
      by_cases z : H b = none
      · exact z
      · rcases only b z with y | y
        · rw [y] at z e; rw [hKa z] at e; cases e
        · rw [y, nT] at e; cases e)
    have TB : LamX.TabB (hidT s.heap H) mg c T := by
      refine ⟨?_, ?_, fun z => ?_⟩
      · obtain ⟨o, us, file, tf, flags, tg, inF, text, tt, e1, r1, r2, r3, r4, r5, r6, r7, r8, hne⟩ := hC
        refine ⟨o, us, file, tf, flags, tg, inF, text, tt, hidT_get e1 (noD e1 (fun us n z => by rw [r2] at z; cases z) fun z => ?_), r1, r2, r3, r4, r5, r6, r7, r8, hne⟩
        rw [r2] at z; cases z
        simp at r3
      · obtain ⟨bm, ob, b1, b2, b3, b4, b5, b6⟩ := hbm
        have nG : bm ≠ mainGlobals := fun z => by
          obtain ⟨o, es, ep, e, hd, _⟩ := hns
          rw [z, e] at b3; cases b3
          rw [hd] at b6; cases b6
        have nP : bm ≠ T := fun z => by
          rw [z, hT] at b3; cases b3
          cases b6
        exact ⟨bm, ob, b1, b2, nG, nP, hidT_get b3 (noD b3 (fun us n z => by rw [b6] at z; cases z) (fun z => by rw [b6] at z; cases z)), b4, b5, b6⟩
      · obtain ⟨o, es, ep, e, hd, _⟩ := hns
        rw [z, hT] at e; cases e
        cases hd
    let t : Sta := ⟨H, memT T q, Fz⟩
    have gd : Good ⟨P, w, K, mg, hidT s.heap H⟩ t := by
      refine ⟨fun b o e => ?_, fun b f => ?_⟩
      · by_cases z : b = T
        · subst z
          have e' : memT b q b = some o := e
          unfold memT at e'
          rw [if_pos rfl] at e'; cases e'
          exact ⟨⟨c, hq, TB⟩, LamX.TabS.nil hHT⟩
        · have e' : memT T q b = some o := e
          unfold memT at e'
          rw [if_neg z] at e'; cases e'
      · obtain ⟨y, o, e⟩ := hF b f
        refine ⟨?_, o, e⟩
        show memT T q b = none
        unfold memT
        rw [if_neg (by rw [y]; exact aT)]
    have nl : (hidT s.heap H).NoLimit := let ⟨mc, h1, h2⟩ := hlim; ⟨mc, nsK h1, h2⟩
    refine codeAny_mono (law_atG (t := t) hK (nsK hns) (nsK hb) hbb nl hg hok hr (F _ hK (nsK hns)) hbind gd (hrep _ rfl) hct) fun r s' ⟨h1, H', h2, h3, un, hok'⟩ => ?_
    have key : ∀ b o, b ≠ T → s.heap.get? b = some o → s'.heap.get? b = some o := fun b o nb e => by
      rcases hO b nb with z | ⟨_, ob, xs, z⟩
      · exact un.keep b o e z (by simp) (by simp)
      · have z2 := un.frzs b ob _ z
        obtain ⟨e1, _⟩ := hok b _ z
        obtain ⟨e2, _⟩ := hok' b _ z2
        rw [e] at e1; cases e1
        exact e2
    obtain ⟨more, z⟩ := un.tbls T #[] hHT
    have grown : s'.heap.get? T = some { cls := .none, data := .fields (#[] ++ more) } := hok' T _ z
    refine ⟨h1, ⟨fun b o e => ?_, fun b o e => ?_⟩, h2, h3⟩
    · by_cases hbT : b = T
      · subst hbT
        rw [hT] at e; cases e
        exact .inr (.inl ⟨(hC.tab hT).isCodeTable, rfl, #[], more, rfl, grown⟩)
      · exact .inl (key b o hbT e)
    · by_cases hbT : b = T
      · subst hbT; exact ⟨_, grown⟩
      · exact ⟨o, key b o hbT e⟩
  cases hk : K.lookup a with
  | some o =>
    have e := KX a o hk
    rw [ha] at e; cases e
    let H : Hp := fun b => if b = T then some (.tbl #[]) else none
    refine core H (fun _ => False) (if_pos rfl) (fun b z => .inl (if_neg z)) (fun b u z => ?_) (fun z => absurd (if_neg aT) z) (fun b z => z.elim) fun W eW => ?_
    · by_cases y : b = T
      · subst y
        have z' : (some (HO.tbl #[])) = some u := (if_pos rfl).symm.trans z
        cases z'; exact hT
      · have z' := (if_neg y).symm.trans z
        cases z'
    · simp only [Rep]
      exact ⟨a, ns.map V.int, rfl, .inr ⟨_, vs.toArray, _, by rw [eW]; exact hk, rfl, fun _ => rfl, rfl, by rw [List.size_toArray, lv]; exact hl, by simpa using rv⟩, by rw [List.length_map]; exact hl, reps_vint ns⟩
  | none =>
    let H : Hp := fun b => if b = a then some (.frz { cls := .type "list", data := .seq vs.toArray } (.lst (ns.map V.int))) else if b = T then some (.tbl #[]) else none
    have Ha : H a = some (.frz { cls := .type "list", data := .seq vs.toArray } (.lst (ns.map V.int))) := if_pos rfl
    have HT : H T = some (.tbl #[]) := (if_neg (Ne.symm aT)).trans (if_pos rfl)
    refine core H (fun b => b = a) HT (fun b z => ?_) (fun b u z => ?_) (fun _ => hk) (fun b z => ⟨z, by rw [z]; exact ⟨_, Ha⟩⟩) fun W eW => ?_
    · by_cases y : b = a
      · exact .inr ⟨y, _, _, by rw [y]; exact Ha⟩
      · exact .inl ((if_neg y).trans (if_neg z))
    · by_cases y : b = a
      · subst y
        rw [Ha] at z; cases z
        exact ⟨ha, by rw [List.length_map]; exact hl, vs, _, rv, ha⟩
      · by_cases y2 : b = T
        · subst y2
          rw [HT] at z; cases z; exact hT
        · have z' := ((if_neg y).trans (if_neg y2)).symm.trans z
          cases z'
    · simp only [Rep]
      exact ⟨a, ns.map V.int, rfl, .inl ⟨rfl, .inr ⟨_, Ha⟩⟩, by rw [List.length_map]; exact hl, reps_vint ns⟩
theorem walk_endT {l : PySem.W.OpenLaw} {n k : Nat} {q : Program} {loose : List Str} {XP : (Str → Option Value) → Heap → Prop} {YP : World → Heap → Prop} {d : DefRec} {x : Str}
    (hn : l.most = some n) (hn2 : n ≤ sizeLine) (hdf : d.params.defaults = []) (hr : Room k callerA)
    (F : ∀ (w : World) (mg : Str → Option Value) (fa : Addr) (h : Heap), YP w h → h.Ns mainGlobals mg → mg d.name = some (.ref fa) →
      ∃ (K : PySem.W.Frag) (fd : FuncData) (ct : Contract) (c T : Addr) (qn : Str), K.In h ∧ h.get? T = some tab0 ∧ K.lookup T = none ∧ PySem.W.CodeHd h c T ∧ tabAt K qn = some (c, T) ∧ (∀ (s : Shared) (u : Value), BindsTo s fd ⟨[u], []⟩ [(x, u)]) ∧
        (∀ ns : List Int, ns.length ≤ n → ct [.klst (ns.map D.int)] (memT T qn) noX (fun d _ => d = .bl true)) ∧
        ∀ base : Heap, K.In base → base.Ns mainGlobals mg → FnG ⟨l.prog, w, K, mg, base⟩ k fa fd [x] ct) :
    PySem.W.WalkO q loose XP YP l.row.toRowW d [] (fun f vs => PySem.call f vs) := by
  refine Att.attach_call hn hdf fun w s₀ s₁ mg mb fa o pm cd doc a vs ns G Y ho hd hcd hmg hobj hints hlen hg => ?_
  obtain ⟨K, fd, ct, c, T, qn, KX, h1, h2, h3, h4, hb, hct, hF⟩ := F w mg fa _ Y G.T.g hmg
  exact law_endT KX G.T.g G.T.b G.T.builtins G.T.nolimit hg h1 h2 h3 h4 G.T.bmain hobj hints (Nat.le_trans hlen hn2) hr hF hb (hct ns hlen)
end TL

set_option Elab.async false
set_option linter.all false
set_option maxRecDepth 100000
set_option maxHeartbeats 4000000
/-! What the head shows of errors and of lambdas. -/
namespace TL
open PySem PySem.Spec PyProof.Rows L2 He
/-! ### a def that closes over its class -/
section
variable {K : PySem.W.Frag}
theorem fileB_ok {file : Str} {c : Addr} (h : fileB file K c = true) : ∃ ccl cdd vs ccs z tf, K.lookup c = some ⟨ccl, cdd, .fields vs, ccs⟩ ∧ vs[2]? = some (.str z tf) ∧ (file == z) = true := by
  unfold fileB at h
  split at h
  · rename_i o e
    obtain ⟨o1, o2, o3, o4⟩ := o
    split at h
    · rename_i vs ed
      split at h
      · rename_i z tf ez
        dsimp only at ed
        subst ed
        exact ⟨o1, o2, vs, o4, z, tf, e, ez, h⟩
      · cases h
    · cases h
  · cases h
theorem cellB_ok {cc D : Addr} (h : cellB K cc D = true) : ∃ cl cld csl, K.lookup cc = some ⟨cl, cld, .cell (some (.ref D)), csl⟩ := by
  unfold cellB at h
  split at h
  · rename_i o e
    obtain ⟨o1, o2, o3, o4⟩ := o
    split at h
    · rename_i E ed
      dsimp only at ed
      subst ed
      cases of_decide_eq_true h
      exact ⟨o1, o2, o4, e⟩
    · cases h
  · cases h
theorem xdef_ok {file : Str} {D : Addr} {d : XDef} (e : xfn K (d.at_ K) = d.val) (h : d.ok K file D = true) :
    ∃ (oc : Value) (od : Option Addr) (kV doc pm : Value) (an : Option Addr) (ct : Value) (cc cda : Addr) (osl : Array (Option Value)), K.lookup (d.at_ K) = some ⟨oc, od, .func (PySem.W.ksFn "__init__" d.qual d.params d.body d.scope .none kV doc pm an (.ref cda) ct cc), osl⟩ ∧
      PySem.W.codeIn K (.ref cda) d.qual = true ∧ (∃ ccl cdd vs ccs z tf, K.lookup cda = some ⟨ccl, cdd, .fields vs, ccs⟩ ∧ vs[2]? = some (.str z tf) ∧ (file == z) = true) ∧ ∃ cl cld csl, K.lookup cc = some ⟨cl, cld, .cell (some (.ref D)), csl⟩ := by
  unfold XDef.ok at h
  unfold xfn at e
  cases q : K.lookup (d.at_ K) with
  | none => rw [q] at h; cases h
  | some o =>
    rw [q] at h e
    obtain ⟨o1, o2, dt, o4⟩ := o
    cases dt with
    | func fd =>
      obtain ⟨n1, n2, n3, n4, n5, n6, n7, n8, n9, n10, n11, n12, n13, n14, n15⟩ := fd
      have e2 : (some (n1, n2, n3, n4, n5, n6, n15) : XFn) = some (("__init__" : Str), d.qual, d.params, .stmts d.body, d.scope, mainGlobals, builtinsNs) := e
      simp only [Option.some.injEq, Prod.mk.injEq] at e2
      obtain ⟨h1, h2, h3, h4, h5, h6, h7⟩ := e2
      subst h1 h2 h3 h4 h5 h6 h7
      dsimp only at h
      split at h
      · rename_i c x cc
        simp only [Bool.and_eq_true] at h
        obtain ⟨⟨⟨⟨g1, g2⟩, g3⟩, g4⟩, g5⟩ := h
        cases of_decide_eq_true g3
        split at g5
        · exact ⟨o1, o2, n9, n10, n11, n12, n14, cc, c, o4, rfl, g1, fileB_ok g2, cellB_ok g4⟩
        · cases g5
      · cases h
    | _ => cases h
/-! ### error classes -/
theorem oexB_ok {C : Addr} (h : oexB K C = true) : OexC K C := by
  unfold oexB at h
  simp only [Bool.and_eq_true] at h
  obtain ⟨⟨⟨⟨h1, h2⟩, h3⟩, h4⟩, h5⟩ := h
  refine ⟨?_, eqO_ok h2, of_decide_eq_true h3, of_decide_eq_true h4, h5⟩
  split at h1
  · rename_i t dd cd sl ho
    split at h1
    · rename_i C' bm k0 k1 k2 k3 n k5 hm hs
      simp only [Bool.and_eq_true, Bool.not_eq_true', decide_eq_true_eq] at h1
      obtain ⟨⟨⟨⟨⟨r1, r2⟩, r3⟩, r4⟩, r5⟩, r6⟩ := h1
      subst r1 r2 r3
      obtain ⟨nm, bs, mro, ns, qn, hd, sn, sub, ab, col, del⟩ := cd
      dsimp only at hm r4 r5
      subst hm r4 r5
      have hsl : sl = #[k0, k1, k2, k3, some (.builtin "ValueError.__new__"), k5] := by
        obtain ⟨l⟩ := sl
        simp only at hs
        rw [hs]
      subst hsl
      exact ⟨nm, qn, ns, bs, bm, sn, sub, ab, col, dd, k0, k1, k2, k3, k5, ho, r6⟩
    · cases h1
  · cases h1
theorem ecB_ok {C : Addr} (h : ecB K C = true) : ExcC K C := by
  unfold ecB at h
  simp only [Bool.and_eq_true] at h
  obtain ⟨⟨⟨⟨⟨⟨⟨h1, h2⟩, h3⟩, h4⟩, h5⟩, h6⟩, h7⟩, h8⟩ := h
  exact ⟨eqO_ok h1, eqO_ok h2, of_decide_eq_true h3, h4, eqO_ok h5, eqO_ok h6, of_decide_eq_true h7, of_decide_eq_true h8⟩
variable {P : Program} {w : World} {mg : Str → Option Value} {base : Heap} {k : Nat}
theorem excB_ok (X : K.In base) (G : base.Ns mainGlobals mg) {C : Str} (h : excB K C = true) : ExcOk ⟨P, w, K, mg, base⟩ C (ga K C) := by
  unfold excB at h
  simp only [Bool.and_eq_true] at h
  obtain ⟨⟨⟨h1, h2⟩, h3⟩, h4⟩ := h
  exact ⟨glo_ok X G h1, ecB_ok h2, xfB_ok h3, eqO_ok h4⟩
theorem need_ise (X : K.In base) (G : base.Ns mainGlobals mg) {T : Str} {cs : List Str} (h : iseB K T cs = true) : NeedOk ⟨P, w, K, mg, base⟩ k (.ise T cs) := by
  unfold iseB at h
  obtain ⟨h1, h2, h3⟩ := ba3 h
  refine ⟨ga K T, glo_ok X G h1, of_decide_eq_true h2, fun C hC => ?_⟩
  obtain ⟨h4, h5⟩ := ba2 (List.all_eq_true.mp h3 C hC)
  exact ⟨ga K C, excB_ok X G h4, of_decide_eq_true h5⟩
theorem need_xv (X : K.In base) (G : base.Ns mainGlobals mg) {cs : List Str} (h : (cs.all fun C => excB K C) = true) : NeedOk ⟨P, w, K, mg, base⟩ k (.xv cs) := fun C hC => ⟨ga K C, excB_ok X G (List.all_eq_true.mp h C hC)⟩
theorem need_rse (X : K.In base) (G : base.Ns mainGlobals mg) {C D qual : Str} {params : Arguments} {scope : Scope} {p0 p1 p2 p3 p4 p5 p6 p7 p8 p9 : Pos} (h : rseB K D C = true) (fs : freeB K "super" = true) (hk : 1 ≤ k) (hl : (p2.endLine == p4.line) = true)
    (hd : (XDef.mk (fun K => ma K (ga K D) "__init__") qual params (XI.bodyE p0 p1 p2 p3 p4 p5 p6 p7 p8 p9) scope).ok K P.main.file (ga K D) = true) (hv : xfn K (ma K (ga K D) "__init__") = some (("__init__" : Str), qual, params, .stmts (XI.bodyE p0 p1 p2 p3 p4 p5 p6 p7 p8 p9), scope, mainGlobals, builtinsNs))
    (hp : ∃ ar, (params.posonlyargs ++ params.args).head? = some ar ∧ ar.arg = ("self" : Str)) (sk : scope.kind = .function) (sc : scope.isCoroutine = false) (sg : scope.isGenerator = false) (sn : ∀ x ∈ scope.names, x.2 ≠ .cell) (s1 : scope.names.lookup ("super" : Str) = some .globalImplicit) (s2 : scope.names.lookup ("__class__" : Str) = some .free) (s3 : scope.names.lookup ("self" : Str) = some .local) (s4 : scope.names.lookup ("value" : Str) = some .local) (tp : (P.main.scope.names.lookup ("super" : Str)).isSome = false)
    (hb : ∀ (kV doc pm : Value) (an : Option Addr) (cda : Value) (ct : Value) (cc : Addr) (s : Shared) (x y : Value), BindsTo s (PySem.W.ksFn "__init__" qual params (XI.bodyE p0 p1 p2 p3 p4 p5 p6 p7 p8 p9) scope .none kV doc pm an cda ct cc) ⟨[x, y], []⟩ [("self", x), ("value", y)]) : NeedOk ⟨P, w, K, mg, base⟩ k (.rse C) := by
  unfold rseB at h
  simp only [Bool.and_eq_true] at h
  obtain ⟨⟨⟨⟨⟨⟨⟨⟨⟨h1, h2⟩, h3⟩, h4⟩, h5⟩, h6⟩, h7⟩, h8⟩, h9⟩, h10⟩ := h
  obtain ⟨oc, od, kV, doc, pm, an, ct, cc, cda, osl, g1, g2, g3, g4⟩ := xdef_ok (d := XDef.mk (fun K => ma K (ga K D) "__init__") qual params (XI.bodyE p0 p1 p2 p3 p4 p5 p6 p7 p8 p9) scope) hv hd
  refine ⟨⟨ga K C, ga K D, ma K (ga K D) "__init__", qual, params, scope, p0, p1, p2, p3, p4, p5, p6, p7, p8, p9, glo_ok X G h1, hl, ?_, oexB_ok h2, eqO_ok h3, of_decide_eq_true h4⟩, PySem.W.mg_none_of X G (eqO_ok fs), hk⟩
  exact ⟨⟨oc, od, .none, kV, doc, pm, an, ct, cc, cda, osl, g1, g2, g3, g4, fun s x y => hb _ _ _ _ _ _ _ s x y⟩, hp, Option.isSome_iff_exists.mp h5, of_decide_eq_true h6, eqO_ok h7, of_decide_eq_true h8, eqO_ok h9, eqO_ok h10, sk, sc, sg, sn, s1, s2, s3, s4, tp⟩
end
end TL

set_option Elab.async false
set_option linter.all false
set_option maxRecDepth 100000
set_option maxHeartbeats 4000000
/-! The def that hears a lambda; the hook with a table and a closing def. -/
namespace TL
open PySem PySem.Spec PyProof.Rows L2 He
def isHeard (b : List Stmt) : Option Str := match b with
  | [.Assign [.Tuple [.Name x1 _, .Name x2 _] _ _] (.Tuple [.Constant .none _ _, .Constant .none _ _] _ _) _,
     .Try [.Assign [.Name x3 _] (.Call (.Name x4 _) [] [] _) _] [.ExceptHandler (some (.Name xc _)) (some x5) [.Assign [.Name x6 _] (.Name x7 _) _] _] [] [] _,
     .Return (some (.Tuple [.Name x8 _, .Name x9 _] _ _)) _] =>
    if x1 = "caught" ∧ x2 = "back" ∧ x3 = "back" ∧ x4 = "look" ∧ x5 = "error" ∧ x6 = "caught" ∧ x7 = "error" ∧ x8 = "caught" ∧ x9 = "back" then some xc else none
  | _ => none
theorem isHeard_inv {b : List Stmt} {xc : Str} (h : isHeard b = some xc) : ∃ k1 k2 k3 j1 j2 a1 a2 a3 a4 a5 a6 a7 b1 b2 b3 b4 b5 c1 c2 c3 c4 c5 d1 d2 d3 d4, b = XI.bHeard xc k1 k2 k3 j1 j2 a1 a2 a3 a4 a5 a6 a7 b1 b2 b3 b4 b5 c1 c2 c3 c4 c5 d1 d2 d3 d4 := by
  unfold isHeard at h
  split at h
  · split at h
    · rename_i z
      obtain ⟨rfl, rfl, rfl, rfl, rfl, rfl, rfl, rfl, rfl⟩ := z
      cases h
      exact ⟨_, _, _, _, _, _, _, _, _, _, _, _, _, _, _, _, _, _, _, _, _, _, _, _, _, _, rfl⟩
    · cases h
  · cases h
def ssHeard (sc : Scope) (b : List Stmt) : Bool := match b with
  | .Assign [.Tuple ts _ _] (.Tuple vs _ _) _ :: _ => decide (ssO sc ts vs = some none)
  | _ => false
def lkHeard (sc : Scope) (xc : Str) : Bool := decide (sc.names.lookup ("look" : Str) = some .local) && decide (sc.names.lookup ("caught" : Str) = some .local) && decide (sc.names.lookup ("back" : Str) = some .local) && decide (sc.names.lookup ("error" : Str) = some .local) && decide (sc.names.lookup xc = some .globalImplicit) && !(xc == ("__debug__" : Str))
section
variable {K : PySem.W.Frag} {P : Program} {w : World} {mg : Str → Option Value} {base : Heap} {k : Nat}
theorem need_hrd (X : K.In base) (G : base.Ns mainGlobals mg) {f xc : Str} {cs : List Str} {st : Stmt} {kws : List (Str × V)} {fd : FuncData} (h : hrdB K f xc cs = true) (F : FunD K f f (defArgs st) (defBody st) (defScope st) [] kws (ga K f) fd) (hb : isHeard (defBody st) = some xc) (hs : ssHeard (defScope st) (defBody st) = true)
    (hf : fnScB XI.nHeard ["look"] (defScope st) = true) (hl : lkHeard (defScope st) xc = true) (bn : L2.Binds K fd ["look"] []) (hk : 2 ≤ k) : NeedOk ⟨P, w, K, mg, base⟩ k (.hrd f cs) := by
  unfold hrdB at h
  simp only [Bool.and_eq_true] at h
  obtain ⟨⟨⟨h1, h2⟩, h3⟩, h4⟩ := h
  unfold lkHeard at hl
  simp only [Bool.and_eq_true, decide_eq_true_eq, Bool.not_eq_true'] at hl
  obtain ⟨⟨⟨⟨⟨l1, l2⟩, l3⟩, l4⟩, l5⟩, l6⟩ := hl
  have sc := fnScB_ok hf
  obtain ⟨oc, od, dV, kV, doc, pm, an, cdv, ct, osl, rfl, lk, hcd, hd, _⟩ := F.ex
  obtain ⟨k1, k2, k3, j1, j2, a1, a2, a3, a4, a5, a6, a7, b1, b2, b3, b4, b5, c1, c2, c3, c4, c5, d1, d2, d3, d4, eb⟩ := isHeard_inv hb
  rw [eb] at lk bn hs
  refine ⟨⟨ga K f, ga K xc, oc, od, osl, defArgs st, defScope st, dV, kV, doc, pm, cdv, ct, an, xc, k1, k2, k3, j1, j2, a1, a2, a3, a4, a5, a6, a7, b1, b2, b3, b4, b5, c1, c2, c3, c4, c5, d1, d2, d3, d4, glo_ok X G h1, keep_ok h2, lk, hcd, bn, sc, l1, l2, l3, l4, l5, glo_ok X G h3, l6, fun env he => ?_, fun C hC => ?_⟩, hk⟩
  · refine ss_eq (by rw [he]; exact sc.kind) ?_
    rw [he]
    exact of_decide_eq_true hs
  · obtain ⟨g1, g2⟩ := ba2 (List.all_eq_true.mp h4 C hC)
    exact ⟨ga K C, glo_ok X G g1, of_decide_eq_true g2⟩
end
/-! ### the hook -/
theorem filt_look {T a : Addr} {o : Obj} : ∀ {K : PySem.W.Frag}, (K.filter fun p => decide (p.1 ≠ T)).lookup a = some o → K.lookup a = some o
  | [], h => by cases h
  | (b, u) :: r, h => by
    rw [List.filter_cons] at h
    by_cases e : b = T
    · rw [if_neg (by simpa using e)] at h
      have ih := filt_look h
      have na : a ≠ T := fun z => by
        subst z
        clear ih
        have : ∀ l : List (Addr × Obj), (l.filter fun p => decide (p.1 ≠ a)).lookup a = none := by
          intro l
          induction l with
          | nil => rfl
          | cons p l ih =>
            rw [List.filter_cons]
            split
            · rename_i z
              have z' : p.1 ≠ a := by simpa using z
              rw [List.lookup_cons, show (a == p.1) = false from by simpa using Ne.symm z']
              exact ih
            · exact ih
        rw [this] at h; cases h
      rw [List.lookup_cons, show (a == b) = false from by rw [e]; simpa using na]
      exact ih
    · rw [if_pos (by simpa using e), List.lookup_cons] at h
      rw [List.lookup_cons]
      split at h
      · exact h
      · exact filt_look h
theorem tabOk_ok {q : Str} {K0 K : PySem.W.Frag} {h : Heap} (X0 : K0.In h) (X : K.In h) (e : tabOk q K0 K = true) : ∃ c T, tabAt K q = some (c, T) ∧ K.lookup T = none ∧ h.get? T = some tab0 ∧ PySem.W.CodeHd h c T := by
  unfold tabOk at e
  split at e
  · rename_i c T et
    simp only [Bool.and_eq_true, Option.isNone_iff_eq_none, decide_eq_true_eq] at e
    obtain ⟨⟨⟨e1, e2⟩, e3⟩, e4⟩ := e
    refine ⟨c, T, et, e1, ?_, ?_⟩
    · unfold tab0B at e3
      split at e3
      · rename_i vs sl eo
        obtain ⟨z1, z2⟩ := ba2 e3
        have := Array.isEmpty_iff.mp z1
        subst this
        have := Array.isEmpty_iff.mp z2
        subst this
        exact X0 _ _ eo
      · cases e3
    · unfold codeB at e4
      split at e4
      · rename_i o eo
        split at e4
        · rename_i t vs ec ed
          simp only [Bool.and_eq_true, decide_eq_true_eq] at e4
          obtain ⟨⟨⟨⟨⟨y1, y2⟩, y3⟩, y4⟩, y5⟩, y6⟩ := e4
          subst y1
          have g11 : vs.getD 11 .none = .ref T := by
            rw [Array.getD_eq_getD_getElem?, y2]; rfl
          split at y3
          · rename_i file tf q18
            split at y4
            · rename_i fl tg q7
              split at y5
              · rename_i bb q9
                split at y6
                · rename_i tx tt q10
                  exact ⟨o, vs, file, tf, fl, tg, bb, tx, tt, X _ _ eo, ec, ed, y2, g11, q18, q7, q9, q10, e2⟩
                · cases y6
              · cases y5
            · cases y4
          · cases y3
        · cases e4
      · cases e4
  · cases e
def SaysX (chk : PySem.W.Frag → Bool) (fn : List He5.DefA) (ini : XDef) (q : Str) (K : PySem.W.Frag) : Prop := obsC chk fn K = valC fn ∧ xfn K (ini.at_ K) = ini.val
def hookX (as : List Addr) (chk : PySem.W.Frag → Bool) (fn : List He5.DefA) (ini : XDef) (q : Str) : PySem.W.Hook where
  α := AlX
  obs := fun s => obsXG as chk fn ini q s.heap.get?
  val := fun _ => (valC fn, ini.val, true)
  says := fun _ h => ∃ K : PySem.W.Frag, K.In h ∧ SaysX chk fn ini q K ∧ ∃ c T, tabAt K q = some (c, T) ∧ K.lookup T = none ∧ h.get? T = some tab0 ∧ PySem.W.CodeHd h c T
  of := fun w s e => by
    have X0 : (frG s.heap.get? as).In s.heap := frG_in
    have X1 : (cutK q (frG s.heap.get? as)).In s.heap := by
      unfold cutK
      split
      · exact fun a o z => X0 a o (filt_look z)
      · exact X0
    have e1 := congrArg (fun z : AlX => z.1) e
    have e2 := congrArg (fun z : AlX => z.2.1) e
    have e3 := congrArg (fun z : AlX => z.2.2) e
    exact ⟨_, X1, ⟨e1, e2⟩, tabOk_ok X0 X1 e3⟩
  keeps := fun _ _ _ ⟨K, hK, c, cc, T, h1, h2, h3, h4⟩ k => ⟨K, PySem.W.Frag.In.keeps hK k, c, cc, T, h1, h2, k _ _ h3, by
    obtain ⟨o, vs, file, tf, fl, tg, bb, tx, tt, e1, r⟩ := h4
    exact ⟨o, vs, file, tf, fl, tg, bb, tx, tt, k _ _ e1, r⟩⟩
theorem obsXG_eq {as : List Addr} {chk : PySem.W.Frag → Bool} {fn : List He5.DefA} {ini : XDef} {q : Str} {g : Addr → Option Obj} {s : Shared} (h : ∀ a, g a = s.heap.get? a) : obsXG as chk fn ini q g = (hookX as chk fn ini q).obs s := by
  have e : g = s.heap.get? := funext h
  rw [e] <;> rfl
end TL

set_option Elab.async false
set_option linter.all false
set_option maxRecDepth 100000
set_option maxHeartbeats 4000000
/-! The error classes' beginning, seen by Bool checks. -/
namespace TL
open PySem PySem.Spec PyProof.Rows L2 He
def isInit (b : List Stmt) : Bool := match b with
  | [.Expr (.Call (.Attribute (.Call (.Name x1 _) [] [] _) x2 p2) [.Name x3 _] [] p4) _, .Assign [.Attribute (.Name x4 _) x5 _] (.Name x6 _) _] =>
    decide (x1 = "super" ∧ x2 = "__init__" ∧ x3 = "value" ∧ x4 = "self" ∧ x5 = "value" ∧ x6 = "value") && (p2.endLine == p4.line)
  | _ => false
theorem isInit_inv {b : List Stmt} (h : isInit b = true) : ∃ p0 p1 p2 p3 p4 p5 p6 p7 p8 p9, b = XI.bodyE p0 p1 p2 p3 p4 p5 p6 p7 p8 p9 ∧ (p2.endLine == p4.line) = true := by
  unfold isInit at h
  split at h
  · obtain ⟨h1, h2⟩ := ba2 h
    obtain ⟨rfl, rfl, rfl, rfl, rfl, rfl⟩ := of_decide_eq_true h1
    exact ⟨_, _, _, _, _, _, _, _, _, _, rfl, h2⟩
  · cases h
def scInit (sc : Scope) : Bool := (match sc.kind with | .function => true | _ => false) && !sc.isCoroutine && !sc.isGenerator && sc.names.all (fun x => match x.2 with | .cell => false | _ => true) &&
  decide (sc.names.lookup ("super" : Str) = some .globalImplicit) && decide (sc.names.lookup ("__class__" : Str) = some .free) && decide (sc.names.lookup ("self" : Str) = some .local) && decide (sc.names.lookup ("value" : Str) = some .local)
def arInit (a : Arguments) : Bool := match (a.posonlyargs ++ a.args).head? with
  | some ar => decide (ar.arg = ("self" : Str))
  | none => false
section
variable {K : PySem.W.Frag} {P : Program} {w : World} {mg : Str → Option Value} {base : Heap} {k : Nat}
theorem need_rseB (X : K.In base) (G : base.Ns mainGlobals mg) {C D qual : Str} {st : Stmt} (h : rseB K D C = true) (fs : freeB K "super" = true) (hk : 1 ≤ k) (hb : isInit (defBody st) = true) (hs : scInit (defScope st) = true) (ha : arInit (defArgs st) = true)
    (hd : (XDef.mk (fun K => ma K (ga K D) "__init__") qual (defArgs st) (defBody st) (defScope st)).ok K P.main.file (ga K D) = true) (hv : xfn K (ma K (ga K D) "__init__") = (XDef.mk (fun K => ma K (ga K D) "__init__") qual (defArgs st) (defBody st) (defScope st)).val)
    (tp : (P.main.scope.names.lookup ("super" : Str)).isSome = false)
    (hbd : ∀ (kV doc pm : Value) (an : Option Addr) (cda : Value) (ct : Value) (cc : Addr) (x y : Value), bindArgs (PySem.W.ksFn "__init__" qual (defArgs st) (defBody st) (defScope st) .none kV doc pm an cda ct cc) ⟨[x, y], []⟩ = pure [(("self" : Str), x), (("value" : Str), y)]) : NeedOk ⟨P, w, K, mg, base⟩ k (.rse C) := by
  obtain ⟨p0, p1, p2, p3, p4, p5, p6, p7, p8, p9, eb, hl⟩ := isInit_inv hb
  unfold scInit at hs
  simp only [Bool.and_eq_true, decide_eq_true_eq, Bool.not_eq_true', List.all_eq_true] at hs
  obtain ⟨⟨⟨⟨⟨⟨⟨s0, s1⟩, s2⟩, s3⟩, s4⟩, s5⟩, s6⟩, s7⟩ := hs
  have sk : (defScope st).kind = .function := by
    revert s0
    cases (defScope st).kind <;> simp
  have ar : ∃ ar, ((defArgs st).posonlyargs ++ (defArgs st).args).head? = some ar ∧ ar.arg = ("self" : Str) := by
    unfold arInit at ha
    split at ha
    · rename_i ar e; exact ⟨ar, e, of_decide_eq_true ha⟩
    · cases ha
  rw [eb] at hd hv hbd
  exact need_rse X G h fs hk hl hd hv ar sk s1 s2 (fun x hx z => by have := s3 x hx; rw [z] at this; cases this) s4 s5 s6 s7 tp fun kV doc pm an cda ct cc s x y => .of_eq (hbd kV doc pm an cda ct cc x y)
theorem need_low {W : Wd} {k : Nat} {n : Need} (h : NeedOk W (k - 2) n) : NeedOk W k (.low n) := by
  unfold NeedOk; exact h
theorem codeAtB_ok {x qual : Str} {params : Arguments} {body : List Stmt} {scope : Scope} {dvs : List V} {kws : List (Str × V)} {f : Addr} {fd : FuncData} (F : FunD K x qual params body scope dvs kws f fd) (h : codeAtB K qual f = true) : codeAt K qual = some fd.code := by
  obtain ⟨oc, od, dV, kV, doc, pm, an, cdv, ct, osl, rfl, lk, _⟩ := F.ex
  unfold codeAtB at h
  rw [lk] at h
  exact Option.some.inj (eqO_ok h)
end
end TL

set_option Elab.async false
set_option linter.all false
set_option maxRecDepth 100000
set_option maxHeartbeats 4000000
/-! Defs that are never called; defs as values. -/
namespace TL
open PySem PySem.Spec PyProof.Rows L2 He
theorem fn_no {W : Wd} {k : Nat} {f : Addr} {fd : FuncData} {ps : List Str} {ct : Contract} (h : ∀ ds M x Q, ct ds M x Q → False) : FnG W k f fd ps ct :=
  ⟨fun ds M x Q q => (h _ _ _ _ q).elim, fun _ _ _ _ _ _ _ _ _ _ _ _ _ _ _ _ _ _ q _ => (h _ _ _ _ q).elim⟩
theorem need_glbf {P : Program} {w : World} {K : PySem.W.Frag} {mg : Str → Option Value} {base : Heap} {k : Nat} (X : K.In base) (G : base.Ns mainGlobals mg) {x : Str} (h : ((Fa.glo x).ok K && (Fa.keep x).ok K) = true) : NeedOk ⟨P, w, K, mg, base⟩ k (.glob x (.glb x)) := by
  obtain ⟨h1, h2⟩ := ba2 h
  have e : mg x = some (.ref (ga K x)) := glo_ok X G h1
  exact ⟨.ref (ga K x), .ref (ga K x), e, rfl, fun t => by simp only [Rep]; exact ⟨.ref (ga K x), e, rfl⟩⟩
end TL

set_option Elab.async false
set_option linter.all false
set_option maxRecDepth 100000
set_option maxHeartbeats 2000000
/-! Loops and comprehensions, plain. -/
namespace TL
open PySem PySem.Spec PyProof.Rows L2
theorem sub_refl {M : Mm} : TL.sub M M := fun _ _ h => h
theorem fin_same {Q : KD} {d : D} {M : Mm} (h : Q d M) : TL.fin Q d M := ⟨M, sub_refl, h⟩
theorem fin_sub {Q : KD} {d : D} {M M1 : Mm} (s : TL.sub M1 M) (h : Q d M1) : TL.fin Q d M := ⟨M1, s, h⟩
theorem sub_put {M M1 : Mm} {a : Addr} {o : PO} (s : TL.sub M M1) (n : M a = none) : TL.sub M (mput M1 a o) := fun b p h => by
  by_cases e : b = a
  · subst e; rw [n] at h; cases h
  · rw [mput_ne e]; exact s b p h
theorem none_sub {M M1 : Mm} {a : Addr} (s : TL.sub M M1) (n : M1 a = none) : M a = none := by
  cases e : M a with
  | none => rfl
  | some o => rw [s a o e] at n; cases n
theorem ne_of_M {M : Mm} {a b : Addr} {o : PO} (h : M a = some o) (n : M b = none) : a ≠ b := fun z => by subst z; rw [h] at n; cases n
abbrev FinOf (x : XD) (Q : KD) : TL.Fin := { nx := fun _ M' => TL.fin Q .non M', rt := TL.fin Q, ex := fun _ => x }
/-- a comprehension that keeps what may change -/
theorem compGo_opt {α : Type} {step : D → List D → Mm → (List D → Mm → Prop) → Prop} {g : Mm → Prop} {M : Mm} {Q : List D → Mm → Prop} (enc : α → D) (f : α → Option D) (hg : g M) :
    ∀ (xs : List α) (acc : List D), (∀ a ∈ xs, ∀ acc (k : List D → Mm → Prop), k (acc ++ (f a).toList) M → step (enc a) acc M k) → Q (acc ++ xs.filterMap f) M → compGo step g (xs.map enc) acc M Q
  | [], acc, _, h => ⟨hg, by simpa using h⟩
  | a :: xs, acc, hs, h => by
    refine ⟨hg, hs a List.mem_cons_self acc _ (compGo_opt enc f hg xs _ (fun b hb => hs b (List.mem_cons_of_mem _ hb)) ?_)⟩
    rw [List.append_assoc]
    have e : (f a).toList ++ xs.filterMap f = (a :: xs).filterMap f := by
      cases q : f a with
      | none => simp [List.filterMap_cons, q]
      | some b => simp [List.filterMap_cons, q]
    rw [e]; exact h
theorem compGo_map {α : Type} {step : D → List D → Mm → (List D → Mm → Prop) → Prop} {g : Mm → Prop} {M : Mm} {Q : List D → Mm → Prop} (enc : α → D) (f : α → D) (hg : g M) (xs : List α)
    (hs : ∀ a ∈ xs, ∀ acc (k : List D → Mm → Prop), k (acc ++ [f a]) M → step (enc a) acc M k) (h : Q (xs.map f) M) : compGo step g (xs.map enc) [] M Q := by
  refine compGo_opt enc (fun a => some (f a)) hg xs [] (fun a ha acc k hk => hs a ha acc k hk) ?_
  simpa [List.filterMap_eq_map] using h
/-- .. that changes things: I by what is left and what came -/
theorem compGo_inv {α : Type} {step : D → List D → Mm → (List D → Mm → Prop) → Prop} {g : Mm → Prop} {Q : List D → Mm → Prop} (enc : α → D) (I : List α → List D → Mm → Prop) (hg : ∀ r acc M, I r acc M → g M) (hn : ∀ acc M, I [] acc M → Q acc M)
    (hs : ∀ a r acc M (k : List D → Mm → Prop), I (a :: r) acc M → (∀ acc' M', I r acc' M' → k acc' M') → step (enc a) acc M k) : ∀ (xs : List α) (acc : List D) (M : Mm), I xs acc M → compGo step g (xs.map enc) acc M Q
  | [], acc, M, h => ⟨hg _ _ _ h, hn _ _ h⟩
  | a :: xs, acc, M, h => ⟨hg _ _ _ h, hs a xs acc M _ h fun acc' M' h' => compGo_inv enc I hg hn hs xs acc' M' h'⟩
/-- a for: I by what is left -/
theorem forGo_inv {α : Type} {body : D → En → Mm → (En → Mm → Prop) → Prop} {g : Mm → Prop} {nx : En → Mm → Prop} (enc : α → D) (I : List α → En → Mm → Prop) (hg : ∀ r env M, I r env M → g M) (hn : ∀ env M, I [] env M → nx env M)
    (hs : ∀ a r env M (k : En → Mm → Prop), I (a :: r) env M → (∀ env' M', I r env' M' → k env' M') → body (enc a) env M k) : ∀ (xs : List α) (env : En) (M : Mm), I xs env M → forGo body g nx (xs.map enc) env M
  | [], env, M, h => ⟨hg _ _ _ h, hn _ _ h⟩
  | a :: xs, env, M, h => ⟨hg _ _ _ h, hs a xs env M _ h fun env' M' h' => forGo_inv enc I hg hn hs xs env' M' h'⟩
theorem sl1 : 1 ≤ sizeLine := by decide
theorem sl2 : 2 ≤ sizeLine := by decide
theorem sl3 : 3 ≤ sizeLine := by decide
theorem sl0 : 0 ≤ sizeLine := Nat.zero_le _
theorem sl_of {n : Nat} (h : n ≤ 1000) : n ≤ sizeLine := by rw [sizeLine_eq]; omega
theorem intsOf_map : ∀ ns : List Int, intsOf (ns.map D.int) = some ns
  | [] => rfl
  | n :: ns => by simp [intsOf, intsOf_map ns]
theorem boolsOf_map : ∀ ns : List Bool, boolsOf (ns.map D.bl) = some ns
  | [] => rfl
  | n :: ns => by simp [boolsOf, boolsOf_map ns]
theorem rangeD_map (lo : Int) : ∀ n : Nat, rangeD lo n = ((List.range n).map fun i : Nat => lo + (i : Int)).map D.int
  | 0 => rfl
  | n + 1 => by
    rw [List.range_succ_eq_map]
    simp only [rangeD, List.map_cons, List.map_map]
    rw [rangeD_map (lo + 1) n]
    simp only [List.map_map, List.cons.injEq]
    refine ⟨by simp, List.map_congr_left fun i _ => ?_⟩
    simp only [Function.comp]
    congr 1
    omega
end TL

set_option Elab.async false
set_option linter.all false
set_option maxRecDepth 100000
set_option maxHeartbeats 2000000
/-! What a repr asks, counted. -/
namespace TL
open PySem PySem.Spec PyProof.Rows L2
mutual
/-- integers of at most twelve digits -/
def D.s12 : D → Bool
  | .int i => decide (i.natAbs < 10 ^ 12)
  | .tup xs => s12s xs
  | .lst xs => s12s xs
  | .klst xs => s12s xs
  | _ => true
def s12s : List D → Bool
  | [] => true
  | x :: r => x.s12 && s12s r
end
mutual
/-- a bound of what it weighs -/
def D.wt : D → Nat
  | .int _ => 40
  | .str s => s.length
  | .tup xs => wts xs
  | .lst xs => wts xs
  | .klst xs => wts xs
  | _ => 0
def wts : List D → Nat
  | [] => 0
  | x :: r => x.wt + 1 + wts r
end
mutual
theorem show12 : ∀ d : D, d.plain = true → d.s12 = true → d.py.leavesShort 13 = true ∧ d.py.weight ≤ d.wt ∧ d.smalls = true
  | .non, _, _ => ⟨rfl, Nat.le_refl _, rfl⟩
  | .bl _, _, _ => ⟨rfl, Nat.le_refl _, rfl⟩
  | .int i, _, h => by
    simp only [D.s12, decide_eq_true_eq] at h
    have e : (10 : Nat) ^ 12 < 2 ^ 40 := by decide
    have lg : i.natAbs.log2 < 40 := by
      by_cases z : i.natAbs = 0
      · rw [z]; decide
      · exact (Nat.log2_lt z).mpr (by omega)
    refine ⟨?_, ?_, ?_⟩
    · simp only [D.py, PyData.leavesShort, decide_eq_true_eq]
      exact PyData.shown_int_le h
    · simp only [D.py, PyData.weight, D.wt]
      split <;> omega
    · simp only [D.smalls, decide_eq_true_eq]; omega
  | .str s, p, _ => by
    refine ⟨?_, Nat.le_refl _, rfl⟩
    have h0 : s.cps.all (· < 0x110000) = true := by simpa only [D.plain, PyData.strOk] using p
    simp only [D.py, PyData.leavesShort, List.all_eq_true, decide_eq_true_eq]
    intro c hc
    have := (Array.all_eq_true_iff_forall_mem.mp h0) c (Array.mem_toList_iff.mp hc)
    have e : (16 : Nat) ^ 8 = 4294967296 := by decide
    simp at this
    omega
  | .tup xs, p, h => by
    simp only [D.plain] at p; simp only [D.s12] at h
    have ih := show12s xs p h
    exact ⟨by simpa only [D.py, PyData.leavesShort] using ih.1, by simpa only [D.py, PyData.weight, D.wt] using ih.2.1, by simpa only [D.smalls] using ih.2.2⟩
  | .lst xs, p, h => by
    simp only [D.plain] at p; simp only [D.s12] at h
    have ih := show12s xs p h
    exact ⟨by simpa only [D.py, PyData.leavesShort] using ih.1, by simpa only [D.py, PyData.weight, D.wt] using ih.2.1, by simpa only [D.smalls] using ih.2.2⟩
  | .klst xs, p, h => by
    simp only [D.plain] at p; simp only [D.s12] at h
    have ih := show12s xs p h
    exact ⟨by simpa only [D.py, PyData.leavesShort] using ih.1, by simpa only [D.py, PyData.weight, D.wt] using ih.2.1, by simpa only [D.smalls] using ih.2.2⟩
  | .flt _, p, _ => by simp [D.plain] at p
  | .ref _, p, _ => by simp [D.plain] at p
  | .glb _, p, _ => by simp [D.plain] at p
theorem show12s : ∀ ds : List D, plains ds = true → s12s ds = true → PyData.leavesShortAll 13 (pys ds) = true ∧ PyData.weightAll (pys ds) ≤ wts ds ∧ smallss ds = true
  | [], _, _ => ⟨rfl, Nat.le_refl _, rfl⟩
  | x :: r, p, h => by
    simp only [plains, Bool.and_eq_true] at p
    simp only [s12s, Bool.and_eq_true] at h
    have a := show12 x p.1 h.1
    have b := show12s r p.2 h.2
    refine ⟨?_, ?_, ?_⟩
    · simp only [pys, PyData.leavesShortAll, Bool.and_eq_true]; exact ⟨a.1, b.1⟩
    · simp only [pys, PyData.weightAll, wts]; omega
    · simp only [smallss, Bool.and_eq_true]; exact ⟨a.2.2, b.2.2⟩
end
theorem show_of {d : D} (p : d.plain = true) (h : d.s12 = true) (w : d.wt ≤ 2 ^ 20) : d.smalls = true ∧ d.py.shown.length ≤ sizeLine := by
  obtain ⟨a, b, c⟩ := show12 d p h
  exact ⟨c, PyData.shown_fits (by decide) (by decide) a (Nat.le_trans b w)⟩
mutual
theorem eqv_self : ∀ d : D, d.plain = true → PyData.eqv d.py d.py = true
  | .non, _ => rfl
  | .bl _, _ => by simp [D.py, PyData.eqv]
  | .int _, _ => by simp [D.py, PyData.eqv]
  | .str _, _ => by simp [D.py, PyData.eqv]
  | .tup xs, p => by simp only [D.plain] at p; simpa only [D.py, PyData.eqv] using eqvs_self xs p
  | .lst xs, p => by simp only [D.plain] at p; simpa only [D.py, PyData.eqv] using eqvs_self xs p
  | .klst xs, p => by simp only [D.plain] at p; simpa only [D.py, PyData.eqv] using eqvs_self xs p
  | .flt _, p => by simp [D.plain] at p
  | .ref _, p => by simp [D.plain] at p
  | .glb _, p => by simp [D.plain] at p
theorem eqvs_self : ∀ ds : List D, plains ds = true → PyData.eqvAll (pys ds) (pys ds) = true
  | [], _ => rfl
  | x :: r, p => by
    simp only [plains, Bool.and_eq_true] at p
    rw [pys, PyData.eqvAll, eqv_self x p.1, eqvs_self r p.2]; rfl
end
/-! lists of one kind -/
theorem plains_map {α : Type} {f : α → D} (h : ∀ a, (f a).plain = true) : ∀ xs : List α, plains (xs.map f) = true
  | [] => rfl
  | x :: xs => by simp only [List.map_cons, plains, h x, plains_map h xs, Bool.and_self]
theorem deeps_map {α : Type} {f : α → D} {n : Nat} (h : ∀ a, (f a).deep ≤ n) : ∀ xs : List α, deeps (xs.map f) ≤ n
  | [] => Nat.zero_le _
  | x :: xs => by simp only [List.map_cons, deeps]; exact Nat.max_le.mpr ⟨h x, deeps_map h xs⟩
theorem s12s_map {α : Type} {f : α → D} : ∀ {xs : List α}, (∀ a ∈ xs, (f a).s12 = true) → s12s (xs.map f) = true
  | [], _ => rfl
  | x :: xs, h => by
    simp only [List.map_cons, s12s, h x List.mem_cons_self, Bool.true_and]
    exact s12s_map fun a ha => h a (List.mem_cons_of_mem _ ha)
theorem wts_map {α : Type} {f : α → D} {n : Nat} : ∀ {xs : List α}, (∀ a ∈ xs, (f a).wt ≤ n) → wts (xs.map f) ≤ xs.length * (n + 1)
  | [], _ => Nat.zero_le _
  | x :: xs, h => by
    have a := h x List.mem_cons_self
    have b := wts_map (f := f) (n := n) (xs := xs) fun a ha => h a (List.mem_cons_of_mem _ ha)
    simp only [List.map_cons, wts, List.length_cons, Nat.add_mul]
    omega
theorem eqK_self {M : Mm} {d : D} {k : Bool → Prop} (xs : List D) (e : d = .tup xs) (p : d.pok = true) (h : k true) : eqK M d d k := by
  subst e
  have pl : (D.tup xs).plain = true := by unfold D.pok at p; simp at p; exact p.1
  show eqP (D.tup xs) (D.tup xs) k
  refine ⟨p, p, ?_⟩
  rw [eqv_self _ pl]; exact h
theorem repr_ok {M : Mm} {xs : List D} {Q : KD} (p : (D.tup xs).pok = true) (h : (D.tup xs).s12 = true) (w : (D.tup xs).wt ≤ 2 ^ 20) (q : Q (.str (D.tup xs).py.shown) M) : reprD (.tup xs) M Q := by
  have pl : (D.tup xs).plain = true := by unfold D.pok at p; simp at p; exact p.1
  have := show_of pl h w
  exact ⟨p, this.1, this.2, q⟩
end TL

set_option Elab.async false
set_option linter.all false
set_option maxRecDepth 100000
set_option maxHeartbeats 4000000
/-! The small language run: a memory of counted things, an end or none. -/
namespace TL
open PySem PySem.Spec PyProof.Rows L2

/-- a run's memory: how many things there are; the newest change first -/
structure Hh where
  n : Nat
  l : List (Nat × PO)
def lk : List (Nat × PO) → Nat → Option PO
  | [], _ => none
  | p :: r, i => cond (Nat.beq p.1 i) (some p.2) (lk r i)
abbrev Hh.M (H : Hh) : Mm := fun a => lk H.l a
abbrev Hh.put (H : Hh) (a : Nat) (o : PO) : Hh := ⟨H.n, (a, o) :: H.l⟩
abbrev Hh.new (H : Hh) (o : PO) : Hh := ⟨H.n + 1, (H.n, o) :: H.l⟩
/-- an end: a value, an own error, or nothing told -/
inductive Rs (α : Type) where
  | ok (a : α) (H : Hh)
  | ex (C : Str) (d : D) (H : Hh)
  | no
def Rs.bind {α β : Type} (r : Rs α) (f : α → Hh → Rs β) : Rs β := match r with
  | .ok a H => f a H
  | .ex C d H => .ex C d H
  | .no => .no
/-- no error may come -/
def Rs.nox {α : Type} (r : Rs α) : Rs α := match r with
  | .ok a H => .ok a H
  | _ => .no
def optR {α β : Type} (o : Option α) (f : α → Rs β) : Rs β := match o with
  | some a => f a
  | none => .no
def retR {α : Type} (o : Option α) (H : Hh) : Rs α := match o with
  | some a => .ok a H
  | none => .no
def bR {β : Type} (b : Bool) (r : Rs β) : Rs β := match b with
  | true => r
  | false => .no

mutual
def D.beq : D → D → Bool
  | .non, .non => true
  | .bl a, .bl b => a == b
  | .int i, .int j => decide (i = j)
  | .str a, .str b => decide (a = b)
  | .tup xs, .tup ys => D.beqs xs ys
  | .lst xs, .lst ys => D.beqs xs ys
  | .klst xs, .klst ys => D.beqs xs ys
  | .ref a, .ref b => Nat.beq a b
  | _, _ => false
def D.beqs : List D → List D → Bool
  | [], [] => true
  | x :: xs, y :: ys => D.beq x y && D.beqs xs ys
  | _, _ => false
end
mutual
theorem D.beq_eq : ∀ {x y : D}, D.beq x y = true → x = y
  | .non, y, h => by cases y <;> simp_all [D.beq]
  | .bl _, y, h => by cases y <;> simp_all [D.beq]
  | .int _, y, h => by cases y <;> simp_all [D.beq]
  | .str _, y, h => by cases y <;> simp_all [D.beq]
  | .flt _, y, h => by cases y <;> simp_all [D.beq]
  | .tup xs, y, h => by
    cases y with
    | tup ys => rw [D.beqs_eq (show D.beqs xs ys = true by simpa [D.beq] using h)]
    | _ => simp [D.beq] at h
  | .lst xs, y, h => by
    cases y with
    | lst ys => rw [D.beqs_eq (show D.beqs xs ys = true by simpa [D.beq] using h)]
    | _ => simp [D.beq] at h
  | .klst xs, y, h => by
    cases y with
    | klst ys => rw [D.beqs_eq (show D.beqs xs ys = true by simpa [D.beq] using h)]
    | _ => simp [D.beq] at h
  | .ref a, y, h => by
    cases y with
    | ref b => rw [Nat.eq_of_beq_eq_true (show Nat.beq a b = true by simpa [D.beq] using h)]
    | _ => simp [D.beq] at h
  | .glb _, y, h => by cases y <;> simp_all [D.beq]
  | .exc _ _, y, h => by cases y <;> simp_all [D.beq]
theorem D.beqs_eq : ∀ {xs ys : List D}, D.beqs xs ys = true → xs = ys
  | [], ys, h => by cases ys <;> simp_all [D.beqs]
  | x :: xs, ys, h => by
    cases ys with
    | nil => simp [D.beqs] at h
    | cons y ys =>
      simp only [D.beqs, Bool.and_eq_true] at h
      rw [D.beq_eq h.1, D.beqs_eq h.2]
end

/-! ### operations -/
def newR (fz : Bool) (xs : List D) (H : Hh) : Rs D := match fz with
  | true => .ok (.lst xs) H
  | false => .ok (.ref H.n) (H.new (.lst xs))
def sz (n : Nat) : Bool := Nat.ble n 16777216
def smallI (i : Int) : Bool := decide (i.natAbs < 1073741824)
def addR (fz : Bool) (x y : D) (H : Hh) : Rs D := match x, y with
  | .int i, .int j => .ok (.int (i + j)) H
  | .tup a, .tup b => bR (sz (a.length + b.length)) (.ok (.tup (a ++ b)) H)
  | x, y => optR (lstOf' H.M x) fun a => optR (lstOf' H.M y) fun b => bR (sz (a.length + b.length)) (newR fz (a ++ b) H)
where lstOf' (M : Mm) : D → Option (List D)
  | .lst xs => some xs
  | .ref a => catOf M (.ref a)
  | _ => none
def iiR (o : Operator) (i j : Int) (H : Hh) : Rs D := match o with
  | .Sub => .ok (.int (i - j)) H
  | .Mult => bR (smallI i && smallI j) (.ok (.int (i * j)) H)
  | .FloorDiv => bR (smallI j && decide (0 < j)) (.ok (.int (i / j)) H)
  | .Mod => bR (decide (0 < j)) (.ok (.int (i % j)) H)
  | _ => .no
def asIR {β : Type} (d : D) (f : Int → Rs β) : Rs β := match d with
  | .int i => f i
  | _ => .no
def asBR {β : Type} (d : D) (f : Bool → Rs β) : Rs β := match d with
  | .bl i => f i
  | _ => .no
def binR (o : Operator) (fz : Bool) (x y : D) (H : Hh) : Rs D := match o with
  | .Add => addR fz x y H
  | o => asIR x fun i => asIR y fun j => iiR o i j H
def eqR (M : Mm) (x y : D) : Option Bool := match x, y with
  | .int i, .int j => some (decide (i = j))
  | .str a, .str b => some (decide (a = b))
  | .bl a, .bl b => some (decide (a = b))
  | x, y => match (now M x).pok && (now M y).pok with
    | true => some (PyData.eqv (now M x).py (now M y).py)
    | false => none
def inR (M : Mm) (x y : D) : Option Bool := match y with
  | .str _ => none
  | y => match dctOf M y, keyOf x with
    | some kvs, some q => some (kget kvs q).isSome
    | some _, none => none
    | none, _ => match seqOf M y with
      | some xs => match x.flat && xs.all D.flat with
        | true => some (xs.any fun z => flatEq z x)
        | false => none
      | none => none
def isR (x y : D) : Option Bool := match x, y with
  | .non, .non => some true
  | .bl a, .bl b => some (a == b)
  | .glb _, _ => none
  | _, .non => some false
  | _, _ => none
def intR (x y : D) (f : Int → Int → Bool) : Option Bool := match x, y with
  | .int i, .int j => some (f i j)
  | _, _ => none
def cmpR (o : CmpOp) (M : Mm) (x y : D) : Option Bool := match o with
  | .Eq => eqR M x y
  | .NotEq => (eqR M x y).map (!·)
  | .Lt => intR x y fun i j => decide (i < j)
  | .LtE => intR x y fun i j => decide (i ≤ j)
  | .Gt => intR x y fun i j => decide (j < i)
  | .GtE => intR x y fun i j => decide (j ≤ i)
  | .Is => isR x y
  | .IsNot => (isR x y).map (!·)
  | .In => inR M x y
  | .NotIn => (inR M x y).map (!·)
def ixR (M : Mm) (x y : D) : Option D := match x with
  | .str _ => none
  | x => match dctOf M x, keyOf y with
    | some kvs, some q => kget kvs q
    | some _, none => none
    | none, _ => match seqOf M x, y with
      | some xs, .int i => atI xs i
      | _, _ => none
def slR (fz : Bool) (x : D) (lo hi : Option Int) (H : Hh) : Rs D := match x with
  | .str _ => .no
  | .tup xs => .ok (.tup (cutD xs lo hi)) H
  | x => optR (lstOf H.M x) fun xs => newR fz (cutD xs lo hi) H
def optIR {β : Type} (o : Option D) (f : Option Int → Rs β) : Rs β := match o with
  | none => f none
  | some (.int i) => f (some i)
  | _ => .no
def biR (f : BI) (fz : Bool) (ds : List D) (H : Hh) : Rs D := match f, ds with
  | .len, [.str s] => .ok (.int s.length) H
  | .len, [x] => match dctOf H.M x with
    | some kvs => .ok (.int kvs.length) H
    | none => optR (seqOf H.M x) fun xs => .ok (.int xs.length) H
  | .abs, [.int i] => .ok (.int (if i < 0 then -i else i)) H
  | .int, [.int i] => .ok (.int i) H
  | .int, [.bl b] => .ok (.int (if b then 1 else 0)) H
  | .tuple, [x] => optR (seqOf H.M x) fun xs => .ok (.tup xs) H
  | .list, [x] => optR (seqOf H.M x) fun xs => newR fz xs H
  | .sum, [x] => optR (lstOf H.M x) fun xs => optR (intsOf xs) fun ns => .ok (.int ns.sum) H
  | .all, [x] => optR (lstOf H.M x) fun xs => optR (boolsOf xs) fun bs => .ok (.bl (bs.all id)) H
  | .any, [x] => optR (lstOf H.M x) fun xs => optR (boolsOf xs) fun bs => .ok (.bl (bs.any id)) H
  | .max2, [.int i, .int j] => .ok (.int (if j > i then j else i)) H
  | .min2, [.int i, .int j] => .ok (.int (if j < i then j else i)) H
  | .sorted, [x] => match dctOf H.M x with
    | some kvs => optR (keysI kvs) fun ns => bR (decide (ns.length < 64)) (newR fz ((sortI ns).map .int) H)
    | none => optR (lstOf H.M x) fun xs => optR (intsOf xs) fun ns => newR fz ((sortI ns).map .int) H
  | .repr, [x] => bR ((now H.M x).pok && (now H.M x).smalls && sz (now H.M x).py.shown.length) (.ok (.str (now H.M x).py.shown) H)
  | .dict, [x] => optR (lstOf H.M x) fun xs => optR (flatPairs xs) fun kvs => bR (Nat.ble kvs.length 4000) (.ok (.ref H.n) (H.new (.dct (kmerge [] kvs))))
  | _, _ => .no
def mlstR {β : Type} (M : Mm) (o : D) (f : Nat → List D → Rs β) : Rs β := match o with
  | .ref p => match M p with
    | some (.lst xs) => f p xs
    | _ => .no
  | _ => .no
def mdctR {β : Type} (M : Mm) (o : D) (f : Nat → List (Key × D) → Rs β) : Rs β := match o with
  | .ref p => match M p with
    | some (.dct xs) => f p xs
    | _ => .no
  | _ => .no
def bmR (ty : Ty) (m : BM) (o : D) (ds : List D) (H : Hh) : Rs D := match ty, m, ds with
  | .list, .append, [d] => mlstR H.M o fun p xs => bR (decide (xs.length < 16777216)) (.ok .non (H.put p (.lst (xs ++ [d]))))
  | .list, .extend, [y] => mlstR H.M o fun p xs => optR (catT H.M y) fun ys => bR (sz (xs.length + ys.length)) (.ok .non (H.put p (.lst (xs ++ ys))))
  | .dict, .get, [y, z] => optR (dctOf H.M o) fun kvs => optR (keyOf y) fun q => .ok ((kget kvs q).getD z) H
  | .dict, .update, [y] => mdctR H.M o fun p kvs => optR (lstOf H.M y) fun xs => optR (flatPairs xs) fun kws => bR (Nat.ble (kvs.length + kws.length) 4000) (.ok .non (H.put p (.dct (kmerge kvs kws))))
  | _, _, _ => .no
def isiR (M : Mm) (d : D) (T : Str) (cs : List Str) : Option Bool := match d with
  | .non => some (isiB T "NoneType")
  | .bl _ => some (isiB T "bool")
  | .int _ => some (isiB T "int")
  | .str _ => some (isiB T "str")
  | .tup _ => some (isiB T "tuple")
  | .lst _ => some (isiB T "list")
  | .klst _ => some (isiB T "list")
  | .ref p => match M p with
    | some (.lst _) => some (isiB T "list")
    | some (.dct _) => some (isiB T "dict")
    | some (.ins c _) => match decide (c ∈ cs) with
      | true => some (decide (c = T))
      | false => none
    | _ => none
  | _ => none
def iseR (d : D) (T : Str) (cs : List Str) : Option Bool := match d with
  | .non => some false
  | .exc C _ => match decide (C ∈ cs) with
    | true => some (decide (C = T))
    | false => none
  | _ => none
def xvR (d : D) (cs : List Str) : Option D := match d with
  | .exc C u => match decide (C ∈ cs) with
    | true => some u
    | false => none
  | _ => none
def insR {β : Type} (M : Mm) (d : D) (C : Str) (f : Nat → List (Str × D) → Rs β) : Rs β := match d with
  | .ref p => match M p with
    | some (.ins c fs) => match decide (c = C) with
      | true => f p fs
      | false => .no
    | _ => .no
  | _ => .no
def setR (o i d : D) (H : Hh) : Rs Unit := match o with
  | .ref p => match H.M p with
    | some (.lst xs) => asIR i fun j => optR (ixN xs.length j) fun n => .ok () (H.put p (.lst (xs.set n d)))
    | some (.dct kvs) => optR (keyOf i) fun q => bR (decide (kvs.length < 16777216)) (.ok () (H.put p (.dct (kput kvs q d))))
    | _ => .no
  | _ => .no
mutual
def putR : Tg → D → En → Option En
  | .nm i, d, env => some (env.set i (some d))
  | .tp ts, d, env => match d with
    | .tup xs => putRs ts xs env
    | _ => none
def putRs : List Tg → List D → En → Option En
  | [], [], env => some env
  | t :: ts, d :: ds, env => match putR t d env with
    | some env' => putRs ts ds env'
    | none => none
  | _, _, _ => none
end
/-- what is walked -/
structure Sr where
  d : D
  k : List D
  xs : List D
def gdR (s : Sr) (H : Hh) : Bool := match s.d with
  | .ref p => match H.M p with
    | some (.lst ys) => D.beqs ys s.k
    | _ => false
  | _ => true
def cgR (s : Sr) (step : D → List D → Hh → Rs (List D)) : List D → List D → Hh → Rs (List D)
  | [], acc, H => bR (gdR s H) (.ok acc H)
  | x :: r, acc, H => bR (gdR s H) ((step x acc H).bind fun acc' H' => cgR s step r acc' H')
abbrev CF := Str → Str → List D → Hh → Rs D
/-- what a run leans on: whose lambdas are heard, what the defs do -/
structure Rc where
  q : Option Str
  cf : CF
/-- a def's end within a suite: on, or returned -/
inductive Fi where
  | nx (env : En)
  | rt (d : D)
def fgR (s : Sr) (body : D → En → Hh → Rs Fi) : List D → En → Hh → Rs Fi
  | [], env, H => bR (gdR s H) (.ok (.nx env) H)
  | x :: r, env, H => bR (gdR s H) ((body x env H).bind fun f H' => match f with
    | .nx env' => fgR s body r env' H'
    | .rt d => .ok (.rt d) H')

mutual
def runE (K : Rc) : E → En → Hh → Rs D
  | .v i, env, H => match env[i]? with
    | some (some d) => .ok d H
    | _ => .no
  | .c d, _, H => bR d.flat (.ok d H)
  | .g _ d, _, H => bR d.pok (.ok d H)
  | .bin o fz a b, env, H => (runE K a env H).bind fun u H1 => (runE K b env H1).bind fun v H2 => binR o fz u v H2
  | .neg a, env, H => (runE K a env H).bind fun u H1 => asIR u fun i => .ok (.int (-i)) H1
  | .not a, env, H => (runE K a env H).bind fun u H1 => asBR u fun b => .ok (.bl (!b)) H1
  | .cmp o a b, env, H => (runE K a env H).bind fun u H1 => (runE K b env H1).bind fun v H2 => optR (cmpR o H2.M u v) fun r => .ok (.bl r) H2
  | .chn o p a b c, env, H => (runE K a env H).bind fun u H1 => (runE K b env H1).bind fun v H2 => optR (cmpR o H2.M u v) fun r => match r with
    | true => (runE K c env H2).bind fun w H3 => optR (cmpR p H3.M v w) fun r => .ok (.bl r) H3
    | false => .ok (.bl false) H2
  | .and es, env, H => runAnd K es env H
  | .or es, env, H => runOr K es env H
  | .ite t a b, env, H => (runE K t env H).bind fun u H1 => asBR u fun r => match r with
    | true => runE K a env H1
    | false => runE K b env H1
  | .tup es, env, H => (runEs K es env H).bind fun ds H1 => bR (sz ds.length) (.ok (.tup ds) H1)
  | .lst fz es, env, H => (runEs K es env H).bind fun ds H1 => bR (sz ds.length) (newR fz ds H1)
  | .ix a i, env, H => (runE K a env H).bind fun u H1 => (runE K i env H1).bind fun v H2 => retR (ixR H2.M u v) H2
  | .sl fz a lo hi, env, H => (runE K a env H).bind fun u H1 => (runEo K lo env H1).bind fun l H2 => optIR l fun l => (runEo K hi env H2).bind fun h H3 => optIR h fun h => slR fz u l h H3
  | .bi f fz es, env, H => (runEs K es env H).bind fun ds H1 => biR f fz ds H1
  | .isi a T cs, env, H => (runE K a env H).bind fun u H1 => optR (isiR H1.M u T cs) fun r => .ok (.bl r) H1
  | .call f _ es, env, H => (runEs K es env H).bind fun ds H1 => K.cf "" f ds H1
  | .mk C _ es, env, H => (runEs K es env H).bind fun ds H1 => (K.cf C "__init__" (.ref H1.n :: ds) (H1.new (.ins C []))).bind fun d H2 => match d with
    | .non => .ok (.ref H1.n) H2
    | _ => .no
  | .fld a C f, env, H => (runE K a env H).bind fun u H1 => insR H1.M u C fun _ fs => retR (fs.lookup f) H1
  | .prop a C f _, env, H => (runE K a env H).bind fun u H1 => insR H1.M u C fun _ _ => (K.cf C f [u] H1).nox
  | .meth a C m _ es, env, H => (runE K a env H).bind fun u H1 => insR H1.M u C fun _ fs => match fs.lookup m with
    | none => (runEs K es env H1).bind fun ds H2 => K.cf C m (u :: ds) H2
    | some _ => .no
  | .bm m _ a es, env, H => (runE K a env H).bind fun u H1 => optR (tyOf H1.M u) fun ty => bR (okM ty m) ((runEs K es env H1).bind fun ds H2 => bmR ty m u ds H2)
  | .comp fz t it cond elt, env, H => (runIt K it env H).bind fun s H1 => bR (sz s.xs.length) ((cgR s (fun d acc H => optR (putR t d (wipeE env t.slots)) fun env1 => (runCd K cond env1 H).nox.bind fun r H2 => match r with
      | true => (runE K elt env1 H2).nox.bind fun y H3 => .ok (acc ++ [y]) H3
      | false => .ok acc H2) s.xs [] H1).bind fun acc H2 => newR fz acc H2)
  | .dnew, _, H => .ok (.ref H.n) (H.new (.dct []))
  | .ddsp es, env, H => (runEs K es env H).bind fun ds H1 => optR (pairsOf ds) fun kvs => bR (Nat.ble kvs.length 15) (.ok (.ref H1.n) (H1.new (.dct (kmerge [] kvs))))
  | .sset fz a, env, H => (runE K a env H).bind fun u H1 => optR (lstOf H1.M u) fun xs => optR (intsOf xs) fun ns => bR (decide (ns.length < 60)) (newR fz ((sortI (onceI ns)).map .int) H1)
  | .ise a T cs, env, H => (runE K a env H).bind fun u H1 => optR (iseR u T cs) fun r => .ok (.bl r) H1
  | .xval a cs, env, H => (runE K a env H).bind fun u H1 => retR (xvR u cs) H1
  | .heard _ q cs e, env, H => bR (decide (K.q = some q)) <| match runE K e env H with
    | .ok d H1 => .ok (.tup [.non, d]) H1
    | .ex C d H1 => bR (decide (C ∈ cs)) (.ok (.tup [.exc C d, .non]) H1)
    | .no => .no
  | .rev _ _, _, _ => .no
  | .callk _ _ _ _ _, _, _ => .no
  | .mkk _ _ _ _ _, _, _ => .no
  | .lr1 _ _, _, _ => .no
  | .lr2 _ _ _, _, _ => .no
  | .lz _ _ _, _, _ => .no
  | .ueq _ _ _ _, _, _ => .no
  | .skabs _ _, _, _ => .no
  | .lenset _, _, _ => .no
  | .callv _ _ _, _, _ => .no
def runEs (K : Rc) : Es → En → Hh → Rs (List D)
  | .nil, _, H => .ok [] H
  | .cons e r, env, H => (runE K e env H).bind fun d H1 => (runEs K r env H1).bind fun ds H2 => .ok (d :: ds) H2
  | .star e r, env, H => (runE K e env H).bind fun d H1 => optR (seqOf H1.M d) fun xs => (runEs K r env H1).bind fun ds H2 => .ok (xs ++ ds) H2
def runAnd (K : Rc) : Es → En → Hh → Rs D
  | .cons e .nil, env, H => (runE K e env H).bind fun u H1 => asBR u fun b => .ok (.bl b) H1
  | .cons e r, env, H => (runE K e env H).bind fun u H1 => asBR u fun b => match b with
    | true => runAnd K r env H1
    | false => .ok (.bl false) H1
  | _, _, _ => .no
def runOr (K : Rc) : Es → En → Hh → Rs D
  | .cons e .nil, env, H => (runE K e env H).bind fun u H1 => asBR u fun b => .ok (.bl b) H1
  | .cons e r, env, H => (runE K e env H).bind fun u H1 => asBR u fun b => match b with
    | true => .ok (.bl true) H1
    | false => runOr K r env H1
  | _, _, _ => .no
def runEo (K : Rc) : Eo → En → Hh → Rs (Option D)
  | .none, _, H => .ok none H
  | .some e, env, H => (runE K e env H).bind fun d H1 => .ok (some d) H1
def runCd (K : Rc) : Eo → En → Hh → Rs Bool
  | .none, _, H => .ok true H
  | .some e, env, H => (runE K e env H).bind fun d H1 => asBR d fun b => .ok b H1
def runIt (K : Rc) : It → En → Hh → Rs Sr
  | .seq e, env, H => (runE K e env H).bind fun d H1 => match d with
    | .str _ => .no
    | d => optR (seqOf H1.M d) fun xs => .ok ⟨d, xs, xs⟩ H1
  | .rng1 a, env, H => (runE K a env H).bind fun u H1 => asIR u fun n => bR (smallI n) (.ok ⟨.non, [], rangeD 0 n.toNat⟩ H1)
  | .rng2 a b, env, H => (runE K a env H).bind fun u H1 => (runE K b env H1).bind fun v H2 => asIR u fun l => asIR v fun h => bR (smallI l && smallI h) (.ok ⟨.non, [], rangeD l (h - l).toNat⟩ H2)
  | .enum a, env, H => (runE K a env H).bind fun u H1 => optR (seqOf H1.M u) fun xs => .ok ⟨u, xs, enumD 0 xs⟩ H1
  | .zip _ _, _, _ => .no
  | .rngd a b, env, H => (runE K a env H).bind fun u H1 => (runE K b env H1).bind fun v H2 => asIR u fun l => asIR v fun h => bR (smallI l && smallI h) (.ok ⟨.non, [], rangeC l (-1) (l - h).toNat⟩ H2)
  | .ezip a b, env, H => (runE K a env H).bind fun u H1 => (runE K b env H1).bind fun v H2 => match u with
    | .tup xs => optR (lstOf H2.M v) fun ys => bR (Nat.beq xs.length ys.length) (.ok ⟨v, ys, enumD 0 (zipD xs ys)⟩ H2)
    | _ => .no
end

mutual
def runS (K : Rc) : S → En → Hh → Rs Fi
  | .asg t e, env, H => (runE K e env H).bind fun d H1 => optR (putR t d env) fun env1 => .ok (.nx env1) H1
  | .par is es, env, H => (runEs K es env H).bind fun ds H1 => bR (Nat.beq ds.length is.length) (.ok (.nx (parE is ds env)) H1)
  | .fld o C f e, env, H => (runE K e env H).bind fun d H1 => (runE K o env H1).bind fun u H2 => insR H2.M u C fun p fs => bR (decide (fs.length < 1000)) (.ok (.nx env) (H2.put p (.ins C (putF' f d fs))))
  | .sub o i e, env, H => (runE K e env H).bind fun d H1 => (runE K o env H1).bind fun u H2 => (runE K i env H2).bind fun v H3 => (setR u v d H3).bind fun _ H4 => .ok (.nx env) H4
  | .ex e, env, H => (runE K e env H).bind fun _ H1 => .ok (.nx env) H1
  | .ret .none, _, H => .ok (.rt .non) H
  | .ret (.some e), env, H => (runE K e env H).bind fun d H1 => .ok (.rt d) H1
  | .ite t a b, env, H => (runE K t env H).bind fun u H1 => asBR u fun r => match r with
    | true => runSs K a env H1
    | false => runSs K b env H1
  | .for_ t it a, env, H => (runIt K it env H).bind fun s H1 => fgR s (fun d env H => optR (putR t d env) fun env1 => runSs K a env1 H) s.xs env H1
  | .pass, env, H => .ok (.nx env) H
  | .raise_ C e, env, H => (runE K e env H).bind fun d H1 => .ex C d H1
  | .whl _ _, _, _ => .no
  | .brk, _, _ => .no
  | .cont, _, _ => .no
  | .never, _, _ => .no
def runSs (K : Rc) : List S → En → Hh → Rs Fi
  | [], env, H => .ok (.nx env) H
  | s :: r, env, H => (runS K s env H).bind fun f H1 => match f with
    | .nx env1 => runSs K r env1 H1
    | .rt d => .ok (.rt d) H1
end

/-- the defs that are run: class or "", name, how many names, how many parameters, the suite -/
abbrev Tb := List ((Str × Str) × (Nat × Nat × List S))
def tbAt (C f : Str) : Tb → Option (Nat × Nat × List S)
  | [] => none
  | p :: r => match decide (p.1.2 = f) && decide (p.1.1 = C) with
    | true => some p.2
    | false => tbAt C f r
def runF (q : Option Str) (T : Tb) : Nat → CF
  | 0 => fun _ _ _ _ => .no
  | n + 1 => fun C f ds H => match tbAt C f T with
    | some (N, P, body) => bR (Nat.beq ds.length P) ((runSs ⟨q, runF q T n⟩ body (startE N ds) H).bind fun f H1 => match f with
      | .nx _ => .ok .non H1
      | .rt d => .ok d H1)
    | none => .no
end TL

set_option Elab.async false
set_option linter.all false
set_option maxRecDepth 100000
set_option maxHeartbeats 4000000
/-! A run tells what the small language asks. -/
namespace TL
open PySem PySem.Spec PyProof.Rows L2

mutual
/-- what a run's value stands for: its things are told in turn -/
def Rn (ρ : List Addr) : D → D → Prop
  | .tup xs, e => ∃ ys, e = .tup ys ∧ Rns ρ xs ys
  | .lst xs, e => ∃ ys, e = .lst ys ∧ Rns ρ xs ys
  | .klst xs, e => ∃ ys, e = .klst ys ∧ Rns ρ xs ys
  | .ref i, e => ∃ a, e = .ref a ∧ ρ[i]? = some a
  | .exc C u, e => ∃ u', e = .exc C u' ∧ Rn ρ u u'
  | .non, e => e = .non
  | .bl b, e => e = .bl b
  | .int i, e => e = .int i
  | .str s, e => e = .str s
  | .flt b, e => e = .flt b
  | .glb x, e => e = .glb x
def Rns (ρ : List Addr) : List D → List D → Prop
  | [], es => es = []
  | d :: ds, es => ∃ e r, es = e :: r ∧ Rn ρ d e ∧ Rns ρ ds r
end
def RnK {κ : Type} (ρ : List Addr) : List (κ × D) → List (κ × D) → Prop
  | [], es => es = []
  | (k, d) :: ds, es => ∃ e r, es = (k, e) :: r ∧ Rn ρ d e ∧ RnK ρ ds r
def RnO (ρ : List Addr) : PO → PO → Prop
  | .lst xs, o => ∃ ys, o = .lst ys ∧ Rns ρ xs ys
  | .dct xs, o => ∃ ys, o = .dct ys ∧ RnK ρ xs ys
  | .ins C xs, o => ∃ ys, o = .ins C ys ∧ RnK ρ xs ys
  | .tab _, _ => False
def Le (ρ ρ1 : List Addr) : Prop := ∀ (i : Nat) (a : Addr), ρ[i]? = some a → ρ1[i]? = some a
theorem Le.refl {ρ : List Addr} : Le ρ ρ := fun _ _ h => h
theorem Le.trans {a b c : List Addr} (h : Le a b) (k : Le b c) : Le a c := fun i x e => k i x (h i x e)
theorem Le.app {ρ : List Addr} {p : Addr} : Le ρ (ρ ++ [p]) := fun i a h => by
  have hi : i < ρ.length := by
    by_cases c : i < ρ.length
    · exact c
    · rw [List.getElem?_eq_none (by omega)] at h; cases h
  rw [List.getElem?_append_left hi]; exact h
section
variable {ρ ρ1 : List Addr}
mutual
theorem Rn.mono (le : Le ρ ρ1) : ∀ {d e : D}, Rn ρ d e → Rn ρ1 d e
  | .tup xs, e, h => by
    simp only [Rn] at h ⊢
    obtain ⟨ys, h1, h2⟩ := h
    exact ⟨ys, h1, Rns.mono le h2⟩
  | .lst xs, e, h => by
    simp only [Rn] at h ⊢
    obtain ⟨ys, h1, h2⟩ := h
    exact ⟨ys, h1, Rns.mono le h2⟩
  | .klst xs, e, h => by
    simp only [Rn] at h ⊢
    obtain ⟨ys, h1, h2⟩ := h
    exact ⟨ys, h1, Rns.mono le h2⟩
  | .ref i, e, h => by
    simp only [Rn] at h ⊢
    obtain ⟨a, h1, h2⟩ := h
    exact ⟨a, h1, le _ _ h2⟩
  | .exc C u, e, h => by
    simp only [Rn] at h ⊢
    obtain ⟨a, h1, h2⟩ := h
    exact ⟨a, h1, Rn.mono le h2⟩
  | .non, _, h => h
  | .bl _, _, h => h
  | .int _, _, h => h
  | .str _, _, h => h
  | .flt _, _, h => h
  | .glb _, _, h => h
theorem Rns.mono (le : Le ρ ρ1) : ∀ {ds es : List D}, Rns ρ ds es → Rns ρ1 ds es
  | [], _, h => h
  | d :: ds, es, h => by
    simp only [Rns] at h ⊢
    obtain ⟨v, r, rfl, h1, h2⟩ := h
    exact ⟨v, r, rfl, Rn.mono le h1, Rns.mono le h2⟩
end
mutual
theorem Rn.fun : ∀ {d e f : D}, Rn ρ d e → Rn ρ d f → e = f
  | .tup xs, e, f, h, k => by
    simp only [Rn] at h k
    obtain ⟨ys, rfl, h2⟩ := h
    obtain ⟨zs, rfl, k2⟩ := k
    rw [Rns.fun h2 k2]
  | .lst xs, e, f, h, k => by
    simp only [Rn] at h k
    obtain ⟨ys, rfl, h2⟩ := h
    obtain ⟨zs, rfl, k2⟩ := k
    rw [Rns.fun h2 k2]
  | .klst xs, e, f, h, k => by
    simp only [Rn] at h k
    obtain ⟨ys, rfl, h2⟩ := h
    obtain ⟨zs, rfl, k2⟩ := k
    rw [Rns.fun h2 k2]
  | .ref i, e, f, h, k => by
    simp only [Rn] at h k
    obtain ⟨a, rfl, h2⟩ := h
    obtain ⟨b, rfl, k2⟩ := k
    rw [h2] at k2; cases k2; rfl
  | .exc C u, e, f, h, k => by
    simp only [Rn] at h k
    obtain ⟨a, rfl, h2⟩ := h
    obtain ⟨b, rfl, k2⟩ := k
    rw [Rn.fun h2 k2]
  | .non, _, _, h, k => by simp only [Rn] at h k; rw [h, k]
  | .bl _, _, _, h, k => by simp only [Rn] at h k; rw [h, k]
  | .int _, _, _, h, k => by simp only [Rn] at h k; rw [h, k]
  | .str _, _, _, h, k => by simp only [Rn] at h k; rw [h, k]
  | .flt _, _, _, h, k => by simp only [Rn] at h k; rw [h, k]
  | .glb _, _, _, h, k => by simp only [Rn] at h k; rw [h, k]
theorem Rns.fun : ∀ {ds es fs : List D}, Rns ρ ds es → Rns ρ ds fs → es = fs
  | [], _, _, h, k => by simp only [Rns] at h k; rw [h, k]
  | d :: ds, es, fs, h, k => by
    simp only [Rns] at h k
    obtain ⟨v, r, rfl, h1, h2⟩ := h
    obtain ⟨w, q, rfl, k1, k2⟩ := k
    rw [Rn.fun h1 k1, Rns.fun h2 k2]
end
mutual
theorem Rn.plain : ∀ {d e : D}, Rn ρ d e → d.plain = true → e = d
  | .tup xs, e, h, k => by
    simp only [Rn] at h
    obtain ⟨ys, rfl, h2⟩ := h
    rw [Rns.plain h2 (by simpa only [D.plain] using k)]
  | .lst xs, e, h, k => by
    simp only [Rn] at h
    obtain ⟨ys, rfl, h2⟩ := h
    rw [Rns.plain h2 (by simpa only [D.plain] using k)]
  | .klst xs, e, h, k => by
    simp only [Rn] at h
    obtain ⟨ys, rfl, h2⟩ := h
    rw [Rns.plain h2 (by simpa only [D.plain] using k)]
  | .ref i, e, h, k => by simp [D.plain] at k
  | .exc C u, e, h, k => by simp [D.plain] at k
  | .non, _, h, _ => by simpa only [Rn] using h
  | .bl _, _, h, _ => by simpa only [Rn] using h
  | .int _, _, h, _ => by simpa only [Rn] using h
  | .str _, _, h, _ => by simpa only [Rn] using h
  | .flt _, _, h, _ => by simpa only [Rn] using h
  | .glb _, _, h, _ => by simpa only [Rn] using h
theorem Rns.plain : ∀ {ds es : List D}, Rns ρ ds es → plains ds = true → es = ds
  | [], _, h, _ => by simpa only [Rns] using h
  | d :: ds, es, h, k => by
    simp only [Rns] at h
    obtain ⟨v, r, rfl, h1, h2⟩ := h
    simp only [plains, Bool.and_eq_true] at k
    rw [Rn.plain h1 k.1, Rns.plain h2 k.2]
end
mutual
theorem Rn.same : ∀ {d : D}, d.plain = true → Rn ρ d d
  | .tup xs, k => by simp only [Rn]; exact ⟨xs, rfl, Rns.same (by simpa only [D.plain] using k)⟩
  | .lst xs, k => by simp only [Rn]; exact ⟨xs, rfl, Rns.same (by simpa only [D.plain] using k)⟩
  | .klst xs, k => by simp only [Rn]; exact ⟨xs, rfl, Rns.same (by simpa only [D.plain] using k)⟩
  | .ref i, k => by simp [D.plain] at k
  | .exc C u, k => by simp [D.plain] at k
  | .non, _ => by simp only [Rn]
  | .bl _, _ => by simp only [Rn]
  | .int _, _ => by simp only [Rn]
  | .str _, _ => by simp only [Rn]
  | .flt _, _ => by simp only [Rn]
  | .glb _, _ => by simp only [Rn]
theorem Rns.same : ∀ {ds : List D}, plains ds = true → Rns ρ ds ds
  | [], _ => by simp only [Rns]
  | d :: ds, k => by
    simp only [plains, Bool.and_eq_true] at k
    simp only [Rns]
    exact ⟨d, ds, rfl, Rn.same k.1, Rns.same k.2⟩
end
theorem Rn.flat {d e : D} (h : Rn ρ d e) (k : d.flat = true) : e = d := by cases d <;> simp_all [Rn, D.flat]
theorem Rn.flat' {d : D} (k : d.flat = true) : Rn ρ d d := by cases d <;> simp_all [Rn, D.flat]
theorem Rn.ints (ns : List Int) : Rns ρ (ns.map .int) (ns.map .int) := by
  induction ns with
  | nil => simp only [List.map_nil, Rns]
  | cons n ns ih => simp only [List.map_cons, Rns]; exact ⟨_, _, rfl, by simp only [Rn], ih⟩

theorem Rns.length : ∀ {ds vs : List D}, Rns ρ ds vs → vs.length = ds.length
  | [], _, h => by simp only [Rns] at h; subst h; rfl
  | d :: ds, vs, h => by
    simp only [Rns] at h
    obtain ⟨v, r, rfl, h1, h2⟩ := h
    rw [List.length_cons, List.length_cons, Rns.length h2]
theorem Rns.get : ∀ {ds vs : List D} {i : Nat} {d : D}, Rns ρ ds vs → ds[i]? = some d → ∃ v, vs[i]? = some v ∧ Rn ρ d v
  | [], _, _, _, _, e => by simp at e
  | x :: ds, vs, i, d, h, e => by
    simp only [Rns] at h
    obtain ⟨v, r, rfl, h1, h2⟩ := h
    cases i with
    | zero => simp at e; subst e; exact ⟨v, rfl, h1⟩
    | succ i => simpa using Rns.get h2 (by simpa using e)
theorem Rns.append : ∀ {ds es vs us : List D}, Rns ρ ds vs → Rns ρ es us → Rns ρ (ds ++ es) (vs ++ us)
  | [], _, _, _, h, g => by simp only [Rns] at h; subst h; exact g
  | d :: ds, es, vs, us, h, g => by
    simp only [Rns] at h
    obtain ⟨v, r, rfl, h1, h2⟩ := h
    simp only [List.cons_append, Rns]
    exact ⟨v, r ++ us, rfl, h1, Rns.append h2 g⟩
theorem Rns.nil : Rns ρ [] [] := by simp only [Rns]
theorem Rns.cons {d v : D} {ds vs : List D} (h : Rn ρ d v) (k : Rns ρ ds vs) : Rns ρ (d :: ds) (v :: vs) := by
  simp only [Rns]; exact ⟨v, vs, rfl, h, k⟩
theorem Rns.one {d v : D} (h : Rn ρ d v) : Rns ρ [d] [v] := Rns.cons h Rns.nil
theorem Rns.set {d v : D} (h : Rn ρ d v) : ∀ {ds vs : List D} (i : Nat), Rns ρ ds vs → Rns ρ (ds.set i d) (vs.set i v)
  | [], _, _, h => by simp only [Rns] at h; subst h; simp only [List.set_nil]; exact Rns.nil
  | x :: ds, vs, i, g => by
    simp only [Rns] at g
    obtain ⟨y, r, rfl, h1, h2⟩ := g
    cases i with
    | zero => exact Rns.cons h h2
    | succ i => exact Rns.cons h1 (Rns.set h i h2)
theorem Rns.take : ∀ {ds vs : List D} (n : Nat), Rns ρ ds vs → Rns ρ (ds.take n) (vs.take n)
  | _, _, 0, _ => by simp only [List.take_zero]; exact Rns.nil
  | [], _, _ + 1, h => by simp only [Rns] at h; subst h; exact Rns.nil
  | x :: ds, vs, n + 1, g => by
    simp only [Rns] at g
    obtain ⟨y, r, rfl, h1, h2⟩ := g
    exact Rns.cons h1 (Rns.take n h2)
theorem Rns.drop : ∀ {ds vs : List D} (n : Nat), Rns ρ ds vs → Rns ρ (ds.drop n) (vs.drop n)
  | _, _, 0, h => by simpa only [List.drop_zero] using h
  | [], _, _ + 1, h => by simp only [Rns] at h; subst h; exact Rns.nil
  | x :: ds, vs, n + 1, g => by
    simp only [Rns] at g
    obtain ⟨y, r, rfl, h1, h2⟩ := g
    exact Rns.drop n h2
theorem Rns.nil_inv {vs : List D} (h : Rns ρ [] vs) : vs = [] := by simpa only [Rns] using h
theorem Rns.cons_inv {d : D} {ds vs : List D} (h : Rns ρ (d :: ds) vs) : ∃ v r, vs = v :: r ∧ Rn ρ d v ∧ Rns ρ ds r := by simpa only [Rns] using h
theorem Rns.cut {ds vs : List D} (h : Rns ρ ds vs) (lo hi : Option Int) : Rns ρ (cutD ds lo hi) (cutD vs lo hi) := by
  unfold cutD
  rw [h.length]
  exact (h.drop _).take _
theorem Rns.at_ {ds vs : List D} {i : Int} {d : D} (h : Rns ρ ds vs) (e : atI ds i = some d) : ∃ v, atI vs i = some v ∧ Rn ρ d v := by
  unfold atI at e ⊢
  rw [h.length]
  cases q : ixN ds.length i with
  | none => rw [q] at e; cases e
  | some j => rw [q] at e; exact h.get e
theorem Rns.enum {ds vs : List D} (h : Rns ρ ds vs) (n : Nat) : Rns ρ (enumD n ds) (enumD n vs) := by
  induction ds generalizing vs n with
  | nil => rw [h.nil_inv]; simp only [enumD]; exact Rns.nil
  | cons d ds ih =>
    obtain ⟨v, r, rfl, h1, h2⟩ := h.cons_inv
    simp only [enumD]
    refine Rns.cons ?_ (ih h2 _)
    simp only [Rn]
    exact ⟨_, rfl, Rns.cons (by simp only [Rn]) (Rns.one h1)⟩
theorem Rns.zip {ds vs es us : List D} (h : Rns ρ ds vs) (g : Rns ρ es us) : Rns ρ (zipD ds es) (zipD vs us) := by
  induction ds generalizing vs es us with
  | nil => rw [h.nil_inv]; simp only [zipD]; exact Rns.nil
  | cons d ds ih =>
    obtain ⟨v, r, rfl, h1, h2⟩ := h.cons_inv
    cases es with
    | nil => rw [g.nil_inv]; simp only [zipD]; exact Rns.nil
    | cons e es =>
      obtain ⟨u, q, rfl, g1, g2⟩ := g.cons_inv
      simp only [zipD]
      refine Rns.cons ?_ (ih h2 g2)
      simp only [Rn]
      exact ⟨_, rfl, Rns.cons h1 (Rns.one g1)⟩
/-! entries -/
section
variable {κ : Type}
theorem RnK.mono (le : Le ρ ρ1) : ∀ {ds es : List (κ × D)}, RnK ρ ds es → RnK ρ1 ds es
  | [], _, h => h
  | (k, d) :: ds, es, h => by
    obtain ⟨v, r, rfl, h1, h2⟩ := h
    exact ⟨v, r, rfl, h1.mono le, RnK.mono le h2⟩
theorem RnK.length : ∀ {ds es : List (κ × D)}, RnK ρ ds es → es.length = ds.length
  | [], es, h => by
    have e : es = [] := h
    rw [e]
  | (k, d) :: ds, es, h => by
    obtain ⟨v, r, rfl, h1, h2⟩ := h
    rw [List.length_cons, List.length_cons, RnK.length h2]
theorem RnK.app : ∀ {ds es fs gs : List (κ × D)}, RnK ρ ds es → RnK ρ fs gs → RnK ρ (ds ++ fs) (es ++ gs)
  | [], es, fs, gs, h, g => by
    have e : es = [] := h
    rw [e]; exact g
  | (k, d) :: ds, es, fs, gs, h, g => by
    obtain ⟨v, r, rfl, h1, h2⟩ := h
    exact ⟨v, r ++ gs, rfl, h1, RnK.app h2 g⟩
variable [DecidableEq κ]
theorem RnK.get (q : κ) : ∀ {ds es : List (κ × D)}, RnK ρ ds es → (∀ d, kget ds q = some d → ∃ e, kget es q = some e ∧ Rn ρ d e) ∧ (kget ds q = none → kget es q = none)
  | [], es, h => by
    have e : es = [] := h
    rw [e]; exact ⟨fun d z => (by cases z), fun _ => rfl⟩
  | (k, d) :: ds, es, h => by
    obtain ⟨v, r, rfl, h1, h2⟩ := h
    have ih := RnK.get q h2
    unfold kget at ih ⊢
    by_cases c : k = q
    · simp only [List.find?_cons, c, decide_true, Option.map_some, Option.some.injEq]
      exact ⟨fun x z => ⟨v, rfl, z ▸ h1⟩, fun z => (by cases z)⟩
    · simp only [List.find?_cons, c, decide_false]
      exact ih
theorem RnK.any (q : κ) : ∀ {ds es : List (κ × D)}, RnK ρ ds es → (es.any fun kv => decide (kv.1 = q)) = ds.any fun kv => decide (kv.1 = q)
  | [], es, h => by
    have e : es = [] := h
    rw [e]
  | (k, d) :: ds, es, h => by
    obtain ⟨v, r, rfl, h1, h2⟩ := h
    simp only [List.any_cons, RnK.any q h2]
theorem RnK.put {q : κ} {d e : D} (g : Rn ρ d e) {ds es : List (κ × D)} (h : RnK ρ ds es) : RnK ρ (kput ds q d) (kput es q e) := by
  unfold kput
  rw [h.any q]
  split
  · rename_i z0
    clear z0
    induction ds generalizing es with
    | nil =>
      have e : es = [] := h
      rw [e]; exact (rfl : ([] : List (κ × D)) = [])
    | cons x ds ih =>
      obtain ⟨k, y⟩ := x
      obtain ⟨v, r, rfl, h1, h2⟩ := h
      simp only [List.map_cons]
      by_cases c : k = q
      · simp only [c, if_true]
        exact ⟨e, _, rfl, g, ih h2⟩
      · simp only [c, if_false]
        exact ⟨v, _, rfl, h1, ih h2⟩
  · exact h.app ⟨e, [], rfl, g, rfl⟩
end
theorem RnK.merge {kws kws' : List (Key × D)} (g : RnK ρ kws kws') : ∀ {kvs kvs' : List (Key × D)}, RnK ρ kvs kvs' → RnK ρ (kmerge kvs kws) (kmerge kvs' kws') := by
  induction kws generalizing kws' with
  | nil =>
    intro kvs kvs' h
    have e : kws' = [] := g
    rw [e]; exact h
  | cons x kws ih =>
    intro kvs kvs' h
    obtain ⟨k, d⟩ := x
    obtain ⟨v, r, rfl, g1, g2⟩ := g
    unfold kmerge
    simp only [List.foldl_cons]
    exact ih g2 (h.put g1)
theorem RnK.lookup {f : Str} : ∀ {ds es : List (Str × D)}, RnK ρ ds es → (∀ d, ds.lookup f = some d → ∃ e, es.lookup f = some e ∧ Rn ρ d e) ∧ (ds.lookup f = none → es.lookup f = none)
  | [], es, h => by
    have e : es = [] := h
    rw [e]; exact ⟨fun d z => (by cases z), fun _ => rfl⟩
  | (k, d) :: ds, es, h => by
    obtain ⟨v, r, rfl, h1, h2⟩ := h
    have ih := RnK.lookup (f := f) h2
    by_cases c : (f == k) = true
    · simp only [List.lookup_cons, c, Option.some.injEq]
      exact ⟨fun x z => ⟨v, rfl, z ▸ h1⟩, fun z => (by cases z)⟩
    · simp only [List.lookup_cons, Bool.not_eq_true _ ▸ c]
      exact ih
theorem RnK.putF {f : Str} {d e : D} (g : Rn ρ d e) : ∀ {ds es : List (Str × D)}, RnK ρ ds es → RnK ρ (putF' f d ds) (putF' f e es)
  | [], es, h => by
    have z : es = [] := h
    rw [z]; exact ⟨e, [], rfl, g, rfl⟩
  | (k, x) :: ds, es, h => by
    obtain ⟨v, r, rfl, h1, h2⟩ := h
    simp only [putF']
    by_cases c : k = f
    · simp only [c, if_true]; exact ⟨e, r, rfl, g, h2⟩
    · simp only [c, if_false]; exact ⟨v, _, rfl, h1, RnK.putF g h2⟩
theorem RnO.mono (le : Le ρ ρ1) {o o' : PO} (h : RnO ρ o o') : RnO ρ1 o o' := by
  cases o with
  | lst xs => obtain ⟨ys, rfl, h⟩ := h; exact ⟨ys, rfl, h.mono le⟩
  | dct xs => obtain ⟨ys, rfl, h⟩ := h; exact ⟨ys, rfl, h.mono le⟩
  | ins C xs => obtain ⟨ys, rfl, h⟩ := h; exact ⟨ys, rfl, h.mono le⟩
  | tab q => exact h.elim
theorem keyOf_rn {d e : D} (h : Rn ρ d e) : TL.keyOf e = TL.keyOf d := by
  cases d with
  | tup xs => simp only [Rn] at h; obtain ⟨ys, rfl, _⟩ := h; rfl
  | lst xs => simp only [Rn] at h; obtain ⟨ys, rfl, _⟩ := h; rfl
  | klst xs => simp only [Rn] at h; obtain ⟨ys, rfl, _⟩ := h; rfl
  | ref xs => simp only [Rn] at h; obtain ⟨ys, rfl, _⟩ := h; rfl
  | exc C xs => simp only [Rn] at h; obtain ⟨ys, rfl, _⟩ := h; rfl
  | _ => simp only [Rn] at h; rw [h]
theorem ints_rn : ∀ {ds es : List D}, Rns ρ ds es → ∀ {ns}, intsOf ds = some ns → intsOf es = some ns
  | [], es, h, ns, e => by rw [h.nil_inv]; exact e
  | d :: ds, es, h, ns, e => by
    obtain ⟨v, r, rfl, h1, h2⟩ := h.cons_inv
    cases d <;> simp [intsOf] at e
    simp only [Rn] at h1
    subst h1
    obtain ⟨ms, e1, rfl⟩ := e
    simp [intsOf, ints_rn h2 e1]
theorem bools_rn : ∀ {ds es : List D}, Rns ρ ds es → ∀ {ns}, boolsOf ds = some ns → boolsOf es = some ns
  | [], es, h, ns, e => by rw [h.nil_inv]; exact e
  | d :: ds, es, h, ns, e => by
    obtain ⟨v, r, rfl, h1, h2⟩ := h.cons_inv
    cases d <;> simp [boolsOf] at e
    simp only [Rn] at h1
    subst h1
    obtain ⟨ms, e1, rfl⟩ := e
    simp [boolsOf, bools_rn h2 e1]
theorem keysI_rn : ∀ {ds es : List (Key × D)}, RnK ρ ds es → ∀ {ns}, keysI ds = some ns → keysI es = some ns
  | [], es, h, ns, e => by
    have z : es = [] := h
    rw [z]; exact e
  | (k, d) :: ds, es, h, ns, e => by
    obtain ⟨v, r, rfl, h1, h2⟩ := h
    cases k <;> simp [keysI] at e
    obtain ⟨ms, e1, rfl⟩ := e
    simp [keysI, keysI_rn h2 e1]
theorem flatPairs_rn : ∀ {ds es : List D}, Rns ρ ds es → ∀ {kvs}, flatPairs ds = some kvs → ∃ kws, flatPairs es = some kws ∧ RnK ρ kvs kws
  | [], es, h, kvs, e => by
    rw [h.nil_inv]
    cases e; exact ⟨[], rfl, rfl⟩
  | d :: ds, es, h, kvs, e => by
    obtain ⟨v, r, rfl, h1, h2⟩ := h.cons_inv
    unfold flatPairs at e
    split at e
    · rename_i z0; cases z0
    · rename_i k v' r' eq
      cases eq
      simp only [Rn] at h1
      obtain ⟨ys, rfl, h1⟩ := h1
      obtain ⟨k', r1, rfl, g1, h1⟩ := h1.cons_inv
      obtain ⟨w', r2, rfl, g2, h1⟩ := h1.cons_inv
      rw [h1.nil_inv]
      split at e
      · rename_i q kvs' e1 e2
        cases e
        obtain ⟨kws, f1, f2⟩ := flatPairs_rn h2 e2
        refine ⟨(q, w') :: kws, ?_, w', kws, rfl, g2, f2⟩
        simp only [flatPairs, keyOf_rn g1, e1, f1]
      · cases e
    · cases e
theorem pairsOf_rn : ∀ {ds es : List D}, Rns ρ ds es → ∀ {kvs}, pairsOf ds = some kvs → ∃ kws, pairsOf es = some kws ∧ RnK ρ kvs kws
  | [], es, h, kvs, e => by
    rw [h.nil_inv]
    cases e; exact ⟨[], rfl, rfl⟩
  | [d], es, h, kvs, e => by cases e
  | k :: d :: ds, es, h, kvs, e => by
    obtain ⟨k', r, rfl, g1, h⟩ := h.cons_inv
    obtain ⟨v, r, rfl, g2, h2⟩ := h.cons_inv
    simp only [pairsOf] at e
    split at e
    · rename_i q kvs' e1 e2
      cases e
      obtain ⟨kws, f1, f2⟩ := pairsOf_rn h2 e2
      refine ⟨(q, v) :: kws, ?_, v, kws, rfl, g2, f2⟩
      simp only [pairsOf, keyOf_rn g1, e1, f1]
    · cases e
end
end TL

set_option Elab.async false
set_option linter.all false
set_option maxRecDepth 100000
set_option maxHeartbeats 4000000
/-! A run's memory and what it stands for; operations. -/
namespace TL
open PySem PySem.Spec PyProof.Rows L2

/-- the run's memory tells the changeable things that were made since; all others stand as they were -/
structure Sim (qs : Option Str) (B : Mm) (ρ : List Addr) (H : Hh) (M : Mm) : Prop where
  n : H.n = ρ.length
  inj : ∀ (i j : Nat) (a : Addr), ρ[i]? = some a → ρ[j]? = some a → i = j
  at_ : ∀ (i : Nat) (a : Addr), ρ[i]? = some a → ∃ o o', lk H.l i = some o ∧ M a = some o' ∧ RnO ρ o o'
  out : ∀ a : Addr, (∀ i : Nat, ρ[i]? ≠ some a) → M a = B a
  new : ∀ (i : Nat) (a : Addr), ρ[i]? = some a → B a = none
  tb : ∀ q, qs = some q → ∃ P, M P = some (.tab q)

theorem lk_same {l : List (Nat × PO)} {i : Nat} {o : PO} : lk ((i, o) :: l) i = some o := by
  simp [lk]
theorem lk_ne {l : List (Nat × PO)} {i j : Nat} {o : PO} (h : j ≠ i) : lk ((j, o) :: l) i = lk l i := by
  have e : Nat.beq j i = false := by
    cases c : Nat.beq j i with
    | false => rfl
    | true => exact absurd (Nat.eq_of_beq_eq_true c) h
  simp [lk, e]
section
variable {qs : Option Str} {B : Mm} {ρ ρ1 : List Addr} {H : Hh} {M : Mm}
theorem Sim.get (s : Sim qs B ρ H M) {i : Nat} {a : Addr} (e : ρ[i]? = some a) {o : PO} (h : H.M i = some o) : ∃ o', M a = some o' ∧ RnO ρ o o' := by
  obtain ⟨o1, o', h1, h2, h3⟩ := s.at_ i a e
  have h' : lk H.l i = some o := h
  rw [h1] at h'; cases h'
  exact ⟨o', h2, h3⟩
theorem Sim.put (s : Sim qs B ρ H M) {i : Nat} {a : Addr} (e : ρ[i]? = some a) {o o' : PO} (h : RnO ρ o o') : Sim qs B ρ (H.put i o) (mput M a o') where
  n := s.n
  inj := s.inj
  at_ := fun j b eb => by
    by_cases c : j = i
    · subst c
      rw [e] at eb; cases eb
      exact ⟨o, o', lk_same, mput_same, h⟩
    · have nb : b ≠ a := fun z => c (s.inj j i a (z ▸ eb) e)
      obtain ⟨o1, o2, h1, h2, h3⟩ := s.at_ j b eb
      exact ⟨o1, o2, by show lk ((i, o) :: H.l) j = _; rw [lk_ne (fun z => c z.symm)]; exact h1, by rw [mput_ne nb]; exact h2, h3⟩
  out := fun b nb => by
    rw [mput_ne (show b ≠ a from fun z => nb i (z ▸ e))]; exact s.out b nb
  new := s.new
  tb := fun q eq => by
    obtain ⟨P, hP⟩ := s.tb q eq
    obtain ⟨o1, o2, h1, h2, h3⟩ := s.at_ i a e
    refine ⟨P, ?_⟩
    rw [mput_ne]; exact hP
    intro z
    subst z
    rw [h2] at hP; cases hP
    cases o1 <;> simp [RnO] at h3
theorem Sim.fresh (s : Sim qs B ρ H M) {p : Addr} (hp : M p = none) : ∀ i : Nat, ρ[i]? ≠ some p := fun i e => by
  obtain ⟨_, _, _, h, _⟩ := s.at_ i p e
  rw [hp] at h; cases h
theorem app_last {p : Addr} : (ρ ++ [p])[ρ.length]? = some p := by simp
theorem app_cases {p a : Addr} {i : Nat} (h : (ρ ++ [p])[i]? = some a) : ρ[i]? = some a ∨ (i = ρ.length ∧ a = p) := by
  by_cases c : i < ρ.length
  · rw [List.getElem?_append_left c] at h; exact .inl h
  · rw [List.getElem?_append_right (by omega)] at h
    have : i - ρ.length = 0 := by
      by_cases d : i - ρ.length = 0
      · exact d
      · rw [List.getElem?_eq_none (by simp; omega)] at h; cases h
    rw [this] at h
    simp at h
    exact .inr ⟨by omega, h.symm⟩
theorem Sim.new_ (s : Sim qs B ρ H M) {p : Addr} (hp : M p = none) {o o' : PO} (h : RnO (ρ ++ [p]) o o') : Sim qs B (ρ ++ [p]) (H.new o) (mput M p o') where
  n := by show H.n + 1 = _; rw [s.n]; simp
  inj := fun i j a hi hj => by
    rcases app_cases hi with h1 | ⟨h1, h2⟩
    · rcases app_cases hj with h3 | ⟨h3, h4⟩
      · exact s.inj i j a h1 h3
      · exact absurd (h4 ▸ h1) (s.fresh hp i)
    · rcases app_cases hj with h3 | ⟨h3, h4⟩
      · exact absurd (h2 ▸ h3) (s.fresh hp j)
      · rw [h1, h3]
  at_ := fun i a hi => by
    rcases app_cases hi with hi | ⟨rfl, rfl⟩
    · obtain ⟨o1, o2, h1, h2, h3⟩ := s.at_ i a hi
      have li : i < ρ.length := by
        by_cases c : i < ρ.length
        · exact c
        · rw [List.getElem?_eq_none (by omega)] at hi; cases hi
      refine ⟨o1, o2, ?_, ?_, h3.mono Le.app⟩
      · show lk ((H.n, o) :: H.l) i = _
        rw [lk_ne (by rw [s.n]; omega)]; exact h1
      · rw [mput_ne (show a ≠ p from fun z => s.fresh hp i (z ▸ hi))]; exact h2
    · exact ⟨o, o', by show lk ((H.n, o) :: H.l) _ = _; rw [← s.n]; exact lk_same, mput_same, h⟩
  out := fun a na => by
    have n1 : a ≠ p := fun z => na ρ.length (by rw [z]; exact app_last)
    rw [mput_ne n1]
    exact s.out a fun i e => na i (Le.app i a e)
  new := fun i a hi => by
    rcases app_cases hi with hi | ⟨rfl, rfl⟩
    · exact s.new i a hi
    · rw [← s.out a (s.fresh hp)]; exact hp
  tb := fun q eq => by
    obtain ⟨P, hP⟩ := s.tb q eq
    refine ⟨P, ?_⟩
    rw [mput_ne]; exact hP
    intro z; subst z; rw [hp] at hP; cases hP

/-- what an end tells -/
def Pst (qs : Option Str) (B : Mm) {α β : Type} (R : List Addr → α → β → Prop) (ρ : List Addr) (r : Rs α) (x : XD) (Q : β → Mm → Prop) : Prop := match r with
  | .ok a H => ∀ ρ1 M b, Le ρ ρ1 → Sim qs B ρ1 H M → R ρ1 a b → Q b M
  | .ex C d H => ∀ ρ1 M b, Le ρ ρ1 → Sim qs B ρ1 H M → Rn ρ1 d b → x C b M
  | .no => False
section
variable {α β γ δ : Type} {R : List Addr → α → β → Prop} {R2 : List Addr → γ → δ → Prop} {x : XD}
theorem Pst.mono {r : Rs α} {Q : β → Mm → Prop} (h : Pst qs B R ρ r x Q) (le : Le ρ ρ1) : Pst qs B R ρ1 r x Q := by
  cases r with
  | ok a H => exact fun ρ2 M b l => h ρ2 M b (le.trans l)
  | ex C d H => exact fun ρ2 M b l => h ρ2 M b (le.trans l)
  | no => exact h
theorem Pst.bind {r : Rs α} {f : α → Hh → Rs γ} {Q : δ → Mm → Prop} {Q' : β → Mm → Prop} (h : Pst qs B R2 ρ (r.bind f) x Q)
    (k : ∀ ρ1 a b H M, Le ρ ρ1 → Sim qs B ρ1 H M → R ρ1 a b → Pst qs B R2 ρ1 (f a H) x Q → Q' b M) : Pst qs B R ρ r x Q' := by
  cases r with
  | ok a H => exact fun ρ1 M b l s rr => k ρ1 a b H M l s rr (Pst.mono h l)
  | ex C d H => exact h
  | no => exact h
theorem Pst.bindN {r : Rs α} {f : α → Hh → Rs γ} {Q : δ → Mm → Prop} {Q' : β → Mm → Prop} {y : XD} (h : Pst qs B R2 ρ (r.nox.bind f) x Q)
    (k : ∀ ρ1 a b H M, Le ρ ρ1 → Sim qs B ρ1 H M → R ρ1 a b → Pst qs B R2 ρ1 (f a H) x Q → Q' b M) : Pst qs B R ρ r y Q' := by
  cases r with
  | ok a H => exact fun ρ1 M b l s rr => k ρ1 a b H M l s rr (Pst.mono h l)
  | ex C d H => exact (show False from h).elim
  | no => exact (show False from h).elim
theorem Pst.nox {r : Rs α} {Q : β → Mm → Prop} {y : XD} (h : Pst qs B R ρ r.nox x Q) : Pst qs B R ρ r y Q := by
  cases r with
  | ok a H => exact h
  | ex C d H => exact (show False from h).elim
  | no => exact (show False from h).elim
theorem Pst.optR {o : Option γ} {f : γ → Rs α} {Q : β → Mm → Prop} (h : Pst qs B R ρ (optR o f) x Q) : ∃ a, o = some a ∧ Pst qs B R ρ (f a) x Q := by
  cases o with
  | some a => exact ⟨a, rfl, h⟩
  | none => exact (show False from h).elim
theorem Pst.bR {b : Bool} {r : Rs α} {Q : β → Mm → Prop} (h : Pst qs B R ρ (bR b r) x Q) : b = true ∧ Pst qs B R ρ r x Q := by
  cases b with
  | true => exact ⟨rfl, h⟩
  | false => exact (show False from h).elim
theorem Pst.asIR {d : D} {f : Int → Rs α} {Q : β → Mm → Prop} (h : Pst qs B R ρ (asIR d f) x Q) : ∃ i, d = .int i ∧ Pst qs B R ρ (f i) x Q := by
  cases d with
  | int i => exact ⟨i, rfl, h⟩
  | _ => exact (show False from h).elim
theorem Pst.asBR {d : D} {f : Bool → Rs α} {Q : β → Mm → Prop} (h : Pst qs B R ρ (asBR d f) x Q) : ∃ i, d = .bl i ∧ Pst qs B R ρ (f i) x Q := by
  cases d with
  | bl i => exact ⟨i, rfl, h⟩
  | _ => exact (show False from h).elim
theorem Pst.ok {a : α} {Q : β → Mm → Prop} {b : β} (h : Pst qs B R ρ (.ok a H) x Q) (s : Sim qs B ρ H M) (r : R ρ a b) : Q b M := h ρ M b Le.refl s r
theorem Pst.retR {o : Option α} {Q : β → Mm → Prop} (h : Pst qs B R ρ (retR o H) x Q) : ∃ a, o = some a ∧ Pst qs B R ρ (.ok a H) x Q := by
  cases o with
  | some a => exact ⟨a, rfl, h⟩
  | none => exact (show False from h).elim
end

/-! reading -/
theorem catOf_rn (s : Sim qs B ρ H M) {u v : D} (h : Rn ρ u v) {xs : List D} (e : catOf H.M u = some xs) : ∃ ys, catOf M v = some ys ∧ Rns ρ xs ys := by
  cases u with
  | lst zs =>
    cases e
    simp only [Rn] at h
    obtain ⟨ys, rfl, h⟩ := h
    exact ⟨ys, rfl, h⟩
  | ref i =>
    simp only [Rn] at h
    obtain ⟨a, rfl, h⟩ := h
    simp only [catOf] at e ⊢
    split at e
    · rename_i zs eq
      cases e
      obtain ⟨o', h1, h2⟩ := s.get h eq
      obtain ⟨ys, rfl, h3⟩ := h2
      exact ⟨ys, by rw [h1], h3⟩
    · cases e
  | _ => cases e
theorem catOf_none (s : Sim qs B ρ H M) {u v : D} (h : Rn ρ u v) (e : catOf H.M u = none) : catOf M v = none := by
  cases u with
  | lst zs => cases e
  | ref i =>
    simp only [Rn] at h
    obtain ⟨a, rfl, h⟩ := h
    obtain ⟨o, o', h1, h2, h3⟩ := s.at_ _ _ h
    simp only [catOf, Hh.M, h1] at e
    simp only [catOf, h2]
    cases o with
    | lst xs => cases e
    | dct xs => obtain ⟨ys, rfl, _⟩ := h3; rfl
    | ins C xs => obtain ⟨ys, rfl, _⟩ := h3; rfl
    | tab q => exact h3.elim
  | tup zs => simp only [Rn] at h; obtain ⟨ys, rfl, h⟩ := h; rfl
  | klst zs => simp only [Rn] at h; obtain ⟨ys, rfl, h⟩ := h; rfl
  | exc C zs => simp only [Rn] at h; obtain ⟨ys, rfl, h⟩ := h; rfl
  | _ => simp only [Rn] at h; subst h; rfl
theorem lstOf_rn (s : Sim qs B ρ H M) {u v : D} (h : Rn ρ u v) {xs : List D} (e : lstOf H.M u = some xs) : ∃ ys, lstOf M v = some ys ∧ Rns ρ xs ys := by
  cases u with
  | klst zs =>
    cases e
    simp only [Rn] at h
    obtain ⟨ys, rfl, h⟩ := h
    exact ⟨ys, rfl, h⟩
  | lst zs =>
    obtain ⟨ys, h1, h2⟩ := catOf_rn s h e
    simp only [Rn] at h
    obtain ⟨zs, rfl, h⟩ := h
    exact ⟨ys, h1, h2⟩
  | ref i =>
    obtain ⟨ys, h1, h2⟩ := catOf_rn s h e
    simp only [Rn] at h
    obtain ⟨zs, rfl, h⟩ := h
    exact ⟨ys, h1, h2⟩
  | _ => cases e
theorem seqOf_rn (s : Sim qs B ρ H M) {u v : D} (h : Rn ρ u v) {xs : List D} (e : seqOf H.M u = some xs) : ∃ ys, seqOf M v = some ys ∧ Rns ρ xs ys := by
  cases u with
  | tup zs =>
    cases e
    simp only [Rn] at h
    obtain ⟨ys, rfl, h⟩ := h
    exact ⟨ys, rfl, h⟩
  | klst zs =>
    obtain ⟨ys, h1, h2⟩ := lstOf_rn s h e
    simp only [Rn] at h
    obtain ⟨zs, rfl, h⟩ := h
    exact ⟨ys, h1, h2⟩
  | lst zs =>
    obtain ⟨ys, h1, h2⟩ := lstOf_rn s h e
    simp only [Rn] at h
    obtain ⟨zs, rfl, h⟩ := h
    exact ⟨ys, h1, h2⟩
  | ref i =>
    obtain ⟨ys, h1, h2⟩ := lstOf_rn s h e
    simp only [Rn] at h
    obtain ⟨zs, rfl, h⟩ := h
    exact ⟨ys, h1, h2⟩
  | _ => cases e
theorem catT_rn (s : Sim qs B ρ H M) {u v : D} (h : Rn ρ u v) {xs : List D} (e : catT H.M u = some xs) : ∃ ys, catT M v = some ys ∧ Rns ρ xs ys := by
  cases u with
  | tup zs =>
    cases e
    simp only [Rn] at h
    obtain ⟨ys, rfl, h⟩ := h
    exact ⟨ys, rfl, h⟩
  | lst zs =>
    obtain ⟨ys, h1, h2⟩ := catOf_rn s h e
    simp only [Rn] at h
    obtain ⟨zs, rfl, h⟩ := h
    exact ⟨ys, h1, h2⟩
  | ref i =>
    obtain ⟨ys, h1, h2⟩ := catOf_rn s h e
    simp only [Rn] at h
    obtain ⟨zs, rfl, h⟩ := h
    exact ⟨ys, h1, h2⟩
  | _ => cases e
theorem dctOf_rn (s : Sim qs B ρ H M) {u v : D} (h : Rn ρ u v) : (∀ kvs, dctOf H.M u = some kvs → ∃ kws, dctOf M v = some kws ∧ RnK ρ kvs kws) ∧ (dctOf H.M u = none → dctOf M v = none) := by
  cases u with
  | ref i =>
    simp only [Rn] at h
    obtain ⟨a, rfl, h⟩ := h
    obtain ⟨o, o', h1, h2, h3⟩ := s.at_ _ _ h
    simp only [dctOf, Hh.M, h1, h2]
    cases o with
    | lst xs => obtain ⟨ys, rfl, _⟩ := h3; exact ⟨fun _ z => (by cases z), fun _ => rfl⟩
    | dct xs => obtain ⟨ys, rfl, h3⟩ := h3; exact ⟨fun _ z => (by cases z; exact ⟨ys, rfl, h3⟩), fun z => (by cases z)⟩
    | ins C xs => obtain ⟨ys, rfl, _⟩ := h3; exact ⟨fun _ z => (by cases z), fun _ => rfl⟩
    | tab q => exact h3.elim
  | tup zs => simp only [Rn] at h; obtain ⟨ys, rfl, h⟩ := h; exact ⟨fun _ z => (by cases z), fun _ => rfl⟩
  | lst zs => simp only [Rn] at h; obtain ⟨ys, rfl, h⟩ := h; exact ⟨fun _ z => (by cases z), fun _ => rfl⟩
  | klst zs => simp only [Rn] at h; obtain ⟨ys, rfl, h⟩ := h; exact ⟨fun _ z => (by cases z), fun _ => rfl⟩
  | exc C zs => simp only [Rn] at h; obtain ⟨ys, rfl, h⟩ := h; exact ⟨fun _ z => (by cases z), fun _ => rfl⟩
  | _ => simp only [Rn] at h; subst h; exact ⟨fun _ z => (by cases z), fun _ => rfl⟩
theorem tyOf_rn (s : Sim qs B ρ H M) {u v : D} (h : Rn ρ u v) {ty : Ty} (e : tyOf H.M u = some ty) : tyOf M v = some ty := by
  cases u with
  | ref i =>
    simp only [Rn] at h
    obtain ⟨a, rfl, h⟩ := h
    obtain ⟨o, o', h1, h2, h3⟩ := s.at_ _ _ h
    simp only [tyOf, Hh.M, h1] at e
    simp only [tyOf, h2]
    cases o with
    | lst xs => obtain ⟨ys, rfl, _⟩ := h3; exact e
    | dct xs => obtain ⟨ys, rfl, h3⟩ := h3; exact e
    | ins C xs => cases e
    | tab q => exact h3.elim
  | tup zs => simp only [Rn] at h; obtain ⟨ys, rfl, h⟩ := h; exact e
  | lst zs => simp only [Rn] at h; obtain ⟨ys, rfl, h⟩ := h; exact e
  | klst zs => simp only [Rn] at h; obtain ⟨ys, rfl, h⟩ := h; exact e
  | exc C zs => cases e
  | _ => simp only [Rn] at h; subst h; exact e
theorem now_rn (s : Sim qs B ρ H M) {u v : D} (h : Rn ρ u v) : Rn ρ (now H.M u) (now M v) := by
  cases u with
  | ref i =>
    have h' := h
    simp only [Rn] at h
    obtain ⟨a, rfl, h⟩ := h
    obtain ⟨o, o', h1, h2, h3⟩ := s.at_ _ _ h
    simp only [now, Hh.M, h1, h2]
    cases o with
    | lst xs => obtain ⟨ys, rfl, h3⟩ := h3; simp only [Rn]; exact ⟨ys, rfl, h3⟩
    | dct xs => obtain ⟨ys, rfl, h3⟩ := h3; exact h'
    | ins C xs => obtain ⟨ys, rfl, h3⟩ := h3; exact h'
    | tab q => exact h3.elim
  | tup zs => simp only [Rn] at h; obtain ⟨ys, rfl, h⟩ := h; simp only [now, Rn]; exact ⟨ys, rfl, h⟩
  | lst zs => simp only [Rn] at h; obtain ⟨ys, rfl, h⟩ := h; simp only [now, Rn]; exact ⟨ys, rfl, h⟩
  | klst zs => simp only [Rn] at h; obtain ⟨ys, rfl, h⟩ := h; simp only [now, Rn]; exact ⟨ys, rfl, h⟩
  | exc C zs => simp only [Rn] at h; obtain ⟨ys, rfl, h⟩ := h; simp only [now, Rn]; exact ⟨ys, rfl, h⟩
  | _ => simp only [Rn] at h; subst h; simp only [now, Rn]
end
end TL

set_option Elab.async false
set_option linter.all false
set_option maxRecDepth 100000
set_option maxHeartbeats 4000000
/-! A run's operations tell what the small language asks. -/
namespace TL
open PySem PySem.Spec PyProof.Rows L2
section
variable {qs : Option Str} {B : Mm} {ρ ρ1 : List Addr} {H : Hh} {M : Mm} {x : XD} {Q : KD}
theorem sz_le {n : Nat} (h : sz n = true) : n ≤ sizeLine := by
  rw [sizeLine_eq]
  exact Nat.le_of_ble_eq_true h
theorem newR_ok {fz : Bool} {xs ys : List D} (s : Sim qs B ρ H M) (r : Rns ρ xs ys) (h : Pst qs B Rn ρ (newR fz xs H) x Q) : newL fz ys M Q := by
  cases fz with
  | true => exact h.ok s (by simp only [Rn]; exact ⟨ys, rfl, r⟩)
  | false =>
    show ∀ p, M p = none → Q (.ref p) (mput M p (.lst ys))
    intro p hp
    exact h (ρ ++ [p]) _ _ Le.app (s.new_ hp ⟨ys, rfl, r.mono Le.app⟩) (by simp only [Rn]; exact ⟨p, rfl, by rw [s.n]; exact app_last⟩)
theorem newD_ok {kvs kws : List (Key × D)} (s : Sim qs B ρ H M) (r : RnK ρ kvs kws) (h : Pst qs B Rn ρ (.ok (.ref H.n) (H.new (.dct kvs))) x Q) : ∀ p, M p = none → Q (.ref p) (mput M p (.dct kws)) := fun p hp =>
  h (ρ ++ [p]) _ _ Le.app (s.new_ hp ⟨kws, rfl, r.mono Le.app⟩) (by simp only [Rn]; exact ⟨p, rfl, by rw [s.n]; exact app_last⟩)
theorem small_mul {i j : Int} (h : (smallI i && smallI j) = true) : CMulW i j := by
  unfold smallI at h
  simp only [Bool.and_eq_true, decide_eq_true_eq] at h
  unfold CMulW
  have h1 : i.natAbs.log2 ≤ i.natAbs := Nat.log2_le_self _
  have h2 : j.natAbs.log2 ≤ j.natAbs := Nat.log2_le_self _
  have l30 : ∀ n : Nat, n < 1073741824 → n.log2 < 40 := fun n hn => by
    by_cases z : n = 0
    · subst z; decide
    · exact (Nat.log2_lt z).mpr (Nat.lt_of_lt_of_le hn (by decide))
  have := l30 _ h.1
  have := l30 _ h.2
  omega
theorem small_div {j : Int} (h : (smallI j && decide (0 < j)) = true) : CDivW i j := by
  unfold smallI at h
  simp only [Bool.and_eq_true, decide_eq_true_eq] at h
  refine ⟨h.2, ?_⟩
  by_cases z : j.natAbs = 0
  · rw [z]; decide
  · exact (Nat.log2_lt z).mpr (Nat.lt_of_lt_of_le h.1 (Nat.pow_le_pow_right (n := 2) (by decide) (show 30 ≤ 9000 by decide)))
theorem iiR_ok {o : Operator} {i j : Int} (s : Sim qs B ρ H M) (h : Pst qs B Rn ρ (iiR o i j H) x Q) : opII o i j M Q := by
  cases o with
  | Sub => exact h.ok s (by simp only [Rn])
  | Mult =>
    obtain ⟨e, h⟩ := h.bR
    exact ⟨small_mul e, h.ok s (by simp only [Rn])⟩
  | FloorDiv =>
    obtain ⟨e, h⟩ := h.bR
    exact ⟨small_div e, h.ok s (by simp only [Rn])⟩
  | Mod =>
    obtain ⟨e, h⟩ := h.bR
    exact ⟨of_decide_eq_true e, h.ok s (by simp only [Rn])⟩
  | _ => exact (show False from h).elim
theorem addR_l {u v : D} (s : Sim qs B ρ H M) (h : Rn ρ u v) {xs : List D} (e : addR.lstOf' H.M u = some xs) : ∃ ys, catOf M v = some ys ∧ Rns ρ xs ys := by
  refine catOf_rn s h ?_
  cases u <;> simp_all [addR.lstOf', catOf]
theorem addR_ok {fz : Bool} {u v u' v' : D} (s : Sim qs B ρ H M) (ru : Rn ρ u u') (rv : Rn ρ v v') (h : Pst qs B Rn ρ (addR fz u v H) x Q) : opAdd fz u' v' M Q := by
  unfold addR at h
  split at h
  · simp only [Rn] at ru rv; subst ru; subst rv
    exact h.ok s (by simp only [Rn])
  · simp only [Rn] at ru rv
    obtain ⟨ys, rfl, ru⟩ := ru
    obtain ⟨zs, rfl, rv⟩ := rv
    obtain ⟨e, h⟩ := h.bR
    refine ⟨?_, h.ok s (by simp only [Rn]; exact ⟨_, rfl, ru.append rv⟩)⟩
    rw [ru.length, rv.length]; exact sz_le e
  · obtain ⟨a, e1, h⟩ := h.optR
    obtain ⟨b, e2, h⟩ := h.optR
    obtain ⟨e, h⟩ := h.bR
    obtain ⟨ys, f1, r1⟩ := addR_l s ru e1
    obtain ⟨zs, f2, r2⟩ := addR_l s rv e2
    have hn := newR_ok s (r1.append r2) h
    have hl : ys.length + zs.length ≤ sizeLine := by rw [r1.length, r2.length]; exact sz_le e
    unfold opAdd
    split
    · simp [catOf] at f1
    · simp [catOf] at f1
    · simp [catOf] at f1
    · rw [f1, f2]; exact ⟨hl, hn⟩
theorem binR_ok {o : Operator} {fz : Bool} {u v u' v' : D} (s : Sim qs B ρ H M) (ru : Rn ρ u u') (rv : Rn ρ v v') (h : Pst qs B Rn ρ (binR o fz u v H) x Q) : binD o fz u' v' M Q := by
  by_cases c : o = .Add
  · subst c; exact addR_ok s ru rv h
  · have e : binR o fz u v H = asIR u fun i => asIR v fun j => iiR o i j H := by cases o <;> first | rfl | exact absurd rfl c
    have e2 : binD o fz u' v' M Q = opI o u' v' M Q := by cases o <;> first | rfl | exact absurd rfl c
    rw [e] at h
    rw [e2]
    clear e e2
    obtain ⟨i, rfl, h1⟩ := h.asIR
    clear h
    obtain ⟨j, rfl, h2⟩ := h1.asIR
    simp only [Rn] at ru rv
    subst ru; subst rv
    exact iiR_ok s h2
theorem eqK_of {u v : D} {k : Bool → Prop} (h : eqP (now M u) (now M v) k) : eqK M u v k := by
  unfold eqK
  split
  · rename_i i j
    have h2 := h.2.2
    have e : (i == j) = decide (i = j) := by by_cases z : i = j <;> simp [z]
    rw [← e]
    simpa [now, D.py, PyData.eqv] using h2
  · rename_i i j
    have h2 := h.2.2
    have e : (i == j) = decide (i = j) := by by_cases z : i = j <;> simp [z]
    rw [← e]
    simpa [now, D.py, PyData.eqv] using h2
  · rename_i i j
    have h2 := h.2.2
    have e : (i == j) = decide (i = j) := by by_cases z : i = j <;> simp [z]
    rw [← e]
    simpa [now, D.py, PyData.eqv] using h2
  · exact h
theorem eqR_ok {u v u' v' : D} (s : Sim qs B ρ H M) (ru : Rn ρ u u') (rv : Rn ρ v v') {b : Bool} (h : eqR H.M u v = some b) {k : Bool → Prop} (hk : k b) : eqK M u' v' k := by
  unfold eqR at h
  split at h
  · cases h; simp only [Rn] at ru rv; subst ru; subst rv; exact hk
  · cases h; simp only [Rn] at ru rv; subst ru; subst rv; exact hk
  · cases h; simp only [Rn] at ru rv; subst ru; subst rv; exact hk
  · split at h
    · rename_i c
      cases h
      simp only [Bool.and_eq_true] at c
      have e1 := (now_rn s ru).plain (pok_plain c.1)
      have e2 := (now_rn s rv).plain (pok_plain c.2)
      refine eqK_of ?_
      rw [e1, e2]
      exact ⟨c.1, c.2, hk⟩
    · cases h
theorem flats_rn : ∀ {ds es : List D}, Rns ρ ds es → ds.all D.flat = true → es = ds
  | [], es, h, _ => h.nil_inv
  | d :: ds, es, h, k => by
    obtain ⟨v, r, rfl, h1, h2⟩ := h.cons_inv
    simp only [List.all_cons, Bool.and_eq_true] at k
    rw [h1.flat k.1, flats_rn h2 k.2]
theorem inK_ne {u v : D} {k : Bool → Prop} (hv : ∀ b, v ≠ .str b) (h : match dctOf M v, TL.keyOf u with
    | some kvs, some q => k (kget kvs q).isSome
    | some _, none => False
    | none, _ => match seqOf M v with
      | some xs => u.flat = true ∧ xs.all D.flat = true ∧ k (xs.any fun z => flatEq z u)
      | none => False) : inK M u v k := by
  unfold inK
  split
  · exact absurd rfl (hv _)
  · exact h
theorem inR_ok {u v u' v' : D} (s : Sim qs B ρ H M) (ru : Rn ρ u u') (rv : Rn ρ v v') {b : Bool} (h : inR H.M u v = some b) {k : Bool → Prop} (hk : k b) : inK M u' v' k := by
  unfold inR at h
  split at h
  · cases h
  · rename_i hv
    refine inK_ne ?_ ?_
    · intro z e
      subst e
      cases v with
      | str b => exact hv _ rfl
      | tup _ => simp [Rn] at rv
      | lst _ => simp [Rn] at rv
      | klst _ => simp [Rn] at rv
      | ref _ => simp [Rn] at rv
      | exc _ _ => simp [Rn] at rv
      | _ => simp [Rn] at rv
    · obtain ⟨d1, d2⟩ := dctOf_rn s rv
      split at h
      · rename_i kvs q e1 e2
        obtain ⟨kws, f1, f2⟩ := d1 _ e1
        rw [f1, keyOf_rn ru, e2]
        cases h
        have g := f2.get q
        show k (kget kws q).isSome
        cases e : kget kvs q with
        | none => rw [g.2 e]; rw [e] at hk; exact hk
        | some d =>
          obtain ⟨d', e', _⟩ := g.1 d e
          rw [e']; rw [e] at hk; exact hk
      · cases h
      · rename_i e1
        rw [d2 e1]
        split at h
        · rename_i xs e2
          split at h
          · rename_i c
            cases h
            simp only [Bool.and_eq_true] at c
            obtain ⟨ys, f1, f2⟩ := seqOf_rn s rv e2
            show (match seqOf M v' with
              | some xs => u'.flat = true ∧ xs.all D.flat = true ∧ k (xs.any fun z => flatEq z u')
              | none => False)
            rw [f1, flats_rn f2 c.2, ru.flat c.1]
            exact ⟨c.1, c.2, hk⟩
          · cases h
        · cases h
theorem isR_ok {u v u' v' : D} (ru : Rn ρ u u') (rv : Rn ρ v v') {b : Bool} (h : isR u v = some b) {k : Bool → Prop} (hk : k b) : cmpK .Is M u' v' k := by
  unfold isR at h
  split at h
  · cases h; simp only [Rn] at ru rv; subst ru; subst rv; exact hk
  · cases h; simp only [Rn] at ru rv; subst ru; subst rv; exact hk
  · cases h
  · rename_i h1 h2
    cases h
    simp only [Rn] at rv
    subst rv
    cases u with
    | non => exact absurd rfl h1
    | glb x => exact absurd rfl (h2 x)
    | tup _ => simp only [Rn] at ru; obtain ⟨_, rfl, _⟩ := ru; exact hk
    | lst _ => simp only [Rn] at ru; obtain ⟨_, rfl, _⟩ := ru; exact hk
    | klst _ => simp only [Rn] at ru; obtain ⟨_, rfl, _⟩ := ru; exact hk
    | ref _ => simp only [Rn] at ru; obtain ⟨_, rfl, _⟩ := ru; exact hk
    | exc _ _ => simp only [Rn] at ru; obtain ⟨_, rfl, _⟩ := ru; exact hk
    | _ => simp only [Rn] at ru; subst ru; exact hk
  · cases h
theorem isNot_of {u v : D} {k : Bool → Prop} (h : cmpK .Is M u v fun b => k (!b)) : cmpK .IsNot M u v k := by
  unfold cmpK at h ⊢
  simp only at h ⊢
  split at h <;> first | exact h | exact h.elim | (split <;> first | exact h | (exfalso; simp_all; done) | skip)
theorem intR_ok {u v u' v' : D} (ru : Rn ρ u u') (rv : Rn ρ v v') {f : Int → Int → Bool} {b : Bool} (h : intR u v f = some b) {k : Bool → Prop} (hk : k b) : u'.asI fun i => v'.asI fun j => k (f i j) := by
  unfold intR at h
  split at h
  · cases h; simp only [Rn] at ru rv; subst ru; subst rv; exact hk
  · cases h
theorem cmpR_ok {o : CmpOp} {u v u' v' : D} (s : Sim qs B ρ H M) (ru : Rn ρ u u') (rv : Rn ρ v v') {b : Bool} (h : cmpR o H.M u v = some b) {k : Bool → Prop} (hk : k b) : cmpK o M u' v' k := by
  have neg : ∀ {o : Option Bool}, (o.map (!·)) = some b → ∃ c, o = some c ∧ b = !c := fun {o} e => by
    cases o with
    | none => cases e
    | some c => cases e; exact ⟨c, rfl, rfl⟩
  cases o with
  | Eq => exact eqR_ok s ru rv h hk
  | NotEq =>
    obtain ⟨c, h2, rfl⟩ := neg h
    exact eqR_ok s ru rv h2 (k := fun b => k (!b)) hk
  | Lt => exact intR_ok ru rv h hk
  | LtE => exact intR_ok ru rv h hk
  | Gt => exact intR_ok ru rv h hk
  | GtE => exact intR_ok ru rv h hk
  | Is => exact isR_ok ru rv h hk
  | IsNot =>
    obtain ⟨c, h2, rfl⟩ := neg h
    exact isNot_of (isR_ok ru rv h2 (k := fun b => k (!b)) hk)
  | In => exact inR_ok s ru rv h hk
  | NotIn =>
    obtain ⟨c, h2, rfl⟩ := neg h
    exact inR_ok s ru rv h2 (k := fun b => k (!b)) hk
theorem ixK_ne {u v : D} {k : D → Prop} (hu : ∀ z, u ≠ .str z) (h : match dctOf M u, TL.keyOf v with
    | some kvs, some q => optK (kget kvs q) k
    | some _, none => False
    | none, _ => match seqOf M u, v with
      | some xs, .int i => optK (atI xs i) k
      | _, _ => False) : ixK M u v k := by
  unfold ixK
  split
  · exact absurd rfl (hu _)
  · exact h
theorem ixR_ok {u v u' v' : D} (s : Sim qs B ρ H M) (ru : Rn ρ u u') (rv : Rn ρ v v') {d : D} (h : ixR H.M u v = some d) {k : D → Prop} (hk : ∀ d', Rn ρ d d' → k d') : ixK M u' v' k := by
  unfold ixR at h
  split at h
  · cases h
  · rename_i hu
    refine ixK_ne ?_ ?_
    · intro z e
      subst e
      cases u with
      | str b => exact hu _ rfl
      | _ => simp [Rn] at ru
    · obtain ⟨d1, d2⟩ := dctOf_rn s ru
      split at h
      · rename_i kvs q e1 e2
        obtain ⟨kws, f1, f2⟩ := d1 _ e1
        rw [f1, keyOf_rn rv, e2]
        obtain ⟨d', e', r'⟩ := (f2.get q).1 d h
        show optK (kget kws q) k
        rw [e']; exact hk d' r'
      · cases h
      · rename_i e1
        rw [d2 e1]
        split at h
        · rename_i xs i e2
          obtain ⟨ys, f1, f2⟩ := seqOf_rn s ru e2
          simp only [Rn] at rv
          subst rv
          obtain ⟨d', e', r'⟩ := f2.at_ h
          show (match seqOf M u', D.int i with
            | some xs, .int i => optK (atI xs i) k
            | _, _ => False)
          rw [f1]
          show optK (atI ys i) k
          rw [e']; exact hk d' r'
        · cases h
theorem slK_ne {fz : Bool} {u : D} {lo hi : Option Int} (h1 : ∀ z, u ≠ .str z) (h2 : ∀ xs, u ≠ .tup xs) {ys : List D} (e : lstOf M u = some ys) (h : newL fz (cutD ys lo hi) M Q) : slK fz M u lo hi Q := by
  unfold slK
  split
  · exact absurd rfl (h1 _)
  · exact absurd rfl (h2 _)
  · rw [e]; exact h
theorem slR_ok {fz : Bool} {u u' : D} {lo hi : Option Int} (s : Sim qs B ρ H M) (ru : Rn ρ u u') (h : Pst qs B Rn ρ (slR fz u lo hi H) x Q) : slK fz M u' lo hi Q := by
  unfold slR at h
  split at h
  · exact h.elim
  · simp only [Rn] at ru
    obtain ⟨ys, rfl, ru⟩ := ru
    exact h.ok s (by simp only [Rn]; exact ⟨_, rfl, ru.cut lo hi⟩)
  · obtain ⟨xs, e, h⟩ := h.optR
    obtain ⟨ys, f1, f2⟩ := lstOf_rn s ru e
    refine slK_ne (fun z q => ?_) (fun z q => ?_) f1 (newR_ok s (f2.cut lo hi) h)
    · subst q; cases f1
    · subst q; cases f1
theorem optIR_ok {α β : Type} {R : List Addr → α → β → Prop} {o o' : Option D} (r : (o = none ∧ o' = none) ∨ ∃ d d', o = some d ∧ o' = some d' ∧ Rn ρ d d') {f : Option Int → Rs α} {Q : β → Mm → Prop} (h : Pst qs B R ρ (optIR o f) x Q) {k : Option Int → Prop}
    (hk : ∀ i, Pst qs B R ρ (f i) x Q → k i) : optI o' k := by
  rcases r with ⟨rfl, rfl⟩ | ⟨d, d', rfl, rfl, r⟩
  · exact hk none h
  · cases d with
    | int i => simp only [Rn] at r; subst r; exact hk (some i) h
    | _ => exact (show False from h).elim
theorem lenD_ne {u : D} (h1 : ∀ z, u ≠ .str z) (h : match dctOf M u with
    | some kvs => Q (.int kvs.length) M
    | none => someK (seqOf M u) fun xs => Q (.int xs.length) M) : lenD u M Q := by
  unfold lenD
  split
  · exact absurd rfl (h1 _)
  · exact h
theorem biR_ok {f : BI} {fz : Bool} {ds es : List D} (s : Sim qs B ρ H M) (r : Rns ρ ds es) (h : Pst qs B Rn ρ (biR f fz ds H) x Q) : biD f fz es M Q := by
  unfold biR at h
  split at h
  · obtain ⟨v, _, rfl, h1, h2⟩ := r.cons_inv
    cases h2.nil_inv
    simp only [Rn] at h1; subst h1
    exact h.ok s (by simp only [Rn])
  · rename_i u hu
    obtain ⟨v, _, rfl, h1, h2⟩ := r.cons_inv
    cases h2.nil_inv
    refine lenD_ne ?_ ?_
    · intro z e
      subst e
      cases u with
      | str b => exact hu _ rfl
      | _ => simp [Rn] at h1
    · obtain ⟨d1, d2⟩ := dctOf_rn s h1
      split at h
      · rename_i kvs e1
        obtain ⟨kws, f1, f2⟩ := d1 _ e1
        rw [f1]
        show Q (.int kws.length) M
        rw [f2.length]
        exact h.ok s (by simp only [Rn])
      · rename_i e1
        rw [d2 e1]
        obtain ⟨xs, e2, h⟩ := h.optR
        obtain ⟨ys, f1, f2⟩ := seqOf_rn s h1 e2
        show someK (seqOf M v) fun xs => Q (.int xs.length) M
        rw [f1]
        show Q (.int ys.length) M
        rw [f2.length]
        exact h.ok s (by simp only [Rn])
  · obtain ⟨v, _, rfl, h1, h2⟩ := r.cons_inv
    cases h2.nil_inv
    simp only [Rn] at h1; subst h1
    exact h.ok s (by simp only [Rn])
  · obtain ⟨v, _, rfl, h1, h2⟩ := r.cons_inv
    cases h2.nil_inv
    simp only [Rn] at h1; subst h1
    exact h.ok s (by simp only [Rn])
  · obtain ⟨v, _, rfl, h1, h2⟩ := r.cons_inv
    cases h2.nil_inv
    simp only [Rn] at h1; subst h1
    exact h.ok s (by simp only [Rn])
  · obtain ⟨v, _, rfl, h1, h2⟩ := r.cons_inv
    cases h2.nil_inv
    obtain ⟨xs, e2, h⟩ := h.optR
    obtain ⟨ys, f1, f2⟩ := seqOf_rn s h1 e2
    show someK (seqOf M v) fun xs => Q (.tup xs) M
    rw [f1]
    exact h.ok s (by simp only [Rn]; exact ⟨_, rfl, f2⟩)
  · obtain ⟨v, _, rfl, h1, h2⟩ := r.cons_inv
    cases h2.nil_inv
    obtain ⟨xs, e2, h⟩ := h.optR
    obtain ⟨ys, f1, f2⟩ := seqOf_rn s h1 e2
    show someK (seqOf M v) fun xs => newL fz xs M Q
    rw [f1]
    exact newR_ok s f2 h
  · obtain ⟨v, _, rfl, h1, h2⟩ := r.cons_inv
    cases h2.nil_inv
    obtain ⟨xs, e2, h⟩ := h.optR
    obtain ⟨ns, e3, h⟩ := h.optR
    obtain ⟨ys, f1, f2⟩ := lstOf_rn s h1 e2
    show someK (lstOf M v) fun xs => someK (intsOf xs) fun ns => Q (.int ns.sum) M
    rw [f1]
    show someK (intsOf ys) fun ns => Q (.int ns.sum) M
    rw [ints_rn f2 e3]
    exact h.ok s (by simp only [Rn])
  · obtain ⟨v, _, rfl, h1, h2⟩ := r.cons_inv
    cases h2.nil_inv
    obtain ⟨xs, e2, h⟩ := h.optR
    obtain ⟨ns, e3, h⟩ := h.optR
    obtain ⟨ys, f1, f2⟩ := lstOf_rn s h1 e2
    show someK (lstOf M v) fun xs => someK (boolsOf xs) fun bs => Q (.bl (bs.all id)) M
    rw [f1]
    show someK (boolsOf ys) fun bs => Q (.bl (bs.all id)) M
    rw [bools_rn f2 e3]
    exact h.ok s (by simp only [Rn])
  · obtain ⟨v, _, rfl, h1, h2⟩ := r.cons_inv
    cases h2.nil_inv
    obtain ⟨xs, e2, h⟩ := h.optR
    obtain ⟨ns, e3, h⟩ := h.optR
    obtain ⟨ys, f1, f2⟩ := lstOf_rn s h1 e2
    show someK (lstOf M v) fun xs => someK (boolsOf xs) fun bs => Q (.bl (bs.any id)) M
    rw [f1]
    show someK (boolsOf ys) fun bs => Q (.bl (bs.any id)) M
    rw [bools_rn f2 e3]
    exact h.ok s (by simp only [Rn])
  · obtain ⟨v, _, rfl, h1, h2⟩ := r.cons_inv
    obtain ⟨w, _, rfl, h3, h4⟩ := h2.cons_inv
    cases h4.nil_inv
    simp only [Rn] at h1 h3; subst h1; subst h3
    exact h.ok s (by simp only [Rn])
  · obtain ⟨v, _, rfl, h1, h2⟩ := r.cons_inv
    obtain ⟨w, _, rfl, h3, h4⟩ := h2.cons_inv
    cases h4.nil_inv
    simp only [Rn] at h1 h3; subst h1; subst h3
    exact h.ok s (by simp only [Rn])
  · obtain ⟨v, _, rfl, h1, h2⟩ := r.cons_inv
    cases h2.nil_inv
    obtain ⟨d1, d2⟩ := dctOf_rn s h1
    show sortedD fz v M Q
    unfold sortedD
    split at h
    · rename_i kvs e1
      obtain ⟨kws, f1, f2⟩ := d1 _ e1
      obtain ⟨ns, e3, h⟩ := h.optR
      obtain ⟨e4, h⟩ := h.bR
      rw [f1]
      show someK (keysI kws) fun ns => ns.length < 64 ∧ newL fz ((sortI ns).map .int) M Q
      rw [keysI_rn f2 e3]
      exact ⟨of_decide_eq_true e4, newR_ok s (Rn.ints _) h⟩
    · rename_i e1
      rw [d2 e1]
      obtain ⟨xs, e2, h⟩ := h.optR
      obtain ⟨ns, e3, h⟩ := h.optR
      obtain ⟨ys, f1, f2⟩ := lstOf_rn s h1 e2
      show someK (lstOf M v) fun xs => someK (intsOf xs) fun ns => newL fz ((sortI ns).map .int) M Q
      rw [f1]
      show someK (intsOf ys) fun ns => newL fz ((sortI ns).map .int) M Q
      rw [ints_rn f2 e3]
      exact newR_ok s (Rn.ints _) h
  · obtain ⟨v, _, rfl, h1, h2⟩ := r.cons_inv
    cases h2.nil_inv
    obtain ⟨e, h⟩ := h.bR
    simp only [Bool.and_eq_true] at e
    have e1 := (now_rn s h1).plain (pok_plain e.1.1)
    show reprD v M Q
    unfold reprD
    rw [e1]
    exact ⟨e.1.1, e.1.2, sz_le e.2, h.ok s (by simp only [Rn])⟩
  · obtain ⟨v, _, rfl, h1, h2⟩ := r.cons_inv
    cases h2.nil_inv
    obtain ⟨xs, e, h⟩ := h.optR
    obtain ⟨kvs, e1, h⟩ := h.optR
    obtain ⟨e2, h⟩ := h.bR
    obtain ⟨ys, f1, f2⟩ := lstOf_rn s h1 e
    obtain ⟨kws, f3, f4⟩ := flatPairs_rn f2 e1
    show dictD v M Q
    unfold dictD
    rw [f1]
    show someK (flatPairs ys) _
    rw [f3]
    exact ⟨by rw [f4.length]; exact Nat.le_of_ble_eq_true e2, newD_ok s (f4.merge (kvs := []) (kvs' := []) rfl) h⟩
  · exact h.elim
theorem mlstR_ok {α β : Type} {R : List Addr → α → β → Prop} {u u' : D} (s : Sim qs B ρ H M) (ru : Rn ρ u u') {f : Nat → List D → Rs α} {Q : β → Mm → Prop} (h : Pst qs B R ρ (mlstR H.M u f) x Q) {k : Addr → List D → Prop}
    (hk : ∀ i p xs ys, ρ[i]? = some p → Rns ρ xs ys → Pst qs B R ρ (f i xs) x Q → k p ys) : mlst M u' k := by
  cases u with
  | ref i =>
    simp only [Rn] at ru
    obtain ⟨p, rfl, e⟩ := ru
    unfold mlstR at h
    simp only at h
    split at h
    · rename_i xs e1
      obtain ⟨o', h1, h2⟩ := s.get e e1
      obtain ⟨ys, rfl, h3⟩ := h2
      show (match M p with | some (.lst xs) => k p xs | _ => False)
      rw [h1]
      exact hk i p xs ys e h3 h
    · exact h.elim
  | _ => exact (show False from h).elim
theorem mdctR_ok {α β : Type} {R : List Addr → α → β → Prop} {u u' : D} (s : Sim qs B ρ H M) (ru : Rn ρ u u') {f : Nat → List (Key × D) → Rs α} {Q : β → Mm → Prop} (h : Pst qs B R ρ (mdctR H.M u f) x Q) {k : Addr → List (Key × D) → Prop}
    (hk : ∀ i p xs ys, ρ[i]? = some p → RnK ρ xs ys → Pst qs B R ρ (f i xs) x Q → k p ys) : mdct M u' k := by
  cases u with
  | ref i =>
    simp only [Rn] at ru
    obtain ⟨p, rfl, e⟩ := ru
    unfold mdctR at h
    simp only at h
    split at h
    · rename_i xs e1
      obtain ⟨o', h1, h2⟩ := s.get e e1
      obtain ⟨ys, rfl, h3⟩ := h2
      show (match M p with | some (.dct xs) => k p xs | _ => False)
      rw [h1]
      exact hk i p xs ys e h3 h
    · exact h.elim
  | _ => exact (show False from h).elim
theorem insR_ok {α β : Type} {R : List Addr → α → β → Prop} {u u' : D} {C : Str} (s : Sim qs B ρ H M) (ru : Rn ρ u u') {f : Nat → List (Str × D) → Rs α} {Q : β → Mm → Prop} (h : Pst qs B R ρ (insR H.M u C f) x Q) {k : Addr → List (Str × D) → Prop}
    (hk : ∀ i p xs ys, ρ[i]? = some p → RnK ρ xs ys → Pst qs B R ρ (f i xs) x Q → k p ys) : insK M u' C k := by
  cases u with
  | ref i =>
    simp only [Rn] at ru
    obtain ⟨p, rfl, e⟩ := ru
    unfold insR at h
    simp only at h
    split at h
    · rename_i c xs e1
      split at h
      · rename_i c1
        have c2 := of_decide_eq_true c1
        obtain ⟨o', h1, h2⟩ := s.get e e1
        obtain ⟨ys, rfl, h3⟩ := h2
        show (match M p with | some (.ins c fs) => c = C ∧ k p fs | _ => False)
        rw [h1]
        exact ⟨c2, hk i p xs ys e h3 h⟩
      · exact h.elim
    · exact h.elim
  | _ => exact (show False from h).elim
theorem sl_dec {n : Nat} (h : decide (n < 16777216) = true) : n < sizeLine := by
  rw [sizeLine_eq]; exact of_decide_eq_true h
theorem bmR_ok {ty : Ty} {m : BM} {fz : Bool} {u u' : D} {ds es : List D} (s : Sim qs B ρ H M) (ru : Rn ρ u u') (r : Rns ρ ds es) (h : Pst qs B Rn ρ (bmR ty m u ds H) x Q) : bmD ty m fz u' es M Q := by
  unfold bmR at h
  split at h
  · obtain ⟨v, _, rfl, h1, h2⟩ := r.cons_inv
    cases h2.nil_inv
    refine mlstR_ok s ru h fun i p xs ys ep rx h => ?_
    obtain ⟨e, h⟩ := h.bR
    refine ⟨by rw [rx.length]; exact sl_dec e, h.ok (s.put ep ⟨_, rfl, rx.append (Rns.one h1)⟩) (by simp only [Rn])⟩
  · obtain ⟨v, _, rfl, h1, h2⟩ := r.cons_inv
    cases h2.nil_inv
    refine mlstR_ok s ru h fun i p xs ys ep rx h => ?_
    obtain ⟨zs, e1, h⟩ := h.optR
    obtain ⟨e, h⟩ := h.bR
    obtain ⟨ws, f1, f2⟩ := catT_rn s h1 e1
    show someK (catT M v) fun zs => ys.length + zs.length ≤ sizeLine ∧ Q .non (mput M p (.lst (ys ++ zs)))
    rw [f1]
    exact ⟨by rw [rx.length, f2.length]; exact sz_le e, h.ok (s.put ep ⟨_, rfl, rx.append f2⟩) (by simp only [Rn])⟩
  · obtain ⟨v, _, rfl, h1, h2⟩ := r.cons_inv
    obtain ⟨w, _, rfl, h3, h4⟩ := h2.cons_inv
    cases h4.nil_inv
    obtain ⟨kvs, e1, h⟩ := h.optR
    obtain ⟨q, e2, h⟩ := h.optR
    obtain ⟨kws, f1, f2⟩ := (dctOf_rn s ru).1 _ e1
    show someK (dctOf M u') fun kvs => someK (TL.keyOf v) fun q => Q ((kget kvs q).getD w) M
    rw [f1]
    show someK (TL.keyOf v) fun q => Q ((kget kws q).getD w) M
    rw [keyOf_rn h1, e2]
    refine h.ok s ?_
    cases e : kget kvs q with
    | none => rw [(f2.get q).2 e]; exact h3
    | some d =>
      obtain ⟨d', e', r'⟩ := (f2.get q).1 d e
      rw [e']; exact r'
  · obtain ⟨v, _, rfl, h1, h2⟩ := r.cons_inv
    cases h2.nil_inv
    refine mdctR_ok s ru h fun i p kvs kvs' ep rk h => ?_
    obtain ⟨xs, e, h⟩ := h.optR
    obtain ⟨kws, e1, h⟩ := h.optR
    obtain ⟨e2, h⟩ := h.bR
    obtain ⟨ys, f1, f2⟩ := lstOf_rn s h1 e
    obtain ⟨kws', f3, f4⟩ := flatPairs_rn f2 e1
    rw [f1]
    show someK (flatPairs ys) _
    rw [f3]
    exact ⟨by rw [f4.length, rk.length]; exact Nat.le_of_ble_eq_true e2, h.ok (s.put ep (show RnO ρ (.dct (kmerge kvs kws)) (.dct (kmerge kvs' kws')) from ⟨_, rfl, f4.merge rk⟩)) (by simp only [Rn])⟩
  · exact h.elim
theorem isiR_ok {u u' : D} {T : Str} {cs : List Str} (s : Sim qs B ρ H M) (ru : Rn ρ u u') {b : Bool} (h : isiR H.M u T cs = some b) {k : Bool → Prop} (hk : k b) : isiK M u' T cs k := by
  cases u with
  | ref i =>
    simp only [Rn] at ru
    obtain ⟨p, rfl, e⟩ := ru
    obtain ⟨o, o', h1, h2, h3⟩ := s.at_ _ _ e
    simp only [isiR, Hh.M, h1] at h
    show (match M p with
      | some (.lst _) => k (isiB T "list")
      | some (.dct _) => k (isiB T "dict")
      | some (.ins c _) => c ∈ cs ∧ k (decide (c = T))
      | _ => False)
    rw [h2]
    cases o with
    | lst xs => obtain ⟨ys, rfl, _⟩ := h3; cases h; exact hk
    | dct xs => obtain ⟨ys, rfl, _⟩ := h3; cases h; exact hk
    | ins C xs =>
      obtain ⟨ys, rfl, _⟩ := h3
      simp only at h
      split at h
      · rename_i c
        cases h
        exact ⟨of_decide_eq_true c, hk⟩
      · cases h
    | tab q => exact h3.elim
  | tup _ => simp only [Rn] at ru; obtain ⟨_, rfl, _⟩ := ru; cases h; exact hk
  | lst _ => simp only [Rn] at ru; obtain ⟨_, rfl, _⟩ := ru; cases h; exact hk
  | klst _ => simp only [Rn] at ru; obtain ⟨_, rfl, _⟩ := ru; cases h; exact hk
  | exc _ _ => cases h
  | glb _ => cases h
  | flt _ => cases h
  | _ => simp only [Rn] at ru; subst ru; cases h; exact hk
theorem iseR_ok {u u' : D} {T : Str} {cs : List Str} (ru : Rn ρ u u') {b : Bool} (h : iseR u T cs = some b) {k : Bool → Prop} (hk : k b) : iseK u' T cs k := by
  cases u with
  | non => simp only [Rn] at ru; subst ru; cases h; exact hk
  | exc C d =>
    simp only [Rn] at ru; obtain ⟨_, rfl, _⟩ := ru
    simp only [iseR] at h
    split at h
    · rename_i c
      cases h
      exact ⟨of_decide_eq_true c, hk⟩
    · cases h
  | _ => cases h
theorem xvR_ok {u u' : D} {cs : List Str} (ru : Rn ρ u u') {d : D} (h : xvR u cs = some d) {k : D → Prop} (hk : ∀ d', Rn ρ d d' → k d') : xvalK u' cs k := by
  cases u with
  | exc C d =>
    simp only [Rn] at ru; obtain ⟨_, rfl, r⟩ := ru
    simp only [xvR] at h
    split at h
    · rename_i c
      cases h
      exact ⟨of_decide_eq_true c, hk _ r⟩
    · cases h
  | _ => cases h
theorem setR_ok {α β : Type} {R : List Addr → α → β → Prop} {u i d u' i' d' : D} (s : Sim qs B ρ H M) (ru : Rn ρ u u') (ri : Rn ρ i i') (rd : Rn ρ d d') {f : Unit → Hh → Rs α} {Q : β → Mm → Prop} (h : Pst qs B R ρ ((setR u i d H).bind f) x Q) {k : Mm → Prop}
    (hk : ∀ H1 M1, Sim qs B ρ H1 M1 → Pst qs B R ρ (f () H1) x Q → k M1) : setK M u' i' d' k := by
  cases u with
  | ref j =>
    simp only [Rn] at ru
    obtain ⟨p, rfl, e⟩ := ru
    obtain ⟨o, o', h1, h2, h3⟩ := s.at_ _ _ e
    simp only [setR, Hh.M, h1] at h
    show (match M p with
      | some (.lst xs) => i'.asI fun j => someK (ixN xs.length j) fun n => k (mput M p (.lst (xs.set n d')))
      | some (.dct kvs) => someK (TL.keyOf i') fun q => kvs.length < sizeLine ∧ k (mput M p (.dct (kput kvs q d')))
      | _ => False)
    rw [h2]
    cases o with
    | lst xs =>
      obtain ⟨ys, rfl, h3⟩ := h3
      simp only at h
      cases i with
      | int z =>
        simp only [Rn] at ri; subst ri
        show someK (ixN ys.length z) fun n => k (mput M p (.lst (ys.set n d')))
        rw [h3.length]
        simp only [asIR] at h
        cases e2 : ixN xs.length z with
        | none => rw [e2] at h; exact (show False from h).elim
        | some n =>
          rw [e2] at h
          exact hk _ _ (s.put e (show RnO ρ (.lst (xs.set n d)) (.lst (ys.set n d')) from ⟨_, rfl, h3.set rd n⟩)) h
      | _ => exact (show False from h).elim
    | dct xs =>
      obtain ⟨ys, rfl, h3⟩ := h3
      simp only at h
      show someK (TL.keyOf i') fun q => ys.length < sizeLine ∧ k (mput M p (.dct (kput ys q d')))
      rw [keyOf_rn ri]
      cases e2 : TL.keyOf i with
      | none => rw [e2] at h; exact (show False from h).elim
      | some q =>
        rw [e2] at h
        simp only [optR] at h
        cases e3 : decide (xs.length < 16777216) with
        | false => rw [e3] at h; exact (show False from h).elim
        | true =>
          rw [e3] at h
          exact ⟨by rw [h3.length]; exact sl_dec e3, hk _ _ (s.put e (show RnO ρ (.dct (kput xs q d)) (.dct (kput ys q d')) from ⟨_, rfl, h3.put rd⟩)) h⟩
    | ins C xs => exact (show False from h).elim
    | tab q => exact h3.elim
  | _ => exact (show False from h).elim
/-! names -/
def RvE (ρ : List Addr) (env env' : En) : Prop := env'.length = env.length ∧ ∀ (i : Nat) (d : D), env[i]? = some (some d) → ∃ d', env'[i]? = some (some d') ∧ Rn ρ d d'
theorem RvE.mono {env env' : En} (h : RvE ρ env env') (le : Le ρ ρ1) : RvE ρ1 env env' := ⟨h.1, fun i d e => let ⟨d', h1, h2⟩ := h.2 i d e; ⟨d', h1, h2.mono le⟩⟩
theorem RvE.set {env env' : En} {d d' : D} (h : RvE ρ env env') (i : Nat) (r : Rn ρ d d') : RvE ρ (env.set i (some d)) (env'.set i (some d')) := by
  refine ⟨by simpa using h.1, fun j x q => ?_⟩
  by_cases e : i = j
  · subst e
    have hi : i < env.length := by
      by_cases hi : i < env.length
      · exact hi
      · rw [List.getElem?_eq_none (by simpa using hi)] at q; cases q
    rw [List.getElem?_set_self hi] at q; cases q
    exact ⟨d', by rw [List.getElem?_set_self (by rw [h.1]; exact hi)], r⟩
  · rw [List.getElem?_set_ne e] at q
    obtain ⟨u, h1, h2⟩ := h.2 j x q
    exact ⟨u, by rw [List.getElem?_set_ne e]; exact h1, h2⟩
theorem RvE.wipe {env env' : En} (h : RvE ρ env env') : ∀ is : List Nat, RvE ρ (wipeE env is) (wipeE env' is)
  | [] => h
  | i :: is => by
    have ih := RvE.wipe h is
    unfold wipeE
    refine ⟨by simpa using ih.1, fun j x q => ?_⟩
    by_cases e : i = j
    · subst e
      by_cases hi : i < (wipeE env is).length
      · rw [List.getElem?_set_self hi] at q; cases q
      · rw [List.getElem?_eq_none (by simpa using hi)] at q; cases q
    · rw [List.getElem?_set_ne e] at q
      obtain ⟨u, h1, h2⟩ := ih.2 j x q
      exact ⟨u, by rw [List.getElem?_set_ne e]; exact h1, h2⟩
theorem RvE.par {is : List Nat} : ∀ {ds ds' : List D} {env env' : En}, Rns ρ ds ds' → RvE ρ env env' → RvE ρ (parE is ds env) (parE is ds' env') := by
  induction is with
  | nil => intro ds ds' env env' _ h; simpa [parE] using h
  | cons i is ih =>
    intro ds ds' env env' r h
    cases ds with
    | nil => cases r.nil_inv; simpa [parE] using h
    | cons d ds =>
      obtain ⟨v, q, rfl, h1, h2⟩ := r.cons_inv
      have := ih h2 (h.set i h1)
      simpa [parE] using this
theorem RvE.start {n : Nat} {ds ds' : List D} (r : Rns ρ ds ds') : RvE ρ (startE n ds) (startE n ds') := by
  have hl := r.length
  refine ⟨by unfold startE; simp [hl], fun i d e => ?_⟩
  have hi : i < ds.length := by
    unfold startE at e
    by_cases hi : i < ds.length
    · exact hi
    · rw [List.getElem?_append_right (by simpa using hi), List.getElem?_replicate] at e
      split at e <;> cases e
  have e2 : ds[i]? = some d := by
    unfold startE at e
    rw [List.getElem?_append_left (by simpa using hi), List.getElem?_map] at e
    cases q : ds[i]? with
    | none => rw [q] at e; cases e
    | some x => rw [q] at e; cases e; rfl
  obtain ⟨v, h1, h2⟩ := r.get e2
  refine ⟨v, ?_, h2⟩
  unfold startE
  rw [List.getElem?_append_left (by simp; omega), List.getElem?_map, h1]; rfl
mutual
theorem putR_ok : ∀ {t : Tg} {d d' : D} {env env' env1 : En}, Rn ρ d d' → RvE ρ env env' → putR t d env = some env1 → ∃ env1', RvE ρ env1 env1' ∧ ∀ (M : Mm) (k : En → Prop), k env1' → putT t d' env' M k
  | .nm i, d, d', env, env', env1, r, h, e => by
    simp only [putR, Option.some.injEq] at e
    subst e
    exact ⟨_, h.set i r, fun M k hk => by simpa only [putT] using hk⟩
  | .tp ts, d, d', env, env', env1, r, h, e => by
    simp only [putR] at e
    split at e
    · rename_i xs
      simp only [Rn] at r
      obtain ⟨ys, rfl, r⟩ := r
      obtain ⟨e1, h1, h2⟩ := putRs_ok r h e
      exact ⟨e1, h1, fun M k hk => by
        unfold putT
        exact h2 M k hk⟩
    · cases e
theorem putRs_ok : ∀ {ts : List Tg} {ds ds' : List D} {env env' env1 : En}, Rns ρ ds ds' → RvE ρ env env' → putRs ts ds env = some env1 → ∃ env1', RvE ρ env1 env1' ∧ ∀ (M : Mm) (k : En → Prop), k env1' → putTs ts ds' env' M k
  | [], [], ds', env, env', env1, r, h, e => by
    simp only [putRs, Option.some.injEq] at e
    subst e
    cases r.nil_inv
    exact ⟨env', h, fun M k hk => by simpa only [putTs] using hk⟩
  | t :: ts, d :: ds, ds', env, env', env1, r, h, e => by
    obtain ⟨v, q, rfl, h1, h2⟩ := r.cons_inv
    simp only [putRs] at e
    split at e
    · rename_i env2 e2
      obtain ⟨env2', g1, g2⟩ := putR_ok h1 h e2
      obtain ⟨env3', g3, g4⟩ := putRs_ok h2 g1 e
      exact ⟨env3', g3, fun M k hk => by
        simp only [putTs]
        exact g2 M _ (g4 M k hk)⟩
    · cases e
  | [], _ :: _, ds', env, env', env1, r, h, e => by simp [putRs] at e
  | _ :: _, [], ds', env, env', env1, r, h, e => by simp [putRs] at e
end
end
end TL

set_option Elab.async false
set_option linter.all false
set_option maxRecDepth 100000
set_option maxHeartbeats 4000000
/-! What is run is what the small language asks. -/
namespace TL
open PySem PySem.Spec PyProof.Rows L2

mutual
/-- the same text, its defs' promises by name -/
def setE (κ : Str → Str → Contract) : E → E
  | .v i => .v i
  | .c d => .c d
  | .g x d => .g x d
  | .bin o fz a b => .bin o fz (setE κ a) (setE κ b)
  | .neg a => .neg (setE κ a)
  | .not a => .not (setE κ a)
  | .cmp o a b => .cmp o (setE κ a) (setE κ b)
  | .chn o p a b c => .chn o p (setE κ a) (setE κ b) (setE κ c)
  | .and es => .and (setEs κ es)
  | .or es => .or (setEs κ es)
  | .ite t a b => .ite (setE κ t) (setE κ a) (setE κ b)
  | .tup es => .tup (setEs κ es)
  | .lst fz es => .lst fz (setEs κ es)
  | .ix a i => .ix (setE κ a) (setE κ i)
  | .sl fz a lo hi => .sl fz (setE κ a) (setEo κ lo) (setEo κ hi)
  | .rev fz a => .rev fz (setE κ a)
  | .bi f fz es => .bi f fz (setEs κ es)
  | .isi a T cs => .isi (setE κ a) T cs
  | .call f _ es => .call f (κ "" f) (setEs κ es)
  | .callk f _ es ks pm => .callk f (κ "" f) (setEs κ es) (setKs κ ks) pm
  | .mk C _ es => .mk C (κ C "__init__") (setEs κ es)
  | .mkk C _ es ks pm => .mkk C (κ C "__init__") (setEs κ es) (setKs κ ks) pm
  | .fld a C f => .fld (setE κ a) C f
  | .prop a C f _ => .prop (setE κ a) C f (κ C f)
  | .meth a C m _ es => .meth (setE κ a) C m (κ C m) (setEs κ es)
  | .bm m fz a es => .bm m fz (setE κ a) (setEs κ es)
  | .comp fz t it cond elt => .comp fz t (setIt κ it) (setEo κ cond) (setE κ elt)
  | .dnew => .dnew
  | .lr1 fz a => .lr1 fz (setE κ a)
  | .lr2 fz a b => .lr2 fz (setE κ a) (setE κ b)
  | .lz fz a b => .lz fz (setE κ a) (setE κ b)
  | .ueq C _ a b => .ueq C (κ C "__eq__") (setE κ a) (setE κ b)
  | .skabs fz a => .skabs fz (setE κ a)
  | .lenset a => .lenset (setE κ a)
  | .ise a T cs => .ise (setE κ a) T cs
  | .xval a cs => .xval (setE κ a) cs
  | .heard f q cs e => .heard f q cs (setE κ e)
  | .ddsp es => .ddsp (setEs κ es)
  | .sset fz a => .sset fz (setE κ a)
  | .callv i tb es => .callv i tb (setEs κ es)
def setEs (κ : Str → Str → Contract) : Es → Es
  | .nil => .nil
  | .cons e r => .cons (setE κ e) (setEs κ r)
  | .star e r => .star (setE κ e) (setEs κ r)
def setKs (κ : Str → Str → Contract) : Ks → Ks
  | .nil => .nil
  | .cons k e r => .cons k (setE κ e) (setKs κ r)
def setEo (κ : Str → Str → Contract) : Eo → Eo
  | .none => .none
  | .some e => .some (setE κ e)
def setIt (κ : Str → Str → Contract) : It → It
  | .seq e => .seq (setE κ e)
  | .rng1 a => .rng1 (setE κ a)
  | .rng2 a b => .rng2 (setE κ a) (setE κ b)
  | .enum a => .enum (setE κ a)
  | .zip a b => .zip (setE κ a) (setE κ b)
  | .rngd a b => .rngd (setE κ a) (setE κ b)
  | .ezip a b => .ezip (setE κ a) (setE κ b)
end
mutual
def setS (κ : Str → Str → Contract) : S → S
  | .asg t e => .asg t (setE κ e)
  | .par is es => .par is (setEs κ es)
  | .fld o C f e => .fld (setE κ o) C f (setE κ e)
  | .sub o i e => .sub (setE κ o) (setE κ i) (setE κ e)
  | .ex e => .ex (setE κ e)
  | .ret e => .ret (setEo κ e)
  | .ite t a b => .ite (setE κ t) (setSs κ a) (setSs κ b)
  | .whl t a => .whl (setE κ t) (setSs κ a)
  | .for_ t it a => .for_ t (setIt κ it) (setSs κ a)
  | .pass => .pass
  | .brk => .brk
  | .cont => .cont
  | .never => .never
  | .raise_ C e => .raise_ C (setE κ e)
def setSs (κ : Str → Str → Contract) : List S → List S
  | [] => []
  | s :: r => setS κ s :: setSs κ r
end

section
variable (K : Rc) (κ : Str → Str → Contract) (B : Mm)
/-- the defs' promises hold of what is run -/
def KapOk : Prop := ∀ C f ρ H M ds ds' x Q, Sim K.q B ρ H M → Rns ρ ds ds' → Pst K.q B Rn ρ (K.cf C f ds H) x Q → κ C f ds' M x Q
def SE (e : E) : Prop := ∀ ρ H M env env' x Q, Sim K.q B ρ H M → RvE ρ env env' → Pst K.q B Rn ρ (runE K e env H) x Q → wpE (setE κ e) x env' M Q
def SEs (e : Es) : Prop := ∀ ρ H M env env' x Q, Sim K.q B ρ H M → RvE ρ env env' → Pst K.q B Rns ρ (runEs K e env H) x Q → wpEs (setEs κ e) x env' M Q
def SAnd (e : Es) : Prop := ∀ ρ H M env env' x Q, Sim K.q B ρ H M → RvE ρ env env' → Pst K.q B Rn ρ (runAnd K e env H) x Q → wpAnd (setEs κ e) x env' M Q
def SOr (e : Es) : Prop := ∀ ρ H M env env' x Q, Sim K.q B ρ H M → RvE ρ env env' → Pst K.q B Rn ρ (runOr K e env H) x Q → wpOr (setEs κ e) x env' M Q
def RnOp (ρ : List Addr) (o o' : Option D) : Prop := (o = none ∧ o' = none) ∨ ∃ d d', o = some d ∧ o' = some d' ∧ Rn ρ d d'
def SEo (e : Eo) : Prop := ∀ ρ H M env env' x Q, Sim K.q B ρ H M → RvE ρ env env' → Pst K.q B RnOp ρ (runEo K e env H) x Q → wpEo (setEo κ e) x env' M Q
def RnB (_ : List Addr) (b b' : Bool) : Prop := b' = b
def SCd (e : Eo) : Prop := ∀ ρ H M env env' x Q, Sim K.q B ρ H M → RvE ρ env env' → Pst K.q B RnB ρ (runCd K e env H) x Q → wpCd (setEo κ e) x env' M Q
/-- what is walked -/
def RnI (ρ : List Addr) (s : Sr) (u : Src) : Prop := Rns ρ s.xs u.xs ∧ ∀ ρ1 H M, Le ρ ρ1 → Sim K.q B ρ1 H M → gdR s H = true → u.g M
def SIt (e : It) : Prop := ∀ ρ H M env env' x Q, Sim K.q B ρ H M → RvE ρ env env' → Pst K.q B (RnI K B) ρ (runIt K e env H) x Q → wpIt (setIt κ e) x env' M Q
inductive RnF (ρ : List Addr) : Fi → Fi → Prop
  | nx {env env'} (h : RvE ρ env env') : RnF ρ (.nx env) (.nx env')
  | rt {d d'} (h : Rn ρ d d') : RnF ρ (.rt d) (.rt d')
def QF (D : TL.Fin) : Fi → Mm → Prop
  | .nx env, M => D.nx env M
  | .rt d, M => D.rt d M
def SS (s : S) : Prop := ∀ ρ H M env env' x (D : TL.Fin), (∀ e, D.ex e = x) → Sim K.q B ρ H M → RvE ρ env env' → Pst K.q B RnF ρ (runS K s env H) x (QF D) → wpS (setS κ s) D env' M
def SSs (s : List S) : Prop := ∀ ρ H M env env' x (D : TL.Fin), (∀ e, D.ex e = x) → Sim K.q B ρ H M → RvE ρ env env' → Pst K.q B RnF ρ (runSs K s env H) x (QF D) → wpSs (setSs κ s) D env' M
end
section
variable {K : Rc} {κ : Str → Str → Contract} {B : Mm}
theorem rr_v {i : Nat} : SE K κ B (.v i) := fun ρ H M env env' x Q s r h => by
  simp only [runE] at h
  simp only [setE, wpE, varK]
  split at h
  · rename_i d e
    obtain ⟨d', e', rd⟩ := r.2 i d e
    rw [e']; exact h.ok s rd
  · exact h.elim
theorem rr_c {d : D} : SE K κ B (.c d) := fun ρ H M env env' x Q s r h => by
  simp only [runE] at h
  simp only [setE, wpE]
  obtain ⟨e, h⟩ := h.bR
  exact h.ok s (Rn.flat' e)
theorem rr_g {y : Str} {d : D} : SE K κ B (.g y d) := fun ρ H M env env' x Q s r h => by
  simp only [runE] at h
  simp only [setE, wpE]
  obtain ⟨e, h⟩ := h.bR
  exact h.ok s (Rn.same (pok_plain e))
theorem rr_bin {o fz a b} (ha : SE K κ B a) (hb : SE K κ B b) : SE K κ B (.bin o fz a b) := fun ρ H M env env' x Q s r h => by
  simp only [runE] at h
  simp only [setE, wpE]
  refine ha _ _ _ _ _ _ _ s r (h.bind fun ρ1 u u' H1 M1 l1 s1 ru h => ?_)
  refine hb _ _ _ _ _ _ _ s1 (r.mono l1) (h.bind fun ρ2 v v' H2 M2 l2 s2 rv h => ?_)
  exact binR_ok s2 (ru.mono l2) rv h
theorem rr_neg {a} (ha : SE K κ B a) : SE K κ B (.neg a) := fun ρ H M env env' x Q s r h => by
  simp only [runE] at h
  simp only [setE, wpE]
  refine ha _ _ _ _ _ _ _ s r (h.bind fun ρ1 u u' H1 M1 l1 s1 ru h => ?_)
  obtain ⟨i, rfl, h⟩ := h.asIR
  simp only [Rn] at ru; subst ru
  exact h.ok s1 (by simp only [Rn])
theorem rr_not {a} (ha : SE K κ B a) : SE K κ B (.not a) := fun ρ H M env env' x Q s r h => by
  simp only [runE] at h
  simp only [setE, wpE]
  refine ha _ _ _ _ _ _ _ s r (h.bind fun ρ1 u u' H1 M1 l1 s1 ru h => ?_)
  obtain ⟨i, rfl, h⟩ := h.asBR
  simp only [Rn] at ru; subst ru
  exact h.ok s1 (by simp only [Rn])
theorem rr_cmp {o a b} (ha : SE K κ B a) (hb : SE K κ B b) : SE K κ B (.cmp o a b) := fun ρ H M env env' x Q s r h => by
  simp only [runE] at h
  unfold setE wpE
  refine ha _ _ _ _ _ _ _ s r (h.bind fun ρ1 u u' H1 M1 l1 s1 ru h => ?_)
  refine hb _ _ _ _ _ _ _ s1 (r.mono l1) (h.bind fun ρ2 v v' H2 M2 l2 s2 rv h => ?_)
  obtain ⟨c, e, h⟩ := h.optR
  exact cmpR_ok s2 (ru.mono l2) rv e (h.ok s2 (by simp only [Rn]))
theorem rr_chn {o p a b c} (ha : SE K κ B a) (hb : SE K κ B b) (hc : SE K κ B c) : SE K κ B (.chn o p a b c) := fun ρ H M env env' x Q s r h => by
  simp only [runE] at h
  unfold setE wpE
  refine ha _ _ _ _ _ _ _ s r (h.bind fun ρ1 u u' H1 M1 l1 s1 ru h => ?_)
  refine hb _ _ _ _ _ _ _ s1 (r.mono l1) (h.bind fun ρ2 v v' H2 M2 l2 s2 rv h => ?_)
  obtain ⟨t, e, h⟩ := h.optR
  refine cmpR_ok s2 (ru.mono l2) rv e ?_
  cases t with
  | true =>
    refine hc _ _ _ _ _ _ _ s2 (r.mono (l1.trans l2)) (h.bind fun ρ3 w w' H3 M3 l3 s3 rw_ h => ?_)
    obtain ⟨t, e, h⟩ := h.optR
    exact cmpR_ok s3 (rv.mono l3) rw_ e (h.ok s3 (by simp only [Rn]))
  | false => exact h.ok s2 (by simp only [Rn])
theorem rr_and {es} (h1 : SAnd K κ B es) : SE K κ B (.and es) := fun ρ H M env env' x Q s r h => by
  simp only [runE] at h
  unfold setE wpE
  exact h1 _ _ _ _ _ _ _ s r h
theorem rr_or {es} (h1 : SOr K κ B es) : SE K κ B (.or es) := fun ρ H M env env' x Q s r h => by
  simp only [runE] at h
  unfold setE wpE
  exact h1 _ _ _ _ _ _ _ s r h
theorem rr_ite {t a b} (ht : SE K κ B t) (ha : SE K κ B a) (hb : SE K κ B b) : SE K κ B (.ite t a b) := fun ρ H M env env' x Q s r h => by
  simp only [runE] at h
  unfold setE wpE
  refine ht _ _ _ _ _ _ _ s r (h.bind fun ρ1 u u' H1 M1 l1 s1 ru h => ?_)
  obtain ⟨i, rfl, h⟩ := h.asBR
  simp only [Rn] at ru; subst ru
  cases i with
  | true => exact ha _ _ _ _ _ _ _ s1 (r.mono l1) h
  | false => exact hb _ _ _ _ _ _ _ s1 (r.mono l1) h
theorem rr_tup {es} (h1 : SEs K κ B es) : SE K κ B (.tup es) := fun ρ H M env env' x Q s r h => by
  simp only [runE] at h
  unfold setE wpE
  refine h1 _ _ _ _ _ _ _ s r (h.bind fun ρ1 u u' H1 M1 l1 s1 ru h => ?_)
  obtain ⟨e, h⟩ := h.bR
  exact ⟨by rw [ru.length]; exact sz_le e, h.ok s1 (by simp only [Rn]; exact ⟨_, rfl, ru⟩)⟩
theorem rr_lst {fz es} (h1 : SEs K κ B es) : SE K κ B (.lst fz es) := fun ρ H M env env' x Q s r h => by
  simp only [runE] at h
  unfold setE wpE
  refine h1 _ _ _ _ _ _ _ s r (h.bind fun ρ1 u u' H1 M1 l1 s1 ru h => ?_)
  obtain ⟨e, h⟩ := h.bR
  exact ⟨by rw [ru.length]; exact sz_le e, newR_ok s1 ru h⟩
theorem rr_ix {a b} (ha : SE K κ B a) (hb : SE K κ B b) : SE K κ B (.ix a b) := fun ρ H M env env' x Q s r h => by
  simp only [runE] at h
  unfold setE wpE
  refine ha _ _ _ _ _ _ _ s r (h.bind fun ρ1 u u' H1 M1 l1 s1 ru h => ?_)
  refine hb _ _ _ _ _ _ _ s1 (r.mono l1) (h.bind fun ρ2 v v' H2 M2 l2 s2 rv h => ?_)
  obtain ⟨c, e, h⟩ := h.retR
  exact ixR_ok s2 (ru.mono l2) rv e fun d' rd => h.ok s2 rd
theorem RnOp.mono {ρ ρ1 : List Addr} {o o'} (l : Le ρ ρ1) (h : RnOp ρ o o') : RnOp ρ1 o o' := by
  rcases h with h | ⟨d, d', h1, h2, h3⟩
  · exact .inl h
  · exact .inr ⟨d, d', h1, h2, h3.mono l⟩
theorem rr_sl {fz a lo hi} (ha : SE K κ B a) (h1 : SEo K κ B lo) (h2 : SEo K κ B hi) : SE K κ B (.sl fz a lo hi) := fun ρ H M env env' x Q s r h => by
  simp only [runE] at h
  unfold setE wpE
  refine ha _ _ _ _ _ _ _ s r (h.bind fun ρ1 u u' H1 M1 l1 s1 ru h => ?_)
  refine h1 _ _ _ _ _ _ _ s1 (r.mono l1) (h.bind fun ρ2 v v' H2 M2 l2 s2 rv h => ?_)
  refine optIR_ok rv h fun i h => ?_
  refine h2 _ _ _ _ _ _ _ s2 (r.mono (l1.trans l2)) (h.bind fun ρ3 w w' H3 M3 l3 s3 rw_ h => ?_)
  refine optIR_ok rw_ h fun j h => ?_
  exact slR_ok s3 (ru.mono (l2.trans l3)) h
theorem rr_bi {f fz es} (h1 : SEs K κ B es) : SE K κ B (.bi f fz es) := fun ρ H M env env' x Q s r h => by
  simp only [runE] at h
  unfold setE wpE
  refine h1 _ _ _ _ _ _ _ s r (h.bind fun ρ1 u u' H1 M1 l1 s1 ru h => ?_)
  exact biR_ok s1 ru h
theorem rr_isi {a T cs} (ha : SE K κ B a) : SE K κ B (.isi a T cs) := fun ρ H M env env' x Q s r h => by
  simp only [runE] at h
  unfold setE wpE
  refine ha _ _ _ _ _ _ _ s r (h.bind fun ρ1 u u' H1 M1 l1 s1 ru h => ?_)
  obtain ⟨c, e, h⟩ := h.optR
  exact isiR_ok s1 ru e (h.ok s1 (by simp only [Rn]))
theorem rr_call (kp : KapOk K κ B) {f c es} (h1 : SEs K κ B es) : SE K κ B (.call f c es) := fun ρ H M env env' x Q s r h => by
  simp only [runE] at h
  unfold setE wpE
  refine h1 _ _ _ _ _ _ _ s r (h.bind fun ρ1 u u' H1 M1 l1 s1 ru h => ?_)
  exact kp _ _ _ _ _ _ _ _ _ s1 ru h
theorem rr_mk (kp : KapOk K κ B) {C c es} (h1 : SEs K κ B es) : SE K κ B (.mk C c es) := fun ρ H M env env' x Q s r h => by
  simp only [runE] at h
  unfold setE wpE
  refine h1 _ _ _ _ _ _ _ s r (h.bind fun ρ1 u u' H1 M1 l1 s1 ru h => ?_)
  intro p hp
  have s2 : Sim K.q B (ρ1 ++ [p]) (H1.new (.ins C [])) (mput M1 p (.ins C [])) := s1.new_ hp ⟨[], rfl, rfl⟩
  have rp : Rn (ρ1 ++ [p]) (.ref H1.n) (.ref p) := by simp only [Rn]; exact ⟨p, rfl, by rw [s1.n]; exact app_last⟩
  refine kp _ _ _ _ _ _ _ _ _ s2 (Rns.cons rp (ru.mono Le.app)) ((h.mono Le.app).bind fun ρ3 d d' H3 M3 l3 s3 rd h => ?_)
  cases d with
  | non =>
    simp only [Rn] at rd; subst rd
    exact ⟨rfl, h.ok s3 (rp.mono l3)⟩
  | _ => exact h.elim
theorem rr_fld {a C f} (ha : SE K κ B a) : SE K κ B (.fld a C f) := fun ρ H M env env' x Q s r h => by
  simp only [runE] at h
  unfold setE wpE
  refine ha _ _ _ _ _ _ _ s r (h.bind fun ρ1 u u' H1 M1 l1 s1 ru h => ?_)
  refine insR_ok s1 ru h fun i p xs ys ep rx h => ?_
  obtain ⟨d, e, h⟩ := h.retR
  obtain ⟨d', e', rd⟩ := rx.lookup.1 d e
  show optK (ys.lookup f) fun d => Q d M1
  rw [e']; exact h.ok s1 rd
theorem rr_prop (kp : KapOk K κ B) {a C f c} (ha : SE K κ B a) : SE K κ B (.prop a C f c) := fun ρ H M env env' x Q s r h => by
  simp only [runE] at h
  unfold setE wpE
  refine ha _ _ _ _ _ _ _ s r (h.bind fun ρ1 u u' H1 M1 l1 s1 ru h => ?_)
  refine insR_ok s1 ru h fun i p xs ys ep rx h => ?_
  exact kp _ _ _ _ _ _ _ _ _ s1 (Rns.one ru) h.nox
theorem rr_meth (kp : KapOk K κ B) {a C m c es} (ha : SE K κ B a) (h1 : SEs K κ B es) : SE K κ B (.meth a C m c es) := fun ρ H M env env' x Q s r h => by
  simp only [runE] at h
  unfold setE wpE
  refine ha _ _ _ _ _ _ _ s r (h.bind fun ρ1 u u' H1 M1 l1 s1 ru h => ?_)
  refine insR_ok s1 ru h fun i p xs ys ep rx h => ?_
  split at h
  · rename_i e
    refine ⟨rx.lookup.2 e, ?_⟩
    refine h1 _ _ _ _ _ _ _ s1 (r.mono l1) (h.bind fun ρ2 v v' H2 M2 l2 s2 rv h => ?_)
    exact kp _ _ _ _ _ _ _ _ _ s2 (Rns.cons (ru.mono l2) rv) h
  · exact h.elim
theorem rr_bm {m fz a es} (ha : SE K κ B a) (h1 : SEs K κ B es) : SE K κ B (.bm m fz a es) := fun ρ H M env env' x Q s r h => by
  simp only [runE] at h
  unfold setE wpE
  refine ha _ _ _ _ _ _ _ s r (h.bind fun ρ1 u u' H1 M1 l1 s1 ru h => ?_)
  obtain ⟨ty, e, h⟩ := h.optR
  obtain ⟨e2, h⟩ := h.bR
  rw [tyOf_rn s1 ru e]
  refine ⟨e2, ?_⟩
  refine h1 _ _ _ _ _ _ _ s1 (r.mono l1) (h.bind fun ρ2 v v' H2 M2 l2 s2 rv h => ?_)
  exact bmR_ok s2 (ru.mono l2) rv h
/-- turn by turn -/
theorem cg_ok {s : Sr} {g : Mm → Prop} {step : D → List D → Hh → Rs (List D)} {step' : D → List D → Mm → (List D → Mm → Prop) → Prop} {x : XD} {Q : List D → Mm → Prop} {ρ : List Addr}
    (hg : ∀ ρ1 H M, Le ρ ρ1 → Sim K.q B ρ1 H M → gdR s H = true → g M)
    (hs : ∀ ρ1 H M d d' acc acc' (k : List D → Mm → Prop), Le ρ ρ1 → Sim K.q B ρ1 H M → Rn ρ1 d d' → Rns ρ1 acc acc' → Pst K.q B Rns ρ1 (step d acc H) x k → step' d' acc' M k) :
    ∀ (xs ys acc acc' : List D) (ρ1 : List Addr) (H : Hh) (M : Mm), Le ρ ρ1 → Sim K.q B ρ1 H M → Rns ρ1 xs ys → Rns ρ1 acc acc' → Pst K.q B Rns ρ1 (cgR s step xs acc H) x Q → compGo step' g ys acc' M Q := by
  intro xs
  induction xs with
  | nil =>
    intro ys acc acc' ρ1 H M l si rx ra h
    cases rx.nil_inv
    obtain ⟨e, h⟩ := h.bR
    exact ⟨hg _ _ _ l si e, h.ok si ra⟩
  | cons d xs ih =>
    intro ys acc acc' ρ1 H M l si rx ra h
    obtain ⟨v, q, rfl, h1, h2⟩ := rx.cons_inv
    obtain ⟨e, h⟩ := h.bR
    refine ⟨hg _ _ _ l si e, ?_⟩
    refine hs _ _ _ _ _ _ _ _ l si h1 ra (h.bind fun ρ2 a a' H2 M2 l2 s2 rr h => ?_)
    exact ih _ _ _ _ _ _ (l.trans l2) s2 (h2.mono l2) rr h
theorem rr_comp {fz t it cond elt} (hi : SIt K κ B it) (hc : SCd K κ B cond) (he : SE K κ B elt) : SE K κ B (.comp fz t it cond elt) := fun ρ H M env env' x Q s r h => by
  simp only [runE] at h
  unfold setE wpE
  refine hi _ _ _ _ _ _ _ s r (h.bind fun ρ1 u u' H1 M1 l1 s1 ru h => ?_)
  obtain ⟨e, h⟩ := h.bR
  refine ⟨by rw [ru.1.length]; exact sz_le e, ?_⟩
  refine cg_ok (ρ := ρ1) (x := x) ru.2 ?_ _ _ _ _ _ _ _ Le.refl s1 ru.1 Rns.nil (h.bind fun ρ2 a a' H2 M2 l2 s2 ra h => newR_ok s2 ra h)
  intro ρ2 H2 M2 d d' acc acc' k l2 s2 rd ra h
  obtain ⟨env1, e1, h⟩ := h.optR
  obtain ⟨env1', r1, hp⟩ := putR_ok rd ((r.mono (l1.trans l2)).wipe _) e1
  refine hp _ _ ?_
  refine hc _ _ _ _ _ _ _ s2 r1 (h.bindN fun ρ3 b b' H3 M3 l3 s3 rb h => ?_)
  cases rb
  cases b with
  | true =>
    refine he _ _ _ _ _ _ _ s3 (r1.mono l3) (h.bindN fun ρ4 y y' H4 M4 l4 s4 ry h => ?_)
    exact h.ok s4 ((ra.mono (l3.trans l4)).append (Rns.one ry))
  | false => exact h.ok s3 (ra.mono l3)
theorem rr_dnew : SE K κ B .dnew := fun ρ H M env env' x Q s r h => by
  simp only [runE] at h
  unfold setE wpE
  exact newD_ok (kvs := []) (kws := []) s rfl h
theorem rr_ddsp {es} (h1 : SEs K κ B es) : SE K κ B (.ddsp es) := fun ρ H M env env' x Q s r h => by
  simp only [runE] at h
  unfold setE wpE
  refine h1 _ _ _ _ _ _ _ s r (h.bind fun ρ1 u u' H1 M1 l1 s1 ru h => ?_)
  obtain ⟨kvs, e, h⟩ := h.optR
  obtain ⟨e2, h⟩ := h.bR
  obtain ⟨kws, f1, f2⟩ := pairsOf_rn ru e
  rw [f1]
  exact ⟨by rw [f2.length]; exact Nat.le_of_ble_eq_true e2, newD_ok s1 (f2.merge (kvs := []) (kvs' := []) rfl) h⟩
theorem rr_sset {fz a} (ha : SE K κ B a) : SE K κ B (.sset fz a) := fun ρ H M env env' x Q s r h => by
  simp only [runE] at h
  unfold setE wpE
  refine ha _ _ _ _ _ _ _ s r (h.bind fun ρ1 u u' H1 M1 l1 s1 ru h => ?_)
  obtain ⟨xs, e, h⟩ := h.optR
  obtain ⟨ns, e1, h⟩ := h.optR
  obtain ⟨e2, h⟩ := h.bR
  obtain ⟨ys, f1, f2⟩ := lstOf_rn s1 ru e
  show someK (lstOf M1 u') _
  rw [f1]
  show someK (intsOf ys) _
  rw [ints_rn f2 e1]
  exact ⟨of_decide_eq_true e2, newR_ok s1 (Rn.ints _) h⟩
theorem rr_ise {a T cs} (ha : SE K κ B a) : SE K κ B (.ise a T cs) := fun ρ H M env env' x Q s r h => by
  simp only [runE] at h
  unfold setE wpE
  refine ha _ _ _ _ _ _ _ s r (h.bind fun ρ1 u u' H1 M1 l1 s1 ru h => ?_)
  obtain ⟨c, e, h⟩ := h.optR
  exact iseR_ok ru e (h.ok s1 (by simp only [Rn]))
theorem rr_xval {a cs} (ha : SE K κ B a) : SE K κ B (.xval a cs) := fun ρ H M env env' x Q s r h => by
  simp only [runE] at h
  unfold setE wpE
  refine ha _ _ _ _ _ _ _ s r (h.bind fun ρ1 u u' H1 M1 l1 s1 ru h => ?_)
  obtain ⟨c, e, h⟩ := h.retR
  exact xvR_ok ru e fun d' rd => h.ok s1 rd
theorem rr_heard {f q cs e} (he : SE K κ B e) : SE K κ B (.heard f q cs e) := fun ρ H M env env' x Q s r h => by
  simp only [runE] at h
  unfold setE wpE
  obtain ⟨e1, h⟩ := h.bR
  refine ⟨s.tb q (of_decide_eq_true e1), ?_⟩
  refine he _ _ _ _ _ _ _ s r ?_
  split at h
  · rename_i d H1 e2
    rw [e2]
    intro ρ1 M1 b l1 s1 rb
    exact h ρ1 M1 _ l1 s1 (by simp only [Rn]; exact ⟨_, rfl, Rns.cons (by simp only [Rn]) (Rns.one rb)⟩)
  · rename_i C d H1 e2
    rw [e2]
    obtain ⟨e3, h⟩ := h.bR
    intro ρ1 M1 b l1 s1 rb
    exact ⟨of_decide_eq_true e3, h ρ1 M1 _ l1 s1 (by simp only [Rn]; exact ⟨_, rfl, Rns.cons (by simp only [Rn]; exact ⟨_, rfl, rb⟩) (Rns.one (by simp only [Rn]))⟩)⟩
  · exact h.elim
/-! several -/
theorem rr_nil : SEs K κ B .nil := fun ρ H M env env' x Q s r h => by
  simp only [runEs] at h
  unfold setEs wpEs
  exact h.ok s Rns.nil
theorem rr_cons {e es} (h1 : SE K κ B e) (h2 : SEs K κ B es) : SEs K κ B (.cons e es) := fun ρ H M env env' x Q s r h => by
  simp only [runEs] at h
  unfold setEs wpEs
  refine h1 _ _ _ _ _ _ _ s r (h.bind fun ρ1 u u' H1 M1 l1 s1 ru h => ?_)
  refine h2 _ _ _ _ _ _ _ s1 (r.mono l1) (h.bind fun ρ2 v v' H2 M2 l2 s2 rv h => ?_)
  exact h.ok s2 (Rns.cons (ru.mono l2) rv)
theorem rr_star {e es} (h1 : SE K κ B e) (h2 : SEs K κ B es) : SEs K κ B (.star e es) := fun ρ H M env env' x Q s r h => by
  simp only [runEs] at h
  unfold setEs wpEs
  refine h1 _ _ _ _ _ _ _ s r (h.bind fun ρ1 u u' H1 M1 l1 s1 ru h => ?_)
  obtain ⟨xs, e, h⟩ := h.optR
  obtain ⟨ys, f1, f2⟩ := seqOf_rn s1 ru e
  rw [f1]
  refine h2 _ _ _ _ _ _ _ s1 (r.mono l1) (h.bind fun ρ2 v v' H2 M2 l2 s2 rv h => ?_)
  exact h.ok s2 ((f2.mono l2).append rv)
theorem rr_and0 {e} (h1 : SE K κ B e) : SAnd K κ B (.cons e .nil) := fun ρ H M env env' x Q s r h => by
  simp only [runAnd] at h
  simp only [setEs, wpAnd]
  refine h1 _ _ _ _ _ _ _ s r (h.bind fun ρ1 u u' H1 M1 l1 s1 ru h => ?_)
  obtain ⟨i, rfl, h⟩ := h.asBR
  simp only [Rn] at ru; subst ru
  exact h.ok s1 (by simp only [Rn])
theorem rr_or0 {e} (h1 : SE K κ B e) : SOr K κ B (.cons e .nil) := fun ρ H M env env' x Q s r h => by
  simp only [runOr] at h
  simp only [setEs, wpOr]
  refine h1 _ _ _ _ _ _ _ s r (h.bind fun ρ1 u u' H1 M1 l1 s1 ru h => ?_)
  obtain ⟨i, rfl, h⟩ := h.asBR
  simp only [Rn] at ru; subst ru
  exact h.ok s1 (by simp only [Rn])
theorem rr_and1 {e es} (h1 : SE K κ B e) (h2 : SAnd K κ B es) : SAnd K κ B (.cons e es) := by
  cases es with
  | nil => exact rr_and0 h1
  | cons e2 r2 =>
    intro ρ H M env env' x Q s r h
    simp only [runAnd] at h
    simp only [setEs, wpAnd]
    refine h1 _ _ _ _ _ _ _ s r (h.bind fun ρ1 u u' H1 M1 l1 s1 ru h => ?_)
    obtain ⟨i, rfl, h⟩ := h.asBR
    simp only [Rn] at ru; subst ru
    cases i with
    | true => exact h2 _ _ _ _ _ _ _ s1 (r.mono l1) h
    | false => exact h.ok s1 (by simp only [Rn])
  | star e2 r2 =>
    intro ρ H M env env' x Q s r h
    simp only [runAnd] at h
    simp only [setEs, wpAnd]
    refine h1 _ _ _ _ _ _ _ s r (h.bind fun ρ1 u u' H1 M1 l1 s1 ru h => ?_)
    obtain ⟨i, rfl, h⟩ := h.asBR
    simp only [Rn] at ru; subst ru
    cases i with
    | true => exact h.elim
    | false => exact h.ok s1 (by simp only [Rn])
theorem rr_or1 {e es} (h1 : SE K κ B e) (h2 : SOr K κ B es) : SOr K κ B (.cons e es) := by
  cases es with
  | nil => exact rr_or0 h1
  | cons e2 r2 =>
    intro ρ H M env env' x Q s r h
    simp only [runOr] at h
    simp only [setEs, wpOr]
    refine h1 _ _ _ _ _ _ _ s r (h.bind fun ρ1 u u' H1 M1 l1 s1 ru h => ?_)
    obtain ⟨i, rfl, h⟩ := h.asBR
    simp only [Rn] at ru; subst ru
    cases i with
    | true => exact h.ok s1 (by simp only [Rn])
    | false => exact h2 _ _ _ _ _ _ _ s1 (r.mono l1) h
  | star e2 r2 =>
    intro ρ H M env env' x Q s r h
    simp only [runOr] at h
    simp only [setEs, wpOr]
    refine h1 _ _ _ _ _ _ _ s r (h.bind fun ρ1 u u' H1 M1 l1 s1 ru h => ?_)
    obtain ⟨i, rfl, h⟩ := h.asBR
    simp only [Rn] at ru; subst ru
    cases i with
    | true => exact h.ok s1 (by simp only [Rn])
    | false => exact h.elim
theorem rr_none : SEo K κ B .none := fun ρ H M env env' x Q s r h => by
  simp only [runEo] at h
  unfold setEo wpEo
  exact h.ok s (.inl ⟨rfl, rfl⟩)
theorem rr_some {e} (h1 : SE K κ B e) : SEo K κ B (.some e) := fun ρ H M env env' x Q s r h => by
  simp only [runEo] at h
  unfold setEo wpEo
  refine h1 _ _ _ _ _ _ _ s r (h.bind fun ρ1 u u' H1 M1 l1 s1 ru h => ?_)
  exact h.ok s1 (.inr ⟨_, _, rfl, rfl, ru⟩)
theorem rr_cd0 : SCd K κ B .none := fun ρ H M env env' x Q s r h => by
  simp only [runCd] at h
  unfold setEo wpCd
  exact h.ok s rfl
theorem rr_cd1 {e} (h1 : SE K κ B e) : SCd K κ B (.some e) := fun ρ H M env env' x Q s r h => by
  simp only [runCd] at h
  unfold setEo wpCd
  refine h1 _ _ _ _ _ _ _ s r (h.bind fun ρ1 u u' H1 M1 l1 s1 ru h => ?_)
  obtain ⟨i, rfl, h⟩ := h.asBR
  simp only [Rn] at ru; subst ru
  exact h.ok s1 rfl
/-! what is walked -/
theorem gd_ok {ρ : List Addr} {d d' : D} {xs zs ys : List D} (rd : Rn ρ d d') (rx : Rns ρ xs ys) : ∀ ρ1 H M, Le ρ ρ1 → Sim K.q B ρ1 H M → gdR ⟨d, xs, zs⟩ H = true → grd d' ys M := fun ρ1 H M l s h => by
  cases d with
  | ref i =>
    simp only [Rn] at rd
    obtain ⟨p, rfl, e⟩ := rd
    simp only [gdR] at h
    split at h
    · rename_i us e1
      obtain ⟨o', h1, h2⟩ := s.get (l _ _ e) e1
      obtain ⟨ws, rfl, h3⟩ := h2
      cases D.beqs_eq h
      show M p = some (.lst ys)
      rw [h1, Rns.fun h3 (rx.mono l)]
    · cases h
  | tup _ => simp only [Rn] at rd; obtain ⟨_, rfl, _⟩ := rd; trivial
  | lst _ => simp only [Rn] at rd; obtain ⟨_, rfl, _⟩ := rd; trivial
  | klst _ => simp only [Rn] at rd; obtain ⟨_, rfl, _⟩ := rd; trivial
  | exc _ _ => simp only [Rn] at rd; obtain ⟨_, rfl, _⟩ := rd; trivial
  | _ => simp only [Rn] at rd; subst rd; trivial
theorem itK_ne {M : Mm} {u : D} {k : Src → Prop} (h1 : ∀ z, u ≠ .str z) {ys : List D} (e : seqOf M u = some ys) (h : k ⟨grd u ys, ys⟩) : itK M u k := by
  unfold itK
  split
  · exact absurd rfl (h1 _)
  · rw [e]; exact h
theorem rr_seq {e} (h1 : SE K κ B e) : SIt K κ B (.seq e) := fun ρ H M env env' x Q s r h => by
  simp only [runIt] at h
  unfold setIt wpIt
  refine h1 _ _ _ _ _ _ _ s r (h.bind fun ρ1 u u' H1 M1 l1 s1 ru h => ?_)
  split at h
  · exact h.elim
  · obtain ⟨xs, e1, h⟩ := h.optR
    obtain ⟨ys, f1, f2⟩ := seqOf_rn s1 ru e1
    refine itK_ne (fun z e => by subst e; cases f1) f1 ?_
    exact h.ok s1 ⟨f2, gd_ok ru f2⟩
theorem rangeD_rn {ρ : List Addr} (lo : Int) : ∀ n, Rns ρ (rangeD lo n) (rangeD lo n)
  | 0 => Rns.nil
  | n + 1 => Rns.cons (by simp only [Rn]) (rangeD_rn (lo + 1) n)
theorem rangeC_rn {ρ : List Addr} (lo c : Int) : ∀ n, Rns ρ (rangeC lo c n) (rangeC lo c n)
  | 0 => Rns.nil
  | n + 1 => Rns.cons (by simp only [Rn]) (rangeC_rn (lo + c) c n)
theorem smallI_lt {i : Int} (h : smallI i = true) : -(2 ^ 30) < i ∧ i < 2 ^ 30 := by
  unfold smallI at h
  simp only [decide_eq_true_eq] at h
  omega
theorem rr_rng1 {a} (ha : SE K κ B a) : SIt K κ B (.rng1 a) := fun ρ H M env env' x Q s r h => by
  simp only [runIt] at h
  unfold setIt wpIt
  refine ha _ _ _ _ _ _ _ s r (h.bind fun ρ1 u u' H1 M1 l1 s1 ru h => ?_)
  obtain ⟨i, rfl, h⟩ := h.asIR
  simp only [Rn] at ru; subst ru
  obtain ⟨e, h⟩ := h.bR
  have := smallI_lt e
  exact ⟨by omega, by omega, h.ok s1 ⟨rangeD_rn _ _, fun _ _ _ _ _ _ => trivial⟩⟩
theorem rr_rng2 {a b} (ha : SE K κ B a) (hb : SE K κ B b) : SIt K κ B (.rng2 a b) := fun ρ H M env env' x Q s r h => by
  simp only [runIt] at h
  unfold setIt wpIt
  refine ha _ _ _ _ _ _ _ s r (h.bind fun ρ1 u u' H1 M1 l1 s1 ru h => ?_)
  refine hb _ _ _ _ _ _ _ s1 (r.mono l1) (h.bind fun ρ2 v v' H2 M2 l2 s2 rv h => ?_)
  obtain ⟨i, rfl, h1⟩ := h.asIR
  obtain ⟨j, rfl, h2⟩ := h1.asIR
  simp only [Rn] at ru rv; subst ru; subst rv
  obtain ⟨e, h3⟩ := h2.bR
  simp only [Bool.and_eq_true] at e
  have := smallI_lt e.1
  have := smallI_lt e.2
  exact ⟨by omega, by omega, by omega, by omega, h3.ok s2 ⟨rangeD_rn _ _, fun _ _ _ _ _ _ => trivial⟩⟩
theorem rr_rngd {a b} (ha : SE K κ B a) (hb : SE K κ B b) : SIt K κ B (.rngd a b) := fun ρ H M env env' x Q s r h => by
  simp only [runIt] at h
  unfold setIt wpIt
  refine ha _ _ _ _ _ _ _ s r (h.bind fun ρ1 u u' H1 M1 l1 s1 ru h => ?_)
  refine hb _ _ _ _ _ _ _ s1 (r.mono l1) (h.bind fun ρ2 v v' H2 M2 l2 s2 rv h => ?_)
  obtain ⟨i, rfl, h1⟩ := h.asIR
  obtain ⟨j, rfl, h2⟩ := h1.asIR
  simp only [Rn] at ru rv; subst ru; subst rv
  obtain ⟨e, h3⟩ := h2.bR
  simp only [Bool.and_eq_true] at e
  have := smallI_lt e.1
  have := smallI_lt e.2
  exact ⟨by omega, by omega, by omega, by omega, h3.ok s2 ⟨rangeC_rn _ _ _, fun _ _ _ _ _ _ => trivial⟩⟩
theorem rr_enum {a} (ha : SE K κ B a) : SIt K κ B (.enum a) := fun ρ H M env env' x Q s r h => by
  simp only [runIt] at h
  unfold setIt wpIt
  refine ha _ _ _ _ _ _ _ s r (h.bind fun ρ1 u u' H1 M1 l1 s1 ru h => ?_)
  obtain ⟨xs, e1, h⟩ := h.optR
  obtain ⟨ys, f1, f2⟩ := seqOf_rn s1 ru e1
  rw [f1]
  exact h.ok s1 ⟨f2.enum 0, gd_ok ru f2⟩
theorem rr_ezip {a b} (ha : SE K κ B a) (hb : SE K κ B b) : SIt K κ B (.ezip a b) := fun ρ H M env env' x Q s r h => by
  simp only [runIt] at h
  unfold setIt wpIt
  refine ha _ _ _ _ _ _ _ s r (h.bind fun ρ1 u u' H1 M1 l1 s1 ru h => ?_)
  refine hb _ _ _ _ _ _ _ s1 (r.mono l1) (h.bind fun ρ2 v v' H2 M2 l2 s2 rv h => ?_)
  cases u with
  | tup xs =>
    simp only [Rn] at ru
    obtain ⟨us, rfl, ru⟩ := ru
    obtain ⟨ys, e1, h⟩ := h.optR
    obtain ⟨e2, h⟩ := h.bR
    obtain ⟨ws, f1, f2⟩ := lstOf_rn s2 rv e1
    show someK (lstOf M2 v') _
    rw [f1]
    exact ⟨by rw [ru.length, f2.length]; exact Nat.eq_of_beq_eq_true e2, h.ok s2 ⟨((ru.mono l2).zip f2).enum 0, gd_ok rv f2⟩⟩
  | _ => exact h.elim
end
end TL

set_option Elab.async false
set_option linter.all false
set_option maxRecDepth 100000
set_option maxHeartbeats 4000000
/-! What is run is what the small language asks: statements, defs. -/
namespace TL
open PySem PySem.Spec PyProof.Rows L2
section
variable {K : Rc} {κ : Str → Str → Contract} {B : Mm}
theorem x_asg {t e} (h1 : SE K κ B e) : SS K κ B (.asg t e) := fun ρ H M env env' x D hx s r h => by
  simp only [runS] at h
  unfold setS wpS
  rw [hx]
  refine h1 _ _ _ _ _ _ _ s r (h.bind fun ρ1 u u' H1 M1 l1 s1 ru h => ?_)
  obtain ⟨env1, e1, h⟩ := h.optR
  obtain ⟨env1', r1, hp⟩ := putR_ok ru (r.mono l1) e1
  exact hp _ _ (h.ok s1 (.nx r1))
theorem x_par {is es} (h1 : SEs K κ B es) : SS K κ B (.par is es) := fun ρ H M env env' x D hx s r h => by
  simp only [runS] at h
  unfold setS wpS
  rw [hx]
  refine h1 _ _ _ _ _ _ _ s r (h.bind fun ρ1 u u' H1 M1 l1 s1 ru h => ?_)
  obtain ⟨e, h⟩ := h.bR
  exact ⟨by rw [ru.length]; exact Nat.eq_of_beq_eq_true e, h.ok s1 (.nx (RvE.par ru (r.mono l1)))⟩
theorem x_fld {o C f e} (ho : SE K κ B o) (he : SE K κ B e) : SS K κ B (.fld o C f e) := fun ρ H M env env' x D hx s r h => by
  simp only [runS] at h
  unfold setS wpS
  rw [hx]
  refine he _ _ _ _ _ _ _ s r (h.bind fun ρ1 u u' H1 M1 l1 s1 ru h => ?_)
  refine ho _ _ _ _ _ _ _ s1 (r.mono l1) (h.bind fun ρ2 v v' H2 M2 l2 s2 rv h => ?_)
  refine insR_ok s2 rv h fun i p xs ys ep rx h => ?_
  obtain ⟨e1, h⟩ := h.bR
  exact ⟨by rw [rx.length]; exact of_decide_eq_true e1, h.ok (s2.put ep (show RnO ρ2 (.ins C (putF' f u xs)) (.ins C (putF' f u' ys)) from ⟨_, rfl, rx.putF (ru.mono l2)⟩)) (.nx (r.mono (l1.trans l2)))⟩
theorem x_sub {o i e} (ho : SE K κ B o) (hi : SE K κ B i) (he : SE K κ B e) : SS K κ B (.sub o i e) := fun ρ H M env env' x D hx s r h => by
  simp only [runS] at h
  unfold setS wpS
  rw [hx]
  refine he _ _ _ _ _ _ _ s r (h.bind fun ρ1 u u' H1 M1 l1 s1 ru h => ?_)
  refine ho _ _ _ _ _ _ _ s1 (r.mono l1) (h.bind fun ρ2 v v' H2 M2 l2 s2 rv h => ?_)
  refine hi _ _ _ _ _ _ _ s2 (r.mono (l1.trans l2)) (h.bind fun ρ3 w w' H3 M3 l3 s3 rw_ h => ?_)
  refine setR_ok s3 (rv.mono l3) rw_ (ru.mono (l2.trans l3)) h fun H4 M4 s4 h => ?_
  exact h.ok s4 (.nx (r.mono (l1.trans (l2.trans l3))))
theorem x_ex {e} (he : SE K κ B e) : SS K κ B (.ex e) := fun ρ H M env env' x D hx s r h => by
  simp only [runS] at h
  unfold setS wpS
  rw [hx]
  refine he _ _ _ _ _ _ _ s r (h.bind fun ρ1 u u' H1 M1 l1 s1 ru h => ?_)
  exact h.ok s1 (.nx (r.mono l1))
theorem x_ret0 : SS K κ B (.ret .none) := fun ρ H M env env' x D hx s r h => by
  simp only [runS] at h
  simp only [setS, setEo, wpS]
  exact h.ok s (.rt (by simp only [Rn]))
theorem x_ret1 {e} (he : SE K κ B e) : SS K κ B (.ret (.some e)) := fun ρ H M env env' x D hx s r h => by
  simp only [runS] at h
  simp only [setS, setEo, wpS]
  rw [hx]
  refine he _ _ _ _ _ _ _ s r (h.bind fun ρ1 u u' H1 M1 l1 s1 ru h => ?_)
  exact h.ok s1 (.rt ru)
theorem x_ite {t a b} (ht : SE K κ B t) (ha : SSs K κ B a) (hb : SSs K κ B b) : SS K κ B (.ite t a b) := fun ρ H M env env' x D hx s r h => by
  simp only [runS] at h
  unfold setS wpS
  rw [hx]
  refine ht _ _ _ _ _ _ _ s r (h.bind fun ρ1 u u' H1 M1 l1 s1 ru h => ?_)
  obtain ⟨i, rfl, h⟩ := h.asBR
  simp only [Rn] at ru; subst ru
  cases i with
  | true => exact ha _ _ _ _ _ _ D hx s1 (r.mono l1) h
  | false => exact hb _ _ _ _ _ _ D hx s1 (r.mono l1) h
theorem fg_ok {s : Sr} {g : Mm → Prop} {step : D → En → Hh → Rs Fi} {step' : D → En → Mm → (En → Mm → Prop) → Prop} {x : XD} {D : TL.Fin} {ρ : List Addr}
    (hg : ∀ ρ1 H M, Le ρ ρ1 → Sim K.q B ρ1 H M → gdR s H = true → g M)
    (hs : ∀ ρ1 H M d d' env env' (k : En → Mm → Prop), Le ρ ρ1 → Sim K.q B ρ1 H M → Rn ρ1 d d' → RvE ρ1 env env' → Pst K.q B RnF ρ1 (step d env H) x (QF { D with nx := k, ct := k, bk := D.nx }) → step' d' env' M k) :
    ∀ (xs ys : List TL.D) (env env' : En) (ρ1 : List Addr) (H : Hh) (M : Mm), Le ρ ρ1 → Sim K.q B ρ1 H M → Rns ρ1 xs ys → RvE ρ1 env env' → Pst K.q B RnF ρ1 (fgR s step xs env H) x (QF D) → forGo step' g D.nx ys env' M := by
  intro xs
  induction xs with
  | nil =>
    intro ys env env' ρ1 H M l si rx ra h
    cases rx.nil_inv
    obtain ⟨e, h⟩ := h.bR
    exact ⟨hg _ _ _ l si e, h.ok si (.nx ra)⟩
  | cons d xs ih =>
    intro ys env env' ρ1 H M l si rx ra h
    obtain ⟨v, q, rfl, h1, h2⟩ := rx.cons_inv
    obtain ⟨e, h⟩ := h.bR
    refine ⟨hg _ _ _ l si e, ?_⟩
    refine hs _ _ _ _ _ _ _ _ l si h1 ra (h.bind fun ρ2 a a' H2 M2 l2 s2 rr h => ?_)
    cases rr with
    | nx r2 => exact ih _ _ _ _ _ _ (l.trans l2) s2 (h2.mono l2) r2 h
    | rt r2 => exact h.ok s2 (.rt r2)
theorem x_for {t it a} (hi : SIt K κ B it) (ha : SSs K κ B a) : SS K κ B (.for_ t it a) := fun ρ H M env env' x D hx s r h => by
  simp only [runS] at h
  unfold setS wpS
  rw [hx]
  refine hi _ _ _ _ _ _ _ s r (h.bind fun ρ1 u u' H1 M1 l1 s1 ru h => ?_)
  refine fg_ok (ρ := ρ1) (x := x) ru.2 ?_ _ _ _ _ _ _ _ Le.refl s1 ru.1 (r.mono l1) h
  intro ρ2 H2 M2 d d' env1 env1' k l2 s2 rd ra h
  obtain ⟨env2, e1, h⟩ := h.optR
  obtain ⟨env2', r1, hp⟩ := putR_ok rd ra e1
  exact hp _ _ (ha _ _ _ _ _ _ _ hx s2 r1 h)
theorem x_pass : SS K κ B .pass := fun ρ H M env env' x D hx s r h => by
  simp only [runS] at h
  unfold setS wpS
  exact h.ok s (.nx r)
theorem x_raise {C e} (he : SE K κ B e) : SS K κ B (.raise_ C e) := fun ρ H M env env' x D hx s r h => by
  simp only [runS] at h
  unfold setS wpS
  rw [hx]
  refine he _ _ _ _ _ _ _ s r (h.bind fun ρ1 u u' H1 M1 l1 s1 ru h => ?_)
  exact h ρ1 M1 _ Le.refl s1 ru
theorem x_nil : SSs K κ B [] := fun ρ H M env env' x D hx s r h => by
  simp only [runSs] at h
  unfold setSs wpSs
  exact h.ok s (.nx r)
theorem x_cons {a r} (h1 : SS K κ B a) (h2 : SSs K κ B r) : SSs K κ B (a :: r) := fun ρ H M env env' x D hx s rr h => by
  simp only [runSs] at h
  unfold setSs wpSs
  refine h1 _ _ _ _ _ _ { D with nx := fun env M => wpSs (setSs κ r) D env M } hx s rr (h.bind fun ρ1 u u' H1 M1 l1 s1 ru h => ?_)
  cases ru with
  | nx r2 => exact h2 _ _ _ _ _ _ D hx s1 r2 h
  | rt r2 => exact h.ok s1 (.rt r2)
variable (kp : KapOk K κ B)
include kp in
mutual
theorem sE : ∀ e : E, SE K κ B e
  | .v i => rr_v
  | .c d => rr_c
  | .g y d => rr_g
  | .bin o fz a b => rr_bin (sE a) (sE b)
  | .neg a => rr_neg (sE a)
  | .not a => rr_not (sE a)
  | .cmp o a b => rr_cmp (sE a) (sE b)
  | .chn o p a b c => rr_chn (sE a) (sE b) (sE c)
  | .and es => rr_and (sAnd es)
  | .or es => rr_or (sOr es)
  | .ite t a b => rr_ite (sE t) (sE a) (sE b)
  | .tup es => rr_tup (sEs es)
  | .lst fz es => rr_lst (sEs es)
  | .ix a i => rr_ix (sE a) (sE i)
  | .sl fz a lo hi => rr_sl (sE a) (sEo lo) (sEo hi)
  | .rev fz a => fun ρ H M env env' x Q s r h => by simp only [runE] at h; exact (show False from h).elim
  | .bi f fz es => rr_bi (sEs es)
  | .isi a T cs => rr_isi (sE a)
  | .call f c es => rr_call kp (sEs es)
  | .callk f c es ks pm => fun ρ H M env env' x Q s r h => by simp only [runE] at h; exact (show False from h).elim
  | .mk C c es => rr_mk kp (sEs es)
  | .mkk C c es ks pm => fun ρ H M env env' x Q s r h => by simp only [runE] at h; exact (show False from h).elim
  | .fld a C f => rr_fld (sE a)
  | .prop a C f c => rr_prop kp (sE a)
  | .meth a C m c es => rr_meth kp (sE a) (sEs es)
  | .bm m fz a es => rr_bm (sE a) (sEs es)
  | .comp fz t it cond elt => rr_comp (sIt it) (sCd cond) (sE elt)
  | .dnew => rr_dnew
  | .lr1 fz a => fun ρ H M env env' x Q s r h => by simp only [runE] at h; exact (show False from h).elim
  | .lr2 fz a b => fun ρ H M env env' x Q s r h => by simp only [runE] at h; exact (show False from h).elim
  | .lz fz a b => fun ρ H M env env' x Q s r h => by simp only [runE] at h; exact (show False from h).elim
  | .ueq C c a b => fun ρ H M env env' x Q s r h => by simp only [runE] at h; exact (show False from h).elim
  | .skabs fz a => fun ρ H M env env' x Q s r h => by simp only [runE] at h; exact (show False from h).elim
  | .lenset a => fun ρ H M env env' x Q s r h => by simp only [runE] at h; exact (show False from h).elim
  | .ise a T cs => rr_ise (sE a)
  | .xval a cs => rr_xval (sE a)
  | .heard f q cs e => rr_heard (sE e)
  | .ddsp es => rr_ddsp (sEs es)
  | .sset fz a => rr_sset (sE a)
  | .callv i tb es => fun ρ H M env env' x Q s r h => by simp only [runE] at h; exact (show False from h).elim
theorem sEs : ∀ e : Es, SEs K κ B e
  | .nil => rr_nil
  | .cons e r => rr_cons (sE e) (sEs r)
  | .star e r => rr_star (sE e) (sEs r)
theorem sAnd : ∀ e : Es, SAnd K κ B e
  | .nil => fun ρ H M env env' x Q s r h => by simp only [runAnd] at h; exact (show False from h).elim
  | .cons e r => rr_and1 (sE e) (sAnd r)
  | .star e r => fun ρ H M env env' x Q s r h => by simp only [runAnd] at h; exact (show False from h).elim
theorem sOr : ∀ e : Es, SOr K κ B e
  | .nil => fun ρ H M env env' x Q s r h => by simp only [runOr] at h; exact (show False from h).elim
  | .cons e r => rr_or1 (sE e) (sOr r)
  | .star e r => fun ρ H M env env' x Q s r h => by simp only [runOr] at h; exact (show False from h).elim
theorem sEo : ∀ e : Eo, SEo K κ B e
  | .none => rr_none
  | .some e => rr_some (sE e)
theorem sCd : ∀ e : Eo, SCd K κ B e
  | .none => rr_cd0
  | .some e => rr_cd1 (sE e)
theorem sIt : ∀ e : It, SIt K κ B e
  | .seq e => rr_seq (sE e)
  | .rng1 a => rr_rng1 (sE a)
  | .rng2 a b => rr_rng2 (sE a) (sE b)
  | .enum a => rr_enum (sE a)
  | .zip a b => fun ρ H M env env' x Q s r h => by simp only [runIt] at h; exact (show False from h).elim
  | .rngd a b => rr_rngd (sE a) (sE b)
  | .ezip a b => rr_ezip (sE a) (sE b)
end
include kp in
mutual
theorem sS : ∀ s : S, SS K κ B s
  | .asg t e => x_asg (sE kp e)
  | .par is es => x_par (sEs kp es)
  | .fld o C f e => x_fld (sE kp o) (sE kp e)
  | .sub o i e => x_sub (sE kp o) (sE kp i) (sE kp e)
  | .ex e => x_ex (sE kp e)
  | .ret .none => x_ret0
  | .ret (.some e) => x_ret1 (sE kp e)
  | .ite t a b => x_ite (sE kp t) (sSs a) (sSs b)
  | .for_ t it a => x_for (sIt kp it) (sSs a)
  | .pass => x_pass
  | .raise_ C e => x_raise (sE kp e)
  | .whl t a => fun ρ H M env env' x D hx s r h => by simp only [runS] at h; exact (show False from h).elim
  | .brk => fun ρ H M env env' x D hx s r h => by simp only [runS] at h; exact (show False from h).elim
  | .cont => fun ρ H M env env' x D hx s r h => by simp only [runS] at h; exact (show False from h).elim
  | .never => fun ρ H M env env' x D hx s r h => by simp only [runS] at h; exact (show False from h).elim
theorem sSs : ∀ s : List S, SSs K κ B s
  | [] => x_nil
  | a :: r => x_cons (sS a) (sSs r)
end
end
/-- what a def does: what its run tells -/
def RunC (q : Option Str) (T : Tb) (C f : Str) : Contract := fun ds' M x Q => ∃ n B ρ H ds, Sim q B ρ H M ∧ Rns ρ ds ds' ∧ Pst q B Rn ρ (runF q T n C f ds H) x Q
theorem run_kap {q : Option Str} {T : Tb} {n : Nat} {B : Mm} : KapOk ⟨q, runF q T n⟩ (RunC q T) B := fun C f ρ H M ds ds' x Q s r h => ⟨n, B, ρ, H, ds, s, r, h⟩
theorem runF_inv {q : Option Str} {T : Tb} {C f : Str} {N P : Nat} {body : List S} (e : tbAt C f T = some (N, P, body)) {n : Nat} {B : Mm} {ρ : List Addr} {ds : List D} {H : Hh} {x : XD} {Q : KD} (h : Pst q B Rn ρ (runF q T n C f ds H) x Q) :
    ∃ m, ds.length = P ∧ Pst q B Rn ρ ((runSs ⟨q, runF q T m⟩ body (startE N ds) H).bind fun f H1 => match f with
      | .nx _ => .ok .non H1
      | .rt d => .ok d H1) x Q := by
  cases n with
  | zero => exact (show False from h).elim
  | succ n =>
    unfold runF at h
    simp only [e] at h
    obtain ⟨e1, h⟩ := h.bR
    exact ⟨n, Nat.eq_of_beq_eq_true e1, h⟩
theorem run_len {q : Option Str} {T : Tb} {C f : Str} {N P : Nat} {body : List S} (e : tbAt C f T = some (N, P, body)) : ∀ ds M x Q, RunC q T C f ds M x Q → ds.length = P := by
  rintro ds M x Q ⟨n, B, ρ, H, ds0, s, r, h⟩
  obtain ⟨m, h1, _⟩ := runF_inv e h
  rw [r.length]; exact h1
theorem run_pure {q : Option Str} {T : Tb} {C f : Str} {N P : Nat} {body ir : List S} (e : tbAt C f T = some (N, P, body)) (i : setSs (RunC q T) body = ir) : ∀ ds M x Q, RunC q T C f ds M x Q → wpSs ir (FinOf x Q) (startE N ds) M := by
  rintro ds M x Q ⟨n, B, ρ, H, ds0, s, r, h⟩
  obtain ⟨m, h1, h⟩ := runF_inv e h
  subst i
  refine sSs (K := ⟨q, runF q T m⟩) run_kap body _ _ _ _ _ x _ (fun _ => rfl) s (RvE.start r) (h.bind fun ρ1 u u' H1 M1 l1 s1 ru h => ?_)
  cases ru with
  | nx r2 => exact fin_same (h.ok s1 (by simp only [Rn]))
  | rt r2 => exact fin_same (h.ok s1 r2)
/-- a run from here: nothing made yet -/
theorem Sim.nil {q : Option Str} {M : Mm} (t : ∀ z, q = some z → ∃ P, M P = some (.tab z)) : Sim q M [] ⟨0, []⟩ M where
  n := rfl
  inj := fun i j a h => by simp at h
  at_ := fun i a h => by simp at h
  out := fun a _ => rfl
  new := fun i a h => by simp at h
  tb := t
theorem Sim.sub {q : Option Str} {B M : Mm} {ρ : List Addr} {H : Hh} (s : Sim q B ρ H M) : TL.sub B M := fun a o h => by
  rw [← h]
  refine s.out a fun i e => ?_
  rw [s.new i a e] at h; cases h
end TL

namespace K18
open PySem PySem.Spec PyProof.Rows L2 TL
abbrev Contract := TL.Contract
abbrev S := TL.S
/-! the draws: of a pot nothing is told but its bounds -/
def PotO (o : PO) (c : Int) : Prop := ∃ own base cnt : Int, o = .lst [.int own, .int base, .int cnt] ∧ 0 ≤ own ∧ 0 ≤ base ∧ base < 2 ^ 61 ∧ 0 ≤ cnt ∧ cnt ≤ c
def absI (i : Int) : Int := if i < 0 then -i else i
def ct__law_pot : Contract := fun ds M _ Q => ∃ (ns : List Int) (i : Nat), ds = [.klst (ns.map .int), .int i] ∧ i < 64 ∧ ∀ p o, M p = none → PotO o 0 → Q (.ref p) (mput M p o)
def ct__law_take : Contract := fun ds M _ Q => ∃ p n o c, ds = [.ref p, .int n] ∧ M p = some o ∧ PotO o c ∧ c < 1000000 ∧ 0 < n ∧ n < 2 ^ 60 ∧ ∀ r o', 0 ≤ r → r < n → PotO o' (c + 1) → Q (.int r) (mput M p o')
def ct__law_cells : Contract := fun ds M _ Q => ∃ (ns : List Int) (m : Int), ds = [.klst (ns.map .int), .int m] ∧ 1 ≤ m ∧ m < 64 ∧ ∀ k : Nat, (k : Int) ≤ m → Q (.lst ((List.range k).map fun i => .int (i : Nat))) M
def ct__law_some : Contract := fun ds M _ Q => ∃ (p : Addr) (ns : List Int) (m : Int) (o : TL.PO) (c : Int), ds = [.ref p, .lst (ns.map .int), .int m] ∧ M p = some o ∧ PotO o c ∧ 0 ≤ m ∧ m ≤ (ns.length : Int) ∧ ns.length ≤ 100 ∧ c + m < 1000000 ∧
  ∀ (q : Addr) (ys rs : List Int) (o' : TL.PO), M q = none → PotO o' (c + m) → (ys.length : Int) = m → (ys ++ rs).Perm ns → Q (.ref q) (mput (mput M p o') q (.lst (ys.map .int)))
def ct__law_right : Contract := fun ds M _ Q => ∃ (p : Addr) (o : TL.PO) (c : Int) (P : Addr), ds = [.ref p] ∧ M p = some o ∧ PotO o c ∧ c < 90000 ∧ M P = some (.tab "_law_wrong") ∧ ∀ o', PotO o' (c + 1000) → Q (.bl true) (mput M p o')
def ct_law : Contract := fun ds M _ Q => ∃ (ns : List Int) (P : Addr), ds = [.klst (ns.map .int)] ∧ ns.length ≤ 63 ∧ M P = some (.tab "_law_wrong") ∧ Q (.bl true) M
abbrev κT : Type := Str → Str → Contract
def b_is_integer (κ : κT) : List S := [(.ret (.some (.and (.cons (.isi (.v 0) "int" []) (.cons (.not (.isi (.v 0) "bool" [])) .nil)))))]
def b_merged (κ : κT) : List S := [(.asg (.nm 2) .dnew), (.for_ (.tp [(.nm 5), (.nm 6)]) (.seq (.v 0)) [(.asg (.nm 4) (.bi .abs true (.cons (.v 6) .nil))), (.sub (.v 2) (.v 4) (.bin .Add true (.bm .get true (.v 2) (.cons (.v 4) (.cons (.c (.int 0)) .nil))) (.ite (.cmp .Gt (.v 6) (.c (.int 0))) (.v 5) (.bin .Sub true (.c (.int 0)) (.v 5))))), (.asg (.nm 1) (.ite (.cmp .Gt (.v 6) (.c (.int 0))) (.v 1) (.bin .Sub true (.v 1) (.v 5))))]), (.asg (.nm 3) (.lst false .nil)), (.for_ (.nm 4) (.seq (.bi .sorted true (.cons (.v 2) .nil))) [(.asg (.nm 5) (.ix (.v 2) (.v 4))), (.ite (.cmp .Gt (.v 5) (.c (.int 0))) [(.ex (.bm .append true (.v 3) (.cons (.tup (.cons (.v 5) (.cons (.v 4) .nil))) .nil)))] [(.ite (.cmp .Lt (.v 5) (.c (.int 0))) [(.ex (.bm .append true (.v 3) (.cons (.tup (.cons (.bin .Sub true (.c (.int 0)) (.v 5)) (.cons (.bin .Sub true (.c (.int 0)) (.v 4)) .nil))) .nil))), (.asg (.nm 1) (.bin .Sub true (.v 1) (.v 5)))] [])])]), (.ret (.some (.tup (.cons (.bi .tuple true (.cons (.v 3) .nil)) (.cons (.v 1) .nil)))))]
def b_saturated_row (κ : κT) : List S := [(.asg (.tp [(.nm 1), (.nm 2)]) (.v 0)), (.ite (.cmp .LtE (.v 2) (.c (.int 0))) [(.ret (.some (.g "EMPTY" (.tup [.tup [], .int 0]))))] []), (.ret (.some (.tup (.cons (.bi .tuple true (.cons (.comp true (.tp [(.nm 3), (.nm 4)]) (.seq (.v 1)) .none (.tup (.cons (.bi .min2 true (.cons (.v 3) (.cons (.v 2) .nil))) (.cons (.v 4) .nil)))) .nil)) (.cons (.v 2) .nil)))))]
def b_up_by (κ : κT) : List S := [(.ret (.some (.bin .Sub true (.c (.int 0)) (.bin .FloorDiv true (.bin .Sub true (.c (.int 0)) (.v 0)) (.v 1)))))]
def b_total_of (κ : κT) : List S := [(.ret (.some (.bi .sum true (.cons (.comp true (.tp [(.nm 1), (.nm 2)]) (.seq (.ix (.v 0) (.c (.int 0)))) .none (.v 1)) .nil))))]
def b_Rows_switches (κ : κT) : List S := [(.ret (.some (.fld (.v 0) "Rows" "own_switches")))]
def b_Rows_rows (κ : κT) : List S := [(.ret (.some (.fld (.v 0) "Rows" "own_rows")))]
def b_check_rows (κ : κT) : List S := [(.ite (.not (.isi (.v 0) "Rows" ["Rows"])) [.never] [])]
def b_Checker_all_rows (κ : κT) : List S := [(.ret (.some (.bi .list true (.cons (.fld (.v 0) "Checker" "own_rows") .nil))))]
def b_Checker_count (κ : κT) : List S := [(.ret (.some (.bi .len true (.cons (.fld (.v 0) "Checker" "own_rows") .nil))))]
def b_Checker_is_live (κ : κT) : List S := [(.ret (.some (.cmp .NotIn (.v 1) (.fld (.v 0) "Checker" "own_dropped"))))]
def b_Renumbering_keep (κ : κT) : List S := [(.for_ (.nm 3) (.rng2 (.v 1) (.bin .Add true (.v 1) (.v 2))) [(.sub (.fld (.v 0) "Renumbering" "own_rows") (.v 3) (.fld (.v 0) "Renumbering" "own_next")), (.fld (.v 0) "Renumbering" "own_next" (.bin .Add false (.fld (.v 0) "Renumbering" "own_next") (.c (.int 1))))])]
def b_Renumbering_keep_switch (κ : κT) : List S := [(.fld (.v 0) "Renumbering" "own_count" (.bin .Add false (.fld (.v 0) "Renumbering" "own_count") (.c (.int 1)))), (.sub (.fld (.v 0) "Renumbering" "own_switches") (.v 1) (.fld (.v 0) "Renumbering" "own_count"))]
def b_Renumbering_literal (κ : κT) : List S := [(.asg (.nm 2) (.ix (.fld (.v 0) "Renumbering" "own_switches") (.bi .abs true (.cons (.v 1) .nil)))), (.ret (.some (.ite (.cmp .Gt (.v 1) (.c (.int 0))) (.v 2) (.bin .Sub true (.c (.int 0)) (.v 2)))))]
def b_Renumbering_has_row (κ : κT) : List S := [(.ret (.some (.cmp .In (.v 1) (.fld (.v 0) "Renumbering" "own_rows"))))]
def b__law_pot (κ : κT) : List S := [(.asg (.nm 2) (.ite (.cmp .Lt (.v 1) (.bi .len true (.cons (.v 0) .nil))) (.ix (.v 0) (.v 1)) (.bin .Add true (.bin .Mult true (.c (.int 947)) (.v 1)) (.c (.int 691))))), (.asg (.nm 3) (.bin .Mult true (.bin .Mod true (.bi .int true (.cons (.bi .abs true (.cons (.v 2) .nil)) .nil)) (.bin .Pow true (.bin .Pow true (.c (.int 10)) (.c (.int 60))) (.c (.int 5)))) (.bi .int true (.cons (.cmp .GtE (.bi .abs true (.cons (.v 2) .nil)) (.bin .Pow true (.c (.int 10)) (.c (.int 18)))) .nil)))), (.asg (.nm 4) (.bin .Mod true (.bi .int true (.cons (.v 2) .nil)) (.c (.int 2305843009213693951)))), (.ret (.some (.lst false (.cons (.v 3) (.cons (.bin .Mod true (.bi .int true (.cons (.bin .Add true (.bin .Add true (.bin .Mult true (.v 4) (.c (.int 72109))) (.bin .Mult true (.bin .Mult true (.c (.int 9901)) (.v 1)) (.v 1))) (.c (.int 1231))) .nil)) (.c (.int 2305843009213693921))) (.cons (.c (.int 0)) .nil))))))]
def b__law_take (κ : κT) : List S := [(.ite (.cmp .Gt (.ix (.v 0) (.c (.int 0))) (.c (.int 0))) [(.asg (.nm 4) (.bin .Mod true (.bi .int true (.cons (.ix (.v 0) (.c (.int 0))) .nil)) (.v 1))), (.sub (.v 0) (.c (.int 0)) (.bin .FloorDiv true (.ix (.v 0) (.c (.int 0))) (.v 1))), (.ret (.some (.v 4)))] []), (.sub (.v 0) (.c (.int 2)) (.bin .Add true (.ix (.v 0) (.c (.int 2))) (.c (.int 1)))), (.asg (.nm 2) (.ix (.lst true (.cons (.c (.int 2147483647)) (.cons (.c (.int 2147483629)) (.cons (.c (.int 2147483587)) (.cons (.c (.int 2147483579)) (.cons (.c (.int 2147483563)) .nil)))))) (.bin .Mod true (.bi .int true (.cons (.ix (.v 0) (.c (.int 2))) .nil)) (.c (.int 5))))), (.asg (.nm 3) (.bin .Mod true (.bi .int true (.cons (.bin .Pow true (.bi .int true (.cons (.bin .Add true (.bin .Add true (.ix (.v 0) (.c (.int 1))) (.bin .Mult true (.bin .Mult true (.c (.int 92003)) (.ix (.v 0) (.c (.int 2)))) (.ix (.v 0) (.c (.int 2))))) (.c (.int 383))) .nil)) (.c (.int 3))) .nil)) (.v 2))), (.asg (.nm 3) (.bin .Mod true (.bi .int true (.cons (.bin .Mult true (.v 3) (.bin .Add true (.bin .Mod true (.bi .int true (.cons (.v 3) .nil)) (.c (.int 11047))) (.bin .Mult true (.c (.int 461)) (.ix (.v 0) (.c (.int 2)))))) .nil)) (.c (.int 2305843009213693907)))), (.ret (.some (.bin .Mod true (.bi .int true (.cons (.bin .FloorDiv true (.v 3) (.c (.int 389))) .nil)) (.v 1))))]
def b__law_cells (κ : κT) : List S := [(.ret (.some (.lr1 true (.bi .max2 true (.cons (.c (.int 1)) (.cons (.bi .min2 true (.cons (.v 1) (.cons (.bi .len true (.cons (.v 0) .nil)) .nil))) .nil))))))]
def b__law_is_int (κ : κT) : List S := [(.ret (.some (.and (.cons (.isi (.v 0) "int" []) (.cons (.not (.isi (.v 0) "bool" [])) .nil)))))]
def b__law_merged (κ : κT) : List S := [(.asg (.nm 2) .dnew), (.for_ (.tp [(.nm 5), (.nm 6)]) (.seq (.v 0)) [(.sub (.v 2) (.bi .abs true (.cons (.v 6) .nil)) (.bin .Add true (.bm .get true (.v 2) (.cons (.bi .abs true (.cons (.v 6) .nil)) (.cons (.c (.int 0)) .nil))) (.ite (.cmp .Gt (.v 6) (.c (.int 0))) (.v 5) (.neg (.v 5))))), (.asg (.nm 1) (.bin .Sub true (.v 1) (.ite (.cmp .Gt (.v 6) (.c (.int 0))) (.c (.int 0)) (.v 5))))]), (.asg (.nm 3) (.lst false .nil)), (.for_ (.nm 4) (.seq (.bi .sorted true (.cons (.v 2) .nil))) [(.ite (.cmp .Gt (.ix (.v 2) (.v 4)) (.c (.int 0))) [(.ex (.bm .append true (.v 3) (.cons (.tup (.cons (.bi .int true (.cons (.ix (.v 2) (.v 4)) .nil)) (.cons (.bi .int true (.cons (.v 4) .nil)) .nil))) .nil)))] []), (.ite (.cmp .Lt (.ix (.v 2) (.v 4)) (.c (.int 0))) [(.ex (.bm .append true (.v 3) (.cons (.tup (.cons (.bi .int true (.cons (.neg (.ix (.v 2) (.v 4))) .nil)) (.cons (.bi .int true (.cons (.neg (.v 4)) .nil)) .nil))) .nil))), (.asg (.nm 1) (.bin .Sub true (.v 1) (.ix (.v 2) (.v 4))))] [])]), (.ret (.some (.tup (.cons (.bi .tuple true (.cons (.v 3) .nil)) (.cons (.bi .int true (.cons (.v 1) .nil)) .nil)))))]
def b__law_up (κ : κT) : List S := [(.ret (.some (.bi .int true (.cons (.neg (.bin .FloorDiv true (.neg (.v 0)) (.v 1))) .nil))))]
def b_is_between (κ : κT) : List S := [(.ret (.some (.and (.cons (.call "is_integer" (κ "" "is_integer") (.cons (.v 0) .nil)) (.cons (.chn .LtE .LtE (.v 1) (.v 0) (.v 2)) .nil)))))]
def b_is_literal (κ : κT) : List S := [(.ret (.some (.and (.cons (.call "is_integer" (κ "" "is_integer") (.cons (.v 0) .nil)) (.cons (.cmp .NotEq (.v 0) (.c (.int 0))) (.cons (.cmp .LtE (.bi .abs true (.cons (.v 0) .nil)) (.g "MOST_INNER" (.int 100000))) .nil))))))]
def b_divided_row (κ : κT) : List S := [(.asg (.tp [(.nm 2), (.nm 3)]) (.v 0)), (.ret (.some (.tup (.cons (.bi .tuple true (.cons (.comp true (.tp [(.nm 4), (.nm 5)]) (.seq (.v 2)) .none (.tup (.cons (.call "up_by" (κ "" "up_by") (.cons (.v 4) (.cons (.v 1) .nil))) (.cons (.v 5) .nil)))) .nil)) (.cons (.call "up_by" (κ "" "up_by") (.cons (.v 3) (.cons (.v 1) .nil))) .nil)))))]
def b_added_rows (κ : κT) : List S := [(.par [2, 3] (.cons (.lst false .nil) (.cons (.c (.int 0)) .nil))), (.for_ (.tp [(.nm 4), (.nm 5)]) (.seq (.v 0)) [(.ex (.bm .extend true (.v 2) (.cons (.comp true (.tp [(.nm 6), (.nm 7)]) (.seq (.ix (.v 5) (.c (.int 0)))) .none (.tup (.cons (.bin .Mult true (.v 4) (.v 6)) (.cons (.v 7) .nil)))) .nil))), (.asg (.nm 3) (.bin .Add true (.v 3) (.bin .Mult true (.v 4) (.ix (.v 5) (.c (.int 1))))))]), (.ret (.some (.call "merged" (κ "" "merged") (.cons (.lst true (.star (.v 2) (.star (.v 1) .nil))) (.cons (.v 3) .nil)))))]
def b_is_false_row (κ : κT) : List S := [(.ret (.some (.cmp .Lt (.call "total_of" (κ "" "total_of") (.cons (.v 0) .nil)) (.ix (.v 0) (.c (.int 1))))))]
def b_rows_of_meaning (κ : κT) : List S := [(.asg (.tp [(.nm 5), (.nm 6)]) (.v 1)), (.asg (.nm 2) (.bin .Add true (.bin .Sub true (.call "total_of" (κ "" "total_of") (.cons (.v 1) .nil)) (.v 6)) (.c (.int 1)))), (.asg (.nm 3) (.call "merged" (κ "" "merged") (.cons (.lst true (.star (.v 5) (.cons (.tup (.cons (.v 6) (.cons (.bin .Sub true (.c (.int 0)) (.v 0)) .nil))) .nil))) (.cons (.v 6) .nil)))), (.asg (.nm 4) (.call "merged" (κ "" "merged") (.cons (.lst true (.star (.comp true (.tp [(.nm 7), (.nm 8)]) (.seq (.v 5)) .none (.tup (.cons (.v 7) (.cons (.bin .Sub true (.c (.int 0)) (.v 8)) .nil)))) (.cons (.tup (.cons (.v 2) (.cons (.v 0) .nil))) .nil))) (.cons (.v 2) .nil)))), (.ret (.some (.tup (.cons (.v 3) (.cons (.v 4) .nil)))))]
def b_Renumbering_terms (κ : κT) : List S := [(.ret (.some (.bi .tuple true (.cons (.comp true (.tp [(.nm 2), (.nm 3)]) (.seq (.v 1)) .none (.tup (.cons (.v 2) (.cons (.meth (.v 0) "Renumbering" "literal" (κ "Renumbering" "literal") (.cons (.v 3) .nil)) .nil)))) .nil))))]
def b__law_some (κ : κT) : List S := [(.par [4, 5] (.cons (.bi .list false (.cons (.v 1) .nil)) (.cons (.lst false .nil) .nil))), (.for_ (.nm 3) (.rng1 (.v 2)) [(.ex (.bm .append true (.v 5) (.cons (.bm .pop true (.v 4) (.cons (.call "_law_take" ct__law_take (.cons (.v 0) (.cons (.bi .len true (.cons (.v 4) .nil)) .nil))) .nil)) .nil)))]), (.ret (.some (.v 5)))]
def b__law_cut (κ : κT) : List S := [(.asg (.tp [(.nm 3), (.nm 4)]) (.tup (.cons (.bi .list false (.cons (.v 1) .nil)) (.cons (.c (.int 0)) .nil)))), (.for_ (.tp [(.nm 5), (.nm 6)]) (.seq (.v 0)) [(.ex (.bm .extend true (.v 3) (.cons (.comp true (.tp [(.nm 8), (.nm 9)]) (.seq (.ix (.v 6) (.c (.int 0)))) .none (.tup (.cons (.bin .Mult true (.v 5) (.v 8)) (.cons (.v 9) .nil)))) .nil))), (.asg (.nm 4) (.bin .Add true (.v 4) (.bin .Mult true (.v 5) (.ix (.v 6) (.c (.int 1))))))]), (.asg (.tp [(.nm 7), (.nm 4)]) (.call "_law_merged" (κ "" "_law_merged") (.cons (.v 3) (.cons (.v 4) .nil)))), (.asg (.tp [(.nm 7), (.nm 4)]) (.tup (.cons (.comp true (.tp [(.nm 8), (.nm 9)]) (.seq (.v 7)) .none (.tup (.cons (.call "_law_up" (κ "" "_law_up") (.cons (.v 8) (.cons (.v 2) .nil))) (.cons (.v 9) .nil)))) (.cons (.call "_law_up" (κ "" "_law_up") (.cons (.v 4) (.cons (.v 2) .nil))) .nil)))), (.ret (.some (.ite (.cmp .Gt (.v 4) (.c (.int 0))) (.tup (.cons (.bi .tuple true (.cons (.comp true (.tp [(.nm 8), (.nm 9)]) (.seq (.v 7)) .none (.tup (.cons (.bi .min2 true (.cons (.v 8) (.cons (.v 4) .nil))) (.cons (.v 9) .nil)))) .nil)) (.cons (.v 4) .nil))) (.tup (.cons (.tup .nil) (.cons (.c (.int 0)) .nil))))))]
def b__law_are_pairs (κ : κT) : List S := [(.ite (.or (.cons (.not (.isi (.v 0) "tuple" [])) (.cons (.not (.bi .all true (.cons (.comp true (.nm 3) (.seq (.v 0)) .none (.and (.cons (.isi (.v 3) "tuple" []) (.cons (.cmp .Eq (.bi .len true (.cons (.v 3) .nil)) (.c (.int 2))) .nil)))) .nil))) .nil))) [(.ret (.some (.c (.bl false))))] []), (.ret (.some (.bi .all true (.cons (.comp true (.tp [(.nm 1), (.nm 2)]) (.seq (.v 0)) .none (.and (.cons (.call "_law_is_int" (κ "" "_law_is_int") (.cons (.v 1) .nil)) (.cons (.cmp .Gt (.v 1) (.c (.int 0))) (.cons (.call "_law_is_int" (κ "" "_law_is_int") (.cons (.v 2) .nil)) .nil))))) .nil))))]
def b__law_meaning (κ : κT) : List S := [(.asg (.nm 3) (.bin .Add true (.bin .Sub true (.bi .sum true (.cons (.comp true (.tp [(.nm 5), (.nm 6)]) (.seq (.v 1)) .none (.v 5)) .nil)) (.v 2)) (.c (.int 1)))), (.asg (.nm 4) (.call "_law_merged" (κ "" "_law_merged") (.cons (.bin .Add true (.bi .list true (.cons (.v 1) .nil)) (.lst true (.cons (.tup (.cons (.v 2) (.cons (.neg (.v 0)) .nil))) .nil))) (.cons (.v 2) .nil)))), (.ret (.some (.lst true (.cons (.v 4) (.cons (.call "_law_merged" (κ "" "_law_merged") (.cons (.bin .Add true (.comp true (.tp [(.nm 5), (.nm 6)]) (.seq (.v 1)) .none (.tup (.cons (.v 5) (.cons (.neg (.v 6)) .nil)))) (.lst true (.cons (.tup (.cons (.v 3) (.cons (.v 0) .nil))) .nil))) (.cons (.v 3) .nil))) .nil)))))]
def b_are_terms (κ : κT) : List S := [(.ite (.not (.isi (.v 0) "tuple" [])) [(.ret (.some (.c (.bl false))))] []), (.asg (.nm 1) (.c (.int 0))), (.for_ (.nm 2) (.seq (.v 0)) [(.ite (.or (.cons (.not (.isi (.v 2) "tuple" [])) (.cons (.cmp .NotEq (.bi .len true (.cons (.v 2) .nil)) (.c (.int 2))) (.cons (.not (.call "is_integer" (κ "" "is_integer") (.cons (.ix (.v 2) (.c (.int 0))) .nil))) (.cons (.cmp .Lt (.ix (.v 2) (.c (.int 0))) (.c (.int 1))) .nil))))) [(.ret (.some (.c (.bl false))))] []), (.ite (.or (.cons (.not (.call "is_literal" (κ "" "is_literal") (.cons (.ix (.v 2) (.c (.int 1))) .nil))) (.cons (.cmp .LtE (.bi .abs true (.cons (.ix (.v 2) (.c (.int 1))) .nil)) (.v 1)) .nil))) [(.ret (.some (.c (.bl false))))] []), (.asg (.nm 1) (.bi .abs true (.cons (.ix (.v 2) (.c (.int 1))) .nil)))]), (.ret (.some (.c (.bl true))))]
def b_cut_row (κ : κT) : List S := [(.asg (.nm 3) (.call "added_rows" (κ "" "added_rows") (.cons (.v 0) (.cons (.v 1) .nil)))), (.ret (.some (.call "saturated_row" (κ "" "saturated_row") (.cons (.ite (.cmp .Gt (.v 2) (.c (.int 1))) (.call "divided_row" (κ "" "divided_row") (.cons (.v 3) (.cons (.v 2) .nil))) (.v 3)) .nil))))]
def b_are_pairs (κ : κT) : List S := [(.ite (.or (.cons (.not (.isi (.v 0) "tuple" [])) (.cons (.not (.bi .all true (.cons (.comp true (.nm 3) (.seq (.v 0)) .none (.and (.cons (.isi (.v 3) "tuple" []) (.cons (.cmp .Eq (.bi .len true (.cons (.v 3) .nil)) (.c (.int 2))) .nil)))) .nil))) .nil))) [(.ret (.some (.c (.bl false))))] []), (.ret (.some (.bi .all true (.cons (.comp true (.tp [(.nm 1), (.nm 2)]) (.seq (.v 0)) .none (.and (.cons (.call "is_integer" (κ "" "is_integer") (.cons (.v 1) .nil)) (.cons (.call "is_literal" (κ "" "is_literal") (.cons (.v 2) .nil)) .nil)))) .nil))))]
def b_are_times (κ : κT) : List S := [(.ite (.or (.cons (.not (.isi (.v 0) "tuple" [])) (.cons (.not (.bi .all true (.cons (.comp true (.nm 4) (.seq (.v 0)) .none (.and (.cons (.isi (.v 4) "tuple" []) (.cons (.cmp .Eq (.bi .len true (.cons (.v 4) .nil)) (.c (.int 2))) .nil)))) .nil))) .nil))) [(.ret (.some (.c (.bl false))))] []), (.ret (.some (.bi .all true (.cons (.comp true (.tp [(.nm 2), (.nm 3)]) (.seq (.v 0)) .none (.and (.cons (.call "is_integer" (κ "" "is_integer") (.cons (.v 2) .nil)) (.cons (.cmp .Gt (.v 2) (.c (.int 0))) (.cons (.call "is_between" (κ "" "is_between") (.cons (.v 3) (.cons (.c (.int 0)) (.cons (.bin .Sub true (.v 1) (.c (.int 1))) .nil)))) .nil))))) .nil))))]
def b_Checker___init__ (κ : κT) : List S := [(.fld (.v 0) "Checker" "own_rows" (.bi .list false (.cons (.prop (.v 1) "Rows" "rows" (κ "Rows" "rows")) .nil))), (.fld (.v 0) "Checker" "own_switches" (.prop (.v 1) "Rows" "switches" (κ "Rows" "switches"))), (.fld (.v 0) "Checker" "own_dropped" .dnew)]
def b_Checker_over (κ : κT) : List S := [(.asg (.nm 1) (.comp true (.tp [(.nm 2), (.nm 3)]) (.enum (.fld (.v 0) "Checker" "own_rows")) (.some (.and (.cons (.meth (.v 0) "Checker" "is_live" (κ "Checker" "is_live") (.cons (.v 2) .nil)) (.cons (.call "is_false_row" (κ "" "is_false_row") (.cons (.v 3) .nil)) .nil)))) (.v 2))), (.ret (.some (.ite (.cmp .NotEq (.v 1) (.lst true .nil)) (.ix (.v 1) (.c (.int 0))) (.c .non))))]
def b_Checker_can_set (κ : κT) : List S := [(.ite (.or (.cons (.cmp .NotEq (.bi .len true (.cons (.v 1) .nil)) (.c (.int 2))) (.cons (.not (.call "is_literal" (κ "" "is_literal") (.cons (.ix (.v 1) (.c (.int 1))) .nil))) (.cons (.cmp .Gt (.bi .abs true (.cons (.ix (.v 1) (.c (.int 1))) .nil)) (.fld (.v 0) "Checker" "own_switches")) .nil)))) [(.ret (.some (.c (.bl false))))] []), (.for_ (.tp [(.nm 2), (.nm 3)]) (.enum (.fld (.v 0) "Checker" "own_rows")) [(.ite (.and (.cons (.meth (.v 0) "Checker" "is_live" (κ "Checker" "is_live") (.cons (.v 2) .nil)) (.cons (.bi .any true (.cons (.comp true (.tp [(.nm 4), (.nm 5)]) (.seq (.ix (.v 3) (.c (.int 0)))) .none (.cmp .Eq (.v 5) (.bin .Sub true (.c (.int 0)) (.ix (.v 1) (.c (.int 1)))))) .nil)) .nil))) [(.ret (.some (.c (.bl false))))] [])]), (.ret (.some (.c (.bl true))))]
def b_Checker_can_drop (κ : κT) : List S := [(.ret (.some (.and (.cons (.cmp .Eq (.bi .len true (.cons (.v 1) .nil)) (.c (.int 2))) (.cons (.call "is_between" (κ "" "is_between") (.cons (.ix (.v 1) (.c (.int 1))) (.cons (.c (.int 0)) (.cons (.bin .Sub true (.bi .len true (.cons (.fld (.v 0) "Checker" "own_rows") .nil)) (.c (.int 1))) .nil)))) (.cons (.meth (.v 0) "Checker" "is_live" (κ "Checker" "is_live") (.cons (.ix (.v 1) (.c (.int 1))) .nil)) .nil))))))]
def b_firsts_of (κ : κT) : List S := [(.par [3, 4] (.cons (.lst false .nil) (.cons (.bi .len true (.cons (.prop (.v 0) "Rows" "rows" (κ "Rows" "rows")) .nil)) .nil))), (.for_ (.nm 2) (.seq (.v 1)) [(.ex (.bm .append true (.v 3) (.cons (.v 4) .nil))), (.asg (.nm 4) (.bin .Add true (.v 4) (.ix (.ddsp (.cons (.g "CUT" (.str "cut")) (.cons (.c (.int 1)) (.cons (.g "MEAN" (.str "mean")) (.cons (.c (.int 2)) (.cons (.g "SET" (.str "set")) (.cons (.c (.int 1)) (.cons (.g "DROP" (.str "drop")) (.cons (.c (.int 0)) .nil))))))))) (.ix (.v 2) (.c (.int 0))))))]), (.ret (.some (.v 3)))]
def b_Renumbering___init__ (κ : κT) : List S := [(.fld (.v 0) "Renumbering" "own_rows" (.bi .dict true (.cons (.comp true (.nm 2) (.rng1 (.bi .len true (.cons (.prop (.v 1) "Rows" "rows" (κ "Rows" "rows")) .nil))) .none (.tup (.cons (.v 2) (.cons (.v 2) .nil)))) .nil))), (.fld (.v 0) "Renumbering" "own_next" (.bi .len false (.cons (.prop (.v 1) "Rows" "rows" (κ "Rows" "rows")) .nil))), (.fld (.v 0) "Renumbering" "own_switches" (.bi .dict true (.cons (.comp true (.nm 3) (.rng2 (.c (.int 1)) (.bin .Add true (.prop (.v 1) "Rows" "switches" (κ "Rows" "switches")) (.c (.int 1)))) .none (.tup (.cons (.v 3) (.cons (.v 3) .nil)))) .nil))), (.fld (.v 0) "Renumbering" "own_count" (.prop (.v 1) "Rows" "switches" (κ "Rows" "switches")))]
def b_Renumbering_step (κ : κT) : List S := [(.ite (.cmp .Eq (.ix (.v 1) (.c (.int 0))) (.g "CUT" (.str "cut"))) [(.ret (.some (.tup (.cons (.g "CUT" (.str "cut")) (.cons (.bi .tuple true (.cons (.comp true (.tp [(.nm 2), (.nm 3)]) (.seq (.ix (.v 1) (.c (.int 1)))) .none (.tup (.cons (.v 2) (.cons (.ix (.fld (.v 0) "Renumbering" "own_rows") (.v 3)) .nil)))) .nil)) (.cons (.meth (.v 0) "Renumbering" "terms" (κ "Renumbering" "terms") (.cons (.ix (.v 1) (.c (.int 2))) .nil)) (.cons (.ix (.v 1) (.c (.int 3))) .nil)))))))] []), (.ite (.cmp .Eq (.ix (.v 1) (.c (.int 0))) (.g "MEAN" (.str "mean"))) [(.ret (.some (.tup (.cons (.g "MEAN" (.str "mean")) (.cons (.meth (.v 0) "Renumbering" "terms" (κ "Renumbering" "terms") (.cons (.ix (.v 1) (.c (.int 1))) .nil)) (.cons (.ix (.v 1) (.c (.int 2))) .nil))))))] []), (.ite (.cmp .Eq (.ix (.v 1) (.c (.int 0))) (.g "SET" (.str "set"))) [(.ret (.some (.tup (.cons (.g "SET" (.str "set")) (.cons (.meth (.v 0) "Renumbering" "literal" (κ "Renumbering" "literal") (.cons (.ix (.v 1) (.c (.int 1))) .nil)) .nil)))))] []), (.ret (.some (.tup (.cons (.g "DROP" (.str "drop")) (.cons (.ix (.fld (.v 0) "Renumbering" "own_rows") (.ix (.v 1) (.c (.int 1)))) .nil)))))]
def b__law_step (κ : κT) : List S := [(.ite (.or (.cons (.not (.isi (.v 3) "tuple" [])) (.cons (.cmp .Lt (.bi .len true (.cons (.v 3) .nil)) (.c (.int 2))) (.cons (.not (.isi (.ix (.v 3) (.c (.int 0))) "str" [])) .nil)))) [(.ret (.some (.c .non)))] []), (.ite (.and (.cons (.cmp .Eq (.ix (.v 3) (.c (.int 0))) (.c (.str "cut"))) (.cons (.cmp .Eq (.bi .len true (.cons (.v 3) .nil)) (.c (.int 4))) (.cons (.call "_law_are_pairs" (κ "" "_law_are_pairs") (.cons (.ix (.v 3) (.c (.int 1))) .nil)) (.cons (.call "_law_are_pairs" (κ "" "_law_are_pairs") (.cons (.ix (.v 3) (.c (.int 2))) .nil)) .nil))))) [(.ite (.bi .any true (.cons (.comp true (.tp [(.nm 10), (.nm 8)]) (.seq (.ix (.v 3) (.c (.int 1)))) .none (.or (.cons (.cmp .In (.v 8) (.v 1)) (.cons (.not (.chn .LtE .Lt (.c (.int 0)) (.v 8) (.bi .len true (.cons (.v 0) .nil)))) .nil)))) .nil)) [(.ret (.some (.c .non)))] []), (.ite (.or (.cons (.not (.call "_law_is_int" (κ "" "_law_is_int") (.cons (.ix (.v 3) (.c (.int 3))) .nil))) (.cons (.cmp .Lt (.ix (.v 3) (.c (.int 3))) (.c (.int 1))) .nil))) [(.ret (.some (.c .non)))] []), (.ite (.bi .any true (.cons (.comp true (.tp [(.nm 10), (.nm 11)]) (.seq (.ix (.v 3) (.c (.int 2)))) .none (.not (.chn .Lt .LtE (.c (.int 0)) (.bi .abs true (.cons (.v 11) .nil)) (.v 2)))) .nil)) [(.ret (.some (.c .non)))] []), (.ret (.some (.lst true (.cons (.call "_law_cut" (κ "" "_law_cut") (.cons (.comp true (.tp [(.nm 10), (.nm 8)]) (.seq (.ix (.v 3) (.c (.int 1)))) .none (.tup (.cons (.v 10) (.cons (.ix (.v 0) (.v 8)) .nil)))) (.cons (.ix (.v 3) (.c (.int 2))) (.cons (.ix (.v 3) (.c (.int 3))) .nil)))) .nil))))] []), (.ite (.and (.cons (.cmp .Eq (.ix (.v 3) (.c (.int 0))) (.c (.str "mean"))) (.cons (.cmp .Eq (.bi .len true (.cons (.v 3) .nil)) (.c (.int 3))) (.cons (.call "_law_are_pairs" (κ "" "_law_are_pairs") (.cons (.ix (.v 3) (.c (.int 1))) .nil)) (.cons (.cmp .NotEq (.ix (.v 3) (.c (.int 1))) (.tup .nil)) (.cons (.call "_law_is_int" (κ "" "_law_is_int") (.cons (.ix (.v 3) (.c (.int 2))) .nil)) .nil)))))) [(.asg (.nm 4) (.bin .Add true (.lst true (.cons (.c (.int 0)) .nil)) (.comp true (.tp [(.nm 12), (.nm 11)]) (.seq (.ix (.v 3) (.c (.int 1)))) .none (.bi .abs true (.cons (.v 11) .nil))))), (.ite (.or (.cons (.cmp .NotEq (.v 4) (.sset true (.v 4))) (.cons (.cmp .Gt (.ix (.v 4) (.neg (.c (.int 1)))) (.v 2)) .nil))) [(.ret (.some (.c .non)))] []), (.asg (.nm 5) (.bi .sum true (.cons (.comp true (.tp [(.nm 12), (.nm 11)]) (.seq (.ix (.v 3) (.c (.int 1)))) .none (.v 12)) .nil))), (.ret (.some (.ite (.chn .LtE .LtE (.c (.int 1)) (.ix (.v 3) (.c (.int 2))) (.v 5)) (.call "_law_meaning" (κ "" "_law_meaning") (.cons (.bin .Add true (.v 2) (.c (.int 1))) (.cons (.ix (.v 3) (.c (.int 1))) (.cons (.ix (.v 3) (.c (.int 2))) .nil)))) (.c .non))))] []), (.ite (.or (.cons (.cmp .NotEq (.bi .len true (.cons (.v 3) .nil)) (.c (.int 2))) (.cons (.not (.call "_law_is_int" (κ "" "_law_is_int") (.cons (.ix (.v 3) (.c (.int 1))) .nil))) .nil))) [(.ret (.some (.c .non)))] []), (.ite (.and (.cons (.cmp .Eq (.ix (.v 3) (.c (.int 0))) (.c (.str "set"))) (.cons (.chn .LtE .LtE (.c (.int 1)) (.bi .abs true (.cons (.ix (.v 3) (.c (.int 1))) .nil)) (.v 2)) .nil))) [(.asg (.nm 6) (.comp true (.tp [(.nm 8), (.nm 9)]) (.enum (.v 0)) (.some (.cmp .NotIn (.v 8) (.v 1))) (.v 9))), (.asg (.nm 7) (.bi .any true (.cons (.comp true (.nm 9) (.seq (.v 6)) .none (.cmp .In (.neg (.ix (.v 3) (.c (.int 1)))) (.comp true (.tp [(.nm 12), (.nm 11)]) (.seq (.ix (.v 9) (.c (.int 0)))) .none (.v 11)))) .nil))), (.ret (.some (.ite (.v 7) (.c .non) (.lst true (.cons (.tup (.cons (.tup (.cons (.tup (.cons (.c (.int 1)) (.cons (.ix (.v 3) (.c (.int 1))) .nil))) .nil)) (.cons (.c (.int 1)) .nil))) .nil)))))] []), (.ret (.some (.ite (.and (.cons (.cmp .Eq (.ix (.v 3) (.c (.int 0))) (.c (.str "drop"))) (.cons (.chn .LtE .Lt (.c (.int 0)) (.ix (.v 3) (.c (.int 1))) (.bi .len true (.cons (.v 0) .nil))) (.cons (.cmp .NotIn (.ix (.v 3) (.c (.int 1))) (.v 1)) .nil)))) (.lst true .nil) (.c .non))))]
def b_is_row (κ : κT) : List S := [(.ret (.some (.and (.cons (.isi (.v 0) "tuple" []) (.cons (.cmp .Eq (.bi .len true (.cons (.v 0) .nil)) (.c (.int 2))) (.cons (.call "are_terms" (κ "" "are_terms") (.cons (.ix (.v 0) (.c (.int 0))) .nil)) (.cons (.call "is_integer" (κ "" "is_integer") (.cons (.ix (.v 0) (.c (.int 1))) .nil)) .nil)))))))]
def b_are_axioms (κ : κT) : List S := [(.ret (.some (.and (.cons (.call "are_pairs" (κ "" "are_pairs") (.cons (.v 0) .nil)) (.cons (.bi .all true (.cons (.comp true (.tp [(.nm 1), (.nm 2)]) (.seq (.v 0)) .none (.cmp .Gt (.v 1) (.c (.int 0)))) .nil)) .nil)))))]
def b_Checker_can_mean (κ : κT) : List S := [(.ite (.or (.cons (.cmp .NotEq (.bi .len true (.cons (.v 1) .nil)) (.c (.int 3))) (.cons (.not (.call "are_terms" (κ "" "are_terms") (.cons (.ix (.v 1) (.c (.int 1))) .nil))) (.cons (.cmp .Eq (.ix (.v 1) (.c (.int 1))) (.tup .nil)) (.cons (.cmp .Gt (.bi .abs true (.cons (.ix (.ix (.ix (.v 1) (.c (.int 1))) (.neg (.c (.int 1)))) (.c (.int 1))) .nil)) (.fld (.v 0) "Checker" "own_switches")) .nil))))) [(.ret (.some (.c (.bl false))))] []), (.ret (.some (.call "is_between" (κ "" "is_between") (.cons (.ix (.v 1) (.c (.int 2))) (.cons (.c (.int 1)) (.cons (.call "total_of" (κ "" "total_of") (.cons (.sl true (.v 1) (.some (.c (.int 1))) .none) .nil)) .nil))))))]
def b_needed_by (κ : κT) : List S := [(.asg (.tp [(.nm 4), (.nm 5), (.nm 6), (.nm 7)]) (.tup (.cons (.call "firsts_of" (κ "" "firsts_of") (.cons (.v 0) (.cons (.v 1) .nil))) (.cons (.ddsp (.cons (.v 2) (.cons (.c (.bl true)) .nil))) (.cons .dnew (.cons .dnew .nil)))))), (.for_ (.nm 3) (.rngd (.bin .Sub true (.bi .len true (.cons (.v 1) .nil)) (.c (.int 1))) (.neg (.c (.int 1)))) [(.par [9, 10] (.cons (.ix (.v 1) (.v 3)) (.cons (.ix (.v 4) (.v 3)) .nil))), (.asg (.nm 8) (.bin .Add true (.prop (.v 0) "Rows" "switches" (κ "Rows" "switches")) (.bi .len true (.cons (.comp true (.nm 12) (.seq (.sl true (.v 1) .none (.some (.bin .Add true (.v 3) (.c (.int 1)))))) (.some (.cmp .Eq (.ix (.v 12) (.c (.int 0))) (.g "MEAN" (.str "mean")))) (.v 12)) .nil)))), (.ite (.and (.cons (.cmp .Eq (.ix (.v 9) (.c (.int 0))) (.g "CUT" (.str "cut"))) (.cons (.cmp .In (.v 10) (.v 5)) .nil))) [(.sub (.v 6) (.v 3) (.c (.bl true))), (.ex (.bm .update true (.v 5) (.cons (.comp true (.tp [(.nm 13), (.nm 11)]) (.seq (.ix (.v 9) (.c (.int 1)))) .none (.tup (.cons (.v 11) (.cons (.c (.bl true)) .nil)))) .nil))), (.ex (.bm .update true (.v 7) (.cons (.comp true (.tp [(.nm 13), (.nm 14)]) (.seq (.ix (.v 9) (.c (.int 2)))) .none (.tup (.cons (.bi .abs true (.cons (.v 14) .nil)) (.cons (.c (.bl true)) .nil)))) .nil)))] [(.ite (.and (.cons (.cmp .Eq (.ix (.v 9) (.c (.int 0))) (.g "SET" (.str "set"))) (.cons (.cmp .In (.v 10) (.v 5)) .nil))) [(.sub (.v 6) (.v 3) (.c (.bl true))), (.sub (.v 7) (.bi .abs true (.cons (.ix (.v 9) (.c (.int 1))) .nil)) (.c (.bl true)))] [(.ite (.and (.cons (.cmp .Eq (.ix (.v 9) (.c (.int 0))) (.g "MEAN" (.str "mean"))) (.cons (.or (.cons (.cmp .In (.v 10) (.v 5)) (.cons (.cmp .In (.bin .Add true (.v 10) (.c (.int 1))) (.v 5)) (.cons (.cmp .In (.v 8) (.v 7)) .nil)))) .nil))) [(.sub (.v 6) (.v 3) (.c (.bl true))), (.ex (.bm .update true (.v 7) (.cons (.comp true (.tp [(.nm 15), (.nm 14)]) (.seq (.ix (.v 9) (.c (.int 1)))) .none (.tup (.cons (.bi .abs true (.cons (.v 14) .nil)) (.cons (.c (.bl true)) .nil)))) .nil)))] [])])])]), (.ret (.some (.tup (.cons (.v 6) (.cons (.comp true (.nm 11) (.rng1 (.bi .len true (.cons (.prop (.v 0) "Rows" "rows" (κ "Rows" "rows")) .nil))) (.some (.cmp .In (.v 11) (.v 5))) (.v 11)) .nil)))))]
def b__law_gone_through (κ : κT) : List S := [(.par [3, 4] (.cons (.bi .list false (.cons (.v 1) .nil)) (.cons (.lst false .nil) .nil))), (.for_ (.tp [(.nm 5), (.nm 6)]) (.enum (.v 2)) [(.asg (.nm 7) (.call "_law_step" (κ "" "_law_step") (.cons (.v 3) (.cons (.v 4) (.cons (.v 0) (.cons (.v 6) .nil)))))), (.ite (.cmp .Is (.v 7) (.c .non)) [(.ret (.some (.tup (.cons (.v 3) (.cons (.v 4) (.cons (.v 5) .nil))))))] []), (.ex (.bm .extend true (.v 3) (.cons (.v 7) .nil))), (.ite (.cmp .Eq (.ix (.v 6) (.c (.int 0))) (.c (.str "drop"))) [(.ex (.bm .append true (.v 4) (.cons (.ix (.v 6) (.c (.int 1))) .nil)))] []), (.ite (.cmp .Eq (.ix (.v 6) (.c (.int 0))) (.c (.str "mean"))) [(.asg (.nm 0) (.bin .Add true (.v 0) (.c (.int 1))))] [])]), (.ret (.some (.tup (.cons (.v 3) (.cons (.v 4) (.cons (.c .non) .nil))))))]
def b_Rows___init__ (κ : κT) : List S := [(.ite (.not (.call "is_between" (κ "" "is_between") (.cons (.v 1) (.cons (.c (.int 0)) (.cons (.g "MOST_INNER" (.int 100000)) .nil))))) [.never] []), (.ite (.or (.cons (.not (.isi (.v 2) "tuple" [])) (.cons (.cmp .Gt (.bi .len true (.cons (.v 2) .nil)) (.g "MOST_ROWS" (.int 100000))) .nil))) [.never] []), (.for_ (.nm 3) (.seq (.v 2)) [(.ite (.or (.cons (.not (.call "is_row" (κ "" "is_row") (.cons (.v 3) .nil))) (.cons (.and (.cons (.cmp .NotEq (.ix (.v 3) (.c (.int 0))) (.tup .nil)) (.cons (.cmp .Gt (.bi .abs true (.cons (.ix (.ix (.ix (.v 3) (.c (.int 0))) (.neg (.c (.int 1)))) (.c (.int 1))) .nil)) (.v 1)) .nil))) .nil))) [.never] [])]), (.fld (.v 0) "Rows" "own_switches" (.v 1)), (.fld (.v 0) "Rows" "own_rows" (.v 2))]
def b_Checker_can_cut (κ : κT) : List S := [(.ite (.or (.cons (.cmp .NotEq (.bi .len true (.cons (.v 1) .nil)) (.c (.int 4))) (.cons (.not (.call "are_times" (κ "" "are_times") (.cons (.ix (.v 1) (.c (.int 1))) (.cons (.bi .len true (.cons (.fld (.v 0) "Checker" "own_rows") .nil)) .nil)))) (.cons (.not (.call "are_axioms" (κ "" "are_axioms") (.cons (.ix (.v 1) (.c (.int 2))) .nil))) .nil)))) [(.ret (.some (.c (.bl false))))] []), (.ite (.or (.cons (.not (.bi .all true (.cons (.comp true (.tp [(.nm 2), (.nm 4)]) (.seq (.ix (.v 1) (.c (.int 1)))) .none (.meth (.v 0) "Checker" "is_live" (κ "Checker" "is_live") (.cons (.v 4) .nil))) .nil))) (.cons (.not (.call "is_integer" (κ "" "is_integer") (.cons (.ix (.v 1) (.c (.int 3))) .nil))) (.cons (.cmp .Lt (.ix (.v 1) (.c (.int 3))) (.c (.int 1))) .nil)))) [(.ret (.some (.c (.bl false))))] []), (.ret (.some (.bi .all true (.cons (.comp true (.tp [(.nm 2), (.nm 3)]) (.seq (.ix (.v 1) (.c (.int 2)))) .none (.cmp .LtE (.bi .abs true (.cons (.v 3) .nil)) (.fld (.v 0) "Checker" "own_switches"))) .nil))))]
def b_trimmed_by (κ : κT) : List S := [(.asg (.nm 3) (.ix (.call "needed_by" (κ "" "needed_by") (.cons (.v 0) (.cons (.v 1) (.cons (.v 2) .nil)))) (.c (.int 0)))), (.par [4, 5, 6] (.cons (.mk "Renumbering" (κ "Renumbering" "__init__") (.cons (.v 0) .nil)) (.cons (.lst false .nil) (.cons (.prop (.v 0) "Rows" "switches" (κ "Rows" "switches")) .nil)))), (.for_ (.tp [(.nm 7), (.tp [(.nm 8), (.nm 9)])]) (.ezip (.v 1) (.call "firsts_of" (κ "" "firsts_of") (.cons (.v 0) (.cons (.v 1) .nil)))) [(.asg (.nm 6) (.bin .Add true (.v 6) (.bi .int true (.cons (.cmp .Eq (.ix (.v 8) (.c (.int 0))) (.g "MEAN" (.str "mean"))) .nil)))), (.ite (.cmp .In (.v 7) (.v 3)) [(.ite (.cmp .Eq (.ix (.v 8) (.c (.int 0))) (.g "MEAN" (.str "mean"))) [(.ex (.bm .append true (.v 5) (.cons (.meth (.v 4) "Renumbering" "step" (κ "Renumbering" "step") (.cons (.v 8) .nil)) .nil))), (.ex (.meth (.v 4) "Renumbering" "keep_switch" (κ "Renumbering" "keep_switch") (.cons (.v 6) .nil))), (.ex (.meth (.v 4) "Renumbering" "keep" (κ "Renumbering" "keep") (.cons (.v 9) (.cons (.c (.int 2)) .nil))))] [(.ex (.bm .append true (.v 5) (.cons (.meth (.v 4) "Renumbering" "step" (κ "Renumbering" "step") (.cons (.v 8) .nil)) .nil))), (.ex (.meth (.v 4) "Renumbering" "keep" (κ "Renumbering" "keep") (.cons (.v 9) (.cons (.c (.int 1)) .nil))))])] [(.ite (.and (.cons (.cmp .Eq (.ix (.v 8) (.c (.int 0))) (.g "DROP" (.str "drop"))) (.cons (.meth (.v 4) "Renumbering" "has_row" (κ "Renumbering" "has_row") (.cons (.ix (.v 8) (.c (.int 1))) .nil)) .nil))) [(.ex (.bm .append true (.v 5) (.cons (.meth (.v 4) "Renumbering" "step" (κ "Renumbering" "step") (.cons (.v 8) .nil)) .nil)))] [])])]), (.ret (.some (.bi .tuple true (.cons (.v 5) .nil))))]
def b__law_bars (κ : κT) : List S := [(.ite (.not (.isi (.v 2) "tuple" [])) [(.ret (.some (.c (.bl false))))] []), (.asg (.tp [(.nm 4), (.nm 5), (.nm 6)]) (.call "_law_gone_through" (κ "" "_law_gone_through") (.cons (.v 0) (.cons (.v 1) (.cons (.v 2) .nil))))), (.ite (.cmp .IsNot (.v 6) (.c .non)) [(.ret (.some (.c (.bl false))))] []), (.asg (.nm 3) (.comp true (.tp [(.nm 7), (.nm 8)]) (.enum (.v 4)) (.some (.cmp .Lt (.bi .sum true (.cons (.comp true (.tp [(.nm 9), (.nm 10)]) (.seq (.ix (.v 8) (.c (.int 0)))) .none (.v 9)) .nil)) (.ix (.v 8) (.c (.int 1))))) (.v 7))), (.ret (.some (.bi .any true (.cons (.comp true (.nm 7) (.seq (.v 3)) .none (.cmp .NotIn (.v 7) (.v 5))) .nil))))]
def b_Checker_takes (κ : κT) : List S := [(.ite (.or (.cons (.not (.isi (.v 1) "tuple" [])) (.cons (.cmp .Eq (.v 1) (.tup .nil)) (.cons (.not (.isi (.ix (.v 1) (.c (.int 0))) "str" [])) .nil)))) [(.ret (.some (.c (.bl false))))] []), (.ite (.and (.cons (.cmp .Eq (.ix (.v 1) (.c (.int 0))) (.g "CUT" (.str "cut"))) (.cons (.meth (.v 0) "Checker" "can_cut" (κ "Checker" "can_cut") (.cons (.v 1) .nil)) .nil))) [(.asg (.nm 2) (.comp true (.tp [(.nm 3), (.nm 4)]) (.seq (.ix (.v 1) (.c (.int 1)))) .none (.tup (.cons (.v 3) (.cons (.ix (.fld (.v 0) "Checker" "own_rows") (.v 4)) .nil))))), (.ex (.bm .append true (.fld (.v 0) "Checker" "own_rows") (.cons (.call "cut_row" (κ "" "cut_row") (.cons (.v 2) (.cons (.bi .list true (.cons (.ix (.v 1) (.c (.int 2))) .nil)) (.cons (.ix (.v 1) (.c (.int 3))) .nil)))) .nil))), (.ret (.some (.c (.bl true))))] []), (.ite (.and (.cons (.cmp .Eq (.ix (.v 1) (.c (.int 0))) (.g "MEAN" (.str "mean"))) (.cons (.meth (.v 0) "Checker" "can_mean" (κ "Checker" "can_mean") (.cons (.v 1) .nil)) .nil))) [(.fld (.v 0) "Checker" "own_switches" (.bin .Add false (.fld (.v 0) "Checker" "own_switches") (.c (.int 1)))), (.ex (.bm .extend true (.fld (.v 0) "Checker" "own_rows") (.cons (.call "rows_of_meaning" (κ "" "rows_of_meaning") (.cons (.fld (.v 0) "Checker" "own_switches") (.cons (.sl true (.v 1) (.some (.c (.int 1))) .none) .nil))) .nil))), (.ret (.some (.c (.bl true))))] []), (.ite (.and (.cons (.cmp .Eq (.ix (.v 1) (.c (.int 0))) (.g "SET" (.str "set"))) (.cons (.meth (.v 0) "Checker" "can_set" (κ "Checker" "can_set") (.cons (.v 1) .nil)) .nil))) [(.ex (.bm .append true (.fld (.v 0) "Checker" "own_rows") (.cons (.tup (.cons (.tup (.cons (.tup (.cons (.c (.int 1)) (.cons (.ix (.v 1) (.c (.int 1))) .nil))) .nil)) (.cons (.c (.int 1)) .nil))) .nil))), (.ret (.some (.c (.bl true))))] []), (.ite (.and (.cons (.cmp .Eq (.ix (.v 1) (.c (.int 0))) (.g "DROP" (.str "drop"))) (.cons (.meth (.v 0) "Checker" "can_drop" (κ "Checker" "can_drop") (.cons (.v 1) .nil)) .nil))) [(.sub (.fld (.v 0) "Checker" "own_dropped") (.ix (.v 1) (.c (.int 1))) (.c (.bl true))), (.ret (.some (.c (.bl true))))] []), (.ret (.some (.c (.bl false))))]
def b_first_wrong (κ : κT) : List S := [(.for_ (.tp [(.nm 2), (.nm 3)]) (.enum (.v 1)) [(.ite (.not (.meth (.v 0) "Checker" "takes" (κ "Checker" "takes") (.cons (.v 3) .nil))) [(.ret (.some (.v 2)))] [])]), (.ret (.some (.c .non)))]
def b_does_bar (κ : κT) : List S := [(.asg (.nm 2) (.mk "Checker" (κ "Checker" "__init__") (.cons (.v 0) .nil))), (.ret (.some (.and (.cons (.isi (.v 1) "tuple" []) (.cons (.cmp .Is (.call "first_wrong" (κ "" "first_wrong") (.cons (.v 2) (.cons (.v 1) .nil))) (.c .non)) (.cons (.cmp .IsNot (.meth (.v 2) "Checker" "over" (κ "Checker" "over") .nil) (.c .non)) .nil))))))]
def b_check_steps (κ : κT) : List S := [(.ex (.call "check_rows" (κ "" "check_rows") (.cons (.v 0) .nil))), (.asg (.nm 2) (.mk "Checker" (κ "Checker" "__init__") (.cons (.v 0) .nil))), (.ite (.not (.isi (.v 1) "tuple" [])) [.never] []), (.asg (.nm 3) (.call "first_wrong" (κ "" "first_wrong") (.cons (.v 2) (.cons (.v 1) .nil)))), (.ite (.cmp .IsNot (.v 3) (.c .non)) [(.raise_ "BadPaper" (.v 3))] []), (.ret (.some (.v 2)))]
def b_bars (κ : κT) : List S := [(.ex (.call "check_rows" (κ "" "check_rows") (.cons (.v 0) .nil))), (.ret (.some (.call "does_bar" (κ "" "does_bar") (.cons (.v 0) (.cons (.v 1) .nil)))))]
def b_rows_by (κ : κT) : List S := [(.ret (.some (.bi .tuple true (.cons (.meth (.call "check_steps" (κ "" "check_steps") (.cons (.v 0) (.cons (.v 1) .nil))) "Checker" "all_rows" (κ "Checker" "all_rows") .nil) .nil))))]
def b_live_by (κ : κT) : List S := [(.asg (.nm 2) (.call "check_steps" (κ "" "check_steps") (.cons (.v 0) (.cons (.v 1) .nil)))), (.ret (.some (.bi .tuple true (.cons (.comp true (.nm 3) (.rng1 (.meth (.v 2) "Checker" "count" (κ "Checker" "count") .nil)) (.some (.meth (.v 2) "Checker" "is_live" (κ "Checker" "is_live") (.cons (.v 3) .nil))) (.v 3)) .nil))))]
def b_check_bar (κ : κT) : List S := [(.asg (.nm 2) (.meth (.call "check_steps" (κ "" "check_steps") (.cons (.v 0) (.cons (.v 1) .nil))) "Checker" "over" (κ "Checker" "over") .nil)), (.ite (.cmp .Is (.v 2) (.c .non)) [.never] []), (.ret (.some (.v 2)))]
def b_trimmed (κ : κT) : List S := [(.ret (.some (.call "trimmed_by" (κ "" "trimmed_by") (.cons (.v 0) (.cons (.v 1) (.cons (.call "check_bar" (κ "" "check_bar") (.cons (.v 0) (.cons (.v 1) .nil))) .nil))))))]
def b_used_rows (κ : κT) : List S := [(.ret (.some (.bi .tuple true (.cons (.ix (.call "needed_by" (κ "" "needed_by") (.cons (.v 0) (.cons (.v 1) (.cons (.call "check_bar" (κ "" "check_bar") (.cons (.v 0) (.cons (.v 1) .nil))) .nil)))) (.c (.int 1))) .nil))))]
def b__law_wrong (κ : κT) : List S := [(.asg (.nm 2) (.ix (.heard "_law_heard" "_law_wrong" ["BadPaper"] (.call "rows_by" (κ "" "rows_by") (.cons (.v 0) (.cons (.v 1) .nil)))) (.c (.int 0)))), (.ret (.some (.ite (.ise (.v 2) "BadPaper" ["BadPaper"]) (.xval (.v 2) ["BadPaper"]) (.c .non))))]
def b__law_right (κ : κT) : List S := [(.asg (.tp [(.nm 9), (.nm 10), (.nm 11)]) (.call "_law_some" ct__law_some (.cons (.v 0) (.cons (.lst true (.cons (.c (.int 1)) (.cons (.c (.int 2)) (.cons (.c (.int 3)) .nil)))) (.cons (.c (.int 3)) .nil))))), (.par [12, 13] (.cons (.call "_law_merged" (κ "" "_law_merged") (.cons (.lst true (.cons (.tup (.cons (.c (.int 1)) (.cons (.v 9) .nil))) (.cons (.tup (.cons (.c (.int 1)) (.cons (.v 10) .nil))) .nil))) (.cons (.c (.int 1)) .nil))) (.cons (.call "_law_merged" (κ "" "_law_merged") (.cons (.lst true (.cons (.tup (.cons (.c (.int 1)) (.cons (.neg (.v 9)) .nil))) (.cons (.tup (.cons (.c (.int 1)) (.cons (.v 11) .nil))) .nil))) (.cons (.c (.int 1)) .nil))) .nil))), (.asg (.nm 1) (.mk "Rows" (κ "Rows" "__init__") (.cons (.c (.int 3)) (.cons (.tup (.cons (.v 12) (.cons (.v 13) .nil))) .nil)))), (.ite (.or (.cons (.cmp .IsNot (.call "_law_wrong" (κ "" "_law_wrong") (.cons (.v 1) (.cons (.tup (.cons (.tup (.cons (.c (.str "set")) (.cons (.v 10) .nil))) (.cons (.tup (.cons (.c (.str "set")) (.cons (.v 11) .nil))) .nil))) .nil))) (.c .non)) (.cons (.cmp .NotEq (.call "_law_wrong" (κ "" "_law_wrong") (.cons (.v 1) (.cons (.tup (.cons (.tup (.cons (.c (.str "set")) (.cons (.v 9) .nil))) .nil)) .nil))) (.c (.int 0))) .nil))) [(.ret (.some (.c (.bl false))))] []), (.ite (.cmp .IsNot (.call "_law_wrong" (κ "" "_law_wrong") (.cons (.v 1) (.cons (.tup (.cons (.tup (.cons (.c (.str "drop")) (.cons (.c (.int 1)) .nil))) (.cons (.tup (.cons (.c (.str "set")) (.cons (.v 9) .nil))) (.cons (.tup (.cons (.c (.str "set")) (.cons (.neg (.v 11)) .nil))) .nil)))) .nil))) (.c .non)) [(.ret (.some (.c (.bl false))))] []), (.ite (.cmp .NotEq (.call "_law_wrong" (κ "" "_law_wrong") (.cons (.v 1) (.cons (.tup (.cons (.tup (.cons (.c (.str "drop")) (.cons (.c (.int 0)) .nil))) (.cons (.tup (.cons (.c (.str "drop")) (.cons (.c (.int 0)) .nil))) .nil))) .nil))) (.c (.int 1))) [(.ret (.some (.c (.bl false))))] []), (.ite (.cmp .NotEq (.call "_law_wrong" (κ "" "_law_wrong") (.cons (.v 1) (.cons (.tup (.cons (.tup (.cons (.c (.str "drop")) (.cons (.c (.int 0)) .nil))) (.cons (.tup (.cons (.c (.str "cut")) (.cons (.tup (.cons (.tup (.cons (.c (.int 1)) (.cons (.c (.int 0)) .nil))) .nil)) (.cons (.tup .nil) (.cons (.c (.int 1)) .nil))))) .nil))) .nil))) (.c (.int 1))) [(.ret (.some (.c (.bl false))))] []), (.ite (.cmp .NotEq (.call "live_by" (κ "" "live_by") (.cons (.v 1) (.cons (.tup (.cons (.tup (.cons (.c (.str "drop")) (.cons (.c (.int 1)) .nil))) (.cons (.tup (.cons (.c (.str "set")) (.cons (.v 9) .nil))) (.cons (.tup (.cons (.c (.str "drop")) (.cons (.c (.int 2)) .nil))) .nil)))) .nil))) (.tup (.cons (.c (.int 0)) .nil))) [(.ret (.some (.c (.bl false))))] []), (.asg (.nm 2) (.tup (.cons (.tup (.cons (.c (.int 1)) (.cons (.c (.int 1)) .nil))) (.cons (.tup (.cons (.c (.int 1)) (.cons (.c (.int 2)) .nil))) (.cons (.tup (.cons (.c (.int 1)) (.cons (.c (.int 3)) .nil))) .nil))))), (.asg (.nm 3) (.call "rows_by" (κ "" "rows_by") (.cons (.v 1) (.cons (.tup (.cons (.tup (.cons (.c (.str "mean")) (.cons (.v 2) (.cons (.c (.int 2)) .nil)))) .nil)) .nil)))), (.ite (.or (.cons (.cmp .NotEq (.bi .repr true (.cons (.sl true (.v 3) (.some (.c (.int 2))) .none) .nil)) (.bi .repr true (.cons (.bi .tuple true (.cons (.call "_law_meaning" (κ "" "_law_meaning") (.cons (.c (.int 4)) (.cons (.v 2) (.cons (.c (.int 2)) .nil)))) .nil)) .nil))) (.cons (.call "bars" (κ "" "bars") (.cons (.v 1) (.cons (.tup (.cons (.tup (.cons (.c (.str "mean")) (.cons (.v 2) (.cons (.c (.int 2)) .nil)))) .nil)) .nil))) .nil))) [(.ret (.some (.c (.bl false))))] []), (.for_ (.nm 4) (.seq (.tup (.cons (.c (.int 0)) (.cons (.c (.int 4)) (.cons (.c (.bl true)) (.cons (.c .non) (.cons (.neg (.c (.int 1))) .nil))))))) [(.ite (.cmp .NotEq (.call "_law_wrong" (κ "" "_law_wrong") (.cons (.v 1) (.cons (.tup (.cons (.tup (.cons (.c (.str "mean")) (.cons (.v 2) (.cons (.v 4) .nil)))) .nil)) .nil))) (.c (.int 0))) [(.ret (.some (.c (.bl false))))] [])]), (.ite (.or (.cons (.cmp .NotEq (.call "_law_wrong" (κ "" "_law_wrong") (.cons (.v 1) (.cons (.tup (.cons (.tup (.cons (.c (.str "mean")) (.cons (.tup (.cons (.tup (.cons (.c (.int 1)) (.cons (.c (.int 4)) .nil))) .nil)) (.cons (.c (.int 1)) .nil)))) .nil)) .nil))) (.c (.int 0))) (.cons (.cmp .NotEq (.call "_law_wrong" (κ "" "_law_wrong") (.cons (.v 1) (.cons (.tup (.cons (.tup (.cons (.c (.str "mean")) (.cons (.tup .nil) (.cons (.c (.int 1)) .nil)))) .nil)) .nil))) (.c (.int 0))) .nil))) [(.ret (.some (.c (.bl false))))] []), (.ite (.cmp .IsNot (.call "_law_wrong" (κ "" "_law_wrong") (.cons (.v 1) (.cons (.tup (.cons (.tup (.cons (.c (.str "mean")) (.cons (.v 2) (.cons (.c (.int 2)) .nil)))) (.cons (.tup (.cons (.c (.str "mean")) (.cons (.tup (.cons (.tup (.cons (.c (.int 2)) (.cons (.neg (.c (.int 4))) .nil))) .nil)) (.cons (.c (.int 1)) .nil)))) (.cons (.tup (.cons (.c (.str "cut")) (.cons (.tup .nil) (.cons (.tup (.cons (.tup (.cons (.c (.int 1)) (.cons (.c (.int 5)) .nil))) .nil)) (.cons (.c (.int 1)) .nil))))) .nil)))) .nil))) (.c .non)) [(.ret (.some (.c (.bl false))))] []), (.asg (.nm 5) (.mk "Rows" (κ "Rows" "__init__") (.cons (.c (.int 3)) (.cons (.tup (.cons (.tup (.cons (.v 2) (.cons (.c (.int 2)) .nil))) (.cons (.tup (.cons (.tup (.cons (.tup (.cons (.c (.int 1)) (.cons (.neg (.c (.int 1))) .nil))) (.cons (.tup (.cons (.c (.int 1)) (.cons (.neg (.c (.int 2))) .nil))) (.cons (.tup (.cons (.c (.int 1)) (.cons (.neg (.c (.int 3))) .nil))) .nil)))) (.cons (.c (.int 2)) .nil))) .nil))) .nil)))), (.ite (.cmp .IsNot (.call "bars" (κ "" "bars") (.cons (.v 5) (.cons (.tup (.cons (.tup (.cons (.c (.str "cut")) (.cons (.tup (.cons (.tup (.cons (.c (.int 1)) (.cons (.c (.int 0)) .nil))) (.cons (.tup (.cons (.c (.int 1)) (.cons (.c (.int 1)) .nil))) .nil))) (.cons (.tup .nil) (.cons (.c (.int 1)) .nil))))) .nil)) .nil))) (.c (.bl true))) [(.ret (.some (.c (.bl false))))] []), (.asg (.nm 6) (.tup (.cons (.tup (.cons (.c (.str "mean")) (.cons (.tup (.cons (.tup (.cons (.c (.int 1)) (.cons (.c (.int 1)) .nil))) .nil)) (.cons (.c (.int 1)) .nil)))) (.cons (.tup (.cons (.c (.str "mean")) (.cons (.v 2) (.cons (.c (.int 2)) .nil)))) (.cons (.tup (.cons (.c (.str "cut")) (.cons (.tup (.cons (.tup (.cons (.c (.int 1)) (.cons (.c (.int 0)) .nil))) (.cons (.tup (.cons (.c (.int 1)) (.cons (.c (.int 5)) .nil))) .nil))) (.cons (.tup .nil) (.cons (.c (.int 1)) .nil))))) .nil))))), (.asg (.nm 6) (.bin .Add true (.v 6) (.tup (.cons (.tup (.cons (.c (.str "cut")) (.cons (.tup (.cons (.tup (.cons (.c (.int 1)) (.cons (.c (.int 1)) .nil))) (.cons (.tup (.cons (.c (.int 1)) (.cons (.c (.int 4)) .nil))) .nil))) (.cons (.tup .nil) (.cons (.c (.int 1)) .nil))))) .nil)))), (.asg (.nm 6) (.bin .Add true (.v 6) (.tup (.cons (.tup (.cons (.c (.str "cut")) (.cons (.tup (.cons (.tup (.cons (.c (.int 1)) (.cons (.c (.int 6)) .nil))) (.cons (.tup (.cons (.c (.int 1)) (.cons (.c (.int 7)) .nil))) .nil))) (.cons (.tup .nil) (.cons (.c (.int 1)) .nil))))) (.cons (.tup (.cons (.c (.str "cut")) (.cons (.tup (.cons (.tup (.cons (.c (.int 1)) (.cons (.c (.int 8)) .nil))) .nil)) (.cons (.tup .nil) (.cons (.c (.int 1)) .nil))))) .nil))))), (.asg (.tp [(.nm 14), (.nm 15), (.nm 16)]) (.call "_law_gone_through" (κ "" "_law_gone_through") (.cons (.c (.int 3)) (.cons (.prop (.v 5) "Rows" "rows" (κ "Rows" "rows")) (.cons (.v 6) .nil))))), (.ite (.or (.cons (.cmp .IsNot (.v 16) (.c .non)) (.cons (.cmp .NotEq (.call "bars" (κ "" "bars") (.cons (.v 5) (.cons (.v 6) .nil))) (.call "_law_bars" (κ "" "_law_bars") (.cons (.c (.int 3)) (.cons (.prop (.v 5) "Rows" "rows" (κ "Rows" "rows")) (.cons (.v 6) .nil))))) .nil))) [(.ret (.some (.c (.bl false))))] []), (.ite (.not (.call "bars" (κ "" "bars") (.cons (.v 5) (.cons (.v 6) .nil)))) [(.ret (.some (.c (.bl false))))] []), (.asg (.nm 7) (.call "trimmed" (κ "" "trimmed") (.cons (.v 5) (.cons (.v 6) .nil)))), (.ite (.or (.cons (.cmp .NotEq (.comp true (.nm 17) (.seq (.v 7)) .none (.ix (.v 17) (.c (.int 0)))) (.lst true (.cons (.c (.str "mean")) (.cons (.c (.str "cut")) (.cons (.c (.str "cut")) (.cons (.c (.str "cut")) .nil)))))) (.cons (.cmp .NotEq (.ix (.v 7) (.c (.int 0))) (.tup (.cons (.c (.str "mean")) (.cons (.v 2) (.cons (.c (.int 2)) .nil))))) .nil))) [(.ret (.some (.c (.bl false))))] []), (.ite (.or (.cons (.not (.call "_law_bars" (κ "" "_law_bars") (.cons (.c (.int 3)) (.cons (.prop (.v 5) "Rows" "rows" (κ "Rows" "rows")) (.cons (.v 7) .nil))))) (.cons (.cmp .NotEq (.call "used_rows" (κ "" "used_rows") (.cons (.v 5) (.cons (.v 6) .nil))) (.tup (.cons (.c (.int 0)) (.cons (.c (.int 1)) .nil)))) (.cons (.cmp .NotEq (.call "trimmed" (κ "" "trimmed") (.cons (.v 5) (.cons (.v 7) .nil))) (.v 7)) .nil)))) [(.ret (.some (.c (.bl false))))] []), (.asg (.nm 8) (.tup (.cons (.tup (.cons (.c (.str "drop")) (.cons (.c (.int 0)) .nil))) (.cons (.tup (.cons (.c (.str "drop")) (.cons (.c (.int 1)) .nil))) .nil)))), (.ret (.some (.and (.cons (.cmp .Is (.call "_law_wrong" (κ "" "_law_wrong") (.cons (.v 5) (.cons (.v 8) .nil))) (.c .non)) (.cons (.cmp .Is (.call "bars" (κ "" "bars") (.cons (.v 5) (.cons (.v 8) .nil))) (.c (.bl false))) (.cons (.cmp .Eq (.call "live_by" (κ "" "live_by") (.cons (.v 5) (.cons (.v 8) .nil))) (.tup .nil)) .nil))))))]
def b_law (κ : κT) : List S := [(.for_ (.nm 1) (.seq (.call "_law_cells" ct__law_cells (.cons (.v 0) (.cons (.c (.int 3)) .nil)))) [(.asg (.nm 2) (.call "_law_pot" ct__law_pot (.cons (.v 0) (.cons (.v 1) .nil)))), (.ite (.not (.bi .all true (.cons (.comp true (.nm 3) (.rng1 (.c (.int 3))) .none (.call "_law_right" ct__law_right (.cons (.v 2) .nil))) .nil))) [(.ret (.some (.c (.bl false))))] [])]), (.ret (.some (.c (.bl true))))]
def κ0 : κT := fun _ _ _ _ _ _ => False
def tab0 : TL.Tb := [
  (("", "is_integer"), (1, 1, b_is_integer κ0)),
  (("", "merged"), (7, 2, b_merged κ0)),
  (("", "saturated_row"), (5, 1, b_saturated_row κ0)),
  (("", "up_by"), (2, 2, b_up_by κ0)),
  (("", "total_of"), (3, 1, b_total_of κ0)),
  (("Rows", "switches"), (1, 1, b_Rows_switches κ0)),
  (("Rows", "rows"), (1, 1, b_Rows_rows κ0)),
  (("", "check_rows"), (1, 1, b_check_rows κ0)),
  (("Checker", "all_rows"), (1, 1, b_Checker_all_rows κ0)),
  (("Checker", "count"), (1, 1, b_Checker_count κ0)),
  (("Checker", "is_live"), (2, 2, b_Checker_is_live κ0)),
  (("Renumbering", "keep"), (4, 3, b_Renumbering_keep κ0)),
  (("Renumbering", "keep_switch"), (2, 2, b_Renumbering_keep_switch κ0)),
  (("Renumbering", "literal"), (3, 2, b_Renumbering_literal κ0)),
  (("Renumbering", "has_row"), (2, 2, b_Renumbering_has_row κ0))]
def tab1 : TL.Tb := [
  (("", "_law_is_int"), (1, 1, b__law_is_int κ0)),
  (("", "_law_merged"), (7, 2, b__law_merged κ0)),
  (("", "_law_up"), (2, 2, b__law_up κ0)),
  (("", "is_between"), (3, 3, b_is_between κ0)),
  (("", "is_literal"), (1, 1, b_is_literal κ0)),
  (("", "divided_row"), (6, 2, b_divided_row κ0)),
  (("", "added_rows"), (8, 2, b_added_rows κ0)),
  (("", "is_false_row"), (1, 1, b_is_false_row κ0)),
  (("", "rows_of_meaning"), (9, 2, b_rows_of_meaning κ0)),
  (("Renumbering", "terms"), (4, 2, b_Renumbering_terms κ0)),
  (("", "_law_cut"), (10, 3, b__law_cut κ0)),
  (("", "_law_are_pairs"), (4, 1, b__law_are_pairs κ0)),
  (("", "_law_meaning"), (7, 3, b__law_meaning κ0)),
  (("", "are_terms"), (3, 1, b_are_terms κ0)),
  (("", "cut_row"), (4, 3, b_cut_row κ0))]
def tab2 : TL.Tb := [
  (("", "are_pairs"), (4, 1, b_are_pairs κ0)),
  (("", "are_times"), (5, 2, b_are_times κ0)),
  (("Checker", "__init__"), (2, 2, b_Checker___init__ κ0)),
  (("Checker", "over"), (4, 1, b_Checker_over κ0)),
  (("Checker", "can_set"), (6, 2, b_Checker_can_set κ0)),
  (("Checker", "can_drop"), (2, 2, b_Checker_can_drop κ0)),
  (("", "firsts_of"), (5, 2, b_firsts_of κ0)),
  (("Renumbering", "__init__"), (4, 2, b_Renumbering___init__ κ0)),
  (("Renumbering", "step"), (4, 2, b_Renumbering_step κ0)),
  (("", "_law_step"), (13, 4, b__law_step κ0)),
  (("", "is_row"), (1, 1, b_is_row κ0)),
  (("", "are_axioms"), (3, 1, b_are_axioms κ0)),
  (("Checker", "can_mean"), (2, 2, b_Checker_can_mean κ0)),
  (("", "needed_by"), (16, 3, b_needed_by κ0)),
  (("", "_law_gone_through"), (8, 3, b__law_gone_through κ0))]
def tab3 : TL.Tb := [
  (("Rows", "__init__"), (4, 3, b_Rows___init__ κ0)),
  (("Checker", "can_cut"), (5, 2, b_Checker_can_cut κ0)),
  (("", "trimmed_by"), (10, 3, b_trimmed_by κ0)),
  (("", "_law_bars"), (11, 3, b__law_bars κ0)),
  (("Checker", "takes"), (5, 2, b_Checker_takes κ0)),
  (("", "first_wrong"), (4, 2, b_first_wrong κ0)),
  (("", "does_bar"), (3, 2, b_does_bar κ0)),
  (("", "check_steps"), (4, 2, b_check_steps κ0)),
  (("", "bars"), (2, 2, b_bars κ0)),
  (("", "rows_by"), (2, 2, b_rows_by κ0)),
  (("", "live_by"), (4, 2, b_live_by κ0)),
  (("", "check_bar"), (3, 2, b_check_bar κ0)),
  (("", "trimmed"), (2, 2, b_trimmed κ0)),
  (("", "used_rows"), (2, 2, b_used_rows κ0)),
  (("", "_law_wrong"), (3, 2, b__law_wrong κ0))]
def tabl : TL.Tb := tab0 ++ (tab1 ++ (tab2 ++ (tab3)))
abbrev qR : Option Str := some "_law_wrong"
abbrev κR : κT := TL.RunC qR tabl
def ir_is_integer : List S := b_is_integer κR
def ir_merged : List S := b_merged κR
def ir_saturated_row : List S := b_saturated_row κR
def ir_up_by : List S := b_up_by κR
def ir_total_of : List S := b_total_of κR
def ir_Rows_switches : List S := b_Rows_switches κR
def ir_Rows_rows : List S := b_Rows_rows κR
def ir_check_rows : List S := b_check_rows κR
def ir_Checker_all_rows : List S := b_Checker_all_rows κR
def ir_Checker_count : List S := b_Checker_count κR
def ir_Checker_is_live : List S := b_Checker_is_live κR
def ir_Renumbering_keep : List S := b_Renumbering_keep κR
def ir_Renumbering_keep_switch : List S := b_Renumbering_keep_switch κR
def ir_Renumbering_literal : List S := b_Renumbering_literal κR
def ir_Renumbering_has_row : List S := b_Renumbering_has_row κR
def ir__law_pot : List S := b__law_pot κR
def ir__law_take : List S := b__law_take κR
def ir__law_cells : List S := b__law_cells κR
def ir__law_is_int : List S := b__law_is_int κR
def ir__law_merged : List S := b__law_merged κR
def ir__law_up : List S := b__law_up κR
def ir_is_between : List S := b_is_between κR
def ir_is_literal : List S := b_is_literal κR
def ir_divided_row : List S := b_divided_row κR
def ir_added_rows : List S := b_added_rows κR
def ir_is_false_row : List S := b_is_false_row κR
def ir_rows_of_meaning : List S := b_rows_of_meaning κR
def ir_Renumbering_terms : List S := b_Renumbering_terms κR
def ir__law_some : List S := b__law_some κR
def ir__law_cut : List S := b__law_cut κR
def ir__law_are_pairs : List S := b__law_are_pairs κR
def ir__law_meaning : List S := b__law_meaning κR
def ir_are_terms : List S := b_are_terms κR
def ir_cut_row : List S := b_cut_row κR
def ir_are_pairs : List S := b_are_pairs κR
def ir_are_times : List S := b_are_times κR
def ir_Checker___init__ : List S := b_Checker___init__ κR
def ir_Checker_over : List S := b_Checker_over κR
def ir_Checker_can_set : List S := b_Checker_can_set κR
def ir_Checker_can_drop : List S := b_Checker_can_drop κR
def ir_firsts_of : List S := b_firsts_of κR
def ir_Renumbering___init__ : List S := b_Renumbering___init__ κR
def ir_Renumbering_step : List S := b_Renumbering_step κR
def ir__law_step : List S := b__law_step κR
def ir_is_row : List S := b_is_row κR
def ir_are_axioms : List S := b_are_axioms κR
def ir_Checker_can_mean : List S := b_Checker_can_mean κR
def ir_needed_by : List S := b_needed_by κR
def ir__law_gone_through : List S := b__law_gone_through κR
def ir_Rows___init__ : List S := b_Rows___init__ κR
def ir_Checker_can_cut : List S := b_Checker_can_cut κR
def ir_trimmed_by : List S := b_trimmed_by κR
def ir__law_bars : List S := b__law_bars κR
def ir_Checker_takes : List S := b_Checker_takes κR
def ir_first_wrong : List S := b_first_wrong κR
def ir_does_bar : List S := b_does_bar κR
def ir_check_steps : List S := b_check_steps κR
def ir_bars : List S := b_bars κR
def ir_rows_by : List S := b_rows_by κR
def ir_live_by : List S := b_live_by κR
def ir_check_bar : List S := b_check_bar κR
def ir_trimmed : List S := b_trimmed κR
def ir_used_rows : List S := b_used_rows κR
def ir__law_wrong : List S := b__law_wrong κR
def ir__law_right : List S := b__law_right κR
def ir_law : List S := b_law κR
theorem tb_is_integer : TL.tbAt "" "is_integer" tabl = some (1, 1, b_is_integer κ0) := by kernel_rfl
theorem st_is_integer : TL.setSs κR (b_is_integer κ0) = ir_is_integer := by kernel_rfl
theorem tb_merged : TL.tbAt "" "merged" tabl = some (7, 2, b_merged κ0) := by kernel_rfl
theorem st_merged : TL.setSs κR (b_merged κ0) = ir_merged := by kernel_rfl
theorem tb_saturated_row : TL.tbAt "" "saturated_row" tabl = some (5, 1, b_saturated_row κ0) := by kernel_rfl
theorem st_saturated_row : TL.setSs κR (b_saturated_row κ0) = ir_saturated_row := by kernel_rfl
theorem tb_up_by : TL.tbAt "" "up_by" tabl = some (2, 2, b_up_by κ0) := by kernel_rfl
theorem st_up_by : TL.setSs κR (b_up_by κ0) = ir_up_by := by kernel_rfl
theorem tb_total_of : TL.tbAt "" "total_of" tabl = some (3, 1, b_total_of κ0) := by kernel_rfl
theorem st_total_of : TL.setSs κR (b_total_of κ0) = ir_total_of := by kernel_rfl
theorem tb_Rows_switches : TL.tbAt "Rows" "switches" tabl = some (1, 1, b_Rows_switches κ0) := by kernel_rfl
theorem st_Rows_switches : TL.setSs κR (b_Rows_switches κ0) = ir_Rows_switches := by kernel_rfl
theorem tb_Rows_rows : TL.tbAt "Rows" "rows" tabl = some (1, 1, b_Rows_rows κ0) := by kernel_rfl
theorem st_Rows_rows : TL.setSs κR (b_Rows_rows κ0) = ir_Rows_rows := by kernel_rfl
theorem tb_check_rows : TL.tbAt "" "check_rows" tabl = some (1, 1, b_check_rows κ0) := by kernel_rfl
theorem st_check_rows : TL.setSs κR (b_check_rows κ0) = ir_check_rows := by kernel_rfl
theorem tb_Checker_all_rows : TL.tbAt "Checker" "all_rows" tabl = some (1, 1, b_Checker_all_rows κ0) := by kernel_rfl
theorem st_Checker_all_rows : TL.setSs κR (b_Checker_all_rows κ0) = ir_Checker_all_rows := by kernel_rfl
theorem tb_Checker_count : TL.tbAt "Checker" "count" tabl = some (1, 1, b_Checker_count κ0) := by kernel_rfl
theorem st_Checker_count : TL.setSs κR (b_Checker_count κ0) = ir_Checker_count := by kernel_rfl
theorem tb_Checker_is_live : TL.tbAt "Checker" "is_live" tabl = some (2, 2, b_Checker_is_live κ0) := by kernel_rfl
theorem st_Checker_is_live : TL.setSs κR (b_Checker_is_live κ0) = ir_Checker_is_live := by kernel_rfl
theorem tb_Renumbering_keep : TL.tbAt "Renumbering" "keep" tabl = some (4, 3, b_Renumbering_keep κ0) := by kernel_rfl
theorem st_Renumbering_keep : TL.setSs κR (b_Renumbering_keep κ0) = ir_Renumbering_keep := by kernel_rfl
theorem tb_Renumbering_keep_switch : TL.tbAt "Renumbering" "keep_switch" tabl = some (2, 2, b_Renumbering_keep_switch κ0) := by kernel_rfl
theorem st_Renumbering_keep_switch : TL.setSs κR (b_Renumbering_keep_switch κ0) = ir_Renumbering_keep_switch := by kernel_rfl
theorem tb_Renumbering_literal : TL.tbAt "Renumbering" "literal" tabl = some (3, 2, b_Renumbering_literal κ0) := by kernel_rfl
theorem st_Renumbering_literal : TL.setSs κR (b_Renumbering_literal κ0) = ir_Renumbering_literal := by kernel_rfl
theorem tb_Renumbering_has_row : TL.tbAt "Renumbering" "has_row" tabl = some (2, 2, b_Renumbering_has_row κ0) := by kernel_rfl
theorem st_Renumbering_has_row : TL.setSs κR (b_Renumbering_has_row κ0) = ir_Renumbering_has_row := by kernel_rfl
theorem tb__law_is_int : TL.tbAt "" "_law_is_int" tabl = some (1, 1, b__law_is_int κ0) := by kernel_rfl
theorem st__law_is_int : TL.setSs κR (b__law_is_int κ0) = ir__law_is_int := by kernel_rfl
theorem tb__law_merged : TL.tbAt "" "_law_merged" tabl = some (7, 2, b__law_merged κ0) := by kernel_rfl
theorem st__law_merged : TL.setSs κR (b__law_merged κ0) = ir__law_merged := by kernel_rfl
theorem tb__law_up : TL.tbAt "" "_law_up" tabl = some (2, 2, b__law_up κ0) := by kernel_rfl
theorem st__law_up : TL.setSs κR (b__law_up κ0) = ir__law_up := by kernel_rfl
theorem tb_is_between : TL.tbAt "" "is_between" tabl = some (3, 3, b_is_between κ0) := by kernel_rfl
theorem st_is_between : TL.setSs κR (b_is_between κ0) = ir_is_between := by kernel_rfl
theorem tb_is_literal : TL.tbAt "" "is_literal" tabl = some (1, 1, b_is_literal κ0) := by kernel_rfl
theorem st_is_literal : TL.setSs κR (b_is_literal κ0) = ir_is_literal := by kernel_rfl
theorem tb_divided_row : TL.tbAt "" "divided_row" tabl = some (6, 2, b_divided_row κ0) := by kernel_rfl
theorem st_divided_row : TL.setSs κR (b_divided_row κ0) = ir_divided_row := by kernel_rfl
theorem tb_added_rows : TL.tbAt "" "added_rows" tabl = some (8, 2, b_added_rows κ0) := by kernel_rfl
theorem st_added_rows : TL.setSs κR (b_added_rows κ0) = ir_added_rows := by kernel_rfl
theorem tb_is_false_row : TL.tbAt "" "is_false_row" tabl = some (1, 1, b_is_false_row κ0) := by kernel_rfl
theorem st_is_false_row : TL.setSs κR (b_is_false_row κ0) = ir_is_false_row := by kernel_rfl
theorem tb_rows_of_meaning : TL.tbAt "" "rows_of_meaning" tabl = some (9, 2, b_rows_of_meaning κ0) := by kernel_rfl
theorem st_rows_of_meaning : TL.setSs κR (b_rows_of_meaning κ0) = ir_rows_of_meaning := by kernel_rfl
theorem tb_Renumbering_terms : TL.tbAt "Renumbering" "terms" tabl = some (4, 2, b_Renumbering_terms κ0) := by kernel_rfl
theorem st_Renumbering_terms : TL.setSs κR (b_Renumbering_terms κ0) = ir_Renumbering_terms := by kernel_rfl
theorem tb__law_cut : TL.tbAt "" "_law_cut" tabl = some (10, 3, b__law_cut κ0) := by kernel_rfl
theorem st__law_cut : TL.setSs κR (b__law_cut κ0) = ir__law_cut := by kernel_rfl
theorem tb__law_are_pairs : TL.tbAt "" "_law_are_pairs" tabl = some (4, 1, b__law_are_pairs κ0) := by kernel_rfl
theorem st__law_are_pairs : TL.setSs κR (b__law_are_pairs κ0) = ir__law_are_pairs := by kernel_rfl
theorem tb__law_meaning : TL.tbAt "" "_law_meaning" tabl = some (7, 3, b__law_meaning κ0) := by kernel_rfl
theorem st__law_meaning : TL.setSs κR (b__law_meaning κ0) = ir__law_meaning := by kernel_rfl
theorem tb_are_terms : TL.tbAt "" "are_terms" tabl = some (3, 1, b_are_terms κ0) := by kernel_rfl
theorem st_are_terms : TL.setSs κR (b_are_terms κ0) = ir_are_terms := by kernel_rfl
theorem tb_cut_row : TL.tbAt "" "cut_row" tabl = some (4, 3, b_cut_row κ0) := by kernel_rfl
theorem st_cut_row : TL.setSs κR (b_cut_row κ0) = ir_cut_row := by kernel_rfl
theorem tb_are_pairs : TL.tbAt "" "are_pairs" tabl = some (4, 1, b_are_pairs κ0) := by kernel_rfl
theorem st_are_pairs : TL.setSs κR (b_are_pairs κ0) = ir_are_pairs := by kernel_rfl
theorem tb_are_times : TL.tbAt "" "are_times" tabl = some (5, 2, b_are_times κ0) := by kernel_rfl
theorem st_are_times : TL.setSs κR (b_are_times κ0) = ir_are_times := by kernel_rfl
theorem tb_Checker___init__ : TL.tbAt "Checker" "__init__" tabl = some (2, 2, b_Checker___init__ κ0) := by kernel_rfl
theorem st_Checker___init__ : TL.setSs κR (b_Checker___init__ κ0) = ir_Checker___init__ := by kernel_rfl
theorem tb_Checker_over : TL.tbAt "Checker" "over" tabl = some (4, 1, b_Checker_over κ0) := by kernel_rfl
theorem st_Checker_over : TL.setSs κR (b_Checker_over κ0) = ir_Checker_over := by kernel_rfl
theorem tb_Checker_can_set : TL.tbAt "Checker" "can_set" tabl = some (6, 2, b_Checker_can_set κ0) := by kernel_rfl
theorem st_Checker_can_set : TL.setSs κR (b_Checker_can_set κ0) = ir_Checker_can_set := by kernel_rfl
theorem tb_Checker_can_drop : TL.tbAt "Checker" "can_drop" tabl = some (2, 2, b_Checker_can_drop κ0) := by kernel_rfl
theorem st_Checker_can_drop : TL.setSs κR (b_Checker_can_drop κ0) = ir_Checker_can_drop := by kernel_rfl
theorem tb_firsts_of : TL.tbAt "" "firsts_of" tabl = some (5, 2, b_firsts_of κ0) := by kernel_rfl
theorem st_firsts_of : TL.setSs κR (b_firsts_of κ0) = ir_firsts_of := by kernel_rfl
theorem tb_Renumbering___init__ : TL.tbAt "Renumbering" "__init__" tabl = some (4, 2, b_Renumbering___init__ κ0) := by kernel_rfl
theorem st_Renumbering___init__ : TL.setSs κR (b_Renumbering___init__ κ0) = ir_Renumbering___init__ := by kernel_rfl
theorem tb_Renumbering_step : TL.tbAt "Renumbering" "step" tabl = some (4, 2, b_Renumbering_step κ0) := by kernel_rfl
theorem st_Renumbering_step : TL.setSs κR (b_Renumbering_step κ0) = ir_Renumbering_step := by kernel_rfl
theorem tb__law_step : TL.tbAt "" "_law_step" tabl = some (13, 4, b__law_step κ0) := by kernel_rfl
theorem st__law_step : TL.setSs κR (b__law_step κ0) = ir__law_step := by kernel_rfl
theorem tb_is_row : TL.tbAt "" "is_row" tabl = some (1, 1, b_is_row κ0) := by kernel_rfl
theorem st_is_row : TL.setSs κR (b_is_row κ0) = ir_is_row := by kernel_rfl
theorem tb_are_axioms : TL.tbAt "" "are_axioms" tabl = some (3, 1, b_are_axioms κ0) := by kernel_rfl
theorem st_are_axioms : TL.setSs κR (b_are_axioms κ0) = ir_are_axioms := by kernel_rfl
theorem tb_Checker_can_mean : TL.tbAt "Checker" "can_mean" tabl = some (2, 2, b_Checker_can_mean κ0) := by kernel_rfl
theorem st_Checker_can_mean : TL.setSs κR (b_Checker_can_mean κ0) = ir_Checker_can_mean := by kernel_rfl
theorem tb_needed_by : TL.tbAt "" "needed_by" tabl = some (16, 3, b_needed_by κ0) := by kernel_rfl
theorem st_needed_by : TL.setSs κR (b_needed_by κ0) = ir_needed_by := by kernel_rfl
theorem tb__law_gone_through : TL.tbAt "" "_law_gone_through" tabl = some (8, 3, b__law_gone_through κ0) := by kernel_rfl
theorem st__law_gone_through : TL.setSs κR (b__law_gone_through κ0) = ir__law_gone_through := by kernel_rfl
theorem tb_Rows___init__ : TL.tbAt "Rows" "__init__" tabl = some (4, 3, b_Rows___init__ κ0) := by kernel_rfl
theorem st_Rows___init__ : TL.setSs κR (b_Rows___init__ κ0) = ir_Rows___init__ := by kernel_rfl
theorem tb_Checker_can_cut : TL.tbAt "Checker" "can_cut" tabl = some (5, 2, b_Checker_can_cut κ0) := by kernel_rfl
theorem st_Checker_can_cut : TL.setSs κR (b_Checker_can_cut κ0) = ir_Checker_can_cut := by kernel_rfl
theorem tb_trimmed_by : TL.tbAt "" "trimmed_by" tabl = some (10, 3, b_trimmed_by κ0) := by kernel_rfl
theorem st_trimmed_by : TL.setSs κR (b_trimmed_by κ0) = ir_trimmed_by := by kernel_rfl
theorem tb__law_bars : TL.tbAt "" "_law_bars" tabl = some (11, 3, b__law_bars κ0) := by kernel_rfl
theorem st__law_bars : TL.setSs κR (b__law_bars κ0) = ir__law_bars := by kernel_rfl
theorem tb_Checker_takes : TL.tbAt "Checker" "takes" tabl = some (5, 2, b_Checker_takes κ0) := by kernel_rfl
theorem st_Checker_takes : TL.setSs κR (b_Checker_takes κ0) = ir_Checker_takes := by kernel_rfl
theorem tb_first_wrong : TL.tbAt "" "first_wrong" tabl = some (4, 2, b_first_wrong κ0) := by kernel_rfl
theorem st_first_wrong : TL.setSs κR (b_first_wrong κ0) = ir_first_wrong := by kernel_rfl
theorem tb_does_bar : TL.tbAt "" "does_bar" tabl = some (3, 2, b_does_bar κ0) := by kernel_rfl
theorem st_does_bar : TL.setSs κR (b_does_bar κ0) = ir_does_bar := by kernel_rfl
theorem tb_check_steps : TL.tbAt "" "check_steps" tabl = some (4, 2, b_check_steps κ0) := by kernel_rfl
theorem st_check_steps : TL.setSs κR (b_check_steps κ0) = ir_check_steps := by kernel_rfl
theorem tb_bars : TL.tbAt "" "bars" tabl = some (2, 2, b_bars κ0) := by kernel_rfl
theorem st_bars : TL.setSs κR (b_bars κ0) = ir_bars := by kernel_rfl
theorem tb_rows_by : TL.tbAt "" "rows_by" tabl = some (2, 2, b_rows_by κ0) := by kernel_rfl
theorem st_rows_by : TL.setSs κR (b_rows_by κ0) = ir_rows_by := by kernel_rfl
theorem tb_live_by : TL.tbAt "" "live_by" tabl = some (4, 2, b_live_by κ0) := by kernel_rfl
theorem st_live_by : TL.setSs κR (b_live_by κ0) = ir_live_by := by kernel_rfl
theorem tb_check_bar : TL.tbAt "" "check_bar" tabl = some (3, 2, b_check_bar κ0) := by kernel_rfl
theorem st_check_bar : TL.setSs κR (b_check_bar κ0) = ir_check_bar := by kernel_rfl
theorem tb_trimmed : TL.tbAt "" "trimmed" tabl = some (2, 2, b_trimmed κ0) := by kernel_rfl
theorem st_trimmed : TL.setSs κR (b_trimmed κ0) = ir_trimmed := by kernel_rfl
theorem tb_used_rows : TL.tbAt "" "used_rows" tabl = some (2, 2, b_used_rows κ0) := by kernel_rfl
theorem st_used_rows : TL.setSs κR (b_used_rows κ0) = ir_used_rows := by kernel_rfl
theorem tb__law_wrong : TL.tbAt "" "_law_wrong" tabl = some (3, 2, b__law_wrong κ0) := by kernel_rfl
theorem st__law_wrong : TL.setSs κR (b__law_wrong κ0) = ir__law_wrong := by kernel_rfl
end K18
set_option Elab.async false
set_option linter.all false
set_option maxRecDepth 100000
set_option maxHeartbeats 2000000
set_option exponentiation.threshold 1100
namespace K18
open PySem PySem.Spec PyProof.Rows L2 TL
theorem log_lt {n : Int} {k : Nat} (h : n.natAbs < 2 ^ k) (hk : 0 < k) : n.natAbs.log2 < k := by
  by_cases z : n.natAbs = 0
  · rw [z]; simpa using hk
  · exact (Nat.log2_lt z).mpr h
theorem mulW_of {i j : Int} (a b : Nat) (hi : i.natAbs < 2 ^ a) (hj : j.natAbs < 2 ^ b) (ha : 0 < a) (hb : 0 < b) (hab : a + b < 1000000) : CMulW i j := by
  have h1 := log_lt hi ha
  have h2 := log_lt hj hb
  show i.natAbs.log2 + j.natAbs.log2 < 1000000
  omega
theorem divW_of {i j : Int} (a : Nat) (h : 0 < j) (hj : j.natAbs < 2 ^ a) (ha : 0 < a) (ha2 : a < 9000) : CDivW i j := ⟨h, by have := log_lt hj ha; omega⟩
theorem mixed_ok {b k i : Int} (hb : 0 ≤ b) (hb2 : b < 2 ^ 61) (hk : 0 ≤ k) (hk2 : k ≤ 1000001) : 0 ≤ b + 92003 * k * k + 383 ∧ b + 92003 * k * k + 383 < 2 ^ 62 := by
  have e : 0 ≤ 92003 * k * k := Int.mul_nonneg (Int.mul_nonneg (by omega) hk) hk
  have e2 : 92003 * k * k ≤ 92003 * 1000001 * 1000001 := by
    have a1 : 92003 * k ≤ 92003 * 1000001 := by omega
    exact Int.le_trans (Int.mul_le_mul_of_nonneg_right a1 hk) (Int.mul_le_mul_of_nonneg_left hk2 (by omega))
  omega
theorem pure__law_take : ∀ ds M x Q, ct__law_take ds M x Q → wpSs ir__law_take (FinOf x Q) (startE 5 ds) M := by
  rintro ds M x Q ⟨p, n, o, c, rfl, hM, ⟨own, base, cnt, rfl, h1, h2, h3, h4, h5⟩, hc, hn, hn2, h⟩
  simp [ir__law_take, b__law_take, startE, ixK, dctOf, seqOf, lstOf, catOf, hM, atI, ixN, setK, mput_same, TL.keyOf]
  have dn : ∀ z, CDivW z n := fun z => divW_of 60 hn (by omega) (by omega) (by omega)
  split
  · exact ⟨hn, dn _, fin_same (h _ _ (Int.emod_nonneg _ (by omega)) (Int.emod_lt_of_pos _ hn) ⟨own / n, base, cnt, rfl, Int.ediv_nonneg h1 (by omega), h2, h3, h4, by omega⟩)⟩
  · refine ⟨by decide, ?_⟩
    have q : ∀ i : Int, 2147483563 ≤ i → i ≤ 2147483647 → CMulW 92003 (cnt + 1) ∧ CMulW (92003 * (cnt + 1)) (cnt + 1) ∧ (((base + 92003 * (cnt + 1) * (cnt + 1) + 383).natAbs.log2 : Nat) + 1 : Int) * 3 ≤ 134217728 ∧ 0 < i ∧ CMulW 461 (cnt + 1) ∧
        CMulW ((base + 92003 * (cnt + 1) * (cnt + 1) + 383) ^ 3 % i) ((base + 92003 * (cnt + 1) * (cnt + 1) + 383) ^ 3 % i % 11047 + 461 * (cnt + 1)) ∧
        CDivW ((base + 92003 * (cnt + 1) * (cnt + 1) + 383) ^ 3 % i * ((base + 92003 * (cnt + 1) * (cnt + 1) + 383) ^ 3 % i % 11047 + 461 * (cnt + 1)) % 2305843009213693907) 389 ∧ 0 < n ∧
        fin Q (D.int ((base + 92003 * (cnt + 1) * (cnt + 1) + 383) ^ 3 % i * ((base + 92003 * (cnt + 1) * (cnt + 1) + 383) ^ 3 % i % 11047 + 461 * (cnt + 1)) % 2305843009213693907 / 389 % n)) (mput M p (PO.lst [D.int own, D.int base, D.int (cnt + 1)])) := fun i hi hi2 => by
      have m := mixed_ok (i := i) h2 h3 (k := cnt + 1) (by omega) (by omega)
      generalize hz : base + 92003 * (cnt + 1) * (cnt + 1) + 383 = z at m ⊢
      have ez : z.natAbs < 2 ^ 62 := by omega
      have lz := log_lt ez (by omega)
      have e1 : 0 ≤ z ^ 3 % i := Int.emod_nonneg _ (by omega)
      have e2 : z ^ 3 % i < i := Int.emod_lt_of_pos _ (by omega)
      have e3 : 0 ≤ z ^ 3 % i % 11047 := Int.emod_nonneg _ (by omega)
      have e4 : z ^ 3 % i % 11047 < 11047 := Int.emod_lt_of_pos _ (by omega)
      refine ⟨mulW_of 17 20 (by omega) (by omega) (by omega) (by omega) (by omega), mulW_of 37 20 (by omega) (by omega) (by omega) (by omega) (by omega), by omega, by omega, mulW_of 9 20 (by omega) (by omega) (by omega) (by omega) (by omega), ?_, divW_of 9 (by omega) (by omega) (by omega) (by omega), hn, ?_⟩
      · exact mulW_of 31 30 (by omega) (by omega) (by omega) (by omega) (by omega)
      · exact fin_same (h _ _ (Int.emod_nonneg _ (by omega)) (Int.emod_lt_of_pos _ hn) ⟨own, base, cnt + 1, rfl, h1, h2, h3, by omega, by omega⟩)
    have r0 : 0 ≤ (cnt + 1) % 5 := Int.emod_nonneg _ (by omega)
    have r1 : (cnt + 1) % 5 < 5 := Int.emod_lt_of_pos _ (by omega)
    rw [if_pos r0, if_pos r1]
    have r2 : ((cnt + 1) % 5).toNat = 0 ∨ ((cnt + 1) % 5).toNat = 1 ∨ ((cnt + 1) % 5).toNat = 2 ∨ ((cnt + 1) % 5).toNat = 3 ∨ ((cnt + 1) % 5).toNat = 4 := by omega
    rcases r2 with e | e | e | e | e <;> (simp only [e, Option.bind_some]; exact q _ (by omega) (by omega))
theorem pure__law_cells : ∀ ds M x Q, ct__law_cells ds M x Q → wpSs ir__law_cells (FinOf x Q) (startE 2 ds) M := by
  rintro ds M x Q ⟨ns, m, rfl, h1, h2, h⟩
  simp [ir__law_cells, b__law_cells, startE, dctOf, seqOf, lstOf, catOf, rgOk]
  generalize hk : (if 1 < if (ns.length : Int) < m then (ns.length : Int) else m then if (ns.length : Int) < m then (ns.length : Int) else m else 1) = k
  have b : 1 ≤ k ∧ k ≤ m := by
    rw [← hk]
    split
    · split at * <;> omega
    · omega
  refine ⟨⟨by omega, by omega, by omega⟩, fin_same ?_⟩
  have e := h k.toNat (by omega)
  rw [rangeD_map]
  simpa [Function.comp_def] using e
theorem ite01 {p : Prop} [Decidable p] : (if p then (1 : Int) else 0) = 0 ∨ (if p then (1 : Int) else 0) = 1 := by by_cases h : p <;> simp [h]
theorem big_lt {a b : Int} (hb : b = 0 ∨ b = 1) : CMulW (a % 10 ^ 300) b := by
  have h0 : 0 ≤ a % 10 ^ 300 := Int.emod_nonneg _ (by decide)
  have h1 : a % 10 ^ 300 < 10 ^ 300 := Int.emod_lt_of_pos _ (by decide)
  refine mulW_of 1000 2 ?_ (by rcases hb with h | h <;> subst h <;> decide) (by decide) (by decide) (by decide)
  have h2 : (10 : Int) ^ 300 < 2 ^ 1000 := by decide +kernel
  have h3 : ((2 ^ 1000 : Nat) : Int) = 2 ^ 1000 := by norm_cast
  omega
theorem pot_ok (cell : Int) (i : Nat) (hi : i < 64) (b : Int) (hb : b = 0 ∨ b = 1) : CMulW (absI cell % 10 ^ 300) b ∧ CMulW (cell % 2305843009213693951) 72109 ∧ CMulW 9901 i ∧ CMulW (9901 * i) i ∧
    PotO (.lst [.int (absI cell % 10 ^ 300 * b), .int ((cell % 2305843009213693951 * 72109 + 9901 * i * i + 1231) % 2305843009213693921), .int 0]) 0 := by
  have e1 : 0 ≤ cell % 2305843009213693951 := Int.emod_nonneg _ (by omega)
  have e2 : cell % 2305843009213693951 < 2305843009213693951 := Int.emod_lt_of_pos _ (by omega)
  refine ⟨big_lt hb, mulW_of 61 17 (by omega) (by omega) (by omega) (by omega) (by omega), mulW_of 14 6 (by omega) (by omega) (by omega) (by omega) (by omega), mulW_of 20 6 (by omega) (by omega) (by omega) (by omega) (by omega), _, _, _, rfl, ?_, Int.emod_nonneg _ (by omega), ?_, by omega, by omega⟩
  · exact Int.mul_nonneg (Int.emod_nonneg _ (by decide)) (by omega)
  · have := Int.emod_lt_of_pos (cell % 2305843009213693951 * 72109 + 9901 * i * i + 1231) (show (0 : Int) < 2305843009213693921 by omega)
    omega
theorem pure__law_pot : ∀ ds M x Q, ct__law_pot ds M x Q → wpSs ir__law_pot (FinOf x Q) (startE 5 ds) M := by
  rintro ds M x Q ⟨ns, i, rfl, hi, h⟩
  have p1 : ((Nat.log2 10 : Nat) + 1 : Int) * 60 ≤ 134217728 := by decide +kernel
  have p2 : ((Nat.log2 (10 ^ 60) : Nat) + 1 : Int) * 5 ≤ 134217728 := by decide +kernel
  have p3 : ((Nat.log2 10 : Nat) + 1 : Int) * 18 ≤ 134217728 := by decide +kernel
  have fin' : ∀ (p : Addr) (o : TL.PO), M p = none → PotO o 0 → TL.fin Q (D.ref p) (mput M p o) := fun p o n ho => fin_same (h p o n ho)
  by_cases c : i < ns.length
  · have e : atI (ns.map D.int) (i : Int) = some (.int ns[i]) := atI_nat (by simp [c])
    have q := pot_ok ns[i] i hi
    simp [ir__law_pot, b__law_pot, startE, dctOf, seqOf, lstOf, catOf, ixK, c, e]
    obtain ⟨q1, q2, q3, q4, q5⟩ := q (if 1000000000000000000 ≤ if ns[i] < 0 then -ns[i] else ns[i] then 1 else 0) ite01
    exact ⟨p1, p2, p3, q1, q2, q3, q4, by decide, fun p n => fin' p _ n q5⟩
  · have q := pot_ok (947 * i + 691) i hi
    simp [ir__law_pot, b__law_pot, startE, dctOf, seqOf, lstOf, catOf, ixK, c]
    obtain ⟨q1, q2, q3, q4, q5⟩ := q (if 1000000000000000000 ≤ if (947 * i + 691 : Int) < 0 then -(947 * i + 691 : Int) else (947 * i + 691 : Int) then 1 else 0) ite01
    exact ⟨mulW_of 10 6 (by omega) (by omega) (by omega) (by omega) (by omega), p1, p2, p3, q1, q2, q3, q4, by decide, fun p n => fin' p _ n q5⟩
end K18

set_option Elab.async false
set_option linter.all false
set_option maxRecDepth 100000
set_option maxHeartbeats 2000000
namespace K18
open PySem PySem.Spec PyProof.Rows L2 TL
theorem map_erase {α β : Type} (f : α → β) : ∀ (l : List α) (i : Nat), (l.map f).eraseIdx i = (l.eraseIdx i).map f
  | [], _ => by simp
  | _ :: _, 0 => by simp
  | a :: l, i + 1 => by simp [map_erase f l i]
theorem erase_perm {α : Type} : ∀ {l : List α} {i : Nat} (h : i < l.length), ([l[i]] ++ l.eraseIdx i).Perm l
  | a :: l, 0, h => by simp
  | a :: l, i + 1, h => by
    have ih := erase_perm (l := l) (i := i) (by simpa using h)
    simp only [List.getElem_cons_succ, List.eraseIdx_cons_succ, List.cons_append, List.nil_append] at ih ⊢
    exact (List.Perm.swap _ _ _).trans (ih.cons a)
/-- the same but at these places -/
def Same3 (M M' : Mm) (p q r : Addr) : Prop := ∀ a, a ≠ p → a ≠ q → a ≠ r → M' a = M a
theorem pure__law_some : ∀ ds M x Q, ct__law_some ds M x Q → wpSs ir__law_some (FinOf x Q) (startE 6 ds) M := by
  rintro ds M x Q ⟨p, ns, m, o, c, rfl, hM, ho, h0, hm, hl, hc, h⟩
  simp [ir__law_some, b__law_some, startE, seqOf, lstOf, catOf]
  intro r hr f hf
  refine ⟨by omega, by omega, ?_⟩
  have rp : r ≠ p := fun z => by subst z; rw [hM] at hr; cases hr
  have fr : f ≠ r := fun z => by subst z; rw [mput_same] at hf; cases hf
  have hf' : M f = none := by rwa [mput_ne fr] at hf
  have fp : f ≠ p := fun z => by subst z; rw [hM] at hf'; cases hf'
  rw [rangeD_map]
  refine forGo_inv D.int (fun (l : List Int) env M' => ∃ (z : Option D) (ys rs : List Int) (o' : TL.PO) (c' : Int), env = [some (.ref p), some (.lst (ns.map D.int)), some (.int m), z, some (.ref r), some (.ref f)] ∧ M' p = some o' ∧ PotO o' c' ∧ M' r = some (.lst (rs.map D.int)) ∧ M' f = some (.lst (ys.map D.int)) ∧
      Same3 M M' p r f ∧ (ys ++ rs).Perm ns ∧ c' = c + ys.length ∧ (ys.length : Int) + l.length = m) (fun _ _ _ _ => trivial) ?_ ?_ _ _ _ ?_
  · rintro env M' ⟨z, ys, rs, o', c', rfl, h1, h2, h3, h4, h5, h6, h7, h8⟩
    simp
    have h9 : (ys.length : Int) = m := by simpa using h8
    have h10 : c' = c + m := by omega
    refine fin_sub ?_ (h f ys rs o' hf' (by rw [← h10]; exact h2) h9 h6)
    intro a oo ha
    by_cases e1 : a = f
    · subst e1; rw [mput_same] at ha; cases ha; exact h4
    · rw [mput_ne e1] at ha
      by_cases e2 : a = p
      · subst e2; rw [mput_same] at ha; cases ha; exact h1
      · rw [mput_ne e2] at ha
        by_cases e3 : a = r
        · subst e3; rw [hr] at ha; cases ha
        · rw [h5 a e2 e3 e1]; exact ha
  · rintro a l env M' k ⟨z, ys, rs, o', c', rfl, h1, h2, h3, h4, h5, h6, h7, h8⟩ hk
    have e1 := h6.length_eq
    rw [List.length_append] at e1
    simp at h8
    simp [tyOf, h3, h4, okM, bmD, mlst, lenD, dctOf, seqOf, lstOf, catOf]
    refine ⟨p, rs.length, o', c', rfl, h1, h2, by omega, by omega, by omega, fun j o'' j0 j1 ho'' => ?_⟩
    have e2 : ixN rs.length j = some j.toNat := by unfold ixN; rw [if_pos j0, if_pos j1]
    have e3 : j.toNat < rs.length := by omega
    have m1 : mput M' p o'' r = some (.lst (rs.map D.int)) := by rw [mput_ne rp]; exact h3
    simp [m1, e2, e3]
    have m2 : mput (mput M' p o'') r (.lst ((rs.map D.int).eraseIdx j.toNat)) f = some (.lst (ys.map D.int)) := by rw [mput_ne fr, mput_ne fp]; exact h4
    simp [m2]
    refine ⟨by rw [sizeLine_eq]; omega, hk _ _ ⟨some (.int a), ys ++ [rs[j.toNat]], rs.eraseIdx j.toNat, o'', c' + 1, rfl, ?_, ho'', ?_, ?_, ?_, ?_, ?_, ?_⟩⟩
    · rw [mput_ne (Ne.symm fp), mput_ne (Ne.symm rp), mput_same]
    · rw [mput_ne (Ne.symm fr), mput_same, map_erase]
    · rw [mput_same]; simp
    · intro b b1 b2 b3
      rw [mput_ne b3, mput_ne b2, mput_ne b1]; exact h5 b b1 b2 b3
    · refine List.Perm.trans ?_ h6
      rw [List.append_assoc]
      refine List.Perm.append_left ys ?_
      exact erase_perm e3
    · simp; omega
    · simp; omega
  · refine ⟨none, [], ns, o, c, rfl, ?_, ho, ?_, ?_, ?_, by simp, by simp, by simp; omega⟩
    · rw [mput_ne (Ne.symm fp), mput_ne (Ne.symm rp)]; exact hM
    · rw [mput_ne (Ne.symm fr), mput_same]
    · rw [mput_same]; rfl
    · intro b b1 b2 b3
      rw [mput_ne b3, mput_ne b2]
end K18

set_option Elab.async false
set_option linter.all false
set_option maxRecDepth 100000
set_option maxHeartbeats 4000000
namespace K18
open PySem PySem.Spec PyProof.Rows L2 TL
theorem PotO.mono {o : TL.PO} {c d : Int} (h : PotO o c) (e : c ≤ d) : PotO o d := by
  obtain ⟨a, b, n, h0, h1, h2, h3, h4, h5⟩ := h
  exact ⟨a, b, n, h0, h1, h2, h3, h4, by omega⟩
/-- what follows the draw -/
def rest0 : List S := (b__law_right κ0).tail
def envR (a b c : Int) : En := List.replicate 9 none ++ ([some (.int a), some (.int b), some (.int c)] ++ List.replicate 6 none)
def okR (r : Rs Fi) : Bool := match r with
  | .ok (.rt (.bl true)) _ => true
  | _ => false
theorem okR_inv {r : Rs Fi} (h : okR r = true) : ∃ H, r = .ok (.rt (.bl true)) H := by
  unfold okR at h
  split at h
  · exact ⟨_, rfl⟩
  · cases h
@[irreducible] def evR (a b c : Int) : Bool := okR (runSs ⟨qR, runF qR tabl 30⟩ rest0 (envR a b c) ⟨0, []⟩)
theorem ev1 : evR 1 2 3 = true := by decide +kernel
theorem ev2 : evR 1 3 2 = true := by decide +kernel
theorem ev3 : evR 2 1 3 = true := by decide +kernel
theorem ev4 : evR 2 3 1 = true := by decide +kernel
theorem ev5 : evR 3 1 2 = true := by decide +kernel
theorem ev6 : evR 3 2 1 = true := by decide +kernel
theorem perm3 {ys : List Int} (h : ys.Perm [1, 2, 3]) : ∃ a b c, ys = [a, b, c] ∧ evR a b c = true := by
  have hl := h.length_eq
  match ys, hl with
  | [a, b, c], _ =>
    refine ⟨a, b, c, rfl, ?_⟩
    have nd : [a, b, c].Nodup := h.nodup_iff.mpr (by decide)
    have ha : a = 1 ∨ a = 2 ∨ a = 3 := by simpa using h.mem_iff.mp (show a ∈ [a, b, c] by simp)
    have hb : b = 1 ∨ b = 2 ∨ b = 3 := by simpa using h.mem_iff.mp (show b ∈ [a, b, c] by simp)
    have hc : c = 1 ∨ c = 2 ∨ c = 3 := by simpa using h.mem_iff.mp (show c ∈ [a, b, c] by simp)
    simp only [List.nodup_cons, List.mem_cons, List.not_mem_nil, or_false, not_or, not_false_eq_true, List.nodup_nil, and_true] at nd
    obtain ⟨⟨n1, n2⟩, n3⟩ := nd
    rcases ha with rfl | rfl | rfl <;> rcases hb with rfl | rfl | rfl <;> rcases hc with rfl | rfl | rfl <;> first
      | exact absurd rfl n1 | exact absurd rfl n2 | exact absurd rfl n3 | exact ev1 | exact ev2 | exact ev3 | exact ev4 | exact ev5 | exact ev6
def first0 : S := (.asg (.tp [(.nm 9), (.nm 10), (.nm 11)]) (.call "_law_some" ct__law_some (.cons (.v 0) (.cons (.lst true (.cons (.c (.int 1)) (.cons (.c (.int 2)) (.cons (.c (.int 3)) .nil)))) (.cons (.c (.int 3)) .nil)))))
theorem right_eq : ir__law_right = first0 :: setSs κR rest0 := by kernel_rfl
theorem pure__law_right : ∀ ds M x Q, ct__law_right ds M x Q → wpSs ir__law_right (FinOf x Q) (startE 18 ds) M := by
  rintro ds M x Q ⟨p, o, c, P, rfl, hM, ho, hc, hP, h⟩
  rw [right_eq]
  have hq : ∀ (q : Addr) (ys rs : List Int) (o' : TL.PO), M q = none → PotO o' (c + 3) → (ys.length : Int) = 3 → (ys ++ rs).Perm [1, 2, 3] →
      putT (.tp [.nm 9, .nm 10, .nm 11]) (.ref q) (startE 18 [.ref p]) (mput (mput M p o') q (.lst (ys.map .int))) fun env1 => wpSs (setSs κR rest0) (FinOf x Q) env1 (mput (mput M p o') q (.lst (ys.map .int))) := by
    intro q ys rs o' hn ho' hl hp
    have hl2 := hp.length_eq
    have hr : rs = [] := by
      rw [List.length_append] at hl2
      have : rs.length = 0 := by simp at hl2; omega
      exact List.length_eq_zero_iff.mp this
    subst hr
    rw [List.append_nil] at hp
    obtain ⟨a, b, d, rfl, ev⟩ := perm3 hp
    unfold evR at ev
    obtain ⟨H, eH⟩ := okR_inv ev
    unfold putT
    have em : seqOf (mput (mput M p o') q (.lst ([a, b, d].map .int))) (.ref q) = some ([a, b, d].map .int) := by
      show (match mput (mput M p o') q (.lst ([a, b, d].map .int)) q with | some (.lst xs) => some xs | _ => none) = _
      rw [mput_same]
    rw [em]
    simp only [someK, List.map_cons, List.map_nil, putTs, putT]
    have np : P ≠ p := fun z => by
      subst z
      rw [hM] at hP; cases hP
      obtain ⟨_, _, _, z, _⟩ := ho
      cases z
    have nq : P ≠ q := fun z => by subst z; rw [hP] at hn; cases hn
    have qp : q ≠ p := fun z => by subst z; rw [hM] at hn; cases hn
    have si : Sim qR (mput (mput M p o') q (.lst ([a, b, d].map .int))) [] ⟨0, []⟩ (mput (mput M p o') q (.lst ([a, b, d].map .int))) := Sim.nil fun z e => by
      cases e
      exact ⟨P, by rw [mput_ne nq, mput_ne np]; exact hP⟩
    refine sSs (K := ⟨qR, runF qR tabl 30⟩) (B := mput (mput M p o') q (.lst ([a, b, d].map .int))) run_kap rest0 [] ⟨0, []⟩ _ (envR a b d) _ x (FinOf x Q) (fun _ => rfl) si ⟨rfl, ?_⟩ ?_
    · intro i e he
      have key : ∀ j, j < 18 → (envR a b d)[j]? = some (some e) → ∃ e', ((((startE 18 [D.ref p]).set 9 (some (D.int a))).set 10 (some (D.int b))).set 11 (some (D.int d)))[j]? = some (some e') ∧ Rn [] e e' := by
        intro j hj he
        match j, hj with
        | 9, _ => cases he; exact ⟨_, rfl, by simp only [Rn]⟩
        | 10, _ => cases he; exact ⟨_, rfl, by simp only [Rn]⟩
        | 11, _ => cases he; exact ⟨_, rfl, by simp only [Rn]⟩
        | 0, _ | 1, _ | 2, _ | 3, _ | 4, _ | 5, _ | 6, _ | 7, _ | 8, _ | 12, _ | 13, _ | 14, _ | 15, _ | 16, _ | 17, _ => cases he
      by_cases hi : i < 18
      · exact key i hi he
      · rw [List.getElem?_eq_none (by show 18 ≤ i; omega)] at he; cases he
    · rw [eH]
      intro ρ1 M1 f l s1 rf
      cases rf with
      | rt rd =>
        simp only [Rn] at rd
        subst rd
        refine ⟨mput M p o', fun z u hz => s1.sub z u ?_, h o' (ho'.mono (by omega))⟩
        rw [mput_ne]
        · exact hz
        · intro zq
          subst zq
          rw [mput_ne qp, hn] at hz; cases hz
  have hc' : ct__law_some [.ref p, .lst ([1, 2, 3].map .int), .int 3] M x (fun d M1 => putT (.tp [.nm 9, .nm 10, .nm 11]) d (startE 18 [.ref p]) M1 fun env1 => wpSs (setSs κR rest0) (FinOf x Q) env1 M1) :=
    ⟨p, [1, 2, 3], 3, o, c, rfl, hM, ho, by omega, by simp, by simp, by omega, hq⟩
  unfold first0
  exact ⟨sl3, hc'⟩
end K18

set_option Elab.async false
set_option linter.all false
set_option maxRecDepth 100000
set_option maxHeartbeats 2000000
namespace K18
open PySem PySem.Spec PyProof.Rows L2 TL
theorem seq_it {M : Mm} {d : D} {xs : List D} {k : Src → Prop} (h : seqOf M d = some xs) (hk : k ⟨grd d xs, xs⟩) : itK M d k := by
  unfold itK
  split
  · cases h
  · rw [h]; exact hk
theorem pure_law : ∀ ds M x Q, ct_law ds M x Q → wpSs ir_law (FinOf x Q) (startE 4 ds) M := by
  rintro ds M x Q ⟨ns, P, rfl, hl, hP, h⟩
  simp [ir_law, b_law, startE]
  refine ⟨ns, 3, rfl, by omega, by omega, fun n hn => ?_⟩
  refine seq_it (M := M) (xs := (List.range n).map fun i => D.int (i : Nat)) rfl ?_
  refine forGo_inv (fun i : Nat => D.int (i : Int)) (fun (l : List Nat) env M' => ∃ z1 z2 z3 : Option D, env = [some (.klst (ns.map D.int)), z1, z2, none] ∧ TL.sub M M' ∧ ∀ i ∈ l, i < 64) (fun _ _ _ _ => trivial) ?_ ?_ _ _ _ ⟨_, _, none, rfl, sub_refl, fun i hi => by simp at hi; omega⟩
  · rintro env M' ⟨z1, z2, z3, rfl, s, _⟩
    exact fin_sub s h
  · rintro i l env M' k ⟨z1, z2, z3, rfl, s, hi⟩ hk
    simp
    refine ⟨ns, i, rfl, hi i List.mem_cons_self, fun p o hp ho => ?_⟩
    have hp0 : M p = none := none_sub s hp
    simp [rangeD_map]
    have ev : ∀ a u, M a = some u → ∀ o', mput M' p o' a = some u := fun a u h1 o' => by rw [mput_ne (ne_of_M h1 hp0)]; exact s a u h1
    refine ⟨sl3, compGo_inv (fun j : Nat => D.int (j : Int)) (fun (r : List Nat) acc M2 => ∃ (o' : TL.PO) (b : Nat), M2 = mput M' p o' ∧ PotO o' (1000 * (b : Int)) ∧ b + r.length = 3 ∧ acc = List.replicate b (D.bl true)) (fun _ _ _ _ => trivial) ?_ ?_ (List.range 3) [] _ ⟨o, 0, rfl, by simpa using ho, by simp, rfl⟩⟩
    · rintro acc M2 ⟨o', b, rfl, h1, h2, rfl⟩
      have hb : b = 3 := by simpa using h2
      subst hb
      simp [boolsOf, lstOf, catOf]
      exact hk _ _ ⟨_, _, none, rfl, fun a u h1 => ev a u h1 _, fun j hj => hi j (List.mem_cons_of_mem _ hj)⟩
    · rintro j r acc M2 k2 ⟨o', b, rfl, h1, h2, rfl⟩ hk2
      simp at h2
      refine ⟨p, o', _, P, rfl, mput_same, h1, by omega, ev P _ hP _, fun o2 ho2 => hk2 _ _ ⟨o2, b + 1, by simp, ho2.mono (by omega), by omega, by rw [List.replicate_succ']⟩⟩
theorem law_true (T : Addr) : ∀ ns : List Int, ns.length ≤ 63 → ct_law [.klst (ns.map .int)] (memT T "_law_wrong") noX (fun d _ => d = .bl true) := fun ns h => ⟨ns, T, rfl, h, if_pos rfl, rfl⟩
end K18

namespace K18
open PySem PySem.Spec PyProof.Rows L2 TL
set_option maxHeartbeats 8000000
theorem len__law_cells : ∀ ds M x Q, ct__law_cells ds M x Q → ds.length = ["script", "limit"].length := by
  rintro ds M x Q ⟨_, _, rfl, _⟩
  rfl
theorem len__law_pot : ∀ ds M x Q, ct__law_pot ds M x Q → ds.length = ["script", "place"].length := by
  rintro ds M x Q ⟨_, _, rfl, _⟩
  rfl
theorem len__law_right : ∀ ds M x Q, ct__law_right ds M x Q → ds.length = ["pot"].length := by
  rintro ds M x Q ⟨_, _, _, _, rfl, _⟩
  rfl
theorem len__law_some : ∀ ds M x Q, ct__law_some ds M x Q → ds.length = ["pot", "pool", "amount"].length := by
  rintro ds M x Q ⟨_, _, _, _, _, rfl, _⟩
  rfl
theorem len__law_take : ∀ ds M x Q, ct__law_take ds M x Q → ds.length = ["pot", "upto"].length := by
  rintro ds M x Q ⟨_, _, _, _, rfl, _⟩
  rfl
theorem len_law : ∀ ds M x Q, ct_law ds M x Q → ds.length = ["script"].length := by
  rintro ds M x Q ⟨_, _, rfl, _⟩
  rfl
theorem fit_is_integer : (fnScB ["value"] ["value"] (defScope (top 8)) && okSs' ⟨["value"], defScope (top 8), fun _ => true, none⟩ ir_is_integer (defBody (top 8))) = true := by kernel_rfl
theorem nd_is_integer {p : Need → Prop} (h0 : p (.free "isinstance")) (h1 : p (.isi "int" [])) (h2 : p (.isi "bool" [])) : ∀ m ∈ needSs ir_is_integer, p m := by
  unfold ir_is_integer b_is_integer
  simp only [needSs, needS, needE, needEs, needKs, needEo, needIt, List.mem_cons, List.mem_append, List.not_mem_nil, or_false, false_or, forall_eq_or_imp, or_imp, forall_and, forall_eq, List.append_nil, List.nil_append, BI.name, esLen, ksNames, List.map_cons, List.map_nil, List.map_append]
  simp only [h0, h1, h2, and_self, implies_true, false_implies]
theorem fit_merged : (fnScB ["pairs", "least", "net", "terms", "switch", "many", "literal"] ["pairs", "least"] (defScope (top 17)) && okSs' ⟨["pairs", "least", "net", "terms", "switch", "many", "literal"], defScope (top 17), fun _ => true, none⟩ ir_merged (defBody (top 17))) = true := by kernel_rfl
theorem nd_merged {p : Need → Prop} (h0 : p (.free "abs")) (h1 : p (.free "sorted")) (h2 : p (.free "tuple")) : ∀ m ∈ needSs ir_merged, p m := by
  unfold ir_merged b_merged
  simp only [needSs, needS, needE, needEs, needKs, needEo, needIt, List.mem_cons, List.mem_append, List.not_mem_nil, or_false, false_or, forall_eq_or_imp, or_imp, forall_and, forall_eq, List.append_nil, List.nil_append, BI.name, esLen, ksNames, List.map_cons, List.map_nil, List.map_append]
  simp only [h0, h1, h2, and_self, implies_true, false_implies]
theorem fit_saturated_row : (fnScB ["row", "terms", "least", "many", "literal"] ["row"] (defScope (top 18)) && okSs' ⟨["row", "terms", "least", "many", "literal"], defScope (top 18), fun _ => true, none⟩ ir_saturated_row (defBody (top 18))) = true := by kernel_rfl
theorem nd_saturated_row {p : Need → Prop} (h0 : p (.glob "EMPTY" (.tup [.tup [], .int 0]))) (h1 : p (.free "tuple")) (h2 : p (.free "min")) : ∀ m ∈ needSs ir_saturated_row, p m := by
  unfold ir_saturated_row b_saturated_row
  simp only [needSs, needS, needE, needEs, needKs, needEo, needIt, List.mem_cons, List.mem_append, List.not_mem_nil, or_false, false_or, forall_eq_or_imp, or_imp, forall_and, forall_eq, List.append_nil, List.nil_append, BI.name, esLen, ksNames, List.map_cons, List.map_nil, List.map_append]
  simp only [h0, h1, h2, and_self, implies_true, false_implies]
theorem fit_up_by : (fnScB ["many", "number"] ["many", "number"] (defScope (top 19)) && okSs' ⟨["many", "number"], defScope (top 19), fun _ => true, none⟩ ir_up_by (defBody (top 19))) = true := by kernel_rfl
theorem nd_up_by {p : Need → Prop}  : ∀ m ∈ needSs ir_up_by, p m := by
  unfold ir_up_by b_up_by
  simp only [needSs, needS, needE, needEs, needKs, needEo, needIt, List.mem_cons, List.mem_append, List.not_mem_nil, or_false, false_or, forall_eq_or_imp, or_imp, forall_and, forall_eq, List.append_nil, List.nil_append, BI.name, esLen, ksNames, List.map_cons, List.map_nil, List.map_append]
  simp only [implies_true, false_implies]
theorem fit_total_of : (fnScB ["row", "many", "literal"] ["row"] (defScope (top 23)) && okSs' ⟨["row", "many", "literal"], defScope (top 23), fun _ => true, none⟩ ir_total_of (defBody (top 23))) = true := by kernel_rfl
theorem nd_total_of {p : Need → Prop} (h0 : p (.free "sum")) : ∀ m ∈ needSs ir_total_of, p m := by
  unfold ir_total_of b_total_of
  simp only [needSs, needS, needE, needEs, needKs, needEo, needIt, List.mem_cons, List.mem_append, List.not_mem_nil, or_false, false_or, forall_eq_or_imp, or_imp, forall_and, forall_eq, List.append_nil, List.nil_append, BI.name, esLen, ksNames, List.map_cons, List.map_nil, List.map_append]
  simp only [h0, and_self, implies_true, false_implies]
theorem fit_Rows_switches : (fnScB ["self"] ["self"] (defScope (inC 28 2)) && okSs' ⟨["self"], defScope (inC 28 2), fun _ => true, none⟩ ir_Rows_switches (defBody (inC 28 2))) = true := by kernel_rfl
theorem nd_Rows_switches {p : Need → Prop} (h0 : p (.fld "Rows" "own_switches")) : ∀ m ∈ needSs ir_Rows_switches, p m := by
  unfold ir_Rows_switches b_Rows_switches
  simp only [needSs, needS, needE, needEs, needKs, needEo, needIt, List.mem_cons, List.mem_append, List.not_mem_nil, or_false, false_or, forall_eq_or_imp, or_imp, forall_and, forall_eq, List.append_nil, List.nil_append, BI.name, esLen, ksNames, List.map_cons, List.map_nil, List.map_append]
  simp only [h0, and_self, implies_true, false_implies]
theorem fit_Rows_rows : (fnScB ["self"] ["self"] (defScope (inC 28 3)) && okSs' ⟨["self"], defScope (inC 28 3), fun _ => true, none⟩ ir_Rows_rows (defBody (inC 28 3))) = true := by kernel_rfl
theorem nd_Rows_rows {p : Need → Prop} (h0 : p (.fld "Rows" "own_rows")) : ∀ m ∈ needSs ir_Rows_rows, p m := by
  unfold ir_Rows_rows b_Rows_rows
  simp only [needSs, needS, needE, needEs, needKs, needEo, needIt, List.mem_cons, List.mem_append, List.not_mem_nil, or_false, false_or, forall_eq_or_imp, or_imp, forall_and, forall_eq, List.append_nil, List.nil_append, BI.name, esLen, ksNames, List.map_cons, List.map_nil, List.map_append]
  simp only [h0, and_self, implies_true, false_implies]
theorem fit_check_rows : (fnScB ["rows"] ["rows"] (defScope (top 29)) && okSs' ⟨["rows"], defScope (top 29), fun _ => true, none⟩ ir_check_rows (defBody (top 29))) = true := by kernel_rfl
theorem nd_check_rows {p : Need → Prop} (h0 : p (.free "isinstance")) (h1 : p (.isi "Rows" ["Rows"])) : ∀ m ∈ needSs ir_check_rows, p m := by
  unfold ir_check_rows b_check_rows
  simp only [needSs, needS, needE, needEs, needKs, needEo, needIt, List.mem_cons, List.mem_append, List.not_mem_nil, or_false, false_or, forall_eq_or_imp, or_imp, forall_and, forall_eq, List.append_nil, List.nil_append, BI.name, esLen, ksNames, List.map_cons, List.map_nil, List.map_append]
  simp only [h0, h1, and_self, implies_true, false_implies]
theorem fit_Checker_all_rows : (fnScB ["self"] ["self"] (defScope (inC 37 1)) && okSs' ⟨["self"], defScope (inC 37 1), fun _ => true, none⟩ ir_Checker_all_rows (defBody (inC 37 1))) = true := by kernel_rfl
theorem nd_Checker_all_rows {p : Need → Prop} (h0 : p (.free "list")) (h1 : p (.fld "Checker" "own_rows")) : ∀ m ∈ needSs ir_Checker_all_rows, p m := by
  unfold ir_Checker_all_rows b_Checker_all_rows
  simp only [needSs, needS, needE, needEs, needKs, needEo, needIt, List.mem_cons, List.mem_append, List.not_mem_nil, or_false, false_or, forall_eq_or_imp, or_imp, forall_and, forall_eq, List.append_nil, List.nil_append, BI.name, esLen, ksNames, List.map_cons, List.map_nil, List.map_append]
  simp only [h0, h1, and_self, implies_true, false_implies]
theorem fit_Checker_count : (fnScB ["self"] ["self"] (defScope (inC 37 2)) && okSs' ⟨["self"], defScope (inC 37 2), fun _ => true, none⟩ ir_Checker_count (defBody (inC 37 2))) = true := by kernel_rfl
theorem nd_Checker_count {p : Need → Prop} (h0 : p (.free "len")) (h1 : p (.fld "Checker" "own_rows")) : ∀ m ∈ needSs ir_Checker_count, p m := by
  unfold ir_Checker_count b_Checker_count
  simp only [needSs, needS, needE, needEs, needKs, needEo, needIt, List.mem_cons, List.mem_append, List.not_mem_nil, or_false, false_or, forall_eq_or_imp, or_imp, forall_and, forall_eq, List.append_nil, List.nil_append, BI.name, esLen, ksNames, List.map_cons, List.map_nil, List.map_append]
  simp only [h0, h1, and_self, implies_true, false_implies]
theorem fit_Checker_is_live : (fnScB ["self", "at"] ["self", "at"] (defScope (inC 37 4)) && okSs' ⟨["self", "at"], defScope (inC 37 4), fun _ => true, none⟩ ir_Checker_is_live (defBody (inC 37 4))) = true := by kernel_rfl
theorem nd_Checker_is_live {p : Need → Prop} (h0 : p (.fld "Checker" "own_dropped")) : ∀ m ∈ needSs ir_Checker_is_live, p m := by
  unfold ir_Checker_is_live b_Checker_is_live
  simp only [needSs, needS, needE, needEs, needKs, needEo, needIt, List.mem_cons, List.mem_append, List.not_mem_nil, or_false, false_or, forall_eq_or_imp, or_imp, forall_and, forall_eq, List.append_nil, List.nil_append, BI.name, esLen, ksNames, List.map_cons, List.map_nil, List.map_append]
  simp only [h0, and_self, implies_true, false_implies]
theorem fit_Renumbering_keep : (fnScB ["self", "first", "many", "at"] ["self", "first", "many"] (defScope (inC 46 1)) && okSs' ⟨["self", "first", "many", "at"], defScope (inC 46 1), fun _ => true, none⟩ ir_Renumbering_keep (defBody (inC 46 1))) = true := by kernel_rfl
theorem nd_Renumbering_keep {p : Need → Prop} (h0 : p (.free "range")) (h1 : p (.fld "Renumbering" "own_rows")) (h2 : p (.fld "Renumbering" "own_next")) : ∀ m ∈ needSs ir_Renumbering_keep, p m := by
  unfold ir_Renumbering_keep b_Renumbering_keep
  simp only [needSs, needS, needE, needEs, needKs, needEo, needIt, List.mem_cons, List.mem_append, List.not_mem_nil, or_false, false_or, forall_eq_or_imp, or_imp, forall_and, forall_eq, List.append_nil, List.nil_append, BI.name, esLen, ksNames, List.map_cons, List.map_nil, List.map_append]
  simp only [h0, h1, h2, and_self, implies_true, false_implies]
theorem fit_Renumbering_keep_switch : (fnScB ["self", "switch"] ["self", "switch"] (defScope (inC 46 2)) && okSs' ⟨["self", "switch"], defScope (inC 46 2), fun _ => true, none⟩ ir_Renumbering_keep_switch (defBody (inC 46 2))) = true := by kernel_rfl
theorem nd_Renumbering_keep_switch {p : Need → Prop} (h0 : p (.fld "Renumbering" "own_count")) (h1 : p (.fld "Renumbering" "own_switches")) : ∀ m ∈ needSs ir_Renumbering_keep_switch, p m := by
  unfold ir_Renumbering_keep_switch b_Renumbering_keep_switch
  simp only [needSs, needS, needE, needEs, needKs, needEo, needIt, List.mem_cons, List.mem_append, List.not_mem_nil, or_false, false_or, forall_eq_or_imp, or_imp, forall_and, forall_eq, List.append_nil, List.nil_append, BI.name, esLen, ksNames, List.map_cons, List.map_nil, List.map_append]
  simp only [h0, h1, and_self, implies_true, false_implies]
theorem fit_Renumbering_literal : (fnScB ["self", "literal", "switch"] ["self", "literal"] (defScope (inC 46 3)) && okSs' ⟨["self", "literal", "switch"], defScope (inC 46 3), fun _ => true, none⟩ ir_Renumbering_literal (defBody (inC 46 3))) = true := by kernel_rfl
theorem nd_Renumbering_literal {p : Need → Prop} (h0 : p (.fld "Renumbering" "own_switches")) (h1 : p (.free "abs")) : ∀ m ∈ needSs ir_Renumbering_literal, p m := by
  unfold ir_Renumbering_literal b_Renumbering_literal
  simp only [needSs, needS, needE, needEs, needKs, needEo, needIt, List.mem_cons, List.mem_append, List.not_mem_nil, or_false, false_or, forall_eq_or_imp, or_imp, forall_and, forall_eq, List.append_nil, List.nil_append, BI.name, esLen, ksNames, List.map_cons, List.map_nil, List.map_append]
  simp only [h0, h1, and_self, implies_true, false_implies]
theorem fit_Renumbering_has_row : (fnScB ["self", "at"] ["self", "at"] (defScope (inC 46 6)) && okSs' ⟨["self", "at"], defScope (inC 46 6), fun _ => true, none⟩ ir_Renumbering_has_row (defBody (inC 46 6))) = true := by kernel_rfl
theorem nd_Renumbering_has_row {p : Need → Prop} (h0 : p (.fld "Renumbering" "own_rows")) : ∀ m ∈ needSs ir_Renumbering_has_row, p m := by
  unfold ir_Renumbering_has_row b_Renumbering_has_row
  simp only [needSs, needS, needE, needEs, needKs, needEo, needIt, List.mem_cons, List.mem_append, List.not_mem_nil, or_false, false_or, forall_eq_or_imp, or_imp, forall_and, forall_eq, List.append_nil, List.nil_append, BI.name, esLen, ksNames, List.map_cons, List.map_nil, List.map_append]
  simp only [h0, and_self, implies_true, false_implies]
theorem fit__law_pot : (fnScB ["script", "place", "cell", "own", "small"] ["script", "place"] (defScope (top 52)) && okSs' ⟨["script", "place", "cell", "own", "small"], defScope (top 52), fun _ => true, none⟩ ir__law_pot (defBody (top 52))) = true := by kernel_rfl
theorem nd__law_pot {p : Need → Prop} (h0 : p (.free "len")) (h1 : p (.free "int")) (h2 : p (.free "abs")) : ∀ m ∈ needSs ir__law_pot, p m := by
  unfold ir__law_pot b__law_pot
  simp only [needSs, needS, needE, needEs, needKs, needEo, needIt, List.mem_cons, List.mem_append, List.not_mem_nil, or_false, false_or, forall_eq_or_imp, or_imp, forall_and, forall_eq, List.append_nil, List.nil_append, BI.name, esLen, ksNames, List.map_cons, List.map_nil, List.map_append]
  simp only [h0, h1, h2, and_self, implies_true, false_implies]
theorem fit__law_take : (fnScB ["pot", "upto", "prime", "mixed", "digit"] ["pot", "upto"] (defScope (top 53)) && okSs' ⟨["pot", "upto", "prime", "mixed", "digit"], defScope (top 53), fun _ => true, none⟩ ir__law_take (defBody (top 53))) = true := by kernel_rfl
theorem nd__law_take {p : Need → Prop} (h0 : p (.free "int")) : ∀ m ∈ needSs ir__law_take, p m := by
  unfold ir__law_take b__law_take
  simp only [needSs, needS, needE, needEs, needKs, needEo, needIt, List.mem_cons, List.mem_append, List.not_mem_nil, or_false, false_or, forall_eq_or_imp, or_imp, forall_and, forall_eq, List.append_nil, List.nil_append, BI.name, esLen, ksNames, List.map_cons, List.map_nil, List.map_append]
  simp only [h0, and_self, implies_true, false_implies]
theorem fit__law_cells : (fnScB ["script", "limit"] ["script", "limit"] (defScope (top 54)) && okSs' ⟨["script", "limit"], defScope (top 54), fun _ => true, none⟩ ir__law_cells (defBody (top 54))) = true := by kernel_rfl
theorem nd__law_cells {p : Need → Prop} (h0 : p (.free "list")) (h1 : p (.free "range")) (h2 : p (.free "max")) (h3 : p (.free "min")) (h4 : p (.free "len")) : ∀ m ∈ needSs ir__law_cells, p m := by
  unfold ir__law_cells b__law_cells
  simp only [needSs, needS, needE, needEs, needKs, needEo, needIt, List.mem_cons, List.mem_append, List.not_mem_nil, or_false, false_or, forall_eq_or_imp, or_imp, forall_and, forall_eq, List.append_nil, List.nil_append, BI.name, esLen, ksNames, List.map_cons, List.map_nil, List.map_append]
  simp only [h0, h1, h2, h3, h4, and_self, implies_true, false_implies]
theorem fit__law_is_int : (fnScB ["value"] ["value"] (defScope (top 57)) && okSs' ⟨["value"], defScope (top 57), fun _ => true, none⟩ ir__law_is_int (defBody (top 57))) = true := by kernel_rfl
theorem nd__law_is_int {p : Need → Prop} (h0 : p (.free "isinstance")) (h1 : p (.isi "int" [])) (h2 : p (.isi "bool" [])) : ∀ m ∈ needSs ir__law_is_int, p m := by
  unfold ir__law_is_int b__law_is_int
  simp only [needSs, needS, needE, needEs, needKs, needEo, needIt, List.mem_cons, List.mem_append, List.not_mem_nil, or_false, false_or, forall_eq_or_imp, or_imp, forall_and, forall_eq, List.append_nil, List.nil_append, BI.name, esLen, ksNames, List.map_cons, List.map_nil, List.map_append]
  simp only [h0, h1, h2, and_self, implies_true, false_implies]
theorem fit__law_merged : (fnScB ["pairs", "least", "net", "terms", "switch", "many", "literal"] ["pairs", "least"] (defScope (top 58)) && okSs' ⟨["pairs", "least", "net", "terms", "switch", "many", "literal"], defScope (top 58), fun _ => true, none⟩ ir__law_merged (defBody (top 58))) = true := by kernel_rfl
theorem nd__law_merged {p : Need → Prop} (h0 : p (.free "abs")) (h1 : p (.free "sorted")) (h2 : p (.free "int")) (h3 : p (.free "tuple")) : ∀ m ∈ needSs ir__law_merged, p m := by
  unfold ir__law_merged b__law_merged
  simp only [needSs, needS, needE, needEs, needKs, needEo, needIt, List.mem_cons, List.mem_append, List.not_mem_nil, or_false, false_or, forall_eq_or_imp, or_imp, forall_and, forall_eq, List.append_nil, List.nil_append, BI.name, esLen, ksNames, List.map_cons, List.map_nil, List.map_append]
  simp only [h0, h1, h2, h3, and_self, implies_true, false_implies]
theorem fit__law_up : (fnScB ["many", "number"] ["many", "number"] (defScope (top 59)) && okSs' ⟨["many", "number"], defScope (top 59), fun _ => true, none⟩ ir__law_up (defBody (top 59))) = true := by kernel_rfl
theorem nd__law_up {p : Need → Prop} (h0 : p (.free "int")) : ∀ m ∈ needSs ir__law_up, p m := by
  unfold ir__law_up b__law_up
  simp only [needSs, needS, needE, needEs, needKs, needEo, needIt, List.mem_cons, List.mem_append, List.not_mem_nil, or_false, false_or, forall_eq_or_imp, or_imp, forall_and, forall_eq, List.append_nil, List.nil_append, BI.name, esLen, ksNames, List.map_cons, List.map_nil, List.map_append]
  simp only [h0, and_self, implies_true, false_implies]
theorem fit_is_between : (fnScB ["value", "least", "most"] ["value", "least", "most"] (defScope (top 9)) && okSs' ⟨["value", "least", "most"], defScope (top 9), fun _ => true, none⟩ ir_is_between (defBody (top 9))) = true := by kernel_rfl
theorem nd_is_between {p : Need → Prop} (h0 : p (.fn "is_integer" (κR "" "is_integer"))) : ∀ m ∈ needSs ir_is_between, p m := by
  unfold ir_is_between b_is_between
  simp only [needSs, needS, needE, needEs, needKs, needEo, needIt, List.mem_cons, List.mem_append, List.not_mem_nil, or_false, false_or, forall_eq_or_imp, or_imp, forall_and, forall_eq, List.append_nil, List.nil_append, BI.name, esLen, ksNames, List.map_cons, List.map_nil, List.map_append]
  simp only [h0, and_self, implies_true, false_implies]
theorem fit_is_literal : (fnScB ["value"] ["value"] (defScope (top 14)) && okSs' ⟨["value"], defScope (top 14), fun _ => true, none⟩ ir_is_literal (defBody (top 14))) = true := by kernel_rfl
theorem nd_is_literal {p : Need → Prop} (h0 : p (.fn "is_integer" (κR "" "is_integer"))) (h1 : p (.free "abs")) (h2 : p (.glob "MOST_INNER" (.int 100000))) : ∀ m ∈ needSs ir_is_literal, p m := by
  unfold ir_is_literal b_is_literal
  simp only [needSs, needS, needE, needEs, needKs, needEo, needIt, List.mem_cons, List.mem_append, List.not_mem_nil, or_false, false_or, forall_eq_or_imp, or_imp, forall_and, forall_eq, List.append_nil, List.nil_append, BI.name, esLen, ksNames, List.map_cons, List.map_nil, List.map_append]
  simp only [h0, h1, h2, and_self, implies_true, false_implies]
theorem fit_divided_row : (fnScB ["row", "number", "terms", "least", "many", "literal"] ["row", "number"] (defScope (top 20)) && okSs' ⟨["row", "number", "terms", "least", "many", "literal"], defScope (top 20), fun _ => true, none⟩ ir_divided_row (defBody (top 20))) = true := by kernel_rfl
theorem nd_divided_row {p : Need → Prop} (h0 : p (.free "tuple")) (h1 : p (.fn "up_by" (κR "" "up_by"))) : ∀ m ∈ needSs ir_divided_row, p m := by
  unfold ir_divided_row b_divided_row
  simp only [needSs, needS, needE, needEs, needKs, needEo, needIt, List.mem_cons, List.mem_append, List.not_mem_nil, or_false, false_or, forall_eq_or_imp, or_imp, forall_and, forall_eq, List.append_nil, List.nil_append, BI.name, esLen, ksNames, List.map_cons, List.map_nil, List.map_append]
  simp only [h0, h1, and_self, implies_true, false_implies]
theorem fit_added_rows : (fnScB ["parts", "axioms", "pairs", "least", "times", "row", "many", "literal"] ["parts", "axioms"] (defScope (top 21)) && okSs' ⟨["parts", "axioms", "pairs", "least", "times", "row", "many", "literal"], defScope (top 21), fun _ => true, none⟩ ir_added_rows (defBody (top 21))) = true := by kernel_rfl
theorem nd_added_rows {p : Need → Prop} (h0 : p (.fn "merged" (κR "" "merged"))) : ∀ m ∈ needSs ir_added_rows, p m := by
  unfold ir_added_rows b_added_rows
  simp only [needSs, needS, needE, needEs, needKs, needEo, needIt, List.mem_cons, List.mem_append, List.not_mem_nil, or_false, false_or, forall_eq_or_imp, or_imp, forall_and, forall_eq, List.append_nil, List.nil_append, BI.name, esLen, ksNames, List.map_cons, List.map_nil, List.map_append]
  simp only [h0, and_self, implies_true, false_implies]
theorem fit_is_false_row : (fnScB ["row"] ["row"] (defScope (top 24)) && okSs' ⟨["row"], defScope (top 24), fun _ => true, none⟩ ir_is_false_row (defBody (top 24))) = true := by kernel_rfl
theorem nd_is_false_row {p : Need → Prop} (h0 : p (.fn "total_of" (κR "" "total_of"))) : ∀ m ∈ needSs ir_is_false_row, p m := by
  unfold ir_is_false_row b_is_false_row
  simp only [needSs, needS, needE, needEs, needKs, needEo, needIt, List.mem_cons, List.mem_append, List.not_mem_nil, or_false, false_or, forall_eq_or_imp, or_imp, forall_and, forall_eq, List.append_nil, List.nil_append, BI.name, esLen, ksNames, List.map_cons, List.map_nil, List.map_append]
  simp only [h0, and_self, implies_true, false_implies]
theorem fit_rows_of_meaning : (fnScB ["switch", "meaning", "rest", "one", "other", "terms", "least", "many", "literal"] ["switch", "meaning"] (defScope (top 35)) && okSs' ⟨["switch", "meaning", "rest", "one", "other", "terms", "least", "many", "literal"], defScope (top 35), fun _ => true, none⟩ ir_rows_of_meaning (defBody (top 35))) = true := by kernel_rfl
theorem nd_rows_of_meaning {p : Need → Prop} (h0 : p (.fn "total_of" (κR "" "total_of"))) (h1 : p (.fn "merged" (κR "" "merged"))) : ∀ m ∈ needSs ir_rows_of_meaning, p m := by
  unfold ir_rows_of_meaning b_rows_of_meaning
  simp only [needSs, needS, needE, needEs, needKs, needEo, needIt, List.mem_cons, List.mem_append, List.not_mem_nil, or_false, false_or, forall_eq_or_imp, or_imp, forall_and, forall_eq, List.append_nil, List.nil_append, BI.name, esLen, ksNames, List.map_cons, List.map_nil, List.map_append]
  simp only [h0, h1, and_self, implies_true, false_implies]
theorem fit_Renumbering_terms : (fnScB ["self", "terms", "many", "literal"] ["self", "terms"] (defScope (inC 46 4)) && okSs' ⟨["self", "terms", "many", "literal"], defScope (inC 46 4), fun _ => true, none⟩ ir_Renumbering_terms (defBody (inC 46 4))) = true := by kernel_rfl
theorem nd_Renumbering_terms {p : Need → Prop} (h0 : p (.free "tuple")) (h1 : p (.mth "Renumbering" "literal" (κR "Renumbering" "literal"))) : ∀ m ∈ needSs ir_Renumbering_terms, p m := by
  unfold ir_Renumbering_terms b_Renumbering_terms
  simp only [needSs, needS, needE, needEs, needKs, needEo, needIt, List.mem_cons, List.mem_append, List.not_mem_nil, or_false, false_or, forall_eq_or_imp, or_imp, forall_and, forall_eq, List.append_nil, List.nil_append, BI.name, esLen, ksNames, List.map_cons, List.map_nil, List.map_append]
  simp only [h0, h1, and_self, implies_true, false_implies]
theorem fit__law_some : (fnScB ["pot", "pool", "amount", "lap", "rest", "found"] ["pot", "pool", "amount"] (defScope (top 55)) && okSs' ⟨["pot", "pool", "amount", "lap", "rest", "found"], defScope (top 55), fun _ => true, none⟩ ir__law_some (defBody (top 55))) = true := by kernel_rfl
theorem nd__law_some {p : Need → Prop} (h0 : p (.free "list")) (h1 : p (.free "range")) (h2 : p (.fn "_law_take" ct__law_take)) (h3 : p (.free "len")) : ∀ m ∈ needSs ir__law_some, p m := by
  unfold ir__law_some b__law_some
  simp only [needSs, needS, needE, needEs, needKs, needEo, needIt, List.mem_cons, List.mem_append, List.not_mem_nil, or_false, false_or, forall_eq_or_imp, or_imp, forall_and, forall_eq, List.append_nil, List.nil_append, BI.name, esLen, ksNames, List.map_cons, List.map_nil, List.map_append]
  simp only [h0, h1, h2, h3, and_self, implies_true, false_implies]
theorem fit__law_cut : (fnScB ["parts", "axioms", "number", "pairs", "least", "times", "row", "terms", "many", "literal"] ["parts", "axioms", "number"] (defScope (top 60)) && okSs' ⟨["parts", "axioms", "number", "pairs", "least", "times", "row", "terms", "many", "literal"], defScope (top 60), fun _ => true, none⟩ ir__law_cut (defBody (top 60))) = true := by kernel_rfl
theorem nd__law_cut {p : Need → Prop} (h0 : p (.free "list")) (h1 : p (.fn "_law_merged" (κR "" "_law_merged"))) (h2 : p (.fn "_law_up" (κR "" "_law_up"))) (h3 : p (.free "tuple")) (h4 : p (.free "min")) : ∀ m ∈ needSs ir__law_cut, p m := by
  unfold ir__law_cut b__law_cut
  simp only [needSs, needS, needE, needEs, needKs, needEo, needIt, List.mem_cons, List.mem_append, List.not_mem_nil, or_false, false_or, forall_eq_or_imp, or_imp, forall_and, forall_eq, List.append_nil, List.nil_append, BI.name, esLen, ksNames, List.map_cons, List.map_nil, List.map_append]
  simp only [h0, h1, h2, h3, h4, and_self, implies_true, false_implies]
theorem fit__law_are_pairs : (fnScB ["value", "many", "number", "part"] ["value"] (defScope (top 61)) && okSs' ⟨["value", "many", "number", "part"], defScope (top 61), fun _ => true, none⟩ ir__law_are_pairs (defBody (top 61))) = true := by kernel_rfl
theorem nd__law_are_pairs {p : Need → Prop} (h0 : p (.free "isinstance")) (h1 : p (.isi "tuple" [])) (h2 : p (.free "all")) (h3 : p (.free "len")) (h4 : p (.fn "_law_is_int" (κR "" "_law_is_int"))) : ∀ m ∈ needSs ir__law_are_pairs, p m := by
  unfold ir__law_are_pairs b__law_are_pairs
  simp only [needSs, needS, needE, needEs, needKs, needEo, needIt, List.mem_cons, List.mem_append, List.not_mem_nil, or_false, false_or, forall_eq_or_imp, or_imp, forall_and, forall_eq, List.append_nil, List.nil_append, BI.name, esLen, ksNames, List.map_cons, List.map_nil, List.map_append]
  simp only [h0, h1, h2, h3, h4, and_self, implies_true, false_implies]
theorem fit__law_meaning : (fnScB ["switch", "terms", "number", "rest", "one", "many", "literal"] ["switch", "terms", "number"] (defScope (top 62)) && okSs' ⟨["switch", "terms", "number", "rest", "one", "many", "literal"], defScope (top 62), fun _ => true, none⟩ ir__law_meaning (defBody (top 62))) = true := by kernel_rfl
theorem nd__law_meaning {p : Need → Prop} (h0 : p (.free "sum")) (h1 : p (.fn "_law_merged" (κR "" "_law_merged"))) (h2 : p (.free "list")) : ∀ m ∈ needSs ir__law_meaning, p m := by
  unfold ir__law_meaning b__law_meaning
  simp only [needSs, needS, needE, needEs, needKs, needEo, needIt, List.mem_cons, List.mem_append, List.not_mem_nil, or_false, false_or, forall_eq_or_imp, or_imp, forall_and, forall_eq, List.append_nil, List.nil_append, BI.name, esLen, ksNames, List.map_cons, List.map_nil, List.map_append]
  simp only [h0, h1, h2, and_self, implies_true, false_implies]
theorem fit_are_terms : (fnScB ["value", "ahead", "term"] ["value"] (defScope (top 15)) && okSs' ⟨["value", "ahead", "term"], defScope (top 15), fun _ => true, none⟩ ir_are_terms (defBody (top 15))) = true := by kernel_rfl
theorem nd_are_terms {p : Need → Prop} (h0 : p (.free "isinstance")) (h1 : p (.isi "tuple" [])) (h2 : p (.free "len")) (h3 : p (.fn "is_integer" (κR "" "is_integer"))) (h4 : p (.fn "is_literal" (κR "" "is_literal"))) (h5 : p (.free "abs")) : ∀ m ∈ needSs ir_are_terms, p m := by
  unfold ir_are_terms b_are_terms
  simp only [needSs, needS, needE, needEs, needKs, needEo, needIt, List.mem_cons, List.mem_append, List.not_mem_nil, or_false, false_or, forall_eq_or_imp, or_imp, forall_and, forall_eq, List.append_nil, List.nil_append, BI.name, esLen, ksNames, List.map_cons, List.map_nil, List.map_append]
  simp only [h0, h1, h2, h3, h4, h5, and_self, implies_true, false_implies]
theorem fit_cut_row : (fnScB ["parts", "axioms", "number", "row"] ["parts", "axioms", "number"] (defScope (top 22)) && okSs' ⟨["parts", "axioms", "number", "row"], defScope (top 22), fun _ => true, none⟩ ir_cut_row (defBody (top 22))) = true := by kernel_rfl
theorem nd_cut_row {p : Need → Prop} (h0 : p (.fn "added_rows" (κR "" "added_rows"))) (h1 : p (.fn "saturated_row" (κR "" "saturated_row"))) (h2 : p (.fn "divided_row" (κR "" "divided_row"))) : ∀ m ∈ needSs ir_cut_row, p m := by
  unfold ir_cut_row b_cut_row
  simp only [needSs, needS, needE, needEs, needKs, needEo, needIt, List.mem_cons, List.mem_append, List.not_mem_nil, or_false, false_or, forall_eq_or_imp, or_imp, forall_and, forall_eq, List.append_nil, List.nil_append, BI.name, esLen, ksNames, List.map_cons, List.map_nil, List.map_append]
  simp only [h0, h1, h2, and_self, implies_true, false_implies]
theorem fit_are_pairs : (fnScB ["value", "many", "literal", "pair"] ["value"] (defScope (top 25)) && okSs' ⟨["value", "many", "literal", "pair"], defScope (top 25), fun _ => true, none⟩ ir_are_pairs (defBody (top 25))) = true := by kernel_rfl
theorem nd_are_pairs {p : Need → Prop} (h0 : p (.free "isinstance")) (h1 : p (.isi "tuple" [])) (h2 : p (.free "all")) (h3 : p (.free "len")) (h4 : p (.fn "is_integer" (κR "" "is_integer"))) (h5 : p (.fn "is_literal" (κR "" "is_literal"))) : ∀ m ∈ needSs ir_are_pairs, p m := by
  unfold ir_are_pairs b_are_pairs
  simp only [needSs, needS, needE, needEs, needKs, needEo, needIt, List.mem_cons, List.mem_append, List.not_mem_nil, or_false, false_or, forall_eq_or_imp, or_imp, forall_and, forall_eq, List.append_nil, List.nil_append, BI.name, esLen, ksNames, List.map_cons, List.map_nil, List.map_append]
  simp only [h0, h1, h2, h3, h4, h5, and_self, implies_true, false_implies]
theorem fit_are_times : (fnScB ["value", "many", "times", "at", "part"] ["value", "many"] (defScope (top 26)) && okSs' ⟨["value", "many", "times", "at", "part"], defScope (top 26), fun _ => true, none⟩ ir_are_times (defBody (top 26))) = true := by kernel_rfl
theorem nd_are_times {p : Need → Prop} (h0 : p (.free "isinstance")) (h1 : p (.isi "tuple" [])) (h2 : p (.free "all")) (h3 : p (.free "len")) (h4 : p (.fn "is_integer" (κR "" "is_integer"))) (h5 : p (.fn "is_between" (κR "" "is_between"))) : ∀ m ∈ needSs ir_are_times, p m := by
  unfold ir_are_times b_are_times
  simp only [needSs, needS, needE, needEs, needKs, needEo, needIt, List.mem_cons, List.mem_append, List.not_mem_nil, or_false, false_or, forall_eq_or_imp, or_imp, forall_and, forall_eq, List.append_nil, List.nil_append, BI.name, esLen, ksNames, List.map_cons, List.map_nil, List.map_append]
  simp only [h0, h1, h2, h3, h4, h5, and_self, implies_true, false_implies]
theorem fit_Checker___init__ : (fnScB ["self", "rows"] ["self", "rows"] (defScope (inC 37 0)) && okSs' ⟨["self", "rows"], defScope (inC 37 0), fun _ => true, none⟩ ir_Checker___init__ (defBody (inC 37 0))) = true := by kernel_rfl
theorem nd_Checker___init__ {p : Need → Prop} (h0 : p (.fld "Checker" "own_rows")) (h1 : p (.free "list")) (h2 : p (.prp "Rows" "rows" (κR "Rows" "rows"))) (h3 : p (.fld "Checker" "own_switches")) (h4 : p (.prp "Rows" "switches" (κR "Rows" "switches"))) (h5 : p (.fld "Checker" "own_dropped")) : ∀ m ∈ needSs ir_Checker___init__, p m := by
  unfold ir_Checker___init__ b_Checker___init__
  simp only [needSs, needS, needE, needEs, needKs, needEo, needIt, List.mem_cons, List.mem_append, List.not_mem_nil, or_false, false_or, forall_eq_or_imp, or_imp, forall_and, forall_eq, List.append_nil, List.nil_append, BI.name, esLen, ksNames, List.map_cons, List.map_nil, List.map_append]
  simp only [h0, h1, h2, h3, h4, h5, and_self, implies_true, false_implies]
theorem fit_Checker_over : (fnScB ["self", "some", "at", "row"] ["self"] (defScope (inC 37 5)) && okSs' ⟨["self", "some", "at", "row"], defScope (inC 37 5), fun _ => true, none⟩ ir_Checker_over (defBody (inC 37 5))) = true := by kernel_rfl
theorem nd_Checker_over {p : Need → Prop} (h0 : p (.free "enumerate")) (h1 : p (.fld "Checker" "own_rows")) (h2 : p (.mth "Checker" "is_live" (κR "Checker" "is_live"))) (h3 : p (.fn "is_false_row" (κR "" "is_false_row"))) : ∀ m ∈ needSs ir_Checker_over, p m := by
  unfold ir_Checker_over b_Checker_over
  simp only [needSs, needS, needE, needEs, needKs, needEo, needIt, List.mem_cons, List.mem_append, List.not_mem_nil, or_false, false_or, forall_eq_or_imp, or_imp, forall_and, forall_eq, List.append_nil, List.nil_append, BI.name, esLen, ksNames, List.map_cons, List.map_nil, List.map_append]
  simp only [h0, h1, h2, h3, and_self, implies_true, false_implies]
theorem fit_Checker_can_set : (fnScB ["self", "step", "at", "row", "many", "literal"] ["self", "step"] (defScope (inC 37 8)) && okSs' ⟨["self", "step", "at", "row", "many", "literal"], defScope (inC 37 8), fun _ => true, none⟩ ir_Checker_can_set (defBody (inC 37 8))) = true := by kernel_rfl
theorem nd_Checker_can_set {p : Need → Prop} (h0 : p (.free "len")) (h1 : p (.fn "is_literal" (κR "" "is_literal"))) (h2 : p (.free "abs")) (h3 : p (.fld "Checker" "own_switches")) (h4 : p (.free "enumerate")) (h5 : p (.fld "Checker" "own_rows")) (h6 : p (.mth "Checker" "is_live" (κR "Checker" "is_live"))) (h7 : p (.free "any")) : ∀ m ∈ needSs ir_Checker_can_set, p m := by
  unfold ir_Checker_can_set b_Checker_can_set
  simp only [needSs, needS, needE, needEs, needKs, needEo, needIt, List.mem_cons, List.mem_append, List.not_mem_nil, or_false, false_or, forall_eq_or_imp, or_imp, forall_and, forall_eq, List.append_nil, List.nil_append, BI.name, esLen, ksNames, List.map_cons, List.map_nil, List.map_append]
  simp only [h0, h1, h2, h3, h4, h5, h6, h7, and_self, implies_true, false_implies]
theorem fit_Checker_can_drop : (fnScB ["self", "step"] ["self", "step"] (defScope (inC 37 9)) && okSs' ⟨["self", "step"], defScope (inC 37 9), fun _ => true, none⟩ ir_Checker_can_drop (defBody (inC 37 9))) = true := by kernel_rfl
theorem nd_Checker_can_drop {p : Need → Prop} (h0 : p (.free "len")) (h1 : p (.fn "is_between" (κR "" "is_between"))) (h2 : p (.fld "Checker" "own_rows")) (h3 : p (.mth "Checker" "is_live" (κR "Checker" "is_live"))) : ∀ m ∈ needSs ir_Checker_can_drop, p m := by
  unfold ir_Checker_can_drop b_Checker_can_drop
  simp only [needSs, needS, needE, needEs, needKs, needEo, needIt, List.mem_cons, List.mem_append, List.not_mem_nil, or_false, false_or, forall_eq_or_imp, or_imp, forall_and, forall_eq, List.append_nil, List.nil_append, BI.name, esLen, ksNames, List.map_cons, List.map_nil, List.map_append]
  simp only [h0, h1, h2, h3, and_self, implies_true, false_implies]
theorem fit_firsts_of : (fnScB ["rows", "paper", "step", "found", "at"] ["rows", "paper"] (defScope (top 44)) && okSs' ⟨["rows", "paper", "step", "found", "at"], defScope (top 44), fun _ => true, none⟩ ir_firsts_of (defBody (top 44))) = true := by kernel_rfl
theorem nd_firsts_of {p : Need → Prop} (h0 : p (.free "len")) (h1 : p (.prp "Rows" "rows" (κR "Rows" "rows"))) (h2 : p (.glob "CUT" (.str "cut"))) (h3 : p (.glob "MEAN" (.str "mean"))) (h4 : p (.glob "SET" (.str "set"))) (h5 : p (.glob "DROP" (.str "drop"))) : ∀ m ∈ needSs ir_firsts_of, p m := by
  unfold ir_firsts_of b_firsts_of
  simp only [needSs, needS, needE, needEs, needKs, needEo, needIt, List.mem_cons, List.mem_append, List.not_mem_nil, or_false, false_or, forall_eq_or_imp, or_imp, forall_and, forall_eq, List.append_nil, List.nil_append, BI.name, esLen, ksNames, List.map_cons, List.map_nil, List.map_append]
  simp only [h0, h1, h2, h3, h4, h5, and_self, implies_true, false_implies]
theorem fit_Renumbering___init__ : (fnScB ["self", "rows", "at", "switch"] ["self", "rows"] (defScope (inC 46 0)) && okSs' ⟨["self", "rows", "at", "switch"], defScope (inC 46 0), fun _ => true, none⟩ ir_Renumbering___init__ (defBody (inC 46 0))) = true := by kernel_rfl
theorem nd_Renumbering___init__ {p : Need → Prop} (h0 : p (.fld "Renumbering" "own_rows")) (h1 : p (.free "dict")) (h2 : p (.free "range")) (h3 : p (.free "len")) (h4 : p (.prp "Rows" "rows" (κR "Rows" "rows"))) (h5 : p (.fld "Renumbering" "own_next")) (h6 : p (.fld "Renumbering" "own_switches")) (h7 : p (.prp "Rows" "switches" (κR "Rows" "switches"))) (h8 : p (.fld "Renumbering" "own_count")) : ∀ m ∈ needSs ir_Renumbering___init__, p m := by
  unfold ir_Renumbering___init__ b_Renumbering___init__
  simp only [needSs, needS, needE, needEs, needKs, needEo, needIt, List.mem_cons, List.mem_append, List.not_mem_nil, or_false, false_or, forall_eq_or_imp, or_imp, forall_and, forall_eq, List.append_nil, List.nil_append, BI.name, esLen, ksNames, List.map_cons, List.map_nil, List.map_append]
  simp only [h0, h1, h2, h3, h4, h5, h6, h7, h8, and_self, implies_true, false_implies]
theorem fit_Renumbering_step : (fnScB ["self", "step", "times", "at"] ["self", "step"] (defScope (inC 46 5)) && okSs' ⟨["self", "step", "times", "at"], defScope (inC 46 5), fun _ => true, none⟩ ir_Renumbering_step (defBody (inC 46 5))) = true := by kernel_rfl
theorem nd_Renumbering_step {p : Need → Prop} (h0 : p (.glob "CUT" (.str "cut"))) (h1 : p (.free "tuple")) (h2 : p (.fld "Renumbering" "own_rows")) (h3 : p (.mth "Renumbering" "terms" (κR "Renumbering" "terms"))) (h4 : p (.glob "MEAN" (.str "mean"))) (h5 : p (.glob "SET" (.str "set"))) (h6 : p (.mth "Renumbering" "literal" (κR "Renumbering" "literal"))) (h7 : p (.glob "DROP" (.str "drop"))) : ∀ m ∈ needSs ir_Renumbering_step, p m := by
  unfold ir_Renumbering_step b_Renumbering_step
  simp only [needSs, needS, needE, needEs, needKs, needEo, needIt, List.mem_cons, List.mem_append, List.not_mem_nil, or_false, false_or, forall_eq_or_imp, or_imp, forall_and, forall_eq, List.append_nil, List.nil_append, BI.name, esLen, ksNames, List.map_cons, List.map_nil, List.map_append]
  simp only [h0, h1, h2, h3, h4, h5, h6, h7, and_self, implies_true, false_implies]
theorem fit__law_step : (fnScB ["rows", "gone", "switches", "step", "having", "total", "live", "is_off", "at", "row", "times", "literal", "many"] ["rows", "gone", "switches", "step"] (defScope (top 63)) && okSs' ⟨["rows", "gone", "switches", "step", "having", "total", "live", "is_off", "at", "row", "times", "literal", "many"], defScope (top 63), fun _ => true, none⟩ ir__law_step (defBody (top 63))) = true := by kernel_rfl
theorem nd__law_step {p : Need → Prop} (h0 : p (.free "isinstance")) (h1 : p (.isi "tuple" [])) (h2 : p (.free "len")) (h3 : p (.isi "str" [])) (h4 : p (.fn "_law_are_pairs" (κR "" "_law_are_pairs"))) (h5 : p (.free "any")) (h6 : p (.fn "_law_is_int" (κR "" "_law_is_int"))) (h7 : p (.free "abs")) (h8 : p (.fn "_law_cut" (κR "" "_law_cut"))) (h9 : p (.free "sorted")) (h10 : p (.free "set")) (h11 : p (.free "sum")) (h12 : p (.fn "_law_meaning" (κR "" "_law_meaning"))) (h13 : p (.free "enumerate")) : ∀ m ∈ needSs ir__law_step, p m := by
  unfold ir__law_step b__law_step
  simp only [needSs, needS, needE, needEs, needKs, needEo, needIt, List.mem_cons, List.mem_append, List.not_mem_nil, or_false, false_or, forall_eq_or_imp, or_imp, forall_and, forall_eq, List.append_nil, List.nil_append, BI.name, esLen, ksNames, List.map_cons, List.map_nil, List.map_append]
  simp only [h0, h1, h2, h3, h4, h5, h6, h7, h8, h9, h10, h11, h12, h13, and_self, implies_true, false_implies]
theorem fit_is_row : (fnScB ["value"] ["value"] (defScope (top 16)) && okSs' ⟨["value"], defScope (top 16), fun _ => true, none⟩ ir_is_row (defBody (top 16))) = true := by kernel_rfl
theorem nd_is_row {p : Need → Prop} (h0 : p (.free "isinstance")) (h1 : p (.isi "tuple" [])) (h2 : p (.free "len")) (h3 : p (.fn "are_terms" (κR "" "are_terms"))) (h4 : p (.fn "is_integer" (κR "" "is_integer"))) : ∀ m ∈ needSs ir_is_row, p m := by
  unfold ir_is_row b_is_row
  simp only [needSs, needS, needE, needEs, needKs, needEo, needIt, List.mem_cons, List.mem_append, List.not_mem_nil, or_false, false_or, forall_eq_or_imp, or_imp, forall_and, forall_eq, List.append_nil, List.nil_append, BI.name, esLen, ksNames, List.map_cons, List.map_nil, List.map_append]
  simp only [h0, h1, h2, h3, h4, and_self, implies_true, false_implies]
theorem fit_are_axioms : (fnScB ["value", "times", "literal"] ["value"] (defScope (top 27)) && okSs' ⟨["value", "times", "literal"], defScope (top 27), fun _ => true, none⟩ ir_are_axioms (defBody (top 27))) = true := by kernel_rfl
theorem nd_are_axioms {p : Need → Prop} (h0 : p (.fn "are_pairs" (κR "" "are_pairs"))) (h1 : p (.free "all")) : ∀ m ∈ needSs ir_are_axioms, p m := by
  unfold ir_are_axioms b_are_axioms
  simp only [needSs, needS, needE, needEs, needKs, needEo, needIt, List.mem_cons, List.mem_append, List.not_mem_nil, or_false, false_or, forall_eq_or_imp, or_imp, forall_and, forall_eq, List.append_nil, List.nil_append, BI.name, esLen, ksNames, List.map_cons, List.map_nil, List.map_append]
  simp only [h0, h1, and_self, implies_true, false_implies]
theorem fit_Checker_can_mean : (fnScB ["self", "step"] ["self", "step"] (defScope (inC 37 7)) && okSs' ⟨["self", "step"], defScope (inC 37 7), fun _ => true, none⟩ ir_Checker_can_mean (defBody (inC 37 7))) = true := by kernel_rfl
theorem nd_Checker_can_mean {p : Need → Prop} (h0 : p (.free "len")) (h1 : p (.fn "are_terms" (κR "" "are_terms"))) (h2 : p (.free "abs")) (h3 : p (.fld "Checker" "own_switches")) (h4 : p (.fn "is_between" (κR "" "is_between"))) (h5 : p (.fn "total_of" (κR "" "total_of"))) : ∀ m ∈ needSs ir_Checker_can_mean, p m := by
  unfold ir_Checker_can_mean b_Checker_can_mean
  simp only [needSs, needS, needE, needEs, needKs, needEo, needIt, List.mem_cons, List.mem_append, List.not_mem_nil, or_false, false_or, forall_eq_or_imp, or_imp, forall_and, forall_eq, List.append_nil, List.nil_append, BI.name, esLen, ksNames, List.map_cons, List.map_nil, List.map_append]
  simp only [h0, h1, h2, h3, h4, h5, and_self, implies_true, false_implies]
theorem fit_needed_by : (fnScB ["rows", "paper", "over", "number", "firsts", "needed", "steps", "switches", "switch", "step", "first", "at", "other", "times", "literal", "many"] ["rows", "paper", "over"] (defScope (top 45)) && okSs' ⟨["rows", "paper", "over", "number", "firsts", "needed", "steps", "switches", "switch", "step", "first", "at", "other", "times", "literal", "many"], defScope (top 45), fun _ => true, none⟩ ir_needed_by (defBody (top 45))) = true := by kernel_rfl
theorem nd_needed_by {p : Need → Prop} (h0 : p (.fn "firsts_of" (κR "" "firsts_of"))) (h1 : p (.free "range")) (h2 : p (.free "len")) (h3 : p (.prp "Rows" "switches" (κR "Rows" "switches"))) (h4 : p (.glob "MEAN" (.str "mean"))) (h5 : p (.glob "CUT" (.str "cut"))) (h6 : p (.free "abs")) (h7 : p (.glob "SET" (.str "set"))) (h8 : p (.prp "Rows" "rows" (κR "Rows" "rows"))) : ∀ m ∈ needSs ir_needed_by, p m := by
  unfold ir_needed_by b_needed_by
  simp only [needSs, needS, needE, needEs, needKs, needEo, needIt, List.mem_cons, List.mem_append, List.not_mem_nil, or_false, false_or, forall_eq_or_imp, or_imp, forall_and, forall_eq, List.append_nil, List.nil_append, BI.name, esLen, ksNames, List.map_cons, List.map_nil, List.map_append]
  simp only [h0, h1, h2, h3, h4, h5, h6, h7, h8, and_self, implies_true, false_implies]
theorem fit__law_gone_through : (fnScB ["switches", "told", "steps", "rows", "gone", "number", "step", "found"] ["switches", "told", "steps"] (defScope (top 64)) && okSs' ⟨["switches", "told", "steps", "rows", "gone", "number", "step", "found"], defScope (top 64), fun _ => true, none⟩ ir__law_gone_through (defBody (top 64))) = true := by kernel_rfl
theorem nd__law_gone_through {p : Need → Prop} (h0 : p (.free "list")) (h1 : p (.free "enumerate")) (h2 : p (.fn "_law_step" (κR "" "_law_step"))) : ∀ m ∈ needSs ir__law_gone_through, p m := by
  unfold ir__law_gone_through b__law_gone_through
  simp only [needSs, needS, needE, needEs, needKs, needEo, needIt, List.mem_cons, List.mem_append, List.not_mem_nil, or_false, false_or, forall_eq_or_imp, or_imp, forall_and, forall_eq, List.append_nil, List.nil_append, BI.name, esLen, ksNames, List.map_cons, List.map_nil, List.map_append]
  simp only [h0, h1, h2, and_self, implies_true, false_implies]
theorem fit_Rows___init__ : (fnScB ["self", "switches", "rows", "row"] ["self", "switches", "rows"] (defScope (inC 28 0)) && okSs' ⟨["self", "switches", "rows", "row"], defScope (inC 28 0), fun _ => true, none⟩ ir_Rows___init__ (defBody (inC 28 0))) = true := by kernel_rfl
theorem nd_Rows___init__ {p : Need → Prop} (h0 : p (.fn "is_between" (κR "" "is_between"))) (h1 : p (.glob "MOST_INNER" (.int 100000))) (h2 : p (.free "isinstance")) (h3 : p (.isi "tuple" [])) (h4 : p (.free "len")) (h5 : p (.glob "MOST_ROWS" (.int 100000))) (h6 : p (.fn "is_row" (κR "" "is_row"))) (h7 : p (.free "abs")) (h8 : p (.fld "Rows" "own_switches")) (h9 : p (.fld "Rows" "own_rows")) : ∀ m ∈ needSs ir_Rows___init__, p m := by
  unfold ir_Rows___init__ b_Rows___init__
  simp only [needSs, needS, needE, needEs, needKs, needEo, needIt, List.mem_cons, List.mem_append, List.not_mem_nil, or_false, false_or, forall_eq_or_imp, or_imp, forall_and, forall_eq, List.append_nil, List.nil_append, BI.name, esLen, ksNames, List.map_cons, List.map_nil, List.map_append]
  simp only [h0, h1, h2, h3, h4, h5, h6, h7, h8, h9, and_self, implies_true, false_implies]
theorem fit_Checker_can_cut : (fnScB ["self", "step", "times", "literal", "at"] ["self", "step"] (defScope (inC 37 6)) && okSs' ⟨["self", "step", "times", "literal", "at"], defScope (inC 37 6), fun _ => true, none⟩ ir_Checker_can_cut (defBody (inC 37 6))) = true := by kernel_rfl
theorem nd_Checker_can_cut {p : Need → Prop} (h0 : p (.free "len")) (h1 : p (.fn "are_times" (κR "" "are_times"))) (h2 : p (.fld "Checker" "own_rows")) (h3 : p (.fn "are_axioms" (κR "" "are_axioms"))) (h4 : p (.free "all")) (h5 : p (.mth "Checker" "is_live" (κR "Checker" "is_live"))) (h6 : p (.fn "is_integer" (κR "" "is_integer"))) (h7 : p (.free "abs")) (h8 : p (.fld "Checker" "own_switches")) : ∀ m ∈ needSs ir_Checker_can_cut, p m := by
  unfold ir_Checker_can_cut b_Checker_can_cut
  simp only [needSs, needS, needE, needEs, needKs, needEo, needIt, List.mem_cons, List.mem_append, List.not_mem_nil, or_false, false_or, forall_eq_or_imp, or_imp, forall_and, forall_eq, List.append_nil, List.nil_append, BI.name, esLen, ksNames, List.map_cons, List.map_nil, List.map_append]
  simp only [h0, h1, h2, h3, h4, h5, h6, h7, h8, and_self, implies_true, false_implies]
theorem fit_trimmed_by : (fnScB ["rows", "paper", "over", "steps", "anew", "found", "switch", "number", "step", "first"] ["rows", "paper", "over"] (defScope (top 47)) && okSs' ⟨["rows", "paper", "over", "steps", "anew", "found", "switch", "number", "step", "first"], defScope (top 47), fun _ => true, none⟩ ir_trimmed_by (defBody (top 47))) = true := by kernel_rfl
theorem nd_trimmed_by {p : Need → Prop} (h0 : p (.fn "needed_by" (κR "" "needed_by"))) (h1 : p (.mk "Renumbering" (κR "Renumbering" "__init__"))) (h2 : p (.prp "Rows" "switches" (κR "Rows" "switches"))) (h3 : p (.free "enumerate")) (h4 : p (.free "zip")) (h5 : p (.fn "firsts_of" (κR "" "firsts_of"))) (h6 : p (.free "int")) (h7 : p (.glob "MEAN" (.str "mean"))) (h8 : p (.mth "Renumbering" "step" (κR "Renumbering" "step"))) (h9 : p (.mth "Renumbering" "keep_switch" (κR "Renumbering" "keep_switch"))) (h10 : p (.mth "Renumbering" "keep" (κR "Renumbering" "keep"))) (h11 : p (.glob "DROP" (.str "drop"))) (h12 : p (.mth "Renumbering" "has_row" (κR "Renumbering" "has_row"))) (h13 : p (.free "tuple")) : ∀ m ∈ needSs ir_trimmed_by, p m := by
  unfold ir_trimmed_by b_trimmed_by
  simp only [needSs, needS, needE, needEs, needKs, needEo, needIt, List.mem_cons, List.mem_append, List.not_mem_nil, or_false, false_or, forall_eq_or_imp, or_imp, forall_and, forall_eq, List.append_nil, List.nil_append, BI.name, esLen, ksNames, List.map_cons, List.map_nil, List.map_append]
  simp only [h0, h1, h2, h3, h4, h5, h6, h7, h8, h9, h10, h11, h12, h13, and_self, implies_true, false_implies]
theorem fit__law_bars : (fnScB ["switches", "told", "value", "over", "rows", "gone", "wrong", "at", "row", "many", "literal"] ["switches", "told", "value"] (defScope (top 65)) && okSs' ⟨["switches", "told", "value", "over", "rows", "gone", "wrong", "at", "row", "many", "literal"], defScope (top 65), fun _ => true, none⟩ ir__law_bars (defBody (top 65))) = true := by kernel_rfl
theorem nd__law_bars {p : Need → Prop} (h0 : p (.free "isinstance")) (h1 : p (.isi "tuple" [])) (h2 : p (.fn "_law_gone_through" (κR "" "_law_gone_through"))) (h3 : p (.free "enumerate")) (h4 : p (.free "sum")) (h5 : p (.free "any")) : ∀ m ∈ needSs ir__law_bars, p m := by
  unfold ir__law_bars b__law_bars
  simp only [needSs, needS, needE, needEs, needKs, needEo, needIt, List.mem_cons, List.mem_append, List.not_mem_nil, or_false, false_or, forall_eq_or_imp, or_imp, forall_and, forall_eq, List.append_nil, List.nil_append, BI.name, esLen, ksNames, List.map_cons, List.map_nil, List.map_append]
  simp only [h0, h1, h2, h3, h4, h5, and_self, implies_true, false_implies]
theorem fit_Checker_takes : (fnScB ["self", "step", "parts", "times", "at"] ["self", "step"] (defScope (inC 37 10)) && okSs' ⟨["self", "step", "parts", "times", "at"], defScope (inC 37 10), fun _ => true, none⟩ ir_Checker_takes (defBody (inC 37 10))) = true := by kernel_rfl
theorem nd_Checker_takes {p : Need → Prop} (h0 : p (.free "isinstance")) (h1 : p (.isi "tuple" [])) (h2 : p (.isi "str" [])) (h3 : p (.glob "CUT" (.str "cut"))) (h4 : p (.mth "Checker" "can_cut" (κR "Checker" "can_cut"))) (h5 : p (.fld "Checker" "own_rows")) (h6 : p (.fn "cut_row" (κR "" "cut_row"))) (h7 : p (.free "list")) (h8 : p (.glob "MEAN" (.str "mean"))) (h9 : p (.mth "Checker" "can_mean" (κR "Checker" "can_mean"))) (h10 : p (.fld "Checker" "own_switches")) (h11 : p (.fn "rows_of_meaning" (κR "" "rows_of_meaning"))) (h12 : p (.glob "SET" (.str "set"))) (h13 : p (.mth "Checker" "can_set" (κR "Checker" "can_set"))) (h14 : p (.glob "DROP" (.str "drop"))) (h15 : p (.mth "Checker" "can_drop" (κR "Checker" "can_drop"))) (h16 : p (.fld "Checker" "own_dropped")) : ∀ m ∈ needSs ir_Checker_takes, p m := by
  unfold ir_Checker_takes b_Checker_takes
  simp only [needSs, needS, needE, needEs, needKs, needEo, needIt, List.mem_cons, List.mem_append, List.not_mem_nil, or_false, false_or, forall_eq_or_imp, or_imp, forall_and, forall_eq, List.append_nil, List.nil_append, BI.name, esLen, ksNames, List.map_cons, List.map_nil, List.map_append]
  simp only [h0, h1, h2, h3, h4, h5, h6, h7, h8, h9, h10, h11, h12, h13, h14, h15, h16, and_self, implies_true, false_implies]
theorem fit_first_wrong : (fnScB ["checker", "paper", "number", "step"] ["checker", "paper"] (defScope (top 38)) && okSs' ⟨["checker", "paper", "number", "step"], defScope (top 38), fun _ => true, none⟩ ir_first_wrong (defBody (top 38))) = true := by kernel_rfl
theorem nd_first_wrong {p : Need → Prop} (h0 : p (.free "enumerate")) (h1 : p (.mth "Checker" "takes" (κR "Checker" "takes"))) : ∀ m ∈ needSs ir_first_wrong, p m := by
  unfold ir_first_wrong b_first_wrong
  simp only [needSs, needS, needE, needEs, needKs, needEo, needIt, List.mem_cons, List.mem_append, List.not_mem_nil, or_false, false_or, forall_eq_or_imp, or_imp, forall_and, forall_eq, List.append_nil, List.nil_append, BI.name, esLen, ksNames, List.map_cons, List.map_nil, List.map_append]
  simp only [h0, h1, and_self, implies_true, false_implies]
theorem fit_does_bar : (fnScB ["rows", "value", "checker"] ["rows", "value"] (defScope (top 39)) && okSs' ⟨["rows", "value", "checker"], defScope (top 39), fun _ => true, none⟩ ir_does_bar (defBody (top 39))) = true := by kernel_rfl
theorem nd_does_bar {p : Need → Prop} (h0 : p (.mk "Checker" (κR "Checker" "__init__"))) (h1 : p (.free "isinstance")) (h2 : p (.isi "tuple" [])) (h3 : p (.fn "first_wrong" (κR "" "first_wrong"))) (h4 : p (.mth "Checker" "over" (κR "Checker" "over"))) : ∀ m ∈ needSs ir_does_bar, p m := by
  unfold ir_does_bar b_does_bar
  simp only [needSs, needS, needE, needEs, needKs, needEo, needIt, List.mem_cons, List.mem_append, List.not_mem_nil, or_false, false_or, forall_eq_or_imp, or_imp, forall_and, forall_eq, List.append_nil, List.nil_append, BI.name, esLen, ksNames, List.map_cons, List.map_nil, List.map_append]
  simp only [h0, h1, h2, h3, h4, and_self, implies_true, false_implies]
theorem fit_check_steps : (fnScB ["rows", "paper", "checker", "wrong"] ["rows", "paper"] (defScope (top 41)) && okSs' ⟨["rows", "paper", "checker", "wrong"], defScope (top 41), fun _ => true, none⟩ ir_check_steps (defBody (top 41))) = true := by kernel_rfl
theorem nd_check_steps {p : Need → Prop} (h0 : p (.fn "check_rows" (κR "" "check_rows"))) (h1 : p (.mk "Checker" (κR "Checker" "__init__"))) (h2 : p (.free "isinstance")) (h3 : p (.isi "tuple" [])) (h4 : p (.fn "first_wrong" (κR "" "first_wrong"))) (h5 : p (.rse "BadPaper")) : ∀ m ∈ needSs ir_check_steps, p m := by
  unfold ir_check_steps b_check_steps
  simp only [needSs, needS, needE, needEs, needKs, needEo, needIt, List.mem_cons, List.mem_append, List.not_mem_nil, or_false, false_or, forall_eq_or_imp, or_imp, forall_and, forall_eq, List.append_nil, List.nil_append, BI.name, esLen, ksNames, List.map_cons, List.map_nil, List.map_append]
  simp only [h0, h1, h2, h3, h4, h5, and_self, implies_true, false_implies]
theorem fit_bars : (fnScB ["rows", "value"] ["rows", "value"] (defScope (top 40)) && okSs' ⟨["rows", "value"], defScope (top 40), fun _ => true, none⟩ ir_bars (defBody (top 40))) = true := by kernel_rfl
theorem nd_bars {p : Need → Prop} (h0 : p (.fn "check_rows" (κR "" "check_rows"))) (h1 : p (.fn "does_bar" (κR "" "does_bar"))) : ∀ m ∈ needSs ir_bars, p m := by
  unfold ir_bars b_bars
  simp only [needSs, needS, needE, needEs, needKs, needEo, needIt, List.mem_cons, List.mem_append, List.not_mem_nil, or_false, false_or, forall_eq_or_imp, or_imp, forall_and, forall_eq, List.append_nil, List.nil_append, BI.name, esLen, ksNames, List.map_cons, List.map_nil, List.map_append]
  simp only [h0, h1, and_self, implies_true, false_implies]
theorem fit_rows_by : (fnScB ["rows", "paper"] ["rows", "paper"] (defScope (top 42)) && okSs' ⟨["rows", "paper"], defScope (top 42), fun _ => true, none⟩ ir_rows_by (defBody (top 42))) = true := by kernel_rfl
theorem nd_rows_by {p : Need → Prop} (h0 : p (.free "tuple")) (h1 : p (.mth "Checker" "all_rows" (κR "Checker" "all_rows"))) (h2 : p (.fn "check_steps" (κR "" "check_steps"))) : ∀ m ∈ needSs ir_rows_by, p m := by
  unfold ir_rows_by b_rows_by
  simp only [needSs, needS, needE, needEs, needKs, needEo, needIt, List.mem_cons, List.mem_append, List.not_mem_nil, or_false, false_or, forall_eq_or_imp, or_imp, forall_and, forall_eq, List.append_nil, List.nil_append, BI.name, esLen, ksNames, List.map_cons, List.map_nil, List.map_append]
  simp only [h0, h1, h2, and_self, implies_true, false_implies]
theorem fit_live_by : (fnScB ["rows", "paper", "checker", "at"] ["rows", "paper"] (defScope (top 43)) && okSs' ⟨["rows", "paper", "checker", "at"], defScope (top 43), fun _ => true, none⟩ ir_live_by (defBody (top 43))) = true := by kernel_rfl
theorem nd_live_by {p : Need → Prop} (h0 : p (.fn "check_steps" (κR "" "check_steps"))) (h1 : p (.free "tuple")) (h2 : p (.free "range")) (h3 : p (.mth "Checker" "count" (κR "Checker" "count"))) (h4 : p (.mth "Checker" "is_live" (κR "Checker" "is_live"))) : ∀ m ∈ needSs ir_live_by, p m := by
  unfold ir_live_by b_live_by
  simp only [needSs, needS, needE, needEs, needKs, needEo, needIt, List.mem_cons, List.mem_append, List.not_mem_nil, or_false, false_or, forall_eq_or_imp, or_imp, forall_and, forall_eq, List.append_nil, List.nil_append, BI.name, esLen, ksNames, List.map_cons, List.map_nil, List.map_append]
  simp only [h0, h1, h2, h3, h4, and_self, implies_true, false_implies]
theorem fit_check_bar : (fnScB ["rows", "paper", "over"] ["rows", "paper"] (defScope (top 48)) && okSs' ⟨["rows", "paper", "over"], defScope (top 48), fun _ => true, none⟩ ir_check_bar (defBody (top 48))) = true := by kernel_rfl
theorem nd_check_bar {p : Need → Prop} (h0 : p (.mth "Checker" "over" (κR "Checker" "over"))) (h1 : p (.fn "check_steps" (κR "" "check_steps"))) : ∀ m ∈ needSs ir_check_bar, p m := by
  unfold ir_check_bar b_check_bar
  simp only [needSs, needS, needE, needEs, needKs, needEo, needIt, List.mem_cons, List.mem_append, List.not_mem_nil, or_false, false_or, forall_eq_or_imp, or_imp, forall_and, forall_eq, List.append_nil, List.nil_append, BI.name, esLen, ksNames, List.map_cons, List.map_nil, List.map_append]
  simp only [h0, h1, and_self, implies_true, false_implies]
theorem fit_trimmed : (fnScB ["rows", "paper"] ["rows", "paper"] (defScope (top 49)) && okSs' ⟨["rows", "paper"], defScope (top 49), fun _ => true, none⟩ ir_trimmed (defBody (top 49))) = true := by kernel_rfl
theorem nd_trimmed {p : Need → Prop} (h0 : p (.fn "trimmed_by" (κR "" "trimmed_by"))) (h1 : p (.fn "check_bar" (κR "" "check_bar"))) : ∀ m ∈ needSs ir_trimmed, p m := by
  unfold ir_trimmed b_trimmed
  simp only [needSs, needS, needE, needEs, needKs, needEo, needIt, List.mem_cons, List.mem_append, List.not_mem_nil, or_false, false_or, forall_eq_or_imp, or_imp, forall_and, forall_eq, List.append_nil, List.nil_append, BI.name, esLen, ksNames, List.map_cons, List.map_nil, List.map_append]
  simp only [h0, h1, and_self, implies_true, false_implies]
theorem fit_used_rows : (fnScB ["rows", "paper"] ["rows", "paper"] (defScope (top 50)) && okSs' ⟨["rows", "paper"], defScope (top 50), fun _ => true, none⟩ ir_used_rows (defBody (top 50))) = true := by kernel_rfl
theorem nd_used_rows {p : Need → Prop} (h0 : p (.free "tuple")) (h1 : p (.fn "needed_by" (κR "" "needed_by"))) (h2 : p (.fn "check_bar" (κR "" "check_bar"))) : ∀ m ∈ needSs ir_used_rows, p m := by
  unfold ir_used_rows b_used_rows
  simp only [needSs, needS, needE, needEs, needKs, needEo, needIt, List.mem_cons, List.mem_append, List.not_mem_nil, or_false, false_or, forall_eq_or_imp, or_imp, forall_and, forall_eq, List.append_nil, List.nil_append, BI.name, esLen, ksNames, List.map_cons, List.map_nil, List.map_append]
  simp only [h0, h1, h2, and_self, implies_true, false_implies]
theorem fit__law_wrong : (fnScB ["rows", "paper", "caught"] ["rows", "paper"] (defScope (top 66)) && okSs' ⟨["rows", "paper", "caught"], defScope (top 66), fun _ => true, some "_law_wrong"⟩ ir__law_wrong (defBody (top 66))) = true := by kernel_rfl
theorem nd__law_wrong {p : Need → Prop} (h0 : p (.hrd "_law_heard" ["BadPaper"])) (h1 : p (.low (.fn "rows_by" (κR "" "rows_by")))) (h2 : p (.free "isinstance")) (h3 : p (.ise "BadPaper" ["BadPaper"])) (h4 : p (.xv ["BadPaper"])) : ∀ m ∈ needSs ir__law_wrong, p m := by
  unfold ir__law_wrong b__law_wrong
  simp only [needSs, needS, needE, needEs, needKs, needEo, needIt, List.mem_cons, List.mem_append, List.not_mem_nil, or_false, false_or, forall_eq_or_imp, or_imp, forall_and, forall_eq, List.append_nil, List.nil_append, BI.name, esLen, ksNames, List.map_cons, List.map_nil, List.map_append]
  simp only [h0, h1, h2, h3, h4, and_self, implies_true, false_implies]
theorem fit__law_right : (fnScB ["pot", "rows", "terms", "told", "bad", "both", "paper", "short", "dropped", "one", "other", "last", "first", "second", "found", "gone", "wrong", "step"] ["pot"] (defScope (top 67)) && okSs' ⟨["pot", "rows", "terms", "told", "bad", "both", "paper", "short", "dropped", "one", "other", "last", "first", "second", "found", "gone", "wrong", "step"], defScope (top 67), fun _ => true, none⟩ ir__law_right (defBody (top 67))) = true := by kernel_rfl
theorem nd__law_right {p : Need → Prop} (h0 : p (.fn "_law_some" ct__law_some)) (h1 : p (.fn "_law_merged" (κR "" "_law_merged"))) (h2 : p (.mk "Rows" (κR "Rows" "__init__"))) (h3 : p (.fn "_law_wrong" (κR "" "_law_wrong"))) (h4 : p (.fn "live_by" (κR "" "live_by"))) (h5 : p (.fn "rows_by" (κR "" "rows_by"))) (h6 : p (.free "repr")) (h7 : p (.free "tuple")) (h8 : p (.fn "_law_meaning" (κR "" "_law_meaning"))) (h9 : p (.fn "bars" (κR "" "bars"))) (h10 : p (.fn "_law_gone_through" (κR "" "_law_gone_through"))) (h11 : p (.prp "Rows" "rows" (κR "Rows" "rows"))) (h12 : p (.fn "_law_bars" (κR "" "_law_bars"))) (h13 : p (.fn "trimmed" (κR "" "trimmed"))) (h14 : p (.fn "used_rows" (κR "" "used_rows"))) : ∀ m ∈ needSs ir__law_right, p m := by
  unfold ir__law_right b__law_right
  simp only [needSs, needS, needE, needEs, needKs, needEo, needIt, List.mem_cons, List.mem_append, List.not_mem_nil, or_false, false_or, forall_eq_or_imp, or_imp, forall_and, forall_eq, List.append_nil, List.nil_append, BI.name, esLen, ksNames, List.map_cons, List.map_nil, List.map_append]
  simp only [h0, h1, h2, h3, h4, h5, h6, h7, h8, h9, h10, h11, h12, h13, h14, and_self, implies_true, false_implies]
theorem fit_law : (fnScB ["script", "place", "pot", "lap"] ["script"] (defScope (top 68)) && okSs' ⟨["script", "place", "pot", "lap"], defScope (top 68), fun _ => true, none⟩ ir_law (defBody (top 68))) = true := by kernel_rfl
theorem nd_law {p : Need → Prop} (h0 : p (.fn "_law_cells" ct__law_cells)) (h1 : p (.fn "_law_pot" ct__law_pot)) (h2 : p (.free "all")) (h3 : p (.free "range")) (h4 : p (.fn "_law_right" ct__law_right)) : ∀ m ∈ needSs ir_law, p m := by
  unfold ir_law b_law
  simp only [needSs, needS, needE, needEs, needKs, needEo, needIt, List.mem_cons, List.mem_append, List.not_mem_nil, or_false, false_or, forall_eq_or_imp, or_imp, forall_and, forall_eq, List.append_nil, List.nil_append, BI.name, esLen, ksNames, List.map_cons, List.map_nil, List.map_append]
  simp only [h0, h1, h2, h3, h4, and_self, implies_true, false_implies]
theorem ini_b : isInit (defBody (inC 2 0)) = true := by kernel_rfl
theorem ini_s : scInit (defScope (inC 2 0)) = true := by kernel_rfl
theorem ini_a : arInit (defArgs (inC 2 0)) = true := by kernel_rfl
theorem ini_t : (pwP.main.scope.names.lookup ("super" : Str)).isSome = false := by kernel_rfl
theorem ini_p (kV doc pm : Value) (an : Option Addr) (cda : Value) (ct : Value) (cc : Addr) (x y : Value) : bindArgs (PySem.W.ksFn "__init__" "RefutedError.__init__" (defArgs (inC 2 0)) (defBody (inC 2 0)) (defScope (inC 2 0)) .none kV doc pm an cda ct cc) ⟨[x, y], []⟩ = pure [(("self" : Str), x), (("value" : Str), y)] := rfl
section
variable {w : World} {K : PySem.W.Frag} {mg : Str → Option Value} {base : Heap}
theorem hrd__law_heard {k : Nat} {cs : List Str} (X : K.In base) (G : base.Ns mainGlobals mg) (c : SaysX chk dfs ini "_law_wrong" K) (h : hrdB K "_law_heard" "RefutedError" cs = true) (hk : 2 ≤ k) : NeedOk ⟨pwP, w, K, mg, base⟩ k (.hrd "_law_heard" cs) := by
  obtain ⟨fd, F⟩ := says_def c.1 66
  have F : FunD K "_law_heard" "_law_heard" (defArgs (top 56)) (defBody (top 56)) (defScope (top 56)) [] [] ((atG "_law_heard") K) fd := F
  exact need_hrd (st := (top 56)) X G h F (by kernel_rfl) (by kernel_rfl) (by kernel_rfl) (by kernel_rfl) (F.bindsN fun _ _ _ _ _ _ us hl => match us, hl with | [_], _ => rfl) hk
theorem fn_is_integer (X : K.In base) (G : base.Ns mainGlobals mg) (c : SaysX chk dfs ini "_law_wrong" K) : ∃ fd, FnG ⟨pwP, w, K, mg, base⟩ 1 ((atG "is_integer") K) fd ["value"] (κR "" "is_integer") ∧ Binds K fd ["value"] [] := by
  obtain ⟨fd, F⟩ := says_def c.1 0
  have F : FunD K "is_integer" "is_integer" (defArgs (top 8)) (defBody (top 8)) (defScope (top 8)) [] [] ((atG "is_integer") K) fd := F
  have ck : ∀ i b, (chkl K)[i]? = some b → b = true := fun i b e => chk_at (says_chk c.1) i e
  refine ⟨fd, fn_rule F fit_is_integer (run_len tb_is_integer) (nd_is_integer (need_free X G (ck 0 _ rfl)) (need_isi X G (ck 1 _ rfl)) (need_isi X G (ck 2 _ rfl))) (run_pure tb_is_integer st_is_integer), F.bindsN fun _ _ _ _ _ _ us hl => match us, hl with | [_], _ => rfl⟩
theorem fn_merged (X : K.In base) (G : base.Ns mainGlobals mg) (c : SaysX chk dfs ini "_law_wrong" K) : ∃ fd, FnG ⟨pwP, w, K, mg, base⟩ 1 ((atG "merged") K) fd ["pairs", "least"] (κR "" "merged") ∧ Binds K fd ["pairs", "least"] [] := by
  obtain ⟨fd, F⟩ := says_def c.1 1
  have F : FunD K "merged" "merged" (defArgs (top 17)) (defBody (top 17)) (defScope (top 17)) [] [] ((atG "merged") K) fd := F
  have ck : ∀ i b, (chkl K)[i]? = some b → b = true := fun i b e => chk_at (says_chk c.1) i e
  refine ⟨fd, fn_rule F fit_merged (run_len tb_merged) (nd_merged (need_free X G (ck 3 _ rfl)) (need_free X G (ck 4 _ rfl)) (need_free X G (ck 5 _ rfl))) (run_pure tb_merged st_merged), F.bindsN fun _ _ _ _ _ _ us hl => match us, hl with | [_, _], _ => rfl⟩
theorem fn_saturated_row (X : K.In base) (G : base.Ns mainGlobals mg) (c : SaysX chk dfs ini "_law_wrong" K) : ∃ fd, FnG ⟨pwP, w, K, mg, base⟩ 1 ((atG "saturated_row") K) fd ["row"] (κR "" "saturated_row") ∧ Binds K fd ["row"] [] := by
  obtain ⟨fd, F⟩ := says_def c.1 2
  have F : FunD K "saturated_row" "saturated_row" (defArgs (top 18)) (defBody (top 18)) (defScope (top 18)) [] [] ((atG "saturated_row") K) fd := F
  have ck : ∀ i b, (chkl K)[i]? = some b → b = true := fun i b e => chk_at (says_chk c.1) i e
  refine ⟨fd, fn_rule F fit_saturated_row (run_len tb_saturated_row) (nd_saturated_row (need_glob X G (ck 6 _ rfl)) (need_free X G (ck 5 _ rfl)) (need_free X G (ck 7 _ rfl))) (run_pure tb_saturated_row st_saturated_row), F.bindsN fun _ _ _ _ _ _ us hl => match us, hl with | [_], _ => rfl⟩
theorem fn_up_by (X : K.In base) (G : base.Ns mainGlobals mg) (c : SaysX chk dfs ini "_law_wrong" K) : ∃ fd, FnG ⟨pwP, w, K, mg, base⟩ 1 ((atG "up_by") K) fd ["many", "number"] (κR "" "up_by") ∧ Binds K fd ["many", "number"] [] := by
  obtain ⟨fd, F⟩ := says_def c.1 3
  have F : FunD K "up_by" "up_by" (defArgs (top 19)) (defBody (top 19)) (defScope (top 19)) [] [] ((atG "up_by") K) fd := F
  have ck : ∀ i b, (chkl K)[i]? = some b → b = true := fun i b e => chk_at (says_chk c.1) i e
  refine ⟨fd, fn_rule F fit_up_by (run_len tb_up_by) (nd_up_by ) (run_pure tb_up_by st_up_by), F.bindsN fun _ _ _ _ _ _ us hl => match us, hl with | [_, _], _ => rfl⟩
theorem fn_total_of (X : K.In base) (G : base.Ns mainGlobals mg) (c : SaysX chk dfs ini "_law_wrong" K) : ∃ fd, FnG ⟨pwP, w, K, mg, base⟩ 1 ((atG "total_of") K) fd ["row"] (κR "" "total_of") ∧ Binds K fd ["row"] [] := by
  obtain ⟨fd, F⟩ := says_def c.1 4
  have F : FunD K "total_of" "total_of" (defArgs (top 23)) (defBody (top 23)) (defScope (top 23)) [] [] ((atG "total_of") K) fd := F
  have ck : ∀ i b, (chkl K)[i]? = some b → b = true := fun i b e => chk_at (says_chk c.1) i e
  refine ⟨fd, fn_rule F fit_total_of (run_len tb_total_of) (nd_total_of (need_free X G (ck 8 _ rfl))) (run_pure tb_total_of st_total_of), F.bindsN fun _ _ _ _ _ _ us hl => match us, hl with | [_], _ => rfl⟩
theorem fn_Rows_switches (X : K.In base) (G : base.Ns mainGlobals mg) (c : SaysX chk dfs ini "_law_wrong" K) : ∃ fd, FnG ⟨pwP, w, K, mg, base⟩ 1 ((atP "Rows" "switches") K) fd ["self"] (κR "Rows" "switches") ∧ Binds K fd ["self"] [] := by
  obtain ⟨fd, F⟩ := says_def c.1 5
  have F : FunD K "switches" "Rows.switches" (defArgs (inC 28 2)) (defBody (inC 28 2)) (defScope (inC 28 2)) [] [] ((atP "Rows" "switches") K) fd := F
  have ck : ∀ i b, (chkl K)[i]? = some b → b = true := fun i b e => chk_at (says_chk c.1) i e
  refine ⟨fd, fn_rule F fit_Rows_switches (run_len tb_Rows_switches) (nd_Rows_switches (need_fld X G (ck 9 _ rfl))) (run_pure tb_Rows_switches st_Rows_switches), F.bindsN fun _ _ _ _ _ _ us hl => match us, hl with | [_], _ => rfl⟩
theorem fn_Rows_rows (X : K.In base) (G : base.Ns mainGlobals mg) (c : SaysX chk dfs ini "_law_wrong" K) : ∃ fd, FnG ⟨pwP, w, K, mg, base⟩ 1 ((atP "Rows" "rows") K) fd ["self"] (κR "Rows" "rows") ∧ Binds K fd ["self"] [] := by
  obtain ⟨fd, F⟩ := says_def c.1 6
  have F : FunD K "rows" "Rows.rows" (defArgs (inC 28 3)) (defBody (inC 28 3)) (defScope (inC 28 3)) [] [] ((atP "Rows" "rows") K) fd := F
  have ck : ∀ i b, (chkl K)[i]? = some b → b = true := fun i b e => chk_at (says_chk c.1) i e
  refine ⟨fd, fn_rule F fit_Rows_rows (run_len tb_Rows_rows) (nd_Rows_rows (need_fld X G (ck 10 _ rfl))) (run_pure tb_Rows_rows st_Rows_rows), F.bindsN fun _ _ _ _ _ _ us hl => match us, hl with | [_], _ => rfl⟩
theorem fn_check_rows (X : K.In base) (G : base.Ns mainGlobals mg) (c : SaysX chk dfs ini "_law_wrong" K) : ∃ fd, FnG ⟨pwP, w, K, mg, base⟩ 1 ((atG "check_rows") K) fd ["rows"] (κR "" "check_rows") ∧ Binds K fd ["rows"] [] := by
  obtain ⟨fd, F⟩ := says_def c.1 7
  have F : FunD K "check_rows" "check_rows" (defArgs (top 29)) (defBody (top 29)) (defScope (top 29)) [] [] ((atG "check_rows") K) fd := F
  have ck : ∀ i b, (chkl K)[i]? = some b → b = true := fun i b e => chk_at (says_chk c.1) i e
  refine ⟨fd, fn_rule F fit_check_rows (run_len tb_check_rows) (nd_check_rows (need_free X G (ck 0 _ rfl)) (need_isi X G (ck 11 _ rfl))) (run_pure tb_check_rows st_check_rows), F.bindsN fun _ _ _ _ _ _ us hl => match us, hl with | [_], _ => rfl⟩
theorem fn_Checker_all_rows (X : K.In base) (G : base.Ns mainGlobals mg) (c : SaysX chk dfs ini "_law_wrong" K) : ∃ fd, FnG ⟨pwP, w, K, mg, base⟩ 1 ((atM "Checker" "all_rows") K) fd ["self"] (κR "Checker" "all_rows") ∧ Binds K fd ["self"] [] := by
  obtain ⟨fd, F⟩ := says_def c.1 8
  have F : FunD K "all_rows" "Checker.all_rows" (defArgs (inC 37 1)) (defBody (inC 37 1)) (defScope (inC 37 1)) [] [] ((atM "Checker" "all_rows") K) fd := F
  have ck : ∀ i b, (chkl K)[i]? = some b → b = true := fun i b e => chk_at (says_chk c.1) i e
  refine ⟨fd, fn_rule F fit_Checker_all_rows (run_len tb_Checker_all_rows) (nd_Checker_all_rows (need_free X G (ck 12 _ rfl)) (need_fld X G (ck 13 _ rfl))) (run_pure tb_Checker_all_rows st_Checker_all_rows), F.bindsN fun _ _ _ _ _ _ us hl => match us, hl with | [_], _ => rfl⟩
theorem fn_Checker_count (X : K.In base) (G : base.Ns mainGlobals mg) (c : SaysX chk dfs ini "_law_wrong" K) : ∃ fd, FnG ⟨pwP, w, K, mg, base⟩ 1 ((atM "Checker" "count") K) fd ["self"] (κR "Checker" "count") ∧ Binds K fd ["self"] [] := by
  obtain ⟨fd, F⟩ := says_def c.1 9
  have F : FunD K "count" "Checker.count" (defArgs (inC 37 2)) (defBody (inC 37 2)) (defScope (inC 37 2)) [] [] ((atM "Checker" "count") K) fd := F
  have ck : ∀ i b, (chkl K)[i]? = some b → b = true := fun i b e => chk_at (says_chk c.1) i e
  refine ⟨fd, fn_rule F fit_Checker_count (run_len tb_Checker_count) (nd_Checker_count (need_free X G (ck 14 _ rfl)) (need_fld X G (ck 13 _ rfl))) (run_pure tb_Checker_count st_Checker_count), F.bindsN fun _ _ _ _ _ _ us hl => match us, hl with | [_], _ => rfl⟩
theorem fn_Checker_is_live (X : K.In base) (G : base.Ns mainGlobals mg) (c : SaysX chk dfs ini "_law_wrong" K) : ∃ fd, FnG ⟨pwP, w, K, mg, base⟩ 1 ((atM "Checker" "is_live") K) fd ["self", "at"] (κR "Checker" "is_live") ∧ Binds K fd ["self", "at"] [] := by
  obtain ⟨fd, F⟩ := says_def c.1 10
  have F : FunD K "is_live" "Checker.is_live" (defArgs (inC 37 4)) (defBody (inC 37 4)) (defScope (inC 37 4)) [] [] ((atM "Checker" "is_live") K) fd := F
  have ck : ∀ i b, (chkl K)[i]? = some b → b = true := fun i b e => chk_at (says_chk c.1) i e
  refine ⟨fd, fn_rule F fit_Checker_is_live (run_len tb_Checker_is_live) (nd_Checker_is_live (need_fld X G (ck 15 _ rfl))) (run_pure tb_Checker_is_live st_Checker_is_live), F.bindsN fun _ _ _ _ _ _ us hl => match us, hl with | [_, _], _ => rfl⟩
theorem fn_Renumbering_keep (X : K.In base) (G : base.Ns mainGlobals mg) (c : SaysX chk dfs ini "_law_wrong" K) : ∃ fd, FnG ⟨pwP, w, K, mg, base⟩ 1 ((atM "Renumbering" "keep") K) fd ["self", "first", "many"] (κR "Renumbering" "keep") ∧ Binds K fd ["self", "first", "many"] [] := by
  obtain ⟨fd, F⟩ := says_def c.1 11
  have F : FunD K "keep" "Renumbering.keep" (defArgs (inC 46 1)) (defBody (inC 46 1)) (defScope (inC 46 1)) [] [] ((atM "Renumbering" "keep") K) fd := F
  have ck : ∀ i b, (chkl K)[i]? = some b → b = true := fun i b e => chk_at (says_chk c.1) i e
  refine ⟨fd, fn_rule F fit_Renumbering_keep (run_len tb_Renumbering_keep) (nd_Renumbering_keep (need_free X G (ck 16 _ rfl)) (need_fld X G (ck 17 _ rfl)) (need_fld X G (ck 18 _ rfl))) (run_pure tb_Renumbering_keep st_Renumbering_keep), F.bindsN fun _ _ _ _ _ _ us hl => match us, hl with | [_, _, _], _ => rfl⟩
theorem fn_Renumbering_keep_switch (X : K.In base) (G : base.Ns mainGlobals mg) (c : SaysX chk dfs ini "_law_wrong" K) : ∃ fd, FnG ⟨pwP, w, K, mg, base⟩ 1 ((atM "Renumbering" "keep_switch") K) fd ["self", "switch"] (κR "Renumbering" "keep_switch") ∧ Binds K fd ["self", "switch"] [] := by
  obtain ⟨fd, F⟩ := says_def c.1 12
  have F : FunD K "keep_switch" "Renumbering.keep_switch" (defArgs (inC 46 2)) (defBody (inC 46 2)) (defScope (inC 46 2)) [] [] ((atM "Renumbering" "keep_switch") K) fd := F
  have ck : ∀ i b, (chkl K)[i]? = some b → b = true := fun i b e => chk_at (says_chk c.1) i e
  refine ⟨fd, fn_rule F fit_Renumbering_keep_switch (run_len tb_Renumbering_keep_switch) (nd_Renumbering_keep_switch (need_fld X G (ck 19 _ rfl)) (need_fld X G (ck 20 _ rfl))) (run_pure tb_Renumbering_keep_switch st_Renumbering_keep_switch), F.bindsN fun _ _ _ _ _ _ us hl => match us, hl with | [_, _], _ => rfl⟩
theorem fn_Renumbering_literal (X : K.In base) (G : base.Ns mainGlobals mg) (c : SaysX chk dfs ini "_law_wrong" K) : ∃ fd, FnG ⟨pwP, w, K, mg, base⟩ 1 ((atM "Renumbering" "literal") K) fd ["self", "literal"] (κR "Renumbering" "literal") ∧ Binds K fd ["self", "literal"] [] := by
  obtain ⟨fd, F⟩ := says_def c.1 13
  have F : FunD K "literal" "Renumbering.literal" (defArgs (inC 46 3)) (defBody (inC 46 3)) (defScope (inC 46 3)) [] [] ((atM "Renumbering" "literal") K) fd := F
  have ck : ∀ i b, (chkl K)[i]? = some b → b = true := fun i b e => chk_at (says_chk c.1) i e
  refine ⟨fd, fn_rule F fit_Renumbering_literal (run_len tb_Renumbering_literal) (nd_Renumbering_literal (need_fld X G (ck 20 _ rfl)) (need_free X G (ck 3 _ rfl))) (run_pure tb_Renumbering_literal st_Renumbering_literal), F.bindsN fun _ _ _ _ _ _ us hl => match us, hl with | [_, _], _ => rfl⟩
theorem fn_Renumbering_has_row (X : K.In base) (G : base.Ns mainGlobals mg) (c : SaysX chk dfs ini "_law_wrong" K) : ∃ fd, FnG ⟨pwP, w, K, mg, base⟩ 1 ((atM "Renumbering" "has_row") K) fd ["self", "at"] (κR "Renumbering" "has_row") ∧ Binds K fd ["self", "at"] [] := by
  obtain ⟨fd, F⟩ := says_def c.1 14
  have F : FunD K "has_row" "Renumbering.has_row" (defArgs (inC 46 6)) (defBody (inC 46 6)) (defScope (inC 46 6)) [] [] ((atM "Renumbering" "has_row") K) fd := F
  have ck : ∀ i b, (chkl K)[i]? = some b → b = true := fun i b e => chk_at (says_chk c.1) i e
  refine ⟨fd, fn_rule F fit_Renumbering_has_row (run_len tb_Renumbering_has_row) (nd_Renumbering_has_row (need_fld X G (ck 17 _ rfl))) (run_pure tb_Renumbering_has_row st_Renumbering_has_row), F.bindsN fun _ _ _ _ _ _ us hl => match us, hl with | [_, _], _ => rfl⟩
theorem fn__law_pot (X : K.In base) (G : base.Ns mainGlobals mg) (c : SaysX chk dfs ini "_law_wrong" K) : ∃ fd, FnG ⟨pwP, w, K, mg, base⟩ 1 ((atG "_law_pot") K) fd ["script", "place"] ct__law_pot ∧ Binds K fd ["script", "place"] [] := by
  obtain ⟨fd, F⟩ := says_def c.1 15
  have F : FunD K "_law_pot" "_law_pot" (defArgs (top 52)) (defBody (top 52)) (defScope (top 52)) [] [] ((atG "_law_pot") K) fd := F
  have ck : ∀ i b, (chkl K)[i]? = some b → b = true := fun i b e => chk_at (says_chk c.1) i e
  refine ⟨fd, fn_rule F fit__law_pot len__law_pot (nd__law_pot (need_free X G (ck 14 _ rfl)) (need_free X G (ck 21 _ rfl)) (need_free X G (ck 3 _ rfl))) pure__law_pot, F.bindsN fun _ _ _ _ _ _ us hl => match us, hl with | [_, _], _ => rfl⟩
theorem fn__law_take (X : K.In base) (G : base.Ns mainGlobals mg) (c : SaysX chk dfs ini "_law_wrong" K) : ∃ fd, FnG ⟨pwP, w, K, mg, base⟩ 1 ((atG "_law_take") K) fd ["pot", "upto"] ct__law_take ∧ Binds K fd ["pot", "upto"] [] := by
  obtain ⟨fd, F⟩ := says_def c.1 16
  have F : FunD K "_law_take" "_law_take" (defArgs (top 53)) (defBody (top 53)) (defScope (top 53)) [] [] ((atG "_law_take") K) fd := F
  have ck : ∀ i b, (chkl K)[i]? = some b → b = true := fun i b e => chk_at (says_chk c.1) i e
  refine ⟨fd, fn_rule F fit__law_take len__law_take (nd__law_take (need_free X G (ck 21 _ rfl))) pure__law_take, F.bindsN fun _ _ _ _ _ _ us hl => match us, hl with | [_, _], _ => rfl⟩
theorem fn__law_cells (X : K.In base) (G : base.Ns mainGlobals mg) (c : SaysX chk dfs ini "_law_wrong" K) : ∃ fd, FnG ⟨pwP, w, K, mg, base⟩ 1 ((atG "_law_cells") K) fd ["script", "limit"] ct__law_cells ∧ Binds K fd ["script", "limit"] [] := by
  obtain ⟨fd, F⟩ := says_def c.1 17
  have F : FunD K "_law_cells" "_law_cells" (defArgs (top 54)) (defBody (top 54)) (defScope (top 54)) [] [] ((atG "_law_cells") K) fd := F
  have ck : ∀ i b, (chkl K)[i]? = some b → b = true := fun i b e => chk_at (says_chk c.1) i e
  refine ⟨fd, fn_rule F fit__law_cells len__law_cells (nd__law_cells (need_free X G (ck 12 _ rfl)) (need_free X G (ck 16 _ rfl)) (need_free X G (ck 22 _ rfl)) (need_free X G (ck 7 _ rfl)) (need_free X G (ck 14 _ rfl))) pure__law_cells, F.bindsN fun _ _ _ _ _ _ us hl => match us, hl with | [_, _], _ => rfl⟩
theorem fn__law_is_int (X : K.In base) (G : base.Ns mainGlobals mg) (c : SaysX chk dfs ini "_law_wrong" K) : ∃ fd, FnG ⟨pwP, w, K, mg, base⟩ 1 ((atG "_law_is_int") K) fd ["value"] (κR "" "_law_is_int") ∧ Binds K fd ["value"] [] := by
  obtain ⟨fd, F⟩ := says_def c.1 18
  have F : FunD K "_law_is_int" "_law_is_int" (defArgs (top 57)) (defBody (top 57)) (defScope (top 57)) [] [] ((atG "_law_is_int") K) fd := F
  have ck : ∀ i b, (chkl K)[i]? = some b → b = true := fun i b e => chk_at (says_chk c.1) i e
  refine ⟨fd, fn_rule F fit__law_is_int (run_len tb__law_is_int) (nd__law_is_int (need_free X G (ck 0 _ rfl)) (need_isi X G (ck 1 _ rfl)) (need_isi X G (ck 2 _ rfl))) (run_pure tb__law_is_int st__law_is_int), F.bindsN fun _ _ _ _ _ _ us hl => match us, hl with | [_], _ => rfl⟩
theorem fn__law_merged (X : K.In base) (G : base.Ns mainGlobals mg) (c : SaysX chk dfs ini "_law_wrong" K) : ∃ fd, FnG ⟨pwP, w, K, mg, base⟩ 1 ((atG "_law_merged") K) fd ["pairs", "least"] (κR "" "_law_merged") ∧ Binds K fd ["pairs", "least"] [] := by
  obtain ⟨fd, F⟩ := says_def c.1 19
  have F : FunD K "_law_merged" "_law_merged" (defArgs (top 58)) (defBody (top 58)) (defScope (top 58)) [] [] ((atG "_law_merged") K) fd := F
  have ck : ∀ i b, (chkl K)[i]? = some b → b = true := fun i b e => chk_at (says_chk c.1) i e
  refine ⟨fd, fn_rule F fit__law_merged (run_len tb__law_merged) (nd__law_merged (need_free X G (ck 3 _ rfl)) (need_free X G (ck 4 _ rfl)) (need_free X G (ck 21 _ rfl)) (need_free X G (ck 5 _ rfl))) (run_pure tb__law_merged st__law_merged), F.bindsN fun _ _ _ _ _ _ us hl => match us, hl with | [_, _], _ => rfl⟩
theorem fn__law_up (X : K.In base) (G : base.Ns mainGlobals mg) (c : SaysX chk dfs ini "_law_wrong" K) : ∃ fd, FnG ⟨pwP, w, K, mg, base⟩ 1 ((atG "_law_up") K) fd ["many", "number"] (κR "" "_law_up") ∧ Binds K fd ["many", "number"] [] := by
  obtain ⟨fd, F⟩ := says_def c.1 20
  have F : FunD K "_law_up" "_law_up" (defArgs (top 59)) (defBody (top 59)) (defScope (top 59)) [] [] ((atG "_law_up") K) fd := F
  have ck : ∀ i b, (chkl K)[i]? = some b → b = true := fun i b e => chk_at (says_chk c.1) i e
  refine ⟨fd, fn_rule F fit__law_up (run_len tb__law_up) (nd__law_up (need_free X G (ck 21 _ rfl))) (run_pure tb__law_up st__law_up), F.bindsN fun _ _ _ _ _ _ us hl => match us, hl with | [_, _], _ => rfl⟩
theorem fn_is_between (X : K.In base) (G : base.Ns mainGlobals mg) (c : SaysX chk dfs ini "_law_wrong" K) : ∃ fd, FnG ⟨pwP, w, K, mg, base⟩ 2 ((atG "is_between") K) fd ["value", "least", "most"] (κR "" "is_between") ∧ Binds K fd ["value", "least", "most"] [] := by
  obtain ⟨fd, F⟩ := says_def c.1 21
  have F : FunD K "is_between" "is_between" (defArgs (top 9)) (defBody (top 9)) (defScope (top 9)) [] [] ((atG "is_between") K) fd := F
  have ck : ∀ i b, (chkl K)[i]? = some b → b = true := fun i b e => chk_at (says_chk c.1) i e
  obtain ⟨fd_is_integer, f_is_integer, b_is_integer⟩ := fn_is_integer (w := w) X G c
  refine ⟨fd, fn_rule F fit_is_between (run_len tb_is_between) (nd_is_between (need_fn X G (ck 23 _ rfl) f_is_integer (by decide) b_is_integer)) (run_pure tb_is_between st_is_between), F.bindsN fun _ _ _ _ _ _ us hl => match us, hl with | [_, _, _], _ => rfl⟩
theorem fn_is_literal (X : K.In base) (G : base.Ns mainGlobals mg) (c : SaysX chk dfs ini "_law_wrong" K) : ∃ fd, FnG ⟨pwP, w, K, mg, base⟩ 2 ((atG "is_literal") K) fd ["value"] (κR "" "is_literal") ∧ Binds K fd ["value"] [] := by
  obtain ⟨fd, F⟩ := says_def c.1 22
  have F : FunD K "is_literal" "is_literal" (defArgs (top 14)) (defBody (top 14)) (defScope (top 14)) [] [] ((atG "is_literal") K) fd := F
  have ck : ∀ i b, (chkl K)[i]? = some b → b = true := fun i b e => chk_at (says_chk c.1) i e
  obtain ⟨fd_is_integer, f_is_integer, b_is_integer⟩ := fn_is_integer (w := w) X G c
  refine ⟨fd, fn_rule F fit_is_literal (run_len tb_is_literal) (nd_is_literal (need_fn X G (ck 23 _ rfl) f_is_integer (by decide) b_is_integer) (need_free X G (ck 3 _ rfl)) (need_glob X G (ck 24 _ rfl))) (run_pure tb_is_literal st_is_literal), F.bindsN fun _ _ _ _ _ _ us hl => match us, hl with | [_], _ => rfl⟩
theorem fn_divided_row (X : K.In base) (G : base.Ns mainGlobals mg) (c : SaysX chk dfs ini "_law_wrong" K) : ∃ fd, FnG ⟨pwP, w, K, mg, base⟩ 2 ((atG "divided_row") K) fd ["row", "number"] (κR "" "divided_row") ∧ Binds K fd ["row", "number"] [] := by
  obtain ⟨fd, F⟩ := says_def c.1 23
  have F : FunD K "divided_row" "divided_row" (defArgs (top 20)) (defBody (top 20)) (defScope (top 20)) [] [] ((atG "divided_row") K) fd := F
  have ck : ∀ i b, (chkl K)[i]? = some b → b = true := fun i b e => chk_at (says_chk c.1) i e
  obtain ⟨fd_up_by, f_up_by, b_up_by⟩ := fn_up_by (w := w) X G c
  refine ⟨fd, fn_rule F fit_divided_row (run_len tb_divided_row) (nd_divided_row (need_free X G (ck 5 _ rfl)) (need_fn X G (ck 25 _ rfl) f_up_by (by decide) b_up_by)) (run_pure tb_divided_row st_divided_row), F.bindsN fun _ _ _ _ _ _ us hl => match us, hl with | [_, _], _ => rfl⟩
theorem fn_added_rows (X : K.In base) (G : base.Ns mainGlobals mg) (c : SaysX chk dfs ini "_law_wrong" K) : ∃ fd, FnG ⟨pwP, w, K, mg, base⟩ 2 ((atG "added_rows") K) fd ["parts", "axioms"] (κR "" "added_rows") ∧ Binds K fd ["parts", "axioms"] [] := by
  obtain ⟨fd, F⟩ := says_def c.1 24
  have F : FunD K "added_rows" "added_rows" (defArgs (top 21)) (defBody (top 21)) (defScope (top 21)) [] [] ((atG "added_rows") K) fd := F
  have ck : ∀ i b, (chkl K)[i]? = some b → b = true := fun i b e => chk_at (says_chk c.1) i e
  obtain ⟨fd_merged, f_merged, b_merged⟩ := fn_merged (w := w) X G c
  refine ⟨fd, fn_rule F fit_added_rows (run_len tb_added_rows) (nd_added_rows (need_fn X G (ck 26 _ rfl) f_merged (by decide) b_merged)) (run_pure tb_added_rows st_added_rows), F.bindsN fun _ _ _ _ _ _ us hl => match us, hl with | [_, _], _ => rfl⟩
theorem fn_is_false_row (X : K.In base) (G : base.Ns mainGlobals mg) (c : SaysX chk dfs ini "_law_wrong" K) : ∃ fd, FnG ⟨pwP, w, K, mg, base⟩ 2 ((atG "is_false_row") K) fd ["row"] (κR "" "is_false_row") ∧ Binds K fd ["row"] [] := by
  obtain ⟨fd, F⟩ := says_def c.1 25
  have F : FunD K "is_false_row" "is_false_row" (defArgs (top 24)) (defBody (top 24)) (defScope (top 24)) [] [] ((atG "is_false_row") K) fd := F
  have ck : ∀ i b, (chkl K)[i]? = some b → b = true := fun i b e => chk_at (says_chk c.1) i e
  obtain ⟨fd_total_of, f_total_of, b_total_of⟩ := fn_total_of (w := w) X G c
  refine ⟨fd, fn_rule F fit_is_false_row (run_len tb_is_false_row) (nd_is_false_row (need_fn X G (ck 27 _ rfl) f_total_of (by decide) b_total_of)) (run_pure tb_is_false_row st_is_false_row), F.bindsN fun _ _ _ _ _ _ us hl => match us, hl with | [_], _ => rfl⟩
theorem fn_rows_of_meaning (X : K.In base) (G : base.Ns mainGlobals mg) (c : SaysX chk dfs ini "_law_wrong" K) : ∃ fd, FnG ⟨pwP, w, K, mg, base⟩ 2 ((atG "rows_of_meaning") K) fd ["switch", "meaning"] (κR "" "rows_of_meaning") ∧ Binds K fd ["switch", "meaning"] [] := by
  obtain ⟨fd, F⟩ := says_def c.1 26
  have F : FunD K "rows_of_meaning" "rows_of_meaning" (defArgs (top 35)) (defBody (top 35)) (defScope (top 35)) [] [] ((atG "rows_of_meaning") K) fd := F
  have ck : ∀ i b, (chkl K)[i]? = some b → b = true := fun i b e => chk_at (says_chk c.1) i e
  obtain ⟨fd_total_of, f_total_of, b_total_of⟩ := fn_total_of (w := w) X G c
  obtain ⟨fd_merged, f_merged, b_merged⟩ := fn_merged (w := w) X G c
  refine ⟨fd, fn_rule F fit_rows_of_meaning (run_len tb_rows_of_meaning) (nd_rows_of_meaning (need_fn X G (ck 27 _ rfl) f_total_of (by decide) b_total_of) (need_fn X G (ck 26 _ rfl) f_merged (by decide) b_merged)) (run_pure tb_rows_of_meaning st_rows_of_meaning), F.bindsN fun _ _ _ _ _ _ us hl => match us, hl with | [_, _], _ => rfl⟩
theorem fn_Renumbering_terms (X : K.In base) (G : base.Ns mainGlobals mg) (c : SaysX chk dfs ini "_law_wrong" K) : ∃ fd, FnG ⟨pwP, w, K, mg, base⟩ 2 ((atM "Renumbering" "terms") K) fd ["self", "terms"] (κR "Renumbering" "terms") ∧ Binds K fd ["self", "terms"] [] := by
  obtain ⟨fd, F⟩ := says_def c.1 27
  have F : FunD K "terms" "Renumbering.terms" (defArgs (inC 46 4)) (defBody (inC 46 4)) (defScope (inC 46 4)) [] [] ((atM "Renumbering" "terms") K) fd := F
  have ck : ∀ i b, (chkl K)[i]? = some b → b = true := fun i b e => chk_at (says_chk c.1) i e
  obtain ⟨fd_Renumbering_literal, f_Renumbering_literal, b_Renumbering_literal⟩ := fn_Renumbering_literal (w := w) X G c
  refine ⟨fd, fn_rule F fit_Renumbering_terms (run_len tb_Renumbering_terms) (nd_Renumbering_terms (need_free X G (ck 5 _ rfl)) (need_mth X G (ck 28 _ rfl) f_Renumbering_literal (by decide) b_Renumbering_literal)) (run_pure tb_Renumbering_terms st_Renumbering_terms), F.bindsN fun _ _ _ _ _ _ us hl => match us, hl with | [_, _], _ => rfl⟩
theorem fn__law_some (X : K.In base) (G : base.Ns mainGlobals mg) (c : SaysX chk dfs ini "_law_wrong" K) : ∃ fd, FnG ⟨pwP, w, K, mg, base⟩ 2 ((atG "_law_some") K) fd ["pot", "pool", "amount"] ct__law_some ∧ Binds K fd ["pot", "pool", "amount"] [] := by
  obtain ⟨fd, F⟩ := says_def c.1 28
  have F : FunD K "_law_some" "_law_some" (defArgs (top 55)) (defBody (top 55)) (defScope (top 55)) [] [] ((atG "_law_some") K) fd := F
  have ck : ∀ i b, (chkl K)[i]? = some b → b = true := fun i b e => chk_at (says_chk c.1) i e
  obtain ⟨fd__law_take, f__law_take, b__law_take⟩ := fn__law_take (w := w) X G c
  refine ⟨fd, fn_rule F fit__law_some len__law_some (nd__law_some (need_free X G (ck 12 _ rfl)) (need_free X G (ck 16 _ rfl)) (need_fn X G (ck 29 _ rfl) f__law_take (by decide) b__law_take) (need_free X G (ck 14 _ rfl))) pure__law_some, F.bindsN fun _ _ _ _ _ _ us hl => match us, hl with | [_, _, _], _ => rfl⟩
theorem fn__law_cut (X : K.In base) (G : base.Ns mainGlobals mg) (c : SaysX chk dfs ini "_law_wrong" K) : ∃ fd, FnG ⟨pwP, w, K, mg, base⟩ 2 ((atG "_law_cut") K) fd ["parts", "axioms", "number"] (κR "" "_law_cut") ∧ Binds K fd ["parts", "axioms", "number"] [] := by
  obtain ⟨fd, F⟩ := says_def c.1 29
  have F : FunD K "_law_cut" "_law_cut" (defArgs (top 60)) (defBody (top 60)) (defScope (top 60)) [] [] ((atG "_law_cut") K) fd := F
  have ck : ∀ i b, (chkl K)[i]? = some b → b = true := fun i b e => chk_at (says_chk c.1) i e
  obtain ⟨fd__law_merged, f__law_merged, b__law_merged⟩ := fn__law_merged (w := w) X G c
  obtain ⟨fd__law_up, f__law_up, b__law_up⟩ := fn__law_up (w := w) X G c
  refine ⟨fd, fn_rule F fit__law_cut (run_len tb__law_cut) (nd__law_cut (need_free X G (ck 12 _ rfl)) (need_fn X G (ck 30 _ rfl) f__law_merged (by decide) b__law_merged) (need_fn X G (ck 31 _ rfl) f__law_up (by decide) b__law_up) (need_free X G (ck 5 _ rfl)) (need_free X G (ck 7 _ rfl))) (run_pure tb__law_cut st__law_cut), F.bindsN fun _ _ _ _ _ _ us hl => match us, hl with | [_, _, _], _ => rfl⟩
theorem fn__law_are_pairs (X : K.In base) (G : base.Ns mainGlobals mg) (c : SaysX chk dfs ini "_law_wrong" K) : ∃ fd, FnG ⟨pwP, w, K, mg, base⟩ 2 ((atG "_law_are_pairs") K) fd ["value"] (κR "" "_law_are_pairs") ∧ Binds K fd ["value"] [] := by
  obtain ⟨fd, F⟩ := says_def c.1 30
  have F : FunD K "_law_are_pairs" "_law_are_pairs" (defArgs (top 61)) (defBody (top 61)) (defScope (top 61)) [] [] ((atG "_law_are_pairs") K) fd := F
  have ck : ∀ i b, (chkl K)[i]? = some b → b = true := fun i b e => chk_at (says_chk c.1) i e
  obtain ⟨fd__law_is_int, f__law_is_int, b__law_is_int⟩ := fn__law_is_int (w := w) X G c
  refine ⟨fd, fn_rule F fit__law_are_pairs (run_len tb__law_are_pairs) (nd__law_are_pairs (need_free X G (ck 0 _ rfl)) (need_isi X G (ck 32 _ rfl)) (need_free X G (ck 33 _ rfl)) (need_free X G (ck 14 _ rfl)) (need_fn X G (ck 34 _ rfl) f__law_is_int (by decide) b__law_is_int)) (run_pure tb__law_are_pairs st__law_are_pairs), F.bindsN fun _ _ _ _ _ _ us hl => match us, hl with | [_], _ => rfl⟩
theorem fn__law_meaning (X : K.In base) (G : base.Ns mainGlobals mg) (c : SaysX chk dfs ini "_law_wrong" K) : ∃ fd, FnG ⟨pwP, w, K, mg, base⟩ 2 ((atG "_law_meaning") K) fd ["switch", "terms", "number"] (κR "" "_law_meaning") ∧ Binds K fd ["switch", "terms", "number"] [] := by
  obtain ⟨fd, F⟩ := says_def c.1 31
  have F : FunD K "_law_meaning" "_law_meaning" (defArgs (top 62)) (defBody (top 62)) (defScope (top 62)) [] [] ((atG "_law_meaning") K) fd := F
  have ck : ∀ i b, (chkl K)[i]? = some b → b = true := fun i b e => chk_at (says_chk c.1) i e
  obtain ⟨fd__law_merged, f__law_merged, b__law_merged⟩ := fn__law_merged (w := w) X G c
  refine ⟨fd, fn_rule F fit__law_meaning (run_len tb__law_meaning) (nd__law_meaning (need_free X G (ck 8 _ rfl)) (need_fn X G (ck 30 _ rfl) f__law_merged (by decide) b__law_merged) (need_free X G (ck 12 _ rfl))) (run_pure tb__law_meaning st__law_meaning), F.bindsN fun _ _ _ _ _ _ us hl => match us, hl with | [_, _, _], _ => rfl⟩
theorem fn_are_terms (X : K.In base) (G : base.Ns mainGlobals mg) (c : SaysX chk dfs ini "_law_wrong" K) : ∃ fd, FnG ⟨pwP, w, K, mg, base⟩ 3 ((atG "are_terms") K) fd ["value"] (κR "" "are_terms") ∧ Binds K fd ["value"] [] := by
  obtain ⟨fd, F⟩ := says_def c.1 32
  have F : FunD K "are_terms" "are_terms" (defArgs (top 15)) (defBody (top 15)) (defScope (top 15)) [] [] ((atG "are_terms") K) fd := F
  have ck : ∀ i b, (chkl K)[i]? = some b → b = true := fun i b e => chk_at (says_chk c.1) i e
  obtain ⟨fd_is_integer, f_is_integer, b_is_integer⟩ := fn_is_integer (w := w) X G c
  obtain ⟨fd_is_literal, f_is_literal, b_is_literal⟩ := fn_is_literal (w := w) X G c
  refine ⟨fd, fn_rule F fit_are_terms (run_len tb_are_terms) (nd_are_terms (need_free X G (ck 0 _ rfl)) (need_isi X G (ck 32 _ rfl)) (need_free X G (ck 14 _ rfl)) (need_fn X G (ck 23 _ rfl) f_is_integer (by decide) b_is_integer) (need_fn X G (ck 35 _ rfl) f_is_literal (by decide) b_is_literal) (need_free X G (ck 3 _ rfl))) (run_pure tb_are_terms st_are_terms), F.bindsN fun _ _ _ _ _ _ us hl => match us, hl with | [_], _ => rfl⟩
theorem fn_cut_row (X : K.In base) (G : base.Ns mainGlobals mg) (c : SaysX chk dfs ini "_law_wrong" K) : ∃ fd, FnG ⟨pwP, w, K, mg, base⟩ 3 ((atG "cut_row") K) fd ["parts", "axioms", "number"] (κR "" "cut_row") ∧ Binds K fd ["parts", "axioms", "number"] [] := by
  obtain ⟨fd, F⟩ := says_def c.1 33
  have F : FunD K "cut_row" "cut_row" (defArgs (top 22)) (defBody (top 22)) (defScope (top 22)) [] [] ((atG "cut_row") K) fd := F
  have ck : ∀ i b, (chkl K)[i]? = some b → b = true := fun i b e => chk_at (says_chk c.1) i e
  obtain ⟨fd_added_rows, f_added_rows, b_added_rows⟩ := fn_added_rows (w := w) X G c
  obtain ⟨fd_saturated_row, f_saturated_row, b_saturated_row⟩ := fn_saturated_row (w := w) X G c
  obtain ⟨fd_divided_row, f_divided_row, b_divided_row⟩ := fn_divided_row (w := w) X G c
  refine ⟨fd, fn_rule F fit_cut_row (run_len tb_cut_row) (nd_cut_row (need_fn X G (ck 36 _ rfl) f_added_rows (by decide) b_added_rows) (need_fn X G (ck 37 _ rfl) f_saturated_row (by decide) b_saturated_row) (need_fn X G (ck 38 _ rfl) f_divided_row (by decide) b_divided_row)) (run_pure tb_cut_row st_cut_row), F.bindsN fun _ _ _ _ _ _ us hl => match us, hl with | [_, _, _], _ => rfl⟩
theorem fn_are_pairs (X : K.In base) (G : base.Ns mainGlobals mg) (c : SaysX chk dfs ini "_law_wrong" K) : ∃ fd, FnG ⟨pwP, w, K, mg, base⟩ 3 ((atG "are_pairs") K) fd ["value"] (κR "" "are_pairs") ∧ Binds K fd ["value"] [] := by
  obtain ⟨fd, F⟩ := says_def c.1 34
  have F : FunD K "are_pairs" "are_pairs" (defArgs (top 25)) (defBody (top 25)) (defScope (top 25)) [] [] ((atG "are_pairs") K) fd := F
  have ck : ∀ i b, (chkl K)[i]? = some b → b = true := fun i b e => chk_at (says_chk c.1) i e
  obtain ⟨fd_is_integer, f_is_integer, b_is_integer⟩ := fn_is_integer (w := w) X G c
  obtain ⟨fd_is_literal, f_is_literal, b_is_literal⟩ := fn_is_literal (w := w) X G c
  refine ⟨fd, fn_rule F fit_are_pairs (run_len tb_are_pairs) (nd_are_pairs (need_free X G (ck 0 _ rfl)) (need_isi X G (ck 32 _ rfl)) (need_free X G (ck 33 _ rfl)) (need_free X G (ck 14 _ rfl)) (need_fn X G (ck 23 _ rfl) f_is_integer (by decide) b_is_integer) (need_fn X G (ck 35 _ rfl) f_is_literal (by decide) b_is_literal)) (run_pure tb_are_pairs st_are_pairs), F.bindsN fun _ _ _ _ _ _ us hl => match us, hl with | [_], _ => rfl⟩
theorem fn_are_times (X : K.In base) (G : base.Ns mainGlobals mg) (c : SaysX chk dfs ini "_law_wrong" K) : ∃ fd, FnG ⟨pwP, w, K, mg, base⟩ 3 ((atG "are_times") K) fd ["value", "many"] (κR "" "are_times") ∧ Binds K fd ["value", "many"] [] := by
  obtain ⟨fd, F⟩ := says_def c.1 35
  have F : FunD K "are_times" "are_times" (defArgs (top 26)) (defBody (top 26)) (defScope (top 26)) [] [] ((atG "are_times") K) fd := F
  have ck : ∀ i b, (chkl K)[i]? = some b → b = true := fun i b e => chk_at (says_chk c.1) i e
  obtain ⟨fd_is_integer, f_is_integer, b_is_integer⟩ := fn_is_integer (w := w) X G c
  obtain ⟨fd_is_between, f_is_between, b_is_between⟩ := fn_is_between (w := w) X G c
  refine ⟨fd, fn_rule F fit_are_times (run_len tb_are_times) (nd_are_times (need_free X G (ck 0 _ rfl)) (need_isi X G (ck 32 _ rfl)) (need_free X G (ck 33 _ rfl)) (need_free X G (ck 14 _ rfl)) (need_fn X G (ck 23 _ rfl) f_is_integer (by decide) b_is_integer) (need_fn X G (ck 39 _ rfl) f_is_between (by decide) b_is_between)) (run_pure tb_are_times st_are_times), F.bindsN fun _ _ _ _ _ _ us hl => match us, hl with | [_, _], _ => rfl⟩
theorem fn_Checker___init__ (X : K.In base) (G : base.Ns mainGlobals mg) (c : SaysX chk dfs ini "_law_wrong" K) : ∃ fd, FnG ⟨pwP, w, K, mg, base⟩ 3 ((atM "Checker" "__init__") K) fd ["self", "rows"] (κR "Checker" "__init__") ∧ Binds K fd ["self", "rows"] [] := by
  obtain ⟨fd, F⟩ := says_def c.1 36
  have F : FunD K "__init__" "Checker.__init__" (defArgs (inC 37 0)) (defBody (inC 37 0)) (defScope (inC 37 0)) [] [] ((atM "Checker" "__init__") K) fd := F
  have ck : ∀ i b, (chkl K)[i]? = some b → b = true := fun i b e => chk_at (says_chk c.1) i e
  obtain ⟨fd_Rows_rows, f_Rows_rows, b_Rows_rows⟩ := fn_Rows_rows (w := w) X G c
  obtain ⟨fd_Rows_switches, f_Rows_switches, b_Rows_switches⟩ := fn_Rows_switches (w := w) X G c
  refine ⟨fd, fn_rule F fit_Checker___init__ (run_len tb_Checker___init__) (nd_Checker___init__ (need_fld X G (ck 13 _ rfl)) (need_free X G (ck 12 _ rfl)) (need_prp X G (ck 40 _ rfl) f_Rows_rows (by decide) b_Rows_rows) (need_fld X G (ck 41 _ rfl)) (need_prp X G (ck 42 _ rfl) f_Rows_switches (by decide) b_Rows_switches) (need_fld X G (ck 15 _ rfl))) (run_pure tb_Checker___init__ st_Checker___init__), F.bindsN fun _ _ _ _ _ _ us hl => match us, hl with | [_, _], _ => rfl⟩
theorem fn_Checker_over (X : K.In base) (G : base.Ns mainGlobals mg) (c : SaysX chk dfs ini "_law_wrong" K) : ∃ fd, FnG ⟨pwP, w, K, mg, base⟩ 3 ((atM "Checker" "over") K) fd ["self"] (κR "Checker" "over") ∧ Binds K fd ["self"] [] := by
  obtain ⟨fd, F⟩ := says_def c.1 37
  have F : FunD K "over" "Checker.over" (defArgs (inC 37 5)) (defBody (inC 37 5)) (defScope (inC 37 5)) [] [] ((atM "Checker" "over") K) fd := F
  have ck : ∀ i b, (chkl K)[i]? = some b → b = true := fun i b e => chk_at (says_chk c.1) i e
  obtain ⟨fd_Checker_is_live, f_Checker_is_live, b_Checker_is_live⟩ := fn_Checker_is_live (w := w) X G c
  obtain ⟨fd_is_false_row, f_is_false_row, b_is_false_row⟩ := fn_is_false_row (w := w) X G c
  refine ⟨fd, fn_rule F fit_Checker_over (run_len tb_Checker_over) (nd_Checker_over (need_free X G (ck 43 _ rfl)) (need_fld X G (ck 13 _ rfl)) (need_mth X G (ck 44 _ rfl) f_Checker_is_live (by decide) b_Checker_is_live) (need_fn X G (ck 45 _ rfl) f_is_false_row (by decide) b_is_false_row)) (run_pure tb_Checker_over st_Checker_over), F.bindsN fun _ _ _ _ _ _ us hl => match us, hl with | [_], _ => rfl⟩
theorem fn_Checker_can_set (X : K.In base) (G : base.Ns mainGlobals mg) (c : SaysX chk dfs ini "_law_wrong" K) : ∃ fd, FnG ⟨pwP, w, K, mg, base⟩ 3 ((atM "Checker" "can_set") K) fd ["self", "step"] (κR "Checker" "can_set") ∧ Binds K fd ["self", "step"] [] := by
  obtain ⟨fd, F⟩ := says_def c.1 38
  have F : FunD K "can_set" "Checker.can_set" (defArgs (inC 37 8)) (defBody (inC 37 8)) (defScope (inC 37 8)) [] [] ((atM "Checker" "can_set") K) fd := F
  have ck : ∀ i b, (chkl K)[i]? = some b → b = true := fun i b e => chk_at (says_chk c.1) i e
  obtain ⟨fd_is_literal, f_is_literal, b_is_literal⟩ := fn_is_literal (w := w) X G c
  obtain ⟨fd_Checker_is_live, f_Checker_is_live, b_Checker_is_live⟩ := fn_Checker_is_live (w := w) X G c
  refine ⟨fd, fn_rule F fit_Checker_can_set (run_len tb_Checker_can_set) (nd_Checker_can_set (need_free X G (ck 14 _ rfl)) (need_fn X G (ck 35 _ rfl) f_is_literal (by decide) b_is_literal) (need_free X G (ck 3 _ rfl)) (need_fld X G (ck 41 _ rfl)) (need_free X G (ck 43 _ rfl)) (need_fld X G (ck 13 _ rfl)) (need_mth X G (ck 44 _ rfl) f_Checker_is_live (by decide) b_Checker_is_live) (need_free X G (ck 46 _ rfl))) (run_pure tb_Checker_can_set st_Checker_can_set), F.bindsN fun _ _ _ _ _ _ us hl => match us, hl with | [_, _], _ => rfl⟩
theorem fn_Checker_can_drop (X : K.In base) (G : base.Ns mainGlobals mg) (c : SaysX chk dfs ini "_law_wrong" K) : ∃ fd, FnG ⟨pwP, w, K, mg, base⟩ 3 ((atM "Checker" "can_drop") K) fd ["self", "step"] (κR "Checker" "can_drop") ∧ Binds K fd ["self", "step"] [] := by
  obtain ⟨fd, F⟩ := says_def c.1 39
  have F : FunD K "can_drop" "Checker.can_drop" (defArgs (inC 37 9)) (defBody (inC 37 9)) (defScope (inC 37 9)) [] [] ((atM "Checker" "can_drop") K) fd := F
  have ck : ∀ i b, (chkl K)[i]? = some b → b = true := fun i b e => chk_at (says_chk c.1) i e
  obtain ⟨fd_is_between, f_is_between, b_is_between⟩ := fn_is_between (w := w) X G c
  obtain ⟨fd_Checker_is_live, f_Checker_is_live, b_Checker_is_live⟩ := fn_Checker_is_live (w := w) X G c
  refine ⟨fd, fn_rule F fit_Checker_can_drop (run_len tb_Checker_can_drop) (nd_Checker_can_drop (need_free X G (ck 14 _ rfl)) (need_fn X G (ck 39 _ rfl) f_is_between (by decide) b_is_between) (need_fld X G (ck 13 _ rfl)) (need_mth X G (ck 44 _ rfl) f_Checker_is_live (by decide) b_Checker_is_live)) (run_pure tb_Checker_can_drop st_Checker_can_drop), F.bindsN fun _ _ _ _ _ _ us hl => match us, hl with | [_, _], _ => rfl⟩
theorem fn_firsts_of (X : K.In base) (G : base.Ns mainGlobals mg) (c : SaysX chk dfs ini "_law_wrong" K) : ∃ fd, FnG ⟨pwP, w, K, mg, base⟩ 3 ((atG "firsts_of") K) fd ["rows", "paper"] (κR "" "firsts_of") ∧ Binds K fd ["rows", "paper"] [] := by
  obtain ⟨fd, F⟩ := says_def c.1 40
  have F : FunD K "firsts_of" "firsts_of" (defArgs (top 44)) (defBody (top 44)) (defScope (top 44)) [] [] ((atG "firsts_of") K) fd := F
  have ck : ∀ i b, (chkl K)[i]? = some b → b = true := fun i b e => chk_at (says_chk c.1) i e
  obtain ⟨fd_Rows_rows, f_Rows_rows, b_Rows_rows⟩ := fn_Rows_rows (w := w) X G c
  refine ⟨fd, fn_rule F fit_firsts_of (run_len tb_firsts_of) (nd_firsts_of (need_free X G (ck 14 _ rfl)) (need_prp X G (ck 40 _ rfl) f_Rows_rows (by decide) b_Rows_rows) (need_glob X G (ck 47 _ rfl)) (need_glob X G (ck 48 _ rfl)) (need_glob X G (ck 49 _ rfl)) (need_glob X G (ck 50 _ rfl))) (run_pure tb_firsts_of st_firsts_of), F.bindsN fun _ _ _ _ _ _ us hl => match us, hl with | [_, _], _ => rfl⟩
theorem fn_Renumbering___init__ (X : K.In base) (G : base.Ns mainGlobals mg) (c : SaysX chk dfs ini "_law_wrong" K) : ∃ fd, FnG ⟨pwP, w, K, mg, base⟩ 3 ((atM "Renumbering" "__init__") K) fd ["self", "rows"] (κR "Renumbering" "__init__") ∧ Binds K fd ["self", "rows"] [] := by
  obtain ⟨fd, F⟩ := says_def c.1 41
  have F : FunD K "__init__" "Renumbering.__init__" (defArgs (inC 46 0)) (defBody (inC 46 0)) (defScope (inC 46 0)) [] [] ((atM "Renumbering" "__init__") K) fd := F
  have ck : ∀ i b, (chkl K)[i]? = some b → b = true := fun i b e => chk_at (says_chk c.1) i e
  obtain ⟨fd_Rows_rows, f_Rows_rows, b_Rows_rows⟩ := fn_Rows_rows (w := w) X G c
  obtain ⟨fd_Rows_switches, f_Rows_switches, b_Rows_switches⟩ := fn_Rows_switches (w := w) X G c
  refine ⟨fd, fn_rule F fit_Renumbering___init__ (run_len tb_Renumbering___init__) (nd_Renumbering___init__ (need_fld X G (ck 17 _ rfl)) (need_free X G (ck 51 _ rfl)) (need_free X G (ck 16 _ rfl)) (need_free X G (ck 14 _ rfl)) (need_prp X G (ck 40 _ rfl) f_Rows_rows (by decide) b_Rows_rows) (need_fld X G (ck 18 _ rfl)) (need_fld X G (ck 20 _ rfl)) (need_prp X G (ck 42 _ rfl) f_Rows_switches (by decide) b_Rows_switches) (need_fld X G (ck 19 _ rfl))) (run_pure tb_Renumbering___init__ st_Renumbering___init__), F.bindsN fun _ _ _ _ _ _ us hl => match us, hl with | [_, _], _ => rfl⟩
theorem fn_Renumbering_step (X : K.In base) (G : base.Ns mainGlobals mg) (c : SaysX chk dfs ini "_law_wrong" K) : ∃ fd, FnG ⟨pwP, w, K, mg, base⟩ 3 ((atM "Renumbering" "step") K) fd ["self", "step"] (κR "Renumbering" "step") ∧ Binds K fd ["self", "step"] [] := by
  obtain ⟨fd, F⟩ := says_def c.1 42
  have F : FunD K "step" "Renumbering.step" (defArgs (inC 46 5)) (defBody (inC 46 5)) (defScope (inC 46 5)) [] [] ((atM "Renumbering" "step") K) fd := F
  have ck : ∀ i b, (chkl K)[i]? = some b → b = true := fun i b e => chk_at (says_chk c.1) i e
  obtain ⟨fd_Renumbering_terms, f_Renumbering_terms, b_Renumbering_terms⟩ := fn_Renumbering_terms (w := w) X G c
  obtain ⟨fd_Renumbering_literal, f_Renumbering_literal, b_Renumbering_literal⟩ := fn_Renumbering_literal (w := w) X G c
  refine ⟨fd, fn_rule F fit_Renumbering_step (run_len tb_Renumbering_step) (nd_Renumbering_step (need_glob X G (ck 47 _ rfl)) (need_free X G (ck 5 _ rfl)) (need_fld X G (ck 17 _ rfl)) (need_mth X G (ck 52 _ rfl) f_Renumbering_terms (by decide) b_Renumbering_terms) (need_glob X G (ck 48 _ rfl)) (need_glob X G (ck 49 _ rfl)) (need_mth X G (ck 28 _ rfl) f_Renumbering_literal (by decide) b_Renumbering_literal) (need_glob X G (ck 50 _ rfl))) (run_pure tb_Renumbering_step st_Renumbering_step), F.bindsN fun _ _ _ _ _ _ us hl => match us, hl with | [_, _], _ => rfl⟩
theorem fn__law_step (X : K.In base) (G : base.Ns mainGlobals mg) (c : SaysX chk dfs ini "_law_wrong" K) : ∃ fd, FnG ⟨pwP, w, K, mg, base⟩ 3 ((atG "_law_step") K) fd ["rows", "gone", "switches", "step"] (κR "" "_law_step") ∧ Binds K fd ["rows", "gone", "switches", "step"] [] := by
  obtain ⟨fd, F⟩ := says_def c.1 43
  have F : FunD K "_law_step" "_law_step" (defArgs (top 63)) (defBody (top 63)) (defScope (top 63)) [] [] ((atG "_law_step") K) fd := F
  have ck : ∀ i b, (chkl K)[i]? = some b → b = true := fun i b e => chk_at (says_chk c.1) i e
  obtain ⟨fd__law_are_pairs, f__law_are_pairs, b__law_are_pairs⟩ := fn__law_are_pairs (w := w) X G c
  obtain ⟨fd__law_is_int, f__law_is_int, b__law_is_int⟩ := fn__law_is_int (w := w) X G c
  obtain ⟨fd__law_cut, f__law_cut, b__law_cut⟩ := fn__law_cut (w := w) X G c
  obtain ⟨fd__law_meaning, f__law_meaning, b__law_meaning⟩ := fn__law_meaning (w := w) X G c
  refine ⟨fd, fn_rule F fit__law_step (run_len tb__law_step) (nd__law_step (need_free X G (ck 0 _ rfl)) (need_isi X G (ck 32 _ rfl)) (need_free X G (ck 14 _ rfl)) (need_isi X G (ck 53 _ rfl)) (need_fn X G (ck 54 _ rfl) f__law_are_pairs (by decide) b__law_are_pairs) (need_free X G (ck 46 _ rfl)) (need_fn X G (ck 34 _ rfl) f__law_is_int (by decide) b__law_is_int) (need_free X G (ck 3 _ rfl)) (need_fn X G (ck 55 _ rfl) f__law_cut (by decide) b__law_cut) (need_free X G (ck 4 _ rfl)) (need_free X G (ck 56 _ rfl)) (need_free X G (ck 8 _ rfl)) (need_fn X G (ck 57 _ rfl) f__law_meaning (by decide) b__law_meaning) (need_free X G (ck 43 _ rfl))) (run_pure tb__law_step st__law_step), F.bindsN fun _ _ _ _ _ _ us hl => match us, hl with | [_, _, _, _], _ => rfl⟩
theorem fn_is_row (X : K.In base) (G : base.Ns mainGlobals mg) (c : SaysX chk dfs ini "_law_wrong" K) : ∃ fd, FnG ⟨pwP, w, K, mg, base⟩ 4 ((atG "is_row") K) fd ["value"] (κR "" "is_row") ∧ Binds K fd ["value"] [] := by
  obtain ⟨fd, F⟩ := says_def c.1 44
  have F : FunD K "is_row" "is_row" (defArgs (top 16)) (defBody (top 16)) (defScope (top 16)) [] [] ((atG "is_row") K) fd := F
  have ck : ∀ i b, (chkl K)[i]? = some b → b = true := fun i b e => chk_at (says_chk c.1) i e
  obtain ⟨fd_are_terms, f_are_terms, b_are_terms⟩ := fn_are_terms (w := w) X G c
  obtain ⟨fd_is_integer, f_is_integer, b_is_integer⟩ := fn_is_integer (w := w) X G c
  refine ⟨fd, fn_rule F fit_is_row (run_len tb_is_row) (nd_is_row (need_free X G (ck 0 _ rfl)) (need_isi X G (ck 32 _ rfl)) (need_free X G (ck 14 _ rfl)) (need_fn X G (ck 58 _ rfl) f_are_terms (by decide) b_are_terms) (need_fn X G (ck 23 _ rfl) f_is_integer (by decide) b_is_integer)) (run_pure tb_is_row st_is_row), F.bindsN fun _ _ _ _ _ _ us hl => match us, hl with | [_], _ => rfl⟩
theorem fn_are_axioms (X : K.In base) (G : base.Ns mainGlobals mg) (c : SaysX chk dfs ini "_law_wrong" K) : ∃ fd, FnG ⟨pwP, w, K, mg, base⟩ 4 ((atG "are_axioms") K) fd ["value"] (κR "" "are_axioms") ∧ Binds K fd ["value"] [] := by
  obtain ⟨fd, F⟩ := says_def c.1 45
  have F : FunD K "are_axioms" "are_axioms" (defArgs (top 27)) (defBody (top 27)) (defScope (top 27)) [] [] ((atG "are_axioms") K) fd := F
  have ck : ∀ i b, (chkl K)[i]? = some b → b = true := fun i b e => chk_at (says_chk c.1) i e
  obtain ⟨fd_are_pairs, f_are_pairs, b_are_pairs⟩ := fn_are_pairs (w := w) X G c
  refine ⟨fd, fn_rule F fit_are_axioms (run_len tb_are_axioms) (nd_are_axioms (need_fn X G (ck 59 _ rfl) f_are_pairs (by decide) b_are_pairs) (need_free X G (ck 33 _ rfl))) (run_pure tb_are_axioms st_are_axioms), F.bindsN fun _ _ _ _ _ _ us hl => match us, hl with | [_], _ => rfl⟩
theorem fn_Checker_can_mean (X : K.In base) (G : base.Ns mainGlobals mg) (c : SaysX chk dfs ini "_law_wrong" K) : ∃ fd, FnG ⟨pwP, w, K, mg, base⟩ 4 ((atM "Checker" "can_mean") K) fd ["self", "step"] (κR "Checker" "can_mean") ∧ Binds K fd ["self", "step"] [] := by
  obtain ⟨fd, F⟩ := says_def c.1 46
  have F : FunD K "can_mean" "Checker.can_mean" (defArgs (inC 37 7)) (defBody (inC 37 7)) (defScope (inC 37 7)) [] [] ((atM "Checker" "can_mean") K) fd := F
  have ck : ∀ i b, (chkl K)[i]? = some b → b = true := fun i b e => chk_at (says_chk c.1) i e
  obtain ⟨fd_are_terms, f_are_terms, b_are_terms⟩ := fn_are_terms (w := w) X G c
  obtain ⟨fd_is_between, f_is_between, b_is_between⟩ := fn_is_between (w := w) X G c
  obtain ⟨fd_total_of, f_total_of, b_total_of⟩ := fn_total_of (w := w) X G c
  refine ⟨fd, fn_rule F fit_Checker_can_mean (run_len tb_Checker_can_mean) (nd_Checker_can_mean (need_free X G (ck 14 _ rfl)) (need_fn X G (ck 58 _ rfl) f_are_terms (by decide) b_are_terms) (need_free X G (ck 3 _ rfl)) (need_fld X G (ck 41 _ rfl)) (need_fn X G (ck 39 _ rfl) f_is_between (by decide) b_is_between) (need_fn X G (ck 27 _ rfl) f_total_of (by decide) b_total_of)) (run_pure tb_Checker_can_mean st_Checker_can_mean), F.bindsN fun _ _ _ _ _ _ us hl => match us, hl with | [_, _], _ => rfl⟩
theorem fn_needed_by (X : K.In base) (G : base.Ns mainGlobals mg) (c : SaysX chk dfs ini "_law_wrong" K) : ∃ fd, FnG ⟨pwP, w, K, mg, base⟩ 4 ((atG "needed_by") K) fd ["rows", "paper", "over"] (κR "" "needed_by") ∧ Binds K fd ["rows", "paper", "over"] [] := by
  obtain ⟨fd, F⟩ := says_def c.1 47
  have F : FunD K "needed_by" "needed_by" (defArgs (top 45)) (defBody (top 45)) (defScope (top 45)) [] [] ((atG "needed_by") K) fd := F
  have ck : ∀ i b, (chkl K)[i]? = some b → b = true := fun i b e => chk_at (says_chk c.1) i e
  obtain ⟨fd_firsts_of, f_firsts_of, b_firsts_of⟩ := fn_firsts_of (w := w) X G c
  obtain ⟨fd_Rows_switches, f_Rows_switches, b_Rows_switches⟩ := fn_Rows_switches (w := w) X G c
  obtain ⟨fd_Rows_rows, f_Rows_rows, b_Rows_rows⟩ := fn_Rows_rows (w := w) X G c
  refine ⟨fd, fn_rule F fit_needed_by (run_len tb_needed_by) (nd_needed_by (need_fn X G (ck 60 _ rfl) f_firsts_of (by decide) b_firsts_of) (need_free X G (ck 16 _ rfl)) (need_free X G (ck 14 _ rfl)) (need_prp X G (ck 42 _ rfl) f_Rows_switches (by decide) b_Rows_switches) (need_glob X G (ck 48 _ rfl)) (need_glob X G (ck 47 _ rfl)) (need_free X G (ck 3 _ rfl)) (need_glob X G (ck 49 _ rfl)) (need_prp X G (ck 40 _ rfl) f_Rows_rows (by decide) b_Rows_rows)) (run_pure tb_needed_by st_needed_by), F.bindsN fun _ _ _ _ _ _ us hl => match us, hl with | [_, _, _], _ => rfl⟩
theorem fn__law_gone_through (X : K.In base) (G : base.Ns mainGlobals mg) (c : SaysX chk dfs ini "_law_wrong" K) : ∃ fd, FnG ⟨pwP, w, K, mg, base⟩ 4 ((atG "_law_gone_through") K) fd ["switches", "told", "steps"] (κR "" "_law_gone_through") ∧ Binds K fd ["switches", "told", "steps"] [] := by
  obtain ⟨fd, F⟩ := says_def c.1 48
  have F : FunD K "_law_gone_through" "_law_gone_through" (defArgs (top 64)) (defBody (top 64)) (defScope (top 64)) [] [] ((atG "_law_gone_through") K) fd := F
  have ck : ∀ i b, (chkl K)[i]? = some b → b = true := fun i b e => chk_at (says_chk c.1) i e
  obtain ⟨fd__law_step, f__law_step, b__law_step⟩ := fn__law_step (w := w) X G c
  refine ⟨fd, fn_rule F fit__law_gone_through (run_len tb__law_gone_through) (nd__law_gone_through (need_free X G (ck 12 _ rfl)) (need_free X G (ck 43 _ rfl)) (need_fn X G (ck 61 _ rfl) f__law_step (by decide) b__law_step)) (run_pure tb__law_gone_through st__law_gone_through), F.bindsN fun _ _ _ _ _ _ us hl => match us, hl with | [_, _, _], _ => rfl⟩
theorem fn_Rows___init__ (X : K.In base) (G : base.Ns mainGlobals mg) (c : SaysX chk dfs ini "_law_wrong" K) : ∃ fd, FnG ⟨pwP, w, K, mg, base⟩ 5 ((atM "Rows" "__init__") K) fd ["self", "switches", "rows"] (κR "Rows" "__init__") ∧ Binds K fd ["self", "switches", "rows"] [] := by
  obtain ⟨fd, F⟩ := says_def c.1 49
  have F : FunD K "__init__" "Rows.__init__" (defArgs (inC 28 0)) (defBody (inC 28 0)) (defScope (inC 28 0)) [] [] ((atM "Rows" "__init__") K) fd := F
  have ck : ∀ i b, (chkl K)[i]? = some b → b = true := fun i b e => chk_at (says_chk c.1) i e
  obtain ⟨fd_is_between, f_is_between, b_is_between⟩ := fn_is_between (w := w) X G c
  obtain ⟨fd_is_row, f_is_row, b_is_row⟩ := fn_is_row (w := w) X G c
  refine ⟨fd, fn_rule F fit_Rows___init__ (run_len tb_Rows___init__) (nd_Rows___init__ (need_fn X G (ck 39 _ rfl) f_is_between (by decide) b_is_between) (need_glob X G (ck 24 _ rfl)) (need_free X G (ck 0 _ rfl)) (need_isi X G (ck 32 _ rfl)) (need_free X G (ck 14 _ rfl)) (need_glob X G (ck 62 _ rfl)) (need_fn X G (ck 63 _ rfl) f_is_row (by decide) b_is_row) (need_free X G (ck 3 _ rfl)) (need_fld X G (ck 9 _ rfl)) (need_fld X G (ck 10 _ rfl))) (run_pure tb_Rows___init__ st_Rows___init__), F.bindsN fun _ _ _ _ _ _ us hl => match us, hl with | [_, _, _], _ => rfl⟩
theorem fn_Checker_can_cut (X : K.In base) (G : base.Ns mainGlobals mg) (c : SaysX chk dfs ini "_law_wrong" K) : ∃ fd, FnG ⟨pwP, w, K, mg, base⟩ 5 ((atM "Checker" "can_cut") K) fd ["self", "step"] (κR "Checker" "can_cut") ∧ Binds K fd ["self", "step"] [] := by
  obtain ⟨fd, F⟩ := says_def c.1 50
  have F : FunD K "can_cut" "Checker.can_cut" (defArgs (inC 37 6)) (defBody (inC 37 6)) (defScope (inC 37 6)) [] [] ((atM "Checker" "can_cut") K) fd := F
  have ck : ∀ i b, (chkl K)[i]? = some b → b = true := fun i b e => chk_at (says_chk c.1) i e
  obtain ⟨fd_are_times, f_are_times, b_are_times⟩ := fn_are_times (w := w) X G c
  obtain ⟨fd_are_axioms, f_are_axioms, b_are_axioms⟩ := fn_are_axioms (w := w) X G c
  obtain ⟨fd_Checker_is_live, f_Checker_is_live, b_Checker_is_live⟩ := fn_Checker_is_live (w := w) X G c
  obtain ⟨fd_is_integer, f_is_integer, b_is_integer⟩ := fn_is_integer (w := w) X G c
  refine ⟨fd, fn_rule F fit_Checker_can_cut (run_len tb_Checker_can_cut) (nd_Checker_can_cut (need_free X G (ck 14 _ rfl)) (need_fn X G (ck 64 _ rfl) f_are_times (by decide) b_are_times) (need_fld X G (ck 13 _ rfl)) (need_fn X G (ck 65 _ rfl) f_are_axioms (by decide) b_are_axioms) (need_free X G (ck 33 _ rfl)) (need_mth X G (ck 44 _ rfl) f_Checker_is_live (by decide) b_Checker_is_live) (need_fn X G (ck 23 _ rfl) f_is_integer (by decide) b_is_integer) (need_free X G (ck 3 _ rfl)) (need_fld X G (ck 41 _ rfl))) (run_pure tb_Checker_can_cut st_Checker_can_cut), F.bindsN fun _ _ _ _ _ _ us hl => match us, hl with | [_, _], _ => rfl⟩
theorem fn_trimmed_by (X : K.In base) (G : base.Ns mainGlobals mg) (c : SaysX chk dfs ini "_law_wrong" K) : ∃ fd, FnG ⟨pwP, w, K, mg, base⟩ 5 ((atG "trimmed_by") K) fd ["rows", "paper", "over"] (κR "" "trimmed_by") ∧ Binds K fd ["rows", "paper", "over"] [] := by
  obtain ⟨fd, F⟩ := says_def c.1 51
  have F : FunD K "trimmed_by" "trimmed_by" (defArgs (top 47)) (defBody (top 47)) (defScope (top 47)) [] [] ((atG "trimmed_by") K) fd := F
  have ck : ∀ i b, (chkl K)[i]? = some b → b = true := fun i b e => chk_at (says_chk c.1) i e
  obtain ⟨fd_needed_by, f_needed_by, b_needed_by⟩ := fn_needed_by (w := w) X G c
  obtain ⟨fd_Renumbering___init__, f_Renumbering___init__, b_Renumbering___init__⟩ := fn_Renumbering___init__ (w := w) X G c
  obtain ⟨fd_Rows_switches, f_Rows_switches, b_Rows_switches⟩ := fn_Rows_switches (w := w) X G c
  obtain ⟨fd_firsts_of, f_firsts_of, b_firsts_of⟩ := fn_firsts_of (w := w) X G c
  obtain ⟨fd_Renumbering_step, f_Renumbering_step, b_Renumbering_step⟩ := fn_Renumbering_step (w := w) X G c
  obtain ⟨fd_Renumbering_keep_switch, f_Renumbering_keep_switch, b_Renumbering_keep_switch⟩ := fn_Renumbering_keep_switch (w := w) X G c
  obtain ⟨fd_Renumbering_keep, f_Renumbering_keep, b_Renumbering_keep⟩ := fn_Renumbering_keep (w := w) X G c
  obtain ⟨fd_Renumbering_has_row, f_Renumbering_has_row, b_Renumbering_has_row⟩ := fn_Renumbering_has_row (w := w) X G c
  refine ⟨fd, fn_rule F fit_trimmed_by (run_len tb_trimmed_by) (nd_trimmed_by (need_fn X G (ck 66 _ rfl) f_needed_by (by decide) b_needed_by) (need_mk X G (ck 67 _ rfl) f_Renumbering___init__ (by decide) b_Renumbering___init__) (need_prp X G (ck 42 _ rfl) f_Rows_switches (by decide) b_Rows_switches) (need_free X G (ck 43 _ rfl)) (need_free X G (ck 68 _ rfl)) (need_fn X G (ck 60 _ rfl) f_firsts_of (by decide) b_firsts_of) (need_free X G (ck 21 _ rfl)) (need_glob X G (ck 48 _ rfl)) (need_mth X G (ck 69 _ rfl) f_Renumbering_step (by decide) b_Renumbering_step) (need_mth X G (ck 70 _ rfl) f_Renumbering_keep_switch (by decide) b_Renumbering_keep_switch) (need_mth X G (ck 71 _ rfl) f_Renumbering_keep (by decide) b_Renumbering_keep) (need_glob X G (ck 50 _ rfl)) (need_mth X G (ck 72 _ rfl) f_Renumbering_has_row (by decide) b_Renumbering_has_row) (need_free X G (ck 5 _ rfl))) (run_pure tb_trimmed_by st_trimmed_by), F.bindsN fun _ _ _ _ _ _ us hl => match us, hl with | [_, _, _], _ => rfl⟩
theorem fn__law_bars (X : K.In base) (G : base.Ns mainGlobals mg) (c : SaysX chk dfs ini "_law_wrong" K) : ∃ fd, FnG ⟨pwP, w, K, mg, base⟩ 5 ((atG "_law_bars") K) fd ["switches", "told", "value"] (κR "" "_law_bars") ∧ Binds K fd ["switches", "told", "value"] [] := by
  obtain ⟨fd, F⟩ := says_def c.1 52
  have F : FunD K "_law_bars" "_law_bars" (defArgs (top 65)) (defBody (top 65)) (defScope (top 65)) [] [] ((atG "_law_bars") K) fd := F
  have ck : ∀ i b, (chkl K)[i]? = some b → b = true := fun i b e => chk_at (says_chk c.1) i e
  obtain ⟨fd__law_gone_through, f__law_gone_through, b__law_gone_through⟩ := fn__law_gone_through (w := w) X G c
  refine ⟨fd, fn_rule F fit__law_bars (run_len tb__law_bars) (nd__law_bars (need_free X G (ck 0 _ rfl)) (need_isi X G (ck 32 _ rfl)) (need_fn X G (ck 73 _ rfl) f__law_gone_through (by decide) b__law_gone_through) (need_free X G (ck 43 _ rfl)) (need_free X G (ck 8 _ rfl)) (need_free X G (ck 46 _ rfl))) (run_pure tb__law_bars st__law_bars), F.bindsN fun _ _ _ _ _ _ us hl => match us, hl with | [_, _, _], _ => rfl⟩
theorem fn_Checker_takes (X : K.In base) (G : base.Ns mainGlobals mg) (c : SaysX chk dfs ini "_law_wrong" K) : ∃ fd, FnG ⟨pwP, w, K, mg, base⟩ 6 ((atM "Checker" "takes") K) fd ["self", "step"] (κR "Checker" "takes") ∧ Binds K fd ["self", "step"] [] := by
  obtain ⟨fd, F⟩ := says_def c.1 53
  have F : FunD K "takes" "Checker.takes" (defArgs (inC 37 10)) (defBody (inC 37 10)) (defScope (inC 37 10)) [] [] ((atM "Checker" "takes") K) fd := F
  have ck : ∀ i b, (chkl K)[i]? = some b → b = true := fun i b e => chk_at (says_chk c.1) i e
  obtain ⟨fd_Checker_can_cut, f_Checker_can_cut, b_Checker_can_cut⟩ := fn_Checker_can_cut (w := w) X G c
  obtain ⟨fd_cut_row, f_cut_row, b_cut_row⟩ := fn_cut_row (w := w) X G c
  obtain ⟨fd_Checker_can_mean, f_Checker_can_mean, b_Checker_can_mean⟩ := fn_Checker_can_mean (w := w) X G c
  obtain ⟨fd_rows_of_meaning, f_rows_of_meaning, b_rows_of_meaning⟩ := fn_rows_of_meaning (w := w) X G c
  obtain ⟨fd_Checker_can_set, f_Checker_can_set, b_Checker_can_set⟩ := fn_Checker_can_set (w := w) X G c
  obtain ⟨fd_Checker_can_drop, f_Checker_can_drop, b_Checker_can_drop⟩ := fn_Checker_can_drop (w := w) X G c
  refine ⟨fd, fn_rule F fit_Checker_takes (run_len tb_Checker_takes) (nd_Checker_takes (need_free X G (ck 0 _ rfl)) (need_isi X G (ck 32 _ rfl)) (need_isi X G (ck 53 _ rfl)) (need_glob X G (ck 47 _ rfl)) (need_mth X G (ck 74 _ rfl) f_Checker_can_cut (by decide) b_Checker_can_cut) (need_fld X G (ck 13 _ rfl)) (need_fn X G (ck 75 _ rfl) f_cut_row (by decide) b_cut_row) (need_free X G (ck 12 _ rfl)) (need_glob X G (ck 48 _ rfl)) (need_mth X G (ck 76 _ rfl) f_Checker_can_mean (by decide) b_Checker_can_mean) (need_fld X G (ck 41 _ rfl)) (need_fn X G (ck 77 _ rfl) f_rows_of_meaning (by decide) b_rows_of_meaning) (need_glob X G (ck 49 _ rfl)) (need_mth X G (ck 78 _ rfl) f_Checker_can_set (by decide) b_Checker_can_set) (need_glob X G (ck 50 _ rfl)) (need_mth X G (ck 79 _ rfl) f_Checker_can_drop (by decide) b_Checker_can_drop) (need_fld X G (ck 15 _ rfl))) (run_pure tb_Checker_takes st_Checker_takes), F.bindsN fun _ _ _ _ _ _ us hl => match us, hl with | [_, _], _ => rfl⟩
theorem fn_first_wrong (X : K.In base) (G : base.Ns mainGlobals mg) (c : SaysX chk dfs ini "_law_wrong" K) : ∃ fd, FnG ⟨pwP, w, K, mg, base⟩ 7 ((atG "first_wrong") K) fd ["checker", "paper"] (κR "" "first_wrong") ∧ Binds K fd ["checker", "paper"] [] := by
  obtain ⟨fd, F⟩ := says_def c.1 54
  have F : FunD K "first_wrong" "first_wrong" (defArgs (top 38)) (defBody (top 38)) (defScope (top 38)) [] [] ((atG "first_wrong") K) fd := F
  have ck : ∀ i b, (chkl K)[i]? = some b → b = true := fun i b e => chk_at (says_chk c.1) i e
  obtain ⟨fd_Checker_takes, f_Checker_takes, b_Checker_takes⟩ := fn_Checker_takes (w := w) X G c
  refine ⟨fd, fn_rule F fit_first_wrong (run_len tb_first_wrong) (nd_first_wrong (need_free X G (ck 43 _ rfl)) (need_mth X G (ck 80 _ rfl) f_Checker_takes (by decide) b_Checker_takes)) (run_pure tb_first_wrong st_first_wrong), F.bindsN fun _ _ _ _ _ _ us hl => match us, hl with | [_, _], _ => rfl⟩
theorem fn_does_bar (X : K.In base) (G : base.Ns mainGlobals mg) (c : SaysX chk dfs ini "_law_wrong" K) : ∃ fd, FnG ⟨pwP, w, K, mg, base⟩ 8 ((atG "does_bar") K) fd ["rows", "value"] (κR "" "does_bar") ∧ Binds K fd ["rows", "value"] [] := by
  obtain ⟨fd, F⟩ := says_def c.1 55
  have F : FunD K "does_bar" "does_bar" (defArgs (top 39)) (defBody (top 39)) (defScope (top 39)) [] [] ((atG "does_bar") K) fd := F
  have ck : ∀ i b, (chkl K)[i]? = some b → b = true := fun i b e => chk_at (says_chk c.1) i e
  obtain ⟨fd_Checker___init__, f_Checker___init__, b_Checker___init__⟩ := fn_Checker___init__ (w := w) X G c
  obtain ⟨fd_first_wrong, f_first_wrong, b_first_wrong⟩ := fn_first_wrong (w := w) X G c
  obtain ⟨fd_Checker_over, f_Checker_over, b_Checker_over⟩ := fn_Checker_over (w := w) X G c
  refine ⟨fd, fn_rule F fit_does_bar (run_len tb_does_bar) (nd_does_bar (need_mk X G (ck 81 _ rfl) f_Checker___init__ (by decide) b_Checker___init__) (need_free X G (ck 0 _ rfl)) (need_isi X G (ck 32 _ rfl)) (need_fn X G (ck 82 _ rfl) f_first_wrong (by decide) b_first_wrong) (need_mth X G (ck 83 _ rfl) f_Checker_over (by decide) b_Checker_over)) (run_pure tb_does_bar st_does_bar), F.bindsN fun _ _ _ _ _ _ us hl => match us, hl with | [_, _], _ => rfl⟩
theorem fn_check_steps (X : K.In base) (G : base.Ns mainGlobals mg) (c : SaysX chk dfs ini "_law_wrong" K) : ∃ fd, FnG ⟨pwP, w, K, mg, base⟩ 8 ((atG "check_steps") K) fd ["rows", "paper"] (κR "" "check_steps") ∧ Binds K fd ["rows", "paper"] [] := by
  obtain ⟨fd, F⟩ := says_def c.1 56
  have F : FunD K "check_steps" "check_steps" (defArgs (top 41)) (defBody (top 41)) (defScope (top 41)) [] [] ((atG "check_steps") K) fd := F
  have ck : ∀ i b, (chkl K)[i]? = some b → b = true := fun i b e => chk_at (says_chk c.1) i e
  obtain ⟨fd_check_rows, f_check_rows, b_check_rows⟩ := fn_check_rows (w := w) X G c
  obtain ⟨fd_Checker___init__, f_Checker___init__, b_Checker___init__⟩ := fn_Checker___init__ (w := w) X G c
  obtain ⟨fd_first_wrong, f_first_wrong, b_first_wrong⟩ := fn_first_wrong (w := w) X G c
  refine ⟨fd, fn_rule F fit_check_steps (run_len tb_check_steps) (nd_check_steps (need_fn X G (ck 84 _ rfl) f_check_rows (by decide) b_check_rows) (need_mk X G (ck 81 _ rfl) f_Checker___init__ (by decide) b_Checker___init__) (need_free X G (ck 0 _ rfl)) (need_isi X G (ck 32 _ rfl)) (need_fn X G (ck 82 _ rfl) f_first_wrong (by decide) b_first_wrong) (need_rseB (D := "RefutedError") (qual := "RefutedError.__init__") (st := (inC 2 0)) X G (ck 85 _ rfl) (ck 86 _ rfl) (by decide) ini_b ini_s ini_a (ck 87 _ rfl) c.2 ini_t ini_p)) (run_pure tb_check_steps st_check_steps), F.bindsN fun _ _ _ _ _ _ us hl => match us, hl with | [_, _], _ => rfl⟩
theorem fn_bars (X : K.In base) (G : base.Ns mainGlobals mg) (c : SaysX chk dfs ini "_law_wrong" K) : ∃ fd, FnG ⟨pwP, w, K, mg, base⟩ 9 ((atG "bars") K) fd ["rows", "value"] (κR "" "bars") ∧ Binds K fd ["rows", "value"] [] := by
  obtain ⟨fd, F⟩ := says_def c.1 57
  have F : FunD K "bars" "bars" (defArgs (top 40)) (defBody (top 40)) (defScope (top 40)) [] [] ((atG "bars") K) fd := F
  have ck : ∀ i b, (chkl K)[i]? = some b → b = true := fun i b e => chk_at (says_chk c.1) i e
  obtain ⟨fd_check_rows, f_check_rows, b_check_rows⟩ := fn_check_rows (w := w) X G c
  obtain ⟨fd_does_bar, f_does_bar, b_does_bar⟩ := fn_does_bar (w := w) X G c
  refine ⟨fd, fn_rule F fit_bars (run_len tb_bars) (nd_bars (need_fn X G (ck 84 _ rfl) f_check_rows (by decide) b_check_rows) (need_fn X G (ck 88 _ rfl) f_does_bar (by decide) b_does_bar)) (run_pure tb_bars st_bars), F.bindsN fun _ _ _ _ _ _ us hl => match us, hl with | [_, _], _ => rfl⟩
theorem fn_rows_by (X : K.In base) (G : base.Ns mainGlobals mg) (c : SaysX chk dfs ini "_law_wrong" K) : ∃ fd, FnG ⟨pwP, w, K, mg, base⟩ 9 ((atG "rows_by") K) fd ["rows", "paper"] (κR "" "rows_by") ∧ Binds K fd ["rows", "paper"] [] := by
  obtain ⟨fd, F⟩ := says_def c.1 58
  have F : FunD K "rows_by" "rows_by" (defArgs (top 42)) (defBody (top 42)) (defScope (top 42)) [] [] ((atG "rows_by") K) fd := F
  have ck : ∀ i b, (chkl K)[i]? = some b → b = true := fun i b e => chk_at (says_chk c.1) i e
  obtain ⟨fd_Checker_all_rows, f_Checker_all_rows, b_Checker_all_rows⟩ := fn_Checker_all_rows (w := w) X G c
  obtain ⟨fd_check_steps, f_check_steps, b_check_steps⟩ := fn_check_steps (w := w) X G c
  refine ⟨fd, fn_rule F fit_rows_by (run_len tb_rows_by) (nd_rows_by (need_free X G (ck 5 _ rfl)) (need_mth X G (ck 89 _ rfl) f_Checker_all_rows (by decide) b_Checker_all_rows) (need_fn X G (ck 90 _ rfl) f_check_steps (by decide) b_check_steps)) (run_pure tb_rows_by st_rows_by), F.bindsN fun _ _ _ _ _ _ us hl => match us, hl with | [_, _], _ => rfl⟩
theorem fn_live_by (X : K.In base) (G : base.Ns mainGlobals mg) (c : SaysX chk dfs ini "_law_wrong" K) : ∃ fd, FnG ⟨pwP, w, K, mg, base⟩ 9 ((atG "live_by") K) fd ["rows", "paper"] (κR "" "live_by") ∧ Binds K fd ["rows", "paper"] [] := by
  obtain ⟨fd, F⟩ := says_def c.1 59
  have F : FunD K "live_by" "live_by" (defArgs (top 43)) (defBody (top 43)) (defScope (top 43)) [] [] ((atG "live_by") K) fd := F
  have ck : ∀ i b, (chkl K)[i]? = some b → b = true := fun i b e => chk_at (says_chk c.1) i e
  obtain ⟨fd_check_steps, f_check_steps, b_check_steps⟩ := fn_check_steps (w := w) X G c
  obtain ⟨fd_Checker_count, f_Checker_count, b_Checker_count⟩ := fn_Checker_count (w := w) X G c
  obtain ⟨fd_Checker_is_live, f_Checker_is_live, b_Checker_is_live⟩ := fn_Checker_is_live (w := w) X G c
  refine ⟨fd, fn_rule F fit_live_by (run_len tb_live_by) (nd_live_by (need_fn X G (ck 90 _ rfl) f_check_steps (by decide) b_check_steps) (need_free X G (ck 5 _ rfl)) (need_free X G (ck 16 _ rfl)) (need_mth X G (ck 91 _ rfl) f_Checker_count (by decide) b_Checker_count) (need_mth X G (ck 44 _ rfl) f_Checker_is_live (by decide) b_Checker_is_live)) (run_pure tb_live_by st_live_by), F.bindsN fun _ _ _ _ _ _ us hl => match us, hl with | [_, _], _ => rfl⟩
theorem fn_check_bar (X : K.In base) (G : base.Ns mainGlobals mg) (c : SaysX chk dfs ini "_law_wrong" K) : ∃ fd, FnG ⟨pwP, w, K, mg, base⟩ 9 ((atG "check_bar") K) fd ["rows", "paper"] (κR "" "check_bar") ∧ Binds K fd ["rows", "paper"] [] := by
  obtain ⟨fd, F⟩ := says_def c.1 60
  have F : FunD K "check_bar" "check_bar" (defArgs (top 48)) (defBody (top 48)) (defScope (top 48)) [] [] ((atG "check_bar") K) fd := F
  have ck : ∀ i b, (chkl K)[i]? = some b → b = true := fun i b e => chk_at (says_chk c.1) i e
  obtain ⟨fd_Checker_over, f_Checker_over, b_Checker_over⟩ := fn_Checker_over (w := w) X G c
  obtain ⟨fd_check_steps, f_check_steps, b_check_steps⟩ := fn_check_steps (w := w) X G c
  refine ⟨fd, fn_rule F fit_check_bar (run_len tb_check_bar) (nd_check_bar (need_mth X G (ck 83 _ rfl) f_Checker_over (by decide) b_Checker_over) (need_fn X G (ck 90 _ rfl) f_check_steps (by decide) b_check_steps)) (run_pure tb_check_bar st_check_bar), F.bindsN fun _ _ _ _ _ _ us hl => match us, hl with | [_, _], _ => rfl⟩
theorem fn_trimmed (X : K.In base) (G : base.Ns mainGlobals mg) (c : SaysX chk dfs ini "_law_wrong" K) : ∃ fd, FnG ⟨pwP, w, K, mg, base⟩ 10 ((atG "trimmed") K) fd ["rows", "paper"] (κR "" "trimmed") ∧ Binds K fd ["rows", "paper"] [] := by
  obtain ⟨fd, F⟩ := says_def c.1 61
  have F : FunD K "trimmed" "trimmed" (defArgs (top 49)) (defBody (top 49)) (defScope (top 49)) [] [] ((atG "trimmed") K) fd := F
  have ck : ∀ i b, (chkl K)[i]? = some b → b = true := fun i b e => chk_at (says_chk c.1) i e
  obtain ⟨fd_trimmed_by, f_trimmed_by, b_trimmed_by⟩ := fn_trimmed_by (w := w) X G c
  obtain ⟨fd_check_bar, f_check_bar, b_check_bar⟩ := fn_check_bar (w := w) X G c
  refine ⟨fd, fn_rule F fit_trimmed (run_len tb_trimmed) (nd_trimmed (need_fn X G (ck 92 _ rfl) f_trimmed_by (by decide) b_trimmed_by) (need_fn X G (ck 93 _ rfl) f_check_bar (by decide) b_check_bar)) (run_pure tb_trimmed st_trimmed), F.bindsN fun _ _ _ _ _ _ us hl => match us, hl with | [_, _], _ => rfl⟩
theorem fn_used_rows (X : K.In base) (G : base.Ns mainGlobals mg) (c : SaysX chk dfs ini "_law_wrong" K) : ∃ fd, FnG ⟨pwP, w, K, mg, base⟩ 10 ((atG "used_rows") K) fd ["rows", "paper"] (κR "" "used_rows") ∧ Binds K fd ["rows", "paper"] [] := by
  obtain ⟨fd, F⟩ := says_def c.1 62
  have F : FunD K "used_rows" "used_rows" (defArgs (top 50)) (defBody (top 50)) (defScope (top 50)) [] [] ((atG "used_rows") K) fd := F
  have ck : ∀ i b, (chkl K)[i]? = some b → b = true := fun i b e => chk_at (says_chk c.1) i e
  obtain ⟨fd_needed_by, f_needed_by, b_needed_by⟩ := fn_needed_by (w := w) X G c
  obtain ⟨fd_check_bar, f_check_bar, b_check_bar⟩ := fn_check_bar (w := w) X G c
  refine ⟨fd, fn_rule F fit_used_rows (run_len tb_used_rows) (nd_used_rows (need_free X G (ck 5 _ rfl)) (need_fn X G (ck 66 _ rfl) f_needed_by (by decide) b_needed_by) (need_fn X G (ck 93 _ rfl) f_check_bar (by decide) b_check_bar)) (run_pure tb_used_rows st_used_rows), F.bindsN fun _ _ _ _ _ _ us hl => match us, hl with | [_, _], _ => rfl⟩
theorem fn__law_wrong (X : K.In base) (G : base.Ns mainGlobals mg) (c : SaysX chk dfs ini "_law_wrong" K) : ∃ fd, FnG ⟨pwP, w, K, mg, base⟩ 12 ((atG "_law_wrong") K) fd ["rows", "paper"] (κR "" "_law_wrong") ∧ Binds K fd ["rows", "paper"] [] := by
  obtain ⟨fd, F⟩ := says_def c.1 63
  have F : FunD K "_law_wrong" "_law_wrong" (defArgs (top 66)) (defBody (top 66)) (defScope (top 66)) [] [] ((atG "_law_wrong") K) fd := F
  have ck : ∀ i b, (chkl K)[i]? = some b → b = true := fun i b e => chk_at (says_chk c.1) i e
  obtain ⟨fd_rows_by, f_rows_by, b_rows_by⟩ := fn_rows_by (w := w) X G c
  refine ⟨fd, fn_ruleL F (codeAtB_ok F (ck 111 _ rfl)) fit__law_wrong (run_len tb__law_wrong) (nd__law_wrong (hrd__law_heard X G c (ck 94 _ rfl) (by decide)) (need_low (need_fn X G (ck 95 _ rfl) f_rows_by (by decide) b_rows_by)) (need_free X G (ck 0 _ rfl)) (need_ise X G (ck 96 _ rfl)) (need_xv X G (ck 97 _ rfl))) (run_pure tb__law_wrong st__law_wrong), F.bindsN fun _ _ _ _ _ _ us hl => match us, hl with | [_, _], _ => rfl⟩
theorem fn__law_right (X : K.In base) (G : base.Ns mainGlobals mg) (c : SaysX chk dfs ini "_law_wrong" K) : ∃ fd, FnG ⟨pwP, w, K, mg, base⟩ 13 ((atG "_law_right") K) fd ["pot"] ct__law_right ∧ Binds K fd ["pot"] [] := by
  obtain ⟨fd, F⟩ := says_def c.1 64
  have F : FunD K "_law_right" "_law_right" (defArgs (top 67)) (defBody (top 67)) (defScope (top 67)) [] [] ((atG "_law_right") K) fd := F
  have ck : ∀ i b, (chkl K)[i]? = some b → b = true := fun i b e => chk_at (says_chk c.1) i e
  obtain ⟨fd__law_some, f__law_some, b__law_some⟩ := fn__law_some (w := w) X G c
  obtain ⟨fd__law_merged, f__law_merged, b__law_merged⟩ := fn__law_merged (w := w) X G c
  obtain ⟨fd_Rows___init__, f_Rows___init__, b_Rows___init__⟩ := fn_Rows___init__ (w := w) X G c
  obtain ⟨fd__law_wrong, f__law_wrong, b__law_wrong⟩ := fn__law_wrong (w := w) X G c
  obtain ⟨fd_live_by, f_live_by, b_live_by⟩ := fn_live_by (w := w) X G c
  obtain ⟨fd_rows_by, f_rows_by, b_rows_by⟩ := fn_rows_by (w := w) X G c
  obtain ⟨fd__law_meaning, f__law_meaning, b__law_meaning⟩ := fn__law_meaning (w := w) X G c
  obtain ⟨fd_bars, f_bars, b_bars⟩ := fn_bars (w := w) X G c
  obtain ⟨fd__law_gone_through, f__law_gone_through, b__law_gone_through⟩ := fn__law_gone_through (w := w) X G c
  obtain ⟨fd_Rows_rows, f_Rows_rows, b_Rows_rows⟩ := fn_Rows_rows (w := w) X G c
  obtain ⟨fd__law_bars, f__law_bars, b__law_bars⟩ := fn__law_bars (w := w) X G c
  obtain ⟨fd_trimmed, f_trimmed, b_trimmed⟩ := fn_trimmed (w := w) X G c
  obtain ⟨fd_used_rows, f_used_rows, b_used_rows⟩ := fn_used_rows (w := w) X G c
  refine ⟨fd, fn_rule F fit__law_right len__law_right (nd__law_right (need_fn X G (ck 98 _ rfl) f__law_some (by decide) b__law_some) (need_fn X G (ck 30 _ rfl) f__law_merged (by decide) b__law_merged) (need_mk X G (ck 99 _ rfl) f_Rows___init__ (by decide) b_Rows___init__) (need_fn X G (ck 100 _ rfl) f__law_wrong (by decide) b__law_wrong) (need_fn X G (ck 101 _ rfl) f_live_by (by decide) b_live_by) (need_fn X G (ck 95 _ rfl) f_rows_by (by decide) b_rows_by) (need_free X G (ck 102 _ rfl)) (need_free X G (ck 5 _ rfl)) (need_fn X G (ck 57 _ rfl) f__law_meaning (by decide) b__law_meaning) (need_fn X G (ck 103 _ rfl) f_bars (by decide) b_bars) (need_fn X G (ck 73 _ rfl) f__law_gone_through (by decide) b__law_gone_through) (need_prp X G (ck 40 _ rfl) f_Rows_rows (by decide) b_Rows_rows) (need_fn X G (ck 104 _ rfl) f__law_bars (by decide) b__law_bars) (need_fn X G (ck 105 _ rfl) f_trimmed (by decide) b_trimmed) (need_fn X G (ck 106 _ rfl) f_used_rows (by decide) b_used_rows)) pure__law_right, F.bindsN fun _ _ _ _ _ _ us hl => match us, hl with | [_], _ => rfl⟩
theorem fn_law (X : K.In base) (G : base.Ns mainGlobals mg) (c : SaysX chk dfs ini "_law_wrong" K) : ∃ fd, FunD K "law" "law" (defArgs (top 68)) (defBody (top 68)) (defScope (top 68)) [] [] ((atG "law") K) fd ∧ FnG ⟨pwP, w, K, mg, base⟩ 14 ((atG "law") K) fd ["script"] ct_law ∧ Binds K fd ["script"] [] := by
  obtain ⟨fd, F⟩ := says_def c.1 65
  have F : FunD K "law" "law" (defArgs (top 68)) (defBody (top 68)) (defScope (top 68)) [] [] ((atG "law") K) fd := F
  have ck : ∀ i b, (chkl K)[i]? = some b → b = true := fun i b e => chk_at (says_chk c.1) i e
  obtain ⟨fd__law_cells, f__law_cells, b__law_cells⟩ := fn__law_cells (w := w) X G c
  obtain ⟨fd__law_pot, f__law_pot, b__law_pot⟩ := fn__law_pot (w := w) X G c
  obtain ⟨fd__law_right, f__law_right, b__law_right⟩ := fn__law_right (w := w) X G c
  refine ⟨fd, F, fn_rule F fit_law len_law (nd_law (need_fn X G (ck 107 _ rfl) f__law_cells (by decide) b__law_cells) (need_fn X G (ck 108 _ rfl) f__law_pot (by decide) b__law_pot) (need_free X G (ck 33 _ rfl)) (need_free X G (ck 16 _ rfl)) (need_fn X G (ck 109 _ rfl) f__law_right (by decide) b__law_right)) pure_law, F.bindsN fun _ _ _ _ _ _ us hl => match us, hl with | [_], _ => rfl⟩
end
abbrev hk : PySem.W.Hook := hookX asL chk dfs ini "_law_wrong"
theorem ob_eq (s : PySem.W.SharedT) : ob s = hk.obs s.abs := obsXG_eq (HandSHeadRun.getT_eq s)
theorem run (w : World) : HandSHeadRun.RunEq R (PySem.W.view R.prog [68]) hk ob 100000 loose w := fun os => run0 w os
end K18
open PySem PySem.W PySem.Calls PyProof.Rows
set_option maxRecDepth 100000 in
set_option maxHeartbeats 0 in
theorem PySem.Challenge.cw_yesorrefuted_k18_papers_with_meanings_an_holds : PySem.Challenge.rw_yesorrefuted_k18_papers_with_meanings_an.Holds := by
  w_on; o_law
  refine HandSHeadRun.head_any (r := K18.R) (q := view K18.R.prog [68]) (H := K18.hk) (ob := K18.ob) (M := 100000) (loose := K18.loose) (d := HandSHeadRun.topDef K18.R.prog 68) (kwd := []) K18.ob_eq
    (by kernel_rfl) (fun s => by kernel_rfl) K18.run (by kernel_rfl) (by kernel_rfl) (by kernel_rfl) (by rfl) (by first | assumption | decide +kernel) (by decide +kernel) ⟨rfl, rfl, rfl, rfl, rfl, by decide +kernel⟩ ?hw ?hc
  case hw => w_witness2
  case hc =>
    refine TL.walk_endT (l := PySem.Challenge.rw_yesorrefuted_k18_papers_with_meanings_an) (n := 63) (k := 14) (x := "script") rfl (by decide) (by kernel_rfl) ⟨rfl, by decide, by decide⟩ ?F
    intro w mg fa h Y G hmg0
    obtain ⟨K, KX, c, cc, T, h1, h2, h3, h4⟩ := Y
    have hmg : mg ("law" : PySem.Str) = some (.ref fa) := (show (HandSHeadRun.topDef K18.R.prog 68).name = ("law" : PySem.Str) from by kernel_rfl) ▸ hmg0
    have e := hmg.symm.trans (He.glo_ok KX G (TL.chk_at (TL.says_chk c.1) 110 rfl))
    cases e
    obtain ⟨fd, F⟩ := TL.says_def c.1 65
    obtain ⟨fd0, F0, f0, b0⟩ := K18.fn_law (w := w) KX G c
    cases TL.funD_fd F F0
    refine ⟨K, fd, K18.ct_law, cc, T, "_law_wrong", KX, h3, h2, h4, h1, fun s u => TL.bind_one F0 (fun _ _ _ _ _ _ us hl => match us, hl with | [_], _ => rfl) s u, K18.law_true T, fun base X2 G2 => ?_⟩
    obtain ⟨fd1, F1, f1, b1⟩ := K18.fn_law (w := w) X2 G2 c
    cases TL.funD_fd F0 F1
    exact f1
